import PyProof.Rows.All
import Wide.All
import OpenK.AllK
import Wide.FinOn
import HandS.ForMost
import HandS.Walk
import HandS.IterVal
import KE.GoesNew
import HandS.Strs
import HandS.TupMul
import HandS.IsInst
import HandS.Deep
import HandS.Flow
import HandS.Defaults
import PySem.Challenge.RW_patchlots_k81_whole_next_ones_asked
import HandS.Conv
set_option Elab.async false
set_option linter.all false
section
set_option Elab.async false
set_option maxRecDepth 100000
set_option maxHeartbeats 2000000
/-! Keys that are pairs (a tuple of ints, an int): a kind of keys of my own for the library's dicts. -/
namespace NK
open PySem
open PySem.Sem (wp)
abbrev NKey := List Int × Int
section
variable (prog : Program) (w : World)
def IsNKey (h : Heap) (k : NKey) (a : Addr) : Prop :=
  ∃ o items n b t, h.get? a = some o ∧ o.cls = .type "tuple" ∧ o.data = .seq items n ∧ items.toList = [.ref b, .int k.2 t] ∧ IsTupleKey (intKind prog w) h k.1 b
end
def nhash (k : NKey) : Int := reduceHash (Builtin.Tuple.tupleHashOf [reduceHash (Builtin.Tuple.tupleHashOf (k.1.map hashInt)), hashInt k.2])
section
variable {prog : Program} {w : World} {A : Around} {E : Value → Shared → Prop} {s : Shared}
theorem IsNKey.typeIs {k : NKey} {a : Addr} (x : IsNKey prog w s.heap k a) : s.TypeIs (.ref a) "tuple" := let ⟨o, _, _, _, _, ho, hc, _⟩ := x; ⟨o, ho, hc⟩
theorem IsNKey.inj {h : Heap} {a : Addr} {x y : NKey} (hx : IsNKey prog w h x a) (hy : IsNKey prog w h y a) : x = y := by
  obtain ⟨o, items, n, b, t, ho, _, hd, hi, hb⟩ := hx
  obtain ⟨o', items', n', b', t', ho', _, hd', hi', hb'⟩ := hy
  obtain rfl : o = o' := Option.some.inj (ho.symm.trans ho')
  rw [hd] at hd'
  injection hd' with h1 _
  subst h1
  rw [hi] at hi'
  injection hi' with e1 e2
  injection e1 with e1
  subst e1
  injection e2 with e2 _
  injection e2 with e2 _
  have e3 : x.1 = y.1 := hb.inj hb'
  exact Prod.ext e3 e2
theorem IsNKey.keeps {h h' : Heap} {k : NKey} {a d : Addr} {o : Obj} {es ep} (x : IsNKey prog w h k a) (ho : h.get? d = some o) (hd : o.data = .dict es ep) (hs : Heap.SameBut d h h') : IsNKey prog w h' k a := by
  obtain ⟨o', items, n, b, t, ho', hc, hd', hi, hb⟩ := x
  have hne : a ≠ d := by
    rintro rfl
    obtain rfl : o' = o := Option.some.inj (ho'.symm.trans ho)
    rw [hd] at hd'; exact nomatch hd'
  exact ⟨o', items, n, b, t, (hs.2 a hne).trans ho', hc, hd', hi, hb.keeps ho hd hs⟩

theorem pyHash_n {k : NKey} {a : Addr} {Q : Int → Shared → Prop} (hu : A.units + 2 < cLine) (hk : IsNKey prog w s.heap k a) (h : Q (nhash k) { s with toks := s.toks + (k.1.length + 3) }) :
    wpAny (model prog w) A (pyHash (.ref a)) Q E s := by
  have hT := hk.typeIs
  obtain ⟨o, items, n, b, t, ho, _, hd, hi, hb⟩ := hk
  unfold pyHash
  first | unfold pyHashByItsType | skip
  refine wpAny_bind (wpAny_cRoomFor_or (.inr (Nat.lt_of_le_of_lt (Nat.le_add_right _ 2) hu)) ?_)
  refine wpAny_bind (wpAny_specialOf hT F.slot_tuple_hash.lookup ?_)
  show wpAny _ _ (if (some (Value.builtin "tuple.__hash__") == some Value.none) = true then _ else _) Q E s
  rw [if_neg (by rw [beq_builtin_none]; exact Bool.false_ne_true)]
  refine wpAny_bind (wpAny_specialOf hT F.slot_tuple_hash.lookup ?_)
  show wpAny _ _ (callSpecialIfBoundUnlessNone? (.ref a) "__hash__" _ >>= _) Q E s
  refine wpAny_bind (wpAny_callSpecialIfBoundUnlessNone?_slot hT F.slot_tuple_hash (wpAny_call_entry F.slot_tuple_hash hT F.entry_tuple_hash ?_ (F.args_tuple_hash_1 _)))
  show wpAny _ _ (Builtin.Tuple.tupleItemsOf (.ref a) >>= _) _ _ s
  refine wpAny_bind (wpAny_tupleItemsOf ho hd ?_)
  refine wpAny_bind ?_
  rw [← Array.forIn_toList, hi]
  simp only [List.forIn_cons, List.forIn_nil]
  have h1 : (intKind prog w).is k.2 (.int k.2 t) = true := by show Value.isInt k.2 (.int k.2 t) = true; simp [Value.isInt]
  refine wpAny_bind (wpAny_bind (wpAny_pyHash_tuple (knd := intKind prog w) (by show A.units + 1 < cLine; omega) hb ?_))
  refine wpAny_pure ?_
  show wpAny _ _ (pyHash (.int k.2 t) >>= _ >>= _) _ _ _
  refine wpAny_bind (wpAny_bind ((intKind prog w).pyHash h1 ?_))
  refine wpAny_pure ?_
  refine wpAny_pure ?_
  show wpAny _ _ (retInt (Builtin.Tuple.tupleHashOf ((#[].push (tupleKeyHash (intKind prog w) k.1)).push ((intKind prog w).hash k.2)).toList)) _ _ _
  refine wpAny_ret_mkInt ?_
  have e : ((#[].push (tupleKeyHash (intKind prog w) k.1)).push ((intKind prog w).hash k.2)).toList = [reduceHash (Builtin.Tuple.tupleHashOf (k.1.map hashInt)), hashInt k.2] := rfl
  rw [e]
  generalize hg : Builtin.Tuple.tupleHashOf [reduceHash (Builtin.Tuple.tupleHashOf (k.1.map hashInt)), hashInt k.2] = g
  unfold nhash at h
  rw [hg] at h
  show wpAny _ _ (if (decide (-(2 : Int) ^ 63 ≤ g) && decide (g < 2 ^ 63)) = true then _ else _) Q E _
  unfold reduceHash at h
  by_cases hr : (decide (-(2 : Int) ^ 63 ≤ g) && decide (g < 2 ^ 63)) = true
  · rw [if_pos hr]
    rw [if_pos hr] at h
    exact wpAny_pure (by simpa [Nat.add_assoc] using h)
  · rw [if_neg hr]
    rw [if_neg hr] at h
    exact wpAny_bind (wpAny_rule (wpAny_pure (by simpa [Nat.add_assoc] using h)))

theorem eq_tree_n {x y : NKey} {a b : Addr} {P : Fin → Shared → Prop} (hu : A.units + 1 < cLine) (hx : IsNKey prog w s.heap x a) (hy : IsNKey prog w s.heap y b) (h : P (.done (.ret (.bool (decide (x = y))))) s) :
    wpAny (model prog w) A (Builtin.«tuple.__eq__» ⟨[.ref a, .ref b], []⟩) P E s := by
  have hTb := hy.typeIs
  obtain ⟨oa, xs, na, ba, ta, hoa, _, hda, hia, hba⟩ := hx
  obtain ⟨ob, ys, nb, bb, tb, hob, _, hdb, hib, hbb⟩ := hy
  have z1 : xs.size = 2 := by rw [← Array.length_toList, hia]; rfl
  have z2 : ys.size = 2 := by rw [← Array.length_toList, hib]; rfl
  show wpAny _ _ (isInstance (.ref b) (.type "tuple") >>= _) _ _ s
  refine wpAny_bind (wpAny_isInstance hTb isSubtype_tuple_tuple ?_)
  simp only [Bool.not_true, Bool.false_eq_true, if_false]
  refine wpAny_bind (wpAny_tupleItemsOf hoa hda ?_)
  refine wpAny_bind (wpAny_tupleItemsOf hob hdb ?_)
  refine wpAny_bind ?_
  rw [hia, hib]
  simp only [List.zip_cons_cons, List.zip_nil_right, List.forIn_cons, List.forIn_nil]
  have h1 : (intKind prog w).is x.2 (.int x.2 ta) = true := by show Value.isInt x.2 (.int x.2 ta) = true; simp [Value.isInt]
  have h2 : (intKind prog w).is y.2 (.int y.2 tb) = true := by show Value.isInt y.2 (.int y.2 tb) = true; simp [Value.isInt]
  have ext : ∀ {p q : NKey}, p.1 = q.1 → p.2 = q.2 → p = q := fun e1 e2 => Prod.ext e1 e2
  refine wpAny_bind (wpAny_bind (wpAny_eqBool_tuple (knd := intKind prog w) (by show A.units < cLine; omega) hba hbb ?_))
  by_cases k1 : x.1 = y.1
  · rw [decide_eq_true k1]
    simp only [Bool.not_true, Bool.false_eq_true, if_false]
    refine wpAny_pure ?_
    refine wpAny_bind (wpAny_bind ((intKind prog w).eqBool h1 h2 ?_))
    by_cases k2 : x.2 = y.2
    · rw [decide_eq_true k2]
      simp only [Bool.not_true, Bool.false_eq_true, if_false]
      refine wpAny_pure ?_
      refine wpAny_pure ?_
      rw [decide_eq_true (ext k1 k2)] at h
      refine wpAny_pure ?_
      rw [z1, z2]
      exact h
    · rw [decide_eq_false k2]
      simp only [Bool.not_false, if_true]
      rw [decide_eq_false (fun e => k2 (congrArg Prod.snd e))] at h
      exact wpAny_bind (wpAny_pure (wpAny_pure (wpAny_pure (wpAny_pure h))))
  · rw [decide_eq_false k1]
    simp only [Bool.not_false, if_true]
    rw [decide_eq_false (fun e => k1 (congrArg Prod.fst e))] at h
    exact wpAny_bind (wpAny_pure (wpAny_pure (wpAny_pure (wpAny_pure h))))

theorem eqBool_n {x y : NKey} {a b : Addr} {Q : Bool → Shared → Prop} (hu : A.units + 2 < cLine) (hx : IsNKey prog w s.heap x a) (hy : IsNKey prog w s.heap y b) (h : Q (decide (x = y)) s) :
    wpAny (model prog w) A (eqBool (.ref a) (.ref b)) Q E s := by
  unfold eqBool
  try with_reducible refine wpAny_holding ?_
  show wpAny _ _ (if (Value.ref a == Value.ref b) = true then _ else _) Q E s
  by_cases hab : (Value.ref a == Value.ref b) = true
  · rw [if_pos hab]
    have e : a = b := by have := eq_of_beq hab; injection this
    subst e
    obtain rfl := hx.inj hy
    exact wpAny_bind (wpAny_rule (wpAny_pure (by simpa using h)))
  · rw [if_neg hab]
    exact wpAny_bind (wpAny_richCompare_same_room (op := .Eq) hx.typeIs hy.typeIs F.slot_tuple_eq
      (wpAny_call_entry F.slot_tuple_eq hx.typeIs F.entry_tuple_eq (eq_tree_n (by show A.units + 1 + 1 < cLine; omega) hx hy ⟨_, rfl, (fun e => nomatch e), wpAny_truthy_bool h⟩) (F.args_tuple_eq_2 _ _)) (by omega))

theorem quiet_t {n : Nat} {ks : List Int} {a : Addr} {Q : Bool → Shared → Prop} (hk : IsTupleKey (intKind prog w) s.heap ks a) (h : Q true s) : wpAny (model prog w) A (eqIsQuiet (n + 1) (.ref a)) Q E s := by
  have hT := hk.typeIs
  obtain ⟨o, items, n, ho, _, hd, hi⟩ := hk
  unfold eqIsQuiet
  refine wpAny_bind (wpAny_specialOf hT F.slot_tuple_eq.lookup ?_)
  show wpAny _ _ (isInstance (.ref a) (.type "tuple") >>= _) _ _ s
  refine wpAny_bind (wpAny_isInstance hT isSubtype_tuple_tuple ?_)
  simp only [Bool.not_true, Bool.false_eq_true, if_false]
  refine wpAny_bind (wpAny_seqItems ho hd ?_)
  refine wpAny_bind ?_
  show wpAny _ _ (forIn items _ _) _ _ s
  rw [← Array.forIn_toList]
  refine wpAny_forIn_list _ (fun rest r s' => r.1 = none ∧ s' = s ∧ ∀ v ∈ rest, carriedByValue v = true) _ ?_ ?_ _ _ ⟨rfl, rfl, hi.byValue⟩
  · rintro v rest r s' ⟨hr, rfl, hall⟩
    rw [eqIsQuiet_byValue _ (hall v List.mem_cons_self)]
    refine wpAny_bind (wpAny_pure ?_)
    simp only [Bool.not_true, Bool.false_eq_true, if_false]
    exact wpAny_pure ⟨rfl, rfl, fun u hu' => hall u (List.mem_cons_of_mem _ hu')⟩
  · rintro ⟨r1, r2⟩ s' ⟨hr, rfl, _⟩
    simp only at hr
    subst hr
    exact wpAny_pure h

theorem quiet_n {k : NKey} {a : Addr} {Q : Bool → Shared → Prop} (hk : IsNKey prog w s.heap k a) (h : Q true s) : wpAny (model prog w) A (eqIsQuiet 8 (.ref a)) Q E s := by
  have hT := hk.typeIs
  obtain ⟨o, items, n, b, t, ho, _, hd, hi, hb⟩ := hk
  unfold eqIsQuiet
  refine wpAny_bind (wpAny_specialOf hT F.slot_tuple_eq.lookup ?_)
  show wpAny _ _ (isInstance (.ref a) (.type "tuple") >>= _) _ _ s
  refine wpAny_bind (wpAny_isInstance hT isSubtype_tuple_tuple ?_)
  simp only [Bool.not_true, Bool.false_eq_true, if_false]
  refine wpAny_bind (wpAny_seqItems ho hd ?_)
  refine wpAny_bind ?_
  show wpAny _ _ (forIn items _ _) _ _ s
  rw [← Array.forIn_toList, hi]
  simp only [List.forIn_cons, List.forIn_nil]
  refine wpAny_bind (wpAny_bind (quiet_t (n := 6) hb ?_))
  simp only [Bool.not_true, Bool.false_eq_true, if_false]
  refine wpAny_pure ?_
  refine wpAny_bind ?_
  rw [eqIsQuiet_byValue _ (show carriedByValue (.int k.2 t) = true from rfl)]
  refine wpAny_bind (wpAny_pure ?_)
  simp only [Bool.not_true, Bool.false_eq_true, if_false]
  exact wpAny_pure (wpAny_pure (wpAny_pure h))
end
def nkind (prog : Program) (w : World) : HeapKind prog w NKey where
  is := IsNKey prog w
  hash := nhash
  draws := fun k => k.1.length + 3
  room := fun A => A.units + 2 < cLine
  inj := fun hx hy => hx.inj hy
  keeps := fun x ho hd hs => x.keeps ho hd hs
  pyHash := fun hu hk h => pyHash_n hu hk h
  eqBool := fun hu hx hy h => eqBool_n hu hx hy h
  quiet := fun hk h => quiet_n hk h
end NK
end
section
set_option Elab.async false
set_option linter.all false
set_option maxRecDepth 100000
set_option maxHeartbeats 2000000
/-! A dict whose keys are pairs (a tuple of ints, an int), over the hand layer. -/
namespace NK
open PySem PySem.Spec PyProof.Rows L2
/-- an entry: the key, the address of its tuple, the value -/
abbrev NE := NKey × Addr × V
abbrev NRel : List NE → List (NKey × Addr × Value) → Prop := Paired fun p q => p.1 = q.1 ∧ p.2.1 = q.2.1 ∧ RelV p.2.2 q.2.2
def nent (x : NKey × Addr × Value) : DictEntry := ⟨nhash x.1, .ref x.2.1, x.2.2⟩
def NIs (a : Addr) (kvs : List NE) (h : Heap) : Prop :=
  kvs.length ≤ sizeLine ∧ (a == sysModules) = false ∧ ∃ xs, NRel kvs xs ∧ ∃ o es ep, h.get? a = some o ∧ o.ExactDict ∧ o.data = .dict es ep ∧ es.toList = xs.map nent ∧ (xs.map (·.1)).Nodup
/-- such a dict stands at a -/
def dN (a : Addr) (kvs : List NE) : HO := .ext (NIs a kvs)
theorem dN_ok {P : Program} {w : World} {H : Hp} {h : Heap} {a : Addr} {kvs : List NE} (x : NIs a kvs h) : ObjOk P w H h a (dN a kvs) := by
  obtain ⟨o, e⟩ : ∃ o, h.get? a = some o := by
    obtain ⟨_, _, _, _, o, _, _, e, _⟩ := x
    exact ⟨o, e⟩
  refine ⟨x, ⟨o, e⟩, fun h1 h2 y st => ?_⟩
  obtain ⟨y1, y2, xs, y3, o, es, ep, y4, y5⟩ := y
  exact ⟨y1, y2, xs, y3, o, es, ep, st o y4, y5⟩
theorem dN_is {P : Program} {w : World} {H : Hp} {h : Heap} {a : Addr} {kvs : List NE} (ok : HOk P w H h) (e : H a = some (dN a kvs)) : NIs a kvs h := (ok a _ e).1
/-- the tuple of a key stands at b -/
def NT (H : Hp) (k : NKey) (b : Addr) : Prop := ∃ c, H b = some (.tup [.ref c, .int k.2]) ∧ H c = some (.tup (k.1.map V.int))
/-- all keys' tuples stand -/
def NKs (H : Hp) (kvs : List NE) : Prop := ∀ x ∈ kvs, NT H x.1 x.2.1
theorem NT.mono {H H' : Hp} {k : NKey} {b : Addr} (t : NT H k b) (m : ∀ b xs, H b = some (.tup xs) → H' b = some (.tup xs)) : NT H' k b :=
  let ⟨c, h1, h2⟩ := t; ⟨c, m _ _ h1, m _ _ h2⟩
theorem NKs.mono {H H' : Hp} {kvs : List NE} (t : NKs H kvs) (m : ∀ b xs, H b = some (.tup xs) → H' b = some (.tup xs)) : NKs H' kvs := fun x hx => (t x hx).mono m
def valN (kvs : List NE) (k : NKey) : Option V := (kvs.find? fun x => decide (x.1 = k)).map (·.2.2)
def putN (kvs : List NE) (k : NKey) (b : Addr) (v : V) : List NE :=
  if (valN kvs k).isSome then kvs.map (fun x => if x.1 = k then (x.1, x.2.1, v) else x) else kvs ++ [(k, b, v)]
theorem valN_nil {k : NKey} : valN [] k = none := rfl
theorem valN_pos {p : NE} {r : List NE} {k : NKey} (e : p.1 = k) : valN (p :: r) k = some p.2.2 := by simp [valN, List.find?_cons, e]
theorem valN_neg {p : NE} {r : List NE} {k : NKey} (e : ¬ p.1 = k) : valN (p :: r) k = valN r k := by simp [valN, List.find?_cons, e]
theorem valN_map (k j : NKey) (v : V) : ∀ kvs : List NE, valN (kvs.map fun x => if x.1 = k then (x.1, x.2.1, v) else x) j = (valN kvs j).map fun x => if j = k then v else x
  | [] => rfl
  | p :: r => by
    rw [List.map_cons]
    by_cases e : p.1 = j
    · have e1 : (if p.1 = k then (p.1, p.2.1, v) else p).1 = j := by split <;> exact e
      rw [valN_pos e1, valN_pos e]
      by_cases q : p.1 = k
      · rw [if_pos q, Option.map_some, if_pos (e.symm.trans q)]
      · rw [if_neg q, Option.map_some, if_neg (fun z => q (e.trans z))]
    · have e1 : ¬ (if p.1 = k then (p.1, p.2.1, v) else p).1 = j := by split <;> exact e
      rw [valN_neg e1, valN_neg e, valN_map k j v r]
theorem valN_snoc (k j : NKey) (b : Addr) (v : V) : ∀ kvs : List NE, valN kvs k = none → valN (kvs ++ [(k, b, v)]) j = if j = k then some v else valN kvs j
  | [], _ => by
    show valN [(k, b, v)] j = _
    by_cases e : k = j
    · rw [valN_pos e, if_pos e.symm]
    · rw [valN_neg e, if_neg fun z => e z.symm]
  | p :: r, h => by
    by_cases q : p.1 = k
    · rw [valN_pos q] at h; cases h
    · rw [valN_neg q] at h
      show valN (p :: (r ++ [(k, b, v)])) j = _
      by_cases e : p.1 = j
      · rw [valN_pos e, valN_pos e, if_neg fun z => q (e.trans z)]
      · rw [valN_neg e, valN_neg e, valN_snoc k j b v r h]
theorem valN_put (kvs : List NE) (k j : NKey) (b : Addr) (v : V) : valN (putN kvs k b v) j = if j = k then some v else valN kvs j := by
  unfold putN
  by_cases h : (valN kvs k).isSome = true
  · rw [if_pos h, valN_map]
    by_cases e : j = k
    · subst e
      obtain ⟨x, hx⟩ := Option.isSome_iff_exists.mp h
      rw [hx, if_pos rfl, Option.map_some, if_pos rfl]
    · rw [if_neg e]
      cases valN kvs j with
      | none => rfl
      | some x => rw [Option.map_some, if_neg e]
  · rw [if_neg h]
    exact valN_snoc k j b v kvs (by simpa using h)
theorem putN_mem {kvs : List NE} {k : NKey} {b : Addr} {v : V} {x : NE} (hx : x ∈ putN kvs k b v) : (∃ y ∈ kvs, x.1 = y.1 ∧ x.2.1 = y.2.1) ∨ x = (k, b, v) := by
  unfold putN at hx
  split at hx
  · obtain ⟨y, hy, e⟩ := List.mem_map.mp hx
    refine .inl ⟨y, hy, ?_⟩
    rw [← e]
    split <;> exact ⟨rfl, rfl⟩
  · rcases List.mem_append.mp hx with h | h
    · exact .inl ⟨x, h, rfl, rfl⟩
    · exact .inr (List.mem_singleton.mp h)
theorem putN_len (kvs : List NE) (k : NKey) (b : Addr) (v : V) : (putN kvs k b v).length ≤ kvs.length + 1 := by
  unfold putN
  split
  · rw [List.length_map]; omega
  · rw [List.length_append]; exact Nat.le_refl _
/-- the keys of a dict -/
theorem putN_keys (kvs : List NE) (k : NKey) (b : Addr) (v : V) : (putN kvs k b v).map (·.1) = if (valN kvs k).isSome then kvs.map (·.1) else kvs.map (·.1) ++ [k] := by
  unfold putN
  by_cases h : (valN kvs k).isSome = true
  · rw [if_pos h, if_pos h, List.map_map]
    congr 1
    funext x
    show (if x.1 = k then (x.1, x.2.1, v) else x).1 = x.1
    split <;> rfl
  · rw [if_neg h, if_neg h, List.map_append]
    rfl
theorem valN_none_iff {kvs : List NE} {k : NKey} : valN kvs k = none ↔ k ∉ kvs.map (·.1) := by
  induction kvs with
  | nil => simp [valN_nil]
  | cons p r ih =>
    by_cases e : p.1 = k
    · rw [valN_pos e]
      simp [e]
    · rw [valN_neg e, ih]
      rw [List.map_cons, List.mem_cons, not_or]
      exact ⟨fun h => ⟨fun z => e z.symm, h⟩, fun h => h.2⟩
theorem putN_nodup {kvs : List NE} (h : (kvs.map (·.1)).Nodup) (k : NKey) (b : Addr) (v : V) : ((putN kvs k b v).map (·.1)).Nodup := by
  rw [putN_keys]
  by_cases q : (valN kvs k).isSome = true
  · rw [if_pos q]; exact h
  · rw [if_neg q]
    have n : valN kvs k = none := by simpa using q
    exact nd_snoc h (valN_none_iff.mp n)

theorem NRel.val {kvs : List NE} {xs : List (NKey × Addr × Value)} (r : NRel kvs xs) (k : NKey) : RelO (valN kvs k) ((atKey xs k).map (·.2)) := by
  induction r with
  | nil => exact True.intro
  | @cons p q ps qs h t ih =>
    obtain ⟨h1, _, h2⟩ := h
    by_cases e : p.1 = k
    · have e' : q.1 = k := h1.symm.trans e
      have b : atKey (q :: qs) k = some q.2 := by simp [atKey, List.find?_cons, e']
      rw [valN_pos e, b]; exact h2
    · have e' : ¬ q.1 = k := fun z => e (h1.trans z)
      have b : atKey (q :: qs) k = atKey qs k := by simp [atKey, List.find?_cons, e']
      rw [valN_neg e, b]; exact ih
theorem NRel.repl {kvs : List NE} {xs : List (NKey × Addr × Value)} (r : NRel kvs xs) (k : NKey) {y : V} {u : Value} (ry : RelV y u) :
    NRel (kvs.map fun x => if x.1 = k then (x.1, x.2.1, y) else x) (xs.map (putAt k u)) := by
  induction r with
  | nil => exact .nil
  | @cons p q ps qs h t ih =>
    rw [List.map_cons, List.map_cons]
    refine .cons ?_ ih
    obtain ⟨h1, h2, h3⟩ := h
    unfold putAt
    by_cases e : p.1 = k
    · rw [if_pos e, if_pos (h1.symm.trans e)]; exact ⟨h1, h2, ry⟩
    · rw [if_neg e, if_neg (fun z => e (h1.trans z))]; exact ⟨h1, h2, h3⟩
theorem NRel.put {kvs : List NE} {xs : List (NKey × Addr × Value)} (r : NRel kvs xs) (k : NKey) {b : Addr} {y : V} {u : Value} (ry : RelV y u) :
    NRel (putN kvs k b y) (storedH xs k b u) := by
  have e : (valN kvs k).isSome = (atKey xs k).isSome := by
    rw [(r.val k).isSome_eq, Option.isSome_map]
  unfold putN storedH
  rw [e]
  by_cases q : (atKey xs k).isSome = true
  · rw [if_pos q, if_pos q]; exact r.repl k ry
  · rw [if_neg q, if_neg q]; exact Paired.snoc r ⟨rfl, rfl, ry⟩
theorem ints_are {P : Program} {w : World} : ∀ {ks : List Int} {us : List Value}, Vals (ks.map V.int) us → ItemsAre (intKind P w) ks us
  | [], _, r => by rw [List.map_nil] at r; cases r; exact .nil
  | k :: ks, _, r => by
    rw [List.map_cons] at r
    cases r with
    | cons h t =>
      obtain ⟨u, rfl⟩ := h
      exact .cons (by show Value.isInt k (.int k u) = true; simp [Value.isInt]) (ints_are t)
section
variable {P : Program} {w : World} {H : Hp} {h : Heap} {a : Addr}
theorem nkey_of {k : NKey} {b : Addr} (ok : HOk P w H h) (t : NT H k b) : (nkind P w).is h k b := by
  obtain ⟨c, e1, e2⟩ := t
  obtain ⟨_, its, r, o, h1, h2, n, h3⟩ := (show ObjOk P w H h b (.tup [.ref c, .int k.2]) from ok b _ e1)
  obtain ⟨_, its', r', o', h1', h2', n', h3'⟩ := (show ObjOk P w H h c (.tup (k.1.map V.int)) from ok c _ e2)
  cases r with
  | cons r1 r =>
    cases r with
    | cons r2 r =>
      cases r
      cases r1
      obtain ⟨t, rfl⟩ := r2
      exact ⟨o, _, n, c, t, h1, h2, h3, rfl, o', its'.toArray, n', h1', h2', h3', by simpa using ints_are r'⟩
theorem nd_of {kvs : List NE} (ok : HOk P w H h) (e : H a = some (dN a kvs)) (ks : NKs H kvs) : kvs.length ≤ sizeLine ∧ (a == sysModules) = false ∧
    ∃ xs, NRel kvs xs ∧ h.DictOfH (nkind P w) a xs := by
  obtain ⟨z, y, xs, r, o, es, ep, h1, h2, h3, h4, h5⟩ := dN_is ok e
  refine ⟨z, y, xs, r, o, es, ep, h1, h2, h3, h4, fun x hx => ?_, h5⟩
  have all : ∀ {l : List NE} {m : List (NKey × Addr × Value)}, NRel l m → (∀ x ∈ l, NT H x.1 x.2.1) → ∀ x ∈ m, (nkind P w).is h x.1 x.2.1 := by
    intro l m q
    induction q with
    | nil => intro _ x hx; exact nomatch hx
    | @cons p q ps qs hq t ih =>
      intro hl x hx
      rcases List.mem_cons.mp hx with e | hx
      · subst e
        exact nkey_of ok (by rw [← hq.1, ← hq.2.1]; exact hl _ List.mem_cons_self)
      · exact ih (fun y hy => hl y (List.mem_cons_of_mem _ hy)) x hx
  exact all r ks x hx
end
/-- what the dict at a holds at the key whose tuple is y -/
def NGet (H : Hp) (a : Addr) (y : V) (r : Option V) : Prop := ∃ kvs k b, H a = some (dN a kvs) ∧ NKs H kvs ∧ y = .ref b ∧ NT H k b ∧ r = valN kvs k
def NPut (H : Hp) (a : Addr) (y v : V) (H' : Hp) : Prop := ∃ kvs k b, H a = some (dN a kvs) ∧ NKs H kvs ∧ y = .ref b ∧ NT H k b ∧ kvs.length < sizeLine ∧ H' = upd H a (dN a (putN kvs k b v))
section
variable {X : Cx} {pins : List (Addr × Obj)} {σ : L2.St} {H : Hp} {s : Shared} {a : Addr} {y v : V} {u r : Value} {o : Option V} {A : Around} {E : Value → Shared → Prop}
theorem n_getItem {Q : Value → Shared → Prop} (hu : A.units + 3 < cLine) (I : Inv X pins σ H s) (g : NGet H a y (some v)) (ry : RelV y u) (h : ∀ w' s', Inv X pins σ H s' → RelV v w' → Q w' s') :
    wpAny (model X.prog X.w) A (getItem (.ref a) u) Q E s := by
  obtain ⟨kvs, k, b, e, ks, ey, eb, l⟩ := g
  subst ey
  cases (show u = Value.ref b from ry)
  obtain ⟨z, hd, xs, rel, dd⟩ := nd_of I.hok e ks
  obtain ⟨w', hw, rw'⟩ := RelO.some_of (v := v) (o := (atKey xs k).map (·.2)) (by rw [l]; exact rel.val k)
  obtain ⟨p, hp, hp2⟩ := Option.map_eq_some_iff.mp hw
  refine wpAny_getItem_heap (knd := nkind X.prog X.w) (by show A.units + 1 + 2 < cLine; omega) (nkey_of I.hok eb) dd hp ?_
  rw [hp2]
  exact h w' _ (I.tok _) rw'
theorem n_in {Q : Value → Shared → Prop} (hu : A.units + 3 < cLine) (I : Inv X pins σ H s) (g : NGet H a y o) (ry : RelV y u) (h : ∀ s', Inv X pins σ H s' → Q (.bool o.isSome) s') :
    wpAny (model X.prog X.w) A (compareOp .In u (.ref a)) Q E s := by
  obtain ⟨kvs, k, b, e, ks, ey, eb, l⟩ := g
  subst ey
  cases (show u = Value.ref b from ry)
  obtain ⟨z, hd, xs, rel, dd⟩ := nd_of I.hok e ks
  refine wpAny_in_heap (knd := nkind X.prog X.w) (by show A.units + 1 + 2 < cLine; omega) (nkey_of I.hok eb) hd dd ?_
  have q := (rel.val k).isSome_eq
  rw [Option.isSome_map] at q
  rw [← q, ← l]
  exact h _ (I.tok _)
theorem n_notIn {Q : Value → Shared → Prop} (hu : A.units + 3 < cLine) (I : Inv X pins σ H s) (g : NGet H a y o) (ry : RelV y u) (h : ∀ s', Inv X pins σ H s' → Q (.bool (!o.isSome)) s') :
    wpAny (model X.prog X.w) A (compareOp .NotIn u (.ref a)) Q E s := by
  obtain ⟨kvs, k, b, e, ks, ey, eb, l⟩ := g
  subst ey
  cases (show u = Value.ref b from ry)
  obtain ⟨z, hd, xs, rel, dd⟩ := nd_of I.hok e ks
  refine wpAny_notIn_heap (knd := nkind X.prog X.w) (by show A.units + 1 + 2 < cLine; omega) (nkey_of I.hok eb) hd dd ?_
  have q := (rel.val k).isSome_eq
  rw [Option.isSome_map] at q
  rw [← q, ← l]
  exact h _ (I.tok _)
theorem n_setItem {H' : Hp} {Q : Unit → Shared → Prop} (hu : A.units + 3 < cLine) (I : Inv X pins σ H s) (g : NPut H a y v H') (ry : RelV y u) (rv : RelV v r) (h : ∀ s', Inv X pins σ H' s' → Q () s') :
    wpAny (model X.prog X.w) A (setItem (.ref a) u r) Q E s := by
  obtain ⟨kvs, k, b, e, ks, ey, eb, l, eH⟩ := g
  subst ey eH
  cases (show u = Value.ref b from ry)
  obtain ⟨z, hd, xs, rel, dd⟩ := nd_of I.hok e ks
  have hz : xs.length ≤ sizeLine := by rw [← Paired.length rel]; exact z
  have hl : (putN kvs k b v).length ≤ sizeLine := by have := putN_len kvs k b v; omega
  refine wpAny_setItem_heap (knd := nkind X.prog X.w) (hsz := hz) (by show A.units + 1 + 2 < cLine; omega) (nkey_of I.hok eb) dd fun h' dd' hs => h _ ?_
  obtain ⟨q, es, ep, hq, h2, h3, h4, _, h5⟩ := dd'
  exact d_write I (by rw [e]; exact True.intro) hs ⟨q, hq⟩ (dN_ok ⟨hl, hd, _, rel.put k rv, q, es, ep, hq, h2, h3, h4, h5⟩)
theorem nd_typeIs {kvs : List NE} (I : Inv X pins σ H s) (e : H a = some (dN a kvs)) : s.TypeIs (.ref a) "dict" := by
  obtain ⟨_, _, _, _, ob, _, _, h1, h2, _⟩ := dN_is I.hok e
  exact ⟨ob, h1, h2.1⟩
end
/-- d[y] -/
def tNGet (td ty : TE) : TE := fun σ H Q => td σ H fun x H1 => ty σ H1 fun y H2 => ∃ a v, x = .ref a ∧ NGet H2 a y (some v) ∧ Q v H2
def tNIn (ty td : TE) : TE := fun σ H Q => ty σ H fun y H1 => td σ H1 fun x H2 => ∃ a o, x = .ref a ∧ NGet H2 a y o ∧ Q (.bl o.isSome) H2
def tNNotIn (ty td : TE) : TE := fun σ H Q => ty σ H fun y H1 => td σ H1 fun x H2 => ∃ a o, x = .ref a ∧ NGet H2 a y o ∧ Q (.bl (!o.isSome)) H2
def sNPut (td ty tv : TE) : TS := fun D σ H => tv σ H fun v H1 => td σ H1 fun x H2 => ty σ H2 fun y H3 => ∃ a H4, x = .ref a ∧ NPut H3 a y v H4 ∧ D.nx σ H4
def tNNew : TE := fun _ H Q => ∀ p, H p = none → Q (.ref p) (upd H p (dN p []))
section
variable {X : Cx} {o i e value : Expr} {pos pos' tpos : Pos} {td ty tv : TE}
theorem pe_nget (hu : X.A.units + 3 < cLine) (ho : PE X o td) (hi : PE X i ty) (hs : NoSl i) : PE X (.Subscript o i pos) (tNGet td ty) := by
  refine ⟨fun pins s σ H Q I h => ?_⟩
  refine subD_of PySem.F.slot_dict_getitem.lookup hs (thn (ho.run pins s σ H _ I h) fun u s1 ⟨x, H1, I1, rx, q1⟩ => thn (hi.run pins s1 σ H1 _ I1 q1) fun iv s2 ⟨y, H2, I2, ry, a, v, ex, g, q2⟩ => ?_)
  subst ex
  obtain rfl : u = Value.ref a := rx
  obtain ⟨kvs, _, _, e, _⟩ := id g
  exact ⟨nd_typeIs I2 e, n_getItem hu I2 g ry fun w' s3 I3 rw' => ⟨v, H2, I3, rw', q2⟩⟩
theorem pc_nin (hu : X.A.units + 3 < cLine) (hi : PE X i ty) (ho : PE X o td) : PC X .In i o (tNIn ty td) := by
  refine ⟨fun pins s σ H Q I h => ?_⟩
  refine thn (hi.run pins s σ H _ I h) fun iv s1 ⟨y, H1, I1, ry, q1⟩ => thn (ho.run pins s1 σ H1 _ I1 q1) fun u s2 ⟨x, H2, I2, rx, a, ov, ex, g, q2⟩ => ?_
  subst ex
  obtain rfl : u = Value.ref a := rx
  exact n_in hu I2 g ry fun s3 I3 => ⟨.bl ov.isSome, H2, I3, rfl, q2⟩
theorem pc_nnotin (hu : X.A.units + 3 < cLine) (hi : PE X i ty) (ho : PE X o td) : PC X .NotIn i o (tNNotIn ty td) := by
  refine ⟨fun pins s σ H Q I h => ?_⟩
  refine thn (hi.run pins s σ H _ I h) fun iv s1 ⟨y, H1, I1, ry, q1⟩ => thn (ho.run pins s1 σ H1 _ I1 q1) fun u s2 ⟨x, H2, I2, rx, a, ov, ex, g, q2⟩ => ?_
  subst ex
  obtain rfl : u = Value.ref a := rx
  exact n_notIn hu I2 g ry fun s3 I3 => ⟨.bl (!ov.isSome), H2, I3, rfl, q2⟩
theorem ps_nput (hu : X.A.units + 3 < cLine) (ho : PE X o td) (hi : PE X i ty) (hv : PE X value tv) (hs : swapsWith value (some (.Subscript o i pos')) pos.line X.env = pure false) :
    PS X (.Assign [.Subscript o i pos'] value pos) (sNPut td ty tv) := by
  refine ⟨fun pins s σ H D I h => ?_⟩
  refine wpAny_Assign_Subscript (thn (hv.run pins s σ H _ I h) fun r s1 ⟨v, H1, I1, rv, q1⟩ => thn (ho.run pins s1 σ H1 _ I1 q1) fun u s2 ⟨x, H2, I2, rx, q2⟩ => thn (hi.run pins s2 σ H2 _ I2 q2) fun iv s3 ⟨y, H3, I3, ry, a, H4, ex, g, q3⟩ => ?_) hs
  subst ex
  obtain rfl : u = Value.ref a := rx
  exact n_setItem hu I3 g ry rv fun s4 I4 => ⟨σ, H4, I4, q3⟩
theorem pe_nnew : PE X (.Dict [] [] pos) tNNew := ⟨fun pins s σ H Q I h =>
  wpAny_Dict_empty ⟨.ref s.heap.objs.size, _, I.laid (a := s.heap.objs.size) (o := dN s.heap.objs.size []) (t' := s.toks) (fun _ _ q => Heap.get?_push_of_some _ q) (Nat.le_refl _)
    (dN_ok ⟨Nat.zero_le _, beq_eq_false_iff_ne.mpr (Ne.symm (Nat.ne_of_lt I.big)), [], .nil, _, #[], 0, Heap.get?_push_size _ rfl, ⟨rfl, rfl, rfl⟩, rfl, rfl, List.nodup_nil⟩), rfl, h _ (I.hok.fresh (Nat.le_refl _))⟩⟩
end
end NK
end
section
set_option Elab.async false
set_option linter.all false
set_option maxRecDepth 100000
set_option maxHeartbeats 2000000
/-! zip of a list or tuple and a list or tuple (also kept at a name), enumerate of a list or tuple: the library's GoesN as walks of the hand layer. -/
namespace ZG
open PySem PySem.Spec PyProof.Rows L2
section
variable (t : Bool)
/-- a list (false) or a tuple (true) of xs is to be read at a -/
def Sq (K : PySem.W.Frag) (H : Hp) (a : Addr) (xs : List V) : Prop := match t with
  | false => SqL K H a xs
  | true => SqT K H a xs
def ItAt (h : Heap) (it a : Addr) (i : Nat) : Prop := match t with
  | false => h.IsListIter it a i
  | true => h.IsTupleIter it a i
def SeqIs (h : Heap) (a : Addr) (items : Array Value) : Prop := match t with
  | false => h.IsList a items
  | true => h.IsTuple a items
def itObj (a : Addr) : Obj := match t with
  | false => { cls := .type "list_iterator", data := .fields #[.ref a, .int 0 0] }
  | true => { cls := .type "tuple_iterator", data := .fields #[.ref a, .int 0 0] }
end
theorem drawsG {prog : Program} {w : World} {A : Around} (t : Bool) (hh : A.handled = none) (it l : Addr) (hne : l ≠ it) (items : Array Value) :
    Draws prog w A it [it, l] items.size (fun i v => items[i]? = some v) (fun i h => ItAt t h it l i ∧ SeqIs t h l items) := by
  cases t with
  | false => exact Draws.list hh it l hne items
  | true => exact Draws.tuple hh it l hne items
theorem beginsG (t : Bool) (a : Addr) (items : Array Value) : Begins (.ref a) (itObj t a) (fun h => SeqIs t h a items) := by
  cases t with
  | false => exact begins_list a items
  | true => exact begins_tuple a items
theorem itAt0 {t : Bool} {h : Heap} {it a : Addr} (e : h.get? it = some (itObj t a)) : ItAt t h it a 0 := by
  cases t with
  | false => exact ⟨_, e, rfl, rfl⟩
  | true => exact ⟨_, e, rfl, rfl⟩
theorem itAt_obj {t : Bool} {h : Heap} {it a : Addr} {i : Nat} (e : ItAt t h it a i) : ∃ o vs, h.get? it = some o ∧ o.data = .fields vs := by
  cases t with
  | false => obtain ⟨o, e1, _, e2⟩ := e; exact ⟨o, _, e1, e2⟩
  | true => obtain ⟨o, e1, _, e2⟩ := e; exact ⟨o, _, e1, e2⟩
theorem itAt_at {t : Bool} {h h' : Heap} {it a : Addr} {i : Nat} (e : ItAt t h it a i) (k : ∀ o, h.get? it = some o → h'.get? it = some o) : ItAt t h' it a i := by
  cases t with
  | false => obtain ⟨o, e1, e2⟩ := e; exact ⟨o, k o e1, e2⟩
  | true => obtain ⟨o, e1, e2⟩ := e; exact ⟨o, k o e1, e2⟩
section
variable {X : Cx} {pins : List (Addr × Obj)} {σ : L2.St} {H : Hp} {s : Shared} {a : Addr} {xs ys : List V} {t : Bool}
theorem seq_of (I : Inv X pins σ H s) (h : Sq t X.K H a xs) : ∃ its : List Value, Vals xs its ∧ SeqIs t s.heap a its.toArray ∧ a < s.heap.objs.size := by
  cases t with
  | false =>
    obtain ⟨its, rv, p, _⟩ := I.list h
    exact ⟨its, rv, p.isList, p.lt⟩
  | true =>
    obtain ⟨its, rv, p, _⟩ := I.tuple h
    obtain ⟨o, ho, _⟩ := id p
    exact ⟨its, rv, p, Heap.lt_size ho⟩
theorem seq_inj (I : Inv X pins σ H s) (h : Sq t X.K H a xs) (h' : Sq t X.K H a ys) : xs = ys := by
  cases t with
  | false => exact I.list_inj h h'
  | true => exact I.tuple_inj h h'
end
theorem Sq.mono {t : Bool} {K : PySem.W.Frag} {H H' : Hp} {a : Addr} {xs : List V} (h : Sq t K H a xs) (e : Same H H') : Sq t K H' a xs := by
  cases t with
  | false => exact e.seq h
  | true =>
    rcases h with (h | ⟨o, h⟩) | h
    · exact .inl (.inl (e _ _ h))
    · exact .inl (.inr ⟨o, e _ _ h⟩)
    · exact .inr h

/-! ### zip -/
def ItZ (K : PySem.W.Frag) (t1 t2 : Bool) (a b : Addr) : It :=
  ⟨fun i H => ∃ (xs ys : List V) (x y : V), Sq t1 K H a xs ∧ Sq t2 K H b ys ∧ xs[i]? = some x ∧ ys[i]? = some y,
    fun i H v H' => ∃ T x y, v = .ref T ∧ H T = none ∧ H' = upd H T (.tup [x, y]) ∧ (∀ xs, Sq t1 K H a xs → xs[i]? = some x) ∧ ∀ ys, Sq t2 K H b ys → ys[i]? = some y,
    fun i H => ∃ xs ys : List V, Sq t1 K H a xs ∧ Sq t2 K H b ys ∧ i = min xs.length ys.length⟩
theorem walkZ {K : PySem.W.Frag} {t1 t2 : Bool} {a b : Addr} {xs ys : List V} {n : Nat} (hn : n = min xs.length ys.length) :
    Walk (ItZ K t1 t2 a b) n (fun H => Sq t1 K H a xs ∧ Sq t2 K H b ys) (YPair (fun i => xs[i]?) (fun i => ys[i]?)) := by
  refine ⟨fun i H hi q => ?_, fun H q => ⟨xs, ys, q.1, q.2, hn⟩, fun i H v H' hi q y => ?_⟩
  · have h1 : i < xs.length := by omega
    have h2 : i < ys.length := by omega
    exact ⟨xs, ys, xs[i], ys[i], q.1, q.2, List.getElem?_eq_getElem h1, List.getElem?_eq_getElem h2⟩
  · obtain ⟨T, x, y, e1, e2, e3, f1, f2⟩ := y
    exact ⟨T, x, y, e1, e2, e3, f1 xs q.1, f2 ys q.2⟩
/-- what the five objects of a zip are at turn i -/
def ZAt (t1 t2 : Bool) (a b z TI TO i1 i2 : Addr) (i : Nat) (h : Heap) : Prop :=
  IsZip h z TI TO .none ∧ IsTupOf2 h TI (.ref i1) (.ref i2) ∧ (∃ x y, IsTupOf2 h TO x y) ∧ ItAt t1 h i1 a i ∧ ItAt t2 h i2 b i
theorem turnZ {P : Program} {w : World} {K : PySem.W.Frag} {elts : List Expr} {kk : Nat} {tpos : Pos} {t1 t2 : Bool} {a b z TI TO i1 i2 : Addr} (S : ZipSep2 z TI TO i1 i2 [i1, a] [i2, b]) (n1 : a ≠ i1) (n2 : b ≠ i2) :
    Turn P w K (.Tuple elts kk tpos) (ItZ K t1 t2 a b) [z, TI, TO, i1, i2] z (ZAt t1 t2 a b z TI TO i1 i2) where
  mem := by simp
  obj := fun i h st c hc => by
    obtain ⟨hz, hTI, ⟨x, y, hTO⟩, h1, h2⟩ := st
    obtain ⟨o1, v1, e1, d1⟩ := itAt_obj h1
    obtain ⟨o2, v2, e2, d2⟩ := itAt_obj h2
    simp only [List.mem_cons, List.not_mem_nil, or_false] at hc
    rcases hc with rfl | rfl | rfl | rfl | rfl
    · exact ⟨_, hz, fun v q => nomatch q⟩
    · exact ⟨_, hTI, fun v q => nomatch q⟩
    · exact ⟨_, hTO, fun v q => nomatch q⟩
    · exact ⟨o1, e1, fun v q => by rw [d1] at q; cases q⟩
    · exact ⟨o2, e2, fun v q => by rw [d2] at q; cases q⟩
  keep := fun i h h' st k => by
    obtain ⟨hz, hTI, ⟨x, y, hTO⟩, h1, h2⟩ := st
    exact ⟨k z (by simp) _ hz, k TI (by simp) _ hTI, ⟨x, y, k TO (by simp) _ hTO⟩, itAt_at h1 fun o q => k i1 (by simp) o q, itAt_at h2 fun o q => k i2 (by simp) o q⟩
  item := by
    intro X hP hw hK hc i pins s σ H E I hf st hg
    subst hP hw hK
    obtain ⟨xs, ys, x, y, hqx, hqy, hx, hy⟩ := hg
    obtain ⟨its, rv, p, _⟩ := seq_of I hqx
    obtain ⟨its2, rv2, p2, _⟩ := seq_of I hqy
    obtain ⟨u, hu, ru⟩ := rv.get hx
    obtain ⟨u2, hu2, ru2⟩ := rv2.get hy
    obtain ⟨hz, hTI, hTO, h1, h2⟩ := st
    have hh : X.A.in1.handled = none := I.ok.hd hc
    have W := GoesN.zip2 (elts := elts) (x1 := kk) (pos := tpos) S (drawsG (prog := X.prog) (w := X.w) (A := X.A.in1) t1 hh i1 a n1 its.toArray) (drawsG t2 hh i2 b n2 its2.toArray)
    have hi : i < min its.toArray.size its2.toArray.size := by
      have l1 := (List.getElem?_eq_some_iff.mp hu).1
      have l2 := (List.getElem?_eq_some_iff.mp hu2).1
      rw [List.size_toArray, List.size_toArray]
      omega
    refine W.goes i s _ E hi ⟨hz, hTI, hTO, ⟨h1, p⟩, ⟨h2, p2⟩⟩ fun v h' tk hY st' hk htk => ?_
    obtain ⟨T, a1, a2, rfl, hT, q1, q2, hT2⟩ := hY
    obtain rfl : a1 = u := Option.some.inj ((by simpa using q1.symm : some a1 = its[i]?).trans hu)
    obtain rfl : a2 = u2 := Option.some.inj ((by simpa using q2.symm : some a2 = its2[i]?).trans hu2)
    obtain ⟨hz', hTI', hTO', ⟨h1', _⟩, ⟨h2', _⟩⟩ := st'
    have new : ObjOk X.prog X.w (upd H T (.tup [x, y])) h' T (.tup [x, y]) :=
      ⟨by show 2 ≤ sizeLine; decide, [a1, a2], .cons ru (.cons ru2 .nil), hT2⟩
    have I1 := I.turnedNew (t' := tk) (ch := [z, TI, TO, i1, i2]) (h' := h') (fun c o hb q => hk c o (fun hm => hb (by
      simp only [List.mem_cons, List.not_mem_nil, or_false] at hm ⊢
      rcases hm with e | e | e | e <;> simp [e])) q) hf hT new
    refine ⟨.ref T, _, I1, rfl, ⟨T, x, y, rfl, I.hok.fresh hT, rfl, fun l hl => by rw [seq_inj I hl hqx]; exact hx, fun l hl => by rw [seq_inj I hl hqy]; exact hy⟩, ⟨hz', hTI', hTO', h1', h2'⟩, fun c hcm => ?_⟩
    have hlt : c < s.heap.objs.size := by
      obtain ⟨x0, y0, hTO0⟩ := hTO
      obtain ⟨o1, v1, e1, _⟩ := itAt_obj h1
      obtain ⟨o2, v2, e2, _⟩ := itAt_obj h2
      simp only [List.mem_cons, List.not_mem_nil, or_false] at hcm
      rcases hcm with rfl | rfl | rfl | rfl | rfl
      · exact Heap.lt_size hz
      · exact Heap.lt_size hTI
      · exact Heap.lt_size hTO0
      · exact Heap.lt_size e1
      · exact Heap.lt_size e2
    rw [upd_ne (Nat.ne_of_lt (Nat.lt_of_lt_of_le hlt hT))]
    exact (hf c hcm).1
  done := by
    intro X hP hw hK hc i pins s σ H E I hf st hg
    subst hP hw hK
    obtain ⟨xs, ys, hqx, hqy, hend⟩ := hg
    obtain ⟨its, rv, p, _⟩ := seq_of I hqx
    obtain ⟨its2, rv2, p2, _⟩ := seq_of I hqy
    obtain ⟨hz, hTI, hTO, h1, h2⟩ := st
    have hh : X.A.in1.handled = none := I.ok.hd hc
    have W := GoesN.zip2 (elts := elts) (x1 := kk) (pos := tpos) S (drawsG (prog := X.prog) (w := X.w) (A := X.A.in1) t1 hh i1 a n1 its.toArray) (drawsG t2 hh i2 b n2 its2.toArray)
    have l1 := rv.length
    have l2 := rv2.length
    have hi : i = min its.toArray.size its2.toArray.size := by
      rw [List.size_toArray, List.size_toArray]
      omega
    refine W.stops s (fun s1 => Inv X pins σ H s1) E (hi ▸ ⟨hz, hTI, hTO, ⟨h1, p⟩, ⟨h2, p2⟩⟩) fun h' tk hk htk => ?_
    exact I.turnedL (t' := tk) (ch := [z, TI, TO, i1, i2]) (fun c o hb q => hk c o (fun hm => hb (by
      simp only [List.mem_cons, List.not_mem_nil, or_false] at hm ⊢
      rcases hm with e | e | e | e <;> simp [e])) q) hf
  self := fun A i s Q E st h => wpAny_pyIter_zip st.1 h

theorem sepZ {N a b : Addr} (ha : a < N) (hb : b < N) : ZipSep2 (N + 4) (N + 2) (N + 3) N (N + 1) [N, a] [N + 1, b] :=
  zip_sep2 (fun c hc => by rw [List.mem_singleton.mp hc]; exact ha) (fun c hc => by rw [List.mem_singleton.mp hc]; exact hb)
theorem five {N c : Addr} (h : c ∈ [N + 4, N + 2, N + 3, N, N + 1]) : N ≤ c := by
  simp only [List.mem_cons, List.not_mem_nil, or_false] at h
  rcases h with e | e | e | e | e <;> rw [e] <;> first | exact Nat.le_add_right _ _ | exact Nat.le_refl _
def iZipG (K : PySem.W.Frag) (t1 t2 : Bool) (ta : TA) : TI := fun σ H R => ta σ H fun vs H1 => ∃ a b xs ys, vs = [.ref a, .ref b] ∧ Sq t1 K H1 a xs ∧ Sq t2 K H1 b ys ∧ R (ItZ K t1 t2 a b) H1
theorem pi_zipG {X : Cx} (t1 t2 : Bool) {e e2 : Expr} {ta : TA} {p pos tpos : Pos} {elts : List Expr} {kk : Nat} (hg : Gl X "zip") (hm : X.mg "zip" = none) (ha : PA X [e, e2] ta)
    (hs : starEach [e, e2] X.env = (false, eval e X.env) :: starEach [e2] X.env := by rfl) (hpl : (backTo pos (starEach [e2] X.env)).any (·.1) = false := by rfl) :
    PI X (.Tuple elts kk tpos) (.Call (.Name "zip" p) [e, e2] [] pos) (iZipG X.K t1 t2 ta) := by
  refine ⟨fun pins s σ H R I h => ?_⟩
  refine Call_ (ld_blt I hg hm PyProof.Rows.boot_zip (PyProof.Rows.callWith_type1 (thn (ha.run pos pins s σ H _ I h) fun us s1 ⟨vs, H1, I1, r1, q1⟩ => ?_) hs hpl))
  obtain ⟨a, b, xs, ys, ex, hqx, hqy, q⟩ := q1
  subst ex
  obtain ⟨u1, u2, rfl, r1, r2⟩ := vals2 r1
  cases r1
  cases r2
  obtain ⟨its, rv, p1, la⟩ := seq_of I1 hqx
  obtain ⟨its2, rv2, p2, lb⟩ := seq_of I1 hqy
  refine zip_begins2 (beginsG t1 a its.toArray) (beginsG t2 b its2.toArray) p1 p2 fun h' hz hTI hTO g1 g2 hsz hk => wpAny_pyIter_zip hz ?_
  have I2 : Inv X pins σ H1 { s1 with heap := h' } := I1.kept (t' := s1.toks) hk
  exact ⟨s1.heap.objs.size + 4, [s1.heap.objs.size + 4, s1.heap.objs.size + 2, s1.heap.objs.size + 3, s1.heap.objs.size, s1.heap.objs.size + 1], _, _, H1, rfl, I2,
    turnZ (t1 := t1) (t2 := t2) (sepZ la lb) (Nat.ne_of_lt la) (Nat.ne_of_lt (Nat.lt_succ_of_lt lb)), ⟨hz, hTI, ⟨_, _, hTO⟩, itAt0 g1, itAt0 g2⟩, fun c hcm => I1.fpOk (five hcm) (I1.hok.fresh (five hcm)), q⟩

/-! ### a zip kept at a name -/
def zo (a : Addr) (o : Obj) : HO := .ext fun h => h.get? a = some o
def zipH (H : Hp) (N : Addr) (o1 o2 o3 o4 o5 : HO) : Hp := upd (upd (upd (upd (upd H N o1) (N + 1) o2) (N + 2) o3) (N + 3) o4) (N + 4) o5
def zipO (t1 t2 : Bool) (a b : Addr) (H : Hp) (N : Addr) : Hp :=
  zipH H N (zo N (itObj t1 a)) (zo (N + 1) (itObj t2 b)) (zo (N + 2) { cls := .type "tuple", data := .seq #[.ref N, .ref (N + 1)] }) (zo (N + 3) { cls := .type "tuple", data := .seq #[.none, .none] })
    (zo (N + 4) { cls := .type "zip", dict := none, data := .fields #[.none, .bool false, .bool false, .ref (N + 2), .ref (N + 3)], slots := #[] })
theorem zipH_lt {H : Hp} {N c : Addr} {o1 o2 o3 o4 o5 : HO} (h : c < N) : zipH H N o1 o2 o3 o4 o5 c = H c := by
  have n0 : c ≠ N := Nat.ne_of_lt h
  have n1 : c ≠ N + 1 := Nat.ne_of_lt (Nat.lt_add_right 1 h)
  have n2 : c ≠ N + 2 := Nat.ne_of_lt (Nat.lt_add_right 2 h)
  have n3 : c ≠ N + 3 := Nat.ne_of_lt (Nat.lt_add_right 3 h)
  have n4 : c ≠ N + 4 := Nat.ne_of_lt (Nat.lt_add_right 4 h)
  unfold zipH
  rw [upd_ne n4, upd_ne n3, upd_ne n2, upd_ne n1, upd_ne n0]
theorem zipO_lt {t1 t2 : Bool} {a b : Addr} {H : Hp} {N c : Addr} (h : c < N) : zipO t1 t2 a b H N c = H c := zipH_lt h
theorem nn {N : Nat} {i j : Nat} (h : i ≠ j) : (show Addr from N + i) ≠ (show Addr from N + j) := fun e => h (Nat.add_left_cancel e)
theorem nz {N : Addr} {j : Nat} (h : j ≠ 0) : N ≠ N + j := fun e => h (Nat.add_left_cancel (e.symm.trans (Nat.add_zero N).symm))
theorem zn {N : Addr} {j : Nat} (h : j ≠ 0) : N + j ≠ N := fun e => nz h e.symm
section
variable {t1 t2 : Bool} {a b : Addr} {H : Hp} {N : Addr}
theorem zipO_0 : zipO t1 t2 a b H N N = some (zo N (itObj t1 a)) := by
  unfold zipO zipH
  rw [upd_ne (nz (by decide)), upd_ne (nz (by decide)), upd_ne (nz (by decide)), upd_ne (nz (by decide)), upd_same]
theorem zipO_1 : zipO t1 t2 a b H N (N + 1) = some (zo (N + 1) (itObj t2 b)) := by
  unfold zipO zipH
  rw [upd_ne (nn (N := N) (i := 1) (j := 4) (by decide)), upd_ne (nn (N := N) (i := 1) (j := 3) (by decide)), upd_ne (nn (N := N) (i := 1) (j := 2) (by decide)), upd_same]
theorem zipO_2 : zipO t1 t2 a b H N (N + 2) = some (zo (N + 2) { cls := .type "tuple", data := .seq #[.ref N, .ref (N + 1)] }) := by
  unfold zipO zipH
  rw [upd_ne (nn (N := N) (i := 2) (j := 4) (by decide)), upd_ne (nn (N := N) (i := 2) (j := 3) (by decide)), upd_same]
theorem zipO_3 : zipO t1 t2 a b H N (N + 3) = some (zo (N + 3) { cls := .type "tuple", data := .seq #[.none, .none] }) := by
  unfold zipO zipH
  rw [upd_ne (nn (N := N) (i := 3) (j := 4) (by decide)), upd_same]
theorem zipO_4 : zipO t1 t2 a b H N (N + 4) = some (zo (N + 4) { cls := .type "zip", dict := none, data := .fields #[.none, .bool false, .bool false, .ref (N + 2), .ref (N + 3)], slots := #[] }) := by
  unfold zipO zipH
  rw [upd_same]
end
theorem zo_ok {P : Program} {w : World} {H : Hp} {h : Heap} {a : Addr} {o : Obj} (e : h.get? a = some o) : ObjOk P w H h a (zo a o) := ⟨e, ⟨o, e⟩, fun _ _ p st => st o p⟩
theorem zo_get {P : Program} {w : World} {H : Hp} {h : Heap} {a : Addr} {o : Obj} (ok : HOk P w H h) (e : H a = some (zo a o)) : h.get? a = some o := (ok a _ e).1
/-- five young objects are tracked -/
theorem track5 {X : Cx} {pins : List (Addr × Obj)} {σ : L2.St} {H : Hp} {s : Shared} {h' : Heap} {t1 t2 : Bool} {a b : Addr} (I : Inv X pins σ H s) (k : ∀ c o, s.heap.get? c = some o → h'.get? c = some o)
    (g0 : h'.get? s.heap.objs.size = some (itObj t1 a)) (g1 : h'.get? (s.heap.objs.size + 1) = some (itObj t2 b)) (g2 : IsTupOf2 h' (s.heap.objs.size + 2) (.ref s.heap.objs.size) (.ref (s.heap.objs.size + 1)))
    (g3 : IsTupOf2 h' (s.heap.objs.size + 3) .none .none) (g4 : IsZip h' (s.heap.objs.size + 4) (s.heap.objs.size + 2) (s.heap.objs.size + 3) .none) :
    Inv X pins σ (zipO t1 t2 a b H s.heap.objs.size) { s with heap := h' } := by
  have old : ∀ c o, H c = some o → zipO t1 t2 a b H s.heap.objs.size c = some o := fun c o e => by rw [zipO_lt (I.hok.lt e)]; exact e
  refine I.un (t' := s.toks) ⟨fun c o e _ _ _ => k c o e, fun c o e _ _ _ => ⟨o.slots, k c o e⟩, fun c o e n _ => by rw [zipO_lt (Heap.lt_size e)]; exact n, fun c o e _ => ⟨o, k c o e⟩, fun c xs e => old c _ e, fun c o u e => old c _ e,
    fun c ps e => ⟨#[], by rw [old c _ e]; simp⟩⟩ fun c u e => ?_
  by_cases h4 : c = s.heap.objs.size + 4
  · subst h4; rw [zipO_4] at e; cases e; exact zo_ok g4
  by_cases h3 : c = s.heap.objs.size + 3
  · subst h3; rw [zipO_3] at e; cases e; exact zo_ok g3
  by_cases h2 : c = s.heap.objs.size + 2
  · subst h2; rw [zipO_2] at e; cases e; exact zo_ok g2
  by_cases h1 : c = s.heap.objs.size + 1
  · subst h1; rw [zipO_1] at e; cases e; exact zo_ok g1
  by_cases h0 : c = s.heap.objs.size
  · subst h0; rw [zipO_0] at e; cases e; exact zo_ok g0
  · unfold zipO zipH at e
    rw [upd_ne h4, upd_ne h3, upd_ne h2, upd_ne h1, upd_ne h0] at e
    exact (I.hok c u e).stay (fun d v _ q => k d v q) (fun d q => old d _ q) fun d xs q => old d _ q
theorem drop5 {X : Cx} {pins : List (Addr × Obj)} {σ : L2.St} {H : Hp} {s : Shared} {t1 t2 : Bool} {a b N : Addr} (I : Inv X pins σ (zipO t1 t2 a b H N) s) (fr : ∀ c, N ≤ c → H c = none) : Inv X pins σ H s := by
  have e4 : ItX.dropH (zipO t1 t2 a b H N) (N + 4) = _ := ItX.dropH_upd (by
    rw [upd_ne (nn (N := N) (i := 4) (j := 3) (by decide)), upd_ne (nn (N := N) (i := 4) (j := 2) (by decide)), upd_ne (nn (N := N) (i := 4) (j := 1) (by decide)), upd_ne (zn (by decide))]
    exact fr _ (Nat.le_add_right _ _))
  have I4 := ItX.inv_drop I zipO_4
  rw [e4] at I4
  have I3 := ItX.inv_drop I4 upd_same
  rw [ItX.dropH_upd (by
    rw [upd_ne (nn (N := N) (i := 3) (j := 2) (by decide)), upd_ne (nn (N := N) (i := 3) (j := 1) (by decide)), upd_ne (zn (by decide))]
    exact fr _ (Nat.le_add_right _ _))] at I3
  have I2 := ItX.inv_drop I3 upd_same
  rw [ItX.dropH_upd (by
    rw [upd_ne (nn (N := N) (i := 2) (j := 1) (by decide)), upd_ne (zn (by decide))]
    exact fr _ (Nat.le_add_right _ _))] at I2
  have I1 := ItX.inv_drop I2 upd_same
  rw [ItX.dropH_upd (by
    rw [upd_ne (zn (by decide))]
    exact fr _ (Nat.le_add_right _ _))] at I1
  have I0 := ItX.inv_drop I1 upd_same
  rw [ItX.dropH_upd (fr _ (Nat.le_refl _))] at I0
  exact I0
/-- the value zip(e, e2), n: the size at the def's entry -/
def tZipV (K : PySem.W.Frag) (n : Nat) (t1 t2 : Bool) (ta : TA) : TE := fun σ H Q => ta σ H fun vs H1 => ∃ a b xs ys, vs = [.ref a, .ref b] ∧ Sq t1 K H1 a xs ∧ Sq t2 K H1 b ys ∧
  ∀ N, n ≤ N → (∀ c, N ≤ c → H1 c = none) → a < N → b < N → Q (.ref (N + 4)) (zipO t1 t2 a b H1 N)
theorem pe_zipV {X : Cx} (t1 t2 : Bool) {e e2 : Expr} {ta : TA} {p pos : Pos} (hg : Gl X "zip") (hm : X.mg "zip" = none) (ha : PA X [e, e2] ta)
    (hs : starEach [e, e2] X.env = (false, eval e X.env) :: starEach [e2] X.env := by rfl) (hpl : (backTo pos (starEach [e2] X.env)).any (·.1) = false := by rfl) :
    PE X (.Call (.Name "zip" p) [e, e2] [] pos) (tZipV X.K X.s_0.heap.objs.size t1 t2 ta) := by
  refine ⟨fun pins s σ H Q I h => ?_⟩
  refine Call_ (ld_blt I hg hm PyProof.Rows.boot_zip (PyProof.Rows.callWith_type1 (thn (ha.run pos pins s σ H _ I h) fun us s1 ⟨vs, H1, I1, r1, q1⟩ => ?_) hs hpl))
  obtain ⟨a, b, xs, ys, ex, hqx, hqy, q⟩ := q1
  subst ex
  obtain ⟨u1, u2, rfl, r1, r2⟩ := vals2 r1
  cases r1
  cases r2
  obtain ⟨its, rv, p1, la⟩ := seq_of I1 hqx
  obtain ⟨its2, rv2, p2, lb⟩ := seq_of I1 hqy
  refine zip_begins2 (beginsG t1 a its.toArray) (beginsG t2 b its2.toArray) p1 p2 fun h' hz hTI hTO g1 g2 hsz hk => ?_
  exact ⟨.ref (s1.heap.objs.size + 4), _, track5 I1 hk g1 g2 hTI hTO hz, rfl, q _ I1.sz (fun c hc => I1.hok.fresh hc) la lb⟩
/-- for .. in x, the name x holding a zip that has not begun -/
def iZipV (K : PySem.W.Frag) (n : Nat) (t1 t2 : Bool) (k : Nat) : TI := fun σ H R => ∃ (N a b : Addr) (H0 : Hp), σ[k]? = some (some (.ref (N + 4))) ∧ H = zipO t1 t2 a b H0 N ∧ n ≤ N ∧ (∀ c, N ≤ c → H0 c = none) ∧ a < N ∧ b < N ∧ R (ItZ K t1 t2 a b) H0
theorem pi_zipV {X : Cx} (t1 t2 : Bool) (k : Nat) {x : Str} {p tpos : Pos} {elts : List Expr} {kk : Nat} (hN : X.N[k]? = some x := by rfl) (hv : Vis X.env.scope x := by first | exact Or.inl rfl | exact Or.inr (Or.inl rfl) | exact Or.inr (Or.inr rfl))
    (hd : (x == ("__debug__" : Str)) = false := by decide) (hcd : (x == ("__classdict__" : Str)) = false := by decide) : PI X (.Tuple elts kk tpos) (.Name x p) (iZipV X.K X.s_0.heap.objs.size t1 t2 k) := by
  refine ⟨fun pins s σ H R I h => ?_⟩
  obtain ⟨N, a, b, H0, hs, rfl, hn, fr, la, lb, q⟩ := h
  refine thn ((pe_var (pos := p) (i := k) hN hv hd hcd).run pins s σ _ (fun v H1 => v = .ref (N + 4) ∧ H1 = zipO t1 t2 a b H0 N) I ⟨.ref (N + 4), hs, rfl, rfl⟩) fun u s1 ⟨v, H1, I1, r1, ev, eH⟩ => ?_
  subst ev eH
  cases r1
  have g0 := zo_get I1.hok zipO_0
  have g1 := zo_get I1.hok zipO_1
  have g2 := zo_get I1.hok zipO_2
  have g3 := zo_get I1.hok zipO_3
  have g4 := zo_get I1.hok zipO_4
  refine wpAny_pyIter_zip (TI := N + 2) (TO := N + 3) g4 ?_
  have I2 := drop5 I1 fr
  have fp : ∀ c, N ≤ c → ∀ u, zipO t1 t2 a b H0 N c = some u → FpOk X pins H0 c := fun c hc u e => by
    obtain ⟨_, f1, f2, f3, f4, f5⟩ := ItX.inv_fp I1 e (Nat.le_trans hn hc)
    exact ⟨fr c hc, f1, f2, f3, f4, f5⟩
  refine ⟨N + 4, [N + 4, N + 2, N + 3, N, N + 1], _, _, H0, rfl, I2, turnZ (t1 := t1) (t2 := t2) (sepZ la lb) (Nat.ne_of_lt la) (Nat.ne_of_lt (Nat.lt_succ_of_lt lb)), ⟨g4, g2, ⟨_, _, g3⟩, itAt0 g0, itAt0 g1⟩, fun c hcm => ?_, q⟩
  have hcm' := hcm
  simp only [List.mem_cons, List.not_mem_nil, or_false] at hcm'
  rcases hcm' with e | e | e | e | e
  · rw [e]; exact fp _ (Nat.le_add_right _ _) _ zipO_4
  · rw [e]; exact fp _ (Nat.le_add_right _ _) _ zipO_2
  · rw [e]; exact fp _ (Nat.le_add_right _ _) _ zipO_3
  · rw [e]; exact fp _ (Nat.le_refl _) _ zipO_0
  · rw [e]; exact fp _ (Nat.le_add_right _ _) _ zipO_1

/-! ### enumerate -/
def ItE (K : PySem.W.Frag) (t : Bool) (a : Addr) : It :=
  ⟨fun i H => ∃ (xs : List V) (x : V), Sq t K H a xs ∧ xs[i]? = some x,
    fun i H v H' => ∃ T x, v = .ref T ∧ H T = none ∧ H' = upd H T (.tup [.int (i : Nat), x]) ∧ ∀ xs, Sq t K H a xs → xs[i]? = some x,
    fun i H => ∃ xs : List V, Sq t K H a xs ∧ i = xs.length⟩
theorem walkE {K : PySem.W.Frag} {t : Bool} {a : Addr} {xs : List V} : Walk (ItE K t a) xs.length (fun H => Sq t K H a xs) (YPair (fun i => some (.int (i : Nat))) (fun i => xs[i]?)) := by
  refine ⟨fun i H hi q => ⟨xs, xs[i], q, List.getElem?_eq_getElem hi⟩, fun H q => ⟨xs, q, rfl⟩, fun i H v H' hi q y => ?_⟩
  obtain ⟨T, x, e1, e2, e3, f⟩ := y
  exact ⟨T, _, x, e1, e2, e3, rfl, f xs q⟩
theorem turnE {P : Program} {w : World} {K : PySem.W.Frag} {elts : List Expr} {kk : Nat} {tpos : Pos} {t : Bool} {a e it : Addr} (ne : e ≠ it) (na : a ≠ it) (nae : e ≠ a) :
    Turn P w K (.Tuple elts kk tpos) (ItE K t a) [e, it] e (fun i h => (∃ old, IsEnum h e it ((i : Nat) : Int) old) ∧ ItAt t h it a i) where
  mem := by simp
  obj := fun i h st c hc => by
    obtain ⟨⟨old, he⟩, h1⟩ := st
    obtain ⟨o1, v1, e1, d1⟩ := itAt_obj h1
    simp only [List.mem_cons, List.not_mem_nil, or_false] at hc
    rcases hc with rfl | rfl
    · exact ⟨_, he, fun v q => nomatch q⟩
    · exact ⟨o1, e1, fun v q => by rw [d1] at q; cases q⟩
  keep := fun i h h' st k => by
    obtain ⟨⟨old, he⟩, h1⟩ := st
    exact ⟨⟨old, k e (by simp) _ he⟩, itAt_at h1 fun o q => k it (by simp) o q⟩
  item := by
    intro X hP hw hK hc i pins s σ H E I hf st hg
    subst hP hw hK
    obtain ⟨xs, x, hqx, hx⟩ := hg
    obtain ⟨its, rv, p, _⟩ := seq_of I hqx
    obtain ⟨u, hu, ru⟩ := rv.get hx
    obtain ⟨⟨old, he⟩, h1⟩ := st
    have hh : X.A.in1.handled = none := I.ok.hd hc
    have z0 : (0 : Int) + (i : Int) = (i : Int) := Int.zero_add _
    have W := GoesN.enumFrom (elts := elts) (x1 := kk) (pos := tpos) 0 (drawsG (prog := X.prog) (w := X.w) (A := X.A.in1) t hh it a na its.toArray) e ne (by simp [ne, nae]) (by simp)
    have hi : i < its.toArray.size := by
      rw [List.size_toArray]
      exact (List.getElem?_eq_some_iff.mp hu).1
    refine W.goes i s _ E hi ⟨⟨old, by rw [z0]; exact he⟩, h1, p⟩ fun v h' tk hY st' hk htk => ?_
    obtain ⟨T, tt, a1, rfl, hT, q1, hT2⟩ := hY
    obtain rfl : a1 = u := Option.some.inj ((by simpa using q1.symm : some a1 = its[i]?).trans hu)
    obtain ⟨⟨old', he'⟩, h1', _⟩ := st'
    have z1 : (0 : Int) + ((i + 1 : Nat) : Int) = ((i + 1 : Nat) : Int) := Int.zero_add _
    rw [z1] at he'
    rw [z0] at hT2
    have new : ObjOk X.prog X.w (upd H T (.tup [.int (i : Nat), x])) h' T (.tup [.int (i : Nat), x]) :=
      ⟨by show 2 ≤ sizeLine; decide, [.int (i : Nat) tt, a1], .cons ⟨tt, rfl⟩ (.cons ru .nil), hT2⟩
    have I1 := I.turnedNew (t' := tk) (ch := [e, it]) (h' := h') (fun c o hb q => hk c o hb q) hf hT new
    refine ⟨.ref T, _, I1, rfl, ⟨T, x, rfl, I.hok.fresh hT, rfl, fun l hl => by rw [seq_inj I hl hqx]; exact hx⟩, ⟨⟨old', he'⟩, h1'⟩, fun c hcm => ?_⟩
    have hlt : c < s.heap.objs.size := by
      obtain ⟨o1, v1, e1, _⟩ := itAt_obj h1
      simp only [List.mem_cons, List.not_mem_nil, or_false] at hcm
      rcases hcm with rfl | rfl
      · exact Heap.lt_size he
      · exact Heap.lt_size e1
    rw [upd_ne (Nat.ne_of_lt (Nat.lt_of_lt_of_le hlt hT))]
    exact (hf c hcm).1
  done := by
    intro X hP hw hK hc i pins s σ H E I hf st hg
    subst hP hw hK
    obtain ⟨xs, hqx, hend⟩ := hg
    obtain ⟨its, rv, p, _⟩ := seq_of I hqx
    obtain ⟨⟨old, he⟩, h1⟩ := st
    have hh : X.A.in1.handled = none := I.ok.hd hc
    have W := GoesN.enumFrom (elts := elts) (x1 := kk) (pos := tpos) 0 (drawsG (prog := X.prog) (w := X.w) (A := X.A.in1) t hh it a na its.toArray) e ne (by simp [ne, nae]) (by simp)
    have l1 := rv.length
    have z0 : (0 : Int) + (i : Int) = (i : Int) := Int.zero_add _
    have hi : i = its.toArray.size := by
      rw [List.size_toArray]
      omega
    refine W.stops s (fun s1 => Inv X pins σ H s1) E ?_ fun h' tk hk htk => ?_
    · rw [← hi, z0]
      exact ⟨⟨old, he⟩, h1, p⟩
    · exact I.turnedL (t' := tk) (ch := [e, it]) (fun c o hb q => hk c o hb q) hf
  self := fun A i s Q E st h => let ⟨⟨_, he⟩, _⟩ := st; wpAny_pyIter_enum he h

theorem new_enum {v : Value} {o : Obj} {G : Heap → Prop} (B : Begins v o G) :
    Meets (Builtin.«enumerate.__new__» ⟨[.type "enumerate", v], []⟩) (fun _ R s => G s.heap ∧
      R (.ok (.ret (.ref (s.heap.push o).objs.size))) { s with heap := (s.heap.push o).push { cls := .type "enumerate", data := .fields #[.none, .bool false, .ref s.heap.objs.size, rawInt 0, .none, .none] } }) :=
  .of_wp fun prog w A R s h => by
    obtain ⟨hp, g, d, tk, os⟩ := s
    obtain ⟨h1, h⟩ := h
    have hsub := sub_enumerate
    have it1 : ∀ {A' : Around} {E : Value → Shared → Prop} {Q : Value → Shared → Prop}, Q (.ref hp.objs.size) ⟨hp.push o, g, d, tk, os⟩ → wpAny (model prog w) A' (pyIter v) Q E ⟨hp, g, d, tk, os⟩ :=
      fun q => B.iter prog w _ _ ⟨hp, g, d, tk, os⟩ _ h1 q
    wp_walk using it1
    refine wpAny_stack_any fun st => wpAny_pure ?_
    split
    · rename_i c _ _ _ _ _
      cases (c == Value.type "enumerate") <;> (wp_walk using it1; exact ⟨_, rfl, h⟩)
    · wp_walk using it1
      exact ⟨_, rfl, h⟩
theorem call_enumG {prog : Program} {w : World} {A : Around} {E : Value → Shared → Prop} {s : Shared} {v : Value} {o : Obj} {G : Heap → Prop} {Q : Value → Shared → Prop} (B : Begins v o G) (h1 : G s.heap)
    (h : ∀ h', IsEnum h' (s.heap.objs.size + 1) s.heap.objs.size 0 .none → h'.get? s.heap.objs.size = some o → (∀ b o, s.heap.get? b = some o → h'.get? b = some o) → Q (.ref (s.heap.objs.size + 1)) { s with heap := h' }) :
    wpAny (model prog w) A (call (.type "enumerate") [v]) Q E s := by
  refine callType_new F.called_enumerate (by decide) (F.typeCall_enumerate_1 _) (F.newCall_enumerate_1 _) (fun obj => F.args_object_init_2 obj _) F.entry_enumerate_new (new_enum B) ⟨h1, ?_⟩
  have hz : (s.heap.push o).objs.size = s.heap.objs.size + 1 := Heap.size_push ..
  have he := Heap.get?_push_size (s.heap.push o) (o := { cls := .type "enumerate", data := .fields #[.none, .bool false, .ref s.heap.objs.size, rawInt 0, .none, .none] }) rfl
  rw [hz] at he
  show _ ∧ _
  rw [hz]
  exact ⟨⟨_, he, rfl⟩, h _ he (Heap.get?_push_of_some _ (Heap.get?_push_size _ B.free)) fun b o x => Heap.get?_push_of_some _ (Heap.get?_push_of_some _ x)⟩
def iEnumG (K : PySem.W.Frag) (t : Bool) (ta : TA) : TI := fun σ H R => ta σ H fun vs H1 => ∃ a xs, vs = [.ref a] ∧ Sq t K H1 a xs ∧ R (ItE K t a) H1
theorem pi_enumG {X : Cx} (t : Bool) {e : Expr} {ta : TA} {p pos tpos : Pos} {elts : List Expr} {kk : Nat} (hg : Gl X "enumerate") (hm : X.mg "enumerate" = none) (ha : PA X [e] ta) (hs : starEach [e] X.env = [(false, eval e X.env)] := by rfl) :
    PI X (.Tuple elts kk tpos) (.Call (.Name "enumerate" p) [e] [] pos) (iEnumG X.K t ta) := by
  refine ⟨fun pins s σ H R I h => ?_⟩
  refine Call_ (ld_blt I hg hm boot_enumerate (PyProof.Rows.callWith_type1 (thn (ha.run pos pins s σ H _ I h) fun us s1 ⟨vs, H1, I1, r1, q1⟩ => ?_) hs rfl))
  obtain ⟨a, xs, ex, hq, q⟩ := q1
  subst ex
  obtain ⟨u, rfl, ru⟩ := vals1 r1
  cases ru
  obtain ⟨its, rv, p', la⟩ := seq_of I1 hq
  refine call_enumG (beginsG t a its.toArray) p' fun h' he g1 hk => wpAny_pyIter_enum he ?_
  have I2 : Inv X pins σ H1 { s1 with heap := h' } := I1.kept (t' := s1.toks) hk
  refine ⟨s1.heap.objs.size + 1, [s1.heap.objs.size + 1, s1.heap.objs.size], _, _, H1, rfl, I2, turnE (t := t) (zn (by decide)) (Nat.ne_of_lt la) (Nat.ne_of_gt (Nat.lt_succ_of_lt la)), ⟨⟨.none, he⟩, itAt0 g1⟩, fun c hcm => ?_, q⟩
  have hle : s1.heap.objs.size ≤ c := by
    simp only [List.mem_cons, List.not_mem_nil, or_false] at hcm
    rcases hcm with e | e <;> rw [e] <;> first | exact Nat.le_add_right _ _ | exact Nat.le_refl _
  exact I1.fpOk hle (I1.hok.fresh hle)
end ZG
end
section
set_option Elab.async false
set_option linter.all false
/-! The mathematics of searching by askings: how many askings are enough from a state on. -/
namespace P81
/-- one answer more: a wrong one counts -/
def wr (b a : Bool) : Int := if b != a then 1 else 0
def aft (r : List Bool) (a : Bool) (s : List Int) : List Int := List.zipWith (fun x b => x + wr b a) s r
def capx (L x : Int) : Int := if L + 1 < x then L + 1 else x
def cap (L : Int) (s : List Int) : List Int := s.map (capx L)
def leftN (L : Int) (s : List Int) : Nat := (s.filter fun x => decide (x ≤ L)).length
def enough (R : List (List Bool)) (L : Int) : Nat → List Int → Bool
  | 0, s => decide (leftN L s < 2)
  | n + 1, s => decide (leftN L s < 2) || R.any fun r => enough R L n (aft r true s) && enough R L n (aft r false s)

/-! ### capping -/
theorem capx_le {L x : Int} : capx L x ≤ L ↔ x ≤ L := by
  unfold capx; split <;> omega
theorem capx_capx (L x : Int) : capx L (capx L x) = capx L x := by
  unfold capx; by_cases h : L + 1 < x
  · rw [if_pos h, if_neg (by omega)]
  · rw [if_neg h, if_neg h]
theorem wr_nn (b a : Bool) : 0 ≤ wr b a := by unfold wr; split <;> omega
theorem wr_le (b a : Bool) : wr b a ≤ 1 := by unfold wr; split <;> omega
theorem wr_same (a : Bool) : wr a a = 0 := by cases a <;> rfl
theorem capx_add {L x d : Int} (h : 0 ≤ d) : capx L (capx L x + d) = capx L (x + d) := by
  unfold capx; by_cases q : L + 1 < x
  · rw [if_pos q, if_pos (show L + 1 < x + d by omega)]; split <;> omega
  · rw [if_neg q]
theorem cap_cap (L : Int) (s : List Int) : cap L (cap L s) = cap L s := by
  unfold cap; rw [List.map_map]; congr 1; funext x; exact capx_capx L x
theorem cap_length (L : Int) (s : List Int) : (cap L s).length = s.length := by unfold cap; rw [List.length_map]
theorem aft_length {r : List Bool} {a : Bool} {s : List Int} (h : r.length = s.length) : (aft r a s).length = s.length := by
  unfold aft; rw [List.length_zipWith]; omega
theorem leftN_cap (L : Int) : ∀ s : List Int, leftN L (cap L s) = leftN L s
  | [] => rfl
  | x :: s => by
    have ih := leftN_cap L s
    unfold leftN cap at *
    rw [List.map_cons, List.filter_cons, List.filter_cons]
    have e : decide (capx L x ≤ L) = decide (x ≤ L) := by
      by_cases h : x ≤ L
      · rw [decide_eq_true h, decide_eq_true (capx_le.mpr h)]
      · rw [decide_eq_false h, decide_eq_false fun z => h (capx_le.mp z)]
    rw [e]
    split
    · rw [List.length_cons, List.length_cons, ih]
    · exact ih
theorem cap_aft (L : Int) (a : Bool) : ∀ (s : List Int) (r : List Bool), cap L (aft r a (cap L s)) = cap L (aft r a s)
  | [], r => by simp [cap, aft]
  | x :: s, [] => by simp [cap, aft]
  | x :: s, b :: r => by
    have ih := cap_aft L a s r
    unfold cap aft at *
    rw [List.map_cons, List.zipWith_cons_cons, List.zipWith_cons_cons, List.map_cons, List.map_cons, ih, capx_add (wr_nn b a)]
theorem aft_cap_congr {L : Int} {a : Bool} {r : List Bool} {s s' : List Int} (h : cap L s = cap L s') : cap L (aft r a s) = cap L (aft r a s') := by
  rw [← cap_aft, h, cap_aft]
theorem enough_congr (R : List (List Bool)) (L : Int) : ∀ (n : Nat) {s s' : List Int}, cap L s = cap L s' → enough R L n s = enough R L n s'
  | 0, s, s', h => by
    show decide (leftN L s < 2) = decide (leftN L s' < 2)
    rw [← leftN_cap L s, h, leftN_cap]
  | n + 1, s, s', h => by
    show (decide (leftN L s < 2) || R.any fun r => enough R L n (aft r true s) && enough R L n (aft r false s)) = (decide (leftN L s' < 2) || R.any fun r => enough R L n (aft r true s') && enough R L n (aft r false s'))
    rw [show leftN L s = leftN L s' by rw [← leftN_cap L s, h, leftN_cap]]
    congr 1
    congr 1
    funext r
    rw [enough_congr R L n (aft_cap_congr (a := true) h), enough_congr R L n (aft_cap_congr (a := false) h)]
theorem enough_cap (R : List (List Bool)) (L : Int) (n : Nat) (s : List Int) : enough R L n (cap L s) = enough R L n s := enough_congr R L n (cap_cap L s)
theorem enough_zero (R : List (List Bool)) (L : Int) (s : List Int) : enough R L 0 s = decide (leftN L s < 2) := rfl
theorem enough_succ (R : List (List Bool)) (L : Int) (n : Nat) (s : List Int) : enough R L (n + 1) s = (decide (leftN L s < 2) || R.any fun r => enough R L n (aft r true s) && enough R L n (aft r false s)) := rfl
theorem enough_left {R : List (List Bool)} {L : Int} {n : Nat} {s : List Int} (h : leftN L s < 2) : enough R L n s = true := by
  cases n with
  | zero => rw [enough_zero, decide_eq_true h]
  | succ n => rw [enough_succ, decide_eq_true h, Bool.true_or]

/-! ### two that are left -/
theorem leftN_cons (L x : Int) (s : List Int) : leftN L (x :: s) = (if x ≤ L then 1 else 0) + leftN L s := by
  unfold leftN
  rw [List.filter_cons]
  by_cases h : x ≤ L
  · rw [if_pos (by simpa using h), if_pos h, List.length_cons, Nat.add_comm]
  · rw [if_neg (by simpa using h), if_neg h, Nat.zero_add]
theorem one_left {L x : Int} : ∀ {s : List Int} {i : Nat}, s[i]? = some x → x ≤ L → 1 ≤ leftN L s
  | [], i, h, _ => by simp at h
  | y :: s, 0, h, hx => by
    have e : y = x := Option.some.inj h
    rw [leftN_cons, e, if_pos hx]; omega
  | y :: s, i + 1, h, hx => by
    rw [leftN_cons]
    have := one_left (s := s) (i := i) h hx
    omega
theorem two_left {L x y : Int} : ∀ {s : List Int} {i j : Nat}, i < j → s[i]? = some x → s[j]? = some y → x ≤ L → y ≤ L → 2 ≤ leftN L s
  | [], i, j, _, h, _, _, _ => by simp at h
  | z :: s, i, 0, hij, _, _, _, _ => by omega
  | z :: s, 0, j + 1, _, h, h', hx, hy => by
    have e : z = x := Option.some.inj h
    have := one_left (L := L) (s := s) (i := j) h' hy
    rw [leftN_cons, e, if_pos hx]; omega
  | z :: s, i + 1, j + 1, hij, h, h', hx, hy => by
    have := two_left (L := L) (s := s) (i := i) (j := j) (by omega) h h' hx hy
    rw [leftN_cons]; omega
theorem left_one {L : Int} : ∀ {s : List Int}, 1 ≤ leftN L s → ∃ (i : Nat) (x : Int), s[i]? = some x ∧ x ≤ L
  | [], h => by simp [leftN] at h
  | y :: s, h => by
    by_cases hy : y ≤ L
    · exact ⟨0, y, rfl, hy⟩
    · rw [leftN_cons, if_neg hy, Nat.zero_add] at h
      obtain ⟨i, x, h1, h2⟩ := left_one h
      exact ⟨i + 1, x, h1, h2⟩
theorem left_two {L : Int} : ∀ {s : List Int}, 2 ≤ leftN L s → ∃ (i j : Nat) (x y : Int), i < j ∧ s[i]? = some x ∧ s[j]? = some y ∧ x ≤ L ∧ y ≤ L
  | [], h => by simp [leftN] at h
  | z :: s, h => by
    by_cases hz : z ≤ L
    · rw [leftN_cons, if_pos hz] at h
      obtain ⟨j, y, h1, h2⟩ := left_one (L := L) (s := s) (by omega)
      exact ⟨0, j + 1, z, y, by omega, rfl, h1, hz, h2⟩
    · rw [leftN_cons, if_neg hz, Nat.zero_add] at h
      obtain ⟨i, j, x, y, h0, h1, h2, h3, h4⟩ := left_two h
      exact ⟨i + 1, j + 1, x, y, by omega, h1, h2, h3, h4⟩
theorem aft_get {r : List Bool} {a b : Bool} {s : List Int} {i : Nat} {x : Int} (h : s[i]? = some x) (hr : r[i]? = some b) : (aft r a s)[i]? = some (x + wr b a) := by
  unfold aft
  rw [List.getElem?_zipWith, h, hr]
/-- two that are left and that no asking parts: no number is enough -/
theorem never {R : List (List Bool)} {L : Int} {i j : Nat} (hij : i < j) (hR : ∀ r ∈ R, ∃ b, r[i]? = some b ∧ r[j]? = some b) :
    ∀ (n : Nat) {s : List Int} {x y : Int}, s[i]? = some x → s[j]? = some y → x ≤ L → y ≤ L → enough R L n s = false
  | 0, s, x, y, h1, h2, h3, h4 => by
    have := two_left hij h1 h2 h3 h4
    rw [enough_zero, decide_eq_false (by omega)]
  | n + 1, s, x, y, h1, h2, h3, h4 => by
    have := two_left hij h1 h2 h3 h4
    rw [enough_succ, decide_eq_false (by omega), Bool.false_or, List.any_eq_false]
    intro r hr
    obtain ⟨b, hb1, hb2⟩ := hR r hr
    have z : enough R L n (aft r b s) = false := never hij hR n (x := x) (y := y) (by rw [aft_get h1 hb1, wr_same, Int.add_zero]) (by rw [aft_get h2 hb2, wr_same, Int.add_zero]) h3 h4
    cases b with
    | true => rw [z, Bool.false_and]; exact Bool.false_ne_true
    | false => rw [z, Bool.and_false]; exact Bool.false_ne_true

/-! ### a measure that falls -/
def mu (L : Int) : List Int → Nat
  | [] => 0
  | x :: s => (L + 1 - x).toNat + mu L s
theorem mu_aft_le (L : Int) (a : Bool) : ∀ (s : List Int) (r : List Bool), mu L (aft r a s) ≤ mu L s
  | [], r => by simp [aft, mu]
  | x :: s, [] => by simp [aft, mu]
  | x :: s, b :: r => by
    have ih := mu_aft_le L a s r
    have h0 := wr_nn b a
    show (L + 1 - (x + wr b a)).toNat + mu L (aft r a s) ≤ (L + 1 - x).toNat + mu L s
    omega
theorem mu_aft_lt {L : Int} {a b : Bool} {x : Int} (hb : b ≠ a) : ∀ {s : List Int} {r : List Bool} {i : Nat}, s[i]? = some x → x ≤ L → r[i]? = some b → mu L (aft r a s) < mu L s
  | [], r, i, h, _, _ => by simp at h
  | y :: s, [], i, _, _, h => by simp at h
  | y :: s, c :: r, 0, h, hx, hr => by
    have e : y = x := Option.some.inj h
    have e2 : c = b := Option.some.inj hr
    have ih := mu_aft_le L a s r
    have w1 : wr c a = 1 := by rw [e2]; unfold wr; rw [if_pos (by simpa using hb)]
    show (L + 1 - (y + wr c a)).toNat + mu L (aft r a s) < (L + 1 - y).toNat + mu L s
    rw [w1]
    omega
  | y :: s, c :: r, i + 1, h, hx, hr => by
    have ih := mu_aft_lt (L := L) (a := a) hb (s := s) (r := r) (i := i) h hx hr
    have h0 := wr_nn c a
    show (L + 1 - (y + wr c a)).toNat + mu L (aft r a s) < (L + 1 - y).toNat + mu L s
    omega
theorem mu_le {L : Int} (hL : 0 ≤ L) : ∀ {s : List Int}, (∀ x ∈ s, 0 ≤ x) → (mu L s : Int) ≤ (L + 1) * (s.length : Int)
  | [], _ => by simp [mu]
  | x :: s, h => by
    have ih := mu_le hL (s := s) fun y hy => h y (List.mem_cons_of_mem _ hy)
    have hx := h x List.mem_cons_self
    have e : (L + 1) * (((x :: s).length : Nat) : Int) = (L + 1) * (s.length : Int) + (L + 1) := by
      rw [List.length_cons]
      show (L + 1) * ((s.length : Int) + 1) = _
      rw [Int.mul_add, Int.mul_one]
    rw [e]
    show (((L + 1 - x).toNat + mu L s : Nat) : Int) ≤ _
    omega
/-- two that are left are parted by some asking -/
def Parts (R : List (List Bool)) (L : Int) (s : List Int) : Prop :=
  ∀ (i j : Nat) (x y : Int), i < j → s[i]? = some x → s[j]? = some y → x ≤ L → y ≤ L → ∃ r ∈ R, ∃ b c, r[i]? = some b ∧ r[j]? = some c ∧ b ≠ c
theorem aft_back {r : List Bool} {a : Bool} {s : List Int} {i : Nat} {x : Int} (h : (aft r a s)[i]? = some x) : ∃ y, s[i]? = some y ∧ y ≤ x := by
  unfold aft at h
  rw [List.getElem?_zipWith] at h
  cases h1 : s[i]? with
  | none => rw [h1] at h; simp at h
  | some y =>
    rw [h1] at h
    cases h2 : r[i]? with
    | none => rw [h2] at h; simp at h
    | some b =>
      rw [h2] at h
      have e : y + wr b a = x := Option.some.inj h
      have := wr_nn b a
      exact ⟨y, rfl, by omega⟩
theorem Parts.aft {R : List (List Bool)} {L : Int} {s : List Int} (p : Parts R L s) (r : List Bool) (a : Bool) : Parts R L (aft r a s) := fun i j x y hij h1 h2 h3 h4 => by
  obtain ⟨x', e1, l1⟩ := aft_back h1
  obtain ⟨y', e2, l2⟩ := aft_back h2
  exact p i j x' y' hij e1 e2 (by omega) (by omega)
theorem enough_mu {R : List (List Bool)} {L : Int} : ∀ (n : Nat) {s : List Int}, mu L s ≤ n → Parts R L s → enough R L n s = true
  | 0, s, h, p => by
    by_cases q : leftN L s < 2
    · exact enough_left q
    · obtain ⟨i, j, x, y, hij, h1, h2, h3, h4⟩ := left_two (L := L) (s := s) (by omega)
      obtain ⟨r, hr, b, c, hb, hc, hbc⟩ := p i j x y hij h1 h2 h3 h4
      have z := mu_aft_lt (L := L) (a := !b) (b := b) (by cases b <;> decide) h1 h3 hb
      omega
  | n + 1, s, h, p => by
    by_cases q : leftN L s < 2
    · exact enough_left q
    · obtain ⟨i, j, x, y, hij, h1, h2, h3, h4⟩ := left_two (L := L) (s := s) (by omega)
      obtain ⟨r, hr, b, c, hb, hc, hbc⟩ := p i j x y hij h1 h2 h3 h4
      have less : ∀ a, mu L (aft r a s) ≤ n := fun a => by
        by_cases e : b = a
        · have z := mu_aft_lt (L := L) (a := a) (b := c) (fun q => hbc (e.trans q.symm)) h2 h4 hc
          omega
        · have z := mu_aft_lt (L := L) (a := a) (b := b) e h1 h3 hb
          omega
      rw [enough_succ, Bool.or_eq_true]
      refine .inr (List.any_eq_true.mpr ⟨r, hr, ?_⟩)
      rw [enough_mu n (less true) (p.aft r true), enough_mu n (less false) (p.aft r false)]
      rfl

/-! ### the fewest -/
def topN (L : Int) (s : List Int) : Nat := ((1 + 2 * L) * (s.length : Int)).toNat
def fewest (R : List (List Bool)) (L : Int) (s : List Int) : Option Nat := (List.range (topN L s + 1)).find? fun m => enough R L m s
/-- it is the least one -/
def Least (R : List (List Bool)) (L : Int) (s : List Int) (m : Nat) : Prop := enough R L m s = true ∧ ∀ k, k < m → enough R L k s = false
theorem Least.uniq {R : List (List Bool)} {L : Int} {s : List Int} {m n : Nat} (h : Least R L s m) (h' : Least R L s n) : m = n := by
  rcases Nat.lt_trichotomy m n with q | q | q
  · have := h'.2 m q
    rw [h.1] at this; cases this
  · exact q
  · have := h.2 n q
    rw [h'.1] at this; cases this
theorem find_range {p : Nat → Bool} : ∀ (n k m : Nat), (List.range' k n).find? p = some m → p m = true ∧ k ≤ m ∧ m < k + n ∧ ∀ j, k ≤ j → j < m → p j = false
  | 0, k, m, h => by simp at h
  | n + 1, k, m, h => by
    rw [List.range'_succ, List.find?_cons] at h
    cases q : p k with
    | true =>
      rw [q] at h
      have e : k = m := Option.some.inj h
      subst e
      exact ⟨q, Nat.le_refl _, by omega, fun j h1 h2 => by omega⟩
    | false =>
      rw [q] at h
      obtain ⟨h1, h2, h3, h4⟩ := find_range n (k + 1) m h
      refine ⟨h1, by omega, by omega, fun j g1 g2 => ?_⟩
      by_cases e : j = k
      · rw [e]; exact q
      · exact h4 j (by omega) g2
theorem fewest_least {R : List (List Bool)} {L : Int} {s : List Int} {m : Nat} (h : fewest R L s = some m) : Least R L s m ∧ m ≤ topN L s := by
  unfold fewest at h
  rw [List.range_eq_range'] at h
  obtain ⟨h1, _, h3, h4⟩ := find_range _ _ _ h
  exact ⟨⟨h1, fun k hk => h4 k (Nat.zero_le _) hk⟩, by omega⟩
theorem fewest_none {R : List (List Bool)} {L : Int} {s : List Int} (h : fewest R L s = none) {m : Nat} (hm : m ≤ topN L s) : enough R L m s = false := by
  unfold fewest at h
  rw [List.find?_eq_none] at h
  have := h m (List.mem_range.mpr (by omega))
  simpa using this
theorem fewest_of {R : List (List Bool)} {L : Int} {s : List Int} {m : Nat} (h : Least R L s m) (hm : m ≤ topN L s) : fewest R L s = some m := by
  cases q : fewest R L s with
  | none =>
    have := fewest_none q hm
    rw [h.1] at this; cases this
  | some n => rw [(fewest_least q).1.uniq h]
theorem mu_top {L : Int} (hL : 0 ≤ L) {s : List Int} (hs : ∀ x ∈ s, 0 ≤ x) : mu L s ≤ topN L s := by
  have h := mu_le hL hs
  have z : (L + 1) * (s.length : Int) ≤ (1 + 2 * L) * (s.length : Int) := Int.mul_le_mul_of_nonneg_right (by omega) (Int.natCast_nonneg _)
  unfold topN
  omega
theorem fewest_parts {R : List (List Bool)} {L : Int} (hL : 0 ≤ L) {s : List Int} (hs : ∀ x ∈ s, 0 ≤ x) (p : Parts R L s) : ∃ m, fewest R L s = some m := by
  have h := enough_mu (topN L s) (mu_top hL hs) p
  cases q : fewest R L s with
  | none =>
    have := fewest_none q (Nat.le_refl _)
    rw [h] at this; cases this
  | some m => exact ⟨m, rfl⟩
theorem fewest_never {R : List (List Bool)} {L : Int} {i j : Nat} {s : List Int} {x y : Int} (hij : i < j) (hR : ∀ r ∈ R, ∃ b, r[i]? = some b ∧ r[j]? = some b) (h1 : s[i]? = some x) (h2 : s[j]? = some y) (h3 : x ≤ L) (h4 : y ≤ L) :
    fewest R L s = none := by
  cases q : fewest R L s with
  | none => rfl
  | some m =>
    have := (fewest_least q).1.1
    rw [never hij hR m h1 h2 h3 h4] at this; cases this
theorem fewest_congr {R : List (List Bool)} {L : Int} {s s' : List Int} (h : cap L s = cap L s') : fewest R L s = fewest R L s' := by
  have e : topN L s = topN L s' := by
    unfold topN
    rw [← cap_length L s, h, cap_length]
  unfold fewest
  rw [e]
  congr 1
  funext m
  exact enough_congr R L m h
theorem fewest_zero {R : List (List Bool)} {L : Int} {s : List Int} (h : leftN L s < 2) : fewest R L s = some 0 := fewest_of ⟨enough_left h, fun k hk => absurd hk (Nat.not_lt_zero _)⟩ (Nat.zero_le _)

/-! ### what is asked next -/
def right (R : List (List Bool)) (L : Int) (m : Nat) (s : List Int) (r : List Bool) : Bool := enough R L m (aft r true s) && enough R L m (aft r false s)
def nextI (R : List (List Bool)) (L : Int) (s : List Int) : Option Nat := match fewest R L s with
  | some (m + 1) => R.findIdx? (right R L m s)
  | _ => none
theorem right_congr {R : List (List Bool)} {L : Int} {m : Nat} {s s' : List Int} (h : cap L s = cap L s') (r : List Bool) : right R L m s r = right R L m s' r := by
  unfold right
  rw [enough_congr R L m (aft_cap_congr (a := true) (r := r) h), enough_congr R L m (aft_cap_congr (a := false) (r := r) h)]
theorem nextI_congr {R : List (List Bool)} {L : Int} {s s' : List Int} (h : cap L s = cap L s') : nextI R L s = nextI R L s' := by
  unfold nextI
  rw [fewest_congr h]
  split
  · congr 1
    funext r
    exact right_congr h r
  · rfl
theorem next_some {R : List (List Bool)} {L : Int} {s : List Int} {m : Nat} (h : fewest R L s = some (m + 1)) : ∃ i r, nextI R L s = some i ∧ R[i]? = some r ∧ right R L m s r = true := by
  have hl := (fewest_least h).1
  have e := hl.1
  have n0 : ¬ leftN L s < 2 := fun q => by
    rw [fewest_zero q] at h; cases h
  rw [enough_succ, decide_eq_false n0, Bool.false_or, List.any_eq_true] at e
  obtain ⟨r0, hr0, q0⟩ := e
  cases q : R.findIdx? (right R L m s) with
  | none =>
    rw [List.findIdx?_eq_none_iff] at q
    have := q r0 hr0
    unfold right at this
    rw [this] at q0; cases q0
  | some i =>
    obtain ⟨hlt, hi, _⟩ := List.findIdx?_eq_some_iff_getElem.mp q
    refine ⟨i, R[i], ?_, List.getElem?_eq_getElem hlt, hi⟩
    unfold nextI
    rw [h]
    exact q
theorem next_none {R : List (List Bool)} {L : Int} {s : List Int} {m : Nat} (h : fewest R L s = some m) (hn : nextI R L s = none) : m = 0 := by
  cases m with
  | zero => rfl
  | succ m =>
    obtain ⟨i, r, e, _⟩ := next_some h
    rw [e] at hn; cases hn
theorem next_zero {R : List (List Bool)} {L : Int} {s : List Int} (h : fewest R L s = some 0) : nextI R L s = none := by unfold nextI; rw [h]
theorem next_no {R : List (List Bool)} {L : Int} {s : List Int} (h : fewest R L s = none) : nextI R L s = none := by unfold nextI; rw [h]
/-- behind the next asking one fewer is enough -/
theorem next_less {R : List (List Bool)} {L : Int} {s : List Int} {m : Nat} {r : List Bool} (hr : r.length = s.length) (h : right R L m s r = true) (hm : m ≤ topN L s) (a : Bool) : ∃ k, fewest R L (aft r a s) = some k ∧ k ≤ m := by
  have e : enough R L m (aft r a s) = true := by
    unfold right at h
    rw [Bool.and_eq_true] at h
    cases a with
    | true => exact h.1
    | false => exact h.2
  have et : topN L (aft r a s) = topN L s := by
    unfold topN
    rw [aft_length hr]
  cases q : fewest R L (aft r a s) with
  | none =>
    have := fewest_none q (m := m) (by omega)
    rw [e] at this; cases this
  | some k =>
    refine ⟨k, rfl, ?_⟩
    rcases Nat.lt_or_ge m k with z | z
    · have := (fewest_least q).1.2 m z
      rw [e] at this; cases this
    · exact z
end P81
end
section
set_option Elab.async false
set_option linter.all false
set_option maxRecDepth 100000
set_option maxHeartbeats 4000000
/-! len(set(xs)) of a list of unlike texts. -/
namespace ST
open PySem PySem.Spec PyProof.Rows
/-- the first i of the texts, as a set's test -/
def inFirst (xs : List Str) (i : Nat) : Str → Bool := fun y => (xs.take i).any fun x => x == y
theorem inFirst_next {xs : List Str} (hd : xs.Nodup) {i : Nat} (hi : i < xs.length) : inFirst xs i (xs.getD i Str.empty) = false ∧ ∀ y, (inFirst xs i y || decide (y = xs.getD i Str.empty)) = inFirst xs (i + 1) y := by
  have e : xs.getD i Str.empty = xs[i] := by
    rw [List.getD_eq_getElem?_getD, List.getElem?_eq_getElem hi]
    rfl
  rw [e]
  constructor
  · cases q : inFirst xs i xs[i] with
    | false => rfl
    | true =>
      obtain ⟨z, hz, ez⟩ := List.any_eq_true.mp q
      obtain ⟨j, hj⟩ := List.mem_iff_getElem?.mp hz
      rw [List.getElem?_take] at hj
      split at hj
      · rename_i hji
        obtain ⟨hl, ej⟩ := List.getElem?_eq_some_iff.mp hj
        exact absurd (ej.trans (eq_of_beq ez)) (List.pairwise_iff_getElem.mp hd j i hl hi hji)
      · cases hj
  · intro y
    unfold inFirst
    rw [List.take_add_one, List.getElem?_eq_getElem hi, Option.toList_some, List.any_append]
    congr 1
    rw [List.any_cons, List.any_nil, Bool.or_false]
    by_cases q : y = xs[i]
    · rw [decide_eq_true q, q]; exact (beq_self_eq_true _).symm
    · rw [decide_eq_false q]; exact (beq_eq_false_iff_ne.mpr fun z => q z.symm).symm
section
variable {prog : Program} {w : World} {A : Around} {R : Result → Shared → Prop} {I : Addr} {fp wr : List Addr} {G : Array GenState → Array GenState → Prop} {n : Nat} {P : Nat → Value → Prop} {St : Nat → Shared → Prop}
theorem loopT (W : WalksS prog w A.in1 I fp wr G n P St) (S : Addr) (hSf : S ∉ fp) (xs : List Str) (hsz : xs.length = n) (hd : xs.Nodup) (hb : n + 1 < scanBound)
    (hval : ∀ i v, P i v → ∃ t, v = .str (xs.getD i Str.empty) t) : ∀ (k i : Nat) (s : Shared), n - i = k → i ≤ n → St i s → s.heap.SetOf (PySem.strKind prog w) S (inFirst xs i) i →
      (∀ s', Moved (S :: wr) G s s' → s'.heap.SetOf (PySem.strKind prog w) S (inFirst xs n) n → R (.ok (.ret .none)) s') → codeAny (model prog w) A (.builtin "set.update.loop" ⟨[.ref S, .ref I], []⟩) R s := by
  have nw : S ∉ wr := fun h => hSf (W.sub _ h)
  have sub : ∀ b ∈ wr, b ∈ S :: wr := fun b hb => List.mem_cons_of_mem _ hb
  intro k
  induction k with
  | zero =>
    intro i s hk hi hst hS hR
    obtain rfl : i = n := by omega
    refine codeAny_builtin F.entry_set_update_loop ?_
    rw [Around.under_plainId F.plain_set_update_loop _]
    show wpAny _ A.in1 (pyNext (.ref I) >>= _) _ _ s
    refine wpAny_bind (W.done s _ _ hst fun s' hm => ?_)
    show wpAny _ A.in1 (ret Value.none) _ _ s'
    obtain ⟨o, es, ep, t, ho, rest⟩ := hS
    exact wpAny_pure (hR s' (hm.mono sub) ⟨o, es, ep, t, hm.heap S _ nw ho, rest⟩)
  | succ k ih =>
    intro i s hk hi hst hS hR
    have hlt : i < n := by omega
    refine codeAny_builtin F.entry_set_update_loop ?_
    rw [Around.under_plainId F.plain_set_update_loop _]
    show wpAny _ A.in1 (pyNext (.ref I) >>= _) _ _ s
    refine wpAny_bind (W.item i s _ _ hlt hst fun v s' hP hst' hm => ?_)
    obtain ⟨t, rfl⟩ := hval i v hP
    have hS' : s'.heap.SetOf (PySem.strKind prog w) S (inFirst xs i) i := by
      obtain ⟨o, es, ep, tb, ho, rest⟩ := hS
      exact ⟨o, es, ep, tb, hm.heap S _ nw ho, rest⟩
    obtain ⟨no, next⟩ := inFirst_next hd (show i < xs.length by omega)
    show wpAny _ A.in1 (holding [Value.str (xs.getD i Str.empty) t] (setAdd S (.str (xs.getD i Str.empty) t)) >>= _) _ _ s'
    refine wpAny_bind (wpAny_holding ?_)
    unfold setAdd
    refine wpAny_holding (wpAny_bind ((PySem.strKind prog w).pyHash (k := xs.getD i Str.empty) (strKind_is _ _ _ _) ?_))
    refine wpAny_setAddHashed_of (knd := PySem.strKind prog w) (s := { s' with toks := s'.toks + 1 }) (strKind_is _ _ _ _) rfl hS' (by omega) fun h' hsb hS2 => ?_
    have here : h'.SetOf (PySem.strKind prog w) S (inFirst xs (i + 1)) (i + 1) := SetOf_congr hS2 next (by rw [no]; rfl)
    refine wpAny_pure ⟨plainId_quiet F.plain_set_update_loop _, ih (i + 1) _ (by omega) hlt (W.frame _ s' _ _ hst' (Nat.le_succ _) fun b hb o e => ?_) here fun s'' hm'' hS'' => ?_⟩
    · rw [hsb.2 b (fun z : b = S => hSf (z ▸ hb))]; exact e
    · refine hR s'' (Moved.trans W.gtrans ((hm.mono sub).then_heap (Nat.le_succ _) fun b o hb e => ?_) hm'') hS''
      rw [hsb.2 b (fun z : b = S => hb (by rw [z]; exact List.mem_cons_self))]; exact e
end
section
variable {prog : Program} {w : World} {A : Around} {E : Value → Shared → Prop} {s : Shared}
theorem call_setT {l : Addr} {items : Array Value} {xs : List Str} {Q : Value → Shared → Prop} (hh : A.handled = none) (hl : s.heap.IsList l items) (hi : StrsAre items.toList xs) (hd : xs.Nodup) (hb : xs.length + 1 < scanBound)
    (h : ∀ (h' : Heap) (tk : Nat), h'.SetOf (PySem.strKind prog w) s.heap.objs.size (inFirst xs xs.length) xs.length → (∀ b o, b < s.heap.objs.size → s.heap.get? b = some o → h'.get? b = some o) → Q (.ref s.heap.objs.size) { s with heap := h', toks := tk }) :
    wpAny (model prog w) A (call (.type "set") [.ref l]) Q E s := by
  obtain ⟨c, tl, hmro⟩ := PySem.F.called_set.mro
  have hmade := PySem.F.called_set.made
  have hsub := PySem.F.called_set.sub
  refine wpAny_call (codeAny_of_tree ?_)
  show wpAny _ _ (callAny (.type "set") _) _ _ _
  refine wpAny_pure ⟨Code.quiet_builtin _ (by decide +kernel), codeAny_builtin PySem.F.entry_type_call ?_⟩
  rw [Around.under_plain (weight_type_call_type "set" [.ref l] []) rfl]
  have h1 := PySem.F.called_set.notType
  have h2 := PySem.F.called_set.canCreate
  have hct := PySem.F.typeCall_set_1 (.ref l)
  repeat (any_goals (first | assumption | wp_step))
  refine codeAny_mono (code_set_new_1 (.ref l) (E := E) (Q₁ := fun obj s₁ => ∃ led : Bool, obj = .ref s.heap.objs.size ∧ s₁ = { s with heap := s.heap.push { cls := .type "set", dict := none, data := .set #[] 0 (.fresh 0 0 led) } }) fun led => ⟨led, rfl, rfl⟩) fun r s₁ hr => ?_
  match r, hr with
  | .error e, hr => exact hr
  | .ok (.ret obj), hr =>
    obtain ⟨led, rfl, rfl⟩ := hr
    have hS : (s.heap.push { cls := .type "set", dict := none, data := .set #[] 0 (.fresh 0 0 led) }).get? s.heap.objs.size = some { cls := .type "set", dict := none, data := .set #[] 0 (.fresh 0 0 led) } := Heap.get?_push_size _ rfl
    have hT : Shared.TypeIs { s with heap := s.heap.push { cls := .type "set", dict := none, data := .set #[] 0 (.fresh 0 0 led) } } (.ref s.heap.objs.size) "set" := ⟨_, hS, rfl⟩
    have hli := PySem.F.called_set.init.lookup
    have hbi := PySem.F.called_set.init.bind (.ref s.heap.objs.size)
    repeat (any_goals (first | assumption | wp_step))
    refine codeAny_mono (codeAny_call_builtin (R := wants (fun r s₂ => r = .none ∧ ∃ h' tk, s₂ = { s with heap := h', toks := tk } ∧ h'.SetOf (PySem.strKind prog w) s.heap.objs.size (inFirst xs xs.length) xs.length ∧
        (∀ b o, b < s.heap.objs.size → s.heap.get? b = some o → h'.get? b = some o)) E) PySem.F.called_set.init.plain PySem.F.entry_set_init (check_set_init_1 hT ?_)) fun r₂ s₂ hr₂ => ?_
    · obtain ⟨⟨ocls, odict, odata, oslots⟩, hol, hcl, nl, hdl⟩ := hl
      simp only at hcl hdl
      subst hcl hdl
      have hol' := Heap.get?_push_of_some ({ cls := .type "set", dict := none, data := .set #[] 0 (.fresh 0 0 led) } : Obj) hol
      have hsls := PySem.F.sub_list_set
      have hslf := PySem.F.sub_list_frozenset
      have hne : (Value.type "list" == Value.type "dict") = false := by decide
      have hl1 : (s.heap.push { cls := .type "set", dict := none, data := .set #[] 0 (.fresh 0 0 led) }).IsList l items := ⟨_, hol', rfl, nl, rfl⟩
      unfold Builtin.«set.__init__» noKeywords Builtin.Frozenset.updateFrom
      generalize hPI : pyIter = PI
      wp_walk
      subst hPI
      refine wpAny_pyIter_list hl1 ?_
      refine wpAny_bind (wpAny_runValue ?_)
      have hlS : l < s.heap.objs.size := Heap.lt_size hol
      have hh3 : A.in1.in1.in1.handled = none := hh
      have z1 : (s.heap.push { cls := .type "set", dict := none, data := .set #[] 0 (.fresh 0 0 led) }).objs.size = s.heap.objs.size + 1 := Heap.size_push ..
      have hneI : l ≠ (s.heap.push { cls := .type "set", dict := none, data := .set #[] 0 (.fresh 0 0 led) }).objs.size := by rw [z1]; exact Nat.ne_of_lt (Nat.lt_succ_of_lt hlS)
      have hSf : s.heap.objs.size ∉ [(s.heap.push { cls := .type "set", dict := none, data := .set #[] 0 (.fresh 0 0 led) }).objs.size, l] := by
        rw [z1]; simp only [List.mem_cons, List.not_mem_nil, or_false, not_or]
        exact ⟨Nat.ne_of_lt (Nat.lt_succ_self _), Nat.ne_of_gt hlS⟩
      have hsz : xs.length = items.size := by rw [← StrsAre.len_eq hi, Array.length_toList]
      have hval : ∀ (i : Nat) (v : Value), items[i]? = some v → ∃ t, v = .str (xs.getD i Str.empty) t := fun i v hv => SS.strs_at hi i v (by rw [Array.getElem?_toList]; exact hv)
      have W := (Walks.list (prog := prog) (w := w) hh3 (s.heap.push { cls := .type "set", dict := none, data := .set #[] 0 (.fresh 0 0 led) }).objs.size l hneI items).toS
      rw [← hsz] at W
      refine loopT W s.heap.objs.size hSf xs rfl hd hb hval (xs.length - 0) 0 _ (by omega) (Nat.zero_le _) ⟨⟨_, Heap.get?_push_size _ rfl, rfl, rfl⟩, hl1.push _⟩ ?_ ?_
      · have hget := Heap.get?_push_of_some ({ cls := .type "list_iterator", data := .fields #[.ref l, .int 0 0] } : Obj) hS
        exact SetOf_congr ((setObjOf_fresh (knd := PySem.strKind prog w) led).setOf hget (by unfold scanBound; omega)) (fun _ => rfl) rfl
      · intro s' hm hS'
        obtain ⟨h', g', d', tk', os'⟩ := s'
        obtain rfl : g' = s.gens := hm.gens
        obtain rfl : d' = s.drawn := hm.drawn
        obtain rfl : os' = s.os := hm.os
        show wpAny _ _ _ _ _ _
        refine wpAny_pure ?_
        show wpAny _ _ (ret Value.none) _ _ _
        refine wpAny_pure ⟨rfl, h', tk', rfl, hS', fun b u hb e => ?_⟩
        have b1 : b ≠ s.heap.objs.size := Nat.ne_of_lt hb
        have b2 : b ≠ (s.heap.push { cls := .type "set", dict := none, data := .set #[] 0 (.fresh 0 0 led) }).objs.size := by rw [z1]; exact Nat.ne_of_lt (Nat.lt_succ_of_lt hb)
        exact hm.heap b u (by simp only [List.mem_cons, List.not_mem_nil, or_false, not_or]; exact ⟨b1, b2⟩) (Heap.get?_push_of_some _ (Heap.get?_push_of_some _ e))
    · match r₂, hr₂ with
      | .error e, hr₂ => exact hr₂
      | .ok (.ret r), hr₂ =>
        obtain ⟨rfl, h', tk, rfl, hS', hk'⟩ := hr₂
        repeat (any_goals (first | assumption | wp_step))
        exact h _ _ hS' hk'
      | .ok .next, hr₂ => exact hr₂.elim
      | .ok .brk, hr₂ => exact hr₂.elim
      | .ok .cont, hr₂ => exact hr₂.elim
  | .ok .next, hr => exact hr.elim
  | .ok .brk, hr => exact hr.elim
  | .ok .cont, hr => exact hr.elim
end
open L2
def tLenT (K : PySem.W.Frag) (ta : TE) : TE := fun σ H Q => ta σ H fun x H1 => ∃ (l : Addr) (xs : List Str), x = .ref l ∧ SqL K H1 l (xs.map V.str) ∧ xs.Nodup ∧ xs.length ≤ 1000 ∧ Q (.int xs.length) H1
theorem pe_lenT {X : Cx} {a : Expr} {ta : TE} {p p2 q pos : Pos} (hg : Gl X "len") (hm : X.mg "len" = none) (hg2 : Gl X "set") (hm2 : X.mg "set" = none) (ha : PE X a ta) (hc : X.calm = true := by rfl)
    (na : starEach [a] X.env = (false, eval a X.env) :: starEach [] X.env := by rfl) : PE X (.Call (.Name "len" p) [.Call (.Name "set" p2) [a] [] q] [] pos) (tLenT X.K ta) := by
  refine ⟨fun pins s σ H Q I h => ?_⟩
  refine Call_ (ld_blt I hg hm boot_len ?_)
  refine PyProof.Rows.callWith_builtin1 (PyProof.Rows.args_cons ?_ rfl) rfl rfl
  refine Call_ (ld_blt I hg2 hm2 boot_set ?_)
  refine PyProof.Rows.callWith_type1 (PyProof.Rows.args_cons (thn (ha.run pins s σ H _ I h) fun v s1 ⟨x, H1, I1, r1, q1⟩ => PyProof.Rows.args_nil ?_) na) na rfl
  obtain ⟨l, xs, rfl, hq, hnd, hl, q1⟩ := q1
  cases r1
  obtain ⟨its, r, pl, hz⟩ := I1.list hq
  refine call_setT (I1.ok.hd hc) pl.isList (by simpa using strsAre_of r) hnd (by unfold scanBound; omega) fun h' tk hS hk => ?_
  refine PyProof.Rows.args_nil ?_
  obtain ⟨o, es, ep, t, ho, hex, hd, _, _, _, hf, hn⟩ := hS
  have I2 : Inv X pins σ H1 { s1 with heap := h', toks := tk } := I1.kept fun b o e => hk b o (Heap.lt_size e) e
  exact call_len_set ho hex hd hf (by rw [hn] <;> omega) ⟨.int xs.length, H1, I2.tok _, ⟨_, by rw [hn]⟩, q1⟩
end ST
end
section
set_option Elab.async false
set_option linter.all false
set_option maxRecDepth 100000
set_option maxHeartbeats 4000000
/-! a tuple times one: the tuple itself; (x,) * n for every n from 1 on. -/
namespace RO
open PySem PySem.Spec PyProof.Rows L2
theorem tuple_mul1 (l : Addr) (items : Array Value) (n : Nat) (dd : Option Addr) (sl : Array (Option Value)) (u : Tok) :
    Meets (Builtin.«tuple.__mul__» ⟨[.ref l, .int 1 u], []⟩) (fun _ R s => s.heap.get? l = some { cls := .type "tuple", dict := dd, data := .seq items n, slots := sl } ∧ R (.ok (.ret (Value.ref l))) s) :=
  .of_wp fun prog w A R s h => by
    obtain ⟨hp, g, d, tk, os⟩ := s
    obtain ⟨hl, h⟩ := h
    have f1 := AutoSeq1.idx_int
    have c0 : (decide ((1 : Int) < -(2 ^ 63)) || decide ((1 : Int) ≥ 2 ^ 63)) = false := by decide
    have c1 : (items.isEmpty || (1 : Int) == 1) = true := by rw [Bool.or_eq_true]; exact .inr rfl
    have c2 : (decide ((1 : Int) ≤ 0) || items.isEmpty) = items.isEmpty := rfl
    wp_walk using wpAny_loadPart' hl
    exact ⟨_, rfl, h⟩
def rRepZ : R2 := fun x y H Q => ∃ (l : Addr) (k : Nat) (v : V), x = .ref l ∧ y = .int (k : Int) ∧ H l = some (.tup [v]) ∧ 1 ≤ k ∧ k ≤ 1000 ∧ ∀ p H', Same H H' → H' p = some (.tup (List.replicate k v)) → Q (.ref p) H'
theorem rep_flat (k : Nat) (v : V) : (List.replicate k [v]).flatten = List.replicate k v := by
  induction k with
  | zero => rfl
  | succ k ih => rw [List.replicate_succ, List.flatten_cons, ih, List.replicate_succ]; rfl
theorem op_repZ {X : Cx} : OpR X (binaryOp .Mult) rRepZ := by
  intro pins s σ H x y v u Q I rx ry h
  obtain ⟨l, k, z, rfl, rfl, hT, h1, h2, q⟩ := h
  by_cases hk : k = 1
  · subst hk
    cases rx
    obtain ⟨t, rfl⟩ := ry
    obtain ⟨_, its, r, ⟨⟨cls, dd, data, sl⟩, ho, hc, n, hd⟩⟩ := (show ObjOk X.prog X.w H s.heap l (.tup [z]) from I.hok l _ hT)
    simp only at hc hd
    subst hc hd
    refine wpAny_binaryOp_repeat_ref (T := "tuple") (U := "int") (by decide) ⟨_, ho, rfl⟩ (fun s' => typeIs_int s' 1 t) noFill_tuple_mul F.fills_int_mul F.slot_int_rmul repeat_tuple F.slot_int_index.lookup
      (call_meets F.slot_int_rmul (typeIs_int s 1 t) F.entry_int_rmul (F.args_int_rmul_2 _ _) (int_rmul_tuple 1 t l its.toArray n dd sl)
        ⟨ho, rfl, ⟨_, ho, rfl⟩, call_meets F.slot_tuple_mul ⟨_, ho, rfl⟩ F.entry_tuple_mul (F.args_tuple_mul_2 _ _) (tuple_mul1 l its.toArray n dd sl t) ⟨ho, ?_⟩⟩)
    exact ⟨.ref l, H, I, rfl, q l H (Same.refl H) hT⟩
  · refine op_repT pins s σ H (.ref l) (.int k) v u Q I rx ry ⟨l, k, [z], rfl, rfl, .inl (.inl hT), by simp, by omega, by omega, by simp, fun p hp => ?_⟩
    refine q p _ (fun b o e => by rw [upd_ne (ne_of_none e hp)]; exact e) ?_
    rw [upd_same, Int.toNat_natCast, rep_flat]
end RO
end
section
set_option Elab.async false
set_option linter.all false
set_option maxRecDepth 100000
/-! The text by places; heaps. -/
namespace P81
open PySem PySem.Spec PyProof.Rows L2
def top (i : Nat) : Stmt := PySem.Challenge.pw_patchlots_k81_whole_next_ones_asked.main.body.getD i (.Pass ⟨0, 0, 0, 0⟩)
abbrev sIsList : Stmt := top 9
abbrev sIsInteger : Stmt := top 10
abbrev sIsName : Stmt := top 11
abbrev sAreNames : Stmt := top 13
abbrev sSuspects : Stmt := top 14
abbrev sAskings : Stmt := top 15
abbrev sLies : Stmt := top 16
abbrev sAnswers : Stmt := top 17
abbrev sInit : Stmt := inClass (top 18) 0
abbrev sBegun : Stmt := inClass (top 18) 1
abbrev sBehind1 : Stmt := inClass (top 18) 2
abbrev sBehindAll : Stmt := inClass (top 18) 3
abbrev sLeft : Stmt := inClass (top 18) 4
abbrev sEnough : Stmt := inClass (top 18) 5
abbrev sRight : Stmt := inClass (top 18) 6
abbrev sUnparted : Stmt := inClass (top 18) 7
abbrev sFewest : Stmt := inClass (top 18) 8
abbrev sPossible : Stmt := top 19
abbrev sFewestOf : Stmt := top 20
abbrev sFewestAskings : Stmt := top 21
abbrev sFirstRight : Stmt := top 22
abbrev sAskNext : Stmt := top 23
abbrev sMSuspects : Stmt := top 25
abbrev sMAfter : Stmt := top 26
abbrev sMLeft : Stmt := top 27
abbrev sMEnough : Stmt := top 28
abbrev sMFewest : Stmt := top 29
abbrev sStart : Stmt := top 30
abbrev sDraw : Stmt := top 31
abbrev sPick : Stmt := top 32
abbrev sMixed : Stmt := top 33
abbrev sSame : Stmt := top 34
abbrev sDue : Stmt := top 35
abbrev sHunted : Stmt := top 36
abbrev sLaw : Stmt := top 37
/-- the built-ins' names stand for the built-ins; two constants -/
structure BI (mg : Str → Option Value) : Prop where
  isinstance : mg "isinstance" = none
  list : mg "list" = none
  tuple : mg "tuple" = none
  int : mg "int" = none
  bool : mg "bool" = none
  str : mg "str" = none
  dict : mg "dict" = none
  len : mg "len" = none
  all : mg "all" = none
  any : mg "any" = none
  set : mg "set" = none
  enumerate : mg "enumerate" = none
  range : mg "range" = none
  zip : mg "zip" = none
  min : mg "min" = none
  small : ∃ t, mg "SMALL" = some (.str "abcdefghijklmnopqrstuvwxyz" t)
  figures : ∃ t, mg "FIGURES" = some (.str "0123456789" t)

/-! ### heaps -/
/-- all is as it was, but at l -/
def But (l : List Addr) (H H' : Hp) : Prop := ∀ b o, H b = some o → b ∉ l → H' b = some o
theorem But.refl (l : List Addr) (H : Hp) : But l H H := fun _ _ h _ => h
theorem But.trans {l : List Addr} {H H1 H2 : Hp} (a : But l H H1) (b : But l H1 H2) : But l H H2 := fun c o h n => b c o (a c o h n) n
theorem Same.but {l : List Addr} {H H' : Hp} (e : Same H H') : But l H H' := fun b o h _ => e b o h
theorem But.same {H H' : Hp} (e : But [] H H') : Same H H' := fun b o h => e b o h (by simp)
theorem But.mono {l m : List Addr} {H H' : Hp} (e : But l H H') (h : ∀ b ∈ l, b ∈ m) : But m H H' := fun b o q n => e b o q fun z => n (h b z)
theorem but_upd {H : Hp} {a : Addr} {o : HO} {l : List Addr} (h : a ∈ l) : But l H (upd H a o) := fun b u e n => by
  rw [upd_ne (fun z => n (by rw [z]; exact h))]; exact e
theorem same_new {H : Hp} {p : Addr} (h : H p = none) (o : HO) : Same H (upd H p o) := fun b x e => by
  rw [upd_ne (ne_of_none e h)]; exact e
theorem ifT {A B : Prop} (h : A) : (if true = true then A else B) := by rw [if_pos rfl]; exact h
/-- no test: the element -/
theorem yesI {te : TE} {σ : L2.St} {H : Hp} {A : VK} {B : Hp → Prop} (h : te σ H A) : tYes σ H (fun b H3 => if b = true then te σ H3 A else B H3) :=
  ifT (A := te σ H A) (B := B H) h
theorem small {n : Nat} (h : n ≤ 1000) : n ≤ sizeLine := Nat.le_of_lt (small1000 h)

/-! ### the layer's rules with the written part named (for comprehensions) -/
def rListOf (K : PySem.W.Frag) : List V → Hp → VK → Prop := fun xs H Q => ∃ p ys, xs = [.ref p] ∧ (SqL K H p ys ∨ SqT K H p ys) ∧ ∀ l, H l = none → Q (.ref l) (upd H l (.lst ys))
theorem crListOf {X : Cx} (K : PySem.W.Frag) (hk : X.K = K := by rfl) : CallR X (.type "list") (rListOf K) := by subst hk; exact call_list_of
def rLenS (K : PySem.W.Frag) : List V → Hp → VK → Prop := fun xs H Q => ∃ p ys, xs = [.ref p] ∧ (SqL K H p ys ∨ SqT K H p ys) ∧ Q (.int ys.length) H
theorem crLen {X : Cx} (K : PySem.W.Frag) (hk : X.K = K := by rfl) : CallR X (.builtin "len") (rLenS K) := by subst hk; exact call_len_seq
theorem ixT {X : Cx} (K : PySem.W.Frag) (hk : X.K = K := by rfl) : IxR X (rIxT K) := by subst hk; exact ix_tup
theorem ixL {X : Cx} (K : PySem.W.Frag) (hk : X.K = K := by rfl) : IxR X (rIxL K) := by subst hk; exact ix_list
theorem opIn {X : Cx} (K : PySem.W.Frag) (hk : X.K = K := by rfl) : OpR X (compareOp .In) (rIn K false) := by subst hk; exact op_in_seq
theorem slL {X : Cx} (K : PySem.W.Frag) (hk : X.K = K := by rfl) : SlR X (rSlL K) := by subst hk; exact sl_list
def rTupOf (K : PySem.W.Frag) : List V → Hp → VK → Prop := fun xs H Q => ∃ p ys, xs = [.ref p] ∧ SqL K H p ys ∧ ∀ l, H l = none → Q (.ref l) (upd H l (.tup ys))
theorem crTupOf {X : Cx} (K : PySem.W.Frag) (hk : X.K = K := by rfl) : CallR X (.type "tuple") (rTupOf K) := by
  subst hk
  intro pins s σ H xs us Q I r h
  obtain ⟨p, ys, e, hq, q⟩ := h
  exact call_tuple_of pins s σ H xs us Q I r ⟨p, ys, e, .inl ⟨hq, q⟩⟩
theorem pfld {X : Cx} (K : PySem.W.Frag) {e : Expr} {ta : TE} {f : Str} {pos : Pos} (he : PE X e ta) (hb : attributeBase e f X.env (eval e X.env) = eval e X.env) (hk : X.K = K := by rfl) : PE X (.Attribute e f pos) (tFld K ta f) := by subst hk; exact pe_fld he hb
end P81
end
section
set_option Elab.async false
set_option linter.all false
set_option maxRecDepth 100000
set_option maxHeartbeats 4000000
namespace P81
open PySem PySem.Spec PyProof.Rows L2
section
variable {P : Program} {w : World} {K : PySem.W.Frag} {mg : Str → Option Value} {base : Heap}
theorem scIsList : FnScope ["thing"] ["thing"] (defScope sIsList) := ⟨rfl, rfl, rfl, by decide +kernel, rfl, by decide +kernel, by decide +kernel⟩
/-- a list or a tuple that stands -/
def LT (H : Hp) (a : Addr) : Prop := (∃ xs, H a = some (.lst xs)) ∨ ∃ xs, H a = some (.tup xs)
def spIsList : Sp := fun vs H Q _ => ∃ a, vs = [.ref a] ∧ LT H a ∧ ∀ H', Same H H' → Q (.bl true) H'
theorem ok_is_list {f : Addr} {fd : FuncData} (F : Fun K "is_list" "is_list" sIsList f fd) (T : BI mg) : FnOk P w K mg base CX0 1 f fd ["thing"] spIsList := by
  refine F.ok scIsList (fun vs H Q E h => ?_) (fun cdv A outer s H vs Q E hr h => ?_)
  · obtain ⟨a, rfl, _⟩ := h
    rfl
  obtain ⟨a, rfl, hA, q⟩ := h
  refine ⟨_, pss_one (ps_ret (pe_callB call_isiT (by rfl) T.isinstance (by decide +kernel) (pa_cons (pv 0) (pa_cons (pe_tup (pa_cons (pe_bltn (v := .ty "list") (by rfl) T.list (by decide +kernel) rfl) (pa_cons (pe_bltn (v := .ty "tuple") (by rfl) T.tuple (by decide +kernel) rfl) pa_nil))) pa_nil)))), ?_⟩
  refine ⟨_, rfl, by show 2 ≤ sizeLine; decide, fun t ht => ?_⟩
  have s1 : Same H (upd H t (.tup [.ty "list", .ty "tuple"])) := same_new ht _
  rcases hA with ⟨xs, e⟩ | ⟨xs, e⟩
  · refine ⟨.ref a, t, _, .type "list", [.type "list", .type "tuple"], true, rfl, upd_same, .cons (.ty _) (.cons (.ty _) .nil), .base (.lst (s1 _ _ e)), kitAny_cons (b := true) (kit_ty (by decide +kernel)) (fun z => nomatch z) (fun _ => rfl), q _ s1⟩
  · refine ⟨.ref a, t, _, .type "tuple", [.type "list", .type "tuple"], true, rfl, upd_same, .cons (.ty _) (.cons (.ty _) .nil), .base (.tup (s1 _ _ e)), kitAny_cons (b := false) (kit_ty (by decide +kernel)) (fun _ => kitAny_cons (b := true) (kit_ty (by decide +kernel)) (fun z => nomatch z) (fun _ => rfl)) (fun z => nomatch z), q _ s1⟩
theorem scIsInteger : FnScope ["thing"] ["thing"] (defScope sIsInteger) := ⟨rfl, rfl, rfl, by decide +kernel, rfl, by decide +kernel, by decide +kernel⟩
def spIsInteger : Sp := fun vs H Q _ => ∃ i, vs = [.int i] ∧ Q (.bl true) H
theorem ok_is_integer {f : Addr} {fd : FuncData} (F : Fun K "is_integer" "is_integer" sIsInteger f fd) (T : BI mg) : FnOk P w K mg base CX0 1 f fd ["thing"] spIsInteger := by
  refine F.ok scIsInteger (fun vs H Q E h => ?_) (fun cdv A outer s H vs Q E hr h => ?_)
  · obtain ⟨a, rfl, _⟩ := h
    rfl
  obtain ⟨i, rfl, q⟩ := h
  refine ⟨_, pss_one (ps_ret (pe_and (pe_callB call_isi (by rfl) T.isinstance (by decide +kernel) (pa_cons (pv 0) (pa_cons (pe_bltn (v := .ty "int") (by rfl) T.int (by decide +kernel) rfl) pa_nil)))
    (pe_one (pe_not (pe_callB call_isi (by rfl) T.isinstance (by decide +kernel) (pa_cons (pv 0) (pa_cons (pe_bltn (v := .ty "bool") (by rfl) T.bool (by decide +kernel) rfl) pa_nil))))))), ?_⟩
  refine ⟨_, rfl, .int i, .ty "int", .type "int", .type "int", true, rfl, .ty _, .base (.int _), kit_ty (by decide +kernel), true, rfl, iteT ?_⟩
  exact ⟨_, rfl, .int i, .ty "bool", .type "int", .type "bool", false, rfl, .ty _, .base (.int _), kit_ty (by decide +kernel), false, rfl, q⟩
end
end P81
end
section
set_option Elab.async false
set_option linter.all false
set_option maxRecDepth 100000
set_option maxHeartbeats 4000000
namespace P81
open PySem PySem.Spec PyProof.Rows L2
abbrev smallS : Str := "abcdefghijklmnopqrstuvwxyz"
abbrev figS : Str := "0123456789"
/-- a name, as the program asks -/
structure NameOk (x : Str) : Prop where
  one : 1 ≤ x.length
  most : x.length ≤ 12
  first : ∃ c, x.cps[0]? = some c ∧ c ∈ smallS.cps.toList
  rest : ∀ (i : Nat) (c : Nat), x.cps[i]? = some c → c ∈ smallS.cps.toList ∨ c ∈ figS.cps.toList
section
variable {P : Program} {w : World} {K : PySem.W.Frag} {mg : Str → Option Value} {base : Heap}
theorem scIsName : FnScope ["thing", "sign"] ["thing"] (defScope sIsName) := ⟨rfl, rfl, rfl, by decide +kernel, rfl, by decide +kernel, by decide +kernel⟩
def spIsName : Sp := fun vs H Q _ => ∃ x, vs = [.str x] ∧ NameOk x ∧ ∀ H', Same H H' → Q (.bl true) H'
theorem rep_snoc (i : Nat) : (List.replicate i true).map V.bl ++ [V.bl true] = (List.replicate (i + 1) true).map V.bl := by
  rw [List.replicate_succ', List.map_append]
  rfl
theorem all_rep (n : Nat) : (List.replicate n true).all id = true := by
  rw [List.all_eq_true]
  intro b hb
  rw [(List.mem_replicate.mp hb).2]
  rfl
theorem ok_is_name {f : Addr} {fd : FuncData} (F : Fun K "is_name" "is_name" sIsName f fd) (T : BI mg) : FnOk P w K mg base CX0 1 f fd ["thing"] spIsName := by
  refine F.ok scIsName (fun vs H Q E h => ?_) (fun cdv A outer s H vs Q E hr h => ?_)
  · obtain ⟨a, rfl, _⟩ := h
    rfl
  obtain ⟨x, rfl, hx, q⟩ := h
  obtain ⟨tS, hS⟩ := T.small
  obtain ⟨tF, hF⟩ := T.figures
  refine ⟨_, pss_cons (ps_if (PW.pt (pw_or (pt_not (pt_val (pe_callB call_isi (by rfl) T.isinstance (by decide +kernel) (pa_cons (pv 0) (pa_cons (pe_bltn (v := .ty "str") (by rfl) T.str (by decide +kernel) rfl) pa_nil)))))
      (pw_or (pt_not (pt_chain op_le op_le pe_int (pe_callB call_len_str (by rfl) T.len PySem.boot_len (pa_cons (pv 0) pa_nil)) pe_int))
      (pw_or1 (pt_cmpR op_notIn_sign (pe_item_str (pv 0) pe_int (fun _ _ => rfl)) (pe_glob (v := .str smallS) (by rfl) hS ⟨_, rfl⟩) rfl)))))
      (pss_one (ps_ret pe_bl)) pss_nil)
    (pss_one (ps_ret (pe_callB (cr_all rfl) (by rfl) T.all (by decide +kernel) (pa_cons (pe_lc (own := [("sign", 1)]) (g := gName 1) (tt := tYes) rfl scIsName.nd (pi_str (pv 0)) (blkOk_by (N := ["thing", "sign"]) (sc := defScope sIsName) (by decide +kernel))
      (fun _ _ _ _ _ => pg_name (i := 1) scIsName.nd rfl (Or.inl rfl)) (fun _ _ _ _ _ => pts_nil)
      (fun _ _ _ _ _ => pe_or (pe_cmpR op_in_sign (pv 1) (pe_glob (v := .str smallS) (by rfl) hS ⟨_, rfl⟩) rfl) (pe_one (pe_cmpR op_in_sign (pv 1) (pe_glob (v := .str figS) (by rfl) hF ⟨_, rfl⟩) rfl)))) pa_nil)))), ?_⟩
  have hl : x.length ≤ sizeLine := small (Nat.le_trans hx.most (by decide))
  have o := hx.one
  have m := hx.most
  obtain ⟨c, hc, hcS⟩ := hx.first
  refine ⟨_, rfl, .str x, .ty "str", .type "str", .type "str", true, rfl, .ty _, .base (.str _), kit_ty (by decide +kernel), true, rfl, iteF ?_⟩
  refine ⟨_, rfl, x, rfl, hl, 1, x.length, rfl, rfl, _, rfl, ?_⟩
  rw [decide_eq_true (show (1 : Int) ≤ x.length by omega)]
  refine iteT ⟨x.length, 12, rfl, rfl, _, rfl, ?_⟩
  rw [decide_eq_true (show (x.length : Int) ≤ 12 by omega)]
  refine iteF ⟨_, rfl, x, 0, c, rfl, rfl, by decide, by decide, by omega, hc, c, smallS, rfl, rfl, _, rfl, ?_⟩
  rw [decide_eq_true hcS]
  refine iteF ⟨_, rfl, x, rfl, fun D nD => ?_⟩
  refine lc_it (walk_str (z := x)) (fun i H' => H' D = some (.lst ((List.replicate i true).map V.bl)) ∧ Same H H') ⟨upd_same, same_new nD _⟩ (fun _ _ _ _ => True.intro) ?_ ?_
  · rintro i y H1 H2 hi ⟨e1, e2⟩ ⟨rfl, d, hd, rfl⟩
    refine ⟨rfl, yesI ⟨_, rfl, d, smallS, rfl, rfl, _, rfl, ?_⟩⟩
    have fin : ∃ acc, H2 D = some (HO.lst acc) ∧ acc.length < sizeLine ∧ (upd H2 D (.lst (acc ++ [V.bl true]))) D = some (.lst ((List.replicate (i + 1) true).map V.bl)) ∧ Same H (upd H2 D (.lst (acc ++ [V.bl true]))) :=
      ⟨_, e1, by rw [List.length_map, List.length_replicate]; exact small1000 (Nat.le_of_lt (Nat.lt_of_lt_of_le hi (Nat.le_trans m (by decide)))), by rw [upd_same, rep_snoc], fun b u e => by
        rw [upd_ne (ne_of_none e nD)]; exact e2 b u e⟩
    by_cases q1 : d ∈ smallS.cps.toList
    · rw [decide_eq_true q1]
      exact iteT fin
    · rw [decide_eq_false q1]
      refine iteF ⟨_, rfl, d, figS, rfl, rfl, ?_⟩
      rw [decide_eq_true ((hx.rest i d hd).resolve_left q1)]
      exact fin
  · rintro H2 ⟨e1, e2⟩
    refine ⟨D, _, rfl, SqL.of e1, ?_⟩
    rw [all_rep]
    exact q H2 e2
end
end P81
end
section
set_option Elab.async false
set_option linter.all false
set_option maxRecDepth 100000
set_option maxHeartbeats 4000000
namespace P81
open PySem PySem.Spec PyProof.Rows L2 ZG
/-- a def of the top as it stands -/
structure DefAt (K : PySem.W.Frag) (mg : Str → Option Value) (x : Str) (st : Stmt) (ps : List Str) (f : Addr) (fd : FuncData) : Prop where
  F : Fun K x x st f fd
  g : mg x = some (.ref f)
  b : Binds K fd ps []
/-- a list (or tuple) walked -/
def ItS (K : PySem.W.Frag) (t : Bool) (a : Addr) : It := match t with
  | false => Itl K a
  | true => Itt K a
theorem walkS {K : PySem.W.Frag} {t : Bool} {a : Addr} {xs : List V} : Walk (ItS K t a) xs.length (fun H => Sq t K H a xs) (YAt xs) := by
  cases t with
  | false => exact walk_list
  | true => exact walk_tup
def iSeq (K : PySem.W.Frag) (t : Bool) (tl : TE) : TI := fun σ H R => tl σ H fun x H1 => ∃ a xs, x = .ref a ∧ Sq t K H1 a xs ∧ R (ItS K t a) H1
theorem pi_seq {X : Cx} {tg l : Expr} {tl : TE} (t : Bool) (hl : PE X l tl) : PI X tg l (iSeq X.K t tl) := by
  refine ⟨fun pins s σ H R I h => thn (hl.run pins s σ H _ I h) fun v s1 ⟨x, H1, I1, r1, a, xs, ex, hq, q⟩ => ?_⟩
  subst ex
  cases r1
  obtain ⟨its, rv, p, la⟩ := seq_of I1 hq
  refine (beginsG t a its.toArray).iter X.prog X.w X.A X.xe s1 _ p ?_
  have free : (itObj t a).isFreed = false := (beginsG t a its.toArray).free
  have I2 : Inv X pins σ H1 { s1 with heap := s1.heap.push (itObj t a) } := I1.kept (t' := s1.toks) fun b o e => Heap.get?_push_of_some _ e
  have it0 := itAt0 (t := t) (h := s1.heap.push (itObj t a)) (a := a) (Heap.get?_push_size _ free)
  have fp : ∀ b ∈ [s1.heap.objs.size], FpOk X pins H1 b := fun b hb => by
    rw [List.mem_singleton.mp hb]
    exact I1.fpOk (Nat.le_refl _) (I1.hok.fresh (Nat.le_refl _))
  cases t with
  | false => exact ⟨s1.heap.objs.size, _, _, _, H1, rfl, I2, turn_list a _, it0, fp, q⟩
  | true => exact ⟨s1.heap.objs.size, _, _, _, H1, rfl, I2, turn_tuple a _, it0, fp, q⟩

theorem pseq {X : Cx} {tg l : Expr} {tl : TE} (K : PySem.W.Frag) (t : Bool) (hl : PE X l tl) (hk : X.K = K := by rfl) : PI X tg l (iSeq K t tl) := by subst hk; exact pi_seq t hl
theorem same_upd {H H' : Hp} {p : Addr} {o : HO} (e : Same H H') (n : H p = none) : Same H (upd H' p o) := fun b u q => by
  rw [upd_ne (ne_of_none q n)]; exact e b u q
theorem flat_strs (ns : List Str) : (ns.map V.str).all flatV = true := by
  rw [List.all_map, List.all_eq_true]
  intro x _
  rfl
theorem inV_str (x : Str) (ns : List Str) : inV (.str x) (ns.map V.str) = decide (x ∈ ns) := by
  unfold inV
  rw [List.any_map]
  by_cases h : x ∈ ns
  · rw [decide_eq_true h]
    exact List.any_eq_true.mpr ⟨x, h, by show (x == x) = true; exact beq_self_eq_true x⟩
  · rw [decide_eq_false h, List.any_eq_false]
    intro y hy q
    have e : y = x := eq_of_beq (show (y == x) = true from q)
    exact h (e ▸ hy)
section
variable {P : Program} {w : World} {K : PySem.W.Frag} {mg : Str → Option Value} {base : Heap}
/-- names that the program takes: unlike ones -/
structure NamesOk (ns : List Str) : Prop where
  ok : ∀ x ∈ ns, NameOk x
  nd : ns.Nodup
  few : ns.length ≤ 100
theorem scAreNames : FnScope ["thing", "one"] ["thing"] (defScope sAreNames) := ⟨rfl, rfl, rfl, by decide +kernel, rfl, by decide +kernel, by decide +kernel⟩
def spAreNames : Sp := fun vs H Q _ => ∃ a ns, vs = [.ref a] ∧ H a = some (.lst (ns.map V.str)) ∧ NamesOk ns ∧ ∀ H', Same H H' → Q (.bl true) H'
theorem ok_are_names {f fL fN : Addr} {fd dL dN : FuncData} (F : Fun K "are_names" "are_names" sAreNames f fd) (T : BI mg) (L : DefAt K mg "is_list" sIsList ["thing"] fL dL) (N : DefAt K mg "is_name" sIsName ["thing"] fN dN) : FnOk P w K mg base CX0 2 f fd ["thing"] spAreNames := by
  have GL : FnOk P w K mg base CX0 1 fL dL ["thing"] spIsList := ok_is_list L.F T
  have GN : FnOk P w K mg base CX0 1 fN dN ["thing"] spIsName := ok_is_name N.F T
  refine F.ok scAreNames (fun vs H Q E h => ?_) (fun cdv A outer s H vs Q E hr h => ?_)
  · obtain ⟨a, ns, rfl, _⟩ := h
    rfl
  obtain ⟨a, ns, rfl, hA, hn, q⟩ := h
  refine ⟨_, pss_cons (ps_if (PW.pt (pw_or (pt_not (pt_val (pe_call GL hr (by rfl) L.g L.F.kp L.b .nil pass0 (pa_cons (pv 0) pa_nil))))
      (pw_or1 (pt_not (pt_val (pe_callB (cr_all rfl) (by rfl) T.all (by decide +kernel) (pa_cons (pe_lc (own := [("one", 1)]) (g := gName 1) (tt := tYes) rfl scAreNames.nd (pi_seq false (pv 0)) (blkOk_by (N := ["thing", "one"]) (sc := defScope sAreNames) (by decide +kernel))
        (fun _ _ _ _ _ => pg_name (i := 1) scAreNames.nd rfl (Or.inl rfl)) (fun _ _ _ _ _ => pts_nil)
        (fun _ _ _ _ _ => pe_call GN hr (by rfl) N.g N.F.kp N.b .nil pass0 (pa_cons (pv 1) pa_nil))) pa_nil)))))))
      (pss_one (ps_ret pe_bl)) pss_nil)
    (pss_one (ps_ret (pe_cmpR op_eq (ST.pe_lenT (by rfl) T.len (by rfl) T.set (pv 0)) (pe_callB call_len_seq (by rfl) T.len PySem.boot_len (pa_cons (pv 0) pa_nil)) (nomark _)))), ?_⟩
  have few := hn.few
  refine ⟨_, rfl, a, rfl, .inl ⟨_, hA⟩, fun H1 s1 => ⟨true, rfl, iteF ?_⟩⟩
  refine ⟨_, rfl, a, ns.map V.str, rfl, .inl (.inl (s1 _ _ hA)), fun D nD => ?_⟩
  refine lc_it walkS (fun i H2 => H2 D = some (.lst ((List.replicate i true).map V.bl)) ∧ Same H1 H2) ⟨upd_same, same_new nD _⟩ (fun i H2 _ p => .inl (.inl (p.2 _ _ (s1 _ _ hA)))) ?_ ?_
  · rintro i y H2 H3 hi ⟨e1, e2⟩ ⟨rfl, hy⟩
    rw [List.length_map] at hi
    rw [List.getElem?_map, List.getElem?_eq_getElem hi] at hy
    obtain rfl : V.str ns[i] = y := Option.some.inj hy
    refine ⟨rfl, yesI ⟨_, rfl, ns[i], rfl, hn.ok _ (List.getElem_mem hi), fun H3 s3 => ?_⟩⟩
    exact ⟨_, s3 _ _ e1, by rw [List.length_map, List.length_replicate]; exact small1000 (by omega), by rw [upd_same, rep_snoc], same_upd (e2.trans s3) nD⟩
  · rintro H2 ⟨e1, e2⟩
    refine ⟨D, _, rfl, SqL.of e1, ?_⟩
    rw [all_rep]
    refine ⟨true, rfl, iteF ?_⟩
    have hA2 : H2 a = some (.lst (ns.map V.str)) := e2 _ _ (s1 _ _ hA)
    refine ⟨_, rfl, a, ns, rfl, SqL.of hA2, hn.nd, by omega, _, rfl, a, _, rfl, .inl (SqL.of hA2), rfl, ?_⟩
    rw [List.length_map, decide_eq_true rfl]
    exact q H2 (s1.trans e2)
theorem scSuspects : FnScope ["thing", "index", "one"] ["thing"] (defScope sSuspects) := ⟨rfl, rfl, rfl, by decide +kernel, rfl, by decide +kernel, by decide +kernel⟩
def spSuspects : Sp := fun vs H Q _ => ∃ a ns, vs = [.ref a] ∧ H a = some (.lst (ns.map V.str)) ∧ NamesOk ns ∧ 1 ≤ ns.length ∧ ∀ r H', Same H H' → H r = none → H' r = some (.lst (ns.map V.str)) → Q (.ref r) H'
theorem cut_to (xs : List V) (i : Nat) (h : i ≤ xs.length) : cutV xs none (some (i : Nat)) = xs.take i := by
  unfold cutV
  rw [HT.sIx_nat, show HT.sIx xs.length 0 none = 0 from HT.sIx_none .., List.drop_zero, Nat.min_eq_left h, Nat.sub_zero]
theorem ok_checked_suspects {f fL fN : Addr} {fd dL dN : FuncData} (F : Fun K "checked_suspects" "checked_suspects" sSuspects f fd) (T : BI mg) (L : DefAt K mg "is_list" sIsList ["thing"] fL dL) (N : DefAt K mg "is_name" sIsName ["thing"] fN dN) : FnOk P w K mg base CX0 2 f fd ["thing"] spSuspects := by
  have GL : FnOk P w K mg base CX0 1 fL dL ["thing"] spIsList := ok_is_list L.F T
  have GN : FnOk P w K mg base CX0 1 fN dN ["thing"] spIsName := ok_is_name N.F T
  refine F.ok scSuspects (fun vs H Q E h => ?_) (fun cdv A outer s H vs Q E hr h => ?_)
  · obtain ⟨a, ns, rfl, _⟩ := h
    rfl
  obtain ⟨a, ns, rfl, hA, hn, h1, q⟩ := h
  refine ⟨_, pss_cons (ps_if (PW.pt (pw_or (pt_not (pt_val (pe_call GL hr (by rfl) L.g L.F.kp L.b .nil pass0 (pa_cons (pv 0) pa_nil))))
      (pw_or1 (pt_cmpR op_eq (pe_callB call_len_seq (by rfl) T.len PySem.boot_len (pa_cons (pv 0) pa_nil)) pe_int (nomark _)))))
      (pss_one ps_never) pss_nil)
    (pss_cons (ps_for PassesOwn.never rfl (pi_enumG false (by rfl) T.enumerate (pa_cons (pv 0) pa_nil)) (pg_tup (by rfl) (pgs_cons (pg_name (i := 1) scSuspects.nd rfl (.inl rfl)) (pgs_cons (pg_name (i := 2) scSuspects.nd rfl (.inl rfl)) pgs_nil)))
      (pss_one (ps_if (PW.pt (pw_or (pt_not (pt_val (pe_call GN hr (by rfl) N.g N.F.kp N.b .nil pass0 (pa_cons (pv 2) pa_nil))))
        (pw_or1 (pt_cmpR op_in_seq (pv 2) (pe_slice sl_list (pv 0) po_none (po_some (pv 1))) rfl))))
        (pss_one ps_never) pss_nil)))
    (pss_one (ps_ret (pe_callTy call_list_of (by rfl) T.list (by decide +kernel) (pa_cons (pv 0) pa_nil))))), ?_⟩
  have few := hn.few
  refine ⟨_, rfl, a, rfl, .inl ⟨_, hA⟩, fun H1 s1 => ⟨true, rfl, iteF ?_⟩⟩
  refine ⟨_, rfl, a, ns.map V.str, rfl, .inl (SqL.of (s1 _ _ hA)), rfl, _, rfl, ?_⟩
  rw [List.length_map, decide_eq_false (show ¬ V.int (ns.length : Int) = V.int 0 from fun z => by injection z with z; omega)]
  refine iteF ⟨_, rfl, a, ns.map V.str, rfl, .inl (.inl (s1 _ _ hA)), ?_⟩
  refine for_it walkE (fun i σ H2 => ∃ y1 y2, σ = [some (.ref a), y1, y2] ∧ Same H1 H2) ⟨none, none, rfl, Same.refl _⟩ (fun i σ H2 _ ⟨_, _, _, s2⟩ => .inl (.inl (s2 _ _ (s1 _ _ hA)))) ?_ ?_
  · rintro i y σ H2 H3 hi ⟨y1, y2, rfl, s2⟩ ⟨Tp, x1, x2, rfl, nT, rfl, e1, e2⟩
    rw [List.length_map] at hi
    have e2 : (ns.map V.str)[i]? = some x2 := e2
    rw [List.getElem?_map, List.getElem?_eq_getElem hi] at e2
    obtain rfl := Option.some.inj e1
    obtain rfl : V.str ns[i] = x2 := Option.some.inj e2
    refine ⟨Tp, _, rfl, .inl (.inl upd_same), rfl, _, _, rfl, _, _, rfl, rfl, ?_⟩
    refine ⟨_, rfl, ns[i], rfl, hn.ok _ (List.getElem_mem hi), fun H3 s3 => ⟨true, rfl, iteF ?_⟩⟩
    have sT : Same H2 (upd H2 Tp (.tup [.int (i : Nat), .str ns[i]])) := same_new nT _
    have hA3 : H3 a = some (.lst (ns.map V.str)) := s3 _ _ (sT _ _ (s2 _ _ (s1 _ _ hA)))
    refine ⟨_, rfl, .ref a, rfl, _, rfl, i, rfl, a, _, rfl, SqL.of hA3, fun p np => ⟨p, _, rfl, .inl (.inl (.inl upd_same)), rfl, ?_, _, rfl, ?_⟩⟩
    · rw [cut_to _ _ (by rw [List.length_map]; omega), ← List.map_take]
      exact flat_strs _
    · have no : inV (V.str ns[i]) (cutV (ns.map V.str) none (some ((i : Nat) : Int))) = false := by
        rw [cut_to _ _ (by rw [List.length_map]; omega), ← List.map_take, inV_str, decide_eq_false]
        intro hm
        obtain ⟨j, hj⟩ := List.mem_iff_getElem?.mp hm
        rw [List.getElem?_take] at hj
        split at hj
        · rename_i hji
          obtain ⟨hl, ej⟩ := List.getElem?_eq_some_iff.mp hj
          exact List.pairwise_iff_getElem.mp hn.nd j i hl hi hji ej
        · cases hj
      rw [if_neg Bool.false_ne_true, no]
      exact iteF ⟨_, _, rfl, ((s2.trans sT).trans s3).trans (same_new np _)⟩
  · rintro σ H2 ⟨y1, y2, rfl, s2⟩
    have s12 := s1.trans s2
    exact ⟨_, rfl, a, _, rfl, .inl (SqL.of (s12 _ _ hA)), fun l nl => q l _ (s12.trans (same_new nl _)) (s12.free nl) upd_same⟩
end
end P81
end
section
set_option Elab.async false
set_option linter.all false
set_option maxRecDepth 100000
set_option maxHeartbeats 4000000
namespace P81
open PySem PySem.Spec PyProof.Rows L2 ZG
/-- a list or a tuple, as a tracked thing -/
def sq (t : Bool) (xs : List V) : HO := match t with
  | false => .lst xs
  | true => .tup xs
theorem sq_Sq {K : PySem.W.Frag} {t : Bool} {H : Hp} {a : Addr} {xs : List V} (h : H a = some (sq t xs)) : Sq t K H a xs := by
  cases t with
  | false => exact .inl (.inl h)
  | true => exact .inl (.inl h)
theorem sq_LT {t : Bool} {H : Hp} {a : Addr} {xs : List V} (h : H a = some (sq t xs)) : LT H a := by
  cases t with
  | false => exact .inl ⟨xs, h⟩
  | true => exact .inr ⟨xs, h⟩
theorem sq_or {K : PySem.W.Frag} {t : Bool} {H : Hp} {a : Addr} {xs : List V} (h : H a = some (sq t xs)) : SqL K H a xs ∨ SqT K H a xs := by
  cases t with
  | false => exact .inl (.inl (.inl h))
  | true => exact .inr (.inl (.inl h))
/-- lists of texts stand at the addresses -/
def RowsAt (H : Hp) (as : List Addr) (rs : List (List Str)) : Prop := as.length = rs.length ∧ ∀ (i : Nat) (a : Addr) (r : List Str), as[i]? = some a → rs[i]? = some r → H a = some (.lst (r.map V.str))
theorem RowsAt.nil (H : Hp) : RowsAt H [] [] := ⟨rfl, fun i a r h _ => by simp at h⟩
theorem RowsAt.mono {H H' : Hp} {as : List Addr} {rs : List (List Str)} (h : RowsAt H as rs) (m : ∀ a ∈ as, ∀ o, H a = some o → H' a = some o) : RowsAt H' as rs :=
  ⟨h.1, fun i a r h1 h2 => m a (List.mem_of_getElem? h1) _ (h.2 i a r h1 h2)⟩
theorem get_snoc {α : Type} {l : List α} {x y : α} {i : Nat} (h : (l ++ [x])[i]? = some y) : (l[i]? = some y) ∨ (i = l.length ∧ y = x) := by
  rw [List.getElem?_append] at h
  split at h
  · exact .inl h
  · rename_i hi
    have e : i - l.length = 0 := by
      cases q : i - l.length with
      | zero => rfl
      | succ k => rw [q] at h; simp at h
    rw [e] at h
    exact .inr ⟨by omega, (Option.some.inj h).symm⟩
theorem RowsAt.snoc {H : Hp} {as : List Addr} {rs : List (List Str)} {a : Addr} {r : List Str} (h : RowsAt H as rs) (ha : H a = some (.lst (r.map V.str))) : RowsAt H (as ++ [a]) (rs ++ [r]) := by
  refine ⟨by rw [List.length_append, List.length_append, h.1]; rfl, fun i b q h1 h2 => ?_⟩
  rcases get_snoc h1 with g1 | ⟨e1, g1⟩
  · rcases get_snoc h2 with g2 | ⟨e2, g2⟩
    · exact h.2 i b q g1 g2
    · have := (List.getElem?_eq_some_iff.mp g1).1
      rw [h.1] at this; omega
  · rcases get_snoc h2 with g2 | ⟨e2, g2⟩
    · have := (List.getElem?_eq_some_iff.mp g2).1
      rw [← h.1] at this; omega
    · rw [g1, g2]; exact ha
theorem RowsAt.same {H H' : Hp} {as : List Addr} {rs : List (List Str)} (h : RowsAt H as rs) (m : Same H H') : RowsAt H' as rs := h.mono fun a _ o e => m a o e
theorem RowsAt.at {H : Hp} {as : List Addr} {rs : List (List Str)} (h : RowsAt H as rs) {i : Nat} (hi : i < as.length) : ∃ a r, as[i]? = some a ∧ rs[i]? = some r ∧ H a = some (.lst (r.map V.str)) := by
  have hi' : i < rs.length := by rw [← h.1]; exact hi
  exact ⟨as[i], rs[i], List.getElem?_eq_getElem hi, List.getElem?_eq_getElem hi', h.2 i _ _ (List.getElem?_eq_getElem hi) (List.getElem?_eq_getElem hi')⟩
theorem take_snoc {α : Type} {l : List α} {i : Nat} {x : α} (h : l[i]? = some x) : l.take (i + 1) = l.take i ++ [x] := by
  rw [List.take_add_one, h]
  rfl
theorem map_snoc {α β : Type} (f : α → β) (l : List α) (x : α) : l.map f ++ [f x] = (l ++ [x]).map f := by rw [List.map_append]; rfl
section
variable {P : Program} {w : World} {K : PySem.W.Frag} {mg : Str → Option Value} {base : Heap}
theorem scAskings : FnScope ["thing", "index", "some"] ["thing"] (defScope sAskings) := ⟨rfl, rfl, rfl, by decide +kernel, rfl, by decide +kernel, by decide +kernel⟩
def spAskings : Sp := fun vs H Q _ => ∃ t a as rs, vs = [.ref a] ∧ H a = some (sq t (as.map V.ref)) ∧ RowsAt H as rs ∧ (∀ r ∈ rs, NamesOk r) ∧ 1 ≤ rs.length ∧ rs.length ≤ 100 ∧
  ∀ r as' H', Same H H' → H r = none → H' r = some (.lst (as'.map V.ref)) → RowsAt H' as' rs → Q (.ref r) H'
theorem ok_checked_askings {f fL fN : Addr} {fd dL dN : FuncData} (F : Fun K "checked_askings" "checked_askings" sAskings f fd) (T : BI mg) (L : DefAt K mg "is_list" sIsList ["thing"] fL dL) (N : DefAt K mg "are_names" sAreNames ["thing"] fN dN)
    (GN : FnOk P w K mg base CX0 2 fN dN ["thing"] spAreNames) : FnOk P w K mg base CX0 3 f fd ["thing"] spAskings := by
  have GL : FnOk P w K mg base CX0 1 fL dL ["thing"] spIsList := ok_is_list L.F T
  refine F.ok scAskings (fun vs H Q E h => ?_) (fun cdv A outer s H vs Q E hr h => ?_)
  · obtain ⟨t, a, as, rs, rfl, _⟩ := h
    rfl
  obtain ⟨t, a, as, rs, rfl, hA, hR, hn, h1, h2, q⟩ := h
  have hr1 : Room 1 _ := hr.mono (by decide)
  refine ⟨_, pss_cons (ps_if (PW.pt (pw_or (pt_not (pt_val (pe_call GL hr1 (by rfl) L.g L.F.kp L.b .nil pass0 (pa_cons (pv 0) pa_nil))))
      (pw_or1 (pt_cmpR op_eq (pe_callB call_len_seq (by rfl) T.len PySem.boot_len (pa_cons (pv 0) pa_nil)) pe_int (nomark _)))))
      (pss_one ps_never) pss_nil)
    (pss_cons (ps_for PassesOwn.never rfl (pi_enumG t (by rfl) T.enumerate (pa_cons (pv 0) pa_nil)) (pg_tup (by rfl) (pgs_cons (pg_name (i := 1) scAskings.nd rfl (.inl rfl)) (pgs_cons (pg_name (i := 2) scAskings.nd rfl (.inl rfl)) pgs_nil)))
      (pss_one (ps_if (pt_not (pt_val (pe_call GN hr (by rfl) N.g N.F.kp N.b .nil pass0 (pa_cons (pv 2) pa_nil)))) (pss_one ps_never) pss_nil)))
    (pss_one (ps_ret (pe_lc (own := [("some", 2)]) (g := gName 2) (tt := tYes) rfl scAskings.nd (pi_seq t (pv 0)) (blkOk_by (N := ["thing", "index", "some"]) (sc := defScope sAskings) (by decide +kernel))
      (fun _ _ _ _ _ => pg_name (i := 2) scAskings.nd rfl (Or.inl rfl)) (fun _ _ _ _ _ => pts_nil)
      (fun _ _ _ _ _ => pe_callTy (crListOf K) (by rfl) T.list (by decide +kernel) (pa_cons (pv 2) pa_nil)))))), ?_⟩
  refine ⟨_, rfl, a, rfl, sq_LT hA, fun H1 s1 => ⟨true, rfl, iteF ?_⟩⟩
  have hA1 := s1 _ _ hA
  have hl := hR.1
  refine ⟨_, rfl, a, as.map V.ref, rfl, sq_or hA1, rfl, _, rfl, ?_⟩
  rw [List.length_map, decide_eq_false (show ¬ V.int (as.length : Int) = V.int 0 from fun z => by injection z with z; omega)]
  refine iteF ⟨_, rfl, a, as.map V.ref, rfl, sq_Sq hA1, ?_⟩
  refine for_it walkE (fun i σ H2 => ∃ y1 y2, σ = [some (.ref a), y1, y2] ∧ Same H1 H2) ⟨none, none, rfl, Same.refl _⟩ (fun i σ H2 _ ⟨_, _, _, s2⟩ => sq_Sq (s2 _ _ hA1)) ?_ ?_
  · rintro i y σ H2 H3 hi ⟨y1, y2, rfl, s2⟩ ⟨Tp, x1, x2, rfl, nT, rfl, e1, e2⟩
    rw [List.length_map] at hi
    obtain ⟨b, r, hb, hrr, hH⟩ := hR.at hi
    have e2 : (as.map V.ref)[i]? = some x2 := e2
    rw [List.getElem?_map, hb] at e2
    obtain rfl := Option.some.inj e1
    obtain rfl : V.ref b = x2 := Option.some.inj e2
    refine ⟨Tp, _, rfl, .inl (.inl upd_same), rfl, _, _, rfl, _, _, rfl, rfl, ?_⟩
    have sT := (s1.trans s2).trans (same_new nT (.tup [.int (i : Nat), .ref b]))
    refine ⟨_, rfl, b, r, rfl, sT _ _ hH, hn r (List.mem_of_getElem? hrr), fun H3 s3 => ⟨true, rfl, iteF ?_⟩⟩
    exact ⟨_, _, rfl, (s2.trans (same_new nT _)).trans s3⟩
  · rintro σ H2 ⟨y1, y2, rfl, s2⟩
    have s12 := s1.trans s2
    refine ⟨_, rfl, a, as.map V.ref, rfl, sq_Sq (s12 _ _ hA), fun D nD => ?_⟩
    refine lc_it walkS (fun i H3 => ∃ as', H3 D = some (.lst (as'.map V.ref)) ∧ RowsAt H3 as' (rs.take i) ∧ D ∉ as' ∧ Same H2 H3) ⟨[], upd_same, RowsAt.nil _, by simp, same_new nD _⟩ (fun i H3 _ ⟨_, _, _, _, s3⟩ => sq_Sq (s3 _ _ (s12 _ _ hA))) ?_ ?_
    · rintro i y H3 H4 hi ⟨as', e1, e2, e3, s3⟩ ⟨rfl, hy⟩
      rw [List.length_map] at hi
      obtain ⟨b, r, hb, hrr, hH⟩ := hR.at hi
      rw [List.getElem?_map, hb] at hy
      obtain rfl : V.ref b = y := Option.some.inj hy
      refine ⟨rfl, yesI ⟨_, rfl, b, _, rfl, .inl (SqL.of (s3 _ _ (s12 _ _ hH))), fun l nl => ?_⟩⟩
      have nlD : D ≠ l := ne_of_none e1 nl
      refine ⟨as'.map V.ref, by rw [upd_ne nlD]; exact e1, ?_, as' ++ [l], ?_, ?_, ?_, ?_⟩
      · rw [List.length_map, e2.1, List.length_take]
        exact small1000 (by omega)
      · rw [upd_same, map_snoc]
      · rw [take_snoc hrr]
        refine (e2.mono fun c hc o ec => ?_).snoc ?_
        · rw [upd_ne (fun z => e3 (by rw [← z]; exact hc)), upd_ne (ne_of_none ec nl)]
          exact ec
        · rw [upd_ne nlD.symm, upd_same]
      · rw [List.mem_append, not_or]
        exact ⟨e3, fun z => nlD (List.mem_singleton.mp z)⟩
      · exact same_upd (same_upd s3 (s3.free nl)) nD
    · rintro H3 ⟨as', e1, e2, e3, s3⟩
      rw [List.length_map, hl, List.take_length] at e2
      exact q D as' H3 (s12.trans s3) (s12.free nD) e1 e2
theorem scLies : FnScope ["thing"] ["thing"] (defScope sLies) := ⟨rfl, rfl, rfl, by decide +kernel, rfl, by decide +kernel, by decide +kernel⟩
def spLies : Sp := fun vs H Q _ => ∃ L : Int, vs = [.int L] ∧ (L = 0 ∨ L = 1) ∧ ∀ H', Same H H' → Q (.int L) H'
theorem ok_checked_lies {f fI : Addr} {fd dI : FuncData} (F : Fun K "checked_lies" "checked_lies" sLies f fd) (T : BI mg) (I : DefAt K mg "is_integer" sIsInteger ["thing"] fI dI) : FnOk P w K mg base CX0 2 f fd ["thing"] spLies := by
  have GI : FnOk P w K mg base CX0 1 fI dI ["thing"] spIsInteger := ok_is_integer I.F T
  refine F.ok scLies (fun vs H Q E h => ?_) (fun cdv A outer s H vs Q E hr h => ?_)
  · obtain ⟨L, rfl, _⟩ := h
    rfl
  obtain ⟨L, rfl, hL, q⟩ := h
  refine ⟨_, pss_cons (ps_if (PW.pt (pw_or (pt_not (pt_val (pe_call GI hr (by rfl) I.g I.F.kp I.b .nil pass0 (pa_cons (pv 0) pa_nil))))
      (pw_or1 (pt_cmpR op_notIn_seq (pv 0) (pe_tup (pa_cons pe_int (pa_cons pe_int pa_nil))) rfl))))
      (pss_one ps_never) pss_nil) (pss_one (ps_ret (pv 0))), ?_⟩
  refine ⟨_, rfl, L, rfl, true, rfl, iteF ?_⟩
  refine ⟨_, rfl, by show 2 ≤ sizeLine; decide, fun p np => ⟨p, _, rfl, .inr (.inl (.inl upd_same)), rfl, rfl, _, rfl, ?_⟩⟩
  have e : inV (.int L) [.int 0, .int 1] = true := by
    rcases hL with e | e <;> subst e <;> rfl
  rw [if_pos rfl, e]
  exact iteF ⟨_, rfl, q _ (same_new np _)⟩
/-- pairs of an index and a truth stand at the addresses -/
def AnsAt (H : Hp) (as : List Addr) (rs : List (Nat × Bool)) : Prop := as.length = rs.length ∧ ∀ (i : Nat) (a : Addr) (r : Nat × Bool), as[i]? = some a → rs[i]? = some r → H a = some (.tup [.int (r.1 : Int), .bl r.2])
theorem AnsAt.nil (H : Hp) : AnsAt H [] [] := ⟨rfl, fun i a r h _ => by simp at h⟩
theorem AnsAt.mono {H H' : Hp} {as : List Addr} {rs : List (Nat × Bool)} (h : AnsAt H as rs) (m : ∀ a ∈ as, ∀ o, H a = some o → H' a = some o) : AnsAt H' as rs :=
  ⟨h.1, fun i a r h1 h2 => m a (List.mem_of_getElem? h1) _ (h.2 i a r h1 h2)⟩
theorem AnsAt.same {H H' : Hp} {as : List Addr} {rs : List (Nat × Bool)} (h : AnsAt H as rs) (m : Same H H') : AnsAt H' as rs := h.mono fun a _ o e => m a o e
theorem AnsAt.snoc {H : Hp} {as : List Addr} {rs : List (Nat × Bool)} {a : Addr} {r : Nat × Bool} (h : AnsAt H as rs) (ha : H a = some (.tup [.int (r.1 : Int), .bl r.2])) : AnsAt H (as ++ [a]) (rs ++ [r]) := by
  refine ⟨by rw [List.length_append, List.length_append, h.1]; rfl, fun i b q h1 h2 => ?_⟩
  rcases get_snoc h1 with g1 | ⟨e1, g1⟩
  · rcases get_snoc h2 with g2 | ⟨e2, g2⟩
    · exact h.2 i b q g1 g2
    · have := (List.getElem?_eq_some_iff.mp g1).1
      rw [h.1] at this; omega
  · rcases get_snoc h2 with g2 | ⟨e2, g2⟩
    · have := (List.getElem?_eq_some_iff.mp g2).1
      rw [← h.1] at this; omega
    · rw [g1, g2]; exact ha
theorem AnsAt.at {H : Hp} {as : List Addr} {rs : List (Nat × Bool)} (h : AnsAt H as rs) {i : Nat} (hi : i < as.length) : ∃ a r, as[i]? = some a ∧ rs[i]? = some r ∧ H a = some (.tup [.int (r.1 : Int), .bl r.2]) := by
  have hi' : i < rs.length := by rw [← h.1]; exact hi
  exact ⟨as[i], rs[i], List.getElem?_eq_getElem hi, List.getElem?_eq_getElem hi', h.2 i _ _ (List.getElem?_eq_getElem hi) (List.getElem?_eq_getElem hi')⟩
theorem scAnswers : FnScope ["thing", "many", "index", "pair"] ["thing", "many"] (defScope sAnswers) := ⟨rfl, rfl, rfl, by decide +kernel, rfl, by decide +kernel, by decide +kernel⟩
def spAnswers : Sp := fun vs H Q _ => ∃ t a as ans m, vs = [.ref a, .int (m : Nat)] ∧ H a = some (sq t (as.map V.ref)) ∧ AnsAt H as ans ∧ (∀ p ∈ ans, p.1 < m) ∧ ans.length ≤ 100 ∧
  ∀ r as' H', Same H H' → H r = none → H' r = some (.lst (as'.map V.ref)) → AnsAt H' as' ans → Q (.ref r) H'
theorem ok_checked_answers {f fL fI : Addr} {fd dL dI : FuncData} (F : Fun K "checked_answers" "checked_answers" sAnswers f fd) (T : BI mg) (D_is_list : DefAt K mg "is_list" sIsList ["thing"] fL dL) (D_is_integer : DefAt K mg "is_integer" sIsInteger ["thing"] fI dI) :
    FnOk P w K mg base CX0 2 f fd ["thing", "many"] spAnswers := by
  have G_is_list : FnOk P w K mg base CX0 1 fL dL ["thing"] spIsList := ok_is_list D_is_list.F T
  have G_is_integer : FnOk P w K mg base CX0 1 fI dI ["thing"] spIsInteger := ok_is_integer D_is_integer.F T
  refine F.ok scAnswers (fun vs H Q E h => ?_) (fun cdv A outer s H vs Q E hr h => ?_)
  · obtain ⟨t, a, as, rs, m, rfl, _⟩ := h
    rfl
  obtain ⟨t, a, as, rs, m, rfl, hA, hR, hm, h2, q⟩ := h
  refine ⟨_, pss_cons (ps_if (pt_not (pt_val (pe_call G_is_list hr (by rfl) D_is_list.g D_is_list.F.kp D_is_list.b .nil pass0 (pa_cons (pv 0) pa_nil))))
      (pss_one ps_never) pss_nil)
    (pss_cons (ps_for PassesOwn.never rfl (pi_enumG t (by rfl) T.enumerate (pa_cons (pv 0) pa_nil)) (pg_tup (by rfl) (pgs_cons (pg_name (i := 2) scAnswers.nd rfl (.inl rfl)) (pgs_cons (pg_name (i := 3) scAnswers.nd rfl (.inl rfl)) pgs_nil)))
      (pss_cons (ps_if (PW.pt (pw_or (pt_not (pt_val (pe_call G_is_list hr (by rfl) D_is_list.g D_is_list.F.kp D_is_list.b .nil pass0 (pa_cons (pv 3) pa_nil)))) (pw_or (pt_cmpR op_ne (pe_callB (crLen K) (by rfl) T.len (by decide +kernel) (pa_cons (pv 3) pa_nil)) pe_int (nomark _)) (pw_or (pt_not (pt_val (pe_call G_is_integer hr (by rfl) D_is_integer.g D_is_integer.F.kp D_is_integer.b .nil pass0 (pa_cons (pe_ix (ixT K) (pv 3) pe_int (fun _ _ => rfl)) pa_nil)))) (pw_or1 (pt_not (pt_val (pe_callB call_isi (by rfl) T.isinstance (by decide +kernel) (pa_cons (pe_ix (ixT K) (pv 3) pe_int (fun _ _ => rfl)) (pa_cons (pe_bltn (v := .ty "bool") (by rfl) T.bool (by decide +kernel) rfl) pa_nil))))))))))
        (pss_one ps_never) pss_nil)
      (pss_one (ps_if (pt_not (pt_chain op_le op_lt pe_int (pe_ix (ixT K) (pv 3) pe_int (fun _ _ => rfl)) (pv 1)))
        (pss_one ps_never) pss_nil))))
    (pss_one (ps_ret (pe_lc (own := [("pair", 3)]) (g := (gName 3)) (tt := tYes) rfl scAnswers.nd (pi_seq t (pv 0)) (blkOk_by (N := ["thing", "many", "index", "pair"]) (sc := (defScope sAnswers)) (by decide +kernel))
        (fun _ _ _ _ _ => (pg_name (i := 3) scAnswers.nd rfl (.inl rfl))) (fun _ _ _ _ _ => pts_nil)
        (fun _ _ _ _ _ => (pe_tup (pa_cons (pe_ix (ixT K) (pv 3) pe_int (fun _ _ => rfl)) (pa_cons (pe_ix (ixT K) (pv 3) pe_int (fun _ _ => rfl)) pa_nil)))))))), ?_⟩
  refine ⟨_, rfl, a, rfl, sq_LT hA, fun H1 s1 => ⟨true, rfl, iteF ?_⟩⟩
  have hA1 := s1 _ _ hA
  have hl := hR.1
  refine ⟨_, rfl, a, as.map V.ref, rfl, sq_Sq hA1, ?_⟩
  refine for_it walkE (fun i σ H2 => ∃ y1 y2, σ = [some (.ref a), some (.int (m : Nat)), y1, y2] ∧ Same H1 H2) ⟨none, none, rfl, Same.refl _⟩ (fun i σ H2 _ ⟨_, _, _, s2⟩ => sq_Sq (s2 _ _ hA1)) ?_ ?_
  · rintro i y σ H2 H3 hi ⟨y1, y2, rfl, s2⟩ ⟨Tp, x1, x2, rfl, nT, rfl, e1, e2⟩
    rw [List.length_map] at hi
    obtain ⟨b, r, hb, hrr, hH⟩ := hR.at hi
    have e2 : (as.map V.ref)[i]? = some x2 := e2
    rw [List.getElem?_map, hb] at e2
    obtain rfl := Option.some.inj e1
    obtain rfl : V.ref b = x2 := Option.some.inj e2
    refine ⟨Tp, _, rfl, .inl (.inl upd_same), rfl, _, _, rfl, _, _, rfl, rfl, ?_⟩
    have sT := (s1.trans s2).trans (same_new nT (.tup [.int (i : Nat), .ref b]))
    refine ⟨_, rfl, b, rfl, .inr ⟨_, sT _ _ hH⟩, fun H3 s3 => ⟨true, rfl, iteF ?_⟩⟩
    have hb3 : SqT K H3 b [.int (r.1 : Int), .bl r.2] := SqT.of (s3 _ _ (sT _ _ hH))
    refine ⟨_, rfl, b, _, rfl, .inr hb3, rfl, _, rfl, iteF ?_⟩
    refine ⟨_, rfl, b, _, _, _, rfl, rfl, hb3, atI_nat (j := 0) rfl, _, rfl, true, rfl, iteF ?_⟩
    refine ⟨_, rfl, b, _, _, _, rfl, rfl, hb3, atI_nat (j := 1) rfl, .bl r.2, .ty "bool", .type "bool", .type "bool", true, rfl, .ty _, .base (.bl _), kit_ty (by decide +kernel), true, rfl, iteF ?_⟩
    refine ⟨_, rfl, b, _, _, _, rfl, rfl, hb3, atI_nat (j := 0) rfl, 0, _, rfl, rfl, _, rfl, ?_⟩
    rw [decide_eq_true (show (0 : Int) ≤ (r.1 : Int) by omega)]
    have lt := hm r (List.mem_of_getElem? hrr)
    refine iteT ⟨_, rfl, _, _, rfl, rfl, _, rfl, ?_⟩
    rw [decide_eq_true (show ((r.1 : Nat) : Int) < (m : Nat) by omega)]
    exact iteF ⟨_, _, rfl, (s2.trans (same_new nT _)).trans s3⟩
  · rintro σ H2 ⟨y1, y2, rfl, s2⟩
    have s12 := s1.trans s2
    refine ⟨_, rfl, a, as.map V.ref, rfl, sq_Sq (s12 _ _ hA), fun D nD => ?_⟩
    refine lc_it walkS (fun i H3 => ∃ as', H3 D = some (.lst (as'.map V.ref)) ∧ AnsAt H3 as' (rs.take i) ∧ D ∉ as' ∧ Same H2 H3) ⟨[], upd_same, AnsAt.nil _, by simp, same_new nD _⟩ (fun i H3 _ ⟨_, _, _, _, s3⟩ => sq_Sq (s3 _ _ (s12 _ _ hA))) ?_ ?_
    · rintro i y H3 H4 hi ⟨as', e1, e2, e3, s3⟩ ⟨rfl, hy⟩
      rw [List.length_map] at hi
      obtain ⟨b, r, hb, hrr, hH⟩ := hR.at hi
      rw [List.getElem?_map, hb] at hy
      obtain rfl : V.ref b = y := Option.some.inj hy
      have hb3 : SqT K H4 b [.int (r.1 : Int), .bl r.2] := SqT.of (s3 _ _ (s12 _ _ hH))
      refine ⟨rfl, yesI ⟨_, rfl, b, _, _, _, rfl, rfl, hb3, atI_nat (j := 0) rfl, _, rfl, b, _, _, _, rfl, rfl, hb3, atI_nat (j := 1) rfl, by show 2 ≤ sizeLine; decide, fun l nl => ?_⟩⟩
      have nlD : D ≠ l := ne_of_none e1 nl
      refine ⟨as'.map V.ref, by rw [upd_ne nlD]; exact e1, ?_, as' ++ [l], ?_, ?_, ?_, ?_⟩
      · rw [List.length_map, e2.1, List.length_take]
        exact small1000 (by omega)
      · rw [upd_same, map_snoc]
      · rw [take_snoc hrr]
        refine (e2.mono fun c hc o ec => ?_).snoc ?_
        · rw [upd_ne (fun z => e3 (by rw [← z]; exact hc)), upd_ne (ne_of_none ec nl)]
          exact ec
        · rw [upd_ne nlD.symm, upd_same]
      · rw [List.mem_append, not_or]
        exact ⟨e3, fun z => nlD (List.mem_singleton.mp z)⟩
      · exact same_upd (same_upd s3 (s3.free nl)) nD
    · rintro H3 ⟨as', e1, e2, e3, s3⟩
      rw [List.length_map, hl, List.take_length] at e2
      exact q D as' H3 (s12.trans s3) (s12.free nD) e1 e2
end
end P81
end
section
set_option Elab.async false
set_option linter.all false
set_option maxRecDepth 100000
set_option maxHeartbeats 4000000
namespace P81
open PySem PySem.Spec PyProof.Rows L2 ZG NK
def asgVal : Stmt → Expr
  | .Assign _ v _ => v
  | _ => .Constant .none 0 ⟨0, 0, 0, 0⟩
def lcScope : Expr → Scope
  | .ListComp _ _ sc _ => sc
  | _ => { kind := .function, names := [], isGenerator := false, isCoroutine := false }
def stAt (s : Stmt) (i : Nat) : Stmt := (defBody s).getD i (.Pass ⟨0, 0, 0, 0⟩)
/-- things stand at the addresses -/
def PtsAt {β : Type} (g : β → HO) (H : Hp) (as : List Addr) (rs : List β) : Prop := as.length = rs.length ∧ ∀ (i : Nat) (a : Addr) (r : β), as[i]? = some a → rs[i]? = some r → H a = some (g r)
section
variable {β : Type} {g : β → HO}
theorem PtsAt.nil (H : Hp) : PtsAt g H [] [] := ⟨rfl, fun i a r h _ => by simp at h⟩
theorem PtsAt.mono {H H' : Hp} {as : List Addr} {rs : List β} (h : PtsAt g H as rs) (m : ∀ a ∈ as, ∀ o, H a = some o → H' a = some o) : PtsAt g H' as rs :=
  ⟨h.1, fun i a r h1 h2 => m a (List.mem_of_getElem? h1) _ (h.2 i a r h1 h2)⟩
theorem PtsAt.same {H H' : Hp} {as : List Addr} {rs : List β} (h : PtsAt g H as rs) (m : Same H H') : PtsAt g H' as rs := h.mono fun a _ o e => m a o e
theorem PtsAt.snoc {H : Hp} {as : List Addr} {rs : List β} {a : Addr} {r : β} (h : PtsAt g H as rs) (ha : H a = some (g r)) : PtsAt g H (as ++ [a]) (rs ++ [r]) := by
  refine ⟨by rw [List.length_append, List.length_append, h.1]; rfl, fun i b q h1 h2 => ?_⟩
  rcases get_snoc h1 with g1 | ⟨e1, g1⟩
  · rcases get_snoc h2 with g2 | ⟨e2, g2⟩
    · exact h.2 i b q g1 g2
    · have := (List.getElem?_eq_some_iff.mp g1).1
      rw [h.1] at this; omega
  · rcases get_snoc h2 with g2 | ⟨e2, g2⟩
    · have := (List.getElem?_eq_some_iff.mp g2).1
      rw [← h.1] at this; omega
    · rw [g1, g2]; exact ha
theorem PtsAt.at {H : Hp} {as : List Addr} {rs : List β} (h : PtsAt g H as rs) {i : Nat} (hi : i < as.length) : ∃ a r, as[i]? = some a ∧ rs[i]? = some r ∧ H a = some (g r) := by
  have hi' : i < rs.length := by rw [← h.1]; exact hi
  exact ⟨as[i], rs[i], List.getElem?_eq_getElem hi, List.getElem?_eq_getElem hi', h.2 i _ _ (List.getElem?_eq_getElem hi) (List.getElem?_eq_getElem hi')⟩
theorem PtsAt.get {H : Hp} {as : List Addr} {rs : List β} (h : PtsAt g H as rs) {i : Nat} {r : β} (hi : rs[i]? = some r) : ∃ a, as[i]? = some a ∧ H a = some (g r) := by
  have hl := (List.getElem?_eq_some_iff.mp hi).1
  rw [← h.1] at hl
  exact ⟨as[i], List.getElem?_eq_getElem hl, h.2 i _ _ (List.getElem?_eq_getElem hl) hi⟩
end
abbrev bools (r : List Bool) : HO := .lst (r.map V.bl)
/-- who is in which asking -/
def signsOf (ns : List Str) (rs : List (List Str)) : List (List Bool) := rs.map fun r => ns.map fun n => decide (n ∈ r)
theorem signsOf_len {ns : List Str} {rs : List (List Str)} : ∀ r ∈ signsOf ns rs, r.length = ns.length := fun r hr => by
  obtain ⟨q, _, e⟩ := List.mem_map.mp hr
  rw [← e, List.length_map]
theorem n1 : ¬ (("ones" : Str) = "most") := by decide +kernel
theorem n2 : ¬ (("ones" : Str) = "signs") := by decide +kernel
theorem n3 : ¬ (("ones" : Str) = "known") := by decide +kernel
theorem n4 : ¬ (("most" : Str) = "signs") := by decide +kernel
theorem n5 : ¬ (("most" : Str) = "known") := by decide +kernel
theorem n6 : ¬ (("signs" : Str) = "known") := by decide +kernel
theorem putF_len (f : Str) (v : V) : ∀ fs : List (Str × V), (putF f v fs).length ≤ fs.length + 1
  | [] => Nat.le_refl _
  | (g, x) :: r => by
    show (if g = f then (g, v) :: r else (g, x) :: putF f v r).length ≤ r.length + 1 + 1
    split
    · rw [List.length_cons]; omega
    · rw [List.length_cons]
      have := putF_len f v r
      omega
theorem putF_few {f : Str} {v : V} {fs : List (Str × V)} {n : Nat} (h : fs.length + 1 < n) : (putF f v fs).length < n := Nat.lt_of_le_of_lt (putF_len f v fs) h
theorem putF_few2 {f g : Str} {v u : V} {fs : List (Str × V)} {n : Nat} (h : fs.length + 2 < n) : (putF g u (putF f v fs)).length < n := putF_few (by have := putF_len f v fs; omega)
theorem putF_few3 {f g k : Str} {v u z : V} {fs : List (Str × V)} {n : Nat} (h : fs.length + 3 < n) : (putF k z (putF g u (putF f v fs))).length < n := putF_few (by have := putF_len f v fs; have := putF_len g u (putF f v fs); omega)
/-- a Hunt's attributes -/
def hf (o sg kn : Addr) (L : Int) : List (Str × V) := putF "known" (.ref kn) (putF "signs" (.ref sg) (putF "most" (.int L) (putF "ones" (.ref o) [])))
section
variable {o sg kn : Addr} {L : Int}
theorem hf_ones : (hf o sg kn L).lookup ("ones" : Str) = some (V.ref o) := by unfold hf; rw [lookup_putF, if_neg n3, lookup_putF, if_neg n2, lookup_putF, if_neg n1, lookup_putF, if_pos rfl]
theorem hf_most : (hf o sg kn L).lookup ("most" : Str) = some (V.int L) := by unfold hf; rw [lookup_putF, if_neg n5, lookup_putF, if_neg n4, lookup_putF, if_pos rfl]
theorem hf_signs : (hf o sg kn L).lookup ("signs" : Str) = some (V.ref sg) := by unfold hf; rw [lookup_putF, if_neg n6, lookup_putF, if_pos rfl]
theorem hf_known : (hf o sg kn L).lookup ("known" : Str) = some (V.ref kn) := by unfold hf; rw [lookup_putF, if_pos rfl]
theorem hf_no {m : Str} (h1 : ¬ m = "known") (h2 : ¬ m = "signs") (h3 : ¬ m = "most") (h4 : ¬ m = "ones") : (hf o sg kn L).lookup m = none := by
  unfold hf
  rw [lookup_putF, if_neg h1, lookup_putF, if_neg h2, lookup_putF, if_neg h3, lookup_putF, if_neg h4]
  rfl
end
/-- the class as the top has made it -/
structure HuntF (K : PySem.W.Frag) (mg : Str → Option Value) (C : Addr) : Prop where
  cl : Cls K C
  mgC : mg "Hunt" = some (.ref C)
  nO : NoAttr K C "ones"
  nM : NoAttr K C "most"
  nS : NoAttr K C "signs"
  nK : NoAttr K C "known"
structure MethAt (K : PySem.W.Frag) (C : Addr) (x qual : Str) (st : Stmt) (ps : List Str) (f : Addr) (fd : FuncData) : Prop where
  F : Fun K x qual st f fd
  m : Meth K C x f
  b : Binds K fd ps []
/-- a Hunt stands at p: its suspects ns at o, the signs R at sg; its dict is at kn -/
structure HuntAt (C : Addr) (H : Hp) (p o sg kn : Addr) (L : Int) (ns : List Str) (R : List (List Bool)) : Prop where
  ob : ∃ dx, H p = some (.ins C dx (hf o sg kn L))
  on : H o = some (.lst (ns.map V.str))
  sn : ∃ ss, H sg = some (.lst (ss.map V.ref)) ∧ PtsAt bools H ss R
theorem HuntAt.mono {C : Addr} {H H' : Hp} {p o sg kn : Addr} {L : Int} {ns : List Str} {R : List (List Bool)} (h : HuntAt C H p o sg kn L ns R) {kvs : List NE} (hk : H kn = some (dN kn kvs)) (e : But [kn] H H') : HuntAt C H' p o sg kn L ns R := by
  obtain ⟨⟨dx, h1⟩, h2, ss, h3, h4⟩ := h
  have k1 : ∀ {b u}, H b = some u → (∀ φ, u ≠ .ext φ) → H' b = some u := fun {b u} q n => e b u q fun z => by
    rw [List.mem_singleton.mp z, hk] at q
    exact n _ (Option.some.inj q).symm
  refine ⟨⟨dx, k1 h1 (fun _ z => nomatch z)⟩, k1 h2 (fun _ z => nomatch z), ss, k1 h3 (fun _ z => nomatch z), h4.1, fun i a r g1 g2 => k1 (h4.2 i a r g1 g2) (fun _ z => nomatch z)⟩
theorem HuntAt.same {C : Addr} {H H' : Hp} {p o sg kn : Addr} {L : Int} {ns : List Str} {R : List (List Bool)} (h : HuntAt C H p o sg kn L ns R) (e : Same H H') : HuntAt C H' p o sg kn L ns R := by
  obtain ⟨⟨dx, h1⟩, h2, ss, h3, h4⟩ := h
  exact ⟨⟨dx, e _ _ h1⟩, e _ _ h2, ss, e _ _ h3, h4.same e⟩
section
variable {P : Program} {w : World} {K : PySem.W.Frag} {mg : Str → Option Value} {base : Heap}
theorem scInit : FnScope ["self", "suspects", "askings", "lies", "some", "row", "one"] ["self", "suspects", "askings", "lies"] (defScope sInit) := ⟨rfl, rfl, rfl, by decide +kernel, rfl, by decide +kernel, by decide +kernel⟩
def spInit (C : Addr) : Sp := fun vs H Q _ => ∃ (p dx a b : Addr) (t : Bool) (as : List Addr) (ns : List Str) (rs : List (List Str)) (L : Int), vs = [.ref p, .ref a, .ref b, .int L] ∧ H p = some (.ins C dx []) ∧
  H a = some (.lst (ns.map V.str)) ∧ NamesOk ns ∧ 1 ≤ ns.length ∧ H b = some (sq t (as.map V.ref)) ∧ RowsAt H as rs ∧ (∀ r ∈ rs, NamesOk r) ∧ 1 ≤ rs.length ∧ rs.length ≤ 100 ∧ (L = 0 ∨ L = 1) ∧
  ∀ o sg kn H', HuntAt C H' p o sg kn L ns (signsOf ns rs) → H' kn = some (dN kn []) → H kn = none → But [p] H H' → Q .non H'
theorem sq_ne_ins {t : Bool} {xs : List V} {C dx : Addr} {fs : List (Str × V)} : sq t xs ≠ .ins C dx fs := by
  cases t <;> (intro z; cases z)
theorem ok_init {C f f1 f2 f3 : Addr} {fd d1 d2 d3 : FuncData} (F : Fun K "__init__" "Hunt.__init__" sInit f fd) (T : BI mg) (Z : HuntF K mg C)
    (D_checked_suspects : DefAt K mg "checked_suspects" sSuspects ["thing"] f1 d1) (G1 : FnOk P w K mg base CX0 2 f1 d1 ["thing"] spSuspects)
    (D_checked_askings : DefAt K mg "checked_askings" sAskings ["thing"] f2 d2) (G_checked_askings : FnOk P w K mg base CX0 3 f2 d2 ["thing"] spAskings)
    (D_checked_lies : DefAt K mg "checked_lies" sLies ["thing"] f3 d3) (G3 : FnOk P w K mg base CX0 2 f3 d3 ["thing"] spLies) :
    FnOk P w K mg base CX0 4 f fd ["self", "suspects", "askings", "lies"] (spInit C) := by
  refine F.ok scInit (fun vs H Q E h => ?_) (fun cdv A outer s H vs Q E hr h => ?_)
  · obtain ⟨p, dx, a, b, t, as, ns, rs, L, rfl, _⟩ := h
    rfl
  obtain ⟨p, dx, a, b, t, as, ns, rs, L, rfl, hp, ha, hn, hn1, hb, hR, hrs, hr1, hr2, hL, q⟩ := h
  have hrB : Room 2 _ := hr.mono (by decide)
  refine ⟨_, pss_cons (ps_fld (pv 0) (pe_call G1 hrB (by rfl) D_checked_suspects.g D_checked_suspects.F.kp D_checked_suspects.b .nil pass0 (pa_cons (pv 1) pa_nil)) rfl)
    (pss_cons (ps_set (i := 4) scInit.nd rfl (.inl rfl) (pe_call G_checked_askings hr (by rfl) D_checked_askings.g D_checked_askings.F.kp D_checked_askings.b .nil pass0 (pa_cons (pv 2) pa_nil)))
    (pss_cons (ps_fld (pv 0) (pe_call G3 hrB (by rfl) D_checked_lies.g D_checked_lies.F.kp D_checked_lies.b .nil pass0 (pa_cons (pv 3) pa_nil)) rfl)
    (pss_cons (ps_fld (pv 0) (pe_lc (own := [("row", 5)]) (g := (gName 5)) (tt := tYes) rfl scInit.nd (pseq K false (pv 4)) (blkOk_by (N := ["self", "suspects", "askings", "lies", "some", "row", "one"]) (sc := (defScope sInit)) (by decide +kernel))
        (fun _ _ _ _ _ => (pg_name (i := 5) scInit.nd rfl (.inr rfl))) (fun _ _ _ _ _ => pts_nil)
        (fun _ _ _ _ _ => (pe_lc (own := [("one", 6)]) (g := (gName 6)) (tt := tYes) rfl scInit.nd (pseq K false (pfld K (pv 0) rfl)) (blkOk_by (N := ["self", "suspects", "askings", "lies", "some", "row", "one"]) (sc := (relS (lcScope (asgVal (stAt sInit 3))) (defScope sInit))) (by decide +kernel))
        (fun _ _ _ _ _ => (pg_name (i := 6) scInit.nd rfl (.inl rfl))) (fun _ _ _ _ _ => pts_nil)
        (fun _ _ _ _ _ => (pe_cmpR (opIn K) (pv 6) (pv 5) rfl))))) rfl)
    (pss_one (ps_fld (pv 0) pe_nnew rfl))))), ?_⟩
  have fr : ∀ {H1 : Hp} {x : Addr} {u : HO}, H x = some u → (∀ C dx fs, u ≠ .ins C dx fs) → x ≠ p := fun {H1 x u} e n z => by
    rw [z, hp] at e
    exact n _ _ _ (Option.some.inj e).symm
  -- self.ones
  refine ⟨_, rfl, a, ns, rfl, ha, hn, hn1, fun o H1 s1 no eo => ⟨_, rfl, p, C, dx, [], rfl, s1 _ _ hp, Z.cl, Z.nO, by decide, ?_⟩⟩
  have po : o ≠ p := fun z => by rw [z, hp] at no; cases no
  -- some
  have b1 : But [p] H (upd H1 p (.ins C dx (putF "ones" (.ref o) []))) := (Same.but s1).trans (but_upd (by simp))
  have keep : ∀ {H' : Hp}, But [p] H H' → RowsAt H' as rs := fun {H'} e => hR.mono fun c hc u ec => by
    refine e c u ec fun z => ?_
    obtain ⟨i, hi⟩ := List.mem_iff_getElem?.mp hc
    obtain ⟨c', r, e1, e2, e3⟩ := hR.at (List.getElem?_eq_some_iff.mp hi).1
    rw [hi] at e1
    cases e1
    rw [List.mem_singleton.mp z, hp] at e3
    cases e3
  refine ⟨_, rfl, t, b, as, rs, rfl, b1 _ _ hb (fun z => ?_), keep b1, hrs, hr1, hr2, fun sm as' H2 s2 nsm esm hR2 => ?_⟩
  · rw [List.mem_singleton.mp z, hp] at hb
    exact sq_ne_ins (Option.some.inj hb).symm
  -- self.most
  have eo2 : H2 o = some (.lst (ns.map V.str)) := s2 _ _ (by rw [upd_ne po]; exact eo)
  have ep2 : H2 p = some (.ins C dx (putF "ones" (.ref o) [])) := s2 _ _ upd_same
  refine ⟨_, rfl, L, rfl, hL, fun H3 s3 => ⟨_, rfl, p, C, dx, _, rfl, s3 _ _ ep2, Z.cl, Z.nM, putF_few (by decide), ?_⟩⟩
  have b3 : But [p] H (upd H3 p (.ins C dx (putF "most" (.int L) (putF "ones" (.ref o) [])))) := (b1.trans (Same.but (s2.trans s3))).trans (but_upd (by simp))
  have psm : sm ≠ p := ne_of esm ep2 (fun z => nomatch z)
  -- self.signs
  have esm4 : (upd H3 p (.ins C dx (putF "most" (.int L) (putF "ones" (.ref o) [])))) sm = some (.lst (as'.map V.ref)) := by rw [upd_ne psm]; exact s3 _ _ esm
  have eo4 : (upd H3 p (.ins C dx (putF "most" (.int L) (putF "ones" (.ref o) [])))) o = some (.lst (ns.map V.str)) := by rw [upd_ne po]; exact s3 _ _ eo2
  have hR4 : RowsAt (upd H3 p (.ins C dx (putF "most" (.int L) (putF "ones" (.ref o) [])))) as' rs := (hR2.same s3).mono fun c hc u ec => by
    rw [upd_ne fun z => ?_]
    · exact ec
    · obtain ⟨i, hi⟩ := List.mem_iff_getElem?.mp hc
      obtain ⟨c', r, e1, e2, e3⟩ := hR2.at (List.getElem?_eq_some_iff.mp hi).1
      rw [hi] at e1
      cases e1
      rw [z, ep2] at e3
      cases e3
  generalize hH4 : (upd H3 p (.ins C dx (putF "most" (.int L) (putF "ones" (.ref o) [])))) = H4 at *
  have ep4 : H4 p = some (.ins C dx (putF "most" (.int L) (putF "ones" (.ref o) []))) := by rw [← hH4, upd_same]
  have few := hn.few
  have lks : (putF "most" (.int L) (putF "ones" (.ref o) []) : List (Str × V)).lookup ("ones" : Str) = some (V.ref o) := by rw [lookup_putF, if_neg n1, lookup_putF, if_pos rfl]
  refine ⟨_, rfl, sm, _, rfl, .inl (.inl esm4), fun D nD => ?_⟩
  refine lc_it walkS (fun i H5 => ∃ ss, H5 D = some (.lst (ss.map V.ref)) ∧ PtsAt bools H5 ss ((signsOf ns rs).take i) ∧ D ∉ ss ∧ Same H4 H5) ⟨[], upd_same, PtsAt.nil _, by simp, same_new nD _⟩ (fun i H5 _ ⟨_, _, _, _, s5⟩ => .inl (.inl (s5 _ _ esm4))) ?_ ?_
  · rintro i y H5 H6 hi ⟨ss, e1, e2, e3, s5⟩ ⟨rfl, hy⟩
    rw [List.length_map] at hi
    obtain ⟨c, r, hc, hrr, hH⟩ := hR4.at hi
    rw [List.getElem?_map, hc] at hy
    obtain rfl : V.ref c = y := Option.some.inj hy
    refine ⟨rfl, yesI ⟨_, rfl, p, C, dx, _, _, rfl, s5 _ _ ep4, Z.cl, Z.nO, lks, o, _, rfl, .inl (.inl (s5 _ _ eo4)), fun D2 nD2 => ?_⟩⟩
    have sD2 : Same H6 (upd H6 D2 (.lst [])) := same_new nD2 _
    refine lc_it walkS (fun j H7 => H7 D2 = some (.lst (((ns.take j).map fun n => decide (n ∈ r)).map V.bl)) ∧ Same H6 H7) ⟨upd_same, sD2⟩ (fun j H7 _ ⟨_, s7⟩ => .inl (.inl (s7 _ _ (s5 _ _ eo4)))) ?_ ?_
    · rintro j y H7 H8 hj ⟨e4, s7⟩ ⟨rfl, hy⟩
      rw [List.length_map] at hj
      rw [List.getElem?_map, List.getElem?_eq_getElem hj] at hy
      obtain rfl : V.str ns[j] = y := Option.some.inj hy
      refine ⟨rfl, yesI ⟨_, rfl, _, rfl, c, r.map V.str, rfl, .inl (SqL.of (s7 _ _ (s5 _ _ hH))), rfl, flat_strs r, _, e4, ?_, ?_, same_upd s7 nD2⟩⟩
      · rw [List.length_map, List.length_map, List.length_take]
        exact small1000 (by omega)
      · rw [upd_same, if_neg Bool.false_ne_true, inV_str, take_snoc (List.getElem?_eq_getElem hj), List.map_append, List.map_append]
        rfl
    · rintro H7 ⟨e4, s7⟩
      rw [List.length_map, List.take_length] at e4
      have nD : D ≠ D2 := ne_of_none e1 nD2
      refine ⟨ss.map V.ref, s7 _ _ e1, ?_, ss ++ [D2], ?_, ?_, ?_, same_upd (s5.trans s7) ‹H4 D = none›⟩
      · rw [List.length_map, e2.1, List.length_take]
        have : (signsOf ns rs).length = rs.length := by unfold signsOf; rw [List.length_map]
        exact small1000 (by omega)
      · rw [upd_same, map_snoc]
      · have hs : (signsOf ns rs)[i]? = some (ns.map fun n => decide (n ∈ r)) := by unfold signsOf; rw [List.getElem?_map, hrr]; rfl
        rw [take_snoc hs]
        refine ((e2.same s7).mono fun c hc u ec => ?_).snoc ?_
        · rw [upd_ne (fun z => e3 (by rw [← z]; exact hc))]
          exact ec
        · rw [upd_ne nD.symm]
          exact e4
      · rw [List.mem_append, not_or]
        exact ⟨e3, fun z => nD (List.mem_singleton.mp z)⟩
  · rintro H5 ⟨ss, e1, e2, e3, s5⟩
    have hls : (signsOf ns rs).length = rs.length := by unfold signsOf; rw [List.length_map]
    rw [List.length_map, hR4.1, ← hls, List.take_length] at e2
    have ep5 := s5 _ _ ep4
    have pD : D ≠ p := ne_of e1 ep5 (fun z => nomatch z)
    refine ⟨_, rfl, p, C, dx, _, rfl, ep5, Z.cl, Z.nS, putF_few2 (by decide), ?_⟩
    -- self.known
    intro kn nkn
    have pk : kn ≠ p := fun z => by rw [z, upd_same] at nkn; cases nkn
    refine ⟨_, rfl, p, C, dx, _, rfl, (by rw [upd_ne pk.symm, upd_same]), Z.cl, Z.nK, putF_few3 (by decide), ?_⟩
    have nkn5 : H5 kn = none := by rw [upd_ne pk] at nkn; exact nkn
    have at_ : ∀ {x : Addr} {u : HO} {u1 u2 : HO}, H5 x = some u → x ≠ p → (upd (upd (upd H5 p u1) kn (dN kn [])) p u2) x = some u := fun {x u u1 u2} e n => by
      rw [upd_ne n, upd_ne (ne_of_none e nkn5), upd_ne n]; exact e
    refine q o D kn _ ⟨⟨dx, upd_same⟩, at_ (s5 _ _ eo4) po, ss, at_ e1 pD, e2.1, fun i c r g1 g2 => at_ (e2.2 i c r g1 g2) (ne_of (e2.2 i c r g1 g2) ep5 (fun z => nomatch z))⟩ ?_ ?_ ?_
    · rw [upd_ne pk, upd_same]
    · cases z : H kn with
      | none => rfl
      | some u =>
        have y := (b3.trans (Same.but s5)) kn u z (by simpa using pk)
        rw [nkn5] at y
        cases y
    · refine ((b3.trans (Same.but s5)).trans ?_)
      intro x u e n
      have n' : x ≠ p := fun z => n (by rw [z]; simp)
      exact at_ e n'
end
end P81
end
section
set_option Elab.async false
set_option linter.all false
set_option maxRecDepth 100000
set_option maxHeartbeats 4000000
namespace P81
open PySem PySem.Spec PyProof.Rows L2 ZG NK
abbrev zeros (n : Nat) : List Int := List.replicate n 0
def leftNames (L : Int) (ns : List Str) (s : List Int) : List Str := ((ns.zip s).filter fun p => decide (p.2 ≤ L)).map (·.1)
theorem leftNames_len (L : Int) : ∀ {ns : List Str} {s : List Int}, ns.length = s.length → (leftNames L ns s).length = leftN L s
  | [], [], _ => rfl
  | [], _ :: _, h => by simp at h
  | _ :: _, [], h => by simp at h
  | n :: ns, x :: s, h => by
    have ih := leftNames_len L (ns := ns) (s := s) (by simpa using h)
    rw [leftN_cons, ← ih]
    unfold leftNames
    rw [List.zip_cons_cons, List.filter_cons]
    by_cases q : x ≤ L
    · rw [if_pos (by simpa using q), if_pos q, List.map_cons, List.length_cons, Nat.add_comm]
    · rw [if_neg (by simpa using q), if_neg q, Nat.zero_add]
abbrev tupI (s : List Int) : HO := .tup (s.map V.int)
section
variable {P : Program} {w : World} {K : PySem.W.Frag} {mg : Str → Option Value} {base : Heap}
theorem scBegun : FnScope ["self"] ["self"] (defScope sBegun) := ⟨rfl, rfl, rfl, by decide +kernel, rfl, by decide +kernel, by decide +kernel⟩
def spBegun (C : Addr) : Sp := fun vs H Q _ => ∃ p o sg kn L ns R, vs = [.ref p] ∧ HuntAt C H p o sg kn L ns R ∧ 1 ≤ ns.length ∧ ns.length ≤ 100 ∧ ∀ t H', Same H H' → H' t = some (tupI (zeros ns.length)) → Q (.ref t) H'
theorem ok_begun {C f : Addr} {fd : FuncData} (F : Fun K "begun" "Hunt.begun" sBegun f fd) (T : BI mg) (Z : HuntF K mg C) : FnOk P w K mg base CX0 1 f fd ["self"] (spBegun C) := by
  refine F.ok scBegun (fun vs H Q E h => ?_) (fun cdv A outer s H vs Q E hr h => ?_)
  · obtain ⟨p, o, sg, kn, L, ns, R, rfl, _⟩ := h
    rfl
  obtain ⟨p, o, sg, kn, L, ns, R, rfl, U, l1, l2, q⟩ := h
  obtain ⟨⟨dx, e1⟩, e2, _⟩ := U
  refine ⟨_, pss_one (ps_ret (pe_op RO.op_repZ (pe_tup (pa_cons pe_int pa_nil)) (pe_callB (crLen K) (by rfl) T.len (by decide +kernel) (pa_cons (pfld K (pv 0) rfl) pa_nil)))), ?_⟩
  refine ⟨by show 1 ≤ sizeLine; decide, fun t nt => ?_⟩
  have s1 := same_new nt (.tup [.int 0])
  refine ⟨_, rfl, p, C, dx, _, _, rfl, s1 _ _ e1, Z.cl, Z.nO, hf_ones, o, _, rfl, .inl (SqL.of (s1 _ _ e2)), t, ns.length, .int 0, rfl, by rw [List.length_map], upd_same, l1, by omega, fun r H' s2 er => ?_⟩
  refine q r H' (s1.trans s2) ?_
  rw [er, show tupI (zeros ns.length) = .tup ((zeros ns.length).map V.int) from rfl, List.map_replicate]
theorem scBehind1 : FnScope ["self", "state", "index", "answer", "pairs", "wrong", "sign"] ["self", "state", "index", "answer"] (defScope sBehind1) := ⟨rfl, rfl, rfl, by decide +kernel, rfl, by decide +kernel, by decide +kernel⟩
def spBehind1 (C : Addr) : Sp := fun vs H Q _ => ∃ p o sg kn L ns R st s i r a, vs = [.ref p, .ref st, .int (i : Nat), .bl a] ∧ HuntAt C H p o sg kn L ns R ∧ H st = some (tupI s) ∧ s.length = ns.length ∧ R[i]? = some r ∧ r.length = ns.length ∧ ns.length ≤ 100 ∧
  ∀ t H', Same H H' → H' t = some (tupI (cap L (aft r a s))) → Q (.ref t) H'
theorem wr_eq (b a : Bool) : (if (!decide (V.bl b = V.bl a)) = true then 1 else 0 : Int) = wr b a := by cases b <;> cases a <;> rfl
theorem ok_behind_answer {C f : Addr} {fd : FuncData} (F : Fun K "behind_answer" "Hunt.behind_answer" sBehind1 f fd) (T : BI mg) (Z : HuntF K mg C) : FnOk P w K mg base CX0 1 f fd ["self", "state", "index", "answer"] (spBehind1 C) := by
  refine F.ok scBehind1 (fun vs H Q E h => ?_) (fun cdv A outer s H vs Q E hr h => ?_)
  · obtain ⟨p, o, sg, kn, L, ns, R, st, s, i, r, a, rfl, _⟩ := h
    rfl
  obtain ⟨p, o, sg, kn, L, ns, R, st, x, i, r, a, rfl, U, hx, lx, hr0, lr, few, q⟩ := h
  obtain ⟨⟨dx, e1⟩, e2, ss, e3, e4⟩ := U
  obtain ⟨c, hc, hcr⟩ := e4.get hr0
  refine ⟨_, pss_cons (ps_set (i := 4) scBehind1.nd rfl (.inl rfl) (pe_zipV true false (by rfl) T.zip (pa_cons (pv 1) (pa_cons (pe_ix (ixL K) (pfld K (pv 0) rfl) (pv 2) (fun _ _ => rfl)) pa_nil))))
    (pss_one (ps_ret (pe_callTy (crTupOf K) (by rfl) T.tuple (by decide +kernel) (pa_cons (pe_lc (own := [("wrong", 5), ("sign", 6)]) (g := (gTup K 2 (gCons (gName 5) (gCons (gName 6) gNil)))) (tt := tYes) rfl scBehind1.nd (pi_zipV true false 4) (blkOk_by (N := ["self", "state", "index", "answer", "pairs", "wrong", "sign"]) (sc := (defScope sBehind1)) (by decide +kernel))
        (fun _ _ _ _ _ => (pg_tup (by rfl) (pgs_cons (pg_name (i := 5) scBehind1.nd rfl (.inl rfl)) (pgs_cons (pg_name (i := 6) scBehind1.nd rfl (.inl rfl)) pgs_nil)))) (fun _ _ _ _ _ => pts_nil)
        (fun _ _ _ _ _ => (pe_callB (call_min2 rfl) (by rfl) T.min (by decide +kernel) (pa_cons (pe_op op_add (pv 5) (pe_callTy call_int1 (by rfl) T.int (by decide +kernel) (pa_cons (pe_cmpR op_ne (pv 6) (pv 3) (nomark _)) pa_nil))) (pa_cons (pe_op op_add (pfld K (pv 0) rfl) pe_int) pa_nil))))) pa_nil)))), ?_⟩
  have gc : (ss.map V.ref)[i]? = some (.ref c) := by rw [List.getElem?_map, hc]; rfl
  refine ⟨_, rfl, _, rfl, p, C, dx, _, _, rfl, e1, Z.cl, Z.nS, hf_signs, _, rfl, sg, _, _, _, rfl, rfl, SqL.of e3, atI_nat gc, ?_⟩
  refine ⟨st, c, _, _, rfl, sq_Sq (t := true) hx, sq_Sq (t := false) hcr, fun N hN fr la lb => ?_⟩
  refine ⟨N, st, c, H, rfl, rfl, hN, fr, la, lb, fun D nD => ?_⟩
  have hn : ns.length = min (x.map V.int).length (r.map V.bl).length := by rw [List.length_map, List.length_map]; omega
  refine lc_it (walkZ hn) (fun j H2 => H2 D = some (.lst (((cap L (aft r a x)).take j).map V.int)) ∧ Same H H2) ⟨upd_same, same_new nD _⟩ (fun j H2 _ ⟨_, s2⟩ => ⟨sq_Sq (t := true) (s2 _ _ hx), sq_Sq (t := false) (s2 _ _ hcr)⟩) ?_ ?_
  · rintro j y H2 H3 hj ⟨eD, s2⟩ ⟨Tp, x1, x2, rfl, nT, rfl, g1, g2⟩
    have hj1 : j < x.length := by omega
    have hj2 : j < r.length := by omega
    have g1 : (x.map V.int)[j]? = some x1 := g1
    have g2 : (r.map V.bl)[j]? = some x2 := g2
    rw [List.getElem?_map, List.getElem?_eq_getElem hj1] at g1
    rw [List.getElem?_map, List.getElem?_eq_getElem hj2] at g2
    obtain rfl : V.int x[j] = x1 := Option.some.inj g1
    obtain rfl : V.bl r[j] = x2 := Option.some.inj g2
    have s3 := s2.trans (same_new nT (.tup [.int x[j], .bl r[j]]))
    refine ⟨Tp, _, rfl, .inl (.inl upd_same), rfl, _, _, rfl, _, _, rfl, rfl, rfl, yesI ?_⟩
    refine ⟨_, rfl, _, rfl, _, rfl, rfl, .inr ⟨_, rfl, _, _, rfl, rfl, _, rfl, p, C, dx, _, _, rfl, s3 _ _ e1, Z.cl, Z.nM, hf_most, L, 1, rfl, rfl, _, _, rfl, ?_⟩⟩
    have hD3 : (upd H2 Tp (.tup [.int x[j], .bl r[j]])) D = some (.lst (((cap L (aft r a x)).take j).map V.int)) := by rw [upd_ne (ne_of_none eD nT)]; exact eD
    refine ⟨_, hD3, ?_, ?_, same_upd s3 nD⟩
    · rw [List.length_map, List.length_take]
      exact small1000 (by omega)
    · rw [upd_same]
      have gj : (cap L (aft r a x))[j]? = some (capx L (x[j] + wr r[j] a)) := by
        unfold cap
        rw [List.getElem?_map, aft_get (List.getElem?_eq_getElem hj1) (List.getElem?_eq_getElem hj2)]
        rfl
      rw [take_snoc gj, List.map_append, wr_eq]
      rfl
  · rintro H2 ⟨eD, s2⟩
    have hl : (cap L (aft r a x)).length = ns.length := by rw [cap_length, aft_length (by omega), lx]
    rw [← hl, List.take_length] at eD
    exact ⟨D, _, rfl, SqL.of eD, fun t nt => q t _ (s2.trans (same_new nt _)) upd_same⟩
theorem scLeft : FnScope ["self", "state", "one", "wrong"] ["self", "state"] (defScope sLeft) := ⟨rfl, rfl, rfl, by decide +kernel, rfl, by decide +kernel, by decide +kernel⟩
def spLeft (C : Addr) : Sp := fun vs H Q _ => ∃ p o sg kn L ns R st s, vs = [.ref p, .ref st] ∧ HuntAt C H p o sg kn L ns R ∧ H st = some (tupI s) ∧ s.length = ns.length ∧ ns.length ≤ 100 ∧
  ∀ l H', Same H H' → H l = none → H' l = some (.lst ((leftNames L ns s).map V.str)) → Q (.ref l) H'
theorem ok_left_ones {C f : Addr} {fd : FuncData} (F : Fun K "left_ones" "Hunt.left_ones" sLeft f fd) (T : BI mg) (Z : HuntF K mg C) : FnOk P w K mg base CX0 1 f fd ["self", "state"] (spLeft C) := by
  refine F.ok scLeft (fun vs H Q E h => ?_) (fun cdv A outer s H vs Q E hr h => ?_)
  · obtain ⟨p, o, sg, kn, L, ns, R, st, s, rfl, _⟩ := h
    rfl
  obtain ⟨p, o, sg, kn, L, ns, R, st, x, rfl, U, hx, lx, few, q⟩ := h
  obtain ⟨⟨dx, e1⟩, e2, _⟩ := U
  refine ⟨_, pss_one (ps_ret (pe_lc (own := [("one", 2), ("wrong", 3)]) (g := (gTup K 2 (gCons (gName 2) (gCons (gName 3) gNil)))) rfl scLeft.nd (pi_zipG false true (by rfl) T.zip (pa_cons (pfld K (pv 0) rfl) (pa_cons (pv 1) pa_nil))) (blkOk_by (N := ["self", "state", "one", "wrong"]) (sc := (defScope sLeft)) (by decide +kernel))
        (fun _ _ _ _ _ => (pg_tup (by rfl) (pgs_cons (pg_name (i := 2) scLeft.nd rfl (.inl rfl)) (pgs_cons (pg_name (i := 3) scLeft.nd rfl (.inl rfl)) pgs_nil)))) (fun _ _ _ _ _ => (pts_one (pt_cmpR op_le (pv 3) (pfld K (pv 0) rfl) (nomark _))))
        (fun _ _ _ _ _ => (pv 2)))), ?_⟩
  refine ⟨_, rfl, p, C, dx, _, _, rfl, e1, Z.cl, Z.nO, hf_ones, _, rfl, o, st, _, _, rfl, sq_Sq (t := false) e2, sq_Sq (t := true) hx, fun D nD => ?_⟩
  have hn : ns.length = min (ns.map V.str).length (x.map V.int).length := by rw [List.length_map, List.length_map]; omega
  have zl : (ns.zip x).length = ns.length := by rw [List.length_zip]; omega
  refine lc_it (walkZ hn) (fun j H2 => H2 D = some (.lst (((((ns.zip x).take j).filter fun p => decide (p.2 ≤ L)).map (·.1)).map V.str)) ∧ Same H H2) ⟨upd_same, same_new nD _⟩ (fun j H2 _ ⟨_, s2⟩ => ⟨sq_Sq (t := false) (s2 _ _ e2), sq_Sq (t := true) (s2 _ _ hx)⟩) ?_ ?_
  · rintro j y H2 H3 hj ⟨eD, s2⟩ ⟨Tp, x1, x2, rfl, nT, rfl, g1, g2⟩
    have hj2 : j < x.length := by omega
    have g1 : (ns.map V.str)[j]? = some x1 := g1
    have g2 : (x.map V.int)[j]? = some x2 := g2
    rw [List.getElem?_map, List.getElem?_eq_getElem hj] at g1
    rw [List.getElem?_map, List.getElem?_eq_getElem hj2] at g2
    obtain rfl : V.str ns[j] = x1 := Option.some.inj g1
    obtain rfl : V.int x[j] = x2 := Option.some.inj g2
    have s3 := s2.trans (same_new nT (.tup [.str ns[j], .int x[j]]))
    have hD3 : (upd H2 Tp (.tup [.str ns[j], .int x[j]])) D = some (.lst (((((ns.zip x).take j).filter fun p => decide (p.2 ≤ L)).map (·.1)).map V.str)) := by rw [upd_ne (ne_of_none eD nT)]; exact eD
    have gz : (ns.zip x)[j]? = some (ns[j], x[j]) := by
      rw [List.getElem?_zip_eq_some]
      exact ⟨List.getElem?_eq_getElem hj, List.getElem?_eq_getElem hj2⟩
    refine ⟨Tp, _, rfl, .inl (.inl upd_same), rfl, _, _, rfl, _, _, rfl, rfl, rfl, ?_⟩
    refine ⟨_, rfl, _, rfl, p, C, dx, _, _, rfl, s3 _ _ e1, Z.cl, Z.nM, hf_most, _, _, rfl, rfl, _, rfl, ?_⟩
    by_cases c : x[j] ≤ L
    · rw [decide_eq_true c]
      refine ifT ⟨_, rfl, _, hD3, ?_, ?_, same_upd s3 nD⟩
      · rw [List.length_map, List.length_map]
        have := List.length_filter_le (fun p : Str × Int => decide (p.2 ≤ L)) ((ns.zip x).take j)
        rw [List.length_take] at this
        exact small1000 (by omega)
      · rw [upd_same, take_snoc gz, List.filter_append, List.map_append, List.map_append]
        rw [show ([(ns[j], x[j])].filter fun p : Str × Int => decide (p.2 ≤ L)) = [(ns[j], x[j])] by rw [List.filter_cons, if_pos (by simpa using c)]; rfl]
        rfl
    · rw [decide_eq_false c]
      refine iteF ⟨?_, s3⟩
      rw [hD3, take_snoc gz, List.filter_append]
      rw [show ([(ns[j], x[j])].filter fun p : Str × Int => decide (p.2 ≤ L)) = [] by rw [List.filter_cons, if_neg (by simpa using c)]; rfl, List.append_nil]
  · rintro H2 ⟨eD, s2⟩
    rw [← zl, List.take_length] at eD
    exact q D H2 s2 (‹H D = none›) eD
end
end P81
end
section
set_option Elab.async false
set_option linter.all false
set_option maxRecDepth 100000
set_option maxHeartbeats 4000000
/-! How many keys there can be; what a dict of known answers holds. -/
namespace P81
open PySem PySem.Spec PyProof.Rows L2 ZG NK
theorem nodup_le {α : Type} [DecidableEq α] : ∀ {l m : List α}, l.Nodup → (∀ x ∈ l, x ∈ m) → l.length ≤ m.length
  | [], m, _, _ => Nat.zero_le _
  | x :: l, m, h, hs => by
    obtain ⟨h1, h2⟩ := List.nodup_cons.mp h
    have hx := hs x List.mem_cons_self
    have ih := nodup_le (l := l) (m := m.erase x) h2 fun y hy => (List.mem_erase_of_ne fun z => h1 (by rw [← z]; exact hy)).mpr (hs y (List.mem_cons_of_mem _ hy))
    rw [List.length_erase_of_mem hx] at ih
    have := List.length_pos_of_mem hx
    rw [List.length_cons]
    omega
def allStates : Nat → List (List Int)
  | 0 => [[]]
  | n + 1 => (allStates n).flatMap fun s => [0 :: s, 1 :: s, 2 :: s]
theorem flat3 : ∀ (l : List (List Int)), (l.flatMap fun s => [0 :: s, 1 :: s, 2 :: s]).length = 3 * l.length
  | [] => rfl
  | x :: l => by
    rw [List.flatMap_cons, List.length_append, flat3 l, List.length_cons, List.length_cons]
    show 3 + 3 * l.length = 3 * (l.length + 1)
    omega
theorem allStates_len : ∀ n, (allStates n).length = 3 ^ n
  | 0 => rfl
  | n + 1 => by
    show ((allStates n).flatMap fun s => [0 :: s, 1 :: s, 2 :: s]).length = _
    rw [flat3, allStates_len n, Nat.pow_succ]
    omega
theorem mem_states : ∀ {s : List Int}, (∀ x ∈ s, 0 ≤ x ∧ x ≤ 2) → s ∈ allStates s.length
  | [], _ => List.mem_singleton.mpr rfl
  | x :: s, h => by
    have ih := mem_states (s := s) fun y hy => h y (List.mem_cons_of_mem _ hy)
    obtain ⟨h1, h2⟩ := h x List.mem_cons_self
    show x :: s ∈ (allStates s.length).flatMap fun s => [0 :: s, 1 :: s, 2 :: s]
    refine List.mem_flatMap.mpr ⟨s, ih, ?_⟩
    have : x = 0 ∨ x = 1 ∨ x = 2 := by omega
    rcases this with e | e | e <;> subst e <;> simp
def allKeys (n : Nat) : List NKey := (allStates n).flatMap fun s => (List.range 13).map fun m => (s, ((m : Nat) : Int))
theorem flat13 : ∀ (l : List (List Int)), (l.flatMap fun s => (List.range 13).map fun m => (s, ((m : Nat) : Int))).length = 13 * l.length
  | [] => rfl
  | x :: l => by
    rw [List.flatMap_cons, List.length_append, flat13 l, List.length_map, List.length_range, List.length_cons]
    omega
/-- a key that the searches use -/
def Keyed (n : Nat) (L : Int) (k : NKey) : Prop := ∃ (s : List Int) (m : Nat), k = (s, ((m : Nat) : Int)) ∧ s.length = n ∧ (∀ x ∈ s, 0 ≤ x ∧ x ≤ L + 1) ∧ m ≤ 12
theorem keyed_mem {n : Nat} {L : Int} {k : NKey} (hL : L ≤ 1) (h : Keyed n L k) : k ∈ allKeys n := by
  obtain ⟨s, m, rfl, rfl, h1, h2⟩ := h
  refine List.mem_flatMap.mpr ⟨s, mem_states fun x hx => ⟨(h1 x hx).1, by have := (h1 x hx).2; omega⟩, List.mem_map.mpr ⟨m, List.mem_range.mpr (by omega), rfl⟩⟩
/-- the dict at kn holds answers under the searches' keys -/
structure KOk (H : Hp) (kn : Addr) (n : Nat) (L : Int) (kvs : List NE) : Prop where
  at_ : H kn = some (dN kn kvs)
  ks : NKs H kvs
  nd : (kvs.map (·.1)).Nodup
  key : ∀ k ∈ kvs.map (·.1), Keyed n L k
theorem KOk.few {H : Hp} {kn : Addr} {n : Nat} {L : Int} {kvs : List NE} (h : KOk H kn n L kvs) (hn : n ≤ 4) (hL : L ≤ 1) : kvs.length < sizeLine := by
  have q := nodup_le h.nd fun k hk => keyed_mem hL (h.key k hk)
  rw [List.length_map] at q
  have e : (allKeys n).length = 13 * 3 ^ n := by
    unfold allKeys
    rw [flat13, allStates_len]
  have p : 3 ^ n ≤ 3 ^ 4 := Nat.pow_le_pow_right (by decide) hn
  have z : (3 : Nat) ^ 4 = 81 := by decide
  rw [e] at q
  have y : kvs.length ≤ 1053 := by omega
  exact Nat.lt_of_le_of_lt y (by decide)
theorem tups_of_but {l : List Addr} {H H' : Hp} (e : But l H H') (h : ∀ a ∈ l, ∃ o, H a = some o ∧ ∀ xs, o ≠ .tup xs) : ∀ b xs, H b = some (.tup xs) → H' b = some (.tup xs) := fun b xs q => e b _ q fun m => by
  obtain ⟨o, h1, h2⟩ := h b m
  rw [q] at h1
  exact h2 xs (Option.some.inj h1).symm
theorem KOk.same {H H' : Hp} {kn : Addr} {n : Nat} {L : Int} {kvs : List NE} (h : KOk H kn n L kvs) (e : Same H H') : KOk H' kn n L kvs :=
  ⟨e _ _ h.at_, h.ks.mono fun b xs q => e b _ q, h.nd, h.key⟩
/-- other things change -/
theorem KOk.but {H H' : Hp} {kn : Addr} {n : Nat} {L : Int} {kvs : List NE} (h : KOk H kn n L kvs) {l : List Addr} (e : But l H H') (hl : ∀ a ∈ l, ∃ o, H a = some o ∧ (∀ xs, o ≠ .tup xs) ∧ ∀ φ, o ≠ .ext φ) : KOk H' kn n L kvs := by
  refine ⟨e _ _ h.at_ fun m => ?_, h.ks.mono (tups_of_but e fun a m => ?_), h.nd, h.key⟩
  · obtain ⟨o, h1, _, h2⟩ := hl kn m
    rw [h.at_] at h1
    exact h2 _ (Option.some.inj h1).symm
  · obtain ⟨o, h1, h2, _⟩ := hl a m
    exact ⟨o, h1, h2⟩
/-- one answer more -/
theorem KOk.put {H : Hp} {kn : Addr} {n : Nat} {L : Int} {kvs : List NE} (h : KOk H kn n L kvs) {k : NKey} {b : Addr} (hb : NT H k b) (hk : Keyed n L k) (v : V) : KOk (upd H kn (dN kn (putN kvs k b v))) kn n L (putN kvs k b v) := by
  have up : ∀ c xs, H c = some (.tup xs) → (upd H kn (dN kn (putN kvs k b v))) c = some (.tup xs) := fun c xs q => by
    rw [upd_ne (ne_of q h.at_ (fun z => nomatch z))]; exact q
  refine ⟨upd_same, fun x hx => ?_, putN_nodup h.nd k b v, fun j hj => ?_⟩
  · rcases putN_mem hx with ⟨y, hy, e1, e2⟩ | e
    · rw [e1, e2]; exact (h.ks y hy).mono up
    · rw [e]; exact hb.mono up
  · rw [putN_keys] at hj
    split at hj
    · exact h.key j hj
    · rcases List.mem_append.mp hj with m | m
      · exact h.key j m
      · rw [List.mem_singleton.mp m]; exact hk
theorem KOk.get {H : Hp} {kn : Addr} {n : Nat} {L : Int} {kvs : List NE} (h : KOk H kn n L kvs) {k : NKey} {b : Addr} (hb : NT H k b) : NGet H kn (.ref b) (valN kvs k) := ⟨kvs, k, b, h.at_, h.ks, rfl, hb, rfl⟩
theorem KOk.new {H : Hp} {kn : Addr} {n : Nat} {L : Int} (h : H kn = some (dN kn [])) : KOk H kn n L [] := ⟨h, fun x hx => (nomatch hx), List.nodup_nil, fun k hk => (nomatch hk)⟩
/-- the answers for up to b askings are right -/
def Right (R : List (List Bool)) (L : Int) (b : Nat) (kvs : List NE) : Prop := ∀ (s : List Int) (m : Nat) (v : V), m ≤ b → valN kvs (s, ((m : Nat) : Int)) = some v → v = .bl (enough R L m s)
theorem Right.nil {R : List (List Bool)} {L : Int} {b : Nat} : Right R L b [] := fun s m v _ h => nomatch h
theorem Right.put {R : List (List Bool)} {L : Int} {b : Nat} {kvs : List NE} (h : Right R L b kvs) {s : List Int} {m : Nat} {a : Addr} : Right R L b (putN kvs (s, ((m : Nat) : Int)) a (.bl (enough R L m s))) := fun s' m' v hm e => by
  rw [valN_put] at e
  split at e
  · rename_i q
    injection q with q1 q2
    have q3 : m' = m := by omega
    rw [q1, q3]
    exact (Option.some.inj e).symm
  · exact h s' m' v hm e
end P81
end
section
set_option Elab.async false
set_option linter.all false
set_option maxRecDepth 100000
set_option maxHeartbeats 4000000
namespace P81
open PySem PySem.Spec PyProof.Rows L2 ZG NK
/-- the state behind some answers, as the program keeps it -/
def runC (R : List (List Bool)) (L : Int) (s : List Int) (ans : List (Nat × Bool)) : List Int := ans.foldl (fun s p => cap L (aft (R.getD p.1 []) p.2 s)) s
/-- what R is: rows as long as there are suspects -/
def Rows (R : List (List Bool)) (n : Nat) : Prop := ∀ r ∈ R, r.length = n
theorem Rows.at {R : List (List Bool)} {n i : Nat} (h : Rows R n) (hi : i < R.length) : ∃ r, R[i]? = some r ∧ R.getD i [] = r ∧ r.length = n :=
  ⟨R[i], List.getElem?_eq_getElem hi, by rw [List.getD_eq_getElem?_getD, List.getElem?_eq_getElem hi]; rfl, h _ (List.getElem_mem hi)⟩
theorem runC_len {R : List (List Bool)} {L : Int} {n : Nat} (h : Rows R n) : ∀ {ans : List (Nat × Bool)} {s : List Int}, (∀ p ∈ ans, p.1 < R.length) → s.length = n → (runC R L s ans).length = n
  | [], s, _, hs => hs
  | p :: ans, s, hp, hs => by
    obtain ⟨r, h1, h2, h3⟩ := h.at (hp p List.mem_cons_self)
    refine runC_len h (ans := ans) (s := cap L (aft (R.getD p.1 []) p.2 s)) (fun q hq => hp q (List.mem_cons_of_mem _ hq)) ?_
    rw [cap_length, h2, aft_length (by omega), hs]
theorem runC_snoc (R : List (List Bool)) (L : Int) (s : List Int) (ans : List (Nat × Bool)) (p : Nat × Bool) : runC R L s (ans ++ [p]) = cap L (aft (R.getD p.1 []) p.2 (runC R L s ans)) := by
  unfold runC
  rw [List.foldl_append]
  rfl
/-- a state within bounds -/
def Bd (L : Int) (s : List Int) : Prop := ∀ x ∈ s, 0 ≤ x ∧ x ≤ L + 1
theorem cap_bd {L : Int} (hL : 0 ≤ L) {s : List Int} (h : ∀ x ∈ s, 0 ≤ x) : Bd L (cap L s) := fun x hx => by
  unfold cap at hx
  obtain ⟨y, hy, e⟩ := List.mem_map.mp hx
  have := h y hy
  unfold capx at e
  split at e <;> omega
theorem aft_nn {r : List Bool} {a : Bool} {s : List Int} (h : ∀ x ∈ s, 0 ≤ x) : ∀ x ∈ aft r a s, 0 ≤ x := fun x hx => by
  obtain ⟨i, hi⟩ := List.mem_iff_getElem?.mp hx
  obtain ⟨y, hy, hle⟩ := aft_back hi
  have := h y (List.mem_of_getElem? hy)
  omega
theorem Bd.nn {L : Int} {s : List Int} (h : Bd L s) : ∀ x ∈ s, 0 ≤ x := fun x hx => (h x hx).1
theorem zeros_bd {L : Int} (hL : 0 ≤ L) (n : Nat) : Bd L (zeros n) := fun x hx => by
  rw [(List.mem_replicate.mp hx).2]
  omega
theorem runC_bd {R : List (List Bool)} {L : Int} (hL : 0 ≤ L) : ∀ {ans : List (Nat × Bool)} {s : List Int}, Bd L s → Bd L (runC R L s ans)
  | [], s, h => h
  | p :: ans, s, h => runC_bd hL (ans := ans) (cap_bd hL (aft_nn h.nn))
section
variable {P : Program} {w : World} {K : PySem.W.Frag} {mg : Str → Option Value} {base : Heap}
theorem scBehindAll : FnScope ["self", "answers", "state", "index", "answer"] ["self", "answers"] (defScope sBehindAll) := ⟨rfl, rfl, rfl, by decide +kernel, rfl, by decide +kernel, by decide +kernel⟩
def spBehindAll (C : Addr) : Sp := fun vs H Q _ => ∃ p o sg kn L ns R a as ans, vs = [.ref p, .ref a] ∧ HuntAt C H p o sg kn L ns R ∧ H a = some (.lst (as.map V.ref)) ∧ AnsAt H as ans ∧ (∀ x ∈ ans, x.1 < R.length) ∧ Rows R ns.length ∧ 1 ≤ ns.length ∧ ns.length ≤ 100 ∧
  ∀ t H', Same H H' → H' t = some (tupI (runC R L (zeros ns.length) ans)) → Q (.ref t) H'
theorem ok_behind_all {C f f1 f2 : Addr} {fd d1 d2 : FuncData} (F : Fun K "behind_all" "Hunt.behind_all" sBehindAll f fd) (T : BI mg) (Z : HuntF K mg C) (M_begun : MethAt K C "begun" "Hunt.begun" sBegun ["self"] f1 d1)
    (M_behind_answer : MethAt K C "behind_answer" "Hunt.behind_answer" sBehind1 ["self", "state", "index", "answer"] f2 d2) : FnOk P w K mg base CX0 2 f fd ["self", "answers"] (spBehindAll C) := by
  have G_begun : FnOk P w K mg base CX0 1 f1 d1 ["self"] (spBegun C) := ok_begun M_begun.F T Z
  have G_behind_answer : FnOk P w K mg base CX0 1 f2 d2 ["self", "state", "index", "answer"] (spBehind1 C) := ok_behind_answer M_behind_answer.F T Z
  refine F.ok scBehindAll (fun vs H Q E h => ?_) (fun cdv A outer s H vs Q E hr h => ?_)
  · obtain ⟨p, o, sg, kn, L, ns, R, a, as, ans, rfl, _⟩ := h
    rfl
  obtain ⟨p, o, sg, kn, L, ns, R, a, as, ans, rfl, U, hA, hR, hi, hRw, l1, l2, q⟩ := h
  obtain ⟨dx, e1⟩ := U.ob
  refine ⟨_, pss_cons (ps_set (i := 2) scBehindAll.nd rfl (.inl rfl) (pe_meth0 (pv 0) Z.cl M_begun.m G_begun hr M_begun.b .nil pass0))
    (pss_cons (ps_for PassesOwn.never rfl (pseq K false (pv 1)) (pg_tup (by rfl) (pgs_cons (pg_name (i := 3) scBehindAll.nd rfl (.inl rfl)) (pgs_cons (pg_name (i := 4) scBehindAll.nd rfl (.inl rfl)) pgs_nil)))
      (pss_one (ps_set (i := 2) scBehindAll.nd rfl (.inl rfl) (pe_meth (pv 0) Z.cl M_behind_answer.m G_behind_answer hr M_behind_answer.b .nil pass0 (pa_cons (pv 2) (pa_cons (pv 3) (pa_cons (pv 4) pa_nil)))))))
    (pss_one (ps_ret (pv 2)))), ?_⟩
  refine ⟨_, rfl, p, dx, _, rfl, e1, hf_no (by decide +kernel) (by decide +kernel) (by decide +kernel) (by decide +kernel), p, o, sg, kn, L, ns, R, rfl, U, l1, l2, fun t H1 s1 et => ?_⟩
  refine ⟨_, rfl, a, _, rfl, .inl (.inl (s1 _ _ hA)), ?_⟩
  refine for_it walkS (fun i σ H2 => ∃ st y3 y4, σ = [some (.ref p), some (.ref a), some (.ref st), y3, y4] ∧ H2 st = some (tupI (runC R L (zeros ns.length) (ans.take i))) ∧ Same H1 H2) ⟨t, none, none, rfl, et, Same.refl _⟩
    (fun i σ H2 _ ⟨_, _, _, _, _, s2⟩ => .inl (.inl (s2 _ _ (s1 _ _ hA)))) ?_ ?_
  · rintro i y σ H2 H3 hil ⟨st, y3, y4, rfl, es, s2⟩ ⟨rfl, hy⟩
    rw [List.length_map] at hil
    obtain ⟨c, x, hc, hx, hH⟩ := hR.at hil
    rw [List.getElem?_map, hc] at hy
    obtain rfl : V.ref c = y := Option.some.inj hy
    have s12 := s1.trans s2
    refine ⟨c, _, rfl, SqT.of (s12 _ _ hH), rfl, _, _, rfl, _, _, rfl, rfl, ?_⟩
    obtain ⟨r, g1, g2, g3⟩ := hRw.at (hi x (List.mem_of_getElem? hx))
    have hlen : (runC R L (zeros ns.length) (ans.take i)).length = ns.length := runC_len hRw (fun z hz => hi z (List.mem_of_mem_take hz)) (by rw [List.length_replicate])
    refine ⟨_, rfl, p, dx, _, rfl, s12 _ _ e1, hf_no (by decide +kernel) (by decide +kernel) (by decide +kernel) (by decide +kernel), _, rfl, _, rfl, _, rfl, ?_⟩
    refine ⟨p, o, sg, kn, L, ns, R, st, _, x.1, r, x.2, rfl, U.same s12, es, hlen, g1, g3, l2, fun t2 H4 s4 et2 => ?_⟩
    refine ⟨t2, _, _, rfl, ?_, s2.trans s4⟩
    rw [take_snoc hx, runC_snoc, g2]
    exact et2
  · rintro σ H2 ⟨st, y3, y4, rfl, es, s2⟩
    rw [List.length_map, hR.1, List.take_length] at es
    exact ⟨_, rfl, q st H2 (s1.trans s2) es⟩
theorem scRight : FnScope ["self", "state", "index", "many"] ["self", "state", "index", "many"] (defScope sRight) := ⟨rfl, rfl, rfl, by decide +kernel, rfl, by decide +kernel, by decide +kernel⟩
def spRight (C : Addr) (b : Nat) : Sp := fun vs H Q _ => ∃ p o sg kn L ns R st s m kvs i r, vs = [.ref p, .ref st, .int (i : Nat), .int ((m + 1 : Nat) : Int)] ∧ m + 1 ≤ b ∧ b ≤ 12 ∧ HuntAt C H p o sg kn L ns R ∧ H st = some (tupI s) ∧ s.length = ns.length ∧ Bd L s ∧
  Rows R ns.length ∧ R.length ≤ 100 ∧ 1 ≤ ns.length ∧ ns.length ≤ 4 ∧ (L = 0 ∨ L = 1) ∧ R[i]? = some r ∧ KOk H kn ns.length L kvs ∧ Right R L 12 kvs ∧
  ∀ kvs' H', But [kn] H H' → KOk H' kn ns.length L kvs' → Right R L 12 kvs' → Q (.bl (right R L m s r)) H'
def spEnough (C : Addr) (b : Nat) : Sp := fun vs H Q _ => ∃ p o sg kn L ns R st s m kvs, vs = [.ref p, .ref st, .int ((m : Nat) : Int)] ∧ m ≤ b ∧ b ≤ 12 ∧ HuntAt C H p o sg kn L ns R ∧ H st = some (tupI s) ∧ s.length = ns.length ∧ Bd L s ∧
  Rows R ns.length ∧ R.length ≤ 100 ∧ 1 ≤ ns.length ∧ ns.length ≤ 4 ∧ (L = 0 ∨ L = 1) ∧ KOk H kn ns.length L kvs ∧ Right R L 12 kvs ∧
  ∀ kvs' H', But [kn] H H' → KOk H' kn ns.length L kvs' → Right R L 12 kvs' → Q (.bl (enough R L m s)) H'
theorem ok_is_right {C f f1 f2 : Addr} {fd d1 d2 : FuncData} {b : Nat} (F : Fun K "is_right" "Hunt.is_right" sRight f fd) (T : BI mg) (Z : HuntF K mg C) (M_behind_answer : MethAt K C "behind_answer" "Hunt.behind_answer" sBehind1 ["self", "state", "index", "answer"] f1 d1)
    (M_is_enough : MethAt K C "is_enough" "Hunt.is_enough" sEnough ["self", "state", "many"] f2 d2) (G_is_enough : FnOk P w K mg base CX0 (2 * b + 2) f2 d2 ["self", "state", "many"] (spEnough C b)) :
    FnOk P w K mg base CX0 (2 * b + 3) f fd ["self", "state", "index", "many"] (spRight C (b + 1)) := by
  have G_behind_answer : FnOk P w K mg base CX0 1 f1 d1 ["self", "state", "index", "answer"] (spBehind1 C) := ok_behind_answer M_behind_answer.F T Z
  refine F.ok scRight (fun vs H Q E h => ?_) (fun cdv A outer s H vs Q E hr h => ?_)
  · obtain ⟨p, o, sg, kn, L, ns, R, st, s, m, kvs, i, r, rfl, _⟩ := h
    rfl
  obtain ⟨p, o, sg, kn, L, ns, R, st, x, m, kvs, i, r, rfl, hm, hb, U, hx, lx, bx, hRw, lR, l1, l2, hL, hi, hK, hV, q⟩ := h
  have hr1 : Room 1 _ := hr.mono (by omega)
  obtain ⟨dx, e1⟩ := U.ob
  have L0 : 0 ≤ L := by omega
  have lr := hRw r (List.mem_of_getElem? hi)
  refine ⟨_, pss_cons (ps_if (pt_not (pt_val (pe_meth (pv 0) Z.cl M_is_enough.m G_is_enough hr M_is_enough.b .nil pass0 (pa_cons (pe_meth (pv 0) Z.cl M_behind_answer.m G_behind_answer hr1 M_behind_answer.b .nil pass0 (pa_cons (pv 1) (pa_cons (pv 2) (pa_cons pe_bl pa_nil)))) (pa_cons (pe_op op_sub (pv 3) pe_int) pa_nil)))))
      (pss_one (ps_ret pe_bl)) pss_nil)
    (pss_one (ps_ret (pe_meth (pv 0) Z.cl M_is_enough.m G_is_enough hr M_is_enough.b .nil pass0 (pa_cons (pe_meth (pv 0) Z.cl M_behind_answer.m G_behind_answer hr1 M_behind_answer.b .nil pass0 (pa_cons (pv 1) (pa_cons (pv 2) (pa_cons pe_bl pa_nil)))) (pa_cons (pe_op op_sub (pv 3) pe_int) pa_nil))))), ?_⟩
  have no1 : (hf o sg kn L).lookup ("is_enough" : Str) = none := hf_no (by decide +kernel) (by decide +kernel) (by decide +kernel) (by decide +kernel)
  have no2 : (hf o sg kn L).lookup ("behind_answer" : Str) = none := hf_no (by decide +kernel) (by decide +kernel) (by decide +kernel) (by decide +kernel)
  have em : ((m + 1 : Nat) : Int) - 1 = ((m : Nat) : Int) := by omega
  have lc : ∀ a, (cap L (aft r a x)).length = ns.length := fun a => by rw [cap_length, aft_length (by omega), lx]
  have bc : ∀ a, Bd L (cap L (aft r a x)) := fun a => cap_bd L0 (aft_nn bx.nn)
  refine ⟨_, rfl, p, dx, _, rfl, e1, no1, _, rfl, p, dx, _, rfl, e1, no2, _, rfl, _, rfl, ?_⟩
  refine ⟨p, o, sg, kn, L, ns, R, st, x, i, r, true, rfl, U, hx, lx, hi, lr, by omega, fun t1 H1 s1 et1 => ?_⟩
  refine ⟨_, rfl, _, _, rfl, rfl, ?_⟩
  refine ⟨p, o, sg, kn, L, ns, R, t1, _, m, kvs, (by rw [← em]; rfl), by omega, by omega, U.same s1, et1, lc true, bc true, hRw, lR, l1, l2, hL, hK.same s1, hV, fun kvs2 H2 b2 hK2 hV2 => ?_⟩
  rw [enough_cap]
  refine ⟨_, rfl, ?_⟩
  have b02 : But [kn] H H2 := (Same.but s1).trans b2
  have U2 : HuntAt C H2 p o sg kn L ns R := U.mono hK.at_ b02
  obtain ⟨dx2, e2⟩ := U2.ob
  have tupK : ∀ c xs, H c = some (.tup xs) → H2 c = some (.tup xs) := tups_of_but b02 (fun a ha => by rw [List.mem_singleton.mp ha]; exact ⟨_, hK.at_, fun xs z => nomatch z⟩)
  have rest : Q (.bl (enough R L m (aft r true x) && enough R L m (aft r false x))) = Q (.bl (right R L m x r)) := rfl
  cases e : enough R L m (aft r true x) with
  | false =>
    refine iteT ?_
    have z := q kvs2 H2 b02 hK2 hV2
    rw [← rest, e, Bool.false_and] at z
    exact z
  | true =>
    refine iteF ?_
    refine ⟨_, rfl, p, dx2, _, rfl, e2, no1, _, rfl, p, dx2, _, rfl, e2, no2, _, rfl, _, rfl, ?_⟩
    refine ⟨p, o, sg, kn, L, ns, R, st, x, i, r, false, rfl, U2, tupK _ _ hx, lx, hi, lr, by omega, fun t3 H3 s3 et3 => ?_⟩
    refine ⟨_, rfl, _, _, rfl, rfl, ?_⟩
    refine ⟨p, o, sg, kn, L, ns, R, t3, _, m, kvs2, (by rw [← em]; rfl), by omega, by omega, U2.same s3, et3, lc false, bc false, hRw, lR, l1, l2, hL, hK2.same s3, hV2, fun kvs4 H4 b4 hK4 hV4 => ?_⟩
    rw [enough_cap]
    have z := q kvs4 H4 (b02.trans ((Same.but s3).trans b4)) hK4 hV4
    rw [← rest, e, Bool.true_and] at z
    exact z
end
end P81
end
section
set_option Elab.async false
set_option linter.all false
set_option maxRecDepth 100000
set_option maxHeartbeats 4000000
namespace P81
open PySem PySem.Spec PyProof.Rows L2 ZG NK
theorem hu3_of {A : Around} {k : Nat} (hr : Room k A) : A.units + 3 < cLine := by have := hr.un; omega
section
variable {P : Program} {w : World} {K : PySem.W.Frag} {mg : Str → Option Value} {base : Heap}
theorem hf_no4 {o sg kn : Addr} {L : Int} {m : Str} (h : (¬ m = "known") ∧ (¬ m = "signs") ∧ (¬ m = "most") ∧ (¬ m = "ones")) : (hf o sg kn L).lookup m = none := hf_no h.1 h.2.1 h.2.2.1 h.2.2.2
theorem scEnough : FnScope ["self", "state", "many", "index"] ["self", "state", "many"] (defScope sEnough) := ⟨rfl, rfl, rfl, by decide +kernel, rfl, by decide +kernel, by decide +kernel⟩
theorem ok_is_enough {C f f1 f2 : Addr} {fd d1 d2 : FuncData} {b : Nat} (F : Fun K "is_enough" "Hunt.is_enough" sEnough f fd) (T : BI mg) (Z : HuntF K mg C) (M_left_ones : MethAt K C "left_ones" "Hunt.left_ones" sLeft ["self", "state"] f1 d1)
    (M_is_right : MethAt K C "is_right" "Hunt.is_right" sRight ["self", "state", "index", "many"] f2 d2) (G_is_right : FnOk P w K mg base CX0 (2 * b + 1) f2 d2 ["self", "state", "index", "many"] (spRight C b)) :
    FnOk P w K mg base CX0 (2 * b + 2) f fd ["self", "state", "many"] (spEnough C b) := by
  have G_left_ones : FnOk P w K mg base CX0 1 f1 d1 ["self", "state"] (spLeft C) := ok_left_ones M_left_ones.F T Z
  refine F.ok scEnough (fun vs H Q E h => ?_) (fun cdv A outer s H vs Q E hr h => ?_)
  · obtain ⟨p, o, sg, kn, L, ns, R, st, s, m, kvs, rfl, _⟩ := h
    rfl
  obtain ⟨p, o, sg, kn, L, ns, R, st, x, m, kvs, rfl, hm, hb, U, hx, lx, bx, hRw, lR, l1, l2, hL, hK, hV, q⟩ := h
  have hr1 : Room 1 _ := hr.mono (by omega)
  have hu3 := hu3_of hr
  obtain ⟨dx, e1⟩ := U.ob
  refine ⟨_, pss_cons (ps_if (pt_cmpR op_lt (pe_callB (crLen K) (by rfl) T.len (by decide +kernel) (pa_cons (pe_meth (pv 0) Z.cl M_left_ones.m G_left_ones hr1 M_left_ones.b .nil pass0 (pa_cons (pv 1) pa_nil)) pa_nil)) pe_int (nomark _))
      (pss_one (ps_ret pe_bl)) pss_nil)
    (pss_cons (ps_if (pt_cmpR op_eq (pv 2) pe_int (nomark _))
      (pss_one (ps_ret pe_bl)) pss_nil)
    (pss_cons (ps_if (pt_cmp (pc_nnotin hu3 (pe_tup (pa_cons (pv 1) (pa_cons (pv 2) pa_nil))) (pfld K (pv 0) rfl)))
      (pss_one (ps_nput hu3 (pfld K (pv 0) rfl) (pe_tup (pa_cons (pv 1) (pa_cons (pv 2) pa_nil))) (pe_callB (cr_any rfl) (by rfl) T.any (by decide +kernel) (pa_cons (pe_lc (own := [("index", 3)]) (g := (gName 3)) (tt := tYes) rfl scEnough.nd (pi_range1 (by rfl) T.range (pa_cons (pe_callB (crLen K) (by rfl) T.len (by decide +kernel) (pa_cons (pfld K (pv 0) rfl) pa_nil)) pa_nil)) (blkOk_by (N := ["self", "state", "many", "index"]) (sc := (defScope sEnough)) (by decide +kernel))
        (fun _ _ _ _ _ => (pg_name (i := 3) scEnough.nd rfl (.inl rfl))) (fun _ _ _ _ _ => pts_nil)
        (fun _ _ _ _ _ => (pe_meth (pv 0) Z.cl M_is_right.m G_is_right hr M_is_right.b .nil pass0 (pa_cons (pv 1) (pa_cons (pv 3) (pa_cons (pv 2) pa_nil)))))) pa_nil)) rfl)) pss_nil)
    (pss_one (ps_ret (pe_nget hu3 (pfld K (pv 0) rfl) (pe_tup (pa_cons (pv 1) (pa_cons (pv 2) pa_nil))) (fun _ _ => rfl)))))), ?_⟩
  have noL : (hf o sg kn L).lookup ("left_ones" : Str) = none := hf_no4 (by decide +kernel)
  have noR : (hf o sg kn L).lookup ("is_right" : Str) = none := hf_no4 (by decide +kernel)
  refine ⟨_, rfl, p, dx, _, rfl, e1, noL, _, rfl, p, o, sg, kn, L, ns, R, st, x, rfl, U, hx, lx, by omega, fun l H1 s1 nl el => ?_⟩
  refine ⟨l, _, rfl, .inl (SqL.of el), _, _, rfl, rfl, _, rfl, ?_⟩
  rw [List.length_map, leftNames_len L lx.symm]
  by_cases c : leftN L x < 2
  · rw [decide_eq_true (show (leftN L x : Int) < 2 by omega)]
    refine iteT ?_
    have z := q kvs H1 (Same.but s1) (hK.same s1) hV
    rw [enough_left c] at z
    exact z
  rw [decide_eq_false (show ¬ (leftN L x : Int) < 2 by omega)]
  refine iteF ⟨_, rfl, rfl, _, rfl, ?_⟩
  cases m with
  | zero =>
    rw [decide_eq_true (show V.int ((0 : Nat) : Int) = V.int 0 from rfl)]
    refine iteT ?_
    have z := q kvs H1 (Same.but s1) (hK.same s1) hV
    rw [enough_zero, decide_eq_false c] at z
    exact z
  | succ m =>
    rw [decide_eq_false (show ¬ V.int ((m + 1 : Nat) : Int) = V.int 0 from fun z => by injection z with z; omega)]
    refine iteF ⟨_, rfl, _, rfl, by show 2 ≤ sizeLine; decide, fun tp ntp => ?_⟩
    have s2 : Same H (upd H1 tp (.tup [.ref st, .int ((m + 1 : Nat) : Int)])) := s1.trans (same_new ntp _)
    generalize hH2 : upd H1 tp (.tup [.ref st, .int ((m + 1 : Nat) : Int)]) = H2 at s2 ⊢
    have etp : H2 tp = some (.tup [.ref st, .int ((m + 1 : Nat) : Int)]) := by rw [← hH2, upd_same]
    have hK2 := hK.same s2
    have hNT : NT H2 (x, ((m + 1 : Nat) : Int)) tp := ⟨st, etp, s2 _ _ hx⟩
    refine ⟨_, rfl, p, C, dx, _, _, rfl, s2 _ _ e1, Z.cl, Z.nK, hf_known, kn, _, rfl, hK2.get hNT, _, rfl, ?_⟩
    cases e : valN kvs (x, ((m + 1 : Nat) : Int)) with
    | some v =>
      have ev : v = .bl (enough R L (m + 1) x) := hV x (m + 1) v (by omega) e
      refine iteF ⟨_, rfl, p, C, dx, _, _, rfl, s2 _ _ e1, Z.cl, Z.nK, hf_known, _, rfl, _, rfl, by show 2 ≤ sizeLine; decide, fun tq ntq => ?_⟩
      have s3 := s2.trans (same_new ntq (.tup [.ref st, .int ((m + 1 : Nat) : Int)]))
      refine ⟨kn, v, rfl, ?_, ?_⟩
      · rw [← e]
        exact (hK.same s3).get ⟨st, upd_same, s3 _ _ hx⟩
      · rw [ev]
        exact q kvs _ (Same.but s3) (hK.same s3) hV
    | none =>
      refine iteT ?_
      have U2 := U.same s2
      obtain ⟨ss, g3, g4⟩ := U2.sn
      -- any([...])
      refine ⟨_, rfl, p, C, dx, _, _, rfl, s2 _ _ e1, Z.cl, Z.nS, hf_signs, sg, _, rfl, .inl (SqL.of g3), _, rfl, by rw [List.length_map, g4.1]; omega, by rw [List.length_map, g4.1]; omega, fun D nD => ?_⟩
      have nDk : D ≠ kn := fun z => by rw [z, hK2.at_] at nD; cases nD
      have tupK : ∀ {H3 : Hp}, But [kn] H2 H3 → ∀ c xs, H2 c = some (.tup xs) → H3 c = some (.tup xs) := fun {H3} b => tups_of_but b (fun a ha => by rw [List.mem_singleton.mp ha]; exact ⟨_, hK2.at_, fun xs z => nomatch z⟩)
      refine lc_it walk_range (fun i H3 => ∃ kvs3, H3 D = some (.lst (((R.take i).map (right R L m x)).map V.bl)) ∧ But [kn] H2 H3 ∧ KOk H3 kn ns.length L kvs3 ∧ Right R L 12 kvs3)
        ⟨kvs, upd_same, Same.but (same_new nD _), hK2.same (same_new nD _), hV⟩ (fun _ _ _ _ => True.intro) ?_ ?_
      · rintro i y H3 H4 hi ⟨kvs3, eD, b3, hK3, hV3⟩ ⟨rfl, rfl⟩
        rw [List.length_map, g4.1, Int.toNat_natCast] at hi
        have U3 := U2.mono hK2.at_ b3
        obtain ⟨dx3, e3⟩ := U3.ob
        refine ⟨rfl, yesI ⟨_, rfl, p, dx3, _, rfl, e3, noR, _, rfl, _, rfl, _, rfl, ?_⟩⟩
        refine ⟨p, o, sg, kn, L, ns, R, st, x, m, kvs3, i, R[i], (by show [V.ref p, V.ref st, V.int (0 + (i : Int)), V.int ((m + 1 : Nat) : Int)] = _; rw [Int.zero_add]), by omega, hb, U3, tupK b3 _ _ (s2 _ _ hx), lx, bx, hRw, lR, l1, l2, hL, List.getElem?_eq_getElem hi, hK3, hV3, fun kvs5 H5 b5 hK5 hV5 => ?_⟩
        have eD5 := b5 _ _ eD (by simpa using nDk)
        refine ⟨_, eD5, ?_, kvs5, ?_, ?_, ?_, hV5⟩
        · rw [List.length_map, List.length_map, List.length_take]
          exact small1000 (by omega)
        · rw [upd_same, take_snoc (List.getElem?_eq_getElem hi), List.map_append, List.map_append]
          rfl
        · intro c u ec nc
          rw [upd_ne (ne_of_none ec nD)]
          exact (b3.trans b5) c u ec nc
        · exact hK5.but (l := [D]) (but_upd (by simp)) (fun a ha => by rw [List.mem_singleton.mp ha]; exact ⟨_, eD5, fun xs z => (nomatch z), fun φ z => (nomatch z)⟩)
      · rintro H3 ⟨kvs3, eD, b3, hK3, hV3⟩
        rw [List.length_map, g4.1, Int.toNat_natCast, List.take_length] at eD
        have U3 := U2.mono hK2.at_ b3
        obtain ⟨dx3, e3⟩ := U3.ob
        have b03 : But [kn] H H3 := (Same.but s2).trans b3
        refine ⟨D, _, rfl, SqL.of eD, ?_⟩
        have ea : (R.map (right R L m x)).any id = enough R L (m + 1) x := by
          rw [enough_succ, decide_eq_false c, Bool.false_or, List.any_map]
          rfl
        rw [ea]
        refine ⟨_, rfl, p, C, dx3, _, _, rfl, e3, Z.cl, Z.nK, hf_known, _, rfl, _, rfl, by show 2 ≤ sizeLine; decide, fun tq ntq => ?_⟩
        have s4 := same_new ntq (.tup [.ref st, .int ((m + 1 : Nat) : Int)])
        have hK4 := hK3.same s4
        have hx4 : (upd H3 tq (.tup [.ref st, .int ((m + 1 : Nat) : Int)])) st = some (tupI x) := s4 _ _ (tupK b3 _ _ (s2 _ _ hx))
        have hNT4 : NT (upd H3 tq (.tup [.ref st, .int ((m + 1 : Nat) : Int)])) (x, ((m + 1 : Nat) : Int)) tq := ⟨st, upd_same, hx4⟩
        have kd : Keyed ns.length L (x, ((m + 1 : Nat) : Int)) := ⟨x, m + 1, rfl, lx, bx, by omega⟩
        refine ⟨kn, _, rfl, ⟨kvs3, _, tq, hK4.at_, hK4.ks, rfl, hNT4, hK4.few l2 (by omega), rfl⟩, ?_⟩
        have hK5 := hK4.put hNT4 kd (.bl (enough R L (m + 1) x))
        have hV5 : Right R L 12 (putN kvs3 (x, ((m + 1 : Nat) : Int)) tq (.bl (enough R L (m + 1) x))) := hV3.put
        generalize hH5 : upd (upd H3 tq (.tup [.ref st, .int ((m + 1 : Nat) : Int)])) kn (dN kn (putN kvs3 (x, ((m + 1 : Nat) : Int)) tq (.bl (enough R L (m + 1) x)))) = H5 at *
        have b05 : But [kn] H H5 := (b03.trans (Same.but s4)).trans (by rw [← hH5]; exact but_upd (by simp))
        have U5 := U.mono hK.at_ b05
        obtain ⟨dx5, e5⟩ := U5.ob
        have hx5 : H5 st = some (tupI x) := tups_of_but b05 (fun a ha => by rw [List.mem_singleton.mp ha]; exact ⟨_, hK.at_, fun xs z => nomatch z⟩) _ _ hx
        refine ⟨_, rfl, p, C, dx5, _, _, rfl, e5, Z.cl, Z.nK, hf_known, _, rfl, _, rfl, by show 2 ≤ sizeLine; decide, fun tr ntr => ?_⟩
        have s6 := same_new ntr (.tup [.ref st, .int ((m + 1 : Nat) : Int)])
        refine ⟨kn, .bl (enough R L (m + 1) x), rfl, ?_, q _ _ (b05.trans (Same.but s6)) (hK5.same s6) hV5⟩
        have g := (hK5.same s6).get (k := (x, ((m + 1 : Nat) : Int))) ⟨st, upd_same, s6 _ _ hx5⟩
        rw [valN_put, if_pos rfl] at g
        exact g
end
end P81
end
section
set_option Elab.async false
set_option linter.all false
set_option maxRecDepth 100000
set_option maxHeartbeats 4000000
namespace P81
open PySem PySem.Spec PyProof.Rows L2 ZG NK
/-- a number or None -/
def optV : Option Nat → V
  | none => .non
  | some m => .int ((m : Nat) : Int)
theorem top_le {L : Int} {s : List Int} (hL : L = 0 ∨ L = 1) (h : s.length ≤ 4) : topN L s ≤ 12 := by
  unfold topN
  rcases hL with e | e <;> subst e <;> omega
section
variable {P : Program} {w : World} {K : PySem.W.Frag} {mg : Str → Option Value} {base : Heap}
/-- nothing is promised of a def that is not called -/
theorem fn_never {k : Nat} {f : Addr} {fd : FuncData} {ps : List Str} {sp : Sp} (no : ∀ vs H Q E, ¬ sp vs H Q E) : FnOk P w K mg base CX0 k f fd ps sp :=
  ⟨fun vs H Q E h => absurd h (no vs H Q E), fun A outer s H args us vs Q E _ _ _ _ h => absurd h (no vs H Q E)⟩
theorem right_none {C : Addr} : ∀ vs H Q E, ¬ spRight C 0 vs H Q E := fun vs H Q E h => by
  obtain ⟨p, o, sg, kn, L, ns, R, st, s, m, kvs, i, r, _, hm, _⟩ := h
  omega
theorem both_enough {C f1 f2 f3 f4 : Addr} {d1 d2 d3 d4 : FuncData} (T : BI mg) (Z : HuntF K mg C) (M_behind_answer : MethAt K C "behind_answer" "Hunt.behind_answer" sBehind1 ["self", "state", "index", "answer"] f1 d1)
    (M_left_ones : MethAt K C "left_ones" "Hunt.left_ones" sLeft ["self", "state"] f2 d2) (M_is_enough : MethAt K C "is_enough" "Hunt.is_enough" sEnough ["self", "state", "many"] f3 d3)
    (M_is_right : MethAt K C "is_right" "Hunt.is_right" sRight ["self", "state", "index", "many"] f4 d4) : ∀ b : Nat,
    FnOk P w K mg base CX0 (2 * b + 1) f4 d4 ["self", "state", "index", "many"] (spRight C b) ∧ FnOk P w K mg base CX0 (2 * b + 2) f3 d3 ["self", "state", "many"] (spEnough C b)
  | 0 => by
    have g1 : FnOk P w K mg base CX0 (2 * 0 + 1) f4 d4 ["self", "state", "index", "many"] (spRight C 0) := fn_never right_none
    exact ⟨g1, ok_is_enough M_is_enough.F T Z M_left_ones M_is_right g1⟩
  | b + 1 => by
    have ih := both_enough (f1 := f1) (f2 := f2) (f3 := f3) (f4 := f4) T Z M_behind_answer M_left_ones M_is_enough M_is_right b
    have g1 : FnOk P w K mg base CX0 (2 * (b + 1) + 1) f4 d4 ["self", "state", "index", "many"] (spRight C (b + 1)) := ok_is_right M_is_right.F T Z M_behind_answer M_is_enough ih.2
    exact ⟨g1, ok_is_enough M_is_enough.F T Z M_left_ones M_is_right g1⟩
theorem scFewest : FnScope ["self", "state", "top", "many"] ["self", "state"] (defScope sFewest) := ⟨rfl, rfl, rfl, by decide +kernel, rfl, by decide +kernel, by decide +kernel⟩
/-- a Hunt in use, and a state -/
structure Use (C : Addr) (H : Hp) (p o sg kn : Addr) (L : Int) (ns : List Str) (R : List (List Bool)) (st : Addr) (s : List Int) (kvs : List NE) : Prop where
  U : HuntAt C H p o sg kn L ns R
  hx : H st = some (tupI s)
  lx : s.length = ns.length
  bx : Bd L s
  rows : Rows R ns.length
  few : R.length ≤ 100
  l1 : 1 ≤ ns.length
  l2 : ns.length ≤ 4
  hL : L = 0 ∨ L = 1
  hK : KOk H kn ns.length L kvs
  hV : Right R L 12 kvs
theorem Use.next {C : Addr} {H H' : Hp} {p o sg kn : Addr} {L : Int} {ns : List Str} {R : List (List Bool)} {st : Addr} {s : List Int} {kvs kvs' : List NE} (u : Use C H p o sg kn L ns R st s kvs) (b : But [kn] H H') (k : KOk H' kn ns.length L kvs') (v : Right R L 12 kvs') :
    Use C H' p o sg kn L ns R st s kvs' :=
  ⟨u.U.mono u.hK.at_ b, tups_of_but b (fun a ha => by rw [List.mem_singleton.mp ha]; exact ⟨_, u.hK.at_, fun xs z => nomatch z⟩) _ _ u.hx, u.lx, u.bx, u.rows, u.few, u.l1, u.l2, u.hL, k, v⟩
theorem Use.same {C : Addr} {H H' : Hp} {p o sg kn : Addr} {L : Int} {ns : List Str} {R : List (List Bool)} {st : Addr} {s : List Int} {kvs : List NE} (u : Use C H p o sg kn L ns R st s kvs) (b : Same H H') : Use C H' p o sg kn L ns R st s kvs :=
  u.next (Same.but b) (u.hK.same b) u.hV
def spFewest (C : Addr) : Sp := fun vs H Q _ => ∃ p o sg kn L ns R st s kvs, vs = [.ref p, .ref st] ∧ Use C H p o sg kn L ns R st s kvs ∧ ∀ kvs' H', But [kn] H H' → KOk H' kn ns.length L kvs' → Right R L 12 kvs' → Q (optV (fewest R L s)) H'
theorem ok_fewest_from {C f f1 : Addr} {fd d1 : FuncData} (F : Fun K "fewest_from" "Hunt.fewest_from" sFewest f fd) (T : BI mg) (Z : HuntF K mg C) (M_is_enough : MethAt K C "is_enough" "Hunt.is_enough" sEnough ["self", "state", "many"] f1 d1)
    (G_is_enough : FnOk P w K mg base CX0 26 f1 d1 ["self", "state", "many"] (spEnough C 12)) : FnOk P w K mg base CX0 27 f fd ["self", "state"] (spFewest C) := by
  refine F.ok scFewest (fun vs H Q E h => ?_) (fun cdv A outer s H vs Q E hr h => ?_)
  · obtain ⟨p, o, sg, kn, L, ns, R, st, s, kvs, rfl, _⟩ := h
    rfl
  obtain ⟨p, o, sg, kn, L, ns, R, st, x, kvs, rfl, u, q⟩ := h
  obtain ⟨dx, e1⟩ := u.U.ob
  have hL := u.hL
  refine ⟨_, pss_cons (ps_set (i := 2) scFewest.nd rfl (.inl rfl) (pe_op op_mul (pe_op op_add pe_int (pe_op op_mul pe_int (pfld K (pv 0) rfl))) (pe_callB (crLen K) (by rfl) T.len (by decide +kernel) (pa_cons (pfld K (pv 0) rfl) pa_nil))))
    (pss_cons (ps_for PassesOwn.never rfl (pi_range1 (by rfl) T.range (pa_cons (pe_op op_add (pv 2) pe_int) pa_nil)) (pg_name (i := 3) scFewest.nd rfl (.inl rfl))
      (pss_one (ps_if (pt_val (pe_meth (pv 0) Z.cl M_is_enough.m G_is_enough hr M_is_enough.b .nil pass0 (pa_cons (pv 1) (pa_cons (pv 3) pa_nil))))
        (pss_one (ps_ret (pv 3))) pss_nil)))
    (pss_one (ps_ret pe_non))), ?_⟩
  have noE : (hf o sg kn L).lookup ("is_enough" : Str) = none := hf_no4 (by decide +kernel)
  have tp : (1 + 2 * L) * ((ns.map V.str).length : Int) = (topN L x : Nat) := by
    have e : ((topN L x : Nat) : Int) = (1 + 2 * L) * (x.length : Int) := by
      unfold topN
      rw [Int.toNat_of_nonneg]
      exact Int.mul_nonneg (by omega) (Int.natCast_nonneg _)
    rw [e, u.lx, List.length_map]
  have t12 : topN L x ≤ 12 := top_le hL (by rw [u.lx]; exact u.l2)
  refine ⟨_, rfl, p, C, dx, _, _, rfl, e1, Z.cl, Z.nM, hf_most, _, _, rfl, rfl, .inl ⟨by decide, by decide⟩, _, _, rfl, rfl, _, rfl, p, C, dx, _, _, rfl, e1, Z.cl, Z.nO, hf_ones, o, _, rfl, .inl (SqL.of u.U.on), _, _, rfl, rfl, .inl ⟨by omega, by omega⟩, ?_⟩
  refine ⟨_, rfl, _, _, rfl, rfl, _, rfl, (by show -(2 ^ 62) ≤ (1 + 2 * L) * ((ns.map V.str).length : Int) + 1; rw [tp]; omega), (by show (1 + 2 * L) * ((ns.map V.str).length : Int) + 1 < 2 ^ 62; rw [tp]; omega), ?_⟩
  refine for_it walk_range (fun i σ H2 => ∃ y kvs2, σ = [some (.ref p), some (.ref st), some (.int ((1 + 2 * L) * ((ns.map V.str).length : Int))), y] ∧ (∀ k, k < i → enough R L k x = false) ∧ But [kn] H H2 ∧ KOk H2 kn ns.length L kvs2 ∧ Right R L 12 kvs2)
    ⟨none, kvs, rfl, fun k hk => absurd hk (Nat.not_lt_zero _), But.refl _ _, u.hK, u.hV⟩ (fun _ _ _ _ _ => True.intro) ?_ ?_
  · rintro i y σ H2 H3 hi ⟨y4, kvs2, rfl, no, b2, hK2, hV2⟩ ⟨rfl, rfl⟩
    have u2 := u.next b2 hK2 hV2
    obtain ⟨dx2, e2⟩ := u2.U.ob
    have hi' : i < topN L x + 1 := by
      have q0 : i < ((1 + 2 * L) * ((ns.map V.str).length : Int) + 1).toNat := hi
      rw [tp] at q0
      omega
    refine ⟨_, rfl, p, dx2, _, rfl, e2, noE, _, rfl, _, rfl, ?_⟩
    refine ⟨p, o, sg, kn, L, ns, R, st, x, i, kvs2, (by show [V.ref p, V.ref st, V.int (0 + (i : Int))] = _; rw [Int.zero_add]), by omega, by decide, u2.U, u2.hx, u2.lx, u2.bx, u2.rows, u2.few, u2.l1, u2.l2, hL, hK2, hV2, fun kvs3 H3 b3 hK3 hV3 => ⟨_, rfl, ?_⟩⟩
    have b03 := b2.trans b3
    cases e : enough R L i x with
    | true =>
      refine iteT ⟨_, rfl, ?_⟩
      have z := q kvs3 H3 b03 hK3 hV3
      rw [fewest_of ⟨e, no⟩ (by omega)] at z
      have e0 : V.int (0 + (i : Int)) = optV (some i) := by rw [Int.zero_add]; rfl
      rw [← e0] at z
      exact z
    | false =>
      refine iteF ⟨_, kvs3, rfl, fun k hk => ?_, b03, hK3, hV3⟩
      by_cases q1 : k = i
      · rw [q1]; exact e
      · exact no k (by omega)
  · rintro σ H2 ⟨y4, kvs2, rfl, no, b2, hK2, hV2⟩
    have z := q kvs2 H2 b2 hK2 hV2
    cases e : fewest R L x with
    | none => rw [e] at z; exact z
    | some m =>
      obtain ⟨⟨g1, _⟩, g2⟩ := fewest_least e
      have no : ∀ k, k < ((1 + 2 * L) * ((ns.map V.str).length : Int) + 1).toNat → enough R L k x = false := no
      rw [tp] at no
      rw [no m (by omega)] at g1
      cases g1
/-- each two suspects are parted by some asking -/
def Parted (R : List (List Bool)) (n : Nat) : Prop := ∀ i j, i < j → j < n → ∃ r ∈ R, ∃ b c, r[i]? = some b ∧ r[j]? = some c ∧ b ≠ c
theorem scUnparted : FnScope ["self", "at", "one", "to", "row"] ["self"] (defScope sUnparted) := ⟨rfl, rfl, rfl, by decide +kernel, rfl, by decide +kernel, by decide +kernel⟩
def spUnparted (C : Addr) : Sp := fun vs H Q _ => ∃ p o sg kn L ns R, vs = [.ref p] ∧ HuntAt C H p o sg kn L ns R ∧ Rows R ns.length ∧ R.length ≤ 100 ∧ ns.length ≤ 100 ∧
  (Parted R ns.length → ∀ H', Same H H' → Q .non H') ∧ (¬ Parted R ns.length → ∀ t H', Same H H' → Q (.ref t) H')
theorem bl_eq (a b : Bool) : decide (V.bl a = V.bl b) = decide (a = b) := by cases a <;> cases b <;> rfl
theorem ok_unparted {C f : Addr} {fd : FuncData} (F : Fun K "unparted" "Hunt.unparted" sUnparted f fd) (T : BI mg) (Z : HuntF K mg C) : FnOk P w K mg base CX0 1 f fd ["self"] (spUnparted C) := by
  refine F.ok scUnparted (fun vs H Q E h => ?_) (fun cdv A outer s H vs Q E hr h => ?_)
  · obtain ⟨p, o, sg, kn, L, ns, R, rfl, _⟩ := h
    rfl
  obtain ⟨p, o, sg, kn, L, ns, R, rfl, U, hRw, few, ln, q1, q2⟩ := h
  obtain ⟨⟨dx, e1⟩, e2, ss, e3, e4⟩ := id U
  refine ⟨_, pss_cons (ps_for PassesOwn.never rfl (pi_enumG false (by rfl) T.enumerate (pa_cons (pfld K (pv 0) rfl) pa_nil)) (pg_tup (by rfl) (pgs_cons (pg_name (i := 1) scUnparted.nd rfl (.inr rfl)) (pgs_cons (pg_name (i := 2) scUnparted.nd rfl (.inl rfl)) pgs_nil)))
      (pss_one (ps_for PassesOwn.never rfl (pi_range2 (by rfl) T.range (pa_cons (pe_op op_add (pv 1) pe_int) (pa_cons (pe_callB (crLen K) (by rfl) T.len (by decide +kernel) (pa_cons (pfld K (pv 0) rfl) pa_nil)) pa_nil))) (pg_name (i := 3) scUnparted.nd rfl (.inr rfl))
        (pss_one (ps_if (pt_val (pe_callB (cr_all rfl) (by rfl) T.all (by decide +kernel) (pa_cons (pe_lc (own := [("row", 4)]) (g := (gName 4)) (tt := tYes) rfl scUnparted.nd (pseq K false (pfld K (pv 0) rfl)) (blkOk_by (N := ["self", "at", "one", "to", "row"]) (sc := (defScope sUnparted)) (by decide +kernel))
        (fun _ _ _ _ _ => (pg_name (i := 4) scUnparted.nd rfl (.inl rfl))) (fun _ _ _ _ _ => pts_nil)
        (fun _ _ _ _ _ => (pe_cmpR op_eq (pe_ix (ixL K) (pv 4) (pv 1) (fun _ _ => rfl)) (pe_ix (ixL K) (pv 4) (pv 3) (fun _ _ => rfl)) (nomark _)))) pa_nil)))
          (pss_one (ps_ret (pe_tup (pa_cons (pv 2) (pa_cons (pe_ix (ixL K) (pfld K (pv 0) rfl) (pv 3) (fun _ _ => rfl)) pa_nil))))) pss_nil)))))
    (pss_one (ps_ret pe_non)), ?_⟩
  refine ⟨_, rfl, p, C, dx, _, _, rfl, e1, Z.cl, Z.nO, hf_ones, o, _, rfl, sq_Sq (t := false) e2, ?_⟩
  refine for_it walkE (fun i σ H2 => ∃ y1 y2 y3 y4, σ = [some (.ref p), y1, y2, y3, y4] ∧ (∀ i' j, i' < i → i' < j → j < ns.length → ∃ r ∈ R, ∃ b c, r[i']? = some b ∧ r[j]? = some c ∧ b ≠ c) ∧ Same H H2)
    ⟨none, none, none, none, rfl, fun i' j h => absurd h (Nat.not_lt_zero _), Same.refl _⟩ (fun i σ H2 _ ⟨_, _, _, _, _, _, s2⟩ => sq_Sq (t := false) (s2 _ _ e2)) ?_ ?_
  · rintro i y σ H2 H3 hi ⟨y1, y2, y3, y4, rfl, hp, s2⟩ ⟨Tp, x1, x2, rfl, nT, rfl, g1, g2⟩
    rw [List.length_map] at hi
    have g2 : (ns.map V.str)[i]? = some x2 := g2
    rw [List.getElem?_map, List.getElem?_eq_getElem hi] at g2
    obtain rfl := Option.some.inj g1
    obtain rfl : V.str ns[i] = x2 := Option.some.inj g2
    have s3 := s2.trans (same_new nT (.tup [.int (i : Nat), .str ns[i]]))
    refine ⟨Tp, _, rfl, .inl (.inl upd_same), rfl, _, _, rfl, _, _, rfl, rfl, ?_⟩
    refine ⟨_, rfl, _, _, rfl, rfl, _, rfl, p, C, dx, _, _, rfl, s3 _ _ e1, Z.cl, Z.nO, hf_ones, o, _, rfl, .inl (SqL.of (s3 _ _ e2)), _, _, rfl, ⟨by omega, by omega, by omega, by rw [List.length_map]; omega⟩, ?_⟩
    rw [List.length_map]
    refine for_it walk_range (fun k σ H4 => ∃ y3 y4, σ = [some (.ref p), some (.int (i : Nat)), some (.str ns[i]), y3, y4] ∧ (∀ j, i < j → j < i + 1 + k → j < ns.length → ∃ r ∈ R, ∃ b c, r[i]? = some b ∧ r[j]? = some c ∧ b ≠ c) ∧ Same H H4)
      ⟨y3, y4, rfl, fun j h1 h2 => absurd h2 (by omega), s3⟩ (fun _ _ _ _ _ => True.intro) ?_ ?_
    · rintro k y σ H4 H5 hk ⟨y3, y4, rfl, hq, s4⟩ ⟨rfl, rfl⟩
      have hj : i + 1 + k < ns.length := by omega
      have ej : (i : Int) + 1 + (k : Int) = ((i + 1 + k : Nat) : Int) := by omega
      refine ⟨_, rfl, p, C, dx, _, _, rfl, s4 _ _ e1, Z.cl, Z.nS, hf_signs, sg, _, rfl, .inl (.inl (s4 _ _ e3)), fun D nD => ?_⟩
      refine lc_it walkS (fun m H6 => H6 D = some (.lst (((R.take m).map fun r => decide (r.getD i false = r.getD (i + 1 + k) false)).map V.bl)) ∧ Same H5 H6) ⟨upd_same, same_new nD _⟩ (fun m H6 _ ⟨_, s6⟩ => .inl (.inl (s6 _ _ (s4 _ _ e3)))) ?_ ?_
      · rintro m y H6 H7 hm ⟨eD, s6⟩ ⟨rfl, hy⟩
        rw [List.length_map] at hm
        obtain ⟨c, r, hc, hrr, hH⟩ := e4.at hm
        rw [List.getElem?_map, hc] at hy
        obtain rfl : V.ref c = y := Option.some.inj hy
        have lr := hRw r (List.mem_of_getElem? hrr)
        have hc7 : SqL K H7 c (r.map V.bl) := SqL.of (s6 _ _ (s4 _ _ hH))
        have gi : ∀ {j : Nat}, j < ns.length → (r.map V.bl)[j]? = some (.bl (r.getD j false)) := fun {j} h => by
          rw [List.getElem?_map, List.getD_eq_getElem?_getD, List.getElem?_eq_getElem (show j < r.length by omega)]
          rfl
        refine ⟨rfl, yesI ⟨_, rfl, _, rfl, c, _, _, _, rfl, rfl, hc7, atI_nat (gi hi), _, rfl, _, rfl, c, _, _, _, rfl, rfl, hc7, at_of ej (gi hj), rfl, ?_⟩⟩
        refine ⟨_, eD, ?_, ?_, same_upd s6 nD⟩
        · rw [List.length_map, List.length_map, List.length_take]
          exact small1000 (by omega)
        · rw [upd_same, take_snoc hrr, List.map_append, List.map_append, bl_eq]
          rfl
      · rintro H6 ⟨eD, s6⟩
        rw [List.length_map, e4.1, List.take_length] at eD
        have s06 := s4.trans s6
        refine ⟨D, _, rfl, SqL.of eD, _, rfl, ?_⟩
        cases c : ((R.map fun r => decide (r.getD i false = r.getD (i + 1 + k) false)).all id) with
        | true =>
          refine iteT ?_
          have np : ¬ Parted R ns.length := fun pt => by
            obtain ⟨r, hr', b', c', h1, h2, h3⟩ := pt i (i + 1 + k) (by omega) hj
            have z := List.all_eq_true.mp c (decide (r.getD i false = r.getD (i + 1 + k) false)) (List.mem_map.mpr ⟨r, hr', rfl⟩)
            have z2 : r.getD i false = r.getD (i + 1 + k) false := of_decide_eq_true z
            rw [List.getD_eq_getElem?_getD, List.getD_eq_getElem?_getD, h1, h2] at z2
            exact h3 z2
          refine ⟨_, rfl, _, rfl, p, C, dx, _, _, rfl, s06 _ _ e1, Z.cl, Z.nO, hf_ones, _, rfl, o, _, _, _, rfl, rfl, SqL.of (s06 _ _ e2), at_of ej (by rw [List.getElem?_map, List.getElem?_eq_getElem hj]; rfl), by show 2 ≤ sizeLine; decide, fun t nt => ?_⟩
          exact q2 np t _ (s06.trans (same_new nt _))
        | false =>
          refine iteF ⟨_, _, rfl, fun j h1 h2 h3 => ?_, s06⟩
          by_cases q3 : j = i + 1 + k
          · subst q3
            rw [List.all_eq_false] at c
            obtain ⟨b, hb, hb2⟩ := c
            obtain ⟨r, hr', eb⟩ := List.mem_map.mp hb
            have lr := hRw r hr'
            refine ⟨r, hr', r.getD i false, r.getD (i + 1 + k) false, ?_, ?_, fun z => hb2 (by rw [← eb, decide_eq_true z]; rfl)⟩
            · rw [List.getD_eq_getElem?_getD, List.getElem?_eq_getElem (show i < r.length by omega)]; rfl
            · rw [List.getD_eq_getElem?_getD, List.getElem?_eq_getElem (show i + 1 + k < r.length by omega)]; rfl
          · exact hq j h1 (by omega) h3
    · rintro σ H4 ⟨y3, y4, rfl, hq, s4⟩
      refine ⟨_, _, _, _, rfl, fun i' j h1 h2 h3 => ?_, s4⟩
      by_cases q3 : i' = i
      · subst q3
        exact hq j h2 (by omega) h3
      · exact hp i' j (by omega) h2 h3
  · rintro σ H2 ⟨y1, y2, y3, y4, rfl, hp, s2⟩
    rw [List.length_map] at hp
    exact q1 (fun i j h1 h2 => hp i j (by omega) h1 h2) H2 s2
end
end P81
end
section
set_option Elab.async false
set_option linter.all false
set_option maxRecDepth 100000
set_option maxHeartbeats 4000000
namespace P81
open PySem PySem.Spec PyProof.Rows L2 ZG NK
theorem filter_first {β : Type} {p : β → Bool} {d : β} : ∀ {R : List β} {i : Nat}, R.findIdx? p = some i → ((List.range R.length).filter fun k => p (R.getD k d))[0]? = some i := by
  intro R i h
  obtain ⟨hlt, hi, hno⟩ := List.findIdx?_eq_some_iff_getElem.mp h
  have hg : ∀ k (hk : k < R.length), R.getD k d = R[k] := fun k hk => by rw [List.getD_eq_getElem?_getD, List.getElem?_eq_getElem hk]; rfl
  have e : (List.range R.length).find? (fun k => p (R.getD k d)) = some i := by
    rw [List.find?_range_eq_some]
    refine ⟨by rw [hg i hlt]; exact hi, List.mem_range.mpr hlt, fun j hj => ?_⟩
    rw [hg j (by omega)]
    simpa using hno j hj
  rw [← List.head?_eq_getElem?, List.head?_filter]
  exact e
section
variable {P : Program} {w : World} {K : PySem.W.Frag} {mg : Str → Option Value} {base : Heap}
theorem scFirstRight : FnScope ["hunt", "state", "many", "index"] ["hunt", "state", "many"] (defScope sFirstRight) := ⟨rfl, rfl, rfl, by decide +kernel, rfl, by decide +kernel, by decide +kernel⟩
def spFirstRight (C : Addr) : Sp := fun vs H Q _ => ∃ p o sg kn L ns R st s kvs m i, vs = [.ref p, .ref st, .int ((m + 1 : Nat) : Int)] ∧ m + 1 ≤ 12 ∧ Use C H p o sg kn L ns R st s kvs ∧ R.findIdx? (right R L m s) = some i ∧ ∀ H', But [kn] H H' → Q (.int ((i : Nat) : Int)) H'
theorem ok_first_right {C f f1 : Addr} {fd d1 : FuncData} (F : Fun K "first_right" "first_right" sFirstRight f fd) (T : BI mg) (Z : HuntF K mg C) (M_is_right : MethAt K C "is_right" "Hunt.is_right" sRight ["self", "state", "index", "many"] f1 d1)
    (G_is_right : FnOk P w K mg base CX0 25 f1 d1 ["self", "state", "index", "many"] (spRight C 12)) : FnOk P w K mg base CX0 26 f fd ["hunt", "state", "many"] (spFirstRight C) := by
  refine F.ok scFirstRight (fun vs H Q E h => ?_) (fun cdv A outer s H vs Q E hr h => ?_)
  · obtain ⟨p, o, sg, kn, L, ns, R, st, s, kvs, m, i, rfl, _⟩ := h
    rfl
  obtain ⟨p, o, sg, kn, L, ns, R, st, x, kvs, m, i, rfl, hm, u, hi, q⟩ := h
  obtain ⟨dx, e1⟩ := u.U.ob
  obtain ⟨ss, g3, g4⟩ := u.U.sn
  have few := u.few
  refine ⟨_, pss_one (ps_ret (pe_ix (ixL K) (pe_lc (own := [("index", 3)]) (g := (gName 3)) rfl scFirstRight.nd (pi_range1 (by rfl) T.range (pa_cons (pe_callB (crLen K) (by rfl) T.len (by decide +kernel) (pa_cons (pfld K (pv 0) rfl) pa_nil)) pa_nil)) (blkOk_by (N := ["hunt", "state", "many", "index"]) (sc := (defScope sFirstRight)) (by decide +kernel))
        (fun _ _ _ _ _ => (pg_name (i := 3) scFirstRight.nd rfl (.inl rfl))) (fun _ _ _ _ _ => (pts_one (pt_val (pe_meth (pv 0) Z.cl M_is_right.m G_is_right hr M_is_right.b .nil pass0 (pa_cons (pv 1) (pa_cons (pv 3) (pa_cons (pv 2) pa_nil)))))))
        (fun _ _ _ _ _ => (pv 3))) pe_int (fun _ _ => rfl))), ?_⟩
  have noR : (hf o sg kn L).lookup ("is_right" : Str) = none := hf_no4 (by decide +kernel)
  refine ⟨_, rfl, p, C, dx, _, _, rfl, e1, Z.cl, Z.nS, hf_signs, sg, _, rfl, .inl (SqL.of g3), _, rfl, by rw [List.length_map, g4.1]; omega, by rw [List.length_map, g4.1]; omega, fun D nD => ?_⟩
  have nDk : D ≠ kn := fun z => by rw [z, u.hK.at_] at nD; cases nD
  refine lc_it walk_range (fun k H2 => ∃ kvs2, H2 D = some (.lst (((List.range k).filter fun j => right R L m x (R.getD j [])).map fun j => V.int ((j : Nat) : Int))) ∧ But [kn] H H2 ∧ KOk H2 kn ns.length L kvs2 ∧ Right R L 12 kvs2)
    ⟨kvs, upd_same, Same.but (same_new nD _), u.hK.same (same_new nD _), u.hV⟩ (fun _ _ _ _ => True.intro) ?_ ?_
  · rintro k y H2 H3 hk ⟨kvs2, eD, b2, hK2, hV2⟩ ⟨rfl, rfl⟩
    rw [List.length_map, g4.1, Int.toNat_natCast] at hk
    have u2 := u.next b2 hK2 hV2
    obtain ⟨dx2, e2⟩ := u2.U.ob
    refine ⟨rfl, _, rfl, p, dx2, _, rfl, e2, noR, _, rfl, _, rfl, _, rfl, ?_⟩
    refine ⟨p, o, sg, kn, L, ns, R, st, x, m, kvs2, k, R[k], (by show [V.ref p, V.ref st, V.int (0 + (k : Int)), V.int ((m + 1 : Nat) : Int)] = _; rw [Int.zero_add]), by omega, by decide, u2.U, u2.hx, u2.lx, u2.bx, u2.rows, u2.few, u2.l1, u2.l2, u2.hL, List.getElem?_eq_getElem hk, hK2, hV2, fun kvs3 H3 b3 hK3 hV3 => ⟨_, rfl, ?_⟩⟩
    have eg : R.getD k [] = R[k] := by rw [List.getD_eq_getElem?_getD, List.getElem?_eq_getElem hk]; rfl
    have eD3 := b3 _ _ eD (by simpa using nDk)
    have fl : ((List.range (k + 1)).filter fun j => right R L m x (R.getD j [])) = ((List.range k).filter fun j => right R L m x (R.getD j [])) ++ (if right R L m x R[k] = true then [k] else []) := by
      rw [List.range_succ, List.filter_append, List.filter_cons, List.filter_nil, eg]
    have flen := List.length_filter_le (fun j => right R L m x (R.getD j [])) (List.range k)
    rw [List.length_range] at flen
    cases e : right R L m x R[k] with
    | true =>
      refine ifT ⟨_, rfl, _, eD3, ?_, kvs3, ?_, ?_, ?_, hV3⟩
      · rw [List.length_map]
        exact small1000 (by omega)
      · rw [upd_same, fl, if_pos e, List.map_append]
        show some (HO.lst (_ ++ [V.int (0 + (k : Int))])) = some (HO.lst (_ ++ [V.int (k : Int)]))
        rw [Int.zero_add]
      · intro c v ec nc
        rw [upd_ne (ne_of_none ec nD)]
        exact (b2.trans b3) c v ec nc
      · exact hK3.but (l := [D]) (but_upd (by simp)) (fun a ha => by rw [List.mem_singleton.mp ha]; exact ⟨_, eD3, fun xs z => (nomatch z), fun φ z => (nomatch z)⟩)
    | false =>
      refine iteF ⟨kvs3, ?_, b2.trans b3, hK3, hV3⟩
      rw [eD3, fl, if_neg (by rw [e]; exact Bool.false_ne_true), List.append_nil]
  · rintro H2 ⟨kvs2, eD, b2, hK2, hV2⟩
    rw [List.length_map, g4.1, Int.toNat_natCast] at eD
    have g0 := filter_first (d := []) hi
    refine ⟨D, _, 0, _, rfl, rfl, SqL.of eD, atI_nat (j := 0) (by rw [List.getElem?_map, g0]; rfl), q H2 b2⟩
theorem scFewestOf : FnScope ["hunt"] ["hunt"] (defScope sFewestOf) := ⟨rfl, rfl, rfl, by decide +kernel, rfl, by decide +kernel, by decide +kernel⟩
/-- a Hunt in use -/
structure Use0 (C : Addr) (H : Hp) (p o sg kn : Addr) (L : Int) (ns : List Str) (R : List (List Bool)) (kvs : List NE) : Prop where
  U : HuntAt C H p o sg kn L ns R
  rows : Rows R ns.length
  few : R.length ≤ 100
  l1 : 1 ≤ ns.length
  l2 : ns.length ≤ 4
  hL : L = 0 ∨ L = 1
  hK : KOk H kn ns.length L kvs
  hV : Right R L 12 kvs
theorem Use0.same {C : Addr} {H H' : Hp} {p o sg kn : Addr} {L : Int} {ns : List Str} {R : List (List Bool)} {kvs : List NE} (u : Use0 C H p o sg kn L ns R kvs) (b : Same H H') : Use0 C H' p o sg kn L ns R kvs :=
  ⟨u.U.same b, u.rows, u.few, u.l1, u.l2, u.hL, u.hK.same b, u.hV⟩
theorem Use0.use {C : Addr} {H : Hp} {p o sg kn : Addr} {L : Int} {ns : List Str} {R : List (List Bool)} {kvs : List NE} (u : Use0 C H p o sg kn L ns R kvs) {st : Addr} {s : List Int} (hx : H st = some (tupI s)) (lx : s.length = ns.length) (bx : Bd L s) : Use C H p o sg kn L ns R st s kvs :=
  ⟨u.U, hx, lx, bx, u.rows, u.few, u.l1, u.l2, u.hL, u.hK, u.hV⟩
def spFewestOf (C : Addr) : Sp := fun vs H Q _ => ∃ p o sg kn L ns R kvs, vs = [.ref p] ∧ Use0 C H p o sg kn L ns R kvs ∧
  (Parted R ns.length → ∀ H', But [kn] H H' → Q (optV (fewest R L (zeros ns.length))) H') ∧ (¬ Parted R ns.length → ∀ H', But [kn] H H' → Q .non H')
theorem ok_fewest_of {C f f1 f2 f3 : Addr} {fd d1 d2 d3 : FuncData} (F : Fun K "fewest_of" "fewest_of" sFewestOf f fd) (T : BI mg) (Z : HuntF K mg C) (M_begun : MethAt K C "begun" "Hunt.begun" sBegun ["self"] f1 d1) (M_unparted : MethAt K C "unparted" "Hunt.unparted" sUnparted ["self"] f2 d2)
    (M_fewest_from : MethAt K C "fewest_from" "Hunt.fewest_from" sFewest ["self", "state"] f3 d3) (G_fewest_from : FnOk P w K mg base CX0 27 f3 d3 ["self", "state"] (spFewest C)) : FnOk P w K mg base CX0 28 f fd ["hunt"] (spFewestOf C) := by
  have G_begun : FnOk P w K mg base CX0 1 f1 d1 ["self"] (spBegun C) := ok_begun M_begun.F T Z
  have G_unparted : FnOk P w K mg base CX0 1 f2 d2 ["self"] (spUnparted C) := ok_unparted M_unparted.F T Z
  refine F.ok scFewestOf (fun vs H Q E h => ?_) (fun cdv A outer s H vs Q E hr h => ?_)
  · obtain ⟨p, o, sg, kn, L, ns, R, kvs, rfl, _⟩ := h
    rfl
  obtain ⟨p, o, sg, kn, L, ns, R, kvs, rfl, u, q1, q2⟩ := h
  have hr1 : Room 1 _ := hr.mono (by decide)
  obtain ⟨dx, e1⟩ := u.U.ob
  have l2 := u.l2
  have hL := u.hL
  refine ⟨_, pss_one (ps_ret (pe_ifExp (pt_cmpR op_isN (pe_meth0 (pv 0) Z.cl M_unparted.m G_unparted hr1 M_unparted.b .nil pass0) pe_non (nomark _)) (pe_meth (pv 0) Z.cl M_fewest_from.m G_fewest_from hr M_fewest_from.b .nil pass0 (pa_cons (pe_meth0 (pv 0) Z.cl M_begun.m G_begun hr1 M_begun.b .nil pass0) pa_nil)) pe_non)), ?_⟩
  refine ⟨_, rfl, p, dx, _, rfl, e1, hf_no4 (by decide +kernel), p, o, sg, kn, L, ns, R, rfl, u.U, u.rows, u.few, by omega, fun pt H1 s1 => ?_, fun npt t H1 s1 => ?_⟩
  · refine ⟨rfl, _, rfl, ?_⟩
    rw [decide_eq_true (show V.non = V.non from rfl)]
    have u1 := u.same s1
    refine iteT ⟨_, rfl, p, dx, _, rfl, s1 _ _ e1, hf_no4 (by decide +kernel), _, rfl, p, dx, _, rfl, s1 _ _ e1, hf_no4 (by decide +kernel), p, o, sg, kn, L, ns, R, rfl, u1.U, u.l1, by omega, fun t H2 s2 et => ?_⟩
    refine ⟨p, o, sg, kn, L, ns, R, t, zeros ns.length, kvs, rfl, (u1.same s2).use et (by rw [List.length_replicate]) (zeros_bd (by omega) _), fun kvs3 H3 b3 hK3 hV3 => ?_⟩
    exact q1 pt H3 ((Same.but (s1.trans s2)).trans b3)
  · refine ⟨rfl, _, rfl, ?_⟩
    rw [decide_eq_false (show ¬ V.ref t = V.non from fun z => nomatch z)]
    exact iteF (q2 npt H1 (Same.but s1))
end
end P81
end
section
set_option Elab.async false
set_option linter.all false
set_option maxRecDepth 100000
set_option maxHeartbeats 4000000
namespace P81
open PySem PySem.Spec PyProof.Rows L2 ZG NK
/-- suspects at a, askings at b, as they are handed in -/
structure Ask (H : Hp) (a b : Addr) (t : Bool) (as : List Addr) (ns : List Str) (rs : List (List Str)) (L : Int) : Prop where
  ha : H a = some (.lst (ns.map V.str))
  ns_ : NamesOk ns
  l1 : 1 ≤ ns.length
  l2 : ns.length ≤ 4
  hb : H b = some (sq t (as.map V.ref))
  rs_ : RowsAt H as rs
  ok : ∀ r ∈ rs, NamesOk r
  r1 : 1 ≤ rs.length
  r2 : rs.length ≤ 100
  hL : L = 0 ∨ L = 1
theorem Ask.same {H H' : Hp} {a b : Addr} {t : Bool} {as : List Addr} {ns : List Str} {rs : List (List Str)} {L : Int} (k : Ask H a b t as ns rs L) (e : Same H H') : Ask H' a b t as ns rs L :=
  ⟨e _ _ k.ha, k.ns_, k.l1, k.l2, e _ _ k.hb, k.rs_.same e, k.ok, k.r1, k.r2, k.hL⟩
theorem signsOf_length (ns : List Str) (rs : List (List Str)) : (signsOf ns rs).length = rs.length := by unfold signsOf; rw [List.length_map]
/-- what a new Hunt asks, and gives -/
theorem Ask.init {C : Addr} {H : Hp} {a b : Addr} {t : Bool} {as : List Addr} {ns : List Str} {rs : List (List Str)} {L : Int} (k : Ask H a b t as ns rs L) {x dx : Addr} (nx : H x = none) (ndx : H dx = none) {Q : VK} {E : XK}
    (q : ∀ o sg kn H', Same H H' → H kn = none → Use0 C H' x o sg kn L ns (signsOf ns rs) [] → Q .non H') : spInit C [.ref x, .ref a, .ref b, .int L] (upd (upd H dx (.own x)) x (.ins C dx [])) Q E := by
  have s0 : Same H (upd (upd H dx (.own x)) x (.ins C dx [])) := same_upd (same_new ndx _) nx
  have k0 := k.same s0
  refine ⟨x, dx, a, b, t, as, ns, rs, L, rfl, upd_same, k0.ha, k0.ns_, k0.l1, k0.hb, k0.rs_, k0.ok, k0.r1, k0.r2, k0.hL, fun o sg kn H' U ek nk bt => ?_⟩
  have s1 : Same H H' := fun c u ec => bt c u (s0 c u ec) (by simpa using ne_of_none ec nx)
  refine q o sg kn H' s1 (s0.free nk) ⟨U, signsOf_len, by rw [signsOf_length]; exact k.r2, k.l1, k.l2, k.hL, KOk.new ek, Right.nil⟩
section
variable {P : Program} {w : World} {K : PySem.W.Frag} {mg : Str → Option Value} {base : Heap}
/-- a def with one default, as it stands -/
structure DefD (K : PySem.W.Frag) (mg : Str → Option Value) (x : Str) (st : Stmt) (ps : List Str) (f : Addr) (fd : FuncData) : Prop where
  F : FunD K x x (defArgs st) (defBody st) (defScope st) [.int 0] [] f fd
  g : mg x = some (.ref f)
  b : Binds K fd ps []
theorem scFewestAskings : FnScope ["suspects", "askings", "lies"] ["suspects", "askings", "lies"] (defScope sFewestAskings) := ⟨rfl, rfl, rfl, by decide +kernel, rfl, by decide +kernel, by decide +kernel⟩
def spFewestAskings : Sp := fun vs H Q _ => ∃ a b t as ns rs L, vs = [.ref a, .ref b, .int L] ∧ Ask H a b t as ns rs L ∧
  (Parted (signsOf ns rs) ns.length → ∀ H', Same H H' → Q (optV (fewest (signsOf ns rs) L (zeros ns.length))) H') ∧ (¬ Parted (signsOf ns rs) ns.length → ∀ H', Same H H' → Q .non H')
theorem but_fresh {H H1 H2 : Hp} {kn : Addr} (s : Same H H1) (n : H kn = none) (b : But [kn] H1 H2) : Same H H2 := fun c u e => b c u (s c u e) (by simpa using ne_of_none e n)
theorem ok_fewest_askings {C f f1 f2 : Addr} {fd d1 d2 : FuncData} (F : FunD K "fewest_askings" "fewest_askings" (defArgs sFewestAskings) (defBody sFewestAskings) (defScope sFewestAskings) [.int 0] [] f fd) (T : BI mg) (Z : HuntF K mg C) (Zmk : Mk K C f1)
    (M_init : MethAt K C "__init__" "Hunt.__init__" sInit ["self", "suspects", "askings", "lies"] f1 d1) (G_init : FnOk P w K mg base CX0 4 f1 d1 ["self", "suspects", "askings", "lies"] (spInit C))
    (D_fewest_of : DefAt K mg "fewest_of" sFewestOf ["hunt"] f2 d2) (G_fewest_of : FnOk P w K mg base CX0 28 f2 d2 ["hunt"] (spFewestOf C)) : FnOk P w K mg base CX0 29 f fd ["suspects", "askings", "lies"] spFewestAskings := by
  refine F.ok scFewestAskings (fun vs H Q E h => ?_) (fun cdv A outer s H vs Q E hr h => ?_)
  · obtain ⟨a, b, t, as, ns, rs, L, rfl, _⟩ := h
    rfl
  obtain ⟨a, b, t, as, ns, rs, L, rfl, k, q1, q2⟩ := h
  have hrI : Room 5 _ := hr.mono (by decide)
  refine ⟨_, pss_one (ps_ret (pe_call G_fewest_of hr (by rfl) D_fewest_of.g D_fewest_of.F.kp D_fewest_of.b .nil pass0 (pa_cons (pe_make Zmk G_init hrI (by rfl) Z.mgC M_init.b .nil pass0 (pa_cons (pv 0) (pa_cons (pv 1) (pa_cons (pv 2) pa_nil)))) pa_nil))), ?_⟩
  refine ⟨_, rfl, _, rfl, _, rfl, fun x dx nx ndx ne => ?_⟩
  refine k.init nx ndx fun o sg kn H1 s1 nk u => ⟨rfl, ?_⟩
  exact ⟨x, o, sg, kn, L, ns, _, [], rfl, u, fun pt H2 b2 => q1 pt H2 (but_fresh s1 nk b2), fun pt H2 b2 => q2 pt H2 (but_fresh s1 nk b2)⟩
theorem scPossible : FnScope ["suspects", "askings", "answers", "lies", "hunt"] ["suspects", "askings", "answers", "lies"] (defScope sPossible) := ⟨rfl, rfl, rfl, by decide +kernel, rfl, by decide +kernel, by decide +kernel⟩
def spPossible : Sp := fun vs H Q _ => ∃ a b c t t' as cs ns rs ans L, vs = [.ref a, .ref b, .ref c, .int L] ∧ Ask H a b t as ns rs L ∧ H c = some (sq t' (cs.map V.ref)) ∧ AnsAt H cs ans ∧ (∀ p ∈ ans, p.1 < rs.length) ∧ ans.length ≤ 100 ∧
  ∀ l H', Same H H' → H l = none → H' l = some (.lst ((leftNames L ns (runC (signsOf ns rs) L (zeros ns.length) ans)).map V.str)) → Q (.ref l) H'
theorem ok_possible_ones {C f f1 f2 f3 f4 : Addr} {fd d1 d2 d3 d4 : FuncData} (F : FunD K "possible_ones" "possible_ones" (defArgs sPossible) (defBody sPossible) (defScope sPossible) [.int 0] [] f fd) (T : BI mg) (Z : HuntF K mg C) (Zmk : Mk K C f1)
    (M_init : MethAt K C "__init__" "Hunt.__init__" sInit ["self", "suspects", "askings", "lies"] f1 d1) (G_init : FnOk P w K mg base CX0 4 f1 d1 ["self", "suspects", "askings", "lies"] (spInit C))
    (M_left_ones : MethAt K C "left_ones" "Hunt.left_ones" sLeft ["self", "state"] f2 d2) (M_behind_all : MethAt K C "behind_all" "Hunt.behind_all" sBehindAll ["self", "answers"] f3 d3) (G_behind_all : FnOk P w K mg base CX0 2 f3 d3 ["self", "answers"] (spBehindAll C))
    (D_checked_answers : DefAt K mg "checked_answers" sAnswers ["thing", "many"] f4 d4) (G_checked_answers : FnOk P w K mg base CX0 2 f4 d4 ["thing", "many"] spAnswers) : FnOk P w K mg base CX0 6 f fd ["suspects", "askings", "answers", "lies"] spPossible := by
  have G_left_ones : FnOk P w K mg base CX0 1 f2 d2 ["self", "state"] (spLeft C) := ok_left_ones M_left_ones.F T Z
  refine F.ok scPossible (fun vs H Q E h => ?_) (fun cdv A outer s H vs Q E hr h => ?_)
  · obtain ⟨a, b, c, t, t', as, cs, ns, rs, ans, L, rfl, _⟩ := h
    rfl
  obtain ⟨a, b, c, t, t', as, cs, ns, rs, ans, L, rfl, k, hc, hA, hans, hal, q⟩ := h
  have hrI : Room 5 _ := hr.mono (by decide)
  have hr1 : Room 1 _ := hr.mono (by decide)
  have hr2 : Room 2 _ := hr.mono (by decide)
  refine ⟨_, pss_cons (ps_set (i := 4) scPossible.nd rfl (.inl rfl) (pe_make Zmk G_init hrI (by rfl) Z.mgC M_init.b .nil pass0 (pa_cons (pv 0) (pa_cons (pv 1) (pa_cons (pv 3) pa_nil)))))
    (pss_one (ps_ret (pe_meth (pv 4) Z.cl M_left_ones.m G_left_ones hr1 M_left_ones.b .nil pass0 (pa_cons (pe_meth (pv 4) Z.cl M_behind_all.m G_behind_all hr2 M_behind_all.b .nil pass0 (pa_cons (pe_call G_checked_answers hr2 (by rfl) D_checked_answers.g D_checked_answers.F.kp D_checked_answers.b .nil pass0 (pa_cons (pv 2) (pa_cons (pe_callB (crLen K) (by rfl) T.len (by decide +kernel) (pa_cons (pv 1) pa_nil)) pa_nil))) pa_nil)) pa_nil)))), ?_⟩
  refine ⟨_, rfl, _, rfl, _, rfl, fun x dx nx ndx ne => ?_⟩
  refine k.init nx ndx fun o sg kn H1 s1 nk u => ⟨rfl, ?_⟩
  obtain ⟨dx1, e1⟩ := u.U.ob
  have nL := u.l2
  refine ⟨_, rfl, x, dx1, _, rfl, e1, hf_no4 (by decide +kernel), _, rfl, x, dx1, _, rfl, e1, hf_no4 (by decide +kernel), _, rfl, _, rfl, b, _, rfl, sq_or (s1 _ _ k.hb), ?_⟩
  refine ⟨t', c, cs, ans, (as.map V.ref).length, rfl, s1 _ _ hc, hA.same s1, (by rw [List.length_map, k.rs_.1]; exact hans), hal, fun r cs' H2 s2 nr er hA2 => ?_⟩
  have u2 := u.same s2
  refine ⟨x, o, sg, kn, L, ns, _, r, cs', ans, rfl, u2.U, er, hA2, (by rw [signsOf_length]; exact hans), u.rows, u.l1, by omega, fun st H3 s3 et => ?_⟩
  refine ⟨x, o, sg, kn, L, ns, _, st, _, rfl, u2.U.same s3, et, runC_len u.rows (by rw [signsOf_length]; exact hans) (by rw [List.length_replicate]), by omega, fun l H4 s4 nl el => ?_⟩
  have s04 := ((s1.trans s2).trans s3).trans s4
  exact q l H4 s04 (((s1.trans s2).trans s3).free nl) el
theorem scAskNext : FnScope ["suspects", "askings", "answers", "lies", "hunt", "state", "many"] ["suspects", "askings", "answers", "lies"] (defScope sAskNext) := ⟨rfl, rfl, rfl, by decide +kernel, rfl, by decide +kernel, by decide +kernel⟩
def spAskNext : Sp := fun vs H Q _ => ∃ a b c t t' as cs ns rs ans L, vs = [.ref a, .ref b, .ref c, .int L] ∧ Ask H a b t as ns rs L ∧ H c = some (sq t' (cs.map V.ref)) ∧ AnsAt H cs ans ∧ (∀ p ∈ ans, p.1 < rs.length) ∧ ans.length ≤ 100 ∧
  ∀ H', Same H H' → Q (optV (nextI (signsOf ns rs) L (runC (signsOf ns rs) L (zeros ns.length) ans))) H'
theorem ok_ask_next {C f f1 f2 f3 f4 f5 : Addr} {fd d1 d2 d3 d4 d5 : FuncData} (F : FunD K "ask_next" "ask_next" (defArgs sAskNext) (defBody sAskNext) (defScope sAskNext) [.int 0] [] f fd) (T : BI mg) (Z : HuntF K mg C) (Zmk : Mk K C f1)
    (M_init : MethAt K C "__init__" "Hunt.__init__" sInit ["self", "suspects", "askings", "lies"] f1 d1) (G_init : FnOk P w K mg base CX0 4 f1 d1 ["self", "suspects", "askings", "lies"] (spInit C))
    (M_fewest_from : MethAt K C "fewest_from" "Hunt.fewest_from" sFewest ["self", "state"] f2 d2) (G_fewest_from : FnOk P w K mg base CX0 27 f2 d2 ["self", "state"] (spFewest C))
    (M_behind_all : MethAt K C "behind_all" "Hunt.behind_all" sBehindAll ["self", "answers"] f3 d3) (G_behind_all : FnOk P w K mg base CX0 2 f3 d3 ["self", "answers"] (spBehindAll C))
    (D_checked_answers : DefAt K mg "checked_answers" sAnswers ["thing", "many"] f4 d4) (G_checked_answers : FnOk P w K mg base CX0 2 f4 d4 ["thing", "many"] spAnswers)
    (D_first_right : DefAt K mg "first_right" sFirstRight ["hunt", "state", "many"] f5 d5) (G_first_right : FnOk P w K mg base CX0 26 f5 d5 ["hunt", "state", "many"] (spFirstRight C)) : FnOk P w K mg base CX0 28 f fd ["suspects", "askings", "answers", "lies"] spAskNext := by
  refine F.ok scAskNext (fun vs H Q E h => ?_) (fun cdv A outer s H vs Q E hr h => ?_)
  · obtain ⟨a, b, c, t, t', as, cs, ns, rs, ans, L, rfl, _⟩ := h
    rfl
  obtain ⟨a, b, c, t, t', as, cs, ns, rs, ans, L, rfl, k, hc, hA, hans, hal, q⟩ := h
  have hrI : Room 5 _ := hr.mono (by decide)
  have hr2 : Room 2 _ := hr.mono (by decide)
  have hr26 : Room 26 _ := hr.mono (by decide)
  refine ⟨_, pss_cons (ps_set (i := 4) scAskNext.nd rfl (.inl rfl) (pe_make Zmk G_init hrI (by rfl) Z.mgC M_init.b .nil pass0 (pa_cons (pv 0) (pa_cons (pv 1) (pa_cons (pv 3) pa_nil)))))
    (pss_cons (ps_set (i := 5) scAskNext.nd rfl (.inl rfl) (pe_meth (pv 4) Z.cl M_behind_all.m G_behind_all hr2 M_behind_all.b .nil pass0 (pa_cons (pe_call G_checked_answers hr2 (by rfl) D_checked_answers.g D_checked_answers.F.kp D_checked_answers.b .nil pass0 (pa_cons (pv 2) (pa_cons (pe_callB (crLen K) (by rfl) T.len (by decide +kernel) (pa_cons (pv 1) pa_nil)) pa_nil))) pa_nil)))
    (pss_cons (ps_set (i := 6) scAskNext.nd rfl (.inl rfl) (pe_meth (pv 4) Z.cl M_fewest_from.m G_fewest_from hr M_fewest_from.b .nil pass0 (pa_cons (pv 5) pa_nil)))
    (pss_one (ps_ret (pe_ifExp (PW.pt (pw_or (pt_cmpR op_isN (pv 6) pe_non (nomark _)) (pw_or1 (pt_cmpR op_eq (pv 6) pe_int (nomark _))))) pe_non (pe_call G_first_right hr26 (by rfl) D_first_right.g D_first_right.F.kp D_first_right.b .nil pass0 (pa_cons (pv 4) (pa_cons (pv 5) (pa_cons (pv 6) pa_nil))))))))), ?_⟩
  refine ⟨_, rfl, _, rfl, _, rfl, fun x dx nx ndx ne => ?_⟩
  refine k.init nx ndx fun o sg kn H1 s1 nk u => ⟨rfl, ?_⟩
  obtain ⟨dx1, e1⟩ := u.U.ob
  have nL := u.l2
  have hL := u.hL
  refine ⟨_, rfl, x, dx1, _, rfl, e1, hf_no4 (by decide +kernel), _, rfl, _, rfl, b, _, rfl, sq_or (s1 _ _ k.hb), ?_⟩
  refine ⟨t', c, cs, ans, (as.map V.ref).length, rfl, s1 _ _ hc, hA.same s1, (by rw [List.length_map, k.rs_.1]; exact hans), hal, fun r cs' H2 s2 nr er hA2 => ?_⟩
  have u2 := u.same s2
  refine ⟨x, o, sg, kn, L, ns, _, r, cs', ans, rfl, u2.U, er, hA2, (by rw [signsOf_length]; exact hans), u.rows, u.l1, by omega, fun st H3 s3 et => ?_⟩
  have u3 := (u2.same s3).use et (runC_len u.rows (by rw [signsOf_length]; exact hans) (by rw [List.length_replicate])) (runC_bd (by omega) (zeros_bd (by omega) _))
  have s13 := (s1.trans s2).trans s3
  refine ⟨_, rfl, x, dx1, _, rfl, s3 _ _ (s2 _ _ e1), hf_no4 (by decide +kernel), _, rfl, x, o, sg, kn, L, ns, _, st, _, _, rfl, u3, fun kvs4 H4 b4 hK4 hV4 => ?_⟩
  have s4 := but_fresh s13 nk b4
  have u4 := u3.next b4 hK4 hV4
  generalize hs : runC (signsOf ns rs) L (zeros ns.length) ans = S at *
  generalize hRR : signsOf ns rs = R at *
  have z := q H4 s4
  cases e : fewest R L S with
  | none =>
    rw [next_no e] at z
    exact ⟨_, rfl, rfl, _, rfl, iteT (iteT z)⟩
  | some m =>
    cases m with
    | zero =>
      rw [next_zero e] at z
      exact ⟨_, rfl, rfl, _, rfl, iteF ⟨_, rfl, rfl, _, rfl, iteT z⟩⟩
    | succ m =>
      refine ⟨_, rfl, rfl, _, rfl, iteF ⟨_, rfl, rfl, _, rfl, ?_⟩⟩
      rw [decide_eq_false (show ¬ optV (some (m + 1)) = V.int 0 from fun z => by injection z with z; omega)]
      obtain ⟨i, r', g1, g2, g3⟩ := next_some e
      have g4 : R.findIdx? (right R L m S) = some i := by
        have := g1
        unfold nextI at this
        rw [e] at this
        exact this
      have tl := (fewest_least e).2
      have t12 : topN L S ≤ 12 := top_le hL (by rw [u4.lx]; exact nL)
      refine iteF ⟨_, rfl, _, rfl, _, rfl, x, o, sg, kn, L, ns, R, st, S, kvs4, m, i, rfl, by omega, u4, g4, fun H5 b5 => ?_⟩
      have z5 := q H5 (but_fresh s4 nk b5)
      rw [g1] at z5
      exact z5
end
end P81
end
section
set_option Elab.async false
set_option linter.all false
set_option maxRecDepth 100000
set_option maxHeartbeats 4000000
namespace P81
open PySem PySem.Spec PyProof.Rows L2 ZG NK
theorem signs_at {ns : List Str} {rs : List (List Str)} {i : Nat} {r : List Bool} (h : (signsOf ns rs)[i]? = some r) : ∃ row, rs[i]? = some row ∧ r = ns.map fun n => decide (n ∈ row) := by
  unfold signsOf at h
  rw [List.getElem?_map] at h
  cases e : rs[i]? with
  | none => rw [e] at h; cases h
  | some row =>
    rw [e] at h
    exact ⟨row, rfl, (Option.some.inj h).symm⟩
theorem RowsAt.get {H : Hp} {as : List Addr} {rs : List (List Str)} (h : RowsAt H as rs) {i : Nat} {r : List Str} (hi : rs[i]? = some r) : ∃ a, as[i]? = some a ∧ H a = some (.lst (r.map V.str)) := by
  have hl := (List.getElem?_eq_some_iff.mp hi).1
  rw [← h.1] at hl
  exact ⟨as[i], List.getElem?_eq_getElem hl, h.2 i _ _ (List.getElem?_eq_getElem hl) hi⟩
section
variable {P : Program} {w : World} {K : PySem.W.Frag} {mg : Str → Option Value} {base : Heap}
theorem scMAfter : FnScope ["_law_names", "_law_askings", "_law_state", "_law_index", "_law_answer", "_law_name", "_law_many"] ["_law_names", "_law_askings", "_law_state", "_law_index", "_law_answer"] (defScope sMAfter) := ⟨rfl, rfl, rfl, by decide +kernel, rfl, by decide +kernel, by decide +kernel⟩
def spMAfter : Sp := fun vs H Q _ => ∃ a b as ns rs L st s i r ans, vs = [.ref a, .ref b, .ref st, .int ((i : Nat) : Int), .bl ans] ∧ Ask H a b false as ns rs L ∧ H st = some (tupI s) ∧ s.length = ns.length ∧ (signsOf ns rs)[i]? = some r ∧
  ∀ t H', Same H H' → H' t = some (tupI (aft r ans s)) → Q (.ref t) H'
theorem ok_m_after {f : Addr} {fd : FuncData} (F : Fun K "_law_m_after" "_law_m_after" sMAfter f fd) (T : BI mg) : FnOk P w K mg base CX0 1 f fd ["_law_names", "_law_askings", "_law_state", "_law_index", "_law_answer"] spMAfter := by
  refine F.ok scMAfter (fun vs H Q E h => ?_) (fun cdv A outer s H vs Q E hr h => ?_)
  · obtain ⟨a, b, as, ns, rs, L, st, s, i, r, ans, rfl, _⟩ := h
    rfl
  obtain ⟨a, b, as, ns, rs, L, st, x, i, r, ans, rfl, k, hx, lx, hi, q⟩ := h
  obtain ⟨row, hrow, hr0⟩ := signs_at hi
  obtain ⟨c, hc, hcr⟩ := k.rs_.get hrow
  have l2 := k.l2
  have hb : H b = some (.lst (as.map V.ref)) := k.hb
  have lr : r.length = ns.length := by rw [hr0, List.length_map]
  refine ⟨_, pss_one (ps_ret (pe_callTy (crTupOf K) (by rfl) T.tuple (by decide +kernel) (pa_cons (pe_lc (own := [("_law_name", 5), ("_law_many", 6)]) (g := (gTup K 2 (gCons (gName 5) (gCons (gName 6) gNil)))) (tt := tYes) rfl scMAfter.nd (pi_zipG false true (by rfl) T.zip (pa_cons (pv 0) (pa_cons (pv 2) pa_nil))) (blkOk_by (N := ["_law_names", "_law_askings", "_law_state", "_law_index", "_law_answer", "_law_name", "_law_many"]) (sc := (defScope sMAfter)) (by decide +kernel))
        (fun _ _ _ _ _ => (pg_tup (by rfl) (pgs_cons (pg_name (i := 5) scMAfter.nd rfl (.inl rfl)) (pgs_cons (pg_name (i := 6) scMAfter.nd rfl (.inl rfl)) pgs_nil)))) (fun _ _ _ _ _ => pts_nil)
        (fun _ _ _ _ _ => (pe_op op_add (pv 6) (pe_callTy call_int1 (by rfl) T.int (by decide +kernel) (pa_cons (pe_cmpR op_ne (pe_cmpR (opIn K) (pv 5) (pe_ix (ixL K) (pv 1) (pv 3) (fun _ _ => rfl)) rfl) (pv 4) (nomark _)) pa_nil))))) pa_nil))), ?_⟩
  refine ⟨_, rfl, _, rfl, a, st, _, _, rfl, sq_Sq (t := false) k.ha, sq_Sq (t := true) hx, fun D nD => ?_⟩
  have hn : ns.length = min (ns.map V.str).length (x.map V.int).length := by rw [List.length_map, List.length_map]; omega
  have gc : (as.map V.ref)[i]? = some (.ref c) := by rw [List.getElem?_map, hc]; rfl
  refine lc_it (walkZ hn) (fun j H2 => H2 D = some (.lst (((aft r ans x).take j).map V.int)) ∧ Same H H2) ⟨upd_same, same_new nD _⟩ (fun j H2 _ ⟨_, s2⟩ => ⟨sq_Sq (t := false) (s2 _ _ k.ha), sq_Sq (t := true) (s2 _ _ hx)⟩) ?_ ?_
  · rintro j y H2 H3 hj ⟨eD, s2⟩ ⟨Tp, x1, x2, rfl, nT, rfl, g1, g2⟩
    have hj2 : j < x.length := by omega
    have g1 : (ns.map V.str)[j]? = some x1 := g1
    have g2 : (x.map V.int)[j]? = some x2 := g2
    rw [List.getElem?_map, List.getElem?_eq_getElem hj] at g1
    rw [List.getElem?_map, List.getElem?_eq_getElem hj2] at g2
    obtain rfl : V.str ns[j] = x1 := Option.some.inj g1
    obtain rfl : V.int x[j] = x2 := Option.some.inj g2
    have s3 := s2.trans (same_new nT (.tup [.str ns[j], .int x[j]]))
    have hD3 : (upd H2 Tp (.tup [.str ns[j], .int x[j]])) D = some (.lst (((aft r ans x).take j).map V.int)) := by rw [upd_ne (ne_of_none eD nT)]; exact eD
    refine ⟨Tp, _, rfl, .inl (.inl upd_same), rfl, _, _, rfl, _, _, rfl, rfl, rfl, yesI ?_⟩
    refine ⟨_, rfl, _, rfl, _, rfl, _, rfl, b, _, _, _, rfl, rfl, SqL.of (s3 _ _ hb), atI_nat gc, c, _, rfl, .inl (SqL.of (s3 _ _ hcr)), rfl, flat_strs row, ?_⟩
    rw [if_neg Bool.false_ne_true, inV_str]
    refine ⟨_, rfl, rfl, .inr ⟨_, rfl, _, _, rfl, rfl, _, hD3, ?_, ?_, same_upd s3 nD⟩⟩
    · rw [List.length_map, List.length_take]
      exact small1000 (by omega)
    · rw [upd_same]
      have gr : r[j]? = some (decide (ns[j] ∈ row)) := by rw [hr0, List.getElem?_map, List.getElem?_eq_getElem hj]; rfl
      have gj : (aft r ans x)[j]? = some (x[j] + wr (decide (ns[j] ∈ row)) ans) := aft_get (List.getElem?_eq_getElem hj2) gr
      rw [take_snoc gj, List.map_append, wr_eq]
      rfl
  · rintro H2 ⟨eD, s2⟩
    have hl : (aft r ans x).length = ns.length := by rw [aft_length (by omega), lx]
    rw [← hl, List.take_length] at eD
    exact ⟨D, _, rfl, SqL.of eD, fun t nt => q t _ (s2.trans (same_new nt _)) upd_same⟩
theorem scMLeft : FnScope ["_law_names", "_law_state", "_law_lies", "_law_name", "_law_many"] ["_law_names", "_law_state", "_law_lies"] (defScope sMLeft) := ⟨rfl, rfl, rfl, by decide +kernel, rfl, by decide +kernel, by decide +kernel⟩
def spMLeft : Sp := fun vs H Q _ => ∃ a ns st s L, vs = [.ref a, .ref st, .int L] ∧ H a = some (.lst (ns.map V.str)) ∧ H st = some (tupI s) ∧ s.length = ns.length ∧ ns.length ≤ 100 ∧
  ∀ l H', Same H H' → H l = none → H' l = some (.lst ((leftNames L ns s).map V.str)) → Q (.ref l) H'
theorem ok_m_left {f : Addr} {fd : FuncData} (F : Fun K "_law_m_left" "_law_m_left" sMLeft f fd) (T : BI mg) : FnOk P w K mg base CX0 1 f fd ["_law_names", "_law_state", "_law_lies"] spMLeft := by
  refine F.ok scMLeft (fun vs H Q E h => ?_) (fun cdv A outer s H vs Q E hr h => ?_)
  · obtain ⟨a, ns, st, s, L, rfl, _⟩ := h
    rfl
  obtain ⟨a, ns, st, x, L, rfl, e2, hx, lx, few, q⟩ := h
  refine ⟨_, pss_one (ps_ret (pe_lc (own := [("_law_name", 3), ("_law_many", 4)]) (g := (gTup K 2 (gCons (gName 3) (gCons (gName 4) gNil)))) rfl scMLeft.nd (pi_zipG false true (by rfl) T.zip (pa_cons (pv 0) (pa_cons (pv 1) pa_nil))) (blkOk_by (N := ["_law_names", "_law_state", "_law_lies", "_law_name", "_law_many"]) (sc := (defScope sMLeft)) (by decide +kernel))
        (fun _ _ _ _ _ => (pg_tup (by rfl) (pgs_cons (pg_name (i := 3) scMLeft.nd rfl (.inl rfl)) (pgs_cons (pg_name (i := 4) scMLeft.nd rfl (.inl rfl)) pgs_nil)))) (fun _ _ _ _ _ => (pts_one (pt_cmpR op_le (pv 4) (pv 2) (nomark _))))
        (fun _ _ _ _ _ => (pv 3)))), ?_⟩
  refine ⟨_, rfl, _, rfl, a, st, _, _, rfl, sq_Sq (t := false) e2, sq_Sq (t := true) hx, fun D nD => ?_⟩
  have hn : ns.length = min (ns.map V.str).length (x.map V.int).length := by rw [List.length_map, List.length_map]; omega
  have zl : (ns.zip x).length = ns.length := by rw [List.length_zip]; omega
  refine lc_it (walkZ hn) (fun j H2 => H2 D = some (.lst (((((ns.zip x).take j).filter fun p => decide (p.2 ≤ L)).map (·.1)).map V.str)) ∧ Same H H2) ⟨upd_same, same_new nD _⟩ (fun j H2 _ ⟨_, s2⟩ => ⟨sq_Sq (t := false) (s2 _ _ e2), sq_Sq (t := true) (s2 _ _ hx)⟩) ?_ ?_
  · rintro j y H2 H3 hj ⟨eD, s2⟩ ⟨Tp, x1, x2, rfl, nT, rfl, g1, g2⟩
    have hj2 : j < x.length := by omega
    have g1 : (ns.map V.str)[j]? = some x1 := g1
    have g2 : (x.map V.int)[j]? = some x2 := g2
    rw [List.getElem?_map, List.getElem?_eq_getElem hj] at g1
    rw [List.getElem?_map, List.getElem?_eq_getElem hj2] at g2
    obtain rfl : V.str ns[j] = x1 := Option.some.inj g1
    obtain rfl : V.int x[j] = x2 := Option.some.inj g2
    have s3 := s2.trans (same_new nT (.tup [.str ns[j], .int x[j]]))
    have hD3 : (upd H2 Tp (.tup [.str ns[j], .int x[j]])) D = some (.lst (((((ns.zip x).take j).filter fun p => decide (p.2 ≤ L)).map (·.1)).map V.str)) := by rw [upd_ne (ne_of_none eD nT)]; exact eD
    have gz : (ns.zip x)[j]? = some (ns[j], x[j]) := by
      rw [List.getElem?_zip_eq_some]
      exact ⟨List.getElem?_eq_getElem hj, List.getElem?_eq_getElem hj2⟩
    refine ⟨Tp, _, rfl, .inl (.inl upd_same), rfl, _, _, rfl, _, _, rfl, rfl, rfl, ?_⟩
    refine ⟨_, rfl, _, rfl, _, _, rfl, rfl, _, rfl, ?_⟩
    by_cases c : x[j] ≤ L
    · rw [decide_eq_true c]
      refine ifT ⟨_, rfl, _, hD3, ?_, ?_, same_upd s3 nD⟩
      · rw [List.length_map, List.length_map]
        have := List.length_filter_le (fun p : Str × Int => decide (p.2 ≤ L)) ((ns.zip x).take j)
        rw [List.length_take] at this
        exact small1000 (by omega)
      · rw [upd_same, take_snoc gz, List.filter_append, List.map_append, List.map_append]
        rw [show ([(ns[j], x[j])].filter fun p : Str × Int => decide (p.2 ≤ L)) = [(ns[j], x[j])] by rw [List.filter_cons, if_pos (by simpa using c)]; rfl]
        rfl
    · rw [decide_eq_false c]
      refine iteF ⟨?_, s3⟩
      rw [hD3, take_snoc gz, List.filter_append]
      rw [show ([(ns[j], x[j])].filter fun p : Str × Int => decide (p.2 ≤ L)) = [] by rw [List.filter_cons, if_neg (by simpa using c)]; rfl, List.append_nil]
  · rintro H2 ⟨eD, s2⟩
    rw [← zl, List.take_length] at eD
    exact q D H2 s2 (‹H D = none›) eD
end
end P81
end
section
set_option Elab.async false
set_option linter.all false
set_option maxRecDepth 100000
set_option maxHeartbeats 4000000
namespace P81
open PySem PySem.Spec PyProof.Rows L2 ZG NK
theorem Ask.but {H H' : Hp} {a b : Addr} {t : Bool} {as : List Addr} {ns : List Str} {rs : List (List Str)} {L : Int} (k : Ask H a b t as ns rs L) {kn : Addr} {kvs : List NE} (hk : H kn = some (dN kn kvs)) (e : But [kn] H H') : Ask H' a b t as ns rs L := by
  have k1 : ∀ {b u}, H b = some u → (∀ φ, u ≠ .ext φ) → H' b = some u := fun {b u} q n => e b u q fun z => by
    rw [List.mem_singleton.mp z, hk] at q
    exact n _ (Option.some.inj q).symm
  refine ⟨k1 k.ha (fun _ z => nomatch z), k.ns_, k.l1, k.l2, k1 k.hb (fun φ z => by cases t <;> cases z), ⟨k.rs_.1, fun i c r g1 g2 => k1 (k.rs_.2 i c r g1 g2) (fun _ z => nomatch z)⟩, k.ok, k.r1, k.r2, k.hL⟩
theorem Right.mono {R : List (List Bool)} {L : Int} {b c : Nat} {kvs : List NE} (h : Right R L b kvs) (hc : c ≤ b) : Right R L c kvs := fun s m v hm e => h s m v (by omega) e
section
variable {P : Program} {w : World} {K : PySem.W.Frag} {mg : Str → Option Value} {base : Heap}
theorem scMEnough : FnScope ["_law_names", "_law_askings", "_law_lies", "_law_state", "_law_many", "_law_known", "_law_index", "_law_ends", "_law_one", "_law_answer", "_law_end"] ["_law_names", "_law_askings", "_law_lies", "_law_state", "_law_many", "_law_known"] (defScope sMEnough) := ⟨rfl, rfl, rfl, by decide +kernel, rfl, by decide +kernel, by decide +kernel⟩
def spMEnough (b : Nat) : Sp := fun vs H Q _ => ∃ a bb as ns rs L st s m kn kvs, vs = [.ref a, .ref bb, .int L, .ref st, .int ((m : Nat) : Int), .ref kn] ∧ m < b ∧ b ≤ 13 ∧ Ask H a bb false as ns rs L ∧ H st = some (tupI s) ∧ s.length = ns.length ∧ (∀ x ∈ s, 0 ≤ x) ∧
  KOk H kn ns.length L kvs ∧ Right (signsOf ns rs) L m kvs ∧ ∀ kvs' H', But [kn] H H' → KOk H' kn ns.length L kvs' → Right (signsOf ns rs) L m kvs' → (∀ (s' : List Int) (m' : Nat), m < m' → valN kvs' (s', ((m' : Nat) : Int)) = valN kvs (s', ((m' : Nat) : Int))) →
    Q (.bl (enough (signsOf ns rs) L m s)) H'
theorem ok_m_is_enough {f f1 f2 : Addr} {fd d1 d2 : FuncData} {b : Nat} (F : Fun K "_law_m_is_enough" "_law_m_is_enough" sMEnough f fd) (T : BI mg) (D_m_left : DefAt K mg "_law_m_left" sMLeft ["_law_names", "_law_state", "_law_lies"] f1 d1)
    (D_m_after : DefAt K mg "_law_m_after" sMAfter ["_law_names", "_law_askings", "_law_state", "_law_index", "_law_answer"] f2 d2)
    (D_m_is_enough : DefAt K mg "_law_m_is_enough" sMEnough ["_law_names", "_law_askings", "_law_lies", "_law_state", "_law_many", "_law_known"] f fd)
    (G_m_is_enough : FnOk P w K mg base CX0 (b + 1) f fd ["_law_names", "_law_askings", "_law_lies", "_law_state", "_law_many", "_law_known"] (spMEnough b)) :
    FnOk P w K mg base CX0 (b + 2) f fd ["_law_names", "_law_askings", "_law_lies", "_law_state", "_law_many", "_law_known"] (spMEnough (b + 1)) := by
  have G_m_left : FnOk P w K mg base CX0 1 f1 d1 ["_law_names", "_law_state", "_law_lies"] spMLeft := ok_m_left D_m_left.F T
  have G_m_after : FnOk P w K mg base CX0 1 f2 d2 ["_law_names", "_law_askings", "_law_state", "_law_index", "_law_answer"] spMAfter := ok_m_after D_m_after.F T
  refine F.ok scMEnough (fun vs H Q E h => ?_) (fun cdv A outer s H vs Q E hr h => ?_)
  · obtain ⟨a, bb, as, ns, rs, L, st, s, m, kn, kvs, rfl, _⟩ := h
    rfl
  obtain ⟨a, bb, as, ns, rs, L, st, x, m, kn, kvs, rfl, hm, hb, k, hx, lx, nx, hK, hV, q⟩ := h
  have hr1 : Room 1 _ := hr.mono (by omega)
  have hu3 := hu3_of hr
  have l2 := k.l2
  have hL := k.hL
  have hRw : Rows (signsOf ns rs) ns.length := signsOf_len
  have lR : (signsOf ns rs).length = rs.length := signsOf_length ns rs
  have r2 := k.r2
  refine ⟨_, pss_cons (ps_if (pt_cmpR op_lt (pe_callB (crLen K) (by rfl) T.len (by decide +kernel) (pa_cons (pe_call G_m_left hr1 (by rfl) D_m_left.g D_m_left.F.kp D_m_left.b .nil pass0 (pa_cons (pv 0) (pa_cons (pv 3) (pa_cons (pv 2) pa_nil)))) pa_nil)) pe_int (nomark _))
      (pss_one (ps_ret pe_bl)) pss_nil)
    (pss_cons (ps_set (i := 3) scMEnough.nd rfl (.inr rfl) (pe_callTy (crTupOf K) (by rfl) T.tuple (by decide +kernel) (pa_cons (pe_lc (own := [("_law_one", 8)]) (g := (gName 8)) (tt := tYes) rfl scMEnough.nd (pseq K true (pv 3)) (blkOk_by (N := ["_law_names", "_law_askings", "_law_lies", "_law_state", "_law_many", "_law_known", "_law_index", "_law_ends", "_law_one", "_law_answer", "_law_end"]) (sc := (defScope sMEnough)) (by decide +kernel))
        (fun _ _ _ _ _ => (pg_name (i := 8) scMEnough.nd rfl (.inl rfl))) (fun _ _ _ _ _ => pts_nil)
        (fun _ _ _ _ _ => (pe_callB (call_min2 rfl) (by rfl) T.min (by decide +kernel) (pa_cons (pv 8) (pa_cons (pe_op op_add (pv 2) pe_int) pa_nil))))) pa_nil)))
    (pss_cons (ps_if (PW.pt (pw_and (pt_cmpR op_gt (pv 4) pe_int (nomark _)) (pw_and1 (pt_cmp (pc_nnotin hu3 (pe_tup (pa_cons (pv 3) (pa_cons (pv 4) pa_nil))) (pv 5))))))
      (pss_cons (ps_nput hu3 (pv 5) (pe_tup (pa_cons (pv 3) (pa_cons (pv 4) pa_nil))) pe_bl rfl)
      (pss_one (ps_for PassesOwn.never rfl (pi_range1 (by rfl) T.range (pa_cons (pe_callB (crLen K) (by rfl) T.len (by decide +kernel) (pa_cons (pv 1) pa_nil)) pa_nil)) (pg_name (i := 6) scMEnough.nd rfl (.inr rfl))
        (pss_cons (ps_setLc (i := 7) (own := [("_law_answer", 9)]) (g := (gName 9)) (tt := tYes) rfl scMEnough.nd rfl rfl (sw_true rfl rfl rfl (by decide +kernel)) (pseq K true (pe_tup (pa_cons pe_bl (pa_cons pe_bl pa_nil)))) (blkOk_by (N := ["_law_names", "_law_askings", "_law_lies", "_law_state", "_law_many", "_law_known", "_law_index", "_law_ends", "_law_one", "_law_answer", "_law_end"]) (sc := (defScope sMEnough)) (by decide +kernel))
        (fun _ _ _ _ _ => (pg_name (i := 9) scMEnough.nd rfl (.inl rfl))) (fun _ _ _ _ _ => pts_nil)
        (fun _ _ _ _ _ => (pe_call G_m_after hr1 (by rfl) D_m_after.g D_m_after.F.kp D_m_after.b .nil pass0 (pa_cons (pv 0) (pa_cons (pv 1) (pa_cons (pv 3) (pa_cons (pv 6) (pa_cons (pv 9) pa_nil))))))))
        (pss_one (ps_if (pt_val (pe_callB (cr_all rfl) (by rfl) T.all (by decide +kernel) (pa_cons (pe_lc (own := [("_law_end", 10)]) (g := (gName 10)) (tt := tYes) rfl scMEnough.nd (pseq K false (pv 7)) (blkOk_by (N := ["_law_names", "_law_askings", "_law_lies", "_law_state", "_law_many", "_law_known", "_law_index", "_law_ends", "_law_one", "_law_answer", "_law_end"]) (sc := (defScope sMEnough)) (by decide +kernel))
        (fun _ _ _ _ _ => (pg_name (i := 10) scMEnough.nd rfl (.inl rfl))) (fun _ _ _ _ _ => pts_nil)
        (fun _ _ _ _ _ => (pe_call G_m_is_enough hr (by rfl) D_m_is_enough.g D_m_is_enough.F.kp D_m_is_enough.b .nil pass0 (pa_cons (pv 0) (pa_cons (pv 1) (pa_cons (pv 2) (pa_cons (pv 10) (pa_cons (pe_op op_sub (pv 4) pe_int) (pa_cons (pv 5) pa_nil))))))))) pa_nil)))
          (pss_one (ps_nput hu3 (pv 5) (pe_tup (pa_cons (pv 3) (pa_cons (pv 4) pa_nil))) pe_bl rfl)) pss_nil)))))) pss_nil)
    (pss_one (ps_ret (pe_and (pe_cmpR op_gt (pv 4) pe_int (nomark _)) (pe_one (pe_nget hu3 (pv 5) (pe_tup (pa_cons (pv 3) (pa_cons (pv 4) pa_nil))) (fun _ _ => rfl)))))))), ?_⟩
  generalize hRR : signsOf ns rs = R at *
  -- len(_law_m_left(..)) < 2
  refine ⟨_, rfl, _, rfl, _, rfl, a, ns, st, x, L, rfl, k.ha, hx, lx, by omega, fun l H1 s1 nl el => ?_⟩
  refine ⟨l, _, rfl, .inl (SqL.of el), _, _, rfl, rfl, _, rfl, ?_⟩
  rw [List.length_map, leftNames_len L lx.symm]
  by_cases c : leftN L x < 2
  · rw [decide_eq_true (show (leftN L x : Int) < 2 by omega)]
    refine iteT ?_
    have z := q kvs H1 (Same.but s1) (hK.same s1) hV (fun _ _ _ => rfl)
    rw [enough_left c] at z
    exact z
  rw [decide_eq_false (show ¬ (leftN L x : Int) < 2 by omega)]
  -- the state is cut
  refine iteF ⟨_, rfl, st, _, rfl, sq_Sq (t := true) (s1 _ _ hx), fun D nD => ?_⟩
  refine lc_it walkS (fun j H2 => H2 D = some (.lst (((cap L x).take j).map V.int)) ∧ Same H1 H2) ⟨upd_same, same_new nD _⟩ (fun j H2 _ ⟨_, s2⟩ => sq_Sq (t := true) (s2 _ _ (s1 _ _ hx))) ?_ ?_
  · rintro j y H2 H3 hj ⟨eD, s2⟩ ⟨rfl, hy⟩
    rw [List.length_map] at hj
    rw [List.getElem?_map, List.getElem?_eq_getElem hj] at hy
    obtain rfl : V.int x[j] = y := Option.some.inj hy
    refine ⟨rfl, yesI ⟨_, rfl, _, rfl, _, _, rfl, rfl, _, _, rfl, _, eD, ?_, ?_, same_upd s2 nD⟩⟩
    · rw [List.length_map, List.length_take]
      exact small1000 (by omega)
    · rw [upd_same]
      have gj : (cap L x)[j]? = some (capx L x[j]) := by unfold cap; rw [List.getElem?_map, List.getElem?_eq_getElem hj]; rfl
      rw [take_snoc gj, List.map_append]
      rfl
  rintro H2 ⟨eD, s2⟩
  have lc : (cap L x).length = ns.length := by rw [cap_length, lx]
  have bc : Bd L (cap L x) := cap_bd (by omega) nx
  rw [List.length_map, lx, ← lc, List.take_length] at eD
  refine ⟨D, _, rfl, SqL.of eD, fun t1 nt1 => ?_⟩
  have s3 : Same H (upd H2 t1 (.tup ((cap L x).map V.int))) := (s1.trans s2).trans (same_new nt1 _)
  have et1 : (upd H2 t1 (.tup ((cap L x).map V.int))) t1 = some (tupI (cap L x)) := upd_same
  generalize hH3 : upd H2 t1 (.tup ((cap L x).map V.int)) = H3 at s3 et1 ⊢
  have ec : ∀ n, enough R L n (cap L x) = enough R L n x := fun n => enough_cap R L n x
  generalize hcs : cap L x = cs at lc bc et1 ec ⊢
  have hK3 := hK.same s3
  have k3 := k.same s3
  cases m with
  | zero =>
    refine ⟨_, rfl, _, _, rfl, rfl, _, rfl, ?_⟩
    rw [decide_eq_false (show ¬ ((0 : Nat) : Int) > 0 by omega)]
    refine iteF (iteF ⟨_, rfl, _, _, rfl, rfl, _, rfl, ?_⟩)
    rw [decide_eq_false (show ¬ ((0 : Nat) : Int) > 0 by omega)]
    refine iteF ?_
    have z := q kvs H3 (Same.but s3) hK3 hV (fun _ _ _ => rfl)
    rw [enough_zero, decide_eq_false c] at z
    exact z
  | succ m =>
    have e1 : ((m + 1 : Nat) : Int) - 1 = ((m : Nat) : Int) := by omega
    have leftc : ¬ leftN L cs < 2 := by rw [← hcs, leftN_cap]; exact c
    have kd : Keyed ns.length L (cs, ((m + 1 : Nat) : Int)) := ⟨cs, m + 1, rfl, lc, bc, by omega⟩
    have lvl : ∀ (s' : List Int) (m' : Nat), m' ≠ m + 1 → ((s', ((m' : Nat) : Int)) : NKey) ≠ (cs, ((m + 1 : Nat) : Int)) := fun s' m' n z => by
      injection z with z1 z2
      omega
    have fin : enough R L (m + 1) x = R.any (right R L m cs) := by
      rw [← ec, enough_succ, decide_eq_false leftc, Bool.false_or]
      rfl
    refine ⟨_, rfl, _, _, rfl, rfl, _, rfl, ?_⟩
    rw [decide_eq_true (show ((m + 1 : Nat) : Int) > 0 by omega)]
    refine iteT ⟨_, rfl, _, rfl, by show 2 ≤ sizeLine; decide, fun tp ntp => ?_⟩
    have s4 := same_new ntp (.tup [.ref t1, .int ((m + 1 : Nat) : Int)])
    have hK4 := hK3.same s4
    have hNT4 : NT (upd H3 tp (.tup [.ref t1, .int ((m + 1 : Nat) : Int)])) (cs, ((m + 1 : Nat) : Int)) tp := ⟨t1, upd_same, s4 _ _ et1⟩
    refine ⟨_, rfl, kn, _, rfl, hK4.get hNT4, _, rfl, ?_⟩
    have s04 := s3.trans s4
    generalize hH4 : upd H3 tp (.tup [.ref t1, .int ((m + 1 : Nat) : Int)]) = H4 at s4 hK4 hNT4 s04 ⊢
    cases e : valN kvs (cs, ((m + 1 : Nat) : Int)) with
    | some v =>
      have ev : v = .bl (enough R L (m + 1) x) := by rw [← ec]; exact hV cs (m + 1) v (by omega) e
      refine iteF ⟨_, rfl, _, _, rfl, rfl, _, rfl, ?_⟩
      rw [decide_eq_true (show ((m + 1 : Nat) : Int) > 0 by omega)]
      refine iteT ⟨_, rfl, _, rfl, _, rfl, by show 2 ≤ sizeLine; decide, fun tq ntq => ?_⟩
      have s5 := same_new ntq (.tup [.ref t1, .int ((m + 1 : Nat) : Int)])
      refine ⟨kn, v, rfl, ?_, ?_⟩
      · rw [← e]
        exact (hK4.same s5).get ⟨t1, upd_same, s5 _ _ (s4 _ _ et1)⟩
      · rw [ev]
        exact q kvs _ (Same.but (s04.trans s5)) (hK4.same s5) hV (fun _ _ _ => rfl)
    | none =>
      -- known[state, many] = False
      refine iteT ⟨_, rfl, _, rfl, _, rfl, by show 2 ≤ sizeLine; decide, fun tq ntq => ?_⟩
      have s5 := same_new ntq (.tup [.ref t1, .int ((m + 1 : Nat) : Int)])
      have hK5 := hK4.same s5
      have hNT5 : NT (upd H4 tq (.tup [.ref t1, .int ((m + 1 : Nat) : Int)])) (cs, ((m + 1 : Nat) : Int)) tq := ⟨t1, upd_same, s5 _ _ (s4 _ _ et1)⟩
      refine ⟨kn, _, rfl, ⟨kvs, _, tq, hK5.at_, hK5.ks, rfl, hNT5, hK5.few l2 (by omega), rfl⟩, ?_⟩
      have hK6 := hK5.put hNT5 kd (.bl false)
      have b06 : But [kn] H (upd (upd H4 tq (.tup [.ref t1, .int ((m + 1 : Nat) : Int)])) kn (dN kn (putN kvs (cs, ((m + 1 : Nat) : Int)) tq (.bl false)))) := (Same.but (s04.trans s5)).trans (but_upd (by simp))
      have et6 : (upd (upd H4 tq (.tup [.ref t1, .int ((m + 1 : Nat) : Int)])) kn (dN kn (putN kvs (cs, ((m + 1 : Nat) : Int)) tq (.bl false)))) t1 = some (tupI cs) := by
        have e5 := s5 _ _ (s4 _ _ et1)
        rw [upd_ne (ne_of e5 hK5.at_ (fun z => nomatch z))]
        exact e5
      generalize hH6 : upd (upd H4 tq (.tup [.ref t1, .int ((m + 1 : Nat) : Int)])) kn (dN kn (putN kvs (cs, ((m + 1 : Nat) : Int)) tq (.bl false))) = H6 at hK6 b06 et6 ⊢
      have k6 := k.but hK.at_ b06
      have tupk : ∀ {Hx Hy : Hp} {kx : List NE}, Hx kn = some (dN kn kx) → But [kn] Hx Hy → ∀ c xs, Hx c = some (.tup xs) → Hy c = some (.tup xs) := fun {Hx Hy kx} hk b => tups_of_but b (fun a ha => by rw [List.mem_singleton.mp ha]; exact ⟨_, hk, fun xs z => nomatch z⟩)
      -- the loop over the askings
      refine ⟨_, rfl, bb, _, rfl, .inl (SqL.of k6.hb), _, rfl, by rw [List.length_map, k.rs_.1]; omega, by rw [List.length_map, k.rs_.1]; omega, ?_⟩
      refine for_it walk_range (fun i σ H7 => ∃ y6 y7 y8 y9 y10 kvs7, σ = [some (.ref a), some (.ref bb), some (.int L), some (.ref t1), some (.int ((m + 1 : Nat) : Int)), some (.ref kn), y6, y7, y8, y9, y10] ∧ But [kn] H6 H7 ∧ KOk H7 kn ns.length L kvs7 ∧
        Right R L m kvs7 ∧ valN kvs7 (cs, ((m + 1 : Nat) : Int)) = some (.bl ((R.take i).any (right R L m cs))) ∧ ∀ (s' : List Int) (m' : Nat), m < m' → ((s', ((m' : Nat) : Int)) : NKey) ≠ (cs, ((m + 1 : Nat) : Int)) → valN kvs7 (s', ((m' : Nat) : Int)) = valN kvs (s', ((m' : Nat) : Int)))
        ⟨none, none, none, none, none, putN kvs (cs, ((m + 1 : Nat) : Int)) tq (.bl false), rfl, But.refl _ _, hK6, ?_, ?_, ?_⟩ (fun _ _ _ _ _ => True.intro) ?_ ?_
      · intro s' m' v hm' ev
        rw [valN_put, if_neg (lvl s' m' (by omega))] at ev
        exact hV s' m' v (by omega) ev
      · rw [valN_put, if_pos rfl]
        rfl
      · intro s' m' hm' hne
        rw [valN_put, if_neg hne]
      · rintro i y σ H7 H8 hi ⟨y6, y7, y8, y9, y10, kvs7, rfl, b7, hK7, hV7, hval7, hun7⟩ ⟨rfl, rfl⟩
        rw [List.length_map, k.rs_.1, Int.toNat_natCast, ← lR] at hi
        have k7 := k6.but hK6.at_ b7
        have et7 := tupk hK6.at_ b7 _ _ et6
        -- ends
        refine ⟨by show 2 ≤ sizeLine; decide, fun tw ntw => ⟨tw, [true, false].map V.bl, rfl, .inl (.inl upd_same), fun D nD => ?_⟩⟩
        have s8 := same_new ntw (.tup [.bl true, .bl false])
        refine lc_it walkS (fun j H9 => ∃ es, H9 D = some (.lst (es.map V.ref)) ∧ PtsAt tupI H9 es ((([true, false]).map fun z => aft R[i] z cs).take j) ∧ D ∉ es ∧ Same (upd H8 tw (.tup [.bl true, .bl false])) H9)
          ⟨[], upd_same, PtsAt.nil _, by simp, same_new nD _⟩ (fun j H9 _ ⟨_, _, _, _, s9⟩ => .inl (.inl (s9 _ _ upd_same))) ?_ ?_
        · rintro j y H9 H10 hj ⟨es, e9, p9, n9, s9⟩ ⟨rfl, hy⟩
          have hy : (([true, false] : List Bool).map V.bl)[j]? = some y := hy
          rw [List.getElem?_map] at hy
          have hj2 : j < 2 := hj
          obtain ⟨z, hz⟩ : ∃ z, ([true, false] : List Bool)[j]? = some z := ⟨[true, false][j], List.getElem?_eq_getElem hj2⟩
          rw [hz] at hy
          obtain rfl : V.bl z = y := Option.some.inj hy
          have s710 := s8.trans s9
          refine ⟨rfl, yesI ⟨_, rfl, _, rfl, _, rfl, _, rfl, _, rfl, ?_⟩⟩
          refine ⟨a, bb, as, ns, rs, L, t1, cs, i, R[i], z, (by show [V.ref a, V.ref bb, V.ref t1, V.int (0 + (i : Int)), V.bl z] = _; rw [Int.zero_add]), k7.same s710, s710 _ _ et7, lc, (by rw [hRR]; exact List.getElem?_eq_getElem hi), fun t2 H11 s11 et2 => ?_⟩
          have e11 := s11 _ _ e9
          have nt2 : D ≠ t2 := ne_of e11 et2 (fun z => nomatch z)
          refine ⟨_, e11, ?_, es ++ [t2], ?_, ?_, ?_, same_upd (s9.trans s11) nD⟩
          · rw [List.length_map, p9.1, List.length_take]
            exact small1000 (by omega)
          · rw [upd_same, map_snoc]
          · have gz : (([true, false] : List Bool).map fun z => aft R[i] z cs)[j]? = some (aft R[i] z cs) := by rw [List.getElem?_map, hz]; rfl
            rw [take_snoc gz]
            refine ((p9.same s11).mono fun c hc u ec => ?_).snoc ?_
            · rw [upd_ne (fun z => n9 (by rw [← z]; exact hc))]
              exact ec
            · rw [upd_ne nt2.symm]
              exact et2
          · rw [List.mem_append, not_or]
            exact ⟨n9, fun z => nt2 (List.mem_singleton.mp z)⟩
        · rintro H9 ⟨es, e9, p9, n9, s9⟩
          have p9 : PtsAt tupI H9 es (([true, false]).map fun z => aft R[i] z cs) := p9
          have s79 := s8.trans s9
          have hK9 := hK7.same s79
          have k9 := k7.same s79
          -- all([..])
          refine ⟨_, rfl, D, _, rfl, .inl (.inl e9), fun D2 nD2 => ?_⟩
          have nD2k : D2 ≠ kn := fun z => by rw [z, hK9.at_] at nD2; cases nD2
          have nDk : D ≠ kn := ne_of e9 hK9.at_ (fun z => nomatch z)
          refine lc_it walkS (fun j H10 => ∃ kvs10, H10 D2 = some (.lst (((([true, false] : List Bool).take j).map fun z => enough R L m (aft R[i] z cs)).map V.bl)) ∧ But [kn] H9 H10 ∧ KOk H10 kn ns.length L kvs10 ∧ Right R L m kvs10 ∧
              ∀ (s' : List Int) (m' : Nat), m < m' → valN kvs10 (s', ((m' : Nat) : Int)) = valN kvs7 (s', ((m' : Nat) : Int)))
            ⟨kvs7, upd_same, Same.but (same_new nD2 _), hK9.same (same_new nD2 _), hV7, fun _ _ _ => rfl⟩ (fun j H10 _ ⟨_, _, b10, _⟩ => .inl (.inl (b10 _ _ e9 (by simpa using nDk)))) ?_ ?_
          · rintro j y H10 H11 hj ⟨kvs10, e10, b10, hK10, hV10, hun10⟩ ⟨rfl, hy⟩
            rw [List.length_map, p9.1] at hj
            have hj2 : j < 2 := hj
            obtain ⟨z, hz⟩ : ∃ z, ([true, false] : List Bool)[j]? = some z := ⟨[true, false][j], List.getElem?_eq_getElem hj2⟩
            have gz : (([true, false] : List Bool).map fun z => aft R[i] z cs)[j]? = some (aft R[i] z cs) := by rw [List.getElem?_map, hz]; rfl
            obtain ⟨t2, g1, g2⟩ := p9.get gz
            rw [List.getElem?_map, g1] at hy
            obtain rfl : V.ref t2 = y := Option.some.inj hy
            have lr := hRw R[i] (List.getElem_mem hi)
            refine ⟨rfl, yesI ⟨_, rfl, _, rfl, _, rfl, _, rfl, _, rfl, _, _, rfl, rfl, _, rfl, ?_⟩⟩
            refine ⟨a, bb, as, ns, rs, L, t2, aft R[i] z cs, m, kn, kvs10, (by rw [← e1]; rfl), by omega, by omega, k9.but hK9.at_ b10, tupk hK9.at_ b10 _ _ g2, by rw [aft_length (by omega), lc], aft_nn bc.nn, hK10, (by rw [hRR]; exact hV10), fun kvs11 H12 b11 hK11 hV11 hun11 => ?_⟩
            rw [hRR] at hV11 ⊢
            have e12 := b11 _ _ e10 (by simpa using nD2k)
            refine ⟨_, e12, ?_, kvs11, ?_, ?_, ?_, hV11, fun s' m' h => (hun11 s' m' h).trans (hun10 s' m' h)⟩
            · rw [List.length_map, List.length_map, List.length_take]
              exact small1000 (by omega)
            · rw [upd_same, take_snoc hz, List.map_append, List.map_append]
              rfl
            · intro c u ec nc
              rw [upd_ne (ne_of_none ec nD2)]
              exact (b10.trans b11) c u ec nc
            · exact hK11.but (l := [D2]) (but_upd (by simp)) (fun a ha => by rw [List.mem_singleton.mp ha]; exact ⟨_, e12, fun xs z => (nomatch z), fun φ z => (nomatch z)⟩)
          · rintro H10 ⟨kvs10, e10, b10, hK10, hV10, hun10⟩
            rw [List.length_map, p9.1] at e10
            refine ⟨D2, [enough R L m (aft R[i] true cs), enough R L m (aft R[i] false cs)], rfl, SqL.of e10, _, rfl, ?_⟩
            have er : ([enough R L m (aft R[i] true cs), enough R L m (aft R[i] false cs)].all id) = right R L m cs R[i] := by
              unfold right
              rw [List.all_cons, List.all_cons, List.all_nil, Bool.and_true]
              rfl
            rw [er]
            have b610 : But [kn] H6 H10 := (b7.trans (Same.but s79)).trans b10
            have et10 := tupk hK6.at_ b610 _ _ et6
            have v10 : valN kvs10 (cs, ((m + 1 : Nat) : Int)) = some (.bl ((R.take i).any (right R L m cs))) := by rw [hun10 cs (m + 1) (by omega)]; exact hval7
            have an : (R.take (i + 1)).any (right R L m cs) = ((R.take i).any (right R L m cs) || right R L m cs R[i]) := by
              rw [take_snoc (List.getElem?_eq_getElem hi), List.any_append, List.any_cons, List.any_nil, Bool.or_false]
            cases er2 : right R L m cs R[i] with
            | true =>
              refine iteT ⟨_, rfl, _, rfl, _, rfl, by show 2 ≤ sizeLine; decide, fun tr ntr => ?_⟩
              have s11 := same_new ntr (.tup [.ref t1, .int ((m + 1 : Nat) : Int)])
              have hK11 := hK10.same s11
              have hNT11 : NT (upd H10 tr (.tup [.ref t1, .int ((m + 1 : Nat) : Int)])) (cs, ((m + 1 : Nat) : Int)) tr := ⟨t1, upd_same, s11 _ _ et10⟩
              refine ⟨kn, _, rfl, ⟨kvs10, _, tr, hK11.at_, hK11.ks, rfl, hNT11, hK11.few l2 (by omega), rfl⟩, ?_⟩
              refine ⟨_, _, _, _, _, putN kvs10 (cs, ((m + 1 : Nat) : Int)) tr (.bl true), rfl, (b610.trans (Same.but s11)).trans (but_upd (by simp)), hK11.put hNT11 kd (.bl true), ?_, ?_, ?_⟩
              · intro s' m' v hm' ev
                rw [valN_put, if_neg (lvl s' m' (by omega))] at ev
                exact hV10 s' m' v hm' ev
              · rw [valN_put, if_pos rfl, an, er2, Bool.or_true]
              · intro s' m' hm' hne
                rw [valN_put, if_neg hne, hun10 s' m' hm', hun7 s' m' hm' hne]
            | false =>
              refine iteF ⟨_, _, _, _, _, kvs10, rfl, b610, hK10, hV10, ?_, ?_⟩
              · rw [v10, an, er2, Bool.or_false]
              · intro s' m' hm' hne
                rw [hun10 s' m' hm', hun7 s' m' hm' hne]
      · rintro σ H7 ⟨y6, y7, y8, y9, y10, kvs7, rfl, b7, hK7, hV7, hval7, hun7⟩
        rw [List.length_map, k.rs_.1, Int.toNat_natCast, ← lR, List.take_length, ← fin] at hval7
        have b07 := b06.trans b7
        have et7 := tupk hK6.at_ b7 _ _ et6
        refine ⟨_, rfl, _, _, rfl, rfl, _, rfl, ?_⟩
        rw [decide_eq_true (show ((m + 1 : Nat) : Int) > 0 by omega)]
        refine iteT ⟨_, rfl, _, rfl, _, rfl, by show 2 ≤ sizeLine; decide, fun tr ntr => ?_⟩
        have s8 := same_new ntr (.tup [.ref t1, .int ((m + 1 : Nat) : Int)])
        refine ⟨kn, .bl (enough R L (m + 1) x), rfl, ?_, q kvs7 _ (b07.trans (Same.but s8)) (hK7.same s8) ?_ ?_⟩
        · rw [← hval7]
          exact (hK7.same s8).get ⟨t1, upd_same, s8 _ _ et7⟩
        · intro s' m' v hm' ev
          by_cases q1 : m' ≤ m
          · exact hV7 s' m' v q1 ev
          · have em : m' = m + 1 := by omega
            subst em
            by_cases q2 : s' = cs
            · subst q2
              rw [hval7] at ev
              rw [ec]
              exact (Option.some.inj ev).symm
            · rw [hun7 s' (m + 1) (by omega) (fun z => q2 (by injection z))] at ev
              exact hV s' (m + 1) v (by omega) ev
        · intro s' m' hm'
          exact hun7 s' m' (by omega) (lvl s' m' (by omega))
theorem m_enough_all {f f1 f2 : Addr} {fd d1 d2 : FuncData} (T : BI mg) (D_m_left : DefAt K mg "_law_m_left" sMLeft ["_law_names", "_law_state", "_law_lies"] f1 d1)
    (D_m_after : DefAt K mg "_law_m_after" sMAfter ["_law_names", "_law_askings", "_law_state", "_law_index", "_law_answer"] f2 d2)
    (D_m_is_enough : DefAt K mg "_law_m_is_enough" sMEnough ["_law_names", "_law_askings", "_law_lies", "_law_state", "_law_many", "_law_known"] f fd) : ∀ b : Nat,
    FnOk P w K mg base CX0 (b + 1) f fd ["_law_names", "_law_askings", "_law_lies", "_law_state", "_law_many", "_law_known"] (spMEnough b)
  | 0 => fn_never fun vs H Q E h => by
    obtain ⟨a, bb, as, ns, rs, L, st, s, m, kn, kvs, _, hm, _⟩ := h
    omega
  | b + 1 => ok_m_is_enough D_m_is_enough.F T D_m_left D_m_after D_m_is_enough (m_enough_all T D_m_left D_m_after D_m_is_enough b)
end
end P81
end
section
set_option Elab.async false
set_option linter.all false
set_option maxRecDepth 100000
set_option maxHeartbeats 4000000
namespace P81
open PySem PySem.Spec PyProof.Rows L2 ZG NK
def col (rs : List (List Str)) (n : Str) : List Bool := rs.map fun row => decide (n ∈ row)
def datB (bs : List Bool) : PyData := .list (bs.map .bool)
theorem eqv_bools : ∀ bs cs : List Bool, PyData.eqvAll (bs.map .bool) (cs.map .bool) = decide (bs = cs)
  | [], [] => by simp [PyData.eqvAll]
  | [], _ :: _ => by simp [PyData.eqvAll]
  | _ :: _, [] => by simp [PyData.eqvAll]
  | b :: bs, c :: cs => by
    have ih := eqv_bools bs cs
    simp only [List.map_cons, PyData.eqvAll, ih, PyData.eqv]
    by_cases h : bs = cs <;> cases b <;> cases c <;> simp [h]
theorem datB_eqv (bs cs : List Bool) : PyData.eqv (datB bs) (datB cs) = decide (bs = cs) := by
  unfold datB
  simp only [PyData.eqv]
  exact eqv_bools bs cs
theorem bools_lay : ∀ bs : List Bool, PyData.canLayAll0 (bs.map .bool) = true
  | [] => by simp [PyData.canLayAll0]
  | b :: bs => by simp [PyData.canLayAll0, PyData.canLay0, bools_lay bs]
theorem bools_depth : ∀ bs : List Bool, PyData.depthAll (bs.map .bool) ≤ 0
  | [] => by simp [PyData.depthAll]
  | b :: bs => by
    have := bools_depth bs
    simp only [List.map_cons, PyData.depthAll, PyData.depth]
    omega
theorem datB_shaped (bs : List Bool) : SeqAt.shaped (datB bs) = true := by
  have h1 := bools_depth bs
  show (PyData.canLay0 (datB bs) && decide (PyData.depth (datB bs) ≤ 64)) = true
  rw [Bool.and_eq_true]
  refine ⟨by simp only [datB, PyData.canLay0]; exact bools_lay bs, decide_eq_true ?_⟩
  simp only [datB, PyData.depth]
  omega
theorem datBs_lay : ∀ bss : List (List Bool), PyData.canLayAll0 (bss.map datB) = true
  | [] => by simp [PyData.canLayAll0]
  | b :: bs => by
    have h := bools_lay b
    simp [PyData.canLayAll0, datB, PyData.canLay0, h, datBs_lay bs]
theorem datBs_depth : ∀ bss : List (List Bool), PyData.depthAll (bss.map datB) ≤ 1
  | [] => by simp [PyData.depthAll]
  | b :: bs => by
    have h1 := bools_depth b
    have h2 := datBs_depth bs
    simp only [List.map_cons, PyData.depthAll]
    have h3 : PyData.depth (datB b) ≤ 1 := by
      simp only [datB, PyData.depth]
      omega
    omega
theorem datBs_shaped (bss : List (List Bool)) : SeqAt.shaped (.list (bss.map datB)) = true := by
  have h1 := datBs_depth bss
  show (PyData.canLay0 (.list (bss.map datB)) && decide (PyData.depth (.list (bss.map datB)) ≤ 64)) = true
  rw [Bool.and_eq_true]
  refine ⟨by simp only [PyData.canLay0]; exact datBs_lay bss, decide_eq_true ?_⟩
  simp only [PyData.depth]
  omega
theorem any_datB (bss : List (List Bool)) (bs : List Bool) : ((bss.map datB).any fun z => PyData.eqv z (datB bs)) = decide (bs ∈ bss) := by
  induction bss with
  | nil => simp
  | cons b r ih =>
    rw [List.map_cons, List.any_cons, ih, datB_eqv]
    by_cases h1 : b = bs
    · simp [h1]
    · have h2 : bs ≠ b := fun z => h1 z.symm
      simp [h1, h2, List.mem_cons]
theorem dp_bools {K : PySem.W.Frag} {H : Hp} : ∀ bs : List Bool, DpAll K H (bs.map V.bl) (bs.map .bool)
  | [] => .nil
  | b :: bs => .cons (.bl b) (dp_bools bs)
theorem dp_rows {K : PySem.W.Frag} {H : Hp} : ∀ {as : List Addr} {bss : List (List Bool)}, PtsAt bools H as bss → DpAll K H (as.map V.ref) (bss.map datB)
  | [], [], _ => .nil
  | [], _ :: _, h => by have := h.1; simp at this
  | _ :: _, [], h => by have := h.1; simp at this
  | a :: as, b :: bs, h => .cons (.lst (SqL.of (h.2 0 a b rfl rfl)) (dp_bools b)) (dp_rows ⟨by have := h.1; simpa using this, fun i c r h1 h2 => h.2 (i + 1) c r (by simpa using h1) (by simpa using h2)⟩)
theorem PtsAt.take {β : Type} {g : β → HO} {H : Hp} {as : List Addr} {rs : List β} (h : PtsAt g H as rs) (k : Nat) : PtsAt g H (as.take k) (rs.take k) := by
  refine ⟨by rw [List.length_take, List.length_take, h.1], fun i a r h1 h2 => ?_⟩
  rw [List.getElem?_take] at h1 h2
  split at h1
  · rw [if_pos ‹_›] at h2
    exact h.2 i a r h1 h2
  · cases h1
/-- the columns of the names still left -/
def cols (rs : List (List Str)) (L : Int) (ns : List Str) (s : List Int) : List (List Bool) := (leftNames L ns s).map (col rs)
theorem cols_pair {rs : List (List Str)} {L : Int} {ns : List Str} {s : List Int} (lx : s.length = ns.length) :
    (cols rs L ns s).Pairwise (· ≠ ·) ↔ ∀ (i j : Nat) (x y : Int) (n n' : Str), i < j → s[i]? = some x → s[j]? = some y → ns[i]? = some n → ns[j]? = some n' → x ≤ L → y ≤ L → col rs n ≠ col rs n' := by
  unfold cols leftNames
  rw [List.map_map, List.pairwise_map, List.pairwise_filter, List.pairwise_iff_getElem]
  constructor
  · intro h i j x y n n' hij h1 h2 h3 h4 h5 h6
    have e1 : (ns.zip s)[i]? = some (n, x) := List.getElem?_zip_eq_some.mpr ⟨h3, h1⟩
    have e2 : (ns.zip s)[j]? = some (n', y) := List.getElem?_zip_eq_some.mpr ⟨h4, h2⟩
    obtain ⟨l1, g1⟩ := List.getElem?_eq_some_iff.mp e1
    obtain ⟨l2, g2⟩ := List.getElem?_eq_some_iff.mp e2
    have z := h i j l1 l2 hij
    rw [g1, g2] at z
    exact z (by simpa using h5) (by simpa using h6)
  · intro h i j l1 l2 hij p1 p2
    have e1 := List.getElem?_eq_getElem l1
    have e2 := List.getElem?_eq_getElem l2
    generalize (ns.zip s)[i] = u at e1 p1
    generalize (ns.zip s)[j] = v at e2 p2
    obtain ⟨h3, h1⟩ := List.getElem?_zip_eq_some.mp e1
    obtain ⟨h4, h2⟩ := List.getElem?_zip_eq_some.mp e2
    exact h i j u.2 v.2 u.1 v.1 hij h1 h2 h3 h4 (by simpa using p1) (by simpa using p2)
theorem parts_of {rs : List (List Str)} {L : Int} {ns : List Str} {s : List Int} (lx : s.length = ns.length) (h : (cols rs L ns s).Pairwise (· ≠ ·)) : Parts (signsOf ns rs) L s := by
  rw [cols_pair lx] at h
  intro i j x y hij h1 h2 h3 h4
  have l1 := (List.getElem?_eq_some_iff.mp h1).1
  have l2 := (List.getElem?_eq_some_iff.mp h2).1
  have g1 : ns[i]? = some ns[i] := List.getElem?_eq_getElem (by omega)
  have g2 : ns[j]? = some ns[j] := List.getElem?_eq_getElem (by omega)
  have z := h i j x y _ _ hij h1 h2 g1 g2 h3 h4
  by_cases q : ∃ row ∈ rs, decide (ns[i] ∈ row) ≠ decide (ns[j] ∈ row)
  · obtain ⟨row, hrow, ne⟩ := q
    refine ⟨ns.map fun n => decide (n ∈ row), List.mem_map.mpr ⟨row, hrow, rfl⟩, _, _, ?_, ?_, ne⟩
    · rw [List.getElem?_map, g1]; rfl
    · rw [List.getElem?_map, g2]; rfl
  · refine absurd ?_ z
    unfold col
    refine List.map_congr_left fun row hrow => ?_
    by_cases c : decide (ns[i] ∈ row) = decide (ns[j] ∈ row)
    · exact c
    · exact absurd ⟨row, hrow, c⟩ q
theorem none_of {rs : List (List Str)} {L : Int} {ns : List Str} {s : List Int} (lx : s.length = ns.length) (h : ¬ (cols rs L ns s).Pairwise (· ≠ ·)) : fewest (signsOf ns rs) L s = none := by
  rw [cols_pair lx] at h
  by_cases q : ∃ (i j : Nat) (x y : Int) (n n' : Str), i < j ∧ s[i]? = some x ∧ s[j]? = some y ∧ ns[i]? = some n ∧ ns[j]? = some n' ∧ x ≤ L ∧ y ≤ L ∧ col rs n = col rs n'
  · obtain ⟨i, j, x, y, n, n', hij, h1, h2, h3, h4, h5, h6, h7⟩ := q
    refine fewest_never hij (fun r hr => ?_) h1 h2 h5 h6
    obtain ⟨row, hrow, rfl⟩ := List.mem_map.mp hr
    have c : decide (n ∈ row) = decide (n' ∈ row) := by
      obtain ⟨k, hk, ek⟩ := List.getElem_of_mem hrow
      have z : (col rs n)[k]? = (col rs n')[k]? := by rw [h7]
      unfold col at z
      rw [List.getElem?_map, List.getElem?_map, List.getElem?_eq_getElem hk, ek] at z
      exact Option.some.inj z
    refine ⟨decide (n ∈ row), ?_, ?_⟩
    · rw [List.getElem?_map, h3]; rfl
    · rw [List.getElem?_map, h4, c]; rfl
  · refine absurd (fun i j x y n n' hij h1 h2 h3 h4 h5 h6 h7 => q ⟨i, j, x, y, n, n', hij, h1, h2, h3, h4, h5, h6, h7⟩) h
theorem pair_snoc {bss : List (List Bool)} {i : Nat} {b : List Bool} (h : bss[i]? = some b) : (bss.take (i + 1)).Pairwise (· ≠ ·) ↔ (bss.take i).Pairwise (· ≠ ·) ∧ b ∉ bss.take i := by
  rw [take_snoc h, List.pairwise_append]
  constructor
  · rintro ⟨h1, _, h3⟩
    exact ⟨h1, fun z => h3 b z b (by simp) rfl⟩
  · rintro ⟨h1, h2⟩
    exact ⟨h1, by simp, fun a ha c hc e => by rw [List.mem_singleton.mp hc] at e; exact h2 (e ▸ ha)⟩
theorem opInD {X : Cx} (K : PySem.W.Frag) (hu : X.A.units + 65 < cLine) (hk : X.K = K := by rfl) : OpR X (compareOp .In) (rInD K) := by subst hk; exact op_inD hu
theorem hu65_of {A : Around} {k : Nat} (hr : Room k A) : A.units + 65 < cLine := by have := hr.un; omega
end P81
end
section
set_option Elab.async false
set_option linter.all false
set_option maxRecDepth 100000
set_option maxHeartbeats 4000000
namespace P81
open PySem PySem.Spec PyProof.Rows L2 ZG NK
section
variable {P : Program} {w : World} {K : PySem.W.Frag} {mg : Str → Option Value} {base : Heap}
theorem KOk.mt {H : Hp} {p : Addr} {n : Nat} {L : Int} (e : H p = some (dN p [])) : KOk H p n L [] := KOk.new e
theorem scMFewest : FnScope ["_law_names", "_law_askings", "_law_lies", "_law_state", "_law_left", "_law_known", "_law_signs", "_law_many", "_law_name", "_law_row", "_law_at", "_law_sign"] ["_law_names", "_law_askings", "_law_lies", "_law_state"] (defScope sMFewest) := ⟨rfl, rfl, rfl, by decide +kernel, rfl, by decide +kernel, by decide +kernel⟩
def spMFewest : Sp := fun vs H Q _ => ∃ a bb as ns rs L st s, vs = [.ref a, .ref bb, .int L, .ref st] ∧ Ask H a bb false as ns rs L ∧ H st = some (tupI s) ∧ s.length = ns.length ∧ (∀ x ∈ s, 0 ≤ x) ∧
  ∀ H', Same H H' → Q (optV (fewest (signsOf ns rs) L s)) H'
theorem ok_m_fewest {f f1 f2 f3 : Addr} {fd d1 d2 d3 : FuncData} (F : Fun K "_law_m_fewest" "_law_m_fewest" sMFewest f fd) (T : BI mg) (D_m_left : DefAt K mg "_law_m_left" sMLeft ["_law_names", "_law_state", "_law_lies"] f1 d1)
    (D_m_after : DefAt K mg "_law_m_after" sMAfter ["_law_names", "_law_askings", "_law_state", "_law_index", "_law_answer"] f2 d2)
    (D_m_is_enough : DefAt K mg "_law_m_is_enough" sMEnough ["_law_names", "_law_askings", "_law_lies", "_law_state", "_law_many", "_law_known"] f3 d3) :
    FnOk P w K mg base CX0 15 f fd ["_law_names", "_law_askings", "_law_lies", "_law_state"] spMFewest := by
  have G_m_left : FnOk P w K mg base CX0 1 f1 d1 ["_law_names", "_law_state", "_law_lies"] spMLeft := ok_m_left D_m_left.F T
  have G_m_is_enough : FnOk P w K mg base CX0 14 f3 d3 ["_law_names", "_law_askings", "_law_lies", "_law_state", "_law_many", "_law_known"] (spMEnough 13) := m_enough_all T D_m_left D_m_after D_m_is_enough 13
  refine F.ok scMFewest (fun vs H Q E h => ?_) (fun cdv A outer s H vs Q E hr h => ?_)
  · obtain ⟨a, bb, as, ns, rs, L, st, s, rfl, _⟩ := h
    rfl
  obtain ⟨a, bb, as, ns, rs, L, st, x, rfl, k, hx, lx, nx, q⟩ := h
  have hr1 : Room 1 _ := hr.mono (by decide)
  have hu65 := hu65_of hr
  have l2 := k.l2
  have hL := k.hL
  have r2 := k.r2
  refine ⟨_, pss_cons (ps_par (i := 4) (j := 5) (by rfl) scMFewest.nd rfl rfl (by decide) rfl rfl (pa_cons (pe_call G_m_left hr1 (by rfl) D_m_left.g D_m_left.F.kp D_m_left.b .nil pass0 (pa_cons (pv 0) (pa_cons (pv 3) (pa_cons (pv 2) pa_nil)))) (pa_cons pe_nnew pa_nil)) (by rfl))
    (pss_cons (ps_set (i := 6) scMFewest.nd rfl (.inr rfl) (pe_lc (own := [("_law_name", 8)]) (g := (gName 8)) (tt := tYes) rfl scMFewest.nd (pseq K false (pv 4)) (blkOk_by (N := ["_law_names", "_law_askings", "_law_lies", "_law_state", "_law_left", "_law_known", "_law_signs", "_law_many", "_law_name", "_law_row", "_law_at", "_law_sign"]) (sc := (defScope sMFewest)) (by decide +kernel))
        (fun _ _ _ _ _ => (pg_name (i := 8) scMFewest.nd rfl (.inr rfl))) (fun _ _ _ _ _ => pts_nil)
        (fun _ _ _ _ _ => (pe_lc (own := [("_law_row", 9)]) (g := (gName 9)) (tt := tYes) rfl scMFewest.nd (pseq K false (pv 1)) (blkOk_by (N := ["_law_names", "_law_askings", "_law_lies", "_law_state", "_law_left", "_law_known", "_law_signs", "_law_many", "_law_name", "_law_row", "_law_at", "_law_sign"]) (sc := (relS (lcScope (asgVal (stAt sMFewest 1))) (defScope sMFewest))) (by decide +kernel))
        (fun _ _ _ _ _ => (pg_name (i := 9) scMFewest.nd rfl (.inl rfl))) (fun _ _ _ _ _ => pts_nil)
        (fun _ _ _ _ _ => (pe_cmpR (opIn K) (pv 8) (pv 9) rfl))))))
    (pss_cons (ps_if (pt_val (pe_callB (cr_any rfl) (by rfl) T.any (by decide +kernel) (pa_cons (pe_lc (own := [("_law_at", 10), ("_law_sign", 11)]) (g := (gTup K 2 (gCons (gName 10) (gCons (gName 11) gNil)))) (tt := tYes) rfl scMFewest.nd (pi_enumG false (by rfl) T.enumerate (pa_cons (pv 6) pa_nil)) (blkOk_by (N := ["_law_names", "_law_askings", "_law_lies", "_law_state", "_law_left", "_law_known", "_law_signs", "_law_many", "_law_name", "_law_row", "_law_at", "_law_sign"]) (sc := (defScope sMFewest)) (by decide +kernel))
        (fun _ _ _ _ _ => (pg_tup (by rfl) (pgs_cons (pg_name (i := 10) scMFewest.nd rfl (.inl rfl)) (pgs_cons (pg_name (i := 11) scMFewest.nd rfl (.inl rfl)) pgs_nil)))) (fun _ _ _ _ _ => pts_nil)
        (fun _ _ _ _ _ => (pe_cmpR (opInD K hu65) (pv 11) (pe_slice (slL K) (pv 6) po_none (po_some (pv 10))) rfl))) pa_nil)))
      (pss_one (ps_ret pe_non)) pss_nil)
    (pss_cons (ps_set (i := 7) scMFewest.nd rfl (.inl rfl) pe_int)
    (pss_cons (ps_while PassesOwn.never (pt_not (pt_val (pe_call G_m_is_enough hr (by rfl) D_m_is_enough.g D_m_is_enough.F.kp D_m_is_enough.b .nil pass0 (pa_cons (pv 0) (pa_cons (pv 1) (pa_cons (pv 2) (pa_cons (pv 3) (pa_cons (pv 7) (pa_cons (pv 5) pa_nil)))))))))
      (pss_one (ps_set (i := 7) scMFewest.nd rfl (.inl rfl) (pe_op op_add (pv 7) pe_int))))
    (pss_one (ps_ret (pv 7))))))), ?_⟩
  have tl : topN L x ≤ 12 := top_le hL (by omega)
  refine ⟨_, rfl, _, rfl, _, rfl, a, ns, st, x, L, rfl, k.ha, hx, lx, by omega, fun l H1 s1 nl el => ?_⟩
  intro kn nk
  have el2 : (upd H1 kn (dN kn [])) l = some (.lst ((leftNames L ns x).map V.str)) := by rw [upd_ne (ne_of_none el nk)]; exact el
  have s2 : Same H (upd H1 kn (dN kn [])) := s1.trans (same_new nk _)
  have ek : (upd H1 kn (dN kn [])) kn = some (dN kn []) := upd_same
  generalize hH2 : upd H1 kn (dN kn []) = H2 at el2 s2 ek ⊢
  refine ⟨_, _, rfl, ?_⟩
  have lln : (leftNames L ns x).length ≤ 4 := by
    rw [leftNames_len L lx.symm]
    unfold leftN
    have := List.length_filter_le (fun x : Int => decide (x ≤ L)) x
    omega
  refine ⟨_, rfl, l, _, rfl, .inl (.inl el2), fun D nD => ?_⟩
  -- the columns
  refine lc_it walkS (fun j H3 => ∃ ss, H3 D = some (.lst (ss.map V.ref)) ∧ PtsAt bools H3 ss ((cols rs L ns x).take j) ∧ D ∉ ss ∧ Same H2 H3) ⟨[], upd_same, PtsAt.nil _, by simp, same_new nD _⟩ (fun j H3 _ ⟨_, _, _, _, s3⟩ => .inl (.inl (s3 _ _ el2))) ?_ ?_
  · rintro j y H3 H4 hj ⟨ss, eD, pt, nin, s3⟩ ⟨rfl, hy⟩
    rw [List.length_map] at hj
    rw [List.getElem?_map, List.getElem?_eq_getElem hj] at hy
    obtain rfl : V.str (leftNames L ns x)[j] = y := Option.some.inj hy
    have k3 := k.same (s2.trans s3)
    refine ⟨rfl, yesI ⟨_, rfl, bb, _, rfl, sq_Sq (t := false) k3.hb, fun D2 nD2 => ?_⟩⟩
    have hcol : (cols rs L ns x)[j]? = some (col rs (leftNames L ns x)[j]) := by unfold cols; rw [List.getElem?_map, List.getElem?_eq_getElem hj]; rfl
    refine lc_it walkS (fun i H5 => H5 D2 = some (bools ((col rs (leftNames L ns x)[j]).take i)) ∧ Same H4 H5) ⟨upd_same, same_new nD2 _⟩ (fun i H5 _ ⟨_, s5⟩ => sq_Sq (t := false) (s5 _ _ k3.hb)) ?_ ?_
    · rintro i y H5 H6 hi ⟨eD2, s5⟩ ⟨rfl, hy⟩
      rw [List.length_map] at hi
      obtain ⟨c, row, hc, hrow, hH⟩ := k3.rs_.at hi
      rw [List.getElem?_map, hc] at hy
      obtain rfl : V.ref c = y := Option.some.inj hy
      refine ⟨rfl, yesI ⟨_, rfl, _, rfl, c, _, rfl, .inl (SqL.of (s5 _ _ hH)), rfl, flat_strs row, ?_⟩⟩
      rw [if_neg Bool.false_ne_true, inV_str]
      have gc : (col rs (leftNames L ns x)[j])[i]? = some (decide ((leftNames L ns x)[j] ∈ row)) := by unfold col; rw [List.getElem?_map, hrow]; rfl
      refine ⟨_, eD2, ?_, ?_, same_upd s5 nD2⟩
      · rw [List.length_map, List.length_take]
        exact small1000 (by have : as.length = rs.length := k.rs_.1; omega)
      · rw [upd_same, take_snoc gc, bools, List.map_append]
        rfl
    · rintro H5 ⟨eD2, s5⟩
      have lc : (col rs (leftNames L ns x)[j]).length = (as.map V.ref).length := by unfold col; rw [List.length_map, List.length_map, k.rs_.1]
      rw [← lc, List.take_length] at eD2
      have nDD : D2 ≠ D := fun z => by rw [z, eD] at nD2; cases nD2
      refine ⟨_, s5 _ _ eD, ?_, ss ++ [D2], ?_, ?_, ?_, same_upd (s3.trans s5) nD⟩
      · rw [List.length_map, pt.1, List.length_take]
        exact small1000 (by omega)
      · rw [upd_same, List.map_append]
        rfl
      · rw [take_snoc hcol]
        refine ((pt.same s5).snoc eD2).mono fun a ha o e => ?_
        rw [upd_ne]
        · exact e
        · intro z
          rw [z] at ha
          rcases List.mem_append.mp ha with z2 | z2
          · exact nin z2
          · exact nDD (List.mem_singleton.mp z2).symm
      · intro z
        rcases List.mem_append.mp z with z2 | z2
        · exact nin z2
        · exact nDD (List.mem_singleton.mp z2).symm
  rintro H3 ⟨ss, eD, pt, nin, s3⟩
  have lC : (cols rs L ns x).length = ((leftNames L ns x).map V.str).length := by unfold cols; rw [List.length_map, List.length_map]
  have lC4 : (cols rs L ns x).length ≤ 4 := by rw [lC, List.length_map]; exact lln
  rw [← lC, List.take_length] at pt
  have lss : ss.length = (cols rs L ns x).length := pt.1
  have ek3 := s3 _ _ ek
  have s03 := s2.trans s3
  -- any equal before it?
  refine ⟨_, rfl, D, _, rfl, sq_Sq (t := false) eD, fun D3 nD3 => ?_⟩
  refine lc_it walkE (fun j H4 => ∃ bs : List Bool, H4 D3 = some (bools bs) ∧ bs.length = j ∧ (bs.any id = true ↔ ¬ ((cols rs L ns x).take j).Pairwise (· ≠ ·)) ∧ Same H3 H4) ⟨[], upd_same, rfl, by simp, same_new nD3 _⟩ (fun j H4 _ ⟨_, _, _, _, s4⟩ => sq_Sq (t := false) (s4 _ _ eD)) ?_ ?_
  · rintro j y H4 H5 hj ⟨bs, eD3, lbs, hbs, s4⟩ ⟨Tp, x1, x2, rfl, nT, rfl, g1, g2⟩
    rw [List.length_map] at hj
    obtain ⟨c, r, hc, hr2, hH⟩ := pt.at hj
    have g2 : (ss.map V.ref)[j]? = some x2 := g2
    rw [List.getElem?_map, hc] at g2
    obtain rfl := Option.some.inj g1
    obtain rfl : V.ref c = x2 := Option.some.inj g2
    have s5 := s4.trans (same_new nT (.tup [.int (j : Nat), .ref c]))
    have hD5 : (upd H4 Tp (.tup [.int (j : Nat), .ref c])) D3 = some (bools bs) := by rw [upd_ne (ne_of_none eD3 nT)]; exact eD3
    refine ⟨Tp, _, rfl, .inl (.inl upd_same), rfl, _, _, rfl, _, _, rfl, rfl, rfl, yesI ?_⟩
    refine ⟨_, rfl, .ref D, rfl, _, rfl, _, rfl, D, _, rfl, SqL.of (s5 _ _ eD), fun p np => ?_⟩
    have s6 := s5.trans (same_new np (.lst (cutV (ss.map V.ref) none (some ((j : Nat) : Int)))))
    have hD6 := same_new np (.lst (cutV (ss.map V.ref) none (some ((j : Nat) : Int)))) _ _ hD5
    have e6 : (upd (upd H4 Tp (.tup [.int (j : Nat), .ref c])) p (.lst (cutV (ss.map V.ref) none (some ((j : Nat) : Int))))) p = some (.lst ((ss.take j).map V.ref)) := by
      rw [upd_same, cut_to _ _ (by rw [List.length_map]; omega), ← List.map_take]
    refine ⟨datB r, ((cols rs L ns x).take j).map datB, .lst (SqL.of (s6 _ _ hH)) (dp_bools r), .lst (SqL.of e6) (dp_rows ((pt.take j).same s6)), datB_shaped r, datBs_shaped _, ?_⟩
    rw [any_datB]
    refine ⟨_, hD6, ?_, bs ++ [decide (r ∈ (cols rs L ns x).take j)], ?_, ?_, ?_, same_upd s6 nD3⟩
    · rw [List.length_map]
      exact small1000 (by omega)
    · rw [upd_same, bools, List.map_append]
      rfl
    · rw [List.length_append, lbs]
      rfl
    · rw [List.any_append, Bool.or_eq_true, hbs, pair_snoc hr2, List.any_cons, List.any_nil, Bool.or_false, Classical.not_and_iff_not_or_not, Classical.not_not]
      exact or_congr Iff.rfl (by show decide _ = true ↔ _; rw [decide_eq_true_eq])
  rintro H4 ⟨bs, eD3, lbs, hbs, s4⟩
  rw [List.length_map, lss, List.take_length] at hbs
  have s04 := s03.trans s4
  have ek4 := s4 _ _ ek3
  refine ⟨D3, _, rfl, SqL.of eD3, _, rfl, ?_⟩
  cases c : bs.any id with
  | true =>
    refine iteT ?_
    have z := q H4 s04
    rw [none_of lx (hbs.mp c)] at z
    exact z
  | false =>
    have pw : (cols rs L ns x).Pairwise (· ≠ ·) := by
      by_cases z : (cols rs L ns x).Pairwise (· ≠ ·)
      · exact z
      · rw [hbs.mpr z] at c; cases c
    obtain ⟨m, hm⟩ := fewest_parts (by omega) nx (parts_of lx pw)
    obtain ⟨lst, lm⟩ := fewest_least hm
    refine iteF ?_
    -- the loop
    have hkn : H kn = none := by
      cases z : H kn with
      | none => rfl
      | some o =>
        rw [s1 _ _ z] at nk; cases nk
    have sm : ∀ {H6 : Hp}, But [kn] H H6 → Same H H6 := fun {H6} b c o ec => b c o ec fun z => by
      rw [List.mem_singleton.mp z, hkn] at ec; cases ec
    refine ⟨fun d σ H5 => ∃ i kvs y8 y9 y10 y11, d = m - i ∧ i ≤ m ∧ σ = [some (.ref a), some (.ref bb), some (.int L), some (.ref st), some (.ref l), some (.ref kn), some (.ref D), some (.int ((i : Nat) : Int)), y8, y9, y10, y11] ∧
      But [kn] H4 H5 ∧ KOk H5 kn ns.length L kvs ∧ Right (signsOf ns rs) L 13 kvs ∧ ∀ (s' : List Int) (m' : Nat), i ≤ m' → valN kvs (s', ((m' : Nat) : Int)) = none, ⟨_, 0, [], none, none, none, none, rfl, Nat.zero_le _, rfl, But.refl _ _, KOk.mt ek4, Right.nil, fun _ _ _ => rfl⟩, ?_⟩
    rintro d σ H5 ⟨i, kvs, y8, y9, y10, y11, rfl, hi, rfl, b5, hK5, hV5, hun⟩
    have b05 := (Same.but s04 : But [kn] H H4).trans b5
    have k4 := k.same s04
    have k5 : Ask H5 a bb false as ns rs L := k4.but ek4 b5
    have hx5 : H5 st = some (tupI x) := tups_of_but b5 (fun c hc => by rw [List.mem_singleton.mp hc]; exact ⟨_, ek4, fun xs z => nomatch z⟩) _ _ (s04 _ _ hx)
    refine ⟨_, rfl, _, rfl, _, rfl, _, rfl, _, rfl, _, rfl, a, bb, as, ns, rs, L, st, x, i, kn, kvs, rfl, by omega, by decide, k5, hx5, lx, nx, hK5, hV5.mono (by omega), fun kvs6 H6 b6 hK6 hV6 hun6 => ?_⟩
    refine ⟨_, rfl, ?_⟩
    cases e : enough (signsOf ns rs) L i x with
    | true =>
      have em : i = m := by
        by_cases z : i < m
        · rw [lst.2 i z] at e; cases e
        · omega
      subst em
      refine iteF ⟨_, rfl, ?_⟩
      have z := q H6 (sm (b05.trans b6))
      rw [hm] at z
      exact z
    | false =>
      have im : i ≠ m := fun z => by rw [z, lst.1] at e; cases e
      refine iteT ⟨fun (σ : L2.St) (H5 : Hp) => ∃ d, d < m - i ∧ (∃ j kvs y8 y9 y10 y11, d = m - j ∧ j ≤ m ∧ σ = [some (.ref a), some (.ref bb), some (.int L), some (.ref st), some (.ref l), some (.ref kn), some (.ref D), some (.int ((j : Nat) : Int)), y8, y9, y10, y11] ∧ But [kn] H4 H5 ∧ KOk H5 kn ns.length L kvs ∧ Right (signsOf ns rs) L 13 kvs ∧ ∀ (s' : List Int) (m' : Nat), j ≤ m' → valN kvs (s', ((m' : Nat) : Int)) = none), ?_, ⟨_, rfl, _, _, rfl, rfl, ?_⟩⟩
      · intro σ' H' hN
        exact hN
      · refine ⟨m - (i + 1), by omega, i + 1, kvs6, y8, y9, y10, y11, rfl, by omega, ?_, b5.trans b6, hK6, ?_, ?_⟩
        · show _ = [some (V.ref a), some (V.ref bb), some (V.int L), some (V.ref st), some (V.ref l), some (V.ref kn), some (V.ref D), some (V.int ((i : Int) + 1)), y8, y9, y10, y11]
          rfl
        · intro s' m' v hm' ev
          by_cases z : m' ≤ i
          · exact hV6 s' m' v z ev
          · rw [hun6 s' m' (by omega), hun s' m' (by omega)] at ev
            cases ev
        · intro s' m' hm'
          rw [hun6 s' m' (by omega)]
          exact hun s' m' (by omega)
theorem scDue : FnScope ["_law_names", "_law_askings", "_law_lies", "_law_state", "_law_few", "_law_index", "_law_ends", "_law_answer", "_law_end"] ["_law_names", "_law_askings", "_law_lies", "_law_state"] (defScope sDue) := ⟨rfl, rfl, rfl, by decide +kernel, rfl, by decide +kernel, by decide +kernel⟩
def spDue : Sp := fun vs H Q _ => ∃ a bb as ns rs L st s, vs = [.ref a, .ref bb, .int L, .ref st] ∧ Ask H a bb false as ns rs L ∧ H st = some (tupI s) ∧ s.length = ns.length ∧ (∀ x ∈ s, 0 ≤ x) ∧
  ∀ H', Same H H' → Q (optV (nextI (signsOf ns rs) L s)) H'
theorem but_new {H H1 H2 : Hp} {kn : Addr} (nk : H kn = none) (s : Same H H1) (b : But [kn] H1 H2) : Same H H2 := fun c o ec => b c o (s c o ec) fun z => by
  rw [List.mem_singleton.mp z, nk] at ec; cases ec
theorem none_back {H H1 : Hp} {p : Addr} (s : Same H H1) (n : H1 p = none) : H p = none := by
  cases z : H p with
  | none => rfl
  | some o => rw [s _ _ z] at n; cases n
theorem find_at {f : List Bool → Bool} {R : List (List Bool)} {i : Nat} {r : List Bool} (h : R[i]? = some r) (no : ∀ (j : Nat) (q : List Bool), j < i → R[j]? = some q → f q = false) (y : f r = true) : R.findIdx? f = some i := by
  obtain ⟨hl, e⟩ := List.getElem?_eq_some_iff.mp h
  rw [List.findIdx?_eq_some_iff_getElem]
  exact ⟨hl, by rw [e]; exact y, fun j hj => by rw [no j _ hj (List.getElem?_eq_getElem (by omega))]; exact Bool.false_ne_true⟩
theorem ok_due {f f1 f2 f3 f4 : Addr} {fd d1 d2 d3 d4 : FuncData} (F : Fun K "_law_due" "_law_due" sDue f fd) (T : BI mg) (D_m_left : DefAt K mg "_law_m_left" sMLeft ["_law_names", "_law_state", "_law_lies"] f1 d1)
    (D_m_after : DefAt K mg "_law_m_after" sMAfter ["_law_names", "_law_askings", "_law_state", "_law_index", "_law_answer"] f2 d2)
    (D_m_is_enough : DefAt K mg "_law_m_is_enough" sMEnough ["_law_names", "_law_askings", "_law_lies", "_law_state", "_law_many", "_law_known"] f3 d3)
    (D_m_fewest : DefAt K mg "_law_m_fewest" sMFewest ["_law_names", "_law_askings", "_law_lies", "_law_state"] f4 d4) :
    FnOk P w K mg base CX0 16 f fd ["_law_names", "_law_askings", "_law_lies", "_law_state"] spDue := by
  have G_m_after : FnOk P w K mg base CX0 1 f2 d2 ["_law_names", "_law_askings", "_law_state", "_law_index", "_law_answer"] spMAfter := ok_m_after D_m_after.F T
  have G_m_is_enough : FnOk P w K mg base CX0 14 f3 d3 ["_law_names", "_law_askings", "_law_lies", "_law_state", "_law_many", "_law_known"] (spMEnough 13) := m_enough_all T D_m_left D_m_after D_m_is_enough 13
  have G_m_fewest : FnOk P w K mg base CX0 15 f4 d4 ["_law_names", "_law_askings", "_law_lies", "_law_state"] spMFewest := ok_m_fewest D_m_fewest.F T D_m_left D_m_after D_m_is_enough
  refine F.ok scDue (fun vs H Q E h => ?_) (fun cdv A outer s H vs Q E hr h => ?_)
  · obtain ⟨a, bb, as, ns, rs, L, st, s, rfl, _⟩ := h
    rfl
  obtain ⟨a, bb, as, ns, rs, L, st, x, rfl, k, hx, lx, nx, q⟩ := h
  have hr1 : Room 1 _ := hr.mono (by decide)
  have hr14 : Room 14 _ := hr.mono (by decide)
  have l2 := k.l2
  have hL := k.hL
  have r2 := k.r2
  have lR : (signsOf ns rs).length = rs.length := signsOf_length ns rs
  have hRw : Rows (signsOf ns rs) ns.length := signsOf_len
  refine ⟨_, pss_cons (ps_set (i := 4) scDue.nd rfl (.inr rfl) (pe_call G_m_fewest hr (by rfl) D_m_fewest.g D_m_fewest.F.kp D_m_fewest.b .nil pass0 (pa_cons (pv 0) (pa_cons (pv 1) (pa_cons (pv 2) (pa_cons (pv 3) pa_nil))))))
    (pss_cons (ps_if (PW.pt (pw_or (pt_cmpR op_isN (pv 4) pe_non (nomark _)) (pw_or1 (pt_cmpR op_eq (pv 4) pe_int (nomark _)))))
      (pss_one (ps_ret pe_non)) pss_nil)
    (pss_cons (ps_for PassesOwn.never rfl (pi_range1 (by rfl) T.range (pa_cons (pe_callB (crLen K) (by rfl) T.len (by decide +kernel) (pa_cons (pv 1) pa_nil)) pa_nil)) (pg_name (i := 5) scDue.nd rfl (.inr rfl))
      (pss_cons (ps_setLc (i := 6) (own := [("_law_answer", 7)]) (g := (gName 7)) (tt := tYes) rfl scDue.nd rfl rfl (sw_true rfl rfl rfl (by decide +kernel)) (pseq K true (pe_tup (pa_cons pe_bl (pa_cons pe_bl pa_nil)))) (blkOk_by (N := ["_law_names", "_law_askings", "_law_lies", "_law_state", "_law_few", "_law_index", "_law_ends", "_law_answer", "_law_end"]) (sc := (defScope sDue)) (by decide +kernel))
        (fun _ _ _ _ _ => (pg_name (i := 7) scDue.nd rfl (.inl rfl))) (fun _ _ _ _ _ => pts_nil)
        (fun _ _ _ _ _ => (pe_call G_m_after hr1 (by rfl) D_m_after.g D_m_after.F.kp D_m_after.b .nil pass0 (pa_cons (pv 0) (pa_cons (pv 1) (pa_cons (pv 3) (pa_cons (pv 5) (pa_cons (pv 7) pa_nil))))))))
      (pss_one (ps_if (pt_val (pe_callB (cr_all rfl) (by rfl) T.all (by decide +kernel) (pa_cons (pe_lc (own := [("_law_end", 8)]) (g := (gName 8)) (tt := tYes) rfl scDue.nd (pseq K false (pv 6)) (blkOk_by (N := ["_law_names", "_law_askings", "_law_lies", "_law_state", "_law_few", "_law_index", "_law_ends", "_law_answer", "_law_end"]) (sc := (defScope sDue)) (by decide +kernel))
        (fun _ _ _ _ _ => (pg_name (i := 8) scDue.nd rfl (.inl rfl))) (fun _ _ _ _ _ => pts_nil)
        (fun _ _ _ _ _ => (pe_call G_m_is_enough hr14 (by rfl) D_m_is_enough.g D_m_is_enough.F.kp D_m_is_enough.b .nil pass0 (pa_cons (pv 0) (pa_cons (pv 1) (pa_cons (pv 2) (pa_cons (pv 8) (pa_cons (pe_op op_sub (pv 4) pe_int) (pa_cons pe_nnew pa_nil))))))))) pa_nil)))
        (pss_one (ps_ret (pv 5))) pss_nil))))
    (pss_one (ps_ret pe_non)))), ?_⟩
  have tl : topN L x ≤ 12 := top_le hL (by omega)
  generalize hRR : signsOf ns rs = R at *
  refine ⟨_, rfl, _, rfl, _, rfl, _, rfl, a, bb, as, ns, rs, L, st, x, rfl, k, hx, lx, nx, fun H1 s1 => ?_⟩
  rw [hRR]
  have e0 : nextI R L x = match fewest R L x with | some (m + 1) => R.findIdx? (right R L m x) | _ => none := rfl
  cases e : fewest R L x with
  | none =>
    rw [e] at e0
    refine ⟨_, rfl, rfl, _, rfl, ?_⟩
    rw [decide_eq_true (show optV none = V.non from rfl)]
    have z := q H1 s1
    rw [e0] at z
    exact iteT (iteT z)
  | some m =>
  rw [e] at e0
  refine ⟨_, rfl, rfl, _, rfl, ?_⟩
  rw [decide_eq_false (show ¬ optV (some m) = V.non from fun z => nomatch z)]
  refine iteF ⟨_, rfl, rfl, _, rfl, ?_⟩
  have sz : decide (optV (some m) = V.int 0) = decide (m = 0) := by
    by_cases z : m = 0
    · subst z
      rfl
    · rw [decide_eq_false z, decide_eq_false]
      intro y
      have : ((m : Nat) : Int) = 0 := by injection y
      omega
  cases m with
  | zero =>
    rw [show (decide (optV (some 0) = V.int 0)) = true from rfl]
    have z := q H1 s1
    rw [e0] at z
    exact iteT z
  | succ m =>
    rw [sz, decide_eq_false (show ¬ m + 1 = 0 by omega)]
    have lm := (fewest_least e).2
    have e1 : ((m + 1 : Nat) : Int) - 1 = ((m : Nat) : Int) := by omega
    have k1 := k.same s1
    refine iteF ⟨_, rfl, bb, _, rfl, .inl (SqL.of k1.hb), _, rfl, by rw [List.length_map, k.rs_.1]; omega, by rw [List.length_map, k.rs_.1]; omega, ?_⟩
    refine for_it walk_range (fun i σ H7 => ∃ y5 y6 y7 y8, σ = [some (.ref a), some (.ref bb), some (.int L), some (.ref st), some (optV (some (m + 1))), y5, y6, y7, y8] ∧ Same H1 H7 ∧ ∀ (j : Nat) (r : List Bool), j < i → R[j]? = some r → right R L m x r = false)
      ⟨none, none, none, none, rfl, Same.refl _, fun j r h => absurd h (Nat.not_lt_zero _)⟩ (fun _ _ _ _ _ => True.intro) ?_ ?_
    · rintro i y σ H7 H8 hi ⟨y5, y6, y7, y8, rfl, s7, no⟩ ⟨rfl, rfl⟩
      rw [List.length_map, k.rs_.1, Int.toNat_natCast, ← lR] at hi
      have k7 := k1.same s7
      have et7 := s7 _ _ (s1 _ _ hx)
      refine ⟨by show 2 ≤ sizeLine; decide, fun tw ntw => ⟨tw, [true, false].map V.bl, rfl, .inl (.inl upd_same), fun D nD => ?_⟩⟩
      have s8 := same_new ntw (.tup [.bl true, .bl false])
      refine lc_it walkS (fun j H9 => ∃ es, H9 D = some (.lst (es.map V.ref)) ∧ PtsAt tupI H9 es ((([true, false]).map fun z => aft R[i] z x).take j) ∧ D ∉ es ∧ Same (upd H8 tw (.tup [.bl true, .bl false])) H9)
        ⟨[], upd_same, PtsAt.nil _, by simp, same_new nD _⟩ (fun j H9 _ ⟨_, _, _, _, s9⟩ => .inl (.inl (s9 _ _ upd_same))) ?_ ?_
      · rintro j y H9 H10 hj ⟨es, e9, p9, n9, s9⟩ ⟨rfl, hy⟩
        have hy : (([true, false] : List Bool).map V.bl)[j]? = some y := hy
        rw [List.getElem?_map] at hy
        have hj2 : j < 2 := hj
        obtain ⟨z, hz⟩ : ∃ z, ([true, false] : List Bool)[j]? = some z := ⟨[true, false][j], List.getElem?_eq_getElem hj2⟩
        rw [hz] at hy
        obtain rfl : V.bl z = y := Option.some.inj hy
        have s710 := s8.trans s9
        refine ⟨rfl, yesI ⟨_, rfl, _, rfl, _, rfl, _, rfl, _, rfl, ?_⟩⟩
        refine ⟨a, bb, as, ns, rs, L, st, x, i, R[i], z, (by show [V.ref a, V.ref bb, V.ref st, V.int (0 + (i : Int)), V.bl z] = _; rw [Int.zero_add]), k7.same s710, s710 _ _ et7, lx, (by rw [hRR]; exact List.getElem?_eq_getElem hi), fun t2 H11 s11 et2 => ?_⟩
        have e11 := s11 _ _ e9
        have nt2 : D ≠ t2 := ne_of e11 et2 (fun z => nomatch z)
        refine ⟨_, e11, ?_, es ++ [t2], ?_, ?_, ?_, same_upd (s9.trans s11) nD⟩
        · rw [List.length_map, p9.1, List.length_take]
          exact small1000 (by omega)
        · rw [upd_same, map_snoc]
        · have gz : (([true, false] : List Bool).map fun z => aft R[i] z x)[j]? = some (aft R[i] z x) := by rw [List.getElem?_map, hz]; rfl
          rw [take_snoc gz]
          refine ((p9.same s11).mono fun c hc u ec => ?_).snoc ?_
          · rw [upd_ne (fun z => n9 (by rw [← z]; exact hc))]
            exact ec
          · rw [upd_ne nt2.symm]
            exact et2
        · rw [List.mem_append, not_or]
          exact ⟨n9, fun z => nt2 (List.mem_singleton.mp z)⟩
      · rintro H9 ⟨es, e9, p9, n9, s9⟩
        have p9 : PtsAt tupI H9 es (([true, false]).map fun z => aft R[i] z x) := p9
        have s79 := s8.trans s9
        have k9 := k7.same s79
        refine ⟨_, rfl, D, _, rfl, .inl (.inl e9), fun D2 nD2 => ?_⟩
        refine lc_it walkS (fun j H10 => H10 D2 = some (.lst (((([true, false] : List Bool).take j).map fun z => enough R L m (aft R[i] z x)).map V.bl)) ∧ Same H9 H10)
          ⟨upd_same, same_new nD2 _⟩ (fun j H10 _ ⟨_, s10⟩ => .inl (.inl (s10 _ _ e9))) ?_ ?_
        · rintro j y H10 H11 hj ⟨e10, s10⟩ ⟨rfl, hy⟩
          rw [List.length_map, p9.1] at hj
          have hj2 : j < 2 := hj
          obtain ⟨z, hz⟩ : ∃ z, ([true, false] : List Bool)[j]? = some z := ⟨[true, false][j], List.getElem?_eq_getElem hj2⟩
          have gz : (([true, false] : List Bool).map fun z => aft R[i] z x)[j]? = some (aft R[i] z x) := by rw [List.getElem?_map, hz]; rfl
          obtain ⟨t2, g1, g2⟩ := p9.get gz
          rw [List.getElem?_map, g1] at hy
          obtain rfl : V.ref t2 = y := Option.some.inj hy
          have lr := hRw R[i] (List.getElem_mem hi)
          refine ⟨rfl, yesI ⟨_, rfl, _, rfl, _, rfl, _, rfl, _, rfl, _, _, rfl, rfl, fun kn nk => ?_⟩⟩
          have sk := same_new nk (dN kn [])
          have sk2 := s10.trans sk
          refine ⟨a, bb, as, ns, rs, L, t2, aft R[i] z x, m, kn, [], (by rw [← e1]; rfl), by omega, by omega, k9.same sk2, sk2 _ _ g2, by rw [aft_length (by omega), lx], aft_nn nx, KOk.mt upd_same, Right.nil, fun kvs11 H12 b11 hK11 hV11 hun11 => ?_⟩
          rw [hRR]
          have s12 := but_new nk sk b11
          have e12 := s12 _ _ e10
          refine ⟨_, e12, ?_, ?_, same_upd (s10.trans s12) nD2⟩
          · rw [List.length_map, List.length_map, List.length_take]
            exact small1000 (by omega)
          · rw [upd_same, take_snoc hz, List.map_append, List.map_append]
            rfl
        · rintro H10 ⟨e10, s10⟩
          have e10 : H10 D2 = some (.lst ((([true, false] : List Bool).map fun z => enough R L m (aft R[i] z x)).map V.bl)) := by
            have z : (es.map V.ref).length = 2 := by rw [List.length_map, p9.1]; rfl
            rw [z] at e10
            exact e10
          refine ⟨D2, _, rfl, SqL.of e10, _, rfl, ?_⟩
          have ev : ((([true, false] : List Bool).map fun z => enough R L m (aft R[i] z x)).all id) = right R L m x R[i] := by
            show (enough R L m (aft R[i] true x) && (enough R L m (aft R[i] false x) && true)) = _
            rw [Bool.and_true]
            rfl
          rw [ev]
          have s010 := s7.trans (s79.trans s10)
          cases er : right R L m x R[i] with
          | true =>
            refine iteT ⟨_, rfl, ?_⟩
            have z := q H10 (s1.trans s010)
            have y : nextI R L x = some i := by
              rw [e0]
              exact find_at (List.getElem?_eq_getElem hi) no er
            rw [y] at z
            have ei : optV (some i) = V.int (0 + (i : Int)) := by rw [Int.zero_add]; rfl
            rw [ei] at z
            exact z
          | false =>
            refine iteF ⟨_, _, _, _, rfl, s010, fun j r hj hr2 => ?_⟩
            by_cases c : j = i
            · subst c
              rw [List.getElem?_eq_getElem hi] at hr2
              obtain rfl := Option.some.inj hr2
              exact er
            · exact no j r (by omega) hr2
    · rintro σ H7 ⟨y5, y6, y7, y8, rfl, s7, no⟩
      rw [List.length_map, k.rs_.1, Int.toNat_natCast, ← lR] at no
      have z := q H7 (s1.trans s7)
      have y : nextI R L x = none := by
        rw [e0]
        show R.findIdx? (right R L m x) = none
        rw [List.findIdx?_eq_none_iff]
        intro r hr2
        obtain ⟨j, hj, ej⟩ := List.getElem_of_mem hr2
        rw [← ej]
        exact no j _ hj (List.getElem?_eq_getElem hj)
      rw [y] at z
      exact z
end
end P81
end
section
set_option Elab.async false
set_option linter.all false
set_option maxRecDepth 100000
set_option maxHeartbeats 4000000
namespace P81
open PySem PySem.Spec PyProof.Rows L2 ZG NK
theorem hu64_of {A : Around} {k : Nat} (hr : Room k A) : A.units + 64 < cLine := by have := hr.un; omega
theorem ints_lay : ∀ bs : List Int, PyData.canLayAll0 (bs.map .int) = true
  | [] => by simp [PyData.canLayAll0]
  | b :: bs => by simp [PyData.canLayAll0, PyData.canLay0, ints_lay bs]
theorem ints_depth : ∀ bs : List Int, PyData.depthAll (bs.map .int) ≤ 0
  | [] => by simp [PyData.depthAll]
  | b :: bs => by
    have := ints_depth bs
    simp only [List.map_cons, PyData.depthAll, PyData.depth]
    omega
theorem datI_shaped (bs : List Int) : SeqAt.shaped (.list (bs.map .int)) = true := by
  have h1 := ints_depth bs
  show (PyData.canLay0 (.list (bs.map .int)) && decide (PyData.depth (.list (bs.map .int)) ≤ 64)) = true
  rw [Bool.and_eq_true]
  refine ⟨by simp only [PyData.canLay0]; exact ints_lay bs, decide_eq_true ?_⟩
  simp only [PyData.depth]
  omega
theorem dp_nums {K : PySem.W.Frag} {H : Hp} : ∀ bs : List Int, DpAll K H (bs.map V.int) (bs.map .int)
  | [] => .nil
  | b :: bs => .cons (.int b) (dp_nums bs)
theorem eqv_mt : ∀ bs : List Int, PyData.eqv (.list (bs.map .int)) (.list []) = decide (bs = [])
  | [] => by simp [PyData.eqv, PyData.eqvAll]
  | b :: bs => by simp [PyData.eqv, PyData.eqvAll]
/-- the stream of digits at st, c -/
def StreamAt (H : Hp) (st c : Addr) (N : Nat) : Prop := ∃ (r n m : Int) (cs : List Int), H st = some (.lst [.ref c, .int r, .int n, .int m]) ∧ H c = some (.lst (cs.map V.int)) ∧ 0 ≤ r ∧ 0 ≤ n ∧ n ≤ (N : Int) ∧ 0 ≤ m ∧ m < 2147483647 ∧ cs.length ≤ 63
theorem StreamAt.same {H H' : Hp} {st c : Addr} {N : Nat} (h : StreamAt H st c N) (s : Same H H') : StreamAt H' st c N := by
  obtain ⟨r, n, m, cs, h1, h2, h3⟩ := h
  exact ⟨r, n, m, cs, s _ _ h1, s _ _ h2, h3⟩
theorem StreamAt.but {H H' : Hp} {st c : Addr} {N : Nat} {l : List Addr} (h : StreamAt H st c N) (s : But l H H') (n1 : st ∉ l) (n2 : c ∉ l) : StreamAt H' st c N := by
  obtain ⟨r, n, m, cs, h1, h2, h3⟩ := h
  exact ⟨r, n, m, cs, s _ _ h1 n1, s _ _ h2 n2, h3⟩
theorem StreamAt.le {H : Hp} {st c : Addr} {N M : Nat} (h : StreamAt H st c N) (le : N ≤ M) : StreamAt H st c M := by
  obtain ⟨r, n, m, cs, h1, h2, h3, h4, h5, h6⟩ := h
  exact ⟨r, n, m, cs, h1, h2, h3, h4, by omega, h6⟩
theorem StreamAt.ne {H : Hp} {st c p : Addr} {N : Nat} (h : StreamAt H st c N) (np : H p = none) : p ∉ [st, c] := by
  obtain ⟨r, n, m, cs, h1, h2, h3⟩ := h
  simp only [List.mem_cons, List.mem_nil_iff, or_false, not_or]
  exact ⟨fun z => (by rw [z, h1] at np; cases np), fun z => (by rw [z, h2] at np; cases np)⟩
theorem fmod_rng {a b : Int} (h : 0 < b) : 0 ≤ a.fmod b ∧ a.fmod b < b := ⟨Int.fmod_nonneg_of_pos a h, Int.fmod_lt_of_pos a h⟩
theorem seq_nat {i n : Nat} (h : i < n) : seqIndex? (i : Int) n = some i := by
  have h1 : ¬ ((i : Int) < 0) := by omega
  unfold seqIndex?
  simp only [if_neg h1, Int.toNat_natCast]
  rw [if_pos]
  simp [h]
theorem fmod_nat {a : Int} {b : Nat} (h : 0 < b) : ∃ d : Nat, d < b ∧ a.fmod (b : Int) = (d : Int) := by
  obtain ⟨h1, h2⟩ := fmod_rng (a := a) (b := (b : Int)) (by omega)
  exact ⟨(a.fmod (b : Int)).toNat, by omega, by omega⟩
theorem erase_perm {α : Type} : ∀ (l : List α) (i : Nat) (h : i < l.length), (l[i] :: l.eraseIdx i).Perm l
  | [], i, h => absurd h (Nat.not_lt_zero _)
  | x :: l, 0, _ => .refl _
  | x :: l, i + 1, h => (List.Perm.swap x (l[i]'(Nat.lt_of_succ_lt_succ h)) (l.eraseIdx i)).trans ((erase_perm l i (Nat.lt_of_succ_lt_succ h)).cons x)
/-- the written part named -/
theorem pbm {X : Cx} (K : PySem.W.Frag) {e : Expr} {to : TE} {t : TA} {T : String} {r : V → List V → Hp → VK → Prop} (h : PE X e (tBM X.K T r to t)) (hk : X.K = K := by rfl) : PE X e (tBM K T r to t) := by
  subst hk
  exact h
section
variable {P : Program} {w : World} {K : PySem.W.Frag} {mg : Str → Option Value} {base : Heap}
theorem scStart : FnScope ["_law_script"] ["_law_script"] (defScope sStart) := ⟨rfl, rfl, rfl, by decide +kernel, rfl, by decide +kernel, by decide +kernel⟩
def spStart (K : PySem.W.Frag) : Sp := fun vs H Q _ => ∃ (a : Addr) (cs : List Int), vs = [.ref a] ∧ SqL K H a (cs.map V.int) ∧ cs.length ≤ 63 ∧ ∀ st c H', Same H H' → StreamAt H' st c 0 → Q (.ref st) H'
theorem ok_start {f : Addr} {fd : FuncData} (F : Fun K "_law_start" "_law_start" sStart f fd) (T : BI mg) : FnOk P w K mg base CX0 1 f fd ["_law_script"] (spStart K) := by
  refine F.ok scStart (fun vs H Q E h => ?_) (fun cdv A outer s H vs Q E hr h => ?_)
  · obtain ⟨a, cs, rfl, _⟩ := h
    rfl
  obtain ⟨a, cs, rfl, hs, few, q⟩ := h
  refine ⟨_, pss_one (ps_ret (pe_lst (pa_cons (pe_callTy (crListOf K) (by rfl) T.list (by decide +kernel) (pa_cons (pv 0) pa_nil)) (pa_cons pe_int (pa_cons pe_int (pa_cons pe_int pa_nil)))))), ?_⟩
  refine ⟨_, rfl, a, _, rfl, .inl hs, fun c nc => ⟨by show 4 ≤ sizeLine; decide, fun st nst => ?_⟩⟩
  have s1 := same_new nc (.lst (cs.map V.int))
  have s2 := same_new nst (.lst [.ref c, .int 0, .int 0, .int 11])
  exact q st c _ (s1.trans s2) ⟨0, 0, 11, cs, upd_same, s2 _ _ upd_same, by omega, by omega, by omega, by omega, by omega, few⟩
theorem scDraw : FnScope ["_law_stream", "_law_many", "_law_cell", "_law_digit", "_law_mixed_here"] ["_law_stream", "_law_many"] (defScope sDraw) := ⟨rfl, rfl, rfl, by decide +kernel, rfl, by decide +kernel, by decide +kernel⟩
def spDraw : Sp := fun vs H Q _ => ∃ (st c : Addr) (N many : Nat), vs = [.ref st, .int ((many : Nat) : Int)] ∧ StreamAt H st c N ∧ N < 100000 ∧ 0 < many ∧ many < 1000 ∧
  ∀ (d : Nat) H', d < many → But [st, c] H H' → StreamAt H' st c (N + 1) → Q (.int ((d : Nat) : Int)) H'
theorem ok_draw {f : Addr} {fd : FuncData} (F : Fun K "_law_draw" "_law_draw" sDraw f fd) (T : BI mg) : FnOk P w K mg base CX0 1 f fd ["_law_stream", "_law_many"] spDraw := by
  refine F.ok scDraw (fun vs H Q E h => ?_) (fun cdv A outer s H vs Q E hr h => ?_)
  · obtain ⟨st, c, N, many, rfl, _⟩ := h
    rfl
  obtain ⟨st, c, N, many, rfl, ⟨r, n, m, cs, e1, e2, hr0, hn0, hn, hm0, hm, few⟩, hN, m0, m1, q⟩ := h
  have hu64 := hu64_of hr
  refine ⟨_, pss_cons (ps_asg (pe_op op_add (pe_ix (ixL K) (pv 0) pe_int (fun _ _ => rfl)) pe_int) (pg_sub (pv 0) pe_int set_list))
    (pss_cons (ps_while PassesOwn.never (PW.pt (pw_and (pt_cmpR op_eq (pe_ix (ixL K) (pv 0) pe_int (fun _ _ => rfl)) pe_int (nomark _)) (pw_and1 (pt_cmpR (op_neD hu64) (pe_ix (ixL K) (pv 0) pe_int (fun _ _ => rfl)) (pe_lst pa_nil) (nomark _)))))
      (pss_cons (ps_set (i := 2) scDraw.nd rfl (.inl rfl) (pe_bm PySem.F.plainAttrs_list PySem.F.slot_list_pop PySem.F.type_list_pop mt_popAt (pe_ix (ixL K) (pv 0) pe_int (fun _ _ => rfl)) (pa_cons pe_int pa_nil)))
      (pss_cons (ps_asg (pe_op op_modN (pe_callTy call_int1 (by rfl) T.int (by decide +kernel) (pa_cons (pe_op op_add (pe_op op_add (pe_op op_mul (pe_ix (ixL K) (pv 0) pe_int (fun _ _ => rfl)) pe_int) (pv 2)) pe_int) pa_nil)) pe_int) (pg_sub (pv 0) pe_int set_list))
      (pss_one (ps_asg (pe_ifExp (pt_cmpR op_ge (pv 2) (pe_op op_pow pe_int pe_int) (nomark _)) (pv 2) pe_int) (pg_sub (pv 0) pe_int set_list))))))
    (pss_cons (ps_if (pt_cmpR op_gt (pe_ix (ixL K) (pv 0) pe_int (fun _ _ => rfl)) pe_int (nomark _))
      (pss_cons (ps_set (i := 3) scDraw.nd rfl (.inl rfl) (pe_op op_modN (pe_callTy call_int1 (by rfl) T.int (by decide +kernel) (pa_cons (pe_ix (ixL K) (pv 0) pe_int (fun _ _ => rfl)) pa_nil)) (pv 1)))
      (pss_cons (ps_asg (pe_op op_fdivN (pe_ix (ixL K) (pv 0) pe_int (fun _ _ => rfl)) (pv 1)) (pg_sub (pv 0) pe_int set_list))
      (pss_one (ps_ret (pv 3))))) pss_nil)
    (pss_cons (ps_set (i := 4) scDraw.nd rfl (.inl rfl) (pe_op op_modN (pe_callTy call_int1 (by rfl) T.int (by decide +kernel) (pa_cons (pe_op op_pow (pe_op op_add (pe_op op_add (pe_ix (ixL K) (pv 0) pe_int (fun _ _ => rfl)) (pe_op op_mul pe_int (pe_ix (ixL K) (pv 0) pe_int (fun _ _ => rfl)))) pe_int) pe_int) pa_nil)) pe_int))
    (pss_one (ps_ret (pe_op op_modN (pe_op op_modN (pe_callTy call_int1 (by rfl) T.int (by decide +kernel) (pa_cons (pe_op op_pow (pe_op op_add (pe_op op_add (pe_op op_mul (pv 4) pe_int) (pe_op op_mul pe_int (pe_ix (ixL K) (pv 0) pe_int (fun _ _ => rfl)))) pe_int) pe_int) pa_nil)) pe_int) (pv 1))))))), ?_⟩
  have nsc : st ≠ c := ne_of e1 e2 (fun z => by cases cs <;> simp at z)
  refine ⟨_, rfl, st, _, _, _, rfl, rfl, SqL.of e1, rfl, _, _, rfl, rfl, _, rfl, st, _, _, _, rfl, rfl, e1, rfl, ?_⟩
  have f1 : (upd H st (.lst [.ref c, .int r, .int (n + 1), .int m])) c = some (.lst (cs.map V.int)) := by rw [upd_ne nsc.symm]; exact e2
  refine ⟨fun d σ H1 => ∃ (r n m : Int) (cs : List Int) (y2 y3 y4 : Option V), d = cs.length ∧ σ = [some (.ref st), some (.int ((many : Nat) : Int)), y2, y3, y4] ∧ H1 st = some (.lst [.ref c, .int r, .int n, .int m]) ∧ H1 c = some (.lst (cs.map V.int)) ∧ 0 ≤ r ∧ 0 ≤ n ∧ n ≤ ((N + 1 : Nat) : Int) ∧ 0 ≤ m ∧ m < 2147483647 ∧ cs.length ≤ 63 ∧ But [st, c] H H1,
    ⟨_, r, n + 1, m, cs, none, none, none, rfl, rfl, upd_same, f1, hr0, by omega, by omega, hm0, hm, few, but_upd (by simp)⟩, ?_⟩
  clear f1 hr0 hn0 hn hm0 hm few e1 e2
  rintro d σ H1 ⟨r, n, m, cs, y2, y3, y4, rfl, rfl, e1, e2, hr0, hn0, hn, hm0, hm, few, b1⟩
  refine ⟨_, rfl, st, _, _, _, rfl, rfl, SqL.of e1, rfl, rfl, _, rfl, ?_⟩
  by_cases c0 : r = 0
  · rw [decide_eq_true (show V.int r = V.int 0 by rw [c0])]
    refine iteT ⟨_, rfl, st, _, _, _, rfl, rfl, SqL.of e1, rfl, Nat.zero_le _, fun z nz => ?_⟩
    have sz := same_new nz (.lst [])
    have e1z := sz _ _ e1
    have e2z := sz _ _ e2
    have bz := b1.trans (Same.but sz)
    refine ⟨.list (cs.map .int), .list [], .lst (SqL.of e2z) (dp_nums cs), .lst (SqL.of upd_same) .nil, datI_shaped cs, datI_shaped [], ?_⟩
    rw [eqv_mt]
    generalize upd H1 z (.lst []) = H2 at e1z e2z bz ⊢
    cases cs with
    | nil =>
      refine ⟨_, rfl, ?_⟩
      refine iteF ?_
      refine ⟨_, rfl, st, _, _, _, rfl, rfl, SqL.of e1z, rfl, _, _, rfl, rfl, _, rfl, ?_⟩
      by_cases cr : (0 : Int) < r
      · rw [decide_eq_true cr]
        obtain ⟨d, hd, ed⟩ := fmod_nat (a := r) m0
        refine iteT ⟨_, rfl, st, _, _, _, rfl, rfl, SqL.of e1z, rfl, .inl ⟨_, rfl, _, rfl, _, _, rfl, rfl, by show ((many : Nat) : Int) ≠ 0; omega, ?_⟩⟩
        refine ⟨_, rfl, st, _, _, _, rfl, rfl, SqL.of e1z, rfl, _, rfl, _, _, rfl, rfl, ⟨by omega, by omega⟩, _, rfl, st, _, _, _, rfl, rfl, e1z, rfl, ?_⟩
        refine ⟨_, rfl, ?_⟩
        refine (?_ : Q (V.int (r.fmod ((many : Nat) : Int))) _)
        rw [ed]
        exact q d _ hd (bz.trans (but_upd (by simp))) ⟨r.fdiv many, n, m, [], upd_same, by rw [upd_ne nsc.symm]; exact e2z, (by rw [Int.fdiv_eq_ediv_of_nonneg _ (by omega)]; exact Int.ediv_nonneg hr0 (by omega)), hn0, hn, hm0, hm, few⟩
      · rw [decide_eq_false cr]
        obtain ⟨g1, g2⟩ := fmod_rng (a := (m + 7919 * n + 104729) ^ (Int.toNat 5)) (b := 2147483629) (by decide)
        refine iteF ⟨_, rfl, st, _, _, _, rfl, rfl, SqL.of e1z, rfl, _, rfl, st, _, _, _, rfl, rfl, SqL.of e1z, rfl, _, _, rfl, rfl, .inl ⟨by decide, by decide⟩, _, _, rfl, rfl, _, _, rfl, rfl, _, _, rfl, rfl, ⟨by decide, by decide, by omega⟩, .inl ⟨_, rfl, _, _, rfl, rfl, by show (2147483629 : Int) ≠ 0; decide, ?_⟩⟩
        refine ⟨_, rfl, _, _, rfl, rfl, .inr ⟨by decide, by decide⟩, _, rfl, st, _, _, _, rfl, rfl, SqL.of e1z, rfl, _, _, rfl, rfl, .inl ⟨by decide, by decide⟩, _, _, rfl, rfl, _, _, rfl, rfl, _, _, rfl, rfl, ⟨by decide, by decide, ?_⟩, .inl ⟨_, rfl, _, _, rfl, rfl, by show (1000000007 : Int) ≠ 0; decide, _, rfl, _, _, rfl, rfl, by show ((many : Nat) : Int) ≠ 0; omega, ?_⟩⟩
        · show Int.natAbs (((m + 7919 * n + 104729) ^ (Int.toNat 5)).fmod 2147483629 * 48271 + 30011 * n + 29) < 2 ^ 64
          generalize ((m + 7919 * n + 104729) ^ (Int.toNat 5)).fmod 2147483629 = g at g1 g2 ⊢
          omega
        refine (?_ : Q (.int ((((((m + 7919 * n + 104729) ^ (Int.toNat 5)).fmod 2147483629 * 48271 + 30011 * n + 29) ^ (Int.toNat 3)).fmod 1000000007).fmod (many : Int))) _)
        obtain ⟨d, hd, ed⟩ := fmod_nat (a := ((((m + 7919 * n + 104729) ^ (Int.toNat 5)).fmod 2147483629 * 48271 + 30011 * n + 29) ^ (Int.toNat 3)).fmod 1000000007) m0
        rw [ed]
        exact q d _ hd bz ⟨r, n, m, [], e1z, e2z, hr0, hn0, hn, hm0, hm, few⟩
    | cons x cs =>
      refine ⟨_, rfl, ?_⟩
      have few1 : cs.length ≤ 63 := by rw [List.length_cons] at few; omega
      refine iteT ⟨fun (σ : L2.St) (H1 : Hp) => ∃ d, d < (x :: cs).length ∧ (∃ (r n m : Int) (cs' : List Int) (y2 y3 y4 : Option V), d = cs'.length ∧ σ = [some (.ref st), some (.int ((many : Nat) : Int)), y2, y3, y4] ∧ H1 st = some (.lst [.ref c, .int r, .int n, .int m]) ∧ H1 c = some (.lst (cs'.map V.int)) ∧ 0 ≤ r ∧ 0 ≤ n ∧ n ≤ ((N + 1 : Nat) : Int) ∧ 0 ≤ m ∧ m < 2147483647 ∧ cs'.length ≤ 63 ∧ But [st, c] H H1), fun σ' H' h => h, ?_⟩
      refine ⟨_, rfl, st, _, _, _, rfl, rfl, SqL.of e1z, rfl, .inl ⟨rfl, _, SqL.of e2z⟩, c, _, 0, 0, _, rfl, rfl, e2z, by decide, by decide, seq_nat (by simp), rfl, ?_⟩
      have e1y : (upd H2 c (.lst (((x :: cs).map V.int).eraseIdx 0))) st = some (.lst [.ref c, .int r, .int n, .int m]) := by rw [upd_ne nsc]; exact e1z
      refine ⟨_, rfl, st, _, _, _, rfl, rfl, SqL.of e1y, rfl, _, _, rfl, rfl, .inr ⟨by decide, by decide⟩, _, rfl, _, _, rfl, rfl, _, _, rfl, rfl, .inl ⟨_, rfl, _, _, rfl, rfl, by show (2147483647 : Int) ≠ 0; decide, _, rfl, st, _, _, _, rfl, rfl, e1y, rfl, ?_⟩⟩
      obtain ⟨g1, g2⟩ := fmod_rng (a := m * 8191 + x + 3) (b := 2147483647) (by decide)
      refine ⟨_, rfl, _, _, rfl, rfl, ⟨by decide, by decide, by decide⟩, _, _, rfl, rfl, _, rfl, ?_⟩
      by_cases cx : (10 : Int) ^ (Int.toNat 18) ≤ x
      · rw [decide_eq_true cx]
        refine iteT ⟨_, rfl, _, rfl, st, _, _, _, rfl, rfl, upd_same, rfl, ?_⟩
        refine ⟨cs.length, by rw [List.length_cons]; omega, x, n, (m * 8191 + x + 3).fmod 2147483647, cs, _, _, _, rfl, rfl, upd_same, ?_, ?_, hn0, hn, g1, g2, few1, ?_⟩
        · rw [upd_ne nsc.symm, upd_ne nsc.symm, upd_same]
          rfl
        · exact Int.le_trans (Int.pow_nonneg (by decide)) cx
        · exact ((bz.trans (but_upd (by simp))).trans (but_upd (by simp))).trans (but_upd (by simp))
      · rw [decide_eq_false cx]
        refine iteF ⟨_, rfl, st, _, _, _, rfl, rfl, upd_same, rfl, ?_⟩
        refine ⟨cs.length, by rw [List.length_cons]; omega, 0, n, (m * 8191 + x + 3).fmod 2147483647, cs, _, _, _, rfl, rfl, upd_same, ?_, by decide, hn0, hn, g1, g2, few1, ?_⟩
        · rw [upd_ne nsc.symm, upd_ne nsc.symm, upd_same]
          rfl
        · exact ((bz.trans (but_upd (by simp))).trans (but_upd (by simp))).trans (but_upd (by simp))
  · rw [decide_eq_false (show ¬ V.int r = V.int 0 from fun z => c0 (by injection z))]
    refine iteF (iteF ?_)
    refine ⟨_, rfl, st, _, _, _, rfl, rfl, SqL.of e1, rfl, _, _, rfl, rfl, _, rfl, ?_⟩
    by_cases cr : (0 : Int) < r
    · rw [decide_eq_true cr]
      obtain ⟨d, hd, ed⟩ := fmod_nat (a := r) m0
      refine iteT ⟨_, rfl, st, _, _, _, rfl, rfl, SqL.of e1, rfl, .inl ⟨_, rfl, _, rfl, _, _, rfl, rfl, by show ((many : Nat) : Int) ≠ 0; omega, ?_⟩⟩
      refine ⟨_, rfl, st, _, _, _, rfl, rfl, SqL.of e1, rfl, _, rfl, _, _, rfl, rfl, ⟨by omega, by omega⟩, _, rfl, st, _, _, _, rfl, rfl, e1, rfl, ?_⟩
      refine ⟨_, rfl, ?_⟩
      refine (?_ : Q (V.int (r.fmod ((many : Nat) : Int))) _)
      rw [ed]
      exact q d _ hd (b1.trans (but_upd (by simp))) ⟨r.fdiv many, n, m, cs, upd_same, by rw [upd_ne nsc.symm]; exact e2, (by rw [Int.fdiv_eq_ediv_of_nonneg _ (by omega)]; exact Int.ediv_nonneg hr0 (by omega)), hn0, hn, hm0, hm, few⟩
    · rw [decide_eq_false cr]
      obtain ⟨g1, g2⟩ := fmod_rng (a := (m + 7919 * n + 104729) ^ (Int.toNat 5)) (b := 2147483629) (by decide)
      refine iteF ⟨_, rfl, st, _, _, _, rfl, rfl, SqL.of e1, rfl, _, rfl, st, _, _, _, rfl, rfl, SqL.of e1, rfl, _, _, rfl, rfl, .inl ⟨by decide, by decide⟩, _, _, rfl, rfl, _, _, rfl, rfl, _, _, rfl, rfl, ⟨by decide, by decide, by omega⟩, .inl ⟨_, rfl, _, _, rfl, rfl, by show (2147483629 : Int) ≠ 0; decide, ?_⟩⟩
      refine ⟨_, rfl, _, _, rfl, rfl, .inr ⟨by decide, by decide⟩, _, rfl, st, _, _, _, rfl, rfl, SqL.of e1, rfl, _, _, rfl, rfl, .inl ⟨by decide, by decide⟩, _, _, rfl, rfl, _, _, rfl, rfl, _, _, rfl, rfl, ⟨by decide, by decide, ?_⟩, .inl ⟨_, rfl, _, _, rfl, rfl, by show (1000000007 : Int) ≠ 0; decide, _, rfl, _, _, rfl, rfl, by show ((many : Nat) : Int) ≠ 0; omega, ?_⟩⟩
      · show Int.natAbs (((m + 7919 * n + 104729) ^ (Int.toNat 5)).fmod 2147483629 * 48271 + 30011 * n + 29) < 2 ^ 64
        generalize ((m + 7919 * n + 104729) ^ (Int.toNat 5)).fmod 2147483629 = g at g1 g2 ⊢
        omega
      refine (?_ : Q (.int ((((((m + 7919 * n + 104729) ^ (Int.toNat 5)).fmod 2147483629 * 48271 + 30011 * n + 29) ^ (Int.toNat 3)).fmod 1000000007).fmod (many : Int))) _)
      obtain ⟨d, hd, ed⟩ := fmod_nat (a := ((((m + 7919 * n + 104729) ^ (Int.toNat 5)).fmod 2147483629 * 48271 + 30011 * n + 29) ^ (Int.toNat 3)).fmod 1000000007) m0
      rw [ed]
      exact q d _ hd b1 ⟨r, n, m, cs, e1, e2, hr0, hn0, hn, hm0, hm, few⟩
theorem scPick : FnScope ["_law_stream", "_law_some"] ["_law_stream", "_law_some"] (defScope sPick) := ⟨rfl, rfl, rfl, by decide +kernel, rfl, by decide +kernel, by decide +kernel⟩
def spPick : Sp := fun vs H Q _ => ∃ (st c a : Addr) (N : Nat) (xs : List V), vs = [.ref st, .ref a] ∧ StreamAt H st c N ∧ N < 100000 ∧ H a = some (.lst xs) ∧ a ∉ [st, c] ∧ 0 < xs.length ∧ xs.length < 1000 ∧
  ∀ v H', v ∈ xs → But [st, c] H H' → StreamAt H' st c (N + 1) → Q v H'
theorem ok_pick {f f1 : Addr} {fd d1 : FuncData} (F : Fun K "_law_pick" "_law_pick" sPick f fd) (T : BI mg) (D_draw : DefAt K mg "_law_draw" sDraw ["_law_stream", "_law_many"] f1 d1) : FnOk P w K mg base CX0 2 f fd ["_law_stream", "_law_some"] spPick := by
  have G_draw : FnOk P w K mg base CX0 1 f1 d1 ["_law_stream", "_law_many"] spDraw := ok_draw D_draw.F T
  refine F.ok scPick (fun vs H Q E h => ?_) (fun cdv A outer s H vs Q E hr h => ?_)
  · obtain ⟨st, c, a, N, xs, rfl, _⟩ := h
    rfl
  obtain ⟨st, c, a, N, xs, rfl, S, hN, ha, na, m0, m1, q⟩ := h
  refine ⟨_, pss_one (ps_ret (pe_ix (ixL K) (pv 1) (pe_call G_draw hr (by rfl) D_draw.g D_draw.F.kp D_draw.b .nil pass0 (pa_cons (pv 0) (pa_cons (pe_callB (crLen K) (by rfl) T.len (by decide +kernel) (pa_cons (pv 1) pa_nil)) pa_nil))) (fun _ _ => rfl))), ?_⟩
  refine ⟨_, rfl, _, rfl, _, rfl, a, _, rfl, .inl (SqL.of ha), st, c, N, xs.length, rfl, S, hN, m0, m1, fun d H' hd b S' => ?_⟩
  exact ⟨a, xs, _, xs[d], rfl, rfl, SqL.of (b _ _ ha na), atI_nat (List.getElem?_eq_getElem hd), q _ _ (List.getElem_mem hd) b S'⟩
theorem scMixed : FnScope ["_law_stream", "_law_some", "_law_left", "_law_k"] ["_law_stream", "_law_some"] (defScope sMixed) := ⟨rfl, rfl, rfl, by decide +kernel, rfl, by decide +kernel, by decide +kernel⟩
def spMixed : Sp := fun vs H Q _ => ∃ (st c a : Addr) (N : Nat) (xs : List V), vs = [.ref st, .ref a] ∧ StreamAt H st c N ∧ N + xs.length < 100000 ∧ H a = some (.lst xs) ∧ xs.length ≤ 100 ∧
  ∀ l H' ys, List.Perm ys xs → H l = none → But [st, c] H H' → H' l = some (.lst ys) → StreamAt H' st c (N + xs.length) → Q (.ref l) H'
theorem ok_mixed {f f1 : Addr} {fd d1 : FuncData} (F : Fun K "_law_mixed" "_law_mixed" sMixed f fd) (T : BI mg) (D_draw : DefAt K mg "_law_draw" sDraw ["_law_stream", "_law_many"] f1 d1) : FnOk P w K mg base CX0 2 f fd ["_law_stream", "_law_some"] spMixed := by
  have G_draw : FnOk P w K mg base CX0 1 f1 d1 ["_law_stream", "_law_many"] spDraw := ok_draw D_draw.F T
  refine F.ok scMixed (fun vs H Q E h => ?_) (fun cdv A outer s H vs Q E hr h => ?_)
  · obtain ⟨st, c, a, N, xs, rfl, _⟩ := h
    rfl
  obtain ⟨st, c, a, N, xs, rfl, S, hN, ha, few, q⟩ := h
  refine ⟨_, pss_cons (ps_set (i := 2) scMixed.nd rfl (.inr rfl) (pe_callTy (crListOf K) (by rfl) T.list (by decide +kernel) (pa_cons (pv 1) pa_nil)))
    (pss_one (ps_ret (pe_lc (own := [("_law_k", 3)]) (g := (gName 3)) (tt := tYes) rfl scMixed.nd (pi_range1 (by rfl) T.range (pa_cons (pe_callB (crLen K) (by rfl) T.len (by decide +kernel) (pa_cons (pv 2) pa_nil)) pa_nil)) (blkOk_by (N := ["_law_stream", "_law_some", "_law_left", "_law_k"]) (sc := (defScope sMixed)) (by decide +kernel))
        (fun _ _ _ _ _ => (pg_name (i := 3) scMixed.nd rfl (.inl rfl))) (fun _ _ _ _ _ => pts_nil)
        (fun _ _ _ _ _ => (pbm K (pe_bm PySem.F.plainAttrs_list PySem.F.slot_list_pop PySem.F.type_list_pop mt_popAt (pv 2) (pa_cons (pe_call G_draw hr (by rfl) D_draw.g D_draw.F.kp D_draw.b .nil pass0 (pa_cons (pv 0) (pa_cons (pe_callB (crLen K) (by rfl) T.len (by decide +kernel) (pa_cons (pv 2) pa_nil)) pa_nil))) pa_nil))))))), ?_⟩
  refine ⟨_, rfl, a, _, rfl, .inl (SqL.of ha), fun le nle => ?_⟩
  have sl := same_new nle (.lst xs)
  have el : (upd H le (.lst xs)) le = some (.lst xs) := upd_same
  have nl := S.ne nle
  generalize upd H le (.lst xs) = H1 at sl el ⊢
  refine ⟨_, rfl, le, _, rfl, .inl (SqL.of el), _, rfl, by omega, by omega, fun D nD => ?_⟩
  have S1 := S.same sl
  have nDs := S1.ne nD
  have nDl : D ≠ le := (ne_of_none el nD).symm
  refine lc_it walk_range (fun j H2 => ∃ acc rest, H2 D = some (.lst acc) ∧ H2 le = some (.lst rest) ∧ List.Perm (acc ++ rest) xs ∧ acc.length = j ∧ j + rest.length = xs.length ∧ But [st, c, le] H1 H2 ∧ StreamAt H2 st c (N + j))
    ⟨[], xs, upd_same, by rw [upd_ne nDl.symm]; exact el, by simp, rfl, by omega, Same.but (same_new nD _), S1.same (same_new nD _)⟩ (fun _ _ _ _ => True.intro) ?_ ?_
  · rintro j y H2 H3 hj ⟨acc, rest, eD, er, pm, la, lr, b2, S2⟩ ⟨rfl, rfl⟩
    have hj : j < xs.length := by simpa using hj
    refine ⟨rfl, yesI ⟨_, rfl, .inl ⟨rfl, _, SqL.of er⟩, _, rfl, _, rfl, le, _, rfl, .inl (SqL.of er), st, c, N + j, rest.length, rfl, S2, by omega, by omega, by omega, fun d H4 hd b4 S4 => ?_⟩⟩
    have er4 := b4 _ _ er nl
    have eD4 := b4 _ _ eD nDs
    refine ⟨le, rest, _, d, rest[d], rfl, rfl, er4, by omega, by omega, seq_nat hd, List.getElem?_eq_getElem hd, ?_⟩
    have eD5 : (upd H4 le (.lst (rest.eraseIdx d))) D = some (.lst acc) := by rw [upd_ne nDl]; exact eD4
    refine ⟨acc, eD5, small1000 (by omega), acc ++ [rest[d]], rest.eraseIdx d, upd_same, ?_, ?_, ?_, ?_, ?_, ?_⟩
    · rw [upd_ne nDl.symm, upd_same]
    · rw [List.append_assoc]
      exact ((erase_perm rest d hd).append_left acc).trans pm
    · rw [List.length_append, la]; rfl
    · rw [List.length_eraseIdx_of_lt hd]; omega
    · intro b o eb nb
      have nb2 : b ∉ [st, c] := fun z => nb (by simp only [List.mem_cons, List.mem_nil_iff, or_false] at z ⊢; rcases z with z | z <;> simp [z])
      rw [upd_ne (ne_of_none eb nD), upd_ne (fun z => nb (by simp [z]))]
      exact b4 _ _ (b2 _ _ eb nb) nb2
    · have n1 : st ∉ [le] := fun z => nl (by rw [List.mem_singleton.mp z]; simp)
      have n2 : c ∉ [le] := fun z => nl (by rw [List.mem_singleton.mp z]; simp)
      have n3 : st ∉ [D] := fun z => nDs (by rw [List.mem_singleton.mp z]; simp)
      have n4 : c ∉ [D] := fun z => nDs (by rw [List.mem_singleton.mp z]; simp)
      exact (S4.but (but_upd (by simp : le ∈ [le])) n1 n2).but (but_upd (by simp : D ∈ [D])) n3 n4
  · rintro H2 ⟨acc, rest, eD, er, pm, la, lr, b2, S2⟩
    have hl : ((xs.length : Nat) : Int).toNat = xs.length := by omega
    rw [hl] at la lr S2
    have rn : rest = [] := List.eq_nil_of_length_eq_zero (by omega)
    rw [rn, List.append_nil] at pm
    refine q D H2 acc pm (none_back sl nD) ?_ eD S2
    intro b o eb nb
    refine b2 _ _ (sl _ _ eb) fun z => ?_
    simp only [List.mem_cons, List.mem_nil_iff, or_false] at z nb
    rcases z with z | z | z
    · exact nb (.inl z)
    · exact nb (.inr z)
    · rw [z, nle] at eb; cases eb
end
end P81
end
section
set_option Elab.async false
set_option linter.all false
set_option maxRecDepth 100000
set_option maxHeartbeats 4000000
namespace P81
open PySem PySem.Spec PyProof.Rows L2 ZG NK
theorem cut_any (xs : List V) (i : Nat) : cutV xs none (some (i : Nat)) = xs.take i := by
  by_cases h : i ≤ xs.length
  · exact cut_to xs i h
  · unfold cutV
    rw [HT.sIx_nat, show HT.sIx xs.length 0 none = 0 from HT.sIx_none .., List.drop_zero, Nat.min_eq_right (by omega), Nat.sub_zero, List.take_length, List.take_of_length_le (by omega)]
/-- a rearranged list of like things -/
theorem perm_map {α : Type} {f : α → V} {g : V → α} (hg : ∀ a, g (f a) = a) {ys : List V} {xs : List α} (h : List.Perm ys (xs.map f)) : ∃ zs : List α, ys = zs.map f ∧ List.Perm zs xs := by
  refine ⟨ys.map g, ?_, ?_⟩
  · rw [List.map_map]
    have e : ∀ y ∈ ys, (f ∘ g) y = y := fun y hy => by
      obtain ⟨a, _, rfl⟩ := List.mem_map.mp (h.mem_iff.mp hy)
      show f (g (f a)) = f a
      rw [hg]
    exact ((List.map_congr_left e).trans (List.map_id ys)).symm
  · have z := h.map g
    rw [List.map_map] at z
    have e : ∀ y ∈ xs, (g ∘ f) y = y := fun y _ => hg y
    rw [(List.map_congr_left e).trans (List.map_id xs)] at z
    exact z
def unStr : V → Str
  | .str s => s
  | _ => "a"
def unRef : V → Addr
  | .ref a => a
  | _ => 0
def unInt : V → Int
  | .int a => a
  | _ => 0
theorem perm_strs {ys : List V} {xs : List Str} (h : ys.Perm (xs.map V.str)) : ∃ zs : List Str, ys = zs.map V.str ∧ zs.Perm xs := perm_map (g := unStr) (fun _ => rfl) h
theorem perm_refs {ys : List V} {xs : List Addr} (h : ys.Perm (xs.map V.ref)) : ∃ zs : List Addr, ys = zs.map V.ref ∧ zs.Perm xs := perm_map (g := unRef) (fun _ => rfl) h
theorem perm_nums {ys : List V} {xs : List Int} (h : ys.Perm (xs.map V.int)) : ∃ zs : List Int, ys = zs.map V.int ∧ zs.Perm xs := perm_map (g := unInt) (fun _ => rfl) h
/-- the law's seven suspects -/
def seven : List Str := ["a", "b", "c1", "d", "zed", "m9", "k"]
def nameB (x : Str) : Bool := decide (1 ≤ x.length) && (decide (x.length ≤ 12) && ((match x.cps[0]? with | some c => decide (c ∈ smallS.cps.toList) | none => false) && x.cps.toList.all fun c => decide (c ∈ smallS.cps.toList ∨ c ∈ figS.cps.toList)))
theorem nameB_ok {x : Str} (h : nameB x = true) : NameOk x := by
  unfold nameB at h
  rw [Bool.and_eq_true, Bool.and_eq_true, Bool.and_eq_true] at h
  obtain ⟨h1, h2, h3, h4⟩ := h
  refine ⟨of_decide_eq_true h1, of_decide_eq_true h2, ?_, fun i c hc => ?_⟩
  · cases e : x.cps[0]? with
    | none => rw [e] at h3; cases h3
    | some c =>
      rw [e] at h3
      exact ⟨c, rfl, of_decide_eq_true h3⟩
  · exact of_decide_eq_true (List.all_eq_true.mp h4 c (Array.mem_toList_iff.mpr (Array.mem_of_getElem? hc)))
theorem seven_ok : ∀ x ∈ seven, NameOk x := fun x hx => nameB_ok (List.all_eq_true.mp (show seven.all nameB = true by decide +kernel) x hx)
theorem seven_nd : seven.Nodup := by decide +kernel
theorem stranger_ok : NameOk "stranger" := nameB_ok (by decide +kernel)
theorem stranger_no : (("stranger" : Str)) ∉ seven := by decide +kernel
/-- t is run with some end, and the end is weakened -/
def tVia (t : TS) : TS := fun D σ H => ∃ I : L2.St → Hp → Prop, t { D with nx := I } σ H ∧ ∀ σ' H', I σ' H' → D.nx σ' H'
theorem ps_via {X : Cx} {st : Stmt} {t : TS} (h : PS X st t) : PS X st (tVia t) := ⟨fun pins s σ H D Iv ⟨I, h1, h2⟩ => thn (h.run pins s σ H { D with nx := I } Iv h1) fun f s' x => by
  cases f with
  | next =>
    obtain ⟨σ', H', i, n⟩ := x
    exact ⟨σ', H', i, h2 _ _ n⟩
  | _ => exact x⟩
/-- a list of names, new since H0 -/
def Good (H0 : Hp) (Pr : List Str → Prop) (H : Hp) (a : Addr) : Prop := H0 a = none ∧ ∃ r, Pr r ∧ H a = some (.lst (r.map V.str))
theorem Good.mono {H0 H H' : Hp} {Pr : List Str → Prop} {a : Addr} (h : Good H0 Pr H a) (m : ∀ o, H a = some o → H' a = some o) : Good H0 Pr H' a := by
  obtain ⟨h0, r, hr, e⟩ := h
  exact ⟨h0, r, hr, m _ e⟩
theorem rows_of {H : Hp} {Pr : List Str → Prop} : ∀ {as : List Addr}, (∀ a ∈ as, ∃ r, Pr r ∧ H a = some (.lst (r.map V.str))) → ∃ rs, RowsAt H as rs ∧ (∀ r ∈ rs, Pr r)
  | [], _ => ⟨[], ⟨rfl, fun i a r h _ => by simp at h⟩, fun r hr => nomatch hr⟩
  | a :: as, h => by
    obtain ⟨rs, ⟨l, h1⟩, h2⟩ := rows_of (as := as) fun b hb => h b (List.mem_cons_of_mem _ hb)
    obtain ⟨r, hr, e⟩ := h a List.mem_cons_self
    refine ⟨r :: rs, ⟨by rw [List.length_cons, List.length_cons, l], fun i b q g1 g2 => ?_⟩, fun q hq => ?_⟩
    · cases i with
      | zero =>
        obtain rfl : a = b := by simpa using g1
        obtain rfl : r = q := by simpa using g2
        exact e
      | succ i => exact h1 i b q (by simpa using g1) (by simpa using g2)
    · rcases List.mem_cons.mp hq with z | z
      · rw [z]; exact hr
      · exact h2 q z
structure AL (H0 H : Hp) (st c pn pa : Addr) (ns : List Str) (Pr : List Str → Prop) (as : List Addr) (N : Nat) : Prop where
  b : But [st, c] H0 H
  S : StreamAt H st c N
  hn : H0 pn = none
  en : H pn = some (.lst (ns.map V.str))
  h0 : H0 pa = none
  ea : H pa = some (.lst (as.map V.ref))
  no : pa ∉ as
  pn_ : pa ≠ pn
  gd : ∀ a ∈ as, Good H0 Pr H a
theorem AL.next {H0 H H' : Hp} {st c pn pa : Addr} {ns : List Str} {Pr : List Str → Prop} {as : List Addr} {N N0 N' : Nat} (k : AL H0 H st c pn pa ns Pr as N) (S0 : StreamAt H0 st c N0) (b : But [st, c] H H') (S : StreamAt H' st c N') : AL H0 H' st c pn pa ns Pr as N' :=
  ⟨k.b.trans b, S, k.hn, b _ _ k.en (S0.ne k.hn), k.h0, b _ _ k.ea (S0.ne k.h0), k.no, k.pn_, fun a ha => (k.gd a ha).mono fun o e => b _ _ e (S0.ne (k.gd a ha).1)⟩
/-- the list of askings is written -/
theorem AL.put {H0 H : Hp} {st c pn pa : Addr} {ns : List Str} {Pr Pr' : List Str → Prop} {as as' : List Addr} {N N0 : Nat} (k : AL H0 H st c pn pa ns Pr as N) (S0 : StreamAt H0 st c N0) (no : pa ∉ as') (gd : ∀ a ∈ as', Good H0 Pr' H a) : AL H0 (upd H pa (.lst (as'.map V.ref))) st c pn pa ns Pr' as' N := by
  have np := S0.ne k.h0
  have n1 : st ∉ [pa] := fun z => np (by rw [List.mem_singleton.mp z]; simp)
  have n2 : c ∉ [pa] := fun z => np (by rw [List.mem_singleton.mp z]; simp)
  refine ⟨fun b o e n => ?_, k.S.but (but_upd (by simp : pa ∈ [pa])) n1 n2, k.hn, ?_, k.h0, upd_same, no, k.pn_, fun a ha => (gd a ha).mono fun o e => ?_⟩
  · rw [upd_ne (ne_of_none e k.h0)]; exact k.b _ _ e n
  · rw [upd_ne k.pn_.symm]; exact k.en
  · rw [upd_ne (fun z => no (by rw [← z]; exact ha))]; exact e
def RowIn (ns r : List Str) : Prop := (∀ x ∈ r, x ∈ ns) ∧ r.Nodup
theorem nodup_few {r ns : List Str} (h : ∀ x ∈ r, x ∈ ns) (nd : r.Nodup) : r.length ≤ ns.length := nodup_le nd h
theorem RowIn.ok {ns r : List Str} (h : RowIn ns r) (hn : ∀ x ∈ ns, x ∈ seven) (h7 : ns.length ≤ 7) : NamesOk r :=
  ⟨fun x hx => seven_ok x (hn x (h.1 x hx)), h.2, by have := nodup_few h.1 h.2; omega⟩
theorem RowIn.more {ns r : List Str} (h : RowIn ns r) (hn : ∀ x ∈ ns, x ∈ seven) (h7 : ns.length ≤ 7) : NamesOk (r ++ [("stranger" : Str)]) := by
  refine ⟨fun x hx => ?_, ?_, ?_⟩
  · rcases List.mem_append.mp hx with z | z
    · exact seven_ok x (hn x (h.1 x z))
    · rw [List.mem_singleton.mp z]; exact stranger_ok
  · rw [List.nodup_append]
    refine ⟨h.2, by simp, fun a ha b hb e => ?_⟩
    rw [List.mem_singleton.mp hb] at e
    exact stranger_no (e ▸ hn a (h.1 a ha))
  · have := nodup_few h.1 h.2
    rw [List.length_append]
    show r.length + 1 ≤ 100
    omega
section
variable {P : Program} {w : World} {K : PySem.W.Frag} {mg : Str → Option Value} {base : Heap}
theorem scMSuspects : FnScope ["_law_stream", "_law_most", "_law_names", "_law_askings", "_law_way", "_law_k", "_law_at", "_law_name"] ["_law_stream", "_law_most"] (defScope sMSuspects) := ⟨rfl, rfl, rfl, by decide +kernel, rfl, by decide +kernel, by decide +kernel⟩
def spMSuspects : Sp := fun vs H Q _ => ∃ (st c : Addr) (N : Nat), vs = [.ref st, .int 4] ∧ StreamAt H st c N ∧ N < 50000 ∧
  ∀ t a b as ns rs H', But [st, c] H H' → StreamAt H' st c (N + 200) → H' t = some (.tup [.ref a, .ref b]) → (∀ L : Int, L = 0 ∨ L = 1 → Ask H' a b false as ns rs L) → H a = none → H b = none → (∀ x ∈ as, H x = none) → Q (.ref t) H'
theorem ok_m_suspects {f f1 f2 : Addr} {fd d1 d2 : FuncData} (F : Fun K "_law_m_suspects" "_law_m_suspects" sMSuspects f fd) (T : BI mg) (D_draw : DefAt K mg "_law_draw" sDraw ["_law_stream", "_law_many"] f1 d1)
    (D_mixed : DefAt K mg "_law_mixed" sMixed ["_law_stream", "_law_some"] f2 d2) : FnOk P w K mg base CX0 3 f fd ["_law_stream", "_law_most"] spMSuspects := by
  have G_draw : FnOk P w K mg base CX0 1 f1 d1 ["_law_stream", "_law_many"] spDraw := ok_draw D_draw.F T
  have G_mixed : FnOk P w K mg base CX0 2 f2 d2 ["_law_stream", "_law_some"] spMixed := ok_mixed D_mixed.F T D_draw
  refine F.ok scMSuspects (fun vs H Q E h => ?_) (fun cdv A outer s H vs Q E hr h => ?_)
  · obtain ⟨st, c, N, rfl, _⟩ := h
    rfl
  obtain ⟨st, c, N, rfl, S, hN, q⟩ := h
  have hr1 : Room 1 _ := hr.mono (by decide)
  have hr2 : Room 2 _ := hr.mono (by decide)
  refine ⟨_, pss_cons (ps_set (i := 2) scMSuspects.nd rfl (.inr rfl) (pe_slice (slL K) (pe_call G_mixed hr2 (by rfl) D_mixed.g D_mixed.F.kp D_mixed.b .nil pass0 (pa_cons (pv 0) (pa_cons (pe_lst (pa_cons pe_str (pa_cons pe_str (pa_cons pe_str (pa_cons pe_str (pa_cons pe_str (pa_cons pe_str (pa_cons pe_str pa_nil)))))))) pa_nil))) po_none (po_some (pe_op op_add pe_int (pe_call G_draw hr1 (by rfl) D_draw.g D_draw.F.kp D_draw.b .nil pass0 (pa_cons (pv 0) (pa_cons (pv 1) pa_nil)))))))
    (pss_cons (ps_par (i := 3) (j := 4) (by rfl) scMSuspects.nd rfl rfl (by decide) rfl rfl (pa_cons (pe_lst pa_nil) (pa_cons (pe_call G_draw hr1 (by rfl) D_draw.g D_draw.F.kp D_draw.b .nil pass0 (pa_cons (pv 0) (pa_cons pe_int pa_nil))) pa_nil)) (by rfl))
    (pss_cons (ps_via (ps_if (pt_cmpR op_eq (pv 4) pe_int (nomark _))
      (pss_one (ps_setLc (i := 3) (own := [("_law_at", 6)]) (g := (gName 6)) (tt := tYes) rfl scMSuspects.nd rfl rfl (sw_true rfl rfl rfl (by decide +kernel)) (pi_range2 (by rfl) T.range (pa_cons pe_int (pa_cons (pe_callB (crLen K) (by rfl) T.len (by decide +kernel) (pa_cons (pv 2) pa_nil)) pa_nil))) (blkOk_by (N := ["_law_stream", "_law_most", "_law_names", "_law_askings", "_law_way", "_law_k", "_law_at", "_law_name"]) (sc := (defScope sMSuspects)) (by decide +kernel))
        (fun _ _ _ _ _ => (pg_name (i := 6) scMSuspects.nd rfl (.inl rfl))) (fun _ _ _ _ _ => pts_nil)
        (fun _ _ _ _ _ => (pe_slice (slL K) (pv 2) po_none (po_some (pv 6)))))) pss_nil))
    (pss_cons (ps_for PassesOwn.never rfl (pi_range1 (by rfl) T.range (pa_cons (pe_op op_add pe_int (pe_call G_draw hr1 (by rfl) D_draw.g D_draw.F.kp D_draw.b .nil pass0 (pa_cons (pv 0) (pa_cons pe_int pa_nil)))) pa_nil)) (pg_name (i := 5) scMSuspects.nd rfl (.inl rfl))
      (pss_one (ps_expr (pe_bm PySem.F.plainAttrs_list PySem.F.slot_list_append PySem.F.type_list_append mt_append (pv 3) (pa_cons (pe_lc (own := [("_law_name", 7)]) (g := (gName 7)) rfl scMSuspects.nd (pseq K false (pe_call G_mixed hr2 (by rfl) D_mixed.g D_mixed.F.kp D_mixed.b .nil pass0 (pa_cons (pv 0) (pa_cons (pv 2) pa_nil)))) (blkOk_by (N := ["_law_stream", "_law_most", "_law_names", "_law_askings", "_law_way", "_law_k", "_law_at", "_law_name"]) (sc := (defScope sMSuspects)) (by decide +kernel))
        (fun _ _ _ _ _ => (pg_name (i := 7) scMSuspects.nd rfl (.inl rfl))) (fun _ _ _ _ _ => (pts_one (pt_cmpR op_eq (pe_call G_draw hr1 (by rfl) D_draw.g D_draw.F.kp D_draw.b .nil pass0 (pa_cons (pv 0) (pa_cons pe_int pa_nil))) pe_int (nomark _))))
        (fun _ _ _ _ _ => (pv 7))) pa_nil)))))
    (pss_cons (ps_via (ps_if (pt_cmpR op_eq (pv 4) pe_int (nomark _))
      (pss_one (ps_asg (pe_op op_cat (pe_ix (ixL K) (pv 3) (pe_un un_neg pe_int) (fun _ _ => rfl)) (pe_lst (pa_cons pe_str pa_nil))) (pg_sub (pv 3) (pe_un un_neg pe_int) set_list))) pss_nil))
    (pss_one (ps_ret (pe_tup (pa_cons (pv 2) (pa_cons (pe_slice (slL K) (pe_call G_mixed hr2 (by rfl) D_mixed.g D_mixed.F.kp D_mixed.b .nil pass0 (pa_cons (pv 0) (pa_cons (pv 3) pa_nil))) po_none (po_some pe_int)) pa_nil))))))))), ?_⟩
  -- the names
  refine ⟨_, rfl, by show 7 ≤ sizeLine; decide, fun a7 n7 => ⟨st, c, a7, N, seven.map V.str, rfl, S.same (same_new n7 _), by show N + 7 < 100000; omega, upd_same, by decide, fun l7 H1 ys pm nl b1 el S1 => ?_⟩⟩
  obtain ⟨zs, rfl, pz⟩ := perm_strs pm
  refine ⟨_, rfl, _, rfl, st, c, N + 7, 4, rfl, S1, by omega, by decide, by decide, fun d H2 hd b2 S2 => ?_⟩
  have nls : l7 ∉ [st, c] := (S.same (same_new n7 _)).ne nl
  refine ⟨_, _, rfl, rfl, _, rfl, l7, _, rfl, SqL.of (b2 _ _ el nls), fun pn npn => ?_⟩
  have b02 : But [st, c] H H2 := ((Same.but (same_new n7 _)).trans b1).trans b2
  have sn := same_new npn (.lst (cutV (zs.map V.str) none (some (1 + (d : Int)))))
  have en : (upd H2 pn (.lst (cutV (zs.map V.str) none (some (1 + (d : Int)))))) pn = some (.lst ((zs.take (1 + d)).map V.str)) := by
    rw [upd_same, show (1 + (d : Int)) = ((1 + d : Nat) : Int) by omega, cut_any, List.map_take]
  have lz : zs.length = 7 := pz.length_eq
  have hz : ∀ x ∈ zs, x ∈ seven := fun x hx => pz.mem_iff.mp hx
  have hns : ∀ x ∈ zs.take (1 + d), x ∈ seven := fun x hx => hz x (List.mem_of_mem_take hx)
  have nns : (zs.take (1 + d)).Nodup := (pz.nodup_iff.mpr seven_nd).sublist (List.take_sublist _ _)
  have l1 : 1 ≤ (zs.take (1 + d)).length := by rw [List.length_take]; omega
  have l2 : (zs.take (1 + d)).length ≤ 4 := by rw [List.length_take]; omega
  have b03 := b02.trans (Same.but sn)
  have S3 := S2.same sn
  have hpn : H pn = none := by
    cases z : H pn with
    | none => rfl
    | some o =>
      have nb : pn ∉ [st, c] := S2.ne npn
      rw [b02 _ _ z nb] at npn; cases npn
  generalize hns' : zs.take (1 + d) = ns at en hns nns l1 l2
  generalize upd H2 pn (.lst (cutV (zs.map V.str) none (some (1 + (d : Int))))) = H3 at sn en b03 S3 ⊢
  -- [], a draw
  refine ⟨by show 0 ≤ sizeLine; decide, fun p0 np0 => ⟨_, rfl, st, c, N + 8, 4, rfl, S3.same (same_new np0 _), by omega, by decide, by decide, fun way H4 hway b4 S4 => ⟨_, _, rfl, ?_⟩⟩⟩
  have frs : ∀ {Hx : Hp} {p : Addr}, But [st, c] H Hx → Hx p = none → p ∉ [st, c] → H p = none := fun {Hx p} b np no => by
    cases z : H p with
    | none => rfl
    | some o => rw [b _ _ z no] at np; cases np
  have b04 : But [st, c] H H4 := (b03.trans (Same.but (same_new np0 _))).trans b4
  have pnn : pn ∉ [st, c] := S.ne hpn
  have en4 : H4 pn = some (.lst (ns.map V.str)) := b4 _ _ (same_new np0 _ _ _ en) pnn
  have p0n : p0 ∉ [st, c] := S3.ne np0
  have hp0 : H p0 = none := frs b03 np0 p0n
  have e04 : H4 p0 = some (.lst []) := b4 _ _ upd_same p0n
  have L4 : AL H H4 st c pn p0 ns (RowIn ns) [] (N + 9) := ⟨b04, S4, hpn, en4, hp0, e04, by simp, ne_of e04 en4 (fun z => by cases ns with | nil => simp at l1 | cons => simp at z), fun a ha => by simp at ha⟩
  refine ⟨fun σ' H' => ∃ pa as y5 y6 y7, σ' = [some (.ref st), some (.int 4), some (.ref pn), some (.ref pa), some (.int (way : Int)), y5, y6, y7] ∧ AL H H' st c pn pa ns (RowIn ns) as (N + 9) ∧ as.length ≤ 4, ⟨_, rfl, rfl, _, rfl, ?_⟩, ?_⟩
  · by_cases w0 : way = 0
    · rw [decide_eq_true (show V.int ((way : Nat) : Int) = V.int 0 by rw [w0]; rfl)]
      refine iteT ⟨_, rfl, pn, _, rfl, .inl (SqL.of en4), _, _, rfl, ⟨by omega, by omega, by omega, by rw [List.length_map]; omega⟩, fun D nD => ?_⟩
      have hD : H D = none := frs b04 nD (S4.ne nD)
      rw [List.length_map]
      refine lc_it walk_range (fun j H5 => ∃ as, H5 D = some (.lst (as.map V.ref)) ∧ D ∉ as ∧ (∀ a ∈ as, Good H (RowIn ns) H5 a) ∧ as.length = j ∧ Same H4 H5) ⟨[], upd_same, by simp, fun a ha => by simp at ha, rfl, same_new nD _⟩ (fun _ _ _ _ => True.intro) ?_ ?_
      · rintro j y H5 H6 hj ⟨as, eD, nin, gd, la, s5⟩ ⟨rfl, rfl⟩
        refine ⟨rfl, yesI ⟨.ref pn, rfl, _, rfl, _, rfl, pn, _, rfl, SqL.of (s5 _ _ en4), fun p np => ?_⟩⟩
        have sp := same_new np (.lst (cutV (ns.map V.str) none (some (1 + (j : Int)))))
        have ep : (upd H6 p (.lst (cutV (ns.map V.str) none (some (1 + (j : Int)))))) p = some (.lst ((ns.take (1 + j)).map V.str)) := by
          rw [upd_same, show (1 + (j : Int)) = ((1 + j : Nat) : Int) by omega, cut_any, List.map_take]
        have hp : H p = none := frs (b04.trans (Same.but s5)) np ((S4.same s5).ne np)
        have npD : D ≠ p := ne_of_none eD np
        refine ⟨_, sp _ _ eD, ?_, as ++ [p], ?_, ?_, ?_, ?_, same_upd (s5.trans sp) nD⟩
        · rw [List.length_map, la]
          exact small1000 (by omega)
        · rw [upd_same, map_snoc]
        · rw [List.mem_append, not_or]
          exact ⟨nin, fun z => npD (List.mem_singleton.mp z)⟩
        · intro a ha
          rcases List.mem_append.mp ha with z | z
          · refine ((gd a z).mono fun o e => sp _ _ e).mono fun o e => ?_
            rw [upd_ne (fun y => nin (by rw [← y]; exact z))]
            exact e
          · rw [List.mem_singleton.mp z]
            refine ⟨hp, ns.take (1 + j), ⟨fun x hx => List.mem_of_mem_take hx, nns.sublist (List.take_sublist _ _)⟩, ?_⟩
            rw [upd_ne npD.symm]
            exact ep
        · rw [List.length_append, la]
          rfl
      · rintro H5 ⟨as, eD, nin, gd, la, s5⟩
        refine ⟨D, as, _, _, _, rfl, ⟨b04.trans (Same.but s5), S4.same s5, hpn, s5 _ _ en4, hD, eD, nin, (ne_of_none en4 nD).symm, gd⟩, by omega⟩
    · rw [decide_eq_false (show ¬ V.int ((way : Nat) : Int) = V.int 0 from fun z => w0 (by injection z; omega))]
      exact iteF ⟨p0, [], _, _, _, rfl, L4, by simp⟩
  clear L4 e04 hp0 p0n en4 b04 S4 b4 np0
  rintro σ H4 ⟨pa, as, y5, y6, y7, rfl, L4, la⟩
  -- the askings
  refine ⟨_, rfl, st, c, N + 9, 4, rfl, L4.S, by omega, by decide, by decide, fun d5 H5 hd5 b5 S5 => ⟨_, _, rfl, rfl, _, rfl, by omega, by omega, ?_⟩⟩
  refine for_it walk_range (fun j σ H6 => ∃ as y5 y6 y7, σ = [some (.ref st), some (.int 4), some (.ref pn), some (.ref pa), some (.int (way : Int)), y5, y6, y7] ∧ AL H H6 st c pn pa ns (RowIn ns) as (N + 10 + j * 10) ∧ as.length ≤ 4 + j ∧ j ≤ as.length)
    ⟨as, _, _, _, rfl, L4.next S b5 S5, by omega, by omega⟩ (fun _ _ _ _ _ => True.intro) ?_ ?_
  · rintro j y σ H6 H7 hj ⟨as, y5, y6, y7, rfl, L6, la, lj⟩ ⟨rfl, rfl⟩
    have hj : j < 4 := by
      have : ((1 + (d5 : Int))).toNat = 1 + d5 := by omega
      omega
    refine ⟨_, rfl, .inl ⟨rfl, _, SqL.of L6.ea⟩, _, rfl, _, rfl, st, c, pn, N + 10 + j * 10, ns.map V.str, rfl, L6.S, by rw [List.length_map]; omega, L6.en, by rw [List.length_map]; omega, fun l H8 ys pm nl b8 el S8 => ?_⟩
    obtain ⟨us, rfl, pu⟩ := perm_strs pm
    have L8 := L6.next S b8 S8
    have nls := L6.S.ne nl
    have lus : us.length = ns.length := pu.length_eq
    have hl : H l = none := frs L6.b nl nls
    refine ⟨l, _, rfl, sq_Sq (t := false) el, fun D nD => ?_⟩
    have nDs := S8.ne nD
    have hD : H D = none := frs L8.b nD nDs
    refine lc_it walkS (fun i H9 => ∃ row : List Str, H9 D = some (.lst (row.map V.str)) ∧ List.Sublist row (us.take i) ∧ But [st, c] H8 H9 ∧ StreamAt H9 st c (N + 10 + j * 10 + ns.length + i)) ⟨[], upd_same, by simp, Same.but (same_new nD _), (S8.same (same_new nD _)).le (by rw [List.length_map]; omega)⟩ (fun i H9 _ ⟨_, _, _, b9, _⟩ => sq_Sq (t := false) (b9 _ _ el nls)) ?_ ?_
    · rintro i y H9 H10 hi ⟨row, eD, sub, b9, S9⟩ ⟨rfl, hy⟩
      rw [List.length_map] at hi
      rw [List.getElem?_map, List.getElem?_eq_getElem hi] at hy
      obtain rfl : V.str us[i] = y := Option.some.inj hy
      have lr := sub.length_le
      rw [List.length_take] at lr
      refine ⟨rfl, _, rfl, st, c, N + 10 + j * 10 + ns.length + i, 2, rfl, S9, by omega, by decide, by decide, fun d11 H11 hd11 b11 S11 => ⟨rfl, _, rfl, ?_⟩⟩
      have eD11 := b11 _ _ eD nDs
      have gu : us[i]? = some us[i] := List.getElem?_eq_getElem hi
      by_cases c0 : d11 = 0
      · rw [decide_eq_true (show V.int ((d11 : Nat) : Int) = V.int 0 by rw [c0]; rfl)]
        refine ifT ⟨_, rfl, _, eD11, ?_, row ++ [us[i]], ?_, ?_, ?_, ?_⟩
        · rw [List.length_map]
          exact small1000 (by omega)
        · rw [upd_same, List.map_append]
          rfl
        · rw [take_snoc gu]
          exact sub.append (List.Sublist.refl _)
        · intro b o eb nb
          rw [upd_ne (ne_of_none eb nD)]
          exact (b9.trans b11) _ _ eb nb
        · have n1 : st ∉ [D] := fun z => nDs (by rw [List.mem_singleton.mp z]; simp)
          have n2 : c ∉ [D] := fun z => nDs (by rw [List.mem_singleton.mp z]; simp)
          exact (S11.but (but_upd (by simp : D ∈ [D])) n1 n2).le (by omega)
      · rw [decide_eq_false (show ¬ V.int ((d11 : Nat) : Int) = V.int 0 from fun z => c0 (by injection z; omega))]
        refine iteF ⟨row, eD11, ?_, b9.trans b11, S11.le (by omega)⟩
        rw [take_snoc gu]
        exact sub.trans (List.sublist_append_left _ _)
    · rintro H9 ⟨row, eD, sub, b9, S9⟩
      have L9 := L8.next S b9 S9
      rw [List.length_map, List.take_length] at sub
      have rin : RowIn ns row := ⟨fun x hx => pu.mem_iff.mp (sub.subset hx), (pu.nodup_iff.mpr nns).sublist sub⟩
      have npa : D ≠ pa := (ne_of_none L8.ea nD).symm
      refine ⟨pa, _, _, rfl, rfl, L9.ea, ?_, ?_⟩
      · rw [List.length_map]
        exact small1000 (by omega)
      · refine ⟨as ++ [D], _, _, _, rfl, ?_, ?_, ?_⟩
        · rw [show (as.map V.ref ++ [V.ref D]) = (as ++ [D]).map V.ref by rw [List.map_append]; rfl]
          have z := L9.put (as' := as ++ [D]) (Pr' := RowIn ns) S ?_ ?_
          · exact ⟨z.b, z.S.le (by rw [List.length_map] at *; omega), z.hn, z.en, z.h0, z.ea, z.no, z.pn_, z.gd⟩
          · rw [List.mem_append, not_or]
            exact ⟨L9.no, fun z => npa (List.mem_singleton.mp z).symm⟩
          · intro a ha
            rcases List.mem_append.mp ha with z | z
            · exact L9.gd a z
            · rw [List.mem_singleton.mp z]
              exact ⟨hD, row, rin, eD⟩
        · rw [List.length_append]
          show as.length + 1 ≤ _
          omega
        · rw [List.length_append]
          show _ ≤ as.length + 1
          omega
  rintro σ H6 ⟨as, y5, y6, y7, rfl, L6, la, lj⟩
  have t5 : ((1 + (d5 : Int))).toNat = 1 + d5 := by omega
  rw [t5] at L6 la lj
  have L6 : AL H H6 st c pn pa ns (RowIn ns) as (N + 50) := ⟨L6.b, L6.S.le (by omega), L6.hn, L6.en, L6.h0, L6.ea, L6.no, L6.pn_, L6.gd⟩
  -- a stranger
  refine ⟨fun σ' H' => ∃ as y5 y6 y7, σ' = [some (.ref st), some (.int 4), some (.ref pn), some (.ref pa), some (.int (way : Int)), y5, y6, y7] ∧ AL H H' st c pn pa ns NamesOk as (N + 50) ∧ 1 ≤ as.length ∧ as.length ≤ 8, ⟨_, rfl, rfl, _, rfl, ?_⟩, ?_⟩
  · have rok : ∀ r, RowIn ns r → NamesOk r := fun r h => h.ok hns (by omega)
    have gdo : ∀ a ∈ as, Good H NamesOk H6 a := fun a ha => by
      obtain ⟨g0, r, hr, e⟩ := L6.gd a ha
      exact ⟨g0, r, rok r hr, e⟩
    by_cases w1 : way = 1
    · rw [decide_eq_true (show V.int ((way : Nat) : Int) = V.int 1 by rw [w1]; rfl)]
      have hl : as.length - 1 < as.length := by omega
      have ixl : ixN (as.map V.ref).length (-1) = some (as.length - 1) := by
        rw [List.length_map]
        unfold ixN
        rw [if_neg (by decide), if_pos (by omega)]
        congr 1
        omega
      have al : (as.map V.ref)[as.length - 1]? = some (.ref as[as.length - 1]) := by rw [List.getElem?_map, List.getElem?_eq_getElem hl]; rfl
      obtain ⟨g0, r, hr, er⟩ := L6.gd _ (List.getElem_mem hl)
      refine iteT ⟨_, rfl, _, rfl, pa, _, _, _, rfl, rfl, SqL.of L6.ea, by unfold atI; rw [ixl]; exact al, by show 1 ≤ sizeLine; decide, fun z nz => ?_⟩
      have s7 := same_new nz (.lst [.str "stranger"])
      have lr : r.length ≤ 4 := by have := nodup_few hr.1 hr.2; omega
      refine ⟨_, z, r.map V.str, [.str "stranger"], rfl, rfl, s7 _ _ er, upd_same, ?_, fun p np => ?_⟩
      · rw [List.length_map]
        exact small (by show r.length + 1 ≤ 1000; omega)
      have s8 := same_new np (.lst (r.map V.str ++ [.str "stranger"]))
      have L8 := L6.next S (Same.but (s7.trans s8)) (L6.S.same (s7.trans s8))
      have hp : H p = none := frs (L6.b.trans (Same.but s7)) np ((L6.S.same s7).ne np)
      refine ⟨_, rfl, _, rfl, pa, _, _, _, rfl, rfl, L8.ea, ixl, ?_⟩
      refine ⟨as.set (as.length - 1) p, _, _, _, rfl, ?_, by rw [List.length_set]; omega, by rw [List.length_set]; omega⟩
      rw [← List.map_set]
      refine L8.put S ?_ ?_
      · intro z
        rcases List.mem_or_eq_of_mem_set z with z | z
        · exact L8.no z
        · have e := L8.ea
          have := s7 _ _ L6.ea
          rw [z, np] at this
          cases this
      · intro a ha
        rcases List.mem_or_eq_of_mem_set ha with z | z
        · exact (gdo a z).mono fun o e => s8 _ _ (s7 _ _ e)
        · rw [z]
          refine ⟨hp, r ++ [("stranger" : Str)], hr.more hns (by omega), ?_⟩
          rw [upd_same, List.map_append]
          rfl
    · rw [decide_eq_false (show ¬ V.int ((way : Nat) : Int) = V.int 1 from fun z => w1 (by injection z; omega))]
      exact iteF ⟨as, _, _, _, rfl, ⟨L6.b, L6.S, L6.hn, L6.en, L6.h0, L6.ea, L6.no, L6.pn_, gdo⟩, by omega, by omega⟩
  clear L6 la lj
  rintro σ H6 ⟨as, y5, y6, y7, rfl, L6, lj, la⟩
  refine ⟨_, rfl, _, rfl, _, rfl, st, c, pa, N + 50, as.map V.ref, rfl, L6.S, by rw [List.length_map]; omega, L6.ea, by rw [List.length_map]; omega, fun l H8 ys pm nl b8 el S8 => ?_⟩
  obtain ⟨us, rfl, pu⟩ := perm_refs pm
  have L8 := L6.next S b8 S8
  refine ⟨_, rfl, l, _, rfl, SqL.of el, fun bb nbb => ?_⟩
  have s9 := same_new nbb (.lst (cutV (us.map V.ref) none (some 5)))
  have eb : (upd H8 bb (.lst (cutV (us.map V.ref) none (some 5)))) bb = some (.lst ((us.take 5).map V.ref)) := by
    rw [upd_same, show (5 : Int) = ((5 : Nat) : Int) from rfl, cut_any, List.map_take]
  have hbb : H bb = none := frs L8.b nbb (S8.ne nbb)
  have L9 := L8.next S (Same.but s9) (S8.same s9)
  refine ⟨by show 2 ≤ sizeLine; decide, fun t nt => ?_⟩
  have s10 := same_new nt (.tup [.ref pn, .ref bb])
  have L10 := L9.next S (Same.but s10) (L9.S.same s10)
  have hus : ∀ a ∈ us.take 5, a ∈ as := fun a ha => pu.mem_iff.mp (List.mem_of_mem_take ha)
  obtain ⟨rs, hrs, hok⟩ := rows_of (as := us.take 5) (Pr := NamesOk) fun a ha => (L10.gd a (hus a ha)).2
  have lus : us.length = as.length := pu.length_eq
  have lrs : rs.length = (us.take 5).length := hrs.1.symm
  rw [List.length_take] at lrs
  refine q t pn bb (us.take 5) ns rs _ L10.b (L10.S.le (by rw [List.length_map]; omega)) upd_same (fun L hL => ?_) hpn hbb (fun x hx => (L10.gd x (hus x hx)).1)
  exact ⟨L10.en, ⟨fun x hx => seven_ok x (hns x hx), nns, by omega⟩, l1, l2, s10 _ _ eb, hrs, hok, by omega, by omega, hL⟩
end
end P81
end
section
set_option Elab.async false
set_option linter.all false
set_option maxRecDepth 100000
set_option maxHeartbeats 4000000
namespace P81
open PySem PySem.Spec PyProof.Rows L2 ZG NK
section
variable {P : Program} {w : World} {K : PySem.W.Frag} {mg : Str → Option Value} {base : Heap}
theorem scSame : FnScope ["_law_found", "_law_due_here", "_law_x", "_law_y"] ["_law_found", "_law_due_here"] (defScope sSame) := ⟨rfl, rfl, rfl, by decide +kernel, rfl, by decide +kernel, by decide +kernel⟩
def spNone : Sp := fun _ _ _ _ => False
def spSame0 : Sp := fun vs H Q _ => ∃ o : Option Nat, vs = [optV o, optV o] ∧ ∀ H', Same H H' → Q (.bl true) H'
def spSame1 : Sp := fun vs H Q _ => ∃ (a b : Addr) (o : Option Nat), vs = [.ref a, .ref b] ∧ H a = some (.lst [optV o]) ∧ H b = some (.lst [optV o]) ∧ ∀ H', Same H H' → Q (.bl true) H'
theorem ok_same0 {f : Addr} {fd : FuncData} (T : BI mg) (D_same : DefAt K mg "_law_same" sSame ["_law_found", "_law_due_here"] f fd) : FnOk P w K mg base CX0 2 f fd ["_law_found", "_law_due_here"] spSame0 := by
  have G_same : FnOk P w K mg base CX0 1 f fd ["_law_found", "_law_due_here"] spNone := fn_never fun vs H Q E h => h
  refine D_same.F.ok scSame (fun vs H Q E h => ?_) (fun cdv A outer s H vs Q E hr h => ?_)
  · obtain ⟨o, rfl, _⟩ := h
    rfl
  obtain ⟨o, rfl, q⟩ := h
  refine ⟨_, pss_cons (ps_if (pt_val (pe_callB call_isiT (by rfl) T.isinstance (by decide +kernel) (pa_cons (pv 1) (pa_cons (pe_tup (pa_cons (pe_bltn (v := .ty "list") (by rfl) T.list (by decide +kernel) rfl) (pa_cons (pe_bltn (v := .ty "tuple") (by rfl) T.tuple (by decide +kernel) rfl) pa_nil))) pa_nil))))
      (pss_cons (ps_if (PW.pt (pw_or (pt_cmpR op_ne (pe_callB call_isi (by rfl) T.isinstance (by decide +kernel) (pa_cons (pv 0) (pa_cons (pe_bltn (v := .ty "list") (by rfl) T.list (by decide +kernel) rfl) pa_nil))) (pe_callB call_isi (by rfl) T.isinstance (by decide +kernel) (pa_cons (pv 1) (pa_cons (pe_bltn (v := .ty "list") (by rfl) T.list (by decide +kernel) rfl) pa_nil))) (nomark _)) (pw_or1 (pt_cmpR op_ne (pe_callB call_isi (by rfl) T.isinstance (by decide +kernel) (pa_cons (pv 0) (pa_cons (pe_bltn (v := .ty "tuple") (by rfl) T.tuple (by decide +kernel) rfl) pa_nil))) (pe_callB call_isi (by rfl) T.isinstance (by decide +kernel) (pa_cons (pv 1) (pa_cons (pe_bltn (v := .ty "tuple") (by rfl) T.tuple (by decide +kernel) rfl) pa_nil))) (nomark _)))))
        (pss_one (ps_ret pe_bl)) pss_nil)
      (pss_one (ps_ret (pe_and (pe_cmpR op_eq (pe_callB (crLen K) (by rfl) T.len (by decide +kernel) (pa_cons (pv 0) pa_nil)) (pe_callB (crLen K) (by rfl) T.len (by decide +kernel) (pa_cons (pv 1) pa_nil)) (nomark _)) (pe_one (pe_callB (cr_all rfl) (by rfl) T.all (by decide +kernel) (pa_cons (pe_lc (own := [("_law_x", 2), ("_law_y", 3)]) (g := (gTup K 2 (gCons (gName 2) (gCons (gName 3) gNil)))) (tt := tYes) rfl scSame.nd (pi_zipG false false (by rfl) T.zip (pa_cons (pv 0) (pa_cons (pv 1) pa_nil))) (blkOk_by (N := ["_law_found", "_law_due_here", "_law_x", "_law_y"]) (sc := (defScope sSame)) (by decide +kernel))
        (fun _ _ _ _ _ => (pg_tup (by rfl) (pgs_cons (pg_name (i := 2) scSame.nd rfl (.inl rfl)) (pgs_cons (pg_name (i := 3) scSame.nd rfl (.inl rfl)) pgs_nil)))) (fun _ _ _ _ _ => pts_nil)
        (fun _ _ _ _ _ => (pe_call G_same hr (by rfl) D_same.g D_same.F.kp D_same.b .nil pass0 (pa_cons (pv 2) (pa_cons (pv 3) pa_nil))))) pa_nil))))))) pss_nil)
    (pss_cons (ps_if (pt_val (pe_callB call_isi (by rfl) T.isinstance (by decide +kernel) (pa_cons (pv 1) (pa_cons (pe_bltn (v := .ty "dict") (by rfl) T.dict (by decide +kernel) rfl) pa_nil)))) (pss_one ps_never) pss_nil)
    (pss_cons (ps_if (pt_val (pe_callB call_isi (by rfl) T.isinstance (by decide +kernel) (pa_cons (pv 1) (pa_cons (pe_bltn (v := .ty "int") (by rfl) T.int (by decide +kernel) rfl) pa_nil))))
      (pss_one (ps_ret (pe_and (pe_callB call_isi (by rfl) T.isinstance (by decide +kernel) (pa_cons (pv 0) (pa_cons (pe_bltn (v := .ty "int") (by rfl) T.int (by decide +kernel) rfl) pa_nil))) (pe_and (pe_cmpR op_eq (pe_callB call_isi (by rfl) T.isinstance (by decide +kernel) (pa_cons (pv 0) (pa_cons (pe_bltn (v := .ty "bool") (by rfl) T.bool (by decide +kernel) rfl) pa_nil))) (pe_callB call_isi (by rfl) T.isinstance (by decide +kernel) (pa_cons (pv 1) (pa_cons (pe_bltn (v := .ty "bool") (by rfl) T.bool (by decide +kernel) rfl) pa_nil))) (nomark _)) (pe_one (pe_cmpR op_eq (pv 0) (pv 1) (nomark _))))))) pss_nil)
    (pss_one (ps_ret (pe_and (pe_not (pe_callB call_isiT (by rfl) T.isinstance (by decide +kernel) (pa_cons (pv 0) (pa_cons (pe_tup (pa_cons (pe_bltn (v := .ty "int") (by rfl) T.int (by decide +kernel) rfl) (pa_cons (pe_bltn (v := .ty "list") (by rfl) T.list (by decide +kernel) rfl) (pa_cons (pe_bltn (v := .ty "tuple") (by rfl) T.tuple (by decide +kernel) rfl) (pa_cons (pe_bltn (v := .ty "dict") (by rfl) T.dict (by decide +kernel) rfl) pa_nil))))) pa_nil)))) (pe_one (pe_cmpR op_eq (pv 0) (pv 1) (nomark _)))))))), ?_⟩
  cases o with
  | none =>
    refine ⟨_, rfl, by show 2 ≤ sizeLine; decide, fun t1 n1 => ?_⟩
    have s1 := same_new n1 (.tup [.ty "list", .ty "tuple"])
    refine ⟨.non, t1, _, .type "NoneType", [.type "list", .type "tuple"], false, rfl, upd_same, (.cons (.ty _) (.cons (.ty _) .nil)), .base .non, (kitAny_cons (b := false) (kit_ty (by decide +kernel)) (fun _ => (kitAny_cons (b := false) (kit_ty (by decide +kernel)) (fun _ => kitAny_nil) (fun z => nomatch z))) (fun z => nomatch z)), _, rfl, iteF ?_⟩
    refine ⟨_, rfl, .non, .ty "dict", .type "NoneType", .type "dict", false, rfl, .ty _, .base .non, kit_ty (by decide +kernel), _, rfl, iteF ⟨_, rfl, .non, .ty "int", .type "NoneType", .type "int", false, rfl, .ty _, .base .non, kit_ty (by decide +kernel), _, rfl, iteF ?_⟩⟩
    refine ⟨_, rfl, by show 4 ≤ sizeLine; decide, fun t2 n2 => ?_⟩
    have s2 := same_new n2 (.tup [.ty "int", .ty "list", .ty "tuple", .ty "dict"])
    refine ⟨.non, t2, _, .type "NoneType", [.type "int", .type "list", .type "tuple", .type "dict"], false, rfl, upd_same, (.cons (.ty _) (.cons (.ty _) (.cons (.ty _) (.cons (.ty _) .nil)))), .base .non, (kitAny_cons (b := false) (kit_ty (by decide +kernel)) (fun _ => (kitAny_cons (b := false) (kit_ty (by decide +kernel)) (fun _ => (kitAny_cons (b := false) (kit_ty (by decide +kernel)) (fun _ => (kitAny_cons (b := false) (kit_ty (by decide +kernel)) (fun _ => kitAny_nil) (fun z => nomatch z))) (fun z => nomatch z))) (fun z => nomatch z))) (fun z => nomatch z)), false, rfl, true, rfl, iteT ⟨_, rfl, _, rfl, rfl, ?_⟩⟩
    refine (?_ : Q (.bl (decide (V.non = V.non))) _)
    rw [decide_eq_true rfl]
    exact q _ (s1.trans s2)
  | some i =>
    refine ⟨_, rfl, by show 2 ≤ sizeLine; decide, fun t1 n1 => ?_⟩
    have s1 := same_new n1 (.tup [.ty "list", .ty "tuple"])
    refine ⟨.int ((i : Nat) : Int), t1, _, .type "int", [.type "list", .type "tuple"], false, rfl, upd_same, (.cons (.ty _) (.cons (.ty _) .nil)), .base (.int _), (kitAny_cons (b := false) (kit_ty (by decide +kernel)) (fun _ => (kitAny_cons (b := false) (kit_ty (by decide +kernel)) (fun _ => kitAny_nil) (fun z => nomatch z))) (fun z => nomatch z)), _, rfl, iteF ?_⟩
    refine ⟨_, rfl, .int ((i : Nat) : Int), .ty "dict", .type "int", .type "dict", false, rfl, .ty _, .base (.int _), kit_ty (by decide +kernel), _, rfl, iteF ⟨_, rfl, .int ((i : Nat) : Int), .ty "int", .type "int", .type "int", true, rfl, .ty _, .base (.int _), kit_ty (by decide +kernel), _, rfl, iteT ?_⟩⟩
    refine ⟨_, rfl, .int ((i : Nat) : Int), .ty "int", .type "int", .type "int", true, rfl, .ty _, .base (.int _), kit_ty (by decide +kernel), true, rfl, iteT ?_⟩
    refine ⟨_, rfl, .int ((i : Nat) : Int), .ty "bool", .type "int", .type "bool", false, rfl, .ty _, .base (.int _), kit_ty (by decide +kernel), _, rfl, .int ((i : Nat) : Int), .ty "bool", .type "int", .type "bool", false, rfl, .ty _, .base (.int _), kit_ty (by decide +kernel), rfl, true, rfl, iteT ⟨_, rfl, _, rfl, rfl, ?_⟩⟩
    · refine (?_ : Q (.bl (decide (V.int ((i : Nat) : Int) = V.int ((i : Nat) : Int)))) _)
      rw [decide_eq_true rfl]
      exact q _ s1
theorem ok_same1 {f : Addr} {fd : FuncData} (T : BI mg) (D_same : DefAt K mg "_law_same" sSame ["_law_found", "_law_due_here"] f fd) : FnOk P w K mg base CX0 3 f fd ["_law_found", "_law_due_here"] spSame1 := by
  have G_same : FnOk P w K mg base CX0 2 f fd ["_law_found", "_law_due_here"] spSame0 := ok_same0 T D_same
  refine D_same.F.ok scSame (fun vs H Q E h => ?_) (fun cdv A outer s H vs Q E hr h => ?_)
  · obtain ⟨a, b, o, rfl, _⟩ := h
    rfl
  obtain ⟨a, b, o, rfl, ea, eb, q⟩ := h
  refine ⟨_, pss_cons (ps_if (pt_val (pe_callB call_isiT (by rfl) T.isinstance (by decide +kernel) (pa_cons (pv 1) (pa_cons (pe_tup (pa_cons (pe_bltn (v := .ty "list") (by rfl) T.list (by decide +kernel) rfl) (pa_cons (pe_bltn (v := .ty "tuple") (by rfl) T.tuple (by decide +kernel) rfl) pa_nil))) pa_nil))))
      (pss_cons (ps_if (PW.pt (pw_or (pt_cmpR op_ne (pe_callB call_isi (by rfl) T.isinstance (by decide +kernel) (pa_cons (pv 0) (pa_cons (pe_bltn (v := .ty "list") (by rfl) T.list (by decide +kernel) rfl) pa_nil))) (pe_callB call_isi (by rfl) T.isinstance (by decide +kernel) (pa_cons (pv 1) (pa_cons (pe_bltn (v := .ty "list") (by rfl) T.list (by decide +kernel) rfl) pa_nil))) (nomark _)) (pw_or1 (pt_cmpR op_ne (pe_callB call_isi (by rfl) T.isinstance (by decide +kernel) (pa_cons (pv 0) (pa_cons (pe_bltn (v := .ty "tuple") (by rfl) T.tuple (by decide +kernel) rfl) pa_nil))) (pe_callB call_isi (by rfl) T.isinstance (by decide +kernel) (pa_cons (pv 1) (pa_cons (pe_bltn (v := .ty "tuple") (by rfl) T.tuple (by decide +kernel) rfl) pa_nil))) (nomark _)))))
        (pss_one (ps_ret pe_bl)) pss_nil)
      (pss_one (ps_ret (pe_and (pe_cmpR op_eq (pe_callB (crLen K) (by rfl) T.len (by decide +kernel) (pa_cons (pv 0) pa_nil)) (pe_callB (crLen K) (by rfl) T.len (by decide +kernel) (pa_cons (pv 1) pa_nil)) (nomark _)) (pe_one (pe_callB (cr_all rfl) (by rfl) T.all (by decide +kernel) (pa_cons (pe_lc (own := [("_law_x", 2), ("_law_y", 3)]) (g := (gTup K 2 (gCons (gName 2) (gCons (gName 3) gNil)))) (tt := tYes) rfl scSame.nd (pi_zipG false false (by rfl) T.zip (pa_cons (pv 0) (pa_cons (pv 1) pa_nil))) (blkOk_by (N := ["_law_found", "_law_due_here", "_law_x", "_law_y"]) (sc := (defScope sSame)) (by decide +kernel))
        (fun _ _ _ _ _ => (pg_tup (by rfl) (pgs_cons (pg_name (i := 2) scSame.nd rfl (.inl rfl)) (pgs_cons (pg_name (i := 3) scSame.nd rfl (.inl rfl)) pgs_nil)))) (fun _ _ _ _ _ => pts_nil)
        (fun _ _ _ _ _ => (pe_call G_same hr (by rfl) D_same.g D_same.F.kp D_same.b .nil pass0 (pa_cons (pv 2) (pa_cons (pv 3) pa_nil))))) pa_nil))))))) pss_nil)
    (pss_cons (ps_if (pt_val (pe_callB call_isi (by rfl) T.isinstance (by decide +kernel) (pa_cons (pv 1) (pa_cons (pe_bltn (v := .ty "dict") (by rfl) T.dict (by decide +kernel) rfl) pa_nil)))) (pss_one ps_never) pss_nil)
    (pss_cons (ps_if (pt_val (pe_callB call_isi (by rfl) T.isinstance (by decide +kernel) (pa_cons (pv 1) (pa_cons (pe_bltn (v := .ty "int") (by rfl) T.int (by decide +kernel) rfl) pa_nil))))
      (pss_one (ps_ret (pe_and (pe_callB call_isi (by rfl) T.isinstance (by decide +kernel) (pa_cons (pv 0) (pa_cons (pe_bltn (v := .ty "int") (by rfl) T.int (by decide +kernel) rfl) pa_nil))) (pe_and (pe_cmpR op_eq (pe_callB call_isi (by rfl) T.isinstance (by decide +kernel) (pa_cons (pv 0) (pa_cons (pe_bltn (v := .ty "bool") (by rfl) T.bool (by decide +kernel) rfl) pa_nil))) (pe_callB call_isi (by rfl) T.isinstance (by decide +kernel) (pa_cons (pv 1) (pa_cons (pe_bltn (v := .ty "bool") (by rfl) T.bool (by decide +kernel) rfl) pa_nil))) (nomark _)) (pe_one (pe_cmpR op_eq (pv 0) (pv 1) (nomark _))))))) pss_nil)
    (pss_one (ps_ret (pe_and (pe_not (pe_callB call_isiT (by rfl) T.isinstance (by decide +kernel) (pa_cons (pv 0) (pa_cons (pe_tup (pa_cons (pe_bltn (v := .ty "int") (by rfl) T.int (by decide +kernel) rfl) (pa_cons (pe_bltn (v := .ty "list") (by rfl) T.list (by decide +kernel) rfl) (pa_cons (pe_bltn (v := .ty "tuple") (by rfl) T.tuple (by decide +kernel) rfl) (pa_cons (pe_bltn (v := .ty "dict") (by rfl) T.dict (by decide +kernel) rfl) pa_nil))))) pa_nil)))) (pe_one (pe_cmpR op_eq (pv 0) (pv 1) (nomark _)))))))), ?_⟩
  refine ⟨_, rfl, by show 2 ≤ sizeLine; decide, fun t1 n1 => ?_⟩
  have s1 := same_new n1 (.tup [.ty "list", .ty "tuple"])
  have ea1 := s1 _ _ ea
  have eb1 := s1 _ _ eb
  refine ⟨.ref b, t1, _, .type "list", [.type "list", .type "tuple"], true, rfl, upd_same, .cons (.ty _) (.cons (.ty _) .nil), .base (.lst eb1), kitAny_cons (b := true) (kit_ty (by decide +kernel)) (fun z => nomatch z) (fun _ => rfl), _, rfl, iteT ?_⟩
  refine ⟨_, rfl, .ref a, .ty "list", .type "list", .type "list", true, rfl, .ty _, .base (.lst (ea1)), kit_ty (by decide +kernel), _, rfl, .ref b, .ty "list", .type "list", .type "list", true, rfl, .ty _, .base (.lst (eb1)), kit_ty (by decide +kernel), rfl, _, rfl, ?_⟩
  refine iteF ⟨_, rfl, .ref a, .ty "tuple", .type "list", .type "tuple", false, rfl, .ty _, .base (.lst (ea1)), kit_ty (by decide +kernel), _, rfl, .ref b, .ty "tuple", .type "list", .type "tuple", false, rfl, .ty _, .base (.lst (eb1)), kit_ty (by decide +kernel), rfl, _, rfl, ?_⟩
  refine iteF ?_
  refine ⟨_, rfl, a, _, rfl, .inl (SqL.of ea1), _, rfl, b, _, rfl, .inl (SqL.of eb1), rfl, true, rfl, iteT ?_⟩
  refine ⟨_, rfl, _, rfl, a, b, _, _, rfl, sq_Sq (t := false) (xs := [optV o]) ea1, sq_Sq (t := false) (xs := [optV o]) eb1, fun D nD => ?_⟩
  refine lc_it (walkZ (show 1 = min [optV o].length [optV o].length from rfl)) (fun j H2 => H2 D = some (.lst ((List.replicate j true).map V.bl)) ∧ Same (upd H t1 (.tup [.ty "list", .ty "tuple"])) H2) ⟨upd_same, same_new nD _⟩ (fun j H2 _ ⟨_, s2⟩ => ⟨sq_Sq (t := false) (s2 _ _ ea1), sq_Sq (t := false) (s2 _ _ eb1)⟩) ?_ ?_
  · rintro j y H2 H3 hj ⟨eD, s2⟩ ⟨Tp, x1, x2, rfl, nT, rfl, g1, g2⟩
    have j0 : j = 0 := by omega
    subst j0
    have g1 : some (optV o) = some x1 := g1
    have g2 : some (optV o) = some x2 := g2
    obtain rfl := Option.some.inj g1
    obtain rfl := Option.some.inj g2
    have s3 := s2.trans (same_new nT (.tup [optV o, optV o]))
    have hD3 := same_new nT (.tup [optV o, optV o]) _ _ eD
    refine ⟨Tp, _, rfl, .inl (.inl upd_same), rfl, _, _, rfl, _, _, rfl, rfl, rfl, yesI ⟨_, rfl, _, rfl, o, rfl, fun H4 s4 => ⟨_, s4 _ _ hD3, by show 0 < sizeLine; decide, upd_same, same_upd (s3.trans s4) nD⟩⟩⟩
  · rintro H2 ⟨eD, s2⟩
    refine ⟨D, [true], rfl, SqL.of eD, q H2 (s1.trans s2)⟩
end
end P81
end
section
set_option Elab.async false
set_option linter.all false
set_option maxRecDepth 100000
set_option maxHeartbeats 4000000
namespace P81
open PySem PySem.Spec PyProof.Rows L2 ZG NK
/-- one name is left -/
theorem left_single {L : Int} {ns : List Str} {s : List Int} {i : Nat} {x : Int} {n : Str} (lx : s.length = ns.length) (h : leftN L s < 2) (h1 : s[i]? = some x) (hx : x ≤ L) (h2 : ns[i]? = some n) : leftNames L ns s = [n] := by
  have l := leftNames_len L lx.symm
  have m : n ∈ leftNames L ns s := by
    unfold leftNames
    refine List.mem_map.mpr ⟨(n, x), List.mem_filter.mpr ⟨List.mem_of_getElem? (i := i) (List.getElem?_zip_eq_some.mpr ⟨h2, h1⟩), by simpa using hx⟩, rfl⟩
  rw [← l] at h
  cases e : leftNames L ns s with
  | nil => rw [e] at m; cases m
  | cons y r =>
    rw [e] at m h
    cases r with
    | nil => rw [List.mem_singleton.mp m]
    | cons z t => simp only [List.length_cons] at h; omega
/-- how often the one in question was answered wrong, at most -/
def cnt (late : Int) (k : Nat) : Int := if 0 ≤ late ∧ late < (k : Int) then 1 else 0
def hunt1 (R : List (List Bool)) (L late : Int) (i0 few : Nat) (n : Nat) (ans : List (Nat × Bool)) (m : Nat) : Prop :=
  (∀ p ∈ ans, p.1 < R.length) ∧ fewest R L (runC R L (zeros n) ans) = some m ∧ m + ans.length ≤ few ∧ ∃ x, (runC R L (zeros n) ans)[i0]? = some x ∧ x ≤ cnt late ans.length
theorem hunt_start {R : List (List Bool)} {L late : Int} {i0 few n : Nat} (h : fewest R L (zeros n) = some few) (hi : i0 < n) : hunt1 R L late i0 few n [] few := by
  refine ⟨(fun p hp => nomatch hp), h, Nat.le_refl _, 0, ?_, ?_⟩
  · show (zeros n)[i0]? = some 0
    rw [List.getElem?_replicate, if_pos hi]
  · unfold cnt
    split <;> omega
theorem hunt_step {R : List (List Bool)} {L late : Int} {i0 few n : Nat} (hR : Rows R n) (hL : 0 ≤ L) (hl : late = -1 ∨ 0 ≤ late) {ans : List (Nat × Bool)} {m i : Nat} {r : List Bool} {b : Bool} (h : hunt1 R L late i0 few n ans m) (hi : nextI R L (runC R L (zeros n) ans) = some i) (hr : R[i]? = some r) (hb : r[i0]? = some b) :
    ∃ m', m' < m ∧ hunt1 R L late i0 few n (ans ++ [(i, if (ans.length : Int) = late then !b else b)]) m' := by
  obtain ⟨h1, h2, h3, x, h4, h5⟩ := h
  have ls : (runC R L (zeros n) ans).length = n := runC_len hR h1 (by rw [List.length_replicate])
  cases m with
  | zero => rw [next_zero h2] at hi; cases hi
  | succ m =>
    obtain ⟨j, q, g1, g2, g3⟩ := next_some h2
    rw [hi] at g1
    obtain rfl := Option.some.inj g1
    rw [hr] at g2
    obtain rfl := Option.some.inj g2
    have lr : r.length = n := hR r (List.mem_of_getElem? hr)
    have tp := (fewest_least h2).2
    obtain ⟨k, e1, e2⟩ := next_less (by rw [ls, lr]) g3 (by omega) (if (ans.length : Int) = late then !b else b)
    have gd : R.getD i [] = r := by rw [List.getD_eq_getElem?_getD, hr]; rfl
    have e3 : runC R L (zeros n) (ans ++ [(i, if (ans.length : Int) = late then !b else b)]) = cap L (aft r (if (ans.length : Int) = late then !b else b) (runC R L (zeros n) ans)) := by
      rw [runC_snoc]
      show cap L (aft (R.getD i []) _ _) = _
      rw [gd]
    refine ⟨k, by omega, fun p hp => ?_, ?_, ?_, ?_⟩
    · rcases List.mem_append.mp hp with z | z
      · exact h1 p z
      · rw [List.mem_singleton.mp z]
        exact (List.getElem?_eq_some_iff.mp hr).1
    · rw [e3, fewest_congr (cap_cap L _)]
      exact e1
    · rw [List.length_append]
      show k + (ans.length + 1) ≤ few
      omega
    · rw [e3]
      refine ⟨capx L (x + wr b (if (ans.length : Int) = late then !b else b)), ?_, ?_⟩
      · unfold cap
        rw [List.getElem?_map, aft_get h4 hb]
        rfl
      · have c1 : capx L (x + wr b (if (ans.length : Int) = late then !b else b)) ≤ x + wr b (if (ans.length : Int) = late then !b else b) := by
          unfold capx
          split <;> omega
        refine Int.le_trans c1 ?_
        rw [List.length_append]
        show _ ≤ cnt late (ans.length + 1)
        by_cases c : (ans.length : Int) = late
        · rw [if_pos c]
          have w1 := wr_le b (!b)
          unfold cnt at h5 ⊢
          rw [if_neg (by omega)] at h5
          rw [if_pos (by omega)]
          omega
        · rw [if_neg c, wr_same]
          unfold cnt at h5 ⊢
          by_cases c2 : 0 ≤ late ∧ late < (ans.length : Int)
          · rw [if_pos c2] at h5
            rw [if_pos (by omega)]
            omega
          · rw [if_neg c2] at h5
            split <;> omega
theorem hunt_end {R : List (List Bool)} {L late : Int} {i0 few n : Nat} {ns : List Str} {one : Str} (hR : Rows R n) (hn : ns.length = n) (hL : late = -1 ∨ (0 ≤ late ∧ L = 1)) (hL0 : 0 ≤ L) {ans : List (Nat × Bool)} {m : Nat} (h : hunt1 R L late i0 few n ans m) (hi : nextI R L (runC R L (zeros n) ans) = none) (ho : ns[i0]? = some one) :
    leftNames L ns (runC R L (zeros n) ans) = [one] ∧ ans.length ≤ few := by
  obtain ⟨h1, h2, h3, x, h4, h5⟩ := h
  have m0 := next_none h2 hi
  subst m0
  have e := (fewest_least h2).1.1
  rw [enough_zero] at e
  refine ⟨left_single (by rw [runC_len hR h1 (by rw [List.length_replicate]), hn]) (of_decide_eq_true e) h4 ?_ ho, by omega⟩
  unfold cnt at h5
  split at h5 <;> omega
theorem name_strOk {x : Str} (h : NameOk x) : PyData.strOk x = true := by
  unfold PyData.strOk
  rw [Array.all_eq_true]
  intro i hi
  have z1 : ∀ c ∈ smallS.cps.toList, c < 0x110000 := by decide +kernel
  have z2 : ∀ c ∈ figS.cps.toList, c < 0x110000 := by decide +kernel
  refine decide_eq_true ?_
  rcases h.rest i x.cps[i] (Array.getElem?_eq_getElem hi) with z | z
  · exact z1 _ z
  · exact z2 _ z
theorem one_shaped (x : Str) (h : NameOk x) : SeqAt.shaped (.list [.str x]) = true := by
  show (PyData.canLay0 (.list [.str x]) && decide (PyData.depth (.list [.str x]) ≤ 64)) = true
  have z := name_strOk h
  simp [PyData.canLay0, PyData.canLayAll0, PyData.depth, PyData.depthAll, z]
section
variable {P : Program} {w : World} {K : PySem.W.Frag} {mg : Str → Option Value} {base : Heap}
theorem scHunted : FnScope ["_law_names", "_law_askings", "_law_lies", "_law_one", "_law_late", "_law_answers", "_law_index", "_law_answer"] ["_law_names", "_law_askings", "_law_lies", "_law_one", "_law_late"] (defScope sHunted) := ⟨rfl, rfl, rfl, by decide +kernel, rfl, by decide +kernel, by decide +kernel⟩
def spHunted : Sp := fun vs H Q _ => ∃ (a b : Addr) (as : List Addr) (ns : List Str) (rs : List (List Str)) (L : Int) (one : Str) (late : Int) (few : Nat), vs = [.ref a, .ref b, .int L, .str one, .int late] ∧ Ask H a b false as ns rs L ∧ one ∈ ns ∧ (late = -1 ∨ (0 ≤ late ∧ L = 1)) ∧
  fewest (signsOf ns rs) L (zeros ns.length) = some few ∧ ∀ (k : Nat) H', k ≤ few → Same H H' → Q (.int ((k : Nat) : Int)) H'
theorem ok_hunted {f f1 f2 : Addr} {fd d1 d2 : FuncData} (F : Fun K "_law_hunted" "_law_hunted" sHunted f fd) (T : BI mg) (D_ask_next : DefD K mg "ask_next" sAskNext ["suspects", "askings", "answers", "lies"] f1 d1) (G_ask_next : FnOk P w K mg base CX0 28 f1 d1 ["suspects", "askings", "answers", "lies"] spAskNext)
    (D_possible_ones : DefD K mg "possible_ones" sPossible ["suspects", "askings", "answers", "lies"] f2 d2) (G_possible_ones : FnOk P w K mg base CX0 6 f2 d2 ["suspects", "askings", "answers", "lies"] spPossible) : FnOk P w K mg base CX0 29 f fd ["_law_names", "_law_askings", "_law_lies", "_law_one", "_law_late"] spHunted := by
  refine F.ok scHunted (fun vs H Q E h => ?_) (fun cdv A outer s H vs Q E hr h => ?_)
  · obtain ⟨a, b, as, ns, rs, L, one, late, few, rfl, _⟩ := h
    rfl
  obtain ⟨a, b, as, ns, rs, L, one, late, few, rfl, k, ho, hl, hf, q⟩ := h
  have hr6 : Room 6 _ := hr.mono (by decide)
  have hu64 := hu64_of hr
  have hno : NameOk one := k.ns_.ok one ho
  have hL := k.hL
  have r2 := k.r2
  have lR : (signsOf ns rs).length = rs.length := signsOf_length ns rs
  have hRw : Rows (signsOf ns rs) ns.length := signsOf_len
  obtain ⟨i0, hi0, ei0⟩ := List.getElem_of_mem ho
  have go : ns[i0]? = some one := by rw [← ei0]; exact List.getElem?_eq_getElem hi0
  have few12 : few ≤ 12 := Nat.le_trans (fewest_least hf).2 (top_le hL (by rw [List.length_replicate]; exact k.l2))
  refine ⟨_, pss_cons (ps_par (i := 5) (j := 6) (by rfl) scHunted.nd rfl rfl (by decide) rfl rfl (pa_cons (pe_lst pa_nil) (pa_cons (pe_call G_ask_next hr (by rfl) D_ask_next.g D_ask_next.F.kp D_ask_next.b .nil pass0 (pa_cons (pv 0) (pa_cons (pv 1) (pa_cons (pe_lst pa_nil) (pa_cons (pv 2) pa_nil))))) pa_nil)) (by rfl))
    (pss_cons (ps_while PassesOwn.never (PW.pt (pw_and (pt_cmpR op_notN (pv 6) pe_non (nomark _)) (pw_and1 (pt_cmpR op_lt (pe_callB (crLen K) (by rfl) T.len (by decide +kernel) (pa_cons (pv 5) pa_nil)) pe_int (nomark _)))))
      (pss_cons (ps_set (i := 7) scHunted.nd rfl (.inl rfl) (pe_cmpR (opIn K) (pv 3) (pe_ix (ixL K) (pv 1) (pv 6) (fun _ _ => rfl)) rfl))
      (pss_cons (ps_expr (pe_bm PySem.F.plainAttrs_list PySem.F.slot_list_append PySem.F.type_list_append mt_append (pv 5) (pa_cons (pe_tup (pa_cons (pv 6) (pa_cons (pe_ifExp (pt_cmpR op_ne (pe_callB (crLen K) (by rfl) T.len (by decide +kernel) (pa_cons (pv 5) pa_nil)) (pv 4) (nomark _)) (pv 7) (pe_not (pv 7))) pa_nil))) pa_nil)))
      (pss_one (ps_set (i := 6) scHunted.nd rfl (.inl rfl) (pe_call G_ask_next hr (by rfl) D_ask_next.g D_ask_next.F.kp D_ask_next.b .nil pass0 (pa_cons (pv 0) (pa_cons (pv 1) (pa_cons (pv 5) (pa_cons (pv 2) pa_nil))))))))))
    (pss_one (ps_ret (pe_ifExp (pt_cmpR (op_eqD hu64) (pe_call G_possible_ones hr6 (by rfl) D_possible_ones.g D_possible_ones.F.kp D_possible_ones.b .nil pass0 (pa_cons (pv 0) (pa_cons (pv 1) (pa_cons (pv 5) (pa_cons (pv 2) pa_nil))))) (pe_lst (pa_cons (pv 3) pa_nil)) (nomark _)) (pe_callB (crLen K) (by rfl) T.len (by decide +kernel) (pa_cons (pv 5) pa_nil)) pe_non)))), ?_⟩
  generalize hRR : signsOf ns rs = R at *
  refine ⟨by show 0 ≤ sizeLine; decide, fun p np => ⟨_, rfl, _, rfl, by show 0 ≤ sizeLine; decide, fun e ne => ⟨_, rfl, ?_⟩⟩⟩
  have s1 := same_new np (.lst [])
  have s2 := same_new ne (.lst [])
  refine ⟨a, b, e, false, false, as, [], ns, rs, [], L, rfl, k.same (s1.trans s2), upd_same, AnsAt.nil _, fun p hp => (nomatch hp), by simp, fun H1 s3 => ?_⟩
  rw [hRR]
  have ep := s3 _ _ (s2 _ _ (upd_same : (upd H p (.lst [])) p = some (.lst [])))
  have s03 := (s1.trans s2).trans s3
  refine ⟨_, _, rfl, ?_⟩
  refine ⟨fun d σ H2 => ∃ (ans : List (Nat × Bool)) (cs : List Addr) (y7 : Option V), σ = [some (.ref a), some (.ref b), some (.int L), some (.str one), some (.int late), some (.ref p), some (optV (nextI R L (runC R L (zeros ns.length) ans))), y7] ∧ H2 p = some (.lst (cs.map V.ref)) ∧ AnsAt H2 cs ans ∧ Same H H2 ∧ hunt1 R L late i0 few ns.length ans d, ⟨few, [], [], none, rfl, ep, AnsAt.nil _, s03, hunt_start hf hi0⟩, ?_⟩
  clear ep s03 s1 s2 s3
  rintro d σ H2 ⟨ans, cs, y7, rfl, ep, hA, s2, hh⟩
  obtain ⟨hin, hfm, hle, hx⟩ := id hh
  have lcs : cs.length = ans.length := hA.1
  have k2 := k.same s2
  refine ⟨_, rfl, rfl, _, rfl, ?_⟩
  cases e : nextI R L (runC R L (zeros ns.length) ans) with
  | none =>
    refine iteF (iteF ?_)
    obtain ⟨w1, w2⟩ := hunt_end hRw rfl hl (by omega) hh e go
    refine ⟨_, rfl, _, rfl, _, rfl, _, rfl, a, b, p, false, false, as, cs, ns, rs, ans, L, rfl, k2, ep, hA, fun p hp => by have := hin p hp; omega, by omega, fun l H3 s3 nl el => ?_⟩
    rw [hRR, w1] at el
    refine ⟨_, rfl, by show 1 ≤ sizeLine; decide, fun z nz => ?_⟩
    have s4 := same_new nz (.lst [.str one])
    refine ⟨.list [.str one], .list [.str one], .lst (SqL.of (s4 _ _ el)) (.cons (.str _) .nil), .lst (SqL.of upd_same) (.cons (.str _) .nil), one_shaped one hno, one_shaped one hno, _, rfl, ?_⟩
    · rw [show PyData.eqv (.list [.str one]) (.list [.str one]) = true by simp [PyData.eqv, PyData.eqvAll]]
      refine iteT ⟨_, rfl, p, _, rfl, .inl (SqL.of (s4 _ _ (s3 _ _ ep))), ?_⟩
      rw [List.length_map, lcs]
      exact q _ _ w2 ((s2.trans s3).trans s4)
  | some ix =>
    have dpos : 0 < d := by
      cases d with
      | zero => rw [next_zero hfm] at e; cases e
      | succ d => omega
    obtain ⟨m', r, g1, g2, g3⟩ : ∃ m' r, d = m' + 1 ∧ R[ix]? = some r ∧ r.length = ns.length := by
      obtain ⟨m', rfl⟩ : ∃ m', d = m' + 1 := ⟨d - 1, by omega⟩
      obtain ⟨j, r, h1, h2, _⟩ := next_some hfm
      rw [e] at h1
      obtain rfl := Option.some.inj h1
      exact ⟨m', r, rfl, h2, hRw r (List.mem_of_getElem? h2)⟩
    refine iteT ⟨_, rfl, p, _, rfl, .inl (SqL.of ep), _, _, rfl, rfl, _, rfl, ?_⟩
    rw [List.length_map, lcs, decide_eq_true (show ((ans.length : Nat) : Int) < 40 by omega)]
    obtain ⟨row, hrow, hr0⟩ := signs_at (ns := ns) (rs := rs) (i := ix) (r := r) (by rw [hRR]; exact g2)
    obtain ⟨c, hc, hcr⟩ := k2.rs_.get hrow
    have gc : (as.map V.ref)[ix]? = some (.ref c) := by rw [List.getElem?_map, hc]; rfl
    have hb : r[i0]? = some (decide (one ∈ row)) := by rw [hr0, List.getElem?_map, go]; rfl
    refine iteT ⟨fun (σ : L2.St) (H2 : Hp) => ∃ d', d' < d ∧ ∃ d, d = d' ∧ (∃ (ans : List (Nat × Bool)) (cs : List Addr) (y7 : Option V), σ = [some (.ref a), some (.ref b), some (.int L), some (.str one), some (.int late), some (.ref p), some (optV (nextI R L (runC R L (zeros ns.length) ans))), y7] ∧ H2 p = some (.lst (cs.map V.ref)) ∧ AnsAt H2 cs ans ∧ Same H H2 ∧ hunt1 R L late i0 few ns.length ans d), fun σ' H' ⟨d', h1, d2, h2, h3⟩ => ⟨d', h1, by rw [← h2]; exact h3⟩, ?_⟩
    refine ⟨_, rfl, _, rfl, _, rfl, b, _, _, _, rfl, rfl, SqL.of k2.hb, atI_nat gc, c, _, rfl, .inl (SqL.of hcr), rfl, flat_strs row, ?_⟩
    rw [if_neg Bool.false_ne_true, inV_str]
    refine ⟨_, rfl, .inl ⟨rfl, _, SqL.of ep⟩, _, rfl, _, rfl, p, _, rfl, .inl (SqL.of ep), _, rfl, rfl, _, rfl, ?_⟩
    obtain ⟨m2, hm2, hst⟩ := hunt_step hRw (by omega) (by rcases hl with z | z; exact .inl z; exact .inr z.1) hh e g2 hb
    by_cases cl : ((ans.length : Nat) : Int) = late
    · rw [show (((cs.map V.ref).length : Nat) : Int) = ((ans.length : Nat) : Int) by rw [List.length_map, lcs], decide_eq_true (show V.int ((ans.length : Nat) : Int) = V.int late by rw [cl])]
      refine iteF ⟨_, rfl, _, rfl, by show 2 ≤ sizeLine; decide, fun t nt => ?_⟩
      have ev : (if ((ans.length : Nat) : Int) = late then !(decide (one ∈ row)) else decide (one ∈ row)) = !(decide (one ∈ row)) := if_pos cl
      have st := same_new nt (.tup [.int ((ix : Nat) : Int), .bl (!(decide (one ∈ row)))])
      have ept := st _ _ ep
      have s2t := s2.trans st
      have npt : p ≠ t := ne_of_none ep nt
      refine ⟨p, _, _, rfl, rfl, ept, ?_, ?_⟩
      · rw [List.length_map, lcs]
        exact small1000 (by omega)
      have s3 := same_upd (o := .lst (cs.map V.ref ++ [V.ref t])) s2t np
      have hA3 : AnsAt (upd (upd H2 t (.tup [.int ((ix : Nat) : Int), .bl (!(decide (one ∈ row)))])) p (.lst (cs.map V.ref ++ [V.ref t]))) (cs ++ [t]) (ans ++ [(ix, (!(decide (one ∈ row))))]) := by
        refine ((hA.same st).snoc (r := (ix, (!(decide (one ∈ row))))) upd_same).mono fun c hc o eo => ?_
        rw [upd_ne]
        · exact eo
        · intro z
          obtain ⟨i, hi, ei⟩ := List.getElem_of_mem hc
          obtain ⟨a', r', h1, h2, h3⟩ := ((hA.same st).snoc (r := (ix, (!(decide (one ∈ row))))) upd_same).at hi
          rw [List.getElem?_eq_getElem hi, ei] at h1
          obtain rfl := Option.some.inj h1
          rw [z, ept] at h3
          cases h3
      refine ⟨_, rfl, _, rfl, _, rfl, _, rfl, a, b, p, false, false, as, cs ++ [t], ns, rs, ans ++ [(ix, (!(decide (one ∈ row))))], L, rfl, k.same s3, by rw [upd_same, ← map_snoc]; rfl, hA3, ?_, ?_, fun H5 s5 => ?_⟩
      · intro z hz
        have := hst.1 z (by rw [ev]; exact hz)
        omega
      · rw [List.length_append]
        show ans.length + 1 ≤ 100
        omega
      rw [hRR]
      refine ⟨m2, hm2, m2, rfl, ans ++ [(ix, (!(decide (one ∈ row))))], cs ++ [t], _, rfl, ?_, hA3.same s5, s3.trans s5, by rw [← ev]; exact hst⟩
      rw [s5 _ _ upd_same, ← map_snoc]
    · rw [show (((cs.map V.ref).length : Nat) : Int) = ((ans.length : Nat) : Int) by rw [List.length_map, lcs], decide_eq_false (show ¬ V.int ((ans.length : Nat) : Int) = V.int late from fun z => cl (by injection z))]
      refine iteT ⟨_, rfl, by show 2 ≤ sizeLine; decide, fun t nt => ?_⟩
      have ev : (if ((ans.length : Nat) : Int) = late then !(decide (one ∈ row)) else decide (one ∈ row)) = decide (one ∈ row) := if_neg cl
      have st := same_new nt (.tup [.int ((ix : Nat) : Int), .bl (decide (one ∈ row))])
      have ept := st _ _ ep
      have s2t := s2.trans st
      have npt : p ≠ t := ne_of_none ep nt
      refine ⟨p, _, _, rfl, rfl, ept, ?_, ?_⟩
      · rw [List.length_map, lcs]
        exact small1000 (by omega)
      have s3 := same_upd (o := .lst (cs.map V.ref ++ [V.ref t])) s2t np
      have hA3 : AnsAt (upd (upd H2 t (.tup [.int ((ix : Nat) : Int), .bl (decide (one ∈ row))])) p (.lst (cs.map V.ref ++ [V.ref t]))) (cs ++ [t]) (ans ++ [(ix, (decide (one ∈ row)))]) := by
        refine ((hA.same st).snoc (r := (ix, (decide (one ∈ row)))) upd_same).mono fun c hc o eo => ?_
        rw [upd_ne]
        · exact eo
        · intro z
          obtain ⟨i, hi, ei⟩ := List.getElem_of_mem hc
          obtain ⟨a', r', h1, h2, h3⟩ := ((hA.same st).snoc (r := (ix, (decide (one ∈ row)))) upd_same).at hi
          rw [List.getElem?_eq_getElem hi, ei] at h1
          obtain rfl := Option.some.inj h1
          rw [z, ept] at h3
          cases h3
      refine ⟨_, rfl, _, rfl, _, rfl, _, rfl, a, b, p, false, false, as, cs ++ [t], ns, rs, ans ++ [(ix, (decide (one ∈ row)))], L, rfl, k.same s3, by rw [upd_same, ← map_snoc]; rfl, hA3, ?_, ?_, fun H5 s5 => ?_⟩
      · intro z hz
        have := hst.1 z (by rw [ev]; exact hz)
        omega
      · rw [List.length_append]
        show ans.length + 1 ≤ 100
        omega
      rw [hRR]
      refine ⟨m2, hm2, m2, rfl, ans ++ [(ix, (decide (one ∈ row)))], cs ++ [t], _, rfl, ?_, hA3.same s5, s3.trans s5, by rw [← ev]; exact hst⟩
      rw [s5 _ _ upd_same, ← map_snoc]
end
end P81
end
section
set_option Elab.async false
set_option linter.all false
set_option maxRecDepth 100000
set_option maxHeartbeats 4000000
namespace P81
open PySem PySem.Spec PyProof.Rows L2 ZG NK
/-- suspects and askings in use, beside the stream -/
structure Turn (H : Hp) (st c a b : Addr) (as : List Addr) (ns : List Str) (rs : List (List Str)) (L : Int) (N : Nat) : Prop where
  k : Ask H a b false as ns rs L
  S : StreamAt H st c N
  na : a ∉ [st, c]
  nb : b ∉ [st, c]
  nas : ∀ x ∈ as, x ∉ [st, c]
theorem Ask.off {H H' : Hp} {a b : Addr} {as : List Addr} {ns : List Str} {rs : List (List Str)} {L : Int} {l : List Addr} (k : Ask H a b false as ns rs L) (e : But l H H') (na : a ∉ l) (nb : b ∉ l) (nas : ∀ x ∈ as, x ∉ l) : Ask H' a b false as ns rs L :=
  ⟨e _ _ k.ha na, k.ns_, k.l1, k.l2, e _ _ k.hb nb, ⟨k.rs_.1, fun i x r g1 g2 => e _ _ (k.rs_.2 i x r g1 g2) (nas x (List.mem_of_getElem? g1))⟩, k.ok, k.r1, k.r2, k.hL⟩
theorem Turn.next {H H' : Hp} {st c a b : Addr} {as : List Addr} {ns : List Str} {rs : List (List Str)} {L : Int} {N N' : Nat} (t : Turn H st c a b as ns rs L N) (e : But [st, c] H H') (S : StreamAt H' st c N') : Turn H' st c a b as ns rs L N' :=
  ⟨t.k.off e t.na t.nb t.nas, S, t.na, t.nb, t.nas⟩
theorem Turn.same {H H' : Hp} {st c a b : Addr} {as : List Addr} {ns : List Str} {rs : List (List Str)} {L : Int} {N : Nat} (t : Turn H st c a b as ns rs L N) (e : Same H H') : Turn H' st c a b as ns rs L N := t.next (Same.but e) (t.S.same e)
theorem Turn.le {H : Hp} {st c a b : Addr} {as : List Addr} {ns : List Str} {rs : List (List Str)} {L : Int} {N M : Nat} (t : Turn H st c a b as ns rs L N) (h : N ≤ M) : Turn H st c a b as ns rs L M := ⟨t.k, t.S.le h, t.na, t.nb, t.nas⟩
theorem RowsAt.take {H : Hp} {as : List Addr} {rs : List (List Str)} (h : RowsAt H as rs) (k : Nat) : RowsAt H (as.take k) (rs.take k) := by
  refine ⟨by rw [List.length_take, List.length_take, h.1], fun i a r h1 h2 => ?_⟩
  rw [List.getElem?_take] at h1 h2
  split at h1
  · rw [if_pos ‹_›] at h2
    exact h.2 i a r h1 h2
  · cases h1
/-- answers given in a turn, and the law's state behind them -/
structure Told (H : Hp) (st c pa stt : Addr) (cs : List Addr) (ans : List (Nat × Bool)) (s : List Int) (n : Nat) (R : List (List Bool)) (L : Int) : Prop where
  ea : H pa = some (.lst (cs.map V.ref))
  hA : AnsAt H cs ans
  np : pa ∉ [st, c]
  es : H stt = some (tupI s)
  ls : s.length = n
  nn : ∀ x ∈ s, 0 ≤ x
  hin : ∀ p ∈ ans, p.1 < R.length
  cp : cap L s = cap L (runC R L (zeros n) ans)
theorem StreamAt.tups {H H' : Hp} {st c : Addr} {N : Nat} (S : StreamAt H st c N) (e : But [st, c] H H') : ∀ x xs, H x = some (.tup xs) → H' x = some (.tup xs) := by
  obtain ⟨r, n, m, cs, h1, h2, _⟩ := S
  refine tups_of_but e fun a ha => ?_
  simp only [List.mem_cons, List.mem_nil_iff, or_false] at ha
  rcases ha with z | z
  · subst z; exact ⟨_, h1, fun xs z => nomatch z⟩
  · subst z; exact ⟨_, h2, fun xs z => nomatch z⟩
theorem Told.next {H H' : Hp} {st c pa stt : Addr} {cs : List Addr} {ans : List (Nat × Bool)} {s : List Int} {n : Nat} {R : List (List Bool)} {L : Int} {N : Nat} (t : Told H st c pa stt cs ans s n R L) (S : StreamAt H st c N) (e : But [st, c] H H') : Told H' st c pa stt cs ans s n R L :=
  ⟨e _ _ t.ea t.np, ⟨t.hA.1, fun i a r h1 h2 => S.tups e _ _ (t.hA.2 i a r h1 h2)⟩, t.np, S.tups e _ _ t.es, t.ls, t.nn, t.hin, t.cp⟩
section
variable {P : Program} {w : World} {K : PySem.W.Frag} {mg : Str → Option Value} {base : Heap}
theorem scLaw : FnScope ["_law_script", "_law_stream", "_law_turn", "_law_names", "_law_askings", "_law_lies", "_law_few", "_law_again", "_law_answers", "_law_state", "_law_k", "_law_due_here", "_law_handed", "_law_one", "_law_late", "_law_many"] ["_law_script"] (defScope sLaw) := ⟨rfl, rfl, rfl, by decide +kernel, rfl, by decide +kernel, by decide +kernel⟩
def spLaw (K : PySem.W.Frag) : Sp := fun vs H Q _ => ∃ (a : Addr) (cs : List Int), vs = [.ref a] ∧ SqL K H a (cs.map V.int) ∧ cs.length ≤ 63 ∧ ∀ H', Q (.bl true) H'
theorem ok_law {f f1 f2 f3 f4 f5 f6 f7 f8 f9 f10 f11 f12 f13 f14 f15 : Addr} {fd d1 d2 d3 d4 d5 d6 d7 d8 d9 d10 d11 d12 d13 d14 d15 : FuncData} (F : Fun K "law" "law" sLaw f fd) (T : BI mg)
    (D_start : DefAt K mg "_law_start" sStart ["_law_script"] f1 d1) (D_draw : DefAt K mg "_law_draw" sDraw ["_law_stream", "_law_many"] f2 d2) (D_pick : DefAt K mg "_law_pick" sPick ["_law_stream", "_law_some"] f3 d3)
    (D_mixed : DefAt K mg "_law_mixed" sMixed ["_law_stream", "_law_some"] f4 d4) (D_m_suspects : DefAt K mg "_law_m_suspects" sMSuspects ["_law_stream", "_law_most"] f5 d5)
    (D_m_after : DefAt K mg "_law_m_after" sMAfter ["_law_names", "_law_askings", "_law_state", "_law_index", "_law_answer"] f6 d6) (D_m_left : DefAt K mg "_law_m_left" sMLeft ["_law_names", "_law_state", "_law_lies"] f7 d7)
    (D_m_is_enough : DefAt K mg "_law_m_is_enough" sMEnough ["_law_names", "_law_askings", "_law_lies", "_law_state", "_law_many", "_law_known"] f8 d8)
    (D_m_fewest : DefAt K mg "_law_m_fewest" sMFewest ["_law_names", "_law_askings", "_law_lies", "_law_state"] f9 d9) (D_due : DefAt K mg "_law_due" sDue ["_law_names", "_law_askings", "_law_lies", "_law_state"] f10 d10)
    (D_same : DefAt K mg "_law_same" sSame ["_law_found", "_law_due_here"] f11 d11) (D_hunted : DefAt K mg "_law_hunted" sHunted ["_law_names", "_law_askings", "_law_lies", "_law_one", "_law_late"] f12 d12)
    (D_ask_next : DefD K mg "ask_next" sAskNext ["suspects", "askings", "answers", "lies"] f13 d13) (G_ask_next : FnOk P w K mg base CX0 28 f13 d13 ["suspects", "askings", "answers", "lies"] spAskNext)
    (D_possible_ones : DefD K mg "possible_ones" sPossible ["suspects", "askings", "answers", "lies"] f14 d14) (G_possible_ones : FnOk P w K mg base CX0 6 f14 d14 ["suspects", "askings", "answers", "lies"] spPossible)
    (D_fewest_askings : DefD K mg "fewest_askings" sFewestAskings ["suspects", "askings", "lies"] f15 d15) (G_fewest_askings : FnOk P w K mg base CX0 29 f15 d15 ["suspects", "askings", "lies"] spFewestAskings) :
    FnOk P w K mg base CX0 30 f fd ["_law_script"] (spLaw K) := by
  have G_start : FnOk P w K mg base CX0 1 f1 d1 ["_law_script"] (spStart K) := ok_start D_start.F T
  have G_draw : FnOk P w K mg base CX0 1 f2 d2 ["_law_stream", "_law_many"] spDraw := ok_draw D_draw.F T
  have G_pick : FnOk P w K mg base CX0 2 f3 d3 ["_law_stream", "_law_some"] spPick := ok_pick D_pick.F T D_draw
  have G_mixed : FnOk P w K mg base CX0 2 f4 d4 ["_law_stream", "_law_some"] spMixed := ok_mixed D_mixed.F T D_draw
  have G_m_suspects : FnOk P w K mg base CX0 3 f5 d5 ["_law_stream", "_law_most"] spMSuspects := ok_m_suspects D_m_suspects.F T D_draw D_mixed
  have G_m_after : FnOk P w K mg base CX0 1 f6 d6 ["_law_names", "_law_askings", "_law_state", "_law_index", "_law_answer"] spMAfter := ok_m_after D_m_after.F T
  have G_due : FnOk P w K mg base CX0 16 f10 d10 ["_law_names", "_law_askings", "_law_lies", "_law_state"] spDue := ok_due D_due.F T D_m_left D_m_after D_m_is_enough D_m_fewest
  have G_same : FnOk P w K mg base CX0 3 f11 d11 ["_law_found", "_law_due_here"] spSame1 := ok_same1 T D_same
  have G_hunted : FnOk P w K mg base CX0 29 f12 d12 ["_law_names", "_law_askings", "_law_lies", "_law_one", "_law_late"] spHunted := ok_hunted D_hunted.F T D_ask_next G_ask_next D_possible_ones G_possible_ones
  refine F.ok scLaw (fun vs H Q E h => ?_) (fun cdv A outer s H vs Q E hr h => ?_)
  · obtain ⟨a, cs, rfl, _⟩ := h
    rfl
  obtain ⟨sa, cs, rfl, hs, few, q⟩ := h
  have hr1 : Room 1 _ := hr.mono (by decide)
  have hr2 : Room 2 _ := hr.mono (by decide)
  have hr3 : Room 3 _ := hr.mono (by decide)
  have hr16 : Room 16 _ := hr.mono (by decide)
  have hr28 : Room 28 _ := hr.mono (by decide)
  refine ⟨_, pss_cons (ps_set (i := 1) scLaw.nd rfl (.inl rfl) (pe_call G_start hr1 (by rfl) D_start.g D_start.F.kp D_start.b .nil pass0 (pa_cons (pv 0) pa_nil)))
    (pss_cons (ps_for PassesOwn.never rfl (pi_range1 (by rfl) T.range (pa_cons pe_int pa_nil)) (pg_name (i := 2) scLaw.nd rfl (.inl rfl))
      (pss_cons (ps_asg (pe_call G_m_suspects hr3 (by rfl) D_m_suspects.g D_m_suspects.F.kp D_m_suspects.b .nil pass0 (pa_cons (pv 1) (pa_cons pe_int pa_nil))) (pg_tup (by rfl) (pgs_cons (pg_name (i := 3) scLaw.nd rfl (.inl rfl)) (pgs_cons (pg_name (i := 4) scLaw.nd rfl (.inl rfl)) pgs_nil))))
      (pss_cons (ps_par (i := 5) (j := 4) (by rfl) scLaw.nd rfl rfl (by decide) rfl rfl (pa_cons (pe_call G_draw hr1 (by rfl) D_draw.g D_draw.F.kp D_draw.b .nil pass0 (pa_cons (pv 1) (pa_cons pe_int pa_nil))) (pa_cons (pe_slice (slL K) (pv 4) po_none (po_some pe_int)) pa_nil)) (by rfl))
      (pss_cons (ps_via (ps_set (i := 6) scLaw.nd rfl (.inl rfl) (pe_call G_fewest_askings hr (by rfl) D_fewest_askings.g D_fewest_askings.F.kp D_fewest_askings.b .nil pass0 (pa_cons (pv 3) (pa_cons (pv 4) (pa_cons (pv 5) pa_nil))))))
      (pss_cons (ps_for PassesOwn.never rfl (pi_range1 (by rfl) T.range (pa_cons pe_int pa_nil)) (pg_name (i := 7) scLaw.nd rfl (.inl rfl))
        (pss_cons (ps_par (i := 8) (j := 9) (by rfl) scLaw.nd rfl rfl (by decide) rfl rfl (pa_cons (pe_lst pa_nil) (pa_cons (pe_op RO.op_repZ (pe_tup (pa_cons pe_int pa_nil)) (pe_callB (crLen K) (by rfl) T.len (by decide +kernel) (pa_cons (pv 3) pa_nil))) pa_nil)) (by rfl))
        (pss_cons (ps_for PassesOwn.never rfl (pi_range1 (by rfl) T.range (pa_cons (pe_call G_draw hr1 (by rfl) D_draw.g D_draw.F.kp D_draw.b .nil pass0 (pa_cons (pv 1) (pa_cons pe_int pa_nil))) pa_nil)) (pg_name (i := 10) scLaw.nd rfl (.inl rfl))
          (pss_cons (ps_expr (pe_bm PySem.F.plainAttrs_list PySem.F.slot_list_append PySem.F.type_list_append mt_append (pv 8) (pa_cons (pe_tup (pa_cons (pe_call G_draw hr1 (by rfl) D_draw.g D_draw.F.kp D_draw.b .nil pass0 (pa_cons (pv 1) (pa_cons (pe_callB (crLen K) (by rfl) T.len (by decide +kernel) (pa_cons (pv 4) pa_nil)) pa_nil))) (pa_cons (pe_cmpR op_eq (pe_call G_draw hr1 (by rfl) D_draw.g D_draw.F.kp D_draw.b .nil pass0 (pa_cons (pv 1) (pa_cons pe_int pa_nil))) pe_int (nomark _)) pa_nil))) pa_nil)))
          (pss_one (ps_set (i := 9) scLaw.nd rfl (.inl rfl) (pe_call G_m_after hr1 (by rfl) D_m_after.g D_m_after.F.kp D_m_after.b .nil pass0 (pa_cons (pv 3) (pa_cons (pv 4) (pa_cons (pv 9) (pa_cons (pe_ix (ixT K) (pe_ix (ixL K) (pv 8) (pe_un un_neg pe_int) (fun _ _ => rfl)) pe_int (fun _ _ => rfl)) (pa_cons (pe_ix (ixT K) (pe_ix (ixL K) (pv 8) (pe_un un_neg pe_int) (fun _ _ => rfl)) pe_int (fun _ _ => rfl)) pa_nil))))))))))
        (pss_cons (ps_set (i := 11) scLaw.nd rfl (.inl rfl) (pe_call G_due hr16 (by rfl) D_due.g D_due.F.kp D_due.b .nil pass0 (pa_cons (pv 3) (pa_cons (pv 4) (pa_cons (pv 5) (pa_cons (pv 9) pa_nil))))))
        (pss_cons (ps_set (i := 12) scLaw.nd rfl (.inl rfl) (pe_call G_pick hr2 (by rfl) D_pick.g D_pick.F.kp D_pick.b .nil pass0 (pa_cons (pv 1) (pa_cons (pe_lst (pa_cons (pv 8) (pa_cons (pe_callTy (crTupOf K) (by rfl) T.tuple (by decide +kernel) (pa_cons (pv 8) pa_nil)) pa_nil))) pa_nil))))
        (pss_one (ps_if (pt_not (pt_val (pe_call G_same hr3 (by rfl) D_same.g D_same.F.kp D_same.b .nil pass0 (pa_cons (pe_lst (pa_cons (pe_call G_ask_next hr28 (by rfl) D_ask_next.g D_ask_next.F.kp D_ask_next.b .nil pass0 (pa_cons (pv 3) (pa_cons (pe_callTy (crTupOf K) (by rfl) T.tuple (by decide +kernel) (pa_cons (pv 4) pa_nil)) (pa_cons (pv 12) (pa_cons (pv 5) pa_nil))))) pa_nil)) (pa_cons (pe_lst (pa_cons (pv 11) pa_nil)) pa_nil)))))
          (pss_one (ps_ret pe_bl)) pss_nil)))))))
      (pss_one (ps_if (pt_cmpR op_notN (pv 6) pe_non (nomark _))
        (pss_one (ps_for PassesOwn.never rfl (pseq K false (pv 3)) (pg_name (i := 13) scLaw.nd rfl (.inl rfl))
          (pss_one (ps_for PassesOwn.never rfl (pseq K false (pe_op op_cat (pe_lst (pa_cons (pe_un un_neg pe_int) pa_nil)) (pe_slice (slL K) (pe_call G_mixed hr2 (by rfl) D_mixed.g D_mixed.F.kp D_mixed.b .nil pass0 (pa_cons (pv 1) (pa_cons (pe_listRg rfl (by rfl) T.list (prg_1 (by rfl) T.range (pv 6))) pa_nil))) po_none (po_some (pe_op op_mul pe_int (pv 5)))))) (pg_name (i := 14) scLaw.nd rfl (.inl rfl))
            (pss_cons (ps_set (i := 15) scLaw.nd rfl (.inl rfl) (pe_call G_hunted hr (by rfl) D_hunted.g D_hunted.F.kp D_hunted.b .nil pass0 (pa_cons (pv 3) (pa_cons (pv 4) (pa_cons (pv 5) (pa_cons (pv 13) (pa_cons (pv 14) pa_nil)))))))
            (pss_one (ps_if (PW.pt (pw_or (pt_cmpR op_isN (pv 15) pe_non (nomark _)) (pw_or1 (pt_cmpR op_gt (pv 15) (pv 6) (nomark _)))))
              (pss_one (ps_ret pe_bl)) pss_nil))))))) pss_nil)))))))
    (pss_one (ps_ret pe_bl))), ?_⟩
  refine ⟨_, rfl, sa, cs, rfl, hs, few, fun st c H1 s1 S1 => ?_⟩
  refine ⟨_, rfl, by omega, by omega, ?_⟩
  -- the turns
  refine for_it walk_range (fun i σ H2 => ∃ y2 y3 y4 y5 y6 y7 y8 y9 y10 y11 y12 y13 y14 y15, σ = [some (.ref sa), some (.ref st), y2, y3, y4, y5, y6, y7, y8, y9, y10, y11, y12, y13, y14, y15] ∧ StreamAt H2 st c (i * 1000))
    ⟨_, _, _, _, _, _, _, _, _, _, _, _, _, _, rfl, S1⟩ (fun _ _ _ _ _ => True.intro) ?_ (fun σ H2 _ => q H2)
  rintro tn y σ H2 H3 htn ⟨y2, y3, y4, y5, y6, y7, y8, y9, y10, y11, y12, y13, y14, y15, rfl, S2⟩ ⟨rfl, rfl⟩
  have htn : tn < 3 := htn
  refine ⟨_, rfl, st, c, tn * 1000, rfl, S2, by omega, fun tt a b0 as0 ns rs0 H4 b4 S4 et hk ha0 hb0 has0 => ?_⟩
  refine ⟨tt, _, rfl, .inl (.inl et), rfl, _, _, rfl, _, _, rfl, rfl, ?_⟩
  have nar : a ∉ [st, c] := S2.ne ha0
  have nbr : b0 ∉ [st, c] := S2.ne hb0
  have nasr : ∀ x ∈ as0, x ∉ [st, c] := fun x hx => S2.ne (has0 x hx)
  refine ⟨_, rfl, st, c, tn * 1000 + 200, 2, rfl, S4, by omega, by decide, by decide, fun dl H5 hdl b5 S5 => ⟨_, rfl, _, rfl, b0, _, rfl, SqL.of (b5 _ _ (hk 0 (.inl rfl)).hb nbr), fun b nbb => ⟨_, _, rfl, ?_⟩⟩⟩
  have k5 := (hk (dl : Int) (by omega)).off b5 nar nbr nasr
  have s6 := same_new nbb (.lst (cutV (as0.map V.ref) none (some 4)))
  have eb : (upd H5 b (.lst (cutV (as0.map V.ref) none (some 4)))) b = some (.lst ((as0.take 4).map V.ref)) := by
    rw [upd_same, show (4 : Int) = ((4 : Nat) : Int) from rfl, cut_any, List.map_take]
  have k6 := k5.same s6
  have r1 := k6.r1
  have T6 : Turn (upd H5 b (.lst (cutV (as0.map V.ref) none (some 4)))) st c a b (as0.take 4) ns (rs0.take 4) (dl : Int) (tn * 1000 + 201) := by
    refine ⟨⟨k6.ha, k6.ns_, k6.l1, k6.l2, eb, k6.rs_.take 4, fun r hr => k6.ok r (List.mem_of_mem_take hr), ?_, ?_, k6.hL⟩, S5.same s6, nar, S5.ne nbb, fun x hx => nasr x (List.mem_of_mem_take hx)⟩
    · rw [List.length_take]; omega
    · rw [List.length_take]; omega
  have r4 : (rs0.take 4).length ≤ 4 := by rw [List.length_take]; omega
  generalize upd H5 b (.lst (cutV (as0.map V.ref) none (some 4))) = H6 at T6
  generalize as0.take 4 = as at T6
  generalize rs0.take 4 = rs at T6 r4
  generalize hLL : ((dl : Nat) : Int) = L at T6
  clear k6 k5 eb s6 b5 S5 hk et b4 S4 nbr nasr nbb ha0 hb0 has0 r1
  have hL := T6.k.hL
  have l1 := T6.k.l1
  have l2 := T6.k.l2
  have r1 := T6.k.r1
  have hRw : Rows (signsOf ns rs) ns.length := signsOf_len
  have lR : (signsOf ns rs).length = rs.length := signsOf_length ns rs
  refine ⟨fun σ H7 => ∃ o : Option Nat, (∀ m, o = some m → fewest (signsOf ns rs) L (zeros ns.length) = some m) ∧ Turn H7 st c a b as ns rs L (tn * 1000 + 201) ∧ σ = [some (.ref sa), some (.ref st), some (.int (0 + (tn : Int))), some (.ref a), some (.ref b), some (.int L), some (optV o), y7, y8, y9, y10, y11, y12, y13, y14, y15], ?_, ?_⟩
  · refine ⟨_, rfl, _, rfl, _, rfl, a, b, false, as, ns, rs, L, rfl, T6.k, fun _ H7 s7 => ⟨_, fun m e => e, T6.same s7, rfl⟩, fun _ H7 s7 => ⟨none, (fun m e => nomatch e), T6.same s7, rfl⟩⟩
  clear T6
  rintro σ H6 ⟨o, hfew, T6, rfl⟩
  refine ⟨_, rfl, by omega, by omega, ?_⟩
  -- the four askings for what is next
  refine for_it walk_range (fun i σ H7 => ∃ y7 y8 y9 y10 y11 y12 y13 y14 y15, σ = [some (.ref sa), some (.ref st), some (.int (0 + (tn : Int))), some (.ref a), some (.ref b), some (.int L), some (optV o), y7, y8, y9, y10, y11, y12, y13, y14, y15] ∧ Turn H7 st c a b as ns rs L (tn * 1000 + 201 + i * 20))
    ⟨_, _, _, _, _, _, _, _, _, rfl, T6⟩ (fun _ _ _ _ _ => True.intro) ?_ ?_
  · clear y2 y3 y4 y5 y6 y7 y8 y9 y10 y11 y12 y13 y14 y15 T6
    rintro ag y σ H7 H8 hag ⟨y7, y8, y9, y10, y11, y12, y13, y14, y15, rfl, T7⟩ ⟨rfl, rfl⟩
    have hag : ag < 4 := hag
    refine ⟨by show 0 ≤ sizeLine; decide, fun pa npa => ⟨by show 1 ≤ sizeLine; decide, fun tz ntz => ?_⟩⟩
    have s1 := same_new npa (.lst [])
    have s2 := same_new ntz (.tup [.int 0])
    have pan := T7.S.ne npa
    refine ⟨_, rfl, a, _, rfl, .inl (SqL.of ((s1.trans s2) _ _ T7.k.ha)), tz, ns.length, .int 0, rfl, by rw [List.length_map], upd_same, l1, by omega, fun sz H9 s3 esz => ⟨_, _, rfl, ?_⟩⟩
    have T9 := T7.same ((s1.trans s2).trans s3)
    have epa9 := s3 _ _ (s2 _ _ (upd_same : (upd H8 pa (.lst [])) pa = some (.lst [])))
    have O9 : Told H9 st c pa sz [] [] (zeros ns.length) ns.length (signsOf ns rs) L := ⟨epa9, AnsAt.nil _, pan, by rw [esz]; show some (HO.tup _) = some (HO.tup _); rw [List.map_replicate], by rw [List.length_replicate], fun x hx => by rw [List.eq_of_mem_replicate hx]; omega, (fun p hp => nomatch hp), rfl⟩
    have off : ∀ x o, H8 x = some o → x ∉ [pa] := fun x o e z => by
      rw [List.mem_singleton.mp z, npa] at e; cases e
    have nap : a ∉ [pa] := off _ _ T7.k.ha
    have nbp : b ∉ [pa] := off _ _ T7.k.hb
    have nasp : ∀ x ∈ as, x ∉ [pa] := fun x hx => by
      obtain ⟨i, hi, ei⟩ := List.getElem_of_mem hx
      have hi2 : i < rs.length := by rw [← T7.k.rs_.1]; exact hi
      exact off _ _ (T7.k.rs_.2 i x _ (by rw [List.getElem?_eq_getElem hi, ei]) (List.getElem?_eq_getElem hi2))
    have nsp : st ∉ [pa] := fun z => pan (by rw [← List.mem_singleton.mp z]; simp)
    have ncp : c ∉ [pa] := fun z => pan (by rw [← List.mem_singleton.mp z]; simp)
    clear s1 s2 s3 esz epa9 ntz npa T7
    refine ⟨_, rfl, st, c, _, 4, rfl, T9.S, by omega, by decide, by decide, fun dk H10 hdk b10 S10 => ⟨_, rfl, by omega, by omega, ?_⟩⟩
    refine for_it walk_range (fun j σ H11 => ∃ stt cs ans s y10 y11 y12 y13 y14 y15, σ = [some (.ref sa), some (.ref st), some (.int (0 + (tn : Int))), some (.ref a), some (.ref b), some (.int L), some (optV o), some (.int (0 + (ag : Int))), some (.ref pa), some (.ref stt), y10, y11, y12, y13, y14, y15] ∧ Turn H11 st c a b as ns rs L (tn * 1000 + 201 + ag * 20 + 1 + j * 2) ∧
        Told H11 st c pa stt cs ans s ns.length (signsOf ns rs) L ∧ ans.length = j)
      ⟨sz, [], [], _, _, _, _, _, _, _, rfl, T9.next b10 S10, O9.next T9.S b10, rfl⟩ (fun _ _ _ _ _ => True.intro) ?_ ?_
    · clear T9 O9 b10 S10 y10 y11 y12 y13 y14 y15
      rintro j y σ H11 H12 hj ⟨stt, cs, ans, s, y10, y11, y12, y13, y14, y15, rfl, T11, O11, la⟩ ⟨rfl, rfl⟩
      have hj : j < 4 := by
        have : ((dk : Int)).toNat = dk := by omega
        omega
      have las : as.length = rs.length := T11.k.rs_.1
      have lcs : cs.length = ans.length := O11.hA.1
      refine ⟨_, rfl, .inl ⟨rfl, _, SqL.of O11.ea⟩, _, rfl, _, rfl, b, _, rfl, .inl (SqL.of T11.k.hb), st, c, _, (as.map V.ref).length, rfl, T11.S, by omega, by rw [List.length_map]; omega, by rw [List.length_map]; omega, fun da H13 hda b13 S13 => ?_⟩
      refine ⟨_, rfl, st, c, _, 2, rfl, S13, by omega, by decide, by decide, fun db H14 hdb b14 S14 => ⟨rfl, by show 2 ≤ sizeLine; decide, fun t nt => ?_⟩⟩
      rw [List.length_map] at hda
      have b24 := b13.trans b14
      have T14 := T11.next b24 S14
      have O14 := O11.next T11.S b24
      have st_ := same_new nt (.tup [.int ((da : Nat) : Int), .bl (decide (V.int ((db : Nat) : Int) = V.int 0))])
      have T15 := T14.same st_
      have O15 := O14.next T14.S (Same.but st_)
      refine ⟨pa, _, _, rfl, rfl, O15.ea, by rw [List.length_map]; exact small1000 (by omega), ?_⟩
      have npat : pa ≠ t := ne_of_none O14.ea nt
      have b16 : But [pa] (upd H14 t (.tup [.int ((da : Nat) : Int), .bl (decide (V.int ((db : Nat) : Int) = V.int 0))])) (upd (upd H14 t (.tup [.int ((da : Nat) : Int), .bl (decide (V.int ((db : Nat) : Int) = V.int 0))])) pa (.lst (cs.map V.ref ++ [V.ref t]))) := but_upd (by simp)
      have T16 : Turn _ st c a b as ns rs L _ := ⟨T15.k.off b16 nap nbp nasp, T15.S.but b16 nsp ncp, T15.na, T15.nb, T15.nas⟩
      have tup16 : ∀ x xs, (upd H14 t (.tup [.int ((da : Nat) : Int), .bl (decide (V.int ((db : Nat) : Int) = V.int 0))])) x = some (.tup xs) → (upd (upd H14 t (.tup [.int ((da : Nat) : Int), .bl (decide (V.int ((db : Nat) : Int) = V.int 0))])) pa (.lst (cs.map V.ref ++ [V.ref t]))) x = some (.tup xs) :=
        tups_of_but b16 fun z hz => by
          rw [List.mem_singleton.mp hz]
          exact ⟨_, O15.ea, fun xs z => nomatch z⟩
      have ea16 : (upd (upd H14 t (.tup [.int ((da : Nat) : Int), .bl (decide (V.int ((db : Nat) : Int) = V.int 0))])) pa (.lst (cs.map V.ref ++ [V.ref t]))) pa = some (.lst ((cs ++ [t]).map V.ref)) := by rw [upd_same, map_snoc]
      have et16 := tup16 _ _ (upd_same : (upd H14 t (.tup [.int ((da : Nat) : Int), .bl (decide (V.int ((db : Nat) : Int) = V.int 0))])) t = _)
      have hA16 := ((O15.hA.snoc (r := (da, decide (V.int ((db : Nat) : Int) = V.int 0))) upd_same))
      have es16 := tup16 _ _ O15.es
      generalize decide (V.int ((db : Nat) : Int) = V.int 0) = bv at *
      generalize upd (upd H14 t (.tup [.int ((da : Nat) : Int), .bl bv])) pa (.lst (cs.map V.ref ++ [V.ref t])) = H16 at *
      have hA16 : AnsAt H16 (cs ++ [t]) (ans ++ [(da, bv)]) := ⟨hA16.1, fun i x r h1 h2 => tup16 _ _ (hA16.2 i x r h1 h2)⟩
      have hdR : da < (signsOf ns rs).length := by omega
      have lr := hRw _ (List.getElem_mem hdR)
      have ixl : atI ((cs ++ [t]).map V.ref) (-1) = some (.ref t) := by
        unfold atI ixN
        rw [if_neg (by decide), if_pos (by rw [List.length_map, List.length_append]; simp only [List.length_cons, List.length_nil]; omega)]
        rw [show ((-1 : Int) + (((cs ++ [t]).map V.ref).length : Int)).toNat = cs.length by rw [List.length_map, List.length_append]; simp only [List.length_cons, List.length_nil]; omega]
        show ((cs ++ [t]).map V.ref)[cs.length]? = _
        rw [List.getElem?_map, List.getElem?_append_right (Nat.le_refl _), Nat.sub_self]
        rfl
      refine ⟨_, rfl, _, rfl, _, rfl, _, rfl, _, rfl, pa, _, _, _, rfl, rfl, SqL.of ea16, ixl, t, _, 0, _, rfl, rfl, SqT.of et16, rfl, _, rfl, _, rfl, pa, _, _, _, rfl, rfl, SqL.of ea16, ixl, t, _, 1, _, rfl, rfl, SqT.of et16, rfl, ?_⟩
      refine ⟨a, b, as, ns, rs, L, stt, s, da, (signsOf ns rs)[da], bv, rfl, T16.k, es16, O15.ls, List.getElem?_eq_getElem hdR, fun t2 H17 s17 et2 => ?_⟩
      refine ⟨t2, cs ++ [t], ans ++ [(da, bv)], _, _, _, _, _, _, _, rfl, (T16.same s17).le (by omega), ⟨s17 _ _ ea16, hA16.same s17, O15.np, et2, ?_, aft_nn O15.nn, ?_, ?_⟩, ?_⟩
      · rw [aft_length (by rw [lr, O15.ls]), O15.ls]
      · intro p hp
        rcases List.mem_append.mp hp with z | z
        · exact O15.hin p z
        · rw [List.mem_singleton.mp z]; exact hdR
      · rw [runC_snoc, cap_cap]
        show _ = cap L (aft ((signsOf ns rs).getD da []) bv _)
        rw [List.getD_eq_getElem?_getD, List.getElem?_eq_getElem hdR]
        exact aft_cap_congr O15.cp
      · rw [List.length_append, la]
        rfl
    · clear T9 O9 b10 S10 y10 y11 y12 y13 y14 y15
      rintro σ H11 ⟨stt, cs, ans, s, y10, y11, y12, y13, y14, y15, rfl, T11, O11, la⟩
      have t4 : ((dk : Int)).toNat = dk := by omega
      rw [t4] at T11 la
      have T11 : Turn H11 st c a b as ns rs L (tn * 1000 + 201 + ag * 20 + 9) := T11.le (by omega)
      have lcs : cs.length = ans.length := O11.hA.1
      have hin : ∀ p ∈ ans, p.1 < rs.length := fun p hp => by have := O11.hin p hp; omega
      refine ⟨_, rfl, _, rfl, _, rfl, _, rfl, a, b, as, ns, rs, L, stt, s, rfl, T11.k, O11.es, O11.ls, O11.nn, fun H12 s12 => ?_⟩
      rw [nextI_congr O11.cp]
      have T12 := T11.same s12
      have O12 := O11.next T11.S (Same.but s12)
      -- one of two
      refine ⟨_, rfl, _, rfl, _, rfl, pa, _, rfl, SqL.of O12.ea, fun tp ntp => ⟨by show 2 ≤ sizeLine; decide, fun al nal => ?_⟩⟩
      have s13 := (same_new ntp (.tup (cs.map V.ref))).trans (same_new nal (.lst [.ref pa, .ref tp]))
      have etp := same_new nal (.lst [.ref pa, .ref tp]) _ _ (upd_same : (upd H12 tp (.tup (cs.map V.ref))) tp = _)
      have T13 := T12.same s13
      have O13 := O12.next T12.S (Same.but s13)
      have naln : al ∉ [st, c] := (T12.S.same (same_new ntp (.tup (cs.map V.ref)))).ne nal
      refine ⟨st, c, al, _, [.ref pa, .ref tp], rfl, T13.S, by omega, upd_same, naln, by show 0 < 2; decide, by show 2 < 1000; decide, fun v H14 hv b14 S14 => ?_⟩
      have T14 := T13.next b14 S14
      have O14 := O13.next T13.S b14
      have etp14 := T13.S.tups b14 _ _ etp
      obtain ⟨pv, tb, rfl, epv⟩ : ∃ pv tb, v = .ref pv ∧ H14 pv = some (sq tb (cs.map V.ref)) := by
        simp only [List.mem_cons, List.mem_nil_iff, or_false] at hv
        rcases hv with z | z
        · exact ⟨pa, false, z, O14.ea⟩
        · exact ⟨tp, true, z, etp14⟩
      refine ⟨_, rfl, _, rfl, b, _, rfl, SqL.of T14.k.hb, fun bt nbt => ⟨_, rfl, _, rfl, ?_⟩⟩
      have s15 := same_new nbt (.tup (as.map V.ref))
      have k15 := T14.k.same s15
      refine ⟨a, bt, pv, true, tb, as, cs, ns, rs, ans, L, rfl, ⟨k15.ha, k15.ns_, k15.l1, k15.l2, upd_same, k15.rs_, k15.ok, k15.r1, k15.r2, k15.hL⟩, s15 _ _ epv, O14.hA.same s15, hin, by omega, fun H16 s16 => ?_⟩
      have s116 := s15.trans s16
      generalize nextI (signsOf ns rs) L (runC (signsOf ns rs) L (zeros ns.length) ans) = nx
      refine ⟨by show 1 ≤ sizeLine; decide, fun l1 nl1 => ⟨_, rfl, by show 1 ≤ sizeLine; decide, fun l2 nl2 => ?_⟩⟩
      have s17 := same_new nl1 (.lst [optV nx])
      have s18 := same_new nl2 (.lst [optV nx])
      refine ⟨l1, l2, nx, rfl, s18 _ _ upd_same, upd_same, fun H19 s19 => ⟨_, rfl, iteF ?_⟩⟩
      refine ⟨_, _, _, _, _, _, _, _, _, rfl, (T14.same (((s116.trans s17).trans s18).trans s19)).le (by omega)⟩
  -- whoever it is
  clear y2 y3 y4 y5 y6 y7 y8 y9 y10 y11 y12 y13 y14 y15 T6
  rintro σ H7 ⟨y7, y8, y9, y10, y11, y12, y13, y14, y15, rfl, T7⟩
  have T7 : Turn H7 st c a b as ns rs L (tn * 1000 + 300) := T7.le (by omega)
  refine ⟨_, rfl, rfl, _, rfl, ?_⟩
  cases o with
  | none => 
    refine iteF ⟨_, _, _, _, _, _, _, _, _, _, _, _, _, _, rfl, T7.S.le (by omega)⟩
  | some m =>
    have hm := hfew m rfl
    have m12 : m ≤ 12 := Nat.le_trans (fewest_least hm).2 (top_le hL (by rw [List.length_replicate]; exact l2))
    refine iteT ⟨_, rfl, a, _, rfl, sq_Sq (t := false) T7.k.ha, ?_⟩
    refine for_it walkS (fun i σ H8 => ∃ y7 y8 y9 y10 y11 y12 y13 y14 y15, σ = [some (.ref sa), some (.ref st), some (.int (0 + (tn : Int))), some (.ref a), some (.ref b), some (.int L), some (optV (some m)), y7, y8, y9, y10, y11, y12, y13, y14, y15] ∧ Turn H8 st c a b as ns rs L (tn * 1000 + 300 + i * 20))
      ⟨_, _, _, _, _, _, _, _, _, rfl, T7⟩ (fun i σ H8 _ ⟨_, _, _, _, _, _, _, _, _, _, T8⟩ => sq_Sq (t := false) T8.k.ha) ?_ ?_
    · clear y7 y8 y9 y10 y11 y12 y13 y14 y15 T7
      rintro i y σ H8 H9 hi ⟨y7, y8, y9, y10, y11, y12, y13, y14, y15, rfl, T8⟩ ⟨rfl, hy⟩
      rw [List.length_map] at hi
      rw [List.getElem?_map, List.getElem?_eq_getElem hi] at hy
      obtain rfl : V.str ns[i] = y := Option.some.inj hy
      refine ⟨_, rfl, by show 1 ≤ sizeLine; decide, fun z nz => ?_⟩
      have s1 := same_new nz (.lst [.int (-1)])
      have T9 := T8.same s1
      have zn := T8.S.ne nz
      have ez := (upd_same : (upd H9 z (.lst [.int (-1)])) z = _)
      generalize upd H9 z (.lst [.int (-1)]) = H10 at *
      refine ⟨_, rfl, _, rfl, _, rfl, RgOk.of_le (by omega) (by omega) (by omega) (by omega), fun qq nqq => ?_⟩
      have s2 := same_new nqq (.lst (rgV 0 ((m : Nat) : Int)))
      have T11 := T9.same s2
      have rl : (rgV 0 ((m : Nat) : Int)).length = m := by rw [rgV_length]; omega
      refine ⟨st, c, qq, _, _, rfl, T11.S, by omega, upd_same, by omega, fun l H12 ys pm nl b12 el S12 => ?_⟩
      have T12 := T11.next b12 S12
      have ez12 := b12 _ _ (s2 _ _ ez) zn
      have ly : ys.length = m := by rw [pm.length_eq, rl]
      have gy : ∀ v ∈ ys, ∃ x : Int, v = .int x ∧ 0 ≤ x := fun v hv => by
        have z := pm.mem_iff.mp hv
        unfold rgV at z
        obtain ⟨x, _, rfl⟩ := List.mem_map.mp z
        exact ⟨_, rfl, by omega⟩
      refine ⟨_, rfl, _, _, rfl, rfl, .inl ⟨by decide, by decide⟩, _, rfl, l, _, rfl, SqL.of el, fun p np => ?_⟩
      have s13 := same_new np (.lst (cutV ys none (some (2 * L))))
      have ep : (upd H12 p (.lst (cutV ys none (some (2 * L))))) p = some (.lst (ys.take (2 * dl))) := by
        rw [upd_same, show 2 * L = ((2 * dl : Nat) : Int) by omega, cut_any]
      have T13 := T12.same s13
      have ez13 := s13 _ _ ez12
      generalize upd H12 p (.lst (cutV ys none (some (2 * L)))) = H13 at *
      have ll : (V.int (-1) :: ys.take (2 * dl)).length ≤ 13 := by
        rw [List.length_cons, List.length_take]; omega
      refine ⟨z, p, _, _, rfl, rfl, ez13, ep, small (by rw [List.length_cons] at ll; show 1 + (ys.take (2 * dl)).length ≤ 1000; omega), fun r nr => ?_⟩
      have s14 := same_new nr (.lst ([V.int (-1)] ++ ys.take (2 * dl)))
      have er := (upd_same : (upd H13 r (.lst ([V.int (-1)] ++ ys.take (2 * dl)))) r = _)
      have T14 := T13.same s14
      generalize upd H13 r (.lst ([V.int (-1)] ++ ys.take (2 * dl))) = H14 at *
      have good : ∀ v ∈ [V.int (-1)] ++ ys.take (2 * dl), ∃ late : Int, v = .int late ∧ (late = -1 ∨ (0 ≤ late ∧ L = 1)) := fun v hv => by
        rcases List.mem_append.mp hv with z | z
        · exact ⟨-1, List.mem_singleton.mp z, .inl rfl⟩
        · obtain ⟨x, e1, e2⟩ := gy v (List.mem_of_mem_take z)
          refine ⟨x, e1, .inr ⟨e2, ?_⟩⟩
          rcases hL with w | w
          · have d0 : dl = 0 := by omega
            rw [d0, Nat.mul_zero, List.take_zero] at z
            cases z
          · exact w
      refine ⟨r, _, rfl, .inl (.inl er), ?_⟩
      refine for_it walkS (fun j σ H15 => ∃ y14 y15, σ = [some (.ref sa), some (.ref st), some (.int (0 + (tn : Int))), some (.ref a), some (.ref b), some (.int L), some (optV (some m)), y7, y8, y9, y10, y11, y12, some (.str ns[i]), y14, y15] ∧ Same H14 H15)
        ⟨_, _, rfl, Same.refl _⟩ (fun j σ H15 _ ⟨_, _, _, s15⟩ => .inl (.inl (s15 _ _ er))) ?_ ?_
      · rintro j y σ H15 H16 hj ⟨y14', y15', rfl, s15⟩ ⟨rfl, hy⟩
        obtain ⟨late, rfl, hlate⟩ := good y (List.mem_of_getElem? hy)
        have T15 := T14.same s15
        refine ⟨_, rfl, _, rfl, _, rfl, _, rfl, _, rfl, a, b, as, ns, rs, L, ns[i], late, m, rfl, T15.k, List.getElem_mem hi, hlate, hm, fun kk H17 hkk s17 => ?_⟩
        refine ⟨_, rfl, rfl, _, rfl, ?_⟩
        rw [decide_eq_false (show ¬ V.int ((kk : Nat) : Int) = V.non from fun z => nomatch z)]
        refine iteF ⟨_, rfl, _, rfl, _, _, rfl, rfl, _, rfl, ?_⟩
        rw [decide_eq_false (show ¬ ((m : Nat) : Int) < ((kk : Nat) : Int) by omega)]
        exact iteF ⟨_, _, rfl, s15.trans s17⟩
      · rintro σ H15 ⟨y14', y15', rfl, s15⟩
        exact ⟨_, _, _, _, _, _, _, _, _, rfl, (T14.same s15).le (by omega)⟩
    · rintro σ H8 ⟨y7, y8, y9, y10, y11, y12, y13, y14, y15, rfl, T8⟩
      rw [List.length_map] at T8
      exact ⟨_, _, _, _, _, _, _, _, _, _, _, _, _, _, rfl, T8.S.le (by omega)⟩
end
end P81
end
section
set_option Elab.async false
set_option linter.all false
set_option maxRecDepth 100000
set_option maxHeartbeats 4000000
namespace P81
open PySem PySem.Spec PyProof.Rows L2 ZG NK
theorem dbind_possible_ones {K : PySem.W.Frag} {f : Addr} {fd : FuncData} (F : FunD K "possible_ones" "possible_ones" (defArgs sPossible) (defBody sPossible) (defScope sPossible) [.int 0] [] f fd) : Binds K fd ["suspects", "askings", "answers", "lies"] [] := by
  obtain ⟨ds, h1, h2⟩ := F.binds1 (ps := ["suspects", "askings", "answers", "lies"]) 4 1 (fun z => nomatch z) rfl (fun T kV doc pm an cdv ct us its hl hi => match us, hl, its, hi with | [_, _, _, _], _, [_], _ => ⟨_, rfl, rfl⟩)
  cases h1
  exact h2
theorem dbind_fewest_askings {K : PySem.W.Frag} {f : Addr} {fd : FuncData} (F : FunD K "fewest_askings" "fewest_askings" (defArgs sFewestAskings) (defBody sFewestAskings) (defScope sFewestAskings) [.int 0] [] f fd) : Binds K fd ["suspects", "askings", "lies"] [] := by
  obtain ⟨ds, h1, h2⟩ := F.binds1 (ps := ["suspects", "askings", "lies"]) 3 1 (fun z => nomatch z) rfl (fun T kV doc pm an cdv ct us its hl hi => match us, hl, its, hi with | [_, _, _], _, [_], _ => ⟨_, rfl, rfl⟩)
  cases h1
  exact h2
theorem dbind_ask_next {K : PySem.W.Frag} {f : Addr} {fd : FuncData} (F : FunD K "ask_next" "ask_next" (defArgs sAskNext) (defBody sAskNext) (defScope sAskNext) [.int 0] [] f fd) : Binds K fd ["suspects", "askings", "answers", "lies"] [] := by
  obtain ⟨ds, h1, h2⟩ := F.binds1 (ps := ["suspects", "askings", "answers", "lies"]) 4 1 (fun z => nomatch z) rfl (fun T kV doc pm an cdv ct us its hl hi => match us, hl, its, hi with | [_, _, _, _], _, [_], _ => ⟨_, rfl, rfl⟩)
  cases h1
  exact h2
theorem all_mk {l : PySem.W.OpenLaw} {w : World} {K : PySem.W.Frag} {h : Heap} {mg : Str → Option Value} {fa C f1 f2 f3 f4 f5 f6 f7 f8 f9 f10 f11 f12 f13 f14 f15 f16 f17 f18 f19 f20 f21 f22 f23 f24 f25 f26 f27 f28 f29 f30 f31 f32 f33 f34 f35 : Addr} (X : K.In h) (G : h.Ns mainGlobals mg) (hfa : mg "law" = some (.ref fa))
    {od1 an1 : Option Addr} {sl1 : Array (Option Value)} {oc1 kV1 dc1 pm1 cd1 ct1 : Value}
    {od2 an2 : Option Addr} {sl2 : Array (Option Value)} {oc2 kV2 dc2 pm2 cd2 ct2 : Value}
    {od3 an3 : Option Addr} {sl3 : Array (Option Value)} {oc3 kV3 dc3 pm3 cd3 ct3 : Value}
    {od4 an4 : Option Addr} {sl4 : Array (Option Value)} {oc4 kV4 dc4 pm4 cd4 ct4 : Value}
    {od5 an5 : Option Addr} {sl5 : Array (Option Value)} {oc5 kV5 dc5 pm5 cd5 ct5 : Value}
    {od6 an6 : Option Addr} {sl6 : Array (Option Value)} {oc6 kV6 dc6 pm6 cd6 ct6 : Value}
    {od7 an7 : Option Addr} {sl7 : Array (Option Value)} {oc7 kV7 dc7 pm7 cd7 ct7 : Value}
    {od8 an8 : Option Addr} {sl8 : Array (Option Value)} {oc8 kV8 dc8 pm8 cd8 ct8 : Value}
    {od9 an9 : Option Addr} {sl9 : Array (Option Value)} {oc9 kV9 dc9 pm9 cd9 ct9 : Value}
    {od10 an10 : Option Addr} {sl10 : Array (Option Value)} {oc10 kV10 dc10 pm10 cd10 ct10 : Value}
    {od11 an11 : Option Addr} {sl11 : Array (Option Value)} {oc11 kV11 dc11 pm11 cd11 ct11 : Value}
    {od12 an12 : Option Addr} {sl12 : Array (Option Value)} {oc12 kV12 dc12 pm12 cd12 ct12 : Value}
    {od13 an13 : Option Addr} {sl13 : Array (Option Value)} {oc13 kV13 dc13 pm13 cd13 ct13 : Value}
    {od14 an14 : Option Addr} {sl14 : Array (Option Value)} {oc14 kV14 dc14 pm14 cd14 ct14 : Value}
    {od15 an15 : Option Addr} {sl15 : Array (Option Value)} {oc15 kV15 dc15 pm15 cd15 ct15 : Value}
    {od16 an16 : Option Addr} {sl16 : Array (Option Value)} {oc16 kV16 dc16 pm16 cd16 ct16 : Value}
    {od17 an17 : Option Addr} {sl17 : Array (Option Value)} {oc17 kV17 dc17 pm17 cd17 ct17 : Value}
    {od18 an18 : Option Addr} {sl18 : Array (Option Value)} {oc18 kV18 dc18 pm18 cd18 ct18 : Value}
    {od19 an19 : Option Addr} {sl19 : Array (Option Value)} {oc19 kV19 dc19 pm19 cd19 ct19 : Value}
    {od20 an20 : Option Addr} {sl20 : Array (Option Value)} {oc20 kV20 dc20 pm20 cd20 ct20 : Value}
    {od21 an21 : Option Addr} {sl21 : Array (Option Value)} {oc21 kV21 dc21 pm21 cd21 ct21 : Value}
    {od22 an22 : Option Addr} {sl22 : Array (Option Value)} {oc22 kV22 dc22 pm22 cd22 ct22 : Value}
    {od23 an23 : Option Addr} {sl23 : Array (Option Value)} {oc23 kV23 dc23 pm23 cd23 ct23 : Value}
    {od24 an24 : Option Addr} {sl24 : Array (Option Value)} {oc24 kV24 dc24 pm24 cd24 ct24 : Value}
    {T24 : Addr} {oT24 : Value} {dT24 : Option Addr} {nT24 : Nat} {sT24 : Array (Option Value)} {tk24 : Tok}
    {od25 an25 : Option Addr} {sl25 : Array (Option Value)} {oc25 kV25 dc25 pm25 cd25 ct25 : Value}
    {T25 : Addr} {oT25 : Value} {dT25 : Option Addr} {nT25 : Nat} {sT25 : Array (Option Value)} {tk25 : Tok}
    {od26 an26 : Option Addr} {sl26 : Array (Option Value)} {oc26 kV26 dc26 pm26 cd26 ct26 : Value}
    {T26 : Addr} {oT26 : Value} {dT26 : Option Addr} {nT26 : Nat} {sT26 : Array (Option Value)} {tk26 : Tok}
    {od27 an27 : Option Addr} {sl27 : Array (Option Value)} {oc27 kV27 dc27 pm27 cd27 ct27 : Value}
    {od28 an28 : Option Addr} {sl28 : Array (Option Value)} {oc28 kV28 dc28 pm28 cd28 ct28 : Value}
    {od29 an29 : Option Addr} {sl29 : Array (Option Value)} {oc29 kV29 dc29 pm29 cd29 ct29 : Value}
    {od30 an30 : Option Addr} {sl30 : Array (Option Value)} {oc30 kV30 dc30 pm30 cd30 ct30 : Value}
    {od31 an31 : Option Addr} {sl31 : Array (Option Value)} {oc31 kV31 dc31 pm31 cd31 ct31 : Value}
    {od32 an32 : Option Addr} {sl32 : Array (Option Value)} {oc32 kV32 dc32 pm32 cd32 ct32 : Value}
    {od33 an33 : Option Addr} {sl33 : Array (Option Value)} {oc33 kV33 dc33 pm33 cd33 ct33 : Value}
    {od34 an34 : Option Addr} {sl34 : Array (Option Value)} {oc34 kV34 dc34 pm34 cd34 ct34 : Value}
    {od35 an35 : Option Addr} {sl35 : Array (Option Value)} {oc35 kV35 dc35 pm35 cd35 ct35 : Value}
    {tS tF : Tok}
    (aC : PySem.W.nsIn K mainGlobals "Hunt" = some (some (.ref C)))
    (a1 : PySem.W.nsIn K mainGlobals "is_list" = some (some (.ref f1)))
    (l1 : K.lookup f1 = some ⟨oc1, od1, .func (PySem.W.fnOf "is_list" "is_list" (defArgs sIsList) (defBody sIsList) (defScope sIsList) .none kV1 dc1 pm1 an1 cd1 ct1), sl1⟩)
    (c1 : PySem.W.codeIn K cd1 "is_list" = true) (k1 : PySem.W.keepIn K (.ref f1) = true)
    (a2 : PySem.W.nsIn K mainGlobals "is_integer" = some (some (.ref f2)))
    (l2 : K.lookup f2 = some ⟨oc2, od2, .func (PySem.W.fnOf "is_integer" "is_integer" (defArgs sIsInteger) (defBody sIsInteger) (defScope sIsInteger) .none kV2 dc2 pm2 an2 cd2 ct2), sl2⟩)
    (c2 : PySem.W.codeIn K cd2 "is_integer" = true) (k2 : PySem.W.keepIn K (.ref f2) = true)
    (a3 : PySem.W.nsIn K mainGlobals "is_name" = some (some (.ref f3)))
    (l3 : K.lookup f3 = some ⟨oc3, od3, .func (PySem.W.fnOf "is_name" "is_name" (defArgs sIsName) (defBody sIsName) (defScope sIsName) .none kV3 dc3 pm3 an3 cd3 ct3), sl3⟩)
    (c3 : PySem.W.codeIn K cd3 "is_name" = true) (k3 : PySem.W.keepIn K (.ref f3) = true)
    (a4 : PySem.W.nsIn K mainGlobals "are_names" = some (some (.ref f4)))
    (l4 : K.lookup f4 = some ⟨oc4, od4, .func (PySem.W.fnOf "are_names" "are_names" (defArgs sAreNames) (defBody sAreNames) (defScope sAreNames) .none kV4 dc4 pm4 an4 cd4 ct4), sl4⟩)
    (c4 : PySem.W.codeIn K cd4 "are_names" = true) (k4 : PySem.W.keepIn K (.ref f4) = true)
    (a5 : PySem.W.nsIn K mainGlobals "checked_suspects" = some (some (.ref f5)))
    (l5 : K.lookup f5 = some ⟨oc5, od5, .func (PySem.W.fnOf "checked_suspects" "checked_suspects" (defArgs sSuspects) (defBody sSuspects) (defScope sSuspects) .none kV5 dc5 pm5 an5 cd5 ct5), sl5⟩)
    (c5 : PySem.W.codeIn K cd5 "checked_suspects" = true) (k5 : PySem.W.keepIn K (.ref f5) = true)
    (a6 : PySem.W.nsIn K mainGlobals "checked_askings" = some (some (.ref f6)))
    (l6 : K.lookup f6 = some ⟨oc6, od6, .func (PySem.W.fnOf "checked_askings" "checked_askings" (defArgs sAskings) (defBody sAskings) (defScope sAskings) .none kV6 dc6 pm6 an6 cd6 ct6), sl6⟩)
    (c6 : PySem.W.codeIn K cd6 "checked_askings" = true) (k6 : PySem.W.keepIn K (.ref f6) = true)
    (a7 : PySem.W.nsIn K mainGlobals "checked_lies" = some (some (.ref f7)))
    (l7 : K.lookup f7 = some ⟨oc7, od7, .func (PySem.W.fnOf "checked_lies" "checked_lies" (defArgs sLies) (defBody sLies) (defScope sLies) .none kV7 dc7 pm7 an7 cd7 ct7), sl7⟩)
    (c7 : PySem.W.codeIn K cd7 "checked_lies" = true) (k7 : PySem.W.keepIn K (.ref f7) = true)
    (a8 : PySem.W.nsIn K mainGlobals "checked_answers" = some (some (.ref f8)))
    (l8 : K.lookup f8 = some ⟨oc8, od8, .func (PySem.W.fnOf "checked_answers" "checked_answers" (defArgs sAnswers) (defBody sAnswers) (defScope sAnswers) .none kV8 dc8 pm8 an8 cd8 ct8), sl8⟩)
    (c8 : PySem.W.codeIn K cd8 "checked_answers" = true) (k8 : PySem.W.keepIn K (.ref f8) = true)
    (a9 : PySem.W.nsIn K mainGlobals "fewest_of" = some (some (.ref f9)))
    (l9 : K.lookup f9 = some ⟨oc9, od9, .func (PySem.W.fnOf "fewest_of" "fewest_of" (defArgs sFewestOf) (defBody sFewestOf) (defScope sFewestOf) .none kV9 dc9 pm9 an9 cd9 ct9), sl9⟩)
    (c9 : PySem.W.codeIn K cd9 "fewest_of" = true) (k9 : PySem.W.keepIn K (.ref f9) = true)
    (a10 : PySem.W.nsIn K mainGlobals "first_right" = some (some (.ref f10)))
    (l10 : K.lookup f10 = some ⟨oc10, od10, .func (PySem.W.fnOf "first_right" "first_right" (defArgs sFirstRight) (defBody sFirstRight) (defScope sFirstRight) .none kV10 dc10 pm10 an10 cd10 ct10), sl10⟩)
    (c10 : PySem.W.codeIn K cd10 "first_right" = true) (k10 : PySem.W.keepIn K (.ref f10) = true)
    (a11 : PySem.W.nsIn K mainGlobals "_law_m_suspects" = some (some (.ref f11)))
    (l11 : K.lookup f11 = some ⟨oc11, od11, .func (PySem.W.fnOf "_law_m_suspects" "_law_m_suspects" (defArgs sMSuspects) (defBody sMSuspects) (defScope sMSuspects) .none kV11 dc11 pm11 an11 cd11 ct11), sl11⟩)
    (c11 : PySem.W.codeIn K cd11 "_law_m_suspects" = true) (k11 : PySem.W.keepIn K (.ref f11) = true)
    (a12 : PySem.W.nsIn K mainGlobals "_law_m_after" = some (some (.ref f12)))
    (l12 : K.lookup f12 = some ⟨oc12, od12, .func (PySem.W.fnOf "_law_m_after" "_law_m_after" (defArgs sMAfter) (defBody sMAfter) (defScope sMAfter) .none kV12 dc12 pm12 an12 cd12 ct12), sl12⟩)
    (c12 : PySem.W.codeIn K cd12 "_law_m_after" = true) (k12 : PySem.W.keepIn K (.ref f12) = true)
    (a13 : PySem.W.nsIn K mainGlobals "_law_m_left" = some (some (.ref f13)))
    (l13 : K.lookup f13 = some ⟨oc13, od13, .func (PySem.W.fnOf "_law_m_left" "_law_m_left" (defArgs sMLeft) (defBody sMLeft) (defScope sMLeft) .none kV13 dc13 pm13 an13 cd13 ct13), sl13⟩)
    (c13 : PySem.W.codeIn K cd13 "_law_m_left" = true) (k13 : PySem.W.keepIn K (.ref f13) = true)
    (a14 : PySem.W.nsIn K mainGlobals "_law_m_is_enough" = some (some (.ref f14)))
    (l14 : K.lookup f14 = some ⟨oc14, od14, .func (PySem.W.fnOf "_law_m_is_enough" "_law_m_is_enough" (defArgs sMEnough) (defBody sMEnough) (defScope sMEnough) .none kV14 dc14 pm14 an14 cd14 ct14), sl14⟩)
    (c14 : PySem.W.codeIn K cd14 "_law_m_is_enough" = true) (k14 : PySem.W.keepIn K (.ref f14) = true)
    (a15 : PySem.W.nsIn K mainGlobals "_law_m_fewest" = some (some (.ref f15)))
    (l15 : K.lookup f15 = some ⟨oc15, od15, .func (PySem.W.fnOf "_law_m_fewest" "_law_m_fewest" (defArgs sMFewest) (defBody sMFewest) (defScope sMFewest) .none kV15 dc15 pm15 an15 cd15 ct15), sl15⟩)
    (c15 : PySem.W.codeIn K cd15 "_law_m_fewest" = true) (k15 : PySem.W.keepIn K (.ref f15) = true)
    (a16 : PySem.W.nsIn K mainGlobals "_law_start" = some (some (.ref f16)))
    (l16 : K.lookup f16 = some ⟨oc16, od16, .func (PySem.W.fnOf "_law_start" "_law_start" (defArgs sStart) (defBody sStart) (defScope sStart) .none kV16 dc16 pm16 an16 cd16 ct16), sl16⟩)
    (c16 : PySem.W.codeIn K cd16 "_law_start" = true) (k16 : PySem.W.keepIn K (.ref f16) = true)
    (a17 : PySem.W.nsIn K mainGlobals "_law_draw" = some (some (.ref f17)))
    (l17 : K.lookup f17 = some ⟨oc17, od17, .func (PySem.W.fnOf "_law_draw" "_law_draw" (defArgs sDraw) (defBody sDraw) (defScope sDraw) .none kV17 dc17 pm17 an17 cd17 ct17), sl17⟩)
    (c17 : PySem.W.codeIn K cd17 "_law_draw" = true) (k17 : PySem.W.keepIn K (.ref f17) = true)
    (a18 : PySem.W.nsIn K mainGlobals "_law_pick" = some (some (.ref f18)))
    (l18 : K.lookup f18 = some ⟨oc18, od18, .func (PySem.W.fnOf "_law_pick" "_law_pick" (defArgs sPick) (defBody sPick) (defScope sPick) .none kV18 dc18 pm18 an18 cd18 ct18), sl18⟩)
    (c18 : PySem.W.codeIn K cd18 "_law_pick" = true) (k18 : PySem.W.keepIn K (.ref f18) = true)
    (a19 : PySem.W.nsIn K mainGlobals "_law_mixed" = some (some (.ref f19)))
    (l19 : K.lookup f19 = some ⟨oc19, od19, .func (PySem.W.fnOf "_law_mixed" "_law_mixed" (defArgs sMixed) (defBody sMixed) (defScope sMixed) .none kV19 dc19 pm19 an19 cd19 ct19), sl19⟩)
    (c19 : PySem.W.codeIn K cd19 "_law_mixed" = true) (k19 : PySem.W.keepIn K (.ref f19) = true)
    (a20 : PySem.W.nsIn K mainGlobals "_law_same" = some (some (.ref f20)))
    (l20 : K.lookup f20 = some ⟨oc20, od20, .func (PySem.W.fnOf "_law_same" "_law_same" (defArgs sSame) (defBody sSame) (defScope sSame) .none kV20 dc20 pm20 an20 cd20 ct20), sl20⟩)
    (c20 : PySem.W.codeIn K cd20 "_law_same" = true) (k20 : PySem.W.keepIn K (.ref f20) = true)
    (a21 : PySem.W.nsIn K mainGlobals "_law_due" = some (some (.ref f21)))
    (l21 : K.lookup f21 = some ⟨oc21, od21, .func (PySem.W.fnOf "_law_due" "_law_due" (defArgs sDue) (defBody sDue) (defScope sDue) .none kV21 dc21 pm21 an21 cd21 ct21), sl21⟩)
    (c21 : PySem.W.codeIn K cd21 "_law_due" = true) (k21 : PySem.W.keepIn K (.ref f21) = true)
    (a22 : PySem.W.nsIn K mainGlobals "_law_hunted" = some (some (.ref f22)))
    (l22 : K.lookup f22 = some ⟨oc22, od22, .func (PySem.W.fnOf "_law_hunted" "_law_hunted" (defArgs sHunted) (defBody sHunted) (defScope sHunted) .none kV22 dc22 pm22 an22 cd22 ct22), sl22⟩)
    (c22 : PySem.W.codeIn K cd22 "_law_hunted" = true) (k22 : PySem.W.keepIn K (.ref f22) = true)
    (a23 : PySem.W.nsIn K mainGlobals "law" = some (some (.ref f23)))
    (l23 : K.lookup f23 = some ⟨oc23, od23, .func (PySem.W.fnOf "law" "law" (defArgs sLaw) (defBody sLaw) (defScope sLaw) .none kV23 dc23 pm23 an23 cd23 ct23), sl23⟩)
    (c23 : PySem.W.codeIn K cd23 "law" = true) (k23 : PySem.W.keepIn K (.ref f23) = true)
    (a24 : PySem.W.nsIn K mainGlobals "possible_ones" = some (some (.ref f24)))
    (l24 : K.lookup f24 = some ⟨oc24, od24, .func (PySem.W.fnOf "possible_ones" "possible_ones" (defArgs sPossible) (defBody sPossible) (defScope sPossible) (.ref T24) kV24 dc24 pm24 an24 cd24 ct24), sl24⟩)
    (t24 : K.lookup T24 = some ⟨oT24, dT24, .seq [Value.int 0 tk24].toArray nT24, sT24⟩)
    (c24 : PySem.W.codeIn K cd24 "possible_ones" = true) (k24 : PySem.W.keepIn K (.ref f24) = true)
    (a25 : PySem.W.nsIn K mainGlobals "fewest_askings" = some (some (.ref f25)))
    (l25 : K.lookup f25 = some ⟨oc25, od25, .func (PySem.W.fnOf "fewest_askings" "fewest_askings" (defArgs sFewestAskings) (defBody sFewestAskings) (defScope sFewestAskings) (.ref T25) kV25 dc25 pm25 an25 cd25 ct25), sl25⟩)
    (t25 : K.lookup T25 = some ⟨oT25, dT25, .seq [Value.int 0 tk25].toArray nT25, sT25⟩)
    (c25 : PySem.W.codeIn K cd25 "fewest_askings" = true) (k25 : PySem.W.keepIn K (.ref f25) = true)
    (a26 : PySem.W.nsIn K mainGlobals "ask_next" = some (some (.ref f26)))
    (l26 : K.lookup f26 = some ⟨oc26, od26, .func (PySem.W.fnOf "ask_next" "ask_next" (defArgs sAskNext) (defBody sAskNext) (defScope sAskNext) (.ref T26) kV26 dc26 pm26 an26 cd26 ct26), sl26⟩)
    (t26 : K.lookup T26 = some ⟨oT26, dT26, .seq [Value.int 0 tk26].toArray nT26, sT26⟩)
    (c26 : PySem.W.codeIn K cd26 "ask_next" = true) (k26 : PySem.W.keepIn K (.ref f26) = true)
    (a27 : PySem.W.findIn K (.ref C) "__init__" = some (some (.ref f27))) (i27 : PySem.W.isFn K (.ref f27) = true)
    (l27 : K.lookup f27 = some ⟨oc27, od27, .func (PySem.W.fnOf "__init__" "Hunt.__init__" (defArgs sInit) (defBody sInit) (defScope sInit) .none kV27 dc27 pm27 an27 cd27 ct27), sl27⟩)
    (c27 : PySem.W.codeIn K cd27 "Hunt.__init__" = true) (k27 : PySem.W.keepIn K (.ref f27) = true)
    (a28 : PySem.W.findIn K (.ref C) "begun" = some (some (.ref f28))) (i28 : PySem.W.isFn K (.ref f28) = true)
    (l28 : K.lookup f28 = some ⟨oc28, od28, .func (PySem.W.fnOf "begun" "Hunt.begun" (defArgs sBegun) (defBody sBegun) (defScope sBegun) .none kV28 dc28 pm28 an28 cd28 ct28), sl28⟩)
    (c28 : PySem.W.codeIn K cd28 "Hunt.begun" = true) (k28 : PySem.W.keepIn K (.ref f28) = true)
    (a29 : PySem.W.findIn K (.ref C) "behind_answer" = some (some (.ref f29))) (i29 : PySem.W.isFn K (.ref f29) = true)
    (l29 : K.lookup f29 = some ⟨oc29, od29, .func (PySem.W.fnOf "behind_answer" "Hunt.behind_answer" (defArgs sBehind1) (defBody sBehind1) (defScope sBehind1) .none kV29 dc29 pm29 an29 cd29 ct29), sl29⟩)
    (c29 : PySem.W.codeIn K cd29 "Hunt.behind_answer" = true) (k29 : PySem.W.keepIn K (.ref f29) = true)
    (a30 : PySem.W.findIn K (.ref C) "behind_all" = some (some (.ref f30))) (i30 : PySem.W.isFn K (.ref f30) = true)
    (l30 : K.lookup f30 = some ⟨oc30, od30, .func (PySem.W.fnOf "behind_all" "Hunt.behind_all" (defArgs sBehindAll) (defBody sBehindAll) (defScope sBehindAll) .none kV30 dc30 pm30 an30 cd30 ct30), sl30⟩)
    (c30 : PySem.W.codeIn K cd30 "Hunt.behind_all" = true) (k30 : PySem.W.keepIn K (.ref f30) = true)
    (a31 : PySem.W.findIn K (.ref C) "left_ones" = some (some (.ref f31))) (i31 : PySem.W.isFn K (.ref f31) = true)
    (l31 : K.lookup f31 = some ⟨oc31, od31, .func (PySem.W.fnOf "left_ones" "Hunt.left_ones" (defArgs sLeft) (defBody sLeft) (defScope sLeft) .none kV31 dc31 pm31 an31 cd31 ct31), sl31⟩)
    (c31 : PySem.W.codeIn K cd31 "Hunt.left_ones" = true) (k31 : PySem.W.keepIn K (.ref f31) = true)
    (a32 : PySem.W.findIn K (.ref C) "is_enough" = some (some (.ref f32))) (i32 : PySem.W.isFn K (.ref f32) = true)
    (l32 : K.lookup f32 = some ⟨oc32, od32, .func (PySem.W.fnOf "is_enough" "Hunt.is_enough" (defArgs sEnough) (defBody sEnough) (defScope sEnough) .none kV32 dc32 pm32 an32 cd32 ct32), sl32⟩)
    (c32 : PySem.W.codeIn K cd32 "Hunt.is_enough" = true) (k32 : PySem.W.keepIn K (.ref f32) = true)
    (a33 : PySem.W.findIn K (.ref C) "is_right" = some (some (.ref f33))) (i33 : PySem.W.isFn K (.ref f33) = true)
    (l33 : K.lookup f33 = some ⟨oc33, od33, .func (PySem.W.fnOf "is_right" "Hunt.is_right" (defArgs sRight) (defBody sRight) (defScope sRight) .none kV33 dc33 pm33 an33 cd33 ct33), sl33⟩)
    (c33 : PySem.W.codeIn K cd33 "Hunt.is_right" = true) (k33 : PySem.W.keepIn K (.ref f33) = true)
    (a34 : PySem.W.findIn K (.ref C) "unparted" = some (some (.ref f34))) (i34 : PySem.W.isFn K (.ref f34) = true)
    (l34 : K.lookup f34 = some ⟨oc34, od34, .func (PySem.W.fnOf "unparted" "Hunt.unparted" (defArgs sUnparted) (defBody sUnparted) (defScope sUnparted) .none kV34 dc34 pm34 an34 cd34 ct34), sl34⟩)
    (c34 : PySem.W.codeIn K cd34 "Hunt.unparted" = true) (k34 : PySem.W.keepIn K (.ref f34) = true)
    (a35 : PySem.W.findIn K (.ref C) "fewest_from" = some (some (.ref f35))) (i35 : PySem.W.isFn K (.ref f35) = true)
    (l35 : K.lookup f35 = some ⟨oc35, od35, .func (PySem.W.fnOf "fewest_from" "Hunt.fewest_from" (defArgs sFewest) (defBody sFewest) (defScope sFewest) .none kV35 dc35 pm35 an35 cd35 ct35), sl35⟩)
    (c35 : PySem.W.codeIn K cd35 "Hunt.fewest_from" = true) (k35 : PySem.W.keepIn K (.ref f35) = true)
    (pg : PySem.W.plainGet K C Str.empty = true) (hd : PySem.W.hasDictIn K C = true) (po : PySem.W.plainOver K C = true) (sa : PySem.W.findIn K (.ref C) "__setattr__" = some (some (.builtin "object.__setattr__"))) (mk : PySem.W.makesIn K C = true) (kc : PySem.W.keepIn K (.ref C) = true)
    (nO : PySem.W.findIn K (.ref C) "ones" = some none)
    (nM : PySem.W.findIn K (.ref C) "most" = some none)
    (nS : PySem.W.findIn K (.ref C) "signs" = some none)
    (nK : PySem.W.findIn K (.ref C) "known" = some none)
    (z0 : PySem.W.nsIn K mainGlobals "isinstance" = some none)
    (z1 : PySem.W.nsIn K mainGlobals "list" = some none)
    (z2 : PySem.W.nsIn K mainGlobals "tuple" = some none)
    (z3 : PySem.W.nsIn K mainGlobals "int" = some none)
    (z4 : PySem.W.nsIn K mainGlobals "bool" = some none)
    (z5 : PySem.W.nsIn K mainGlobals "str" = some none)
    (z6 : PySem.W.nsIn K mainGlobals "dict" = some none)
    (z7 : PySem.W.nsIn K mainGlobals "len" = some none)
    (z8 : PySem.W.nsIn K mainGlobals "all" = some none)
    (z9 : PySem.W.nsIn K mainGlobals "any" = some none)
    (z10 : PySem.W.nsIn K mainGlobals "set" = some none)
    (z11 : PySem.W.nsIn K mainGlobals "enumerate" = some none)
    (z12 : PySem.W.nsIn K mainGlobals "range" = some none)
    (z13 : PySem.W.nsIn K mainGlobals "zip" = some none)
    (z14 : PySem.W.nsIn K mainGlobals "min" = some none)
    (cS : PySem.W.nsIn K mainGlobals "SMALL" = some (some (.str "abcdefghijklmnopqrstuvwxyz" tS))) (cF : PySem.W.nsIn K mainGlobals "FIGURES" = some (some (.str "0123456789" tF))) :
    ∃ fd : FuncData, (∀ (s : Shared) (v : Value), BindsTo s fd ⟨[v], []⟩ [("_law_script", v)]) ∧ ∀ base : Heap, K.In base → base.Ns mainGlobals mg → FnOk l.prog w K mg base CX0 30 fa fd ["_law_script"] (spLaw K) := by
  have e := hfa.symm.trans (PySem.W.mg_of X G a23)
  cases e
  have F1 := fun_mk (st := sIsList) l1 c1 k1
  have b1 := F1.binds (ps := ["thing"]) fun _ _ _ _ _ _ us hl => match us, hl with | [_], _ => rfl
  have D_is_list : DefAt K mg "is_list" sIsList ["thing"] f1 _ := ⟨F1, PySem.W.mg_of X G a1, b1⟩
  have F2 := fun_mk (st := sIsInteger) l2 c2 k2
  have b2 := F2.binds (ps := ["thing"]) fun _ _ _ _ _ _ us hl => match us, hl with | [_], _ => rfl
  have D_is_integer : DefAt K mg "is_integer" sIsInteger ["thing"] f2 _ := ⟨F2, PySem.W.mg_of X G a2, b2⟩
  have F3 := fun_mk (st := sIsName) l3 c3 k3
  have b3 := F3.binds (ps := ["thing"]) fun _ _ _ _ _ _ us hl => match us, hl with | [_], _ => rfl
  have D_is_name : DefAt K mg "is_name" sIsName ["thing"] f3 _ := ⟨F3, PySem.W.mg_of X G a3, b3⟩
  have F4 := fun_mk (st := sAreNames) l4 c4 k4
  have b4 := F4.binds (ps := ["thing"]) fun _ _ _ _ _ _ us hl => match us, hl with | [_], _ => rfl
  have D_are_names : DefAt K mg "are_names" sAreNames ["thing"] f4 _ := ⟨F4, PySem.W.mg_of X G a4, b4⟩
  have F5 := fun_mk (st := sSuspects) l5 c5 k5
  have b5 := F5.binds (ps := ["thing"]) fun _ _ _ _ _ _ us hl => match us, hl with | [_], _ => rfl
  have D_checked_suspects : DefAt K mg "checked_suspects" sSuspects ["thing"] f5 _ := ⟨F5, PySem.W.mg_of X G a5, b5⟩
  have F6 := fun_mk (st := sAskings) l6 c6 k6
  have b6 := F6.binds (ps := ["thing"]) fun _ _ _ _ _ _ us hl => match us, hl with | [_], _ => rfl
  have D_checked_askings : DefAt K mg "checked_askings" sAskings ["thing"] f6 _ := ⟨F6, PySem.W.mg_of X G a6, b6⟩
  have F7 := fun_mk (st := sLies) l7 c7 k7
  have b7 := F7.binds (ps := ["thing"]) fun _ _ _ _ _ _ us hl => match us, hl with | [_], _ => rfl
  have D_checked_lies : DefAt K mg "checked_lies" sLies ["thing"] f7 _ := ⟨F7, PySem.W.mg_of X G a7, b7⟩
  have F8 := fun_mk (st := sAnswers) l8 c8 k8
  have b8 := F8.binds (ps := ["thing", "many"]) fun _ _ _ _ _ _ us hl => match us, hl with | [_, _], _ => rfl
  have D_checked_answers : DefAt K mg "checked_answers" sAnswers ["thing", "many"] f8 _ := ⟨F8, PySem.W.mg_of X G a8, b8⟩
  have F9 := fun_mk (st := sFewestOf) l9 c9 k9
  have b9 := F9.binds (ps := ["hunt"]) fun _ _ _ _ _ _ us hl => match us, hl with | [_], _ => rfl
  have D_fewest_of : DefAt K mg "fewest_of" sFewestOf ["hunt"] f9 _ := ⟨F9, PySem.W.mg_of X G a9, b9⟩
  have F10 := fun_mk (st := sFirstRight) l10 c10 k10
  have b10 := F10.binds (ps := ["hunt", "state", "many"]) fun _ _ _ _ _ _ us hl => match us, hl with | [_, _, _], _ => rfl
  have D_first_right : DefAt K mg "first_right" sFirstRight ["hunt", "state", "many"] f10 _ := ⟨F10, PySem.W.mg_of X G a10, b10⟩
  have F11 := fun_mk (st := sMSuspects) l11 c11 k11
  have b11 := F11.binds (ps := ["_law_stream", "_law_most"]) fun _ _ _ _ _ _ us hl => match us, hl with | [_, _], _ => rfl
  have D_L_m_suspects : DefAt K mg "_law_m_suspects" sMSuspects ["_law_stream", "_law_most"] f11 _ := ⟨F11, PySem.W.mg_of X G a11, b11⟩
  have F12 := fun_mk (st := sMAfter) l12 c12 k12
  have b12 := F12.binds (ps := ["_law_names", "_law_askings", "_law_state", "_law_index", "_law_answer"]) fun _ _ _ _ _ _ us hl => match us, hl with | [_, _, _, _, _], _ => rfl
  have D_L_m_after : DefAt K mg "_law_m_after" sMAfter ["_law_names", "_law_askings", "_law_state", "_law_index", "_law_answer"] f12 _ := ⟨F12, PySem.W.mg_of X G a12, b12⟩
  have F13 := fun_mk (st := sMLeft) l13 c13 k13
  have b13 := F13.binds (ps := ["_law_names", "_law_state", "_law_lies"]) fun _ _ _ _ _ _ us hl => match us, hl with | [_, _, _], _ => rfl
  have D_L_m_left : DefAt K mg "_law_m_left" sMLeft ["_law_names", "_law_state", "_law_lies"] f13 _ := ⟨F13, PySem.W.mg_of X G a13, b13⟩
  have F14 := fun_mk (st := sMEnough) l14 c14 k14
  have b14 := F14.binds (ps := ["_law_names", "_law_askings", "_law_lies", "_law_state", "_law_many", "_law_known"]) fun _ _ _ _ _ _ us hl => match us, hl with | [_, _, _, _, _, _], _ => rfl
  have D_L_m_is_enough : DefAt K mg "_law_m_is_enough" sMEnough ["_law_names", "_law_askings", "_law_lies", "_law_state", "_law_many", "_law_known"] f14 _ := ⟨F14, PySem.W.mg_of X G a14, b14⟩
  have F15 := fun_mk (st := sMFewest) l15 c15 k15
  have b15 := F15.binds (ps := ["_law_names", "_law_askings", "_law_lies", "_law_state"]) fun _ _ _ _ _ _ us hl => match us, hl with | [_, _, _, _], _ => rfl
  have D_L_m_fewest : DefAt K mg "_law_m_fewest" sMFewest ["_law_names", "_law_askings", "_law_lies", "_law_state"] f15 _ := ⟨F15, PySem.W.mg_of X G a15, b15⟩
  have F16 := fun_mk (st := sStart) l16 c16 k16
  have b16 := F16.binds (ps := ["_law_script"]) fun _ _ _ _ _ _ us hl => match us, hl with | [_], _ => rfl
  have D_L_start : DefAt K mg "_law_start" sStart ["_law_script"] f16 _ := ⟨F16, PySem.W.mg_of X G a16, b16⟩
  have F17 := fun_mk (st := sDraw) l17 c17 k17
  have b17 := F17.binds (ps := ["_law_stream", "_law_many"]) fun _ _ _ _ _ _ us hl => match us, hl with | [_, _], _ => rfl
  have D_L_draw : DefAt K mg "_law_draw" sDraw ["_law_stream", "_law_many"] f17 _ := ⟨F17, PySem.W.mg_of X G a17, b17⟩
  have F18 := fun_mk (st := sPick) l18 c18 k18
  have b18 := F18.binds (ps := ["_law_stream", "_law_some"]) fun _ _ _ _ _ _ us hl => match us, hl with | [_, _], _ => rfl
  have D_L_pick : DefAt K mg "_law_pick" sPick ["_law_stream", "_law_some"] f18 _ := ⟨F18, PySem.W.mg_of X G a18, b18⟩
  have F19 := fun_mk (st := sMixed) l19 c19 k19
  have b19 := F19.binds (ps := ["_law_stream", "_law_some"]) fun _ _ _ _ _ _ us hl => match us, hl with | [_, _], _ => rfl
  have D_L_mixed : DefAt K mg "_law_mixed" sMixed ["_law_stream", "_law_some"] f19 _ := ⟨F19, PySem.W.mg_of X G a19, b19⟩
  have F20 := fun_mk (st := sSame) l20 c20 k20
  have b20 := F20.binds (ps := ["_law_found", "_law_due_here"]) fun _ _ _ _ _ _ us hl => match us, hl with | [_, _], _ => rfl
  have D_L_same : DefAt K mg "_law_same" sSame ["_law_found", "_law_due_here"] f20 _ := ⟨F20, PySem.W.mg_of X G a20, b20⟩
  have F21 := fun_mk (st := sDue) l21 c21 k21
  have b21 := F21.binds (ps := ["_law_names", "_law_askings", "_law_lies", "_law_state"]) fun _ _ _ _ _ _ us hl => match us, hl with | [_, _, _, _], _ => rfl
  have D_L_due : DefAt K mg "_law_due" sDue ["_law_names", "_law_askings", "_law_lies", "_law_state"] f21 _ := ⟨F21, PySem.W.mg_of X G a21, b21⟩
  have F22 := fun_mk (st := sHunted) l22 c22 k22
  have b22 := F22.binds (ps := ["_law_names", "_law_askings", "_law_lies", "_law_one", "_law_late"]) fun _ _ _ _ _ _ us hl => match us, hl with | [_, _, _, _, _], _ => rfl
  have D_L_hunted : DefAt K mg "_law_hunted" sHunted ["_law_names", "_law_askings", "_law_lies", "_law_one", "_law_late"] f22 _ := ⟨F22, PySem.W.mg_of X G a22, b22⟩
  have F23 := fun_mk (st := sLaw) l23 c23 k23
  have b23 := F23.binds (ps := ["_law_script"]) fun _ _ _ _ _ _ us hl => match us, hl with | [_], _ => rfl
  have F24 : FunD K "possible_ones" "possible_ones" (defArgs sPossible) (defBody sPossible) (defScope sPossible) [.int 0] [] f24 _ := ⟨⟨_, _, _, _, _, _, _, _, _, _, rfl, l24, c24, .inr ⟨(fun z => nomatch z), T24, _, [Value.int 0 tk24], nT24, rfl, t24, rfl, .cons ⟨_, rfl⟩ .nil⟩, .inl rfl⟩, k24⟩
  have b24 := dbind_possible_ones F24
  have D_possible_ones : DefD K mg "possible_ones" sPossible ["suspects", "askings", "answers", "lies"] f24 _ := ⟨F24, PySem.W.mg_of X G a24, b24⟩
  have F25 : FunD K "fewest_askings" "fewest_askings" (defArgs sFewestAskings) (defBody sFewestAskings) (defScope sFewestAskings) [.int 0] [] f25 _ := ⟨⟨_, _, _, _, _, _, _, _, _, _, rfl, l25, c25, .inr ⟨(fun z => nomatch z), T25, _, [Value.int 0 tk25], nT25, rfl, t25, rfl, .cons ⟨_, rfl⟩ .nil⟩, .inl rfl⟩, k25⟩
  have b25 := dbind_fewest_askings F25
  have D_fewest_askings : DefD K mg "fewest_askings" sFewestAskings ["suspects", "askings", "lies"] f25 _ := ⟨F25, PySem.W.mg_of X G a25, b25⟩
  have F26 : FunD K "ask_next" "ask_next" (defArgs sAskNext) (defBody sAskNext) (defScope sAskNext) [.int 0] [] f26 _ := ⟨⟨_, _, _, _, _, _, _, _, _, _, rfl, l26, c26, .inr ⟨(fun z => nomatch z), T26, _, [Value.int 0 tk26], nT26, rfl, t26, rfl, .cons ⟨_, rfl⟩ .nil⟩, .inl rfl⟩, k26⟩
  have b26 := dbind_ask_next F26
  have D_ask_next : DefD K mg "ask_next" sAskNext ["suspects", "askings", "answers", "lies"] f26 _ := ⟨F26, PySem.W.mg_of X G a26, b26⟩
  have F27 := fun_mk (st := sInit) l27 c27 k27
  have b27 := F27.binds (ps := ["self", "suspects", "askings", "lies"]) fun _ _ _ _ _ _ us hl => match us, hl with | [_, _, _, _], _ => rfl
  have M_init : MethAt K C "__init__" "Hunt.__init__" sInit ["self", "suspects", "askings", "lies"] f27 _ := ⟨F27, ⟨a27, i27, k27⟩, b27⟩
  have F28 := fun_mk (st := sBegun) l28 c28 k28
  have b28 := F28.binds (ps := ["self"]) fun _ _ _ _ _ _ us hl => match us, hl with | [_], _ => rfl
  have M_begun : MethAt K C "begun" "Hunt.begun" sBegun ["self"] f28 _ := ⟨F28, ⟨a28, i28, k28⟩, b28⟩
  have F29 := fun_mk (st := sBehind1) l29 c29 k29
  have b29 := F29.binds (ps := ["self", "state", "index", "answer"]) fun _ _ _ _ _ _ us hl => match us, hl with | [_, _, _, _], _ => rfl
  have M_behind_answer : MethAt K C "behind_answer" "Hunt.behind_answer" sBehind1 ["self", "state", "index", "answer"] f29 _ := ⟨F29, ⟨a29, i29, k29⟩, b29⟩
  have F30 := fun_mk (st := sBehindAll) l30 c30 k30
  have b30 := F30.binds (ps := ["self", "answers"]) fun _ _ _ _ _ _ us hl => match us, hl with | [_, _], _ => rfl
  have M_behind_all : MethAt K C "behind_all" "Hunt.behind_all" sBehindAll ["self", "answers"] f30 _ := ⟨F30, ⟨a30, i30, k30⟩, b30⟩
  have F31 := fun_mk (st := sLeft) l31 c31 k31
  have b31 := F31.binds (ps := ["self", "state"]) fun _ _ _ _ _ _ us hl => match us, hl with | [_, _], _ => rfl
  have M_left_ones : MethAt K C "left_ones" "Hunt.left_ones" sLeft ["self", "state"] f31 _ := ⟨F31, ⟨a31, i31, k31⟩, b31⟩
  have F32 := fun_mk (st := sEnough) l32 c32 k32
  have b32 := F32.binds (ps := ["self", "state", "many"]) fun _ _ _ _ _ _ us hl => match us, hl with | [_, _, _], _ => rfl
  have M_is_enough : MethAt K C "is_enough" "Hunt.is_enough" sEnough ["self", "state", "many"] f32 _ := ⟨F32, ⟨a32, i32, k32⟩, b32⟩
  have F33 := fun_mk (st := sRight) l33 c33 k33
  have b33 := F33.binds (ps := ["self", "state", "index", "many"]) fun _ _ _ _ _ _ us hl => match us, hl with | [_, _, _, _], _ => rfl
  have M_is_right : MethAt K C "is_right" "Hunt.is_right" sRight ["self", "state", "index", "many"] f33 _ := ⟨F33, ⟨a33, i33, k33⟩, b33⟩
  have F34 := fun_mk (st := sUnparted) l34 c34 k34
  have b34 := F34.binds (ps := ["self"]) fun _ _ _ _ _ _ us hl => match us, hl with | [_], _ => rfl
  have M_unparted : MethAt K C "unparted" "Hunt.unparted" sUnparted ["self"] f34 _ := ⟨F34, ⟨a34, i34, k34⟩, b34⟩
  have F35 := fun_mk (st := sFewest) l35 c35 k35
  have b35 := F35.binds (ps := ["self", "state"]) fun _ _ _ _ _ _ us hl => match us, hl with | [_, _], _ => rfl
  have M_fewest_from : MethAt K C "fewest_from" "Hunt.fewest_from" sFewest ["self", "state"] f35 _ := ⟨F35, ⟨a35, i35, k35⟩, b35⟩
  have T : BI mg := ⟨PySem.W.mg_none_of X G z0, PySem.W.mg_none_of X G z1, PySem.W.mg_none_of X G z2, PySem.W.mg_none_of X G z3, PySem.W.mg_none_of X G z4, PySem.W.mg_none_of X G z5, PySem.W.mg_none_of X G z6, PySem.W.mg_none_of X G z7, PySem.W.mg_none_of X G z8, PySem.W.mg_none_of X G z9, PySem.W.mg_none_of X G z10, PySem.W.mg_none_of X G z11, PySem.W.mg_none_of X G z12, PySem.W.mg_none_of X G z13, PySem.W.mg_none_of X G z14, ⟨tS, PySem.W.mg_of X G cS⟩, ⟨tF, PySem.W.mg_of X G cF⟩⟩
  have Z : HuntF K mg C := ⟨⟨pg, hd, po, sa⟩, PySem.W.mg_of X G aC, nO, nM, nS, nK⟩
  have Zmk : Mk K C f27 := ⟨mk, a27, i27, kc⟩
  refine ⟨PySem.W.fnOf "law" "law" (defArgs sLaw) (defBody sLaw) (defScope sLaw) .none kV23 dc23 pm23 an23 cd23 ct23, fun s v => .of_eq rfl, fun base _ _ => ?_⟩
  have G_are_names := ok_are_names (P := l.prog) (w := w) (base := base) D_are_names.F T D_is_list D_is_name
  have G_checked_suspects := ok_checked_suspects (P := l.prog) (w := w) (base := base) D_checked_suspects.F T D_is_list D_is_name
  have G_checked_askings := ok_checked_askings (P := l.prog) (w := w) (base := base) D_checked_askings.F T D_is_list D_are_names G_are_names
  have G_checked_lies := ok_checked_lies (P := l.prog) (w := w) (base := base) D_checked_lies.F T D_is_integer
  have G_checked_answers := ok_checked_answers (P := l.prog) (w := w) (base := base) D_checked_answers.F T D_is_list D_is_integer
  have G_init := ok_init (P := l.prog) (w := w) (base := base) M_init.F T Z D_checked_suspects G_checked_suspects D_checked_askings G_checked_askings D_checked_lies G_checked_lies
  have B := both_enough (P := l.prog) (w := w) (base := base) T Z M_behind_answer M_left_ones M_is_enough M_is_right 12
  have G_fewest_from := ok_fewest_from (P := l.prog) (w := w) (base := base) M_fewest_from.F T Z M_is_enough B.2
  have G_first_right := ok_first_right (P := l.prog) (w := w) (base := base) D_first_right.F T Z M_is_right B.1
  have G_behind_all := ok_behind_all (P := l.prog) (w := w) (base := base) M_behind_all.F T Z M_begun M_behind_answer
  have G_fewest_of := ok_fewest_of (P := l.prog) (w := w) (base := base) D_fewest_of.F T Z M_begun M_unparted M_fewest_from G_fewest_from
  have G_fewest_askings := ok_fewest_askings (P := l.prog) (w := w) (base := base) D_fewest_askings.F T Z Zmk M_init G_init D_fewest_of G_fewest_of
  have G_possible_ones := ok_possible_ones (P := l.prog) (w := w) (base := base) D_possible_ones.F T Z Zmk M_init G_init M_left_ones M_behind_all G_behind_all D_checked_answers G_checked_answers
  have G_ask_next := ok_ask_next (P := l.prog) (w := w) (base := base) D_ask_next.F T Z Zmk M_init G_init M_fewest_from G_fewest_from M_behind_all G_behind_all D_checked_answers G_checked_answers D_first_right G_first_right
  exact ok_law F23 T D_L_start D_L_draw D_L_pick D_L_mixed D_L_m_suspects D_L_m_after D_L_m_left D_L_m_is_enough D_L_m_fewest D_L_due D_L_same D_L_hunted D_ask_next G_ask_next D_possible_ones G_possible_ones D_fewest_askings G_fewest_askings
theorem walk {l : PySem.W.OpenLaw} {q : Program} {loose : List Str} {XP : (Str → Option Value) → Heap → Prop} {YP : World → Heap → Prop} {d : DefRec} {K : Params → PySem.W.Frag} (hn : l.most = some 63) (hdf : d.params.defaults = [])
    (hY : ∀ (w : World) (h : Heap), YP w h → (K w.params).In h)
    (F : ∀ (w : World) (mg : Str → Option Value) (fa : Addr) (h : Heap), (K w.params).In h → h.Ns mainGlobals mg → mg d.name = some (.ref fa) →
      ∃ fd : FuncData, (∀ (s : Shared) (u : Value), BindsTo s fd ⟨[u], []⟩ [("_law_script", u)]) ∧ ∀ base : Heap, (K w.params).In base → base.Ns mainGlobals mg → FnOk l.prog w (K w.params) mg base CX0 30 fa fd ["_law_script"] (spLaw (K w.params))) :
    PySem.W.WalkO q loose XP YP l.row.toRowW d [] (fun f vs => PySem.call f vs) :=
  L2.walk_of (n := 63) (k := 30) (x := "_law_script") (CX := fun _ => CX0) (sp := fun w => spLaw (K w.params)) hn (by decide) hdf ⟨rfl, by decide, by decide⟩ hY F (fun _ _ a ns hl _ hS => ⟨a, ns, rfl, hS, hl, fun _ => rfl⟩) fun _ _ _ _ _ z => z
end P81
end
open PySem PySem.W PyProof.Rows
set_option maxRecDepth 100000 in
set_option maxHeartbeats 0 in
theorem PySem.Challenge.cw_patchlots_k81_whole_next_ones_asked_holds : PySem.Challenge.rw_patchlots_k81_whole_next_ones_asked.Holds := by
  w_on; o_law; k_head; (case hw => w_witness2)
  k_fill
  refine P81.walk (l := PySem.Challenge.rw_patchlots_k81_whole_next_ones_asked) rfl rfl (fun w h Y => PySem.W.kIn_of Y) ?F
  case F =>
    intro w mg fa h KX G hmg
    refine' P81.all_mk KX G hmg ?aC ?a1 ?l1 ?c1 ?k1 ?a2 ?l2 ?c2 ?k2 ?a3 ?l3 ?c3 ?k3 ?a4 ?l4 ?c4 ?k4 ?a5 ?l5 ?c5 ?k5 ?a6 ?l6 ?c6 ?k6 ?a7 ?l7 ?c7 ?k7 ?a8 ?l8 ?c8 ?k8 ?a9 ?l9 ?c9 ?k9 ?a10 ?l10 ?c10 ?k10 ?a11 ?l11 ?c11 ?k11 ?a12 ?l12 ?c12 ?k12 ?a13 ?l13 ?c13 ?k13 ?a14 ?l14 ?c14 ?k14 ?a15 ?l15 ?c15 ?k15 ?a16 ?l16 ?c16 ?k16 ?a17 ?l17 ?c17 ?k17 ?a18 ?l18 ?c18 ?k18 ?a19 ?l19 ?c19 ?k19 ?a20 ?l20 ?c20 ?k20 ?a21 ?l21 ?c21 ?k21 ?a22 ?l22 ?c22 ?k22 ?a23 ?l23 ?c23 ?k23 ?a24 ?l24 ?t24 ?c24 ?k24 ?a25 ?l25 ?t25 ?c25 ?k25 ?a26 ?l26 ?t26 ?c26 ?k26 ?a27 ?i27 ?l27 ?c27 ?k27 ?a28 ?i28 ?l28 ?c28 ?k28 ?a29 ?i29 ?l29 ?c29 ?k29 ?a30 ?i30 ?l30 ?c30 ?k30 ?a31 ?i31 ?l31 ?c31 ?k31 ?a32 ?i32 ?l32 ?c32 ?k32 ?a33 ?i33 ?l33 ?c33 ?k33 ?a34 ?i34 ?l34 ?c34 ?k34 ?a35 ?i35 ?l35 ?c35 ?k35 ?pg ?hd ?po ?sa ?mk ?kc ?nO ?nM ?nS ?nK ?z0 ?z1 ?z2 ?z3 ?z4 ?z5 ?z6 ?z7 ?z8 ?z9 ?z10 ?z11 ?z12 ?z13 ?z14 ?cS ?cF
    (case aC => k_is); (case a1 => k_is); (case l1 => k_is); (case c1 => k_is); (case k1 => k_is); (case a2 => k_is); (case l2 => k_is); (case c2 => k_is); (case k2 => k_is); (case a3 => k_is); (case l3 => k_is); (case c3 => k_is); (case k3 => k_is); (case a4 => k_is); (case l4 => k_is); (case c4 => k_is); (case k4 => k_is); (case a5 => k_is); (case l5 => k_is); (case c5 => k_is); (case k5 => k_is); (case a6 => k_is); (case l6 => k_is); (case c6 => k_is); (case k6 => k_is); (case a7 => k_is); (case l7 => k_is); (case c7 => k_is); (case k7 => k_is); (case a8 => k_is); (case l8 => k_is); (case c8 => k_is); (case k8 => k_is); (case a9 => k_is); (case l9 => k_is); (case c9 => k_is); (case k9 => k_is); (case a10 => k_is); (case l10 => k_is); (case c10 => k_is); (case k10 => k_is); (case a11 => k_is); (case l11 => k_is); (case c11 => k_is); (case k11 => k_is); (case a12 => k_is); (case l12 => k_is); (case c12 => k_is); (case k12 => k_is); (case a13 => k_is); (case l13 => k_is); (case c13 => k_is); (case k13 => k_is); (case a14 => k_is); (case l14 => k_is); (case c14 => k_is); (case k14 => k_is); (case a15 => k_is); (case l15 => k_is); (case c15 => k_is); (case k15 => k_is); (case a16 => k_is); (case l16 => k_is); (case c16 => k_is); (case k16 => k_is); (case a17 => k_is); (case l17 => k_is); (case c17 => k_is); (case k17 => k_is); (case a18 => k_is); (case l18 => k_is); (case c18 => k_is); (case k18 => k_is); (case a19 => k_is); (case l19 => k_is); (case c19 => k_is); (case k19 => k_is); (case a20 => k_is); (case l20 => k_is); (case c20 => k_is); (case k20 => k_is); (case a21 => k_is); (case l21 => k_is); (case c21 => k_is); (case k21 => k_is); (case a22 => k_is); (case l22 => k_is); (case c22 => k_is); (case k22 => k_is); (case a23 => k_is); (case l23 => k_is); (case c23 => k_is); (case k23 => k_is); (case a24 => k_is); (case l24 => k_is); (case t24 => k_is); (case c24 => k_is); (case k24 => k_is); (case a25 => k_is); (case l25 => k_is); (case t25 => k_is); (case c25 => k_is); (case k25 => k_is); (case a26 => k_is); (case l26 => k_is); (case t26 => k_is); (case c26 => k_is); (case k26 => k_is); (case a27 => k_is); (case i27 => k_is); (case l27 => k_is); (case c27 => k_is); (case k27 => k_is); (case a28 => k_is); (case i28 => k_is); (case l28 => k_is); (case c28 => k_is); (case k28 => k_is); (case a29 => k_is); (case i29 => k_is); (case l29 => k_is); (case c29 => k_is); (case k29 => k_is); (case a30 => k_is); (case i30 => k_is); (case l30 => k_is); (case c30 => k_is); (case k30 => k_is); (case a31 => k_is); (case i31 => k_is); (case l31 => k_is); (case c31 => k_is); (case k31 => k_is); (case a32 => k_is); (case i32 => k_is); (case l32 => k_is); (case c32 => k_is); (case k32 => k_is); (case a33 => k_is); (case i33 => k_is); (case l33 => k_is); (case c33 => k_is); (case k33 => k_is); (case a34 => k_is); (case i34 => k_is); (case l34 => k_is); (case c34 => k_is); (case k34 => k_is); (case a35 => k_is); (case i35 => k_is); (case l35 => k_is); (case c35 => k_is); (case k35 => k_is); (case pg => k_is); (case hd => k_is); (case po => k_is); (case sa => k_is); (case mk => k_is); (case kc => k_is); (case nO => k_is); (case nM => k_is); (case nS => k_is); (case nK => k_is); (case z0 => k_is); (case z1 => k_is); (case z2 => k_is); (case z3 => k_is); (case z4 => k_is); (case z5 => k_is); (case z6 => k_is); (case z7 => k_is); (case z8 => k_is); (case z9 => k_is); (case z10 => k_is); (case z11 => k_is); (case z12 => k_is); (case z13 => k_is); (case z14 => k_is); (case cS => k_is); (case cF => k_is)
