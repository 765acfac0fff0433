import PyProof.Rows.All
import Wide.All
import OpenK.AllK
import Wide.FinOn
import PyProof.TupleKey
import PyProof.DictRoadsH
import KE.KStateDown
import HandS.ForMost
import HandS.Exc
import HandS.ExcInit
import HandS.ExcIs
import HandS.ExcField
import HandS.More
import HandS.Defaults
import HandS.WordsExc
import HandS.Property
import HandS.MakeKwOnly
import HandS.Star
import HandS.IsInst
import HandS.Deep
import HandS.TupMul
import HandS.TupAny
import HandS.TupLe
import HandS.RaiseMore
import HandS.TryOnly
import HandS.CallSlots
import HandS.DictComp
import HandS.Conv
import HandS.Iter
import HandS.Flow
import HandS.Wide
import HandS.HeadHook1
import HandS.HeadHook2
import HandS.HeadEnd
import HandS.Head0
import HandS.Head1
import HandS.Head2
import PySem.Challenge.RW_grownfiles_k76_whole_tables_of_any_autho
import HandS.List
import HandS.SlotsOwn
import KE.KDictDisplayH
import HandS.DictTup
import HandS.TupLen
import HandS.Walk
set_option Elab.async false
set_option linter.all false
set_option maxRecDepth 100000
set_option maxHeartbeats 0
namespace K76
open PySem PySem.Spec PyProof.Rows
section
variable {prog : Program} {w : World} {K : Type} [DecidableEq K] (hk : HeapKind prog w K)

inductive RefsAre (h : Heap) : List K → List Value → Prop
  | nil : RefsAre h [] []
  | cons {k : K} {a : Addr} {ks : List K} {vs : List Value} : hk.is h k a → RefsAre h ks vs → RefsAre h (k :: ks) (.ref a :: vs)

def IsNest (h : Heap) (ks : List K) (a : Addr) : Prop := ∃ o items n, h.get? a = some o ∧ o.cls = .type "tuple" ∧ o.data = .seq items n ∧ RefsAre hk h ks items.toList

variable {hk}
theorem RefsAre.inj {h : Heap} {x y : List K} {vs : List Value} (hx : RefsAre hk h x vs) (hy : RefsAre hk h y vs) : x = y := by
  induction hx generalizing y with
  | nil => cases hy; rfl
  | cons h1 _ ih =>
    cases hy with
    | cons h2 t2 => rw [hk.inj h1 h2, ih t2]
theorem RefsAre.keeps {h h' : Heap} {ks : List K} {vs : List Value} {d : Addr} {o : Obj} {es ep} (x : RefsAre hk h ks vs) (ho : h.get? d = some o) (hd : o.data = .dict es ep) (hs : Heap.SameBut d h h') : RefsAre hk h' ks vs := by
  induction x with
  | nil => exact .nil
  | cons h1 _ ih => exact .cons (hk.keeps h1 ho hd hs) ih
theorem IsNest.typeIs {s : Shared} {ks : List K} {a : Addr} (x : IsNest hk s.heap ks a) : s.TypeIs (.ref a) "tuple" := let ⟨o, _, _, ho, hc, _⟩ := x; ⟨o, ho, hc⟩
theorem IsNest.inj {h : Heap} {a : Addr} {x y : List K} (hx : IsNest hk h x a) (hy : IsNest hk h y a) : x = y := by
  obtain ⟨o, items, n, ho, _, hd, hi⟩ := hx
  obtain ⟨o', items', n', ho', _, hd', hi'⟩ := hy
  obtain rfl : o = o' := Option.some.inj (ho.symm.trans ho')
  rw [hd] at hd'
  injection hd' with h1 _
  subst h1
  exact hi.inj hi'
theorem IsNest.keeps {h h' : Heap} {ks : List K} {a d : Addr} {o : Obj} {es ep} (x : IsNest hk h ks a) (ho : h.get? d = some o) (hd : o.data = .dict es ep) (hs : Heap.SameBut d h h') :
    IsNest hk h' ks a := by
  obtain ⟨o', items, n, ho', hc, hd', hi⟩ := x
  have hne : a ≠ d := by
    rintro rfl
    obtain rfl : o' = o := Option.some.inj (ho'.symm.trans ho)
    rw [hd] at hd'; exact nomatch hd'
  exact ⟨o', items, n, (hs.2 a hne).trans ho', hc, hd', hi.keeps ho hd hs⟩
/-- the tokens that the items' hashes draw -/
def drawsAll (hk : HeapKind prog w K) (ks : List K) : Nat := (ks.map hk.draws).sum
theorem drawsAll_snoc (ks : List K) (k : K) : drawsAll hk (ks ++ [k]) = drawsAll hk ks + hk.draws k := by simp [drawsAll]
def nestHash (hk : HeapKind prog w K) (ks : List K) : Int := reduceHash (Builtin.Tuple.tupleHashOf (ks.map hk.hash))

variable {A : Around} {E : Value → Shared → Prop} {s : Shared}

theorem pyHash_nest {ks : List K} {a : Addr} {Q : Int → Shared → Prop} (hu : A.units < cLine) (hr : hk.room A.in1) (hn : IsNest hk s.heap ks a) (h : Q (nestHash hk ks) { s with toks := s.toks + (drawsAll hk ks + 1) }) :
    wpAny (model prog w) A (pyHash (.ref a)) Q E s := by
  have hT := hn.typeIs
  obtain ⟨o, items, n, ho, _, hd, hi⟩ := hn
  unfold pyHash
  first | unfold pyHashByItsType | skip
  first | refine wpAny_bind (wpAny_cRoomFor_or (.inr hu) ?_) | skip
  refine wpAny_bind (wpAny_specialOf hT F.slot_tuple_hash.lookup ?_)
  show wpAny _ _ (if (some (Value.builtin "tuple.__hash__") == some Value.none) = true then _ else _) Q E s
  rw [if_neg (by rw [beq_builtin_none]; exact Bool.false_ne_true)]
  refine wpAny_bind (wpAny_specialOf hT F.slot_tuple_hash.lookup ?_)
  show wpAny _ _ (callSpecialIfBoundUnlessNone? (.ref a) "__hash__" _ >>= _) Q E s
  refine wpAny_bind (wpAny_callSpecialIfBoundUnlessNone?_slot hT F.slot_tuple_hash (wpAny_call_entry F.slot_tuple_hash hT F.entry_tuple_hash ?_ (F.args_tuple_hash_1 _)))
  show wpAny _ _ (Builtin.Tuple.tupleItemsOf (.ref a) >>= _) _ _ s
  refine wpAny_bind (wpAny_tupleItemsOf ho hd ?_)
  refine wpAny_bind ?_
  rw [← Array.forIn_toList]
  refine wpAny_forIn_list _
    (fun rest (b : Array Int) s' => ∃ done left, ks = done ++ left ∧ RefsAre hk s.heap left rest ∧ b.toList = done.map hk.hash ∧ s' = { s with toks := s.toks + drawsAll hk done })
    _ ?_ ?_ _ _ ⟨[], ks, rfl, hi, rfl, rfl⟩
  · rintro x rest b s' ⟨done, left, rfl, hl, hb, rfl⟩
    cases hl with
    | @cons k b0 ks' _ h1 hl' =>
      refine wpAny_bind (hk.pyHash (s := { s with toks := s.toks + drawsAll hk done }) hr h1 ?_)
      have e : s.toks + drawsAll hk done + hk.draws k = s.toks + drawsAll hk (done ++ [k]) := by rw [drawsAll_snoc]; omega
      first
        | exact wpAny_pure ⟨done ++ [k], ks', by simp, hl', by simp [hb], by simp [e]⟩
        | exact wpAny_bind (wpAny_pure (wpAny_pure ⟨done ++ [k], ks', by simp, hl', by simp [hb], by simp [e]⟩))
  · rintro b s' ⟨done, left, rfl, hl, hb, rfl⟩
    cases hl
    rw [List.append_nil] at h
    show wpAny _ _ (retInt (Builtin.Tuple.tupleHashOf b.toList)) _ _ _
    rw [hb]
    refine wpAny_ret_mkInt ?_
    show wpAny _ _ (if (decide (-(2 : Int) ^ 63 ≤ Builtin.Tuple.tupleHashOf (done.map hk.hash)) && decide (Builtin.Tuple.tupleHashOf (done.map hk.hash) < 2 ^ 63)) = true then _ else _) Q E _
    unfold nestHash reduceHash at h
    by_cases hr : (decide (-(2 : Int) ^ 63 ≤ Builtin.Tuple.tupleHashOf (done.map hk.hash)) && decide (Builtin.Tuple.tupleHashOf (done.map hk.hash) < 2 ^ 63)) = true
    · rw [if_pos hr]
      rw [if_pos hr] at h
      exact wpAny_pure (by simpa [Nat.add_assoc] using h)
    · rw [if_neg hr]
      rw [if_neg hr] at h
      exact wpAny_bind (wpAny_rule (wpAny_pure (by simpa [Nat.add_assoc] using h)))

theorem nest_eq_tree {x y : List K} {a b : Addr} {P : Fin → Shared → Prop} (hr : hk.room A) (hx : IsNest hk s.heap x a) (hy : IsNest hk s.heap y b) (h : P (.done (.ret (.bool (decide (x = y))))) s) :
    wpAny (model prog w) A (Builtin.«tuple.__eq__» ⟨[.ref a, .ref b], []⟩) P E s := by
  have hTb := hy.typeIs
  obtain ⟨oa, xs, na, hoa, _, hda, hia⟩ := hx
  obtain ⟨ob, ys, nb, hob, _, hdb, hib⟩ := hy
  show wpAny _ _ (isInstance (.ref b) (.type "tuple") >>= _) _ _ s
  refine wpAny_bind (wpAny_isInstance hTb isSubtype_tuple_tuple ?_)
  simp only [Bool.not_true, Bool.false_eq_true, if_false]
  refine wpAny_bind (wpAny_tupleItemsOf hoa hda ?_)
  refine wpAny_bind (wpAny_tupleItemsOf hob hdb ?_)
  refine wpAny_bind ?_
  refine wpAny_forIn_list _
    (fun rest r s' => r.1 = none ∧ s' = s ∧ ∃ x' y' xs' ys', rest = List.zip xs' ys' ∧ RefsAre hk s.heap x' xs' ∧ RefsAre hk s.heap y' ys' ∧ decide (x' = y') = decide (x = y) ∧ (xs'.length == ys'.length) = (xs.size == ys.size))
    _ ?_ ?_ _ _ ⟨rfl, rfl, x, y, xs.toList, ys.toList, rfl, hia, hib, rfl, by simp⟩
  · rintro ⟨u, v⟩ rest r s' ⟨hr0, rfl, x', y', xs', ys', hz, hx', hy', hdec, hlen⟩
    cases hx' with
    | nil => simp at hz
    | @cons k1 u' x'' xs'' h1 hx'' =>
      cases hy' with
      | nil => simp at hz
      | @cons k2 v' y'' ys'' h2 hy'' =>
        simp only [List.zip_cons_cons, List.cons.injEq, Prod.mk.injEq] at hz
        obtain ⟨⟨rfl, rfl⟩, rfl⟩ := hz
        refine wpAny_bind (hk.eqBool (x := k1) (y := k2) hr h1 h2 ?_)
        by_cases hkk : k1 = k2
        · subst hkk
          rw [decide_eq_true rfl]
          simp only [Bool.not_true, Bool.false_eq_true, if_false]
          refine wpAny_pure ⟨rfl, rfl, x'', y'', xs'', ys'', rfl, hx'', hy'', ?_, by simpa using hlen⟩
          rw [← hdec]
          by_cases hxy : x'' = y''
          · simp [hxy]
          · simp [hxy]
        · rw [decide_eq_false hkk]
          simp only [Bool.not_false, if_true]
          have hf : decide (x = y) = false := by rw [← hdec]; simp [hkk]
          rw [hf] at h
          exact wpAny_bind (wpAny_pure (wpAny_pure (wpAny_pure h)))
  · rintro ⟨r1, r2⟩ s' ⟨hr0, rfl, x', y', xs', ys', hz, hx', hy', hdec, hlen⟩
    simp only at hr0
    subst hr0
    refine wpAny_pure ?_
    have hfin : (xs.size == ys.size) = decide (x = y) := by
      rw [← hdec, ← hlen]
      cases hx' with
      | nil =>
        cases hy' with
        | nil => simp
        | cons _ _ => simp
      | cons _ _ =>
        cases hy' with
        | nil => simp
        | cons _ _ => simp at hz
    show P (.done (.ret (.bool (xs.size == ys.size)))) s'
    rw [hfin]; exact h

theorem eqBool_nest {x y : List K} {a b : Addr} {Q : Bool → Shared → Prop} (hu : A.units < cLine) (hr : hk.room A.in1) (hx : IsNest hk s.heap x a) (hy : IsNest hk s.heap y b) (h : Q (decide (x = y)) s) :
    wpAny (model prog w) A (eqBool (.ref a) (.ref b)) Q E s := by
  unfold eqBool
  try with_reducible refine wpAny_holding ?_
  show wpAny _ _ (if (Value.ref a == Value.ref b) = true then _ else _) Q E s
  by_cases hab : (Value.ref a == Value.ref b) = true
  · rw [if_pos hab]
    have e : a = b := by have := eq_of_beq hab; injection this
    subst e
    obtain rfl := hx.inj hy
    exact wpAny_bind (wpAny_rule (wpAny_pure (by simpa using h)))
  · rw [if_neg hab]
    exact wpAny_bind (wpAny_richCompare_same_room (op := .Eq) hx.typeIs hy.typeIs F.slot_tuple_eq
      (wpAny_call_entry F.slot_tuple_eq hx.typeIs F.entry_tuple_eq (nest_eq_tree hr hx hy ⟨_, rfl, (fun e => nomatch e), wpAny_truthy_bool h⟩) (F.args_tuple_eq_2 _ _)) hu)

theorem quiet_nest {m : Nat} {ks : List K} {a : Addr} {Q : Bool → Shared → Prop} (hq : ∀ {k : K} {b : Addr} {Q : Bool → Shared → Prop} {E : Value → Shared → Prop} {s : Shared}, hk.is s.heap k b → Q true s → wpAny (model prog w) A (eqIsQuiet m (.ref b)) Q E s) (hn : IsNest hk s.heap ks a) (h : Q true s) : wpAny (model prog w) A (eqIsQuiet (m + 1) (.ref a)) Q E s := by
  have hT := hn.typeIs
  obtain ⟨o, items, n, ho, _, hd, hi⟩ := hn
  unfold eqIsQuiet
  refine wpAny_bind (wpAny_specialOf hT F.slot_tuple_eq.lookup ?_)
  show wpAny _ _ (isInstance (.ref a) (.type "tuple") >>= _) _ _ s
  refine wpAny_bind (wpAny_isInstance hT isSubtype_tuple_tuple ?_)
  simp only [Bool.not_true, Bool.false_eq_true, if_false]
  refine wpAny_bind (wpAny_seqItems ho hd ?_)
  refine wpAny_bind ?_
  show wpAny _ _ (forIn items _ _) _ _ s
  rw [← Array.forIn_toList]
  refine wpAny_forIn_list _ (fun rest r s' => r.1 = none ∧ s' = s ∧ ∃ left, RefsAre hk s.heap left rest) _ ?_ ?_ _ _ ⟨rfl, rfl, ks, hi⟩
  · rintro v rest r s' ⟨hr, rfl, left, hl⟩
    cases hl with
    | @cons k b ks' _ h1 hl' =>
      refine wpAny_bind (hq h1 ?_)
      simp only [Bool.not_true, Bool.false_eq_true, if_false]
      exact wpAny_pure ⟨rfl, rfl, ks', hl'⟩
  · rintro ⟨r1, r2⟩ s' ⟨hr, rfl, _⟩
    simp only at hr
    subst hr
    exact wpAny_pure h
end
section
variable {prog : Program} {w : World} {K : Type} [DecidableEq K] {knd : KeyKind prog w K} {A : Around} {E : Value → Shared → Prop} {s : Shared}
theorem quiet_tuple (m : Nat) {ks : List K} {a : Addr} {Q : Bool → Shared → Prop} (hk : IsTupleKey knd s.heap ks a) (h : Q true s) : wpAny (model prog w) A (eqIsQuiet (m + 1) (.ref a)) Q E s := by
  have hT := hk.typeIs
  obtain ⟨o, items, n, ho, _, hd, hi⟩ := hk
  unfold eqIsQuiet
  refine wpAny_bind (wpAny_specialOf hT F.slot_tuple_eq.lookup ?_)
  show wpAny _ _ (isInstance (.ref a) (.type "tuple") >>= _) _ _ s
  refine wpAny_bind (wpAny_isInstance hT isSubtype_tuple_tuple ?_)
  simp only [Bool.not_true, Bool.false_eq_true, if_false]
  refine wpAny_bind (wpAny_seqItems ho hd ?_)
  refine wpAny_bind ?_
  show wpAny _ _ (forIn items _ _) _ _ s
  rw [← Array.forIn_toList]
  refine wpAny_forIn_list _ (fun rest r s' => r.1 = none ∧ s' = s ∧ ∀ v ∈ rest, carriedByValue v = true) _ ?_ ?_ _ _ ⟨rfl, rfl, hi.byValue⟩
  · rintro v rest r s' ⟨hr, rfl, hall⟩
    rw [eqIsQuiet_byValue _ (hall v List.mem_cons_self)]
    refine wpAny_bind (wpAny_pure ?_)
    simp only [Bool.not_true, Bool.false_eq_true, if_false]
    exact wpAny_pure ⟨rfl, rfl, fun u hu' => hall u (List.mem_cons_of_mem _ hu')⟩
  · rintro ⟨r1, r2⟩ s' ⟨hr, rfl, _⟩
    simp only at hr
    subst hr
    exact wpAny_pure h
end
/-- keys that are tuples of tuples of ints -/
def nestKind (prog : Program) (w : World) : HeapKind prog w (List (List Int)) where
  is := IsNest (tupleKind (intKind prog w))
  hash := nestHash (tupleKind (intKind prog w))
  draws := fun ks => drawsAll (tupleKind (intKind prog w)) ks + 1
  room := fun A => A.units + 1 < cLine
  inj := fun hx hy => hx.inj hy
  keeps := fun x ho hd hs => x.keeps ho hd hs
  pyHash := fun hu hn h => pyHash_nest (Nat.lt_of_succ_lt hu) hu hn h
  eqBool := fun hu hx hy h => eqBool_nest (Nat.lt_of_succ_lt hu) hu hx hy h
  quiet := fun hn h => quiet_nest (m := 7) (fun hb hq => quiet_tuple 6 hb hq) hn h
end K76

/-! The text's places, and what the head tells of the written part. -/
namespace K76
open PySem PySem.Spec PyProof.Rows L2
def top (i : Nat) : Stmt := PySem.Challenge.pw_grownfiles_k76_whole_tables_of_any_autho.main.body.getD i (.Pass ⟨0, 0, 0, 0⟩)
def dG (x : Str) (i : Nat) : He.DefD := ⟨(x, none), x, x, defArgs (top i), defBody (top i), defScope (top i), [], []⟩
def dM (c m q : Str) (i j : Nat) : He.DefD := ⟨(c, some m), m, q, defArgs (inClass (top i) j), defBody (inClass (top i) j), defScope (inClass (top i) j), [], []⟩
def fnl : List He.DefD := [dG "is_integer" 14, dG "check_integer" 15, dG "check_blocks" 19, dG "whole_choices" 20, dG "layers" 21, dG "growths_at" 22, dG "short_choices" 23, dG "fullest" 24, dG "least_refused" 26, dG "never_refused" 27,
  dG "is_file_state" 31, dG "is_state" 32, dG "sizes_in" 33, dG "idle_in" 34, dG "grown_by" 35, dG "grown" 36, dG "each_once" 37, dG "next_states" 39, dG "is_listed" 40, dG "check_numbers" 41, dG "check" 42, dG "table_of" 43,
  dG "is_share" 46, dG "part_of" 47, dG "check_parts" 49, dG "_law_hand" 54, dG "_law_draw" 55, dG "_law_parts" 56, dG "_law_book" 57, dG "_law_step" 58, dG "_law_grown" 59, dG "_law_closure" 60, dG "_law_idle" 61, dG "_law_entry" 62,
  dG "_law_is_entry" 63, dG "_law_count" 64, dG "_law_with_odd" 65, dG "_law_due" 66, dG "_law_checked" 67, dG "_law_bent" 68, dG "_law_true" 69, dG "law" 70,
  dM "Table" "__init__" "Table.__init__" 38 0, dM "Table" "__len__" "Table.__len__" 38 3, dM "Table" "__or__" "Table.__or__" 38 5, dM "Table" "__and__" "Table.__and__" 38 6, dM "Table" "__le__" "Table.__le__" 38 7,
  dM "Book" "__init__" "Book.__init__" 50 0, dM "Book" "step" "Book.step" 50 10, dM "Book" "given" "Book.given" 50 11, dM "Book" "__call__" "Book.__call__" 50 12, dM "NotClosed" "__init__" "NotClosed.__init__" 7 0]
/-- the built-ins' names that the defs read -/
def frees : List Str := ["isinstance", "int", "bool", "tuple", "list", "len", "sum", "all", "range", "min", "max", "enumerate", "dict", "repr", "NotImplemented", "ValueError"]
def glos : List Str := ["InvalidNumber", "NotClosed", "GrowError", "Table", "Book"]
def intsl : List (Str × Int) := [("MOST", 10 ^ 40), ("MOST_GROWTH", 10 ^ 30), ("MOST_BLOCKS", 300), ("MOST_FILES", 8), ("MOST_STATES", 5000), ("MOST_SHARE", 100)]
def fa : List He.Fa := fnl.filterMap (fun d => match d.at_.2 with | none => some (He.Fa.glo d.at_.1) | some _ => none) ++ (glos.map He.Fa.glo ++ (frees.map He.Fa.free ++ (intsl.map (fun p => He.Fa.int p.1 p.2) ++
  [.cls "Table", .cls "Book", .mkr "Table", .mkr "Book", .noat "Table" "own_states", .noat "Book" "own_first", .noat "Book" "own_roof", .noat "Book" "own_share",
   .meth "Table" "__len__", .meth "Table" "__or__", .meth "Table" "__and__", .meth "Table" "__le__", .meth "Book" "step", .meth "Book" "given", .meth "Book" "__call__",
   .exm "NotClosed" "GrowError" true])))
/-- the property first: its object, its getter -/
def propAd (K : PySem.W.Frag) : Addr := He.ma K (He.ga K "Book") "first"
def getAd (K : PySem.W.Frag) : Addr := match PySem.W.recIn K (propAd K) "property" with
  | some (.ref g :: _) => g
  | _ => 0
def oexB (K : PySem.W.Frag) (C : Addr) : Bool := match K.lookup C with
  | some ⟨.type t, _, .cls cd, sl⟩ => (match cd.mro, sl.toList with
    | .ref C' :: bm, [_, _, _, _, some (.builtin n), _] => decide (t = "type") && (C' == C && (n == "ValueError.__new__" && (cd.hasDict && (!cd.hasDel && PySem.HandSPX.refsVE bm))))
    | _, _ => false)
  | _ => false
theorem oexB_ok {K : PySem.W.Frag} {C : Addr} (q : oexB K C = true) : ∃ nm q N bs bm sn sub ab col dd k0 k1 k2 k3 k5, K.lookup C = some (excClassObj nm q C N bs bm true sn sub ab col dd k0 k1 k2 k3 k5 "ValueError.__new__") ∧ PySem.HandSPX.refsVE bm = true := by
  unfold oexB at q
  split at q
  · rename_i t dd cd sl ho
    split at q
    · rename_i C' bm k0 k1 k2 k3 n k5 hm hs
      simp only [Bool.and_eq_true, beq_iff_eq, Bool.not_eq_true', decide_eq_true_eq] at q
      obtain ⟨rfl, rfl, rfl, hdi, hdel, ht⟩ := q
      obtain ⟨nm, bs, mro, ns, qn, hd, sn, sub, ab, col, del⟩ := cd
      dsimp only at hm hdel hdi
      subst hm hdel hdi
      have hsl : sl = #[k0, k1, k2, k3, some (.builtin "ValueError.__new__"), k5] := by
        obtain ⟨l⟩ := sl
        simp only at hs
        rw [hs]
      subst hsl
      exact ⟨nm, qn, ns, bs, bm, sn, sub, ab, col, dd, k0, k1, k2, k3, k5, ho, ht⟩
    · cases q
  · cases q
def eqB (a b : Option Bool) : Bool := decide (a = b)
def eqV' (a b : Option Value) : Bool := decide (a = b)
/-- what else is asked of the written part -/
def exB (K : PySem.W.Frag) : Bool :=
  let NC := He.ga K "NotClosed"
  let TB := He.ga K "Table"
  let BK := He.ga K "Book"
  oexB K NC && (He.eqO (PySem.W.findIn K (.ref NC) "__setattr__") (some (some (.builtin "object.__setattr__"))) && (eqB (PySem.W.subIn K (.ref NC) (.type "BaseException")) (some true) && (eqV' (PySem.W.typeIn K (.ref NC)) (some (.type "type")) && (PySem.W.keepIn K (.ref NC) &&
  (He.eqO (PySem.W.findIn K (.ref NC) "number") (some none) && (He.eqO (PySem.W.findIn K (.ref NC) "__init__") (some (some (.ref (He.ma K NC "__init__")))) && (eqV' (PySem.W.typeIn K (.ref (He.ma K NC "__init__"))) (some (.type "function")) &&
  (xfB K NC && (eqB (PySem.W.kitOne K (.ref NC) (.ref NC)) (some true) && (He.eqO (PySem.W.findIn K (.ref NC) "__class__") (some (some (.builtin "object.__class__"))) && (eqB (PySem.W.mroIn K NC (.type "object")) (some true) &&
  (He.eqO (PySem.W.specialIn K (.builtin "object.__class__") "__get__") (some (some (.builtin "getset_descriptor.__get__"))) && (eqB (PySem.W.takesIn K (.builtin "object.__class__")) (some true) &&
  (PySem.W.selfFirst K TB && (He.eqO (PySem.W.findIn K (.ref TB) "__class__") (some (some (.builtin "object.__class__"))) && (eqB (PySem.W.mroIn K TB (.type "object")) (some true) && (eqB (PySem.W.kitOne K (.ref TB) (.ref TB)) (some true) &&
  (PySem.W.fnIn K (He.ma K BK "__call__") && (He.eqO (PySem.W.findIn K (.ref BK) "first") (some (some (.ref (propAd K)))) && (He.eqO (PySem.W.specialIn K (.ref (propAd K)) "__get__") (some (some (.builtin "property.__get__"))) && (eqB (PySem.W.takesIn K (.ref (propAd K))) (some true) &&
  ((match PySem.W.recIn K (propAd K) "property" with | some (.ref _ :: _) => true | _ => false) && (PySem.W.keepIn K (.ref (getAd K)) && (match K.lookup (getAd K) with | some ⟨_, _, .func fd, _⟩ => PySem.W.codeIn K fd.code "Book.first" && (match fd.defaults with | .none => true | _ => false) | _ => false))))))))))))))))))))))))

/-- what the top has written: the facts, the defs -/
structure Tx (K : PySem.W.Frag) (mg : Str → Option Value) : Prop where
  fact : ∀ (i : Nat) (f : He.Fa), fa[i]? = some f → f.ok K = true
  fn : ∀ (i : Nat) (d : He.DefD), fnl[i]? = some d → ∃ fd, FunD K d.name d.qual d.params d.body d.scope (d.dvs K) (d.kws K) (He.fAd K d.at_) fd
  ex : exB K = true
  getter : ∃ fd, Fun K "first" "Book.first" (inClass (top 50) 4) (getAd K) fd
  g : ∀ (x : Str) (a : Value), PySem.W.nsIn K mainGlobals x = some (some a) → mg x = some a
  gN : ∀ (x : Str), PySem.W.nsIn K mainGlobals x = some none → mg x = none
section
variable {K : PySem.W.Frag} {mg : Str → Option Value}
theorem Tx.fG (T : Tx K mg) (i : Nat) {x : Str} {j : Nat} (h : fnl[i]? = some (dG x j) := by rfl) : ∃ fd, Fun K x x (top j) (He.ga K x) fd := by
  obtain ⟨fd, F⟩ := T.fn i _ h
  obtain ⟨oc, od, dV, kV, doc, pm, an, cdv, ct, osl, e, lk, hcd, hD, _⟩ := F.ex
  rcases hD with ⟨_, rfl⟩ | ⟨z, _⟩
  · exact ⟨fd, ⟨oc, od, kV, doc, pm, an, cdv, ct, osl, e, lk, hcd⟩, F.kp⟩
  · exact absurd rfl z
theorem Tx.fM (T : Tx K mg) (i : Nat) {c m q : Str} {j k : Nat} (h : fnl[i]? = some (dM c m q j k) := by rfl) : ∃ fd, Fun K m q (inClass (top j) k) (He.ma K (He.ga K c) m) fd := by
  obtain ⟨fd, F⟩ := T.fn i _ h
  obtain ⟨oc, od, dV, kV, doc, pm, an, cdv, ct, osl, e, lk, hcd, hD, _⟩ := F.ex
  rcases hD with ⟨_, rfl⟩ | ⟨z, _⟩
  · exact ⟨fd, ⟨oc, od, kV, doc, pm, an, cdv, ct, osl, e, lk, hcd⟩, F.kp⟩
  · exact absurd rfl z
theorem Tx.glo (T : Tx K mg) (i : Nat) {x : Str} (h : fa[i]? = some (.glo x) := by rfl) : mg x = some (.ref (He.ga K x)) := T.g _ _ (He.eqO_ok (T.fact i _ h))
theorem Tx.free (T : Tx K mg) (i : Nat) {x : Str} (h : fa[i]? = some (.free x) := by rfl) : mg x = none := T.gN _ (He.eqO_ok (T.fact i _ h))
theorem Tx.int (T : Tx K mg) (i : Nat) {x : Str} {n : Int} (h : fa[i]? = some (.int x n) := by rfl) : ∃ t, mg x = some (.int n t) := by
  have c2 : (match PySem.W.nsIn K mainGlobals x with
    | some (some (.int j _)) => decide (j = n)
    | _ => false) = true := T.fact i _ h
  cases e : PySem.W.nsIn K mainGlobals x with
  | none =>
    rw [e] at c2
    cases c2
  | some o =>
    rw [e] at c2
    cases o with
    | none => cases c2
    | some v =>
      cases v with
      | int j t =>
        have ej : j = n := of_decide_eq_true c2
        rw [ej] at e
        exact ⟨t, T.g _ _ e⟩
      | _ => cases c2
theorem Tx.f_is_integer (T : Tx K mg) : ∃ fd, Fun K "is_integer" "is_integer" (top 14) (He.ga K "is_integer") fd := T.fG 0
theorem Tx.f_check_integer (T : Tx K mg) : ∃ fd, Fun K "check_integer" "check_integer" (top 15) (He.ga K "check_integer") fd := T.fG 1
theorem Tx.f_check_blocks (T : Tx K mg) : ∃ fd, Fun K "check_blocks" "check_blocks" (top 19) (He.ga K "check_blocks") fd := T.fG 2
theorem Tx.f_whole_choices (T : Tx K mg) : ∃ fd, Fun K "whole_choices" "whole_choices" (top 20) (He.ga K "whole_choices") fd := T.fG 3
theorem Tx.f_layers (T : Tx K mg) : ∃ fd, Fun K "layers" "layers" (top 21) (He.ga K "layers") fd := T.fG 4
theorem Tx.f_growths_at (T : Tx K mg) : ∃ fd, Fun K "growths_at" "growths_at" (top 22) (He.ga K "growths_at") fd := T.fG 5
theorem Tx.f_short_choices (T : Tx K mg) : ∃ fd, Fun K "short_choices" "short_choices" (top 23) (He.ga K "short_choices") fd := T.fG 6
theorem Tx.f_fullest (T : Tx K mg) : ∃ fd, Fun K "fullest" "fullest" (top 24) (He.ga K "fullest") fd := T.fG 7
theorem Tx.f_least_refused (T : Tx K mg) : ∃ fd, Fun K "least_refused" "least_refused" (top 26) (He.ga K "least_refused") fd := T.fG 8
theorem Tx.f_never_refused (T : Tx K mg) : ∃ fd, Fun K "never_refused" "never_refused" (top 27) (He.ga K "never_refused") fd := T.fG 9
theorem Tx.f_is_file_state (T : Tx K mg) : ∃ fd, Fun K "is_file_state" "is_file_state" (top 31) (He.ga K "is_file_state") fd := T.fG 10
theorem Tx.f_is_state (T : Tx K mg) : ∃ fd, Fun K "is_state" "is_state" (top 32) (He.ga K "is_state") fd := T.fG 11
theorem Tx.f_sizes_in (T : Tx K mg) : ∃ fd, Fun K "sizes_in" "sizes_in" (top 33) (He.ga K "sizes_in") fd := T.fG 12
theorem Tx.f_idle_in (T : Tx K mg) : ∃ fd, Fun K "idle_in" "idle_in" (top 34) (He.ga K "idle_in") fd := T.fG 13
theorem Tx.f_grown_by (T : Tx K mg) : ∃ fd, Fun K "grown_by" "grown_by" (top 35) (He.ga K "grown_by") fd := T.fG 14
theorem Tx.f_grown (T : Tx K mg) : ∃ fd, Fun K "grown" "grown" (top 36) (He.ga K "grown") fd := T.fG 15
theorem Tx.f_each_once (T : Tx K mg) : ∃ fd, Fun K "each_once" "each_once" (top 37) (He.ga K "each_once") fd := T.fG 16
theorem Tx.f_next_states (T : Tx K mg) : ∃ fd, Fun K "next_states" "next_states" (top 39) (He.ga K "next_states") fd := T.fG 17
theorem Tx.f_is_listed (T : Tx K mg) : ∃ fd, Fun K "is_listed" "is_listed" (top 40) (He.ga K "is_listed") fd := T.fG 18
theorem Tx.f_check_numbers (T : Tx K mg) : ∃ fd, Fun K "check_numbers" "check_numbers" (top 41) (He.ga K "check_numbers") fd := T.fG 19
theorem Tx.f_check (T : Tx K mg) : ∃ fd, Fun K "check" "check" (top 42) (He.ga K "check") fd := T.fG 20
theorem Tx.f_table_of (T : Tx K mg) : ∃ fd, Fun K "table_of" "table_of" (top 43) (He.ga K "table_of") fd := T.fG 21
theorem Tx.f_is_share (T : Tx K mg) : ∃ fd, Fun K "is_share" "is_share" (top 46) (He.ga K "is_share") fd := T.fG 22
theorem Tx.f_part_of (T : Tx K mg) : ∃ fd, Fun K "part_of" "part_of" (top 47) (He.ga K "part_of") fd := T.fG 23
theorem Tx.f_check_parts (T : Tx K mg) : ∃ fd, Fun K "check_parts" "check_parts" (top 49) (He.ga K "check_parts") fd := T.fG 24
theorem Tx.f_l_hand (T : Tx K mg) : ∃ fd, Fun K "_law_hand" "_law_hand" (top 54) (He.ga K "_law_hand") fd := T.fG 25
theorem Tx.f_l_draw (T : Tx K mg) : ∃ fd, Fun K "_law_draw" "_law_draw" (top 55) (He.ga K "_law_draw") fd := T.fG 26
theorem Tx.f_l_parts (T : Tx K mg) : ∃ fd, Fun K "_law_parts" "_law_parts" (top 56) (He.ga K "_law_parts") fd := T.fG 27
theorem Tx.f_l_book (T : Tx K mg) : ∃ fd, Fun K "_law_book" "_law_book" (top 57) (He.ga K "_law_book") fd := T.fG 28
theorem Tx.f_l_step (T : Tx K mg) : ∃ fd, Fun K "_law_step" "_law_step" (top 58) (He.ga K "_law_step") fd := T.fG 29
theorem Tx.f_l_grown (T : Tx K mg) : ∃ fd, Fun K "_law_grown" "_law_grown" (top 59) (He.ga K "_law_grown") fd := T.fG 30
theorem Tx.f_l_closure (T : Tx K mg) : ∃ fd, Fun K "_law_closure" "_law_closure" (top 60) (He.ga K "_law_closure") fd := T.fG 31
theorem Tx.f_l_idle (T : Tx K mg) : ∃ fd, Fun K "_law_idle" "_law_idle" (top 61) (He.ga K "_law_idle") fd := T.fG 32
theorem Tx.f_l_entry (T : Tx K mg) : ∃ fd, Fun K "_law_entry" "_law_entry" (top 62) (He.ga K "_law_entry") fd := T.fG 33
theorem Tx.f_l_is_entry (T : Tx K mg) : ∃ fd, Fun K "_law_is_entry" "_law_is_entry" (top 63) (He.ga K "_law_is_entry") fd := T.fG 34
theorem Tx.f_l_count (T : Tx K mg) : ∃ fd, Fun K "_law_count" "_law_count" (top 64) (He.ga K "_law_count") fd := T.fG 35
theorem Tx.f_l_with_odd (T : Tx K mg) : ∃ fd, Fun K "_law_with_odd" "_law_with_odd" (top 65) (He.ga K "_law_with_odd") fd := T.fG 36
theorem Tx.f_l_due (T : Tx K mg) : ∃ fd, Fun K "_law_due" "_law_due" (top 66) (He.ga K "_law_due") fd := T.fG 37
theorem Tx.f_l_checked (T : Tx K mg) : ∃ fd, Fun K "_law_checked" "_law_checked" (top 67) (He.ga K "_law_checked") fd := T.fG 38
theorem Tx.f_l_bent (T : Tx K mg) : ∃ fd, Fun K "_law_bent" "_law_bent" (top 68) (He.ga K "_law_bent") fd := T.fG 39
theorem Tx.f_l_true (T : Tx K mg) : ∃ fd, Fun K "_law_true" "_law_true" (top 69) (He.ga K "_law_true") fd := T.fG 40
theorem Tx.f_law (T : Tx K mg) : ∃ fd, Fun K "law" "law" (top 70) (He.ga K "law") fd := T.fG 41
theorem Tx.f_Table_init (T : Tx K mg) : ∃ fd, Fun K "__init__" "Table.__init__" (inClass (top 38) 0) (He.ma K (He.ga K "Table") "__init__") fd := T.fM 42
theorem Tx.f_Table_len (T : Tx K mg) : ∃ fd, Fun K "__len__" "Table.__len__" (inClass (top 38) 3) (He.ma K (He.ga K "Table") "__len__") fd := T.fM 43
theorem Tx.f_Table_or (T : Tx K mg) : ∃ fd, Fun K "__or__" "Table.__or__" (inClass (top 38) 5) (He.ma K (He.ga K "Table") "__or__") fd := T.fM 44
theorem Tx.f_Table_and (T : Tx K mg) : ∃ fd, Fun K "__and__" "Table.__and__" (inClass (top 38) 6) (He.ma K (He.ga K "Table") "__and__") fd := T.fM 45
theorem Tx.f_Table_le (T : Tx K mg) : ∃ fd, Fun K "__le__" "Table.__le__" (inClass (top 38) 7) (He.ma K (He.ga K "Table") "__le__") fd := T.fM 46
theorem Tx.f_Book_init (T : Tx K mg) : ∃ fd, Fun K "__init__" "Book.__init__" (inClass (top 50) 0) (He.ma K (He.ga K "Book") "__init__") fd := T.fM 47
theorem Tx.f_Book_step (T : Tx K mg) : ∃ fd, Fun K "step" "Book.step" (inClass (top 50) 10) (He.ma K (He.ga K "Book") "step") fd := T.fM 48
theorem Tx.f_Book_given (T : Tx K mg) : ∃ fd, Fun K "given" "Book.given" (inClass (top 50) 11) (He.ma K (He.ga K "Book") "given") fd := T.fM 49
theorem Tx.f_Book_call (T : Tx K mg) : ∃ fd, Fun K "__call__" "Book.__call__" (inClass (top 50) 12) (He.ma K (He.ga K "Book") "__call__") fd := T.fM 50
theorem Tx.f_NotClosed_init (T : Tx K mg) : ∃ fd, Fun K "__init__" "NotClosed.__init__" (inClass (top 7) 0) (He.ma K (He.ga K "NotClosed") "__init__") fd := T.fM 51
theorem Tx.g_is_integer (T : Tx K mg) : mg "is_integer" = some (.ref (He.ga K "is_integer")) := T.glo 0
theorem Tx.g_check_integer (T : Tx K mg) : mg "check_integer" = some (.ref (He.ga K "check_integer")) := T.glo 1
theorem Tx.g_check_blocks (T : Tx K mg) : mg "check_blocks" = some (.ref (He.ga K "check_blocks")) := T.glo 2
theorem Tx.g_whole_choices (T : Tx K mg) : mg "whole_choices" = some (.ref (He.ga K "whole_choices")) := T.glo 3
theorem Tx.g_layers (T : Tx K mg) : mg "layers" = some (.ref (He.ga K "layers")) := T.glo 4
theorem Tx.g_growths_at (T : Tx K mg) : mg "growths_at" = some (.ref (He.ga K "growths_at")) := T.glo 5
theorem Tx.g_short_choices (T : Tx K mg) : mg "short_choices" = some (.ref (He.ga K "short_choices")) := T.glo 6
theorem Tx.g_fullest (T : Tx K mg) : mg "fullest" = some (.ref (He.ga K "fullest")) := T.glo 7
theorem Tx.g_least_refused (T : Tx K mg) : mg "least_refused" = some (.ref (He.ga K "least_refused")) := T.glo 8
theorem Tx.g_never_refused (T : Tx K mg) : mg "never_refused" = some (.ref (He.ga K "never_refused")) := T.glo 9
theorem Tx.g_is_file_state (T : Tx K mg) : mg "is_file_state" = some (.ref (He.ga K "is_file_state")) := T.glo 10
theorem Tx.g_is_state (T : Tx K mg) : mg "is_state" = some (.ref (He.ga K "is_state")) := T.glo 11
theorem Tx.g_sizes_in (T : Tx K mg) : mg "sizes_in" = some (.ref (He.ga K "sizes_in")) := T.glo 12
theorem Tx.g_idle_in (T : Tx K mg) : mg "idle_in" = some (.ref (He.ga K "idle_in")) := T.glo 13
theorem Tx.g_grown_by (T : Tx K mg) : mg "grown_by" = some (.ref (He.ga K "grown_by")) := T.glo 14
theorem Tx.g_grown (T : Tx K mg) : mg "grown" = some (.ref (He.ga K "grown")) := T.glo 15
theorem Tx.g_each_once (T : Tx K mg) : mg "each_once" = some (.ref (He.ga K "each_once")) := T.glo 16
theorem Tx.g_next_states (T : Tx K mg) : mg "next_states" = some (.ref (He.ga K "next_states")) := T.glo 17
theorem Tx.g_is_listed (T : Tx K mg) : mg "is_listed" = some (.ref (He.ga K "is_listed")) := T.glo 18
theorem Tx.g_check_numbers (T : Tx K mg) : mg "check_numbers" = some (.ref (He.ga K "check_numbers")) := T.glo 19
theorem Tx.g_check (T : Tx K mg) : mg "check" = some (.ref (He.ga K "check")) := T.glo 20
theorem Tx.g_table_of (T : Tx K mg) : mg "table_of" = some (.ref (He.ga K "table_of")) := T.glo 21
theorem Tx.g_is_share (T : Tx K mg) : mg "is_share" = some (.ref (He.ga K "is_share")) := T.glo 22
theorem Tx.g_part_of (T : Tx K mg) : mg "part_of" = some (.ref (He.ga K "part_of")) := T.glo 23
theorem Tx.g_check_parts (T : Tx K mg) : mg "check_parts" = some (.ref (He.ga K "check_parts")) := T.glo 24
theorem Tx.g_l_hand (T : Tx K mg) : mg "_law_hand" = some (.ref (He.ga K "_law_hand")) := T.glo 25
theorem Tx.g_l_draw (T : Tx K mg) : mg "_law_draw" = some (.ref (He.ga K "_law_draw")) := T.glo 26
theorem Tx.g_l_parts (T : Tx K mg) : mg "_law_parts" = some (.ref (He.ga K "_law_parts")) := T.glo 27
theorem Tx.g_l_book (T : Tx K mg) : mg "_law_book" = some (.ref (He.ga K "_law_book")) := T.glo 28
theorem Tx.g_l_step (T : Tx K mg) : mg "_law_step" = some (.ref (He.ga K "_law_step")) := T.glo 29
theorem Tx.g_l_grown (T : Tx K mg) : mg "_law_grown" = some (.ref (He.ga K "_law_grown")) := T.glo 30
theorem Tx.g_l_closure (T : Tx K mg) : mg "_law_closure" = some (.ref (He.ga K "_law_closure")) := T.glo 31
theorem Tx.g_l_idle (T : Tx K mg) : mg "_law_idle" = some (.ref (He.ga K "_law_idle")) := T.glo 32
theorem Tx.g_l_entry (T : Tx K mg) : mg "_law_entry" = some (.ref (He.ga K "_law_entry")) := T.glo 33
theorem Tx.g_l_is_entry (T : Tx K mg) : mg "_law_is_entry" = some (.ref (He.ga K "_law_is_entry")) := T.glo 34
theorem Tx.g_l_count (T : Tx K mg) : mg "_law_count" = some (.ref (He.ga K "_law_count")) := T.glo 35
theorem Tx.g_l_with_odd (T : Tx K mg) : mg "_law_with_odd" = some (.ref (He.ga K "_law_with_odd")) := T.glo 36
theorem Tx.g_l_due (T : Tx K mg) : mg "_law_due" = some (.ref (He.ga K "_law_due")) := T.glo 37
theorem Tx.g_l_checked (T : Tx K mg) : mg "_law_checked" = some (.ref (He.ga K "_law_checked")) := T.glo 38
theorem Tx.g_l_bent (T : Tx K mg) : mg "_law_bent" = some (.ref (He.ga K "_law_bent")) := T.glo 39
theorem Tx.g_l_true (T : Tx K mg) : mg "_law_true" = some (.ref (He.ga K "_law_true")) := T.glo 40
theorem Tx.g_law (T : Tx K mg) : mg "law" = some (.ref (He.ga K "law")) := T.glo 41
theorem Tx.g_InvalidNumber (T : Tx K mg) : mg "InvalidNumber" = some (.ref (He.ga K "InvalidNumber")) := T.glo 42
theorem Tx.g_NotClosed (T : Tx K mg) : mg "NotClosed" = some (.ref (He.ga K "NotClosed")) := T.glo 43
theorem Tx.g_GrowError (T : Tx K mg) : mg "GrowError" = some (.ref (He.ga K "GrowError")) := T.glo 44
theorem Tx.g_Table (T : Tx K mg) : mg "Table" = some (.ref (He.ga K "Table")) := T.glo 45
theorem Tx.g_Book (T : Tx K mg) : mg "Book" = some (.ref (He.ga K "Book")) := T.glo 46
theorem Tx.m_isinstance (T : Tx K mg) : mg "isinstance" = none := T.free 47
theorem Tx.m_int (T : Tx K mg) : mg "int" = none := T.free 48
theorem Tx.m_bool (T : Tx K mg) : mg "bool" = none := T.free 49
theorem Tx.m_tuple (T : Tx K mg) : mg "tuple" = none := T.free 50
theorem Tx.m_list (T : Tx K mg) : mg "list" = none := T.free 51
theorem Tx.m_len (T : Tx K mg) : mg "len" = none := T.free 52
theorem Tx.m_sum (T : Tx K mg) : mg "sum" = none := T.free 53
theorem Tx.m_all (T : Tx K mg) : mg "all" = none := T.free 54
theorem Tx.m_range (T : Tx K mg) : mg "range" = none := T.free 55
theorem Tx.m_min (T : Tx K mg) : mg "min" = none := T.free 56
theorem Tx.m_max (T : Tx K mg) : mg "max" = none := T.free 57
theorem Tx.m_enumerate (T : Tx K mg) : mg "enumerate" = none := T.free 58
theorem Tx.m_dict (T : Tx K mg) : mg "dict" = none := T.free 59
theorem Tx.m_repr (T : Tx K mg) : mg "repr" = none := T.free 60
theorem Tx.m_NotImplemented (T : Tx K mg) : mg "NotImplemented" = none := T.free 61
theorem Tx.m_ValueError (T : Tx K mg) : mg "ValueError" = none := T.free 62
theorem Tx.i_MOST (T : Tx K mg) : ∃ t, mg "MOST" = some (.int (10 ^ 40) t) := T.int 63
theorem Tx.i_MOST_GROWTH (T : Tx K mg) : ∃ t, mg "MOST_GROWTH" = some (.int (10 ^ 30) t) := T.int 64
theorem Tx.i_MOST_BLOCKS (T : Tx K mg) : ∃ t, mg "MOST_BLOCKS" = some (.int (300) t) := T.int 65
theorem Tx.i_MOST_FILES (T : Tx K mg) : ∃ t, mg "MOST_FILES" = some (.int (8) t) := T.int 66
theorem Tx.i_MOST_STATES (T : Tx K mg) : ∃ t, mg "MOST_STATES" = some (.int (5000) t) := T.int 67
theorem Tx.i_MOST_SHARE (T : Tx K mg) : ∃ t, mg "MOST_SHARE" = some (.int (100) t) := T.int 68
theorem Tx.c_Table (T : Tx K mg) : Cls K (He.ga K "Table") := He.cls_ok (T.fact 69 (.cls "Table") rfl)
theorem Tx.c_Book (T : Tx K mg) : Cls K (He.ga K "Book") := He.cls_ok (T.fact 70 (.cls "Book") rfl)
theorem Tx.mk_Table (T : Tx K mg) : Mk K (He.ga K "Table") (He.ma K (He.ga K "Table") "__init__") := He.mkr_ok (T.fact 71 (.mkr "Table") rfl)
theorem Tx.mk_Book (T : Tx K mg) : Mk K (He.ga K "Book") (He.ma K (He.ga K "Book") "__init__") := He.mkr_ok (T.fact 72 (.mkr "Book") rfl)
theorem Tx.n_own_states (T : Tx K mg) : NoAttr K (He.ga K "Table") "own_states" := He.noat_ok (T.fact 73 (.noat "Table" "own_states") rfl)
theorem Tx.n_own_first (T : Tx K mg) : NoAttr K (He.ga K "Book") "own_first" := He.noat_ok (T.fact 74 (.noat "Book" "own_first") rfl)
theorem Tx.n_own_roof (T : Tx K mg) : NoAttr K (He.ga K "Book") "own_roof" := He.noat_ok (T.fact 75 (.noat "Book" "own_roof") rfl)
theorem Tx.n_own_share (T : Tx K mg) : NoAttr K (He.ga K "Book") "own_share" := He.noat_ok (T.fact 76 (.noat "Book" "own_share") rfl)
theorem Tx.h_Table_len (T : Tx K mg) : Meth K (He.ga K "Table") "__len__" (He.ma K (He.ga K "Table") "__len__") := He.meth_ok (T.fact 77 (.meth "Table" "__len__") rfl)
theorem Tx.h_Table_or (T : Tx K mg) : Meth K (He.ga K "Table") "__or__" (He.ma K (He.ga K "Table") "__or__") := He.meth_ok (T.fact 78 (.meth "Table" "__or__") rfl)
theorem Tx.h_Table_and (T : Tx K mg) : Meth K (He.ga K "Table") "__and__" (He.ma K (He.ga K "Table") "__and__") := He.meth_ok (T.fact 79 (.meth "Table" "__and__") rfl)
theorem Tx.h_Table_le (T : Tx K mg) : Meth K (He.ga K "Table") "__le__" (He.ma K (He.ga K "Table") "__le__") := He.meth_ok (T.fact 80 (.meth "Table" "__le__") rfl)
theorem Tx.h_Book_step (T : Tx K mg) : Meth K (He.ga K "Book") "step" (He.ma K (He.ga K "Book") "step") := He.meth_ok (T.fact 81 (.meth "Book" "step") rfl)
theorem Tx.h_Book_given (T : Tx K mg) : Meth K (He.ga K "Book") "given" (He.ma K (He.ga K "Book") "given") := He.meth_ok (T.fact 82 (.meth "Book" "given") rfl)
theorem Tx.h_Book_call (T : Tx K mg) : Meth K (He.ga K "Book") "__call__" (He.ma K (He.ga K "Book") "__call__") := He.meth_ok (T.fact 83 (.meth "Book" "__call__") rfl)
theorem Tx.exm (T : Tx K mg) : PySem.W.exmOne K (.ref (He.ga K "NotClosed")) (.ref (He.ga K "GrowError")) = some true := He.exm_ok (T.fact 84 (.exm "NotClosed" "GrowError" true) rfl)
end
end K76

namespace K76
open PySem PySem.Spec PyProof.Rows L2
/-! ### the hook: defs, facts, the getter -/
abbrev Al76 : Type := He.AlD × Bool × He.FnW
def fnAt (K : PySem.W.Frag) (a : Addr) : He.FnW := match K.lookup a with
  | some ⟨_, _, .func fd, _⟩ => some (fd.name, fd.qualname, fd.params, fd.body, fd.scope, fd.globals, fd.closure, fd.builtins)
  | _ => none
def getVal : He.FnW := some ("first", "Book.first", defArgs (inClass (top 50) 4), .stmts (defBody (inClass (top 50) 4)), defScope (inClass (top 50) 4), mainGlobals, [], builtinsNs)
def obs76 (K : PySem.W.Frag) : Al76 := (He.obsD fa fnl K, exB K, fnAt K (getAd K))
def val76 : Al76 := (He.valD fnl, true, getVal)
def Says76 (K : PySem.W.Frag) : Prop := obs76 K = val76
/-- the objects that are looked at: their addresses behind the top -/
def addrs : List Nat := [3, 575, 360, 127, 31, 70, 574, 359, 126, 30, 69, 174, 181, 188, 195, 200, 207, 214, 221, 233, 240, 254, 259, 264, 269, 274, 281, 288, 371, 378, 385, 391, 398, 405, 412, 426, 600, 607, 614, 621, 628, 633, 638, 643, 648, 653, 660, 667, 672, 679, 686, 691, 696, 302, 326, 340, 345, 350, 442, 530, 537, 544, 124, 489, 479, 173, 180, 187, 194, 199, 206, 213, 220, 232, 239, 253, 258, 263, 268, 273, 280, 287, 370, 377, 384, 390, 397, 404, 411, 425, 599, 606, 613, 620, 627, 632, 637, 642, 647, 652, 659, 666, 671, 678, 685, 690, 695, 301, 325, 339, 344, 349, 441, 529, 536, 543, 123, 478]
def hook76 : PySem.W.Hook where
  α := Al76
  obs := fun s => obs76 (He.frG s.heap.get? addrs)
  val := fun _ => val76
  says := fun _ h => ∃ K : PySem.W.Frag, K.In h ∧ Says76 K
  of := fun _ _ e => ⟨_, He.frG_in, e⟩
  keeps := fun _ _ _ ⟨K, hK, c⟩ k => ⟨K, PySem.W.Frag.In.keeps hK k, c⟩
abbrev R : PySem.W.OpenRow := PySem.W.OpenLaw.row PySem.Challenge.rw_grownfiles_k76_whole_tables_of_any_autho
/-- a tree, made whole before it is handed on -/
def frBT {α : Type} : PySem.W.BT → (PySem.W.BT → α) → α
  | .nil, k => k .nil
  | .node v l r, k => frBT l fun l' => frBT r fun r' => k (.node v l' r')
theorem frBT_eq {α : Type} : ∀ (t : PySem.W.BT) (k : PySem.W.BT → α), frBT t k = k t
  | .nil, _ => rfl
  | .node v l r, k => by
    show frBT l (fun l' => frBT r fun r' => k (.node v l' r')) = _
    rw [frBT_eq l, frBT_eq r]
def ob (s : PySem.W.SharedT) : Al76 := frBT s.tree fun t => obs76 (He.frG (HandSHeadRun.getT { s with tree := t }) addrs)
theorem ob_eq (s : PySem.W.SharedT) : ob s = hook76.obs s.abs := by
  have e : HandSHeadRun.getT s = s.abs.heap.get? := funext (HandSHeadRun.getT_eq s)
  unfold ob
  rw [frBT_eq]
  show obs76 (He.frG (HandSHeadRun.getT s) addrs) = _
  rw [e]
  rfl
def loose1 : List Str := ["_wall", "GrowError", "InvalidBook", "InvalidNumber", "InvalidState", "InvalidTable", "NotClosed", "Refusable", "TooMany", "MOST", "MOST_GROWTH", "SMALL", "is_integer", "check_integer", "MOST_BLOCKS", "MOST_FILES", "check_blocks", "whole_choices", "layers", "growths_at", "short_choices", "fullest", "row_of", "least_refused", "never_refused", "refused_row"]
def loose2 : List Str := ["MOST_STATES", "is_file_state", "is_state", "sizes_in", "idle_in", "grown_by", "grown", "each_once", "Table", "next_states", "is_listed", "check_numbers", "check", "table_of", "MOST_SHARE", "is_share", "part_of", "least_hold", "check_parts", "Book", "step_of", "is_never_more",
  "_law_hand", "_law_draw", "_law_parts", "_law_book", "_law_step", "_law_grown"]
def loose3 : List Str := ["_law_closure", "_law_idle", "_law_entry", "_law_is_entry", "_law_count", "_law_with_odd", "_law_due", "_law_checked", "_law_bent", "_law_true"]
def loose : List Str := loose1 ++ (loose2 ++ loose3)
theorem run (w : World) : HandSHeadRun.RunEq R (PySem.W.view R.prog [70]) hook76 ob 10000 loose w := by
  intro os
  kernel_rfl
end K76

namespace K76
open PySem PySem.Spec PyProof.Rows L2
/-! ### a def of the module, by its name -/
/-- the module's def x keeps the promise -/
structure FnG (P : Program) (w : World) (K : PySem.W.Frag) (mg : Str → Option Value) (base : Heap) (CX : CXT) (k : Nat) (x : Str) (ps : List Str) (sp : Sp) : Prop where
  g : mg x = some (.ref (He.ga K x))
  kp : PySem.W.keepIn K (.ref (He.ga K x)) = true
  ex : ∃ fd, Binds K fd ps [] ∧ FnOk P w K mg base CX k (He.ga K x) fd ps sp
section
variable {P : Program} {w : World} {K : PySem.W.Frag} {mg : Str → Option Value} {base : Heap} {CX : CXT} {k : Nat} {x : Str} {st : Stmt} {fd : FuncData} {ps : List Str} {sp : Sp}
theorem FnG.of (F : Fun K x x st (He.ga K x) fd) (g : mg x = some (.ref (He.ga K x)))
    (hb : ∀ (kV doc pm : Value) (an : Option Addr) (cdv ct : Value) (us : List Value), us.length = ps.length → bindArgs (PySem.W.fnOf x x (defArgs st) (defBody st) (defScope st) .none kV doc pm an cdv ct) ⟨us, []⟩ = pure (ps.zip us))
    (ok : FnOk P w K mg base CX k (He.ga K x) fd ps sp) : FnG P w K mg base CX k x ps sp := ⟨g, F.kp, fd, F.binds hb, ok⟩
theorem FnG.mono {j : Nat} (F : FnG P w K mg base CX j x ps sp) (h : j ≤ k) : FnG P w K mg base CX k x ps sp := ⟨F.g, F.kp, F.ex.imp fun _ z => ⟨z.1, z.2.mono h⟩⟩
end
section
variable {X : Cx} {CX : CXT} {k : Nat} {ps : List Str} {sp : Sp} {E : XK} {x : Str} {p pos : Pos} {e : Expr} {es : List Expr} {t : TA}
theorem pe_g (F : FnG X.prog X.w X.K X.mg X.base CX k x ps sp) (hr : Room k X.A) (ha : PA X (e :: es) t) (hx : Passes CX X E := by exact pass0) (hg : Gl X x := by rfl)
    (hdb : (x == ("__debug__" : Str)) = false := by decide) (he : starEach (e :: es) X.env = (false, eval e X.env) :: starEach es X.env := by rfl) (hpl : (backTo pos (starEach es X.env)).any (·.1) = false := by rfl) :
    PE X (.Call (.Name x p) (e :: es) [] pos) (tCall sp [] E t) := by
  obtain ⟨g, kp, fd, b, ok⟩ := F
  exact pe_call ok hr hg g kp b .nil hx ha hdb he hpl
end
/-! ### data and their kinds -/
def tyD : PyData → Value
  | .none => .type "NoneType"
  | .bool _ => .type "bool"
  | .int _ => .type "int"
  | .str _ => .type "str"
  | .list _ => .type "list"
  | .tuple _ => .type "tuple"
  | .dict _ => .type "dict"
theorem tyOfDp {K : PySem.W.Frag} {H : Hp} : ∀ {v : V} {d : PyData}, Dp K H v d → TyX K H v (tyD d)
  | _, _, .non => .base .non
  | _, _, .bl b => .base (.bl b)
  | _, _, .int i => .base (.int i)
  | _, _, .str x => .base (.str x)
  | _, _, .lst h _ => by
    rcases h with (h | ⟨o, h⟩) | ⟨o, its, n, h, c, _⟩
    · exact .base (.lst h)
    · exact .base (.frz h)
    · exact .kList h c
  | _, _, .tup h _ => by
    rcases h with (h | ⟨o, h⟩) | ⟨o, its, n, h, c, _⟩
    · exact .base (.tup h)
    · exact .fTuple h
    · exact .kTuple h c
def isaInt : PyData → Bool | .int _ => true | .bool _ => true | _ => false
def isaBool : PyData → Bool | .bool _ => true | _ => false
def isaTup : PyData → Bool | .tuple _ => true | _ => false
def isaList : PyData → Bool | .list _ => true | _ => false
theorem kit_int {K : PySem.W.Frag} (d : PyData) : PySem.W.kitOne K (tyD d) (.type "int") = some (isaInt d) := by
  cases d <;> first | exact kit_ty (r := true) (by decide +kernel) | exact kit_ty (r := false) (by decide +kernel)
theorem kit_bool {K : PySem.W.Frag} (d : PyData) : PySem.W.kitOne K (tyD d) (.type "bool") = some (isaBool d) := by
  cases d <;> first | exact kit_ty (r := true) (by decide +kernel) | exact kit_ty (r := false) (by decide +kernel)
theorem kit_tup {K : PySem.W.Frag} (d : PyData) : PySem.W.kitOne K (tyD d) (.type "tuple") = some (isaTup d) := by
  cases d <;> first | exact kit_ty (r := true) (by decide +kernel) | exact kit_ty (r := false) (by decide +kernel)
theorem kit_list {K : PySem.W.Frag} (d : PyData) : PySem.W.kitOne K (tyD d) (.type "list") = some (isaList d) := by
  cases d <;> first | exact kit_ty (r := true) (by decide +kernel) | exact kit_ty (r := false) (by decide +kernel)
theorem CallR.imp {X : Cx} {f : Value} {r r' : List V → Hp → VK → Prop} (h : CallR X f r) (hi : ∀ xs H Q, r' xs H Q → r xs H Q) : CallR X f r' := fun pins s σ H xs us Q I rv q => h pins s σ H xs us Q I rv (hi xs H Q q)
theorem OpR.imp {X : Cx} {f : Value → Value → Sem Value} {r r' : R2} (h : OpR X f r) (hi : ∀ x y H Q, r' x y H Q → r x y H Q) : OpR X f r' := fun pins s σ H x y v u Q I r1 r2 q => h pins s σ H x y v u Q I r1 r2 (hi x y H Q q)
/-- isinstance(e, T) of data, T a built-in class: f its answer -/
def rIsD (K : PySem.W.Frag) (T : String) (f : PyData → Bool) : List V → Hp → VK → Prop := fun xs H Q => ∃ v d, xs = [v, .ty T] ∧ Dp K H v d ∧ Q (.bl (f d)) H
section
variable {X : Cx}
theorem call_isD {T : String} {f : PyData → Bool} (kit : ∀ d, PySem.W.kitOne X.K (tyD d) (.type T) = some (f d)) : CallR X (.builtin "isinstance") (rIsD X.K T f) :=
  CallR.imp call_isi fun xs H Q ⟨v, d, e, hd, q⟩ => ⟨v, .ty T, tyD d, .type T, f d, e, .ty T, tyOfDp hd, kit d, q⟩
theorem boot_tuple' : bootBuiltins "tuple" = some (.type "tuple") := by decide +kernel
theorem boot_list' : bootBuiltins "list" = some (.type "list") := by decide +kernel
theorem boot_int' : bootBuiltins "int" = some (.type "int") := by decide +kernel
theorem boot_bool' : bootBuiltins "bool" = some (.type "bool") := by decide +kernel
theorem boot_isi' : bootBuiltins "isinstance" = some (.builtin "isinstance") := by decide +kernel
theorem boot_all' : bootBuiltins "all" = some (.builtin "all") := by decide +kernel
theorem boot_sum' : bootBuiltins "sum" = some (.builtin "sum") := by decide +kernel
theorem boot_len' : bootBuiltins "len" = some (.builtin "len") := by decide +kernel
theorem boot_repr' : bootBuiltins "repr" = some (.builtin "repr") := by decide +kernel
theorem boot_max' : bootBuiltins "max" = some (.builtin "max") := by decide +kernel
theorem boot_min' : bootBuiltins "min" = some (.builtin "min") := by decide +kernel
theorem boot_dict' : bootBuiltins "dict" = some (.type "dict") := by decide +kernel
/-- isinstance(e, T) -/
theorem pe_isT {x : Str} {T : String} {f : PyData → Bool} {e : Expr} {te : TE} {p p2 pos : Pos} (kit : ∀ d, PySem.W.kitOne X.K (tyD d) (.type T) = some (f d)) (m : X.mg "isinstance" = none) (mT : X.mg x = none) (hv : bootBuiltins x = some (.type T)) (he : PE X e te)
    (g : Gl X "isinstance" := by rfl) (gT : Gl X x := by rfl) (hn : x ≠ "__name__" := by decide) (hd : (x == ("__debug__" : Str)) = false := by decide) (hst : starEach (e :: [.Name x p2]) X.env = (false, eval e X.env) :: starEach [.Name x p2] X.env := by rfl)
    (hst2 : starEach (.Name x p2 :: []) X.env = (false, eval (.Name x p2) X.env) :: starEach [] X.env := by rfl) (hpl : (backTo pos (starEach [.Name x p2] X.env)).any (·.1) = false := by rfl) :
    PE X (.Call (.Name "isinstance" p) [e, .Name x p2] [] pos) (tCB (rIsD X.K T f) (tCons te (tCons (tC (.ty T)) tNil))) :=
  pe_callB (call_isD kit) g m boot_isi' (pa_cons he (pa_cons (pe_bltn gT mT hv (show RelV (.ty T) (.type T) from rfl) hn hd) pa_nil hst2) hst) (by decide) (by decide) hst hpl
end
end K76

/-! The mathematics: books, states, growths, closed tables, what is never refused. No program in sight. -/
namespace K76
open PySem
/-! ### books -/
structure Bk where
  first : Int
  roof : Int
  top : Int
  bot : Int
structure Bk.Ok (b : Bk) : Prop where
  f1 : 1 ≤ b.first
  fr : b.first ≤ b.roof
  r : b.roof ≤ 1000
  t1 : 1 ≤ b.top
  t2 : b.top ≤ 100
  b1 : 1 ≤ b.bot
  b2 : b.bot ≤ 100
/-- the share of a hold, rounded up -/
def Bk.part (b : Bk) (h : Int) : Int := -((-h * b.top).fdiv b.bot)
def Bk.step (b : Bk) (h : Int) : Int := if b.part h < b.first then b.first else if b.part h < b.roof then b.part h else b.roof
theorem Bk.step_ge {b : Bk} (ok : b.Ok) (h : Int) : b.first ≤ b.step h := by
  have := ok.fr
  unfold Bk.step
  split
  · omega
  · split <;> omega
theorem Bk.step_le {b : Bk} (ok : b.Ok) (h : Int) : b.step h ≤ b.roof := by
  have := ok.fr
  unfold Bk.step
  split
  · omega
  · split <;> omega
theorem Bk.part_zero (b : Bk) : b.part 0 = 0 := by
  unfold Bk.part
  simp
theorem Bk.step_zero {b : Bk} (ok : b.Ok) : b.step 0 = b.first := by
  have := ok.f1
  unfold Bk.step
  rw [b.part_zero, if_pos (by omega)]
/-- rounded up, told another way -/
theorem ceil_eq (x c : Int) (hc : 0 < c) : -((-x).fdiv c) = (x + c - 1).fdiv c := by
  rw [Int.fdiv_eq_ediv_of_nonneg _ (by omega), Int.fdiv_eq_ediv_of_nonneg _ (by omega)]
  have h1 := Int.emod_add_mul_ediv (-x) c
  have h2 := Int.emod_nonneg (-x) (show c ≠ 0 by omega)
  have h3 := Int.emod_lt_of_pos (-x) hc
  have h4 := Int.emod_add_mul_ediv (x + c - 1) c
  have h5 := Int.emod_nonneg (x + c - 1) (show c ≠ 0 by omega)
  have h6 := Int.emod_lt_of_pos (x + c - 1) hc
  generalize (-x) / c = q at *
  generalize (x + c - 1) / c = q' at *
  generalize (-x) % c = r at *
  generalize (x + c - 1) % c = r' at *
  have e : c * (-q - q') = r' - (c - 1) + r := by
    have : c * (-q - q') = -(c * q) - c * q' := by rw [Int.mul_sub, Int.mul_neg]
    omega
  have l1 : -c < r' - (c - 1) + r := by omega
  have l2 : r' - (c - 1) + r < c := by omega
  rw [← e] at l1 l2
  have z : -q - q' = 0 := by
    by_cases hz : -q - q' ≤ -1
    · have := Int.mul_le_mul_of_nonneg_left hz (Int.le_of_lt hc)
      omega
    · by_cases hz2 : 1 ≤ -q - q'
      · have := Int.mul_le_mul_of_nonneg_left hz2 (Int.le_of_lt hc)
        omega
      · omega
  omega
/-- the law's own step -/
def Bk.lstep (b : Bk) (h : Int) : Int :=
  let m := (h * b.top + b.bot - 1).fdiv b.bot
  let m2 := if m > b.first then m else b.first
  if m2 < b.roof then m2 else b.roof
theorem Bk.lstep_eq {b : Bk} (ok : b.Ok) (h : Int) : b.lstep h = b.step h := by
  have e : b.part h = (h * b.top + b.bot - 1).fdiv b.bot := by
    unfold Bk.part
    rw [Int.neg_mul, ceil_eq _ _ (by have := ok.b1; omega)]
  have h1 := ok.fr
  unfold Bk.lstep Bk.step
  rw [e]
  dsimp only
  generalize (h * b.top + b.bot - 1).fdiv b.bot = m
  repeat' split
  all_goals omega
/-! ### states -/
abbrev Stt := List (Int × Int)
def holds (s : Stt) : Int := (s.map (·.2)).sum
def sizes (s : Stt) : Int := (s.map (·.1)).sum
def idleS (s : Stt) : Int := (s.map fun p => p.2 - p.1).sum
def zeros (n : Nat) : Stt := List.replicate n (0, 0)
theorem holds_append (s t : Stt) : holds (s ++ t) = holds s + holds t := by simp [holds]
theorem sizes_append (s t : Stt) : sizes (s ++ t) = sizes s + sizes t := by simp [sizes]
theorem idle_append (s t : Stt) : idleS (s ++ t) = idleS s + idleS t := by simp [idleS]
theorem holds_cons (p : Int × Int) (t : Stt) : holds (p :: t) = p.2 + holds t := by simp [holds]
theorem sizes_cons (p : Int × Int) (t : Stt) : sizes (p :: t) = p.1 + sizes t := by simp [sizes]
theorem idle_cons (p : Int × Int) (t : Stt) : idleS (p :: t) = (p.2 - p.1) + idleS t := by simp [idleS]
theorem idle_eq (s : Stt) : idleS s = holds s - sizes s := by
  induction s with
  | nil => rfl
  | cons p r ih => rw [idle_cons, holds_cons, sizes_cons, ih]; omega
theorem holds_zeros (n : Nat) : holds (zeros n) = 0 := by simp [holds, zeros]
theorem sizes_zeros (n : Nat) : sizes (zeros n) = 0 := by simp [sizes, zeros]
theorem zeros_succ (n : Nat) : zeros (n + 1) = (0, 0) :: zeros n := rfl
theorem zeros_length (n : Nat) : (zeros n).length = n := by simp [zeros]
/-! ### a growth -/
def grownZ (b : Bk) (blocks : Int) (s : Stt) (n : Nat) (m : Int) : Option Stt :=
  match s[n]? with
  | none => none
  | some (size, hold) =>
    if 0 < size + m - hold then
      if blocks - holds s < size + m - hold then none
      else
        let asked := if size + m - hold < b.step hold then b.step hold else size + m - hold
        some (s.set n (size + m, hold + (if asked < blocks - holds s then asked else blocks - holds s)))
    else some (s.set n (size + m, hold))
/-- the table S is closed -/
structure Closed (b : Bk) (blocks : Int) (files : Nat) (total : Int) (S : Stt → Prop) : Prop where
  zero : S (zeros files)
  next : ∀ st, S st → ∀ (n : Nat) (m : Int), n < files → 1 ≤ m → sizes st + m ≤ total → ∃ st', grownZ b blocks st n m = some st' ∧ S st'
theorem grown_mid (b : Bk) (blocks : Int) (d r : Stt) (p : Int × Int) (m : Int) :
    grownZ b blocks (d ++ p :: r) d.length m = (if 0 < p.1 + m - p.2 then
      if blocks - holds (d ++ p :: r) < p.1 + m - p.2 then none
      else some (d ++ (p.1 + m, p.2 + (if (if p.1 + m - p.2 < b.step p.2 then b.step p.2 else p.1 + m - p.2) < blocks - holds (d ++ p :: r) then (if p.1 + m - p.2 < b.step p.2 then b.step p.2 else p.1 + m - p.2) else blocks - holds (d ++ p :: r))) :: r)
    else some (d ++ (p.1 + m, p.2) :: r)) := by
  have e : (d ++ p :: r)[d.length]? = some p := by simp
  have s : ∀ x, (d ++ p :: r).set d.length x = d ++ x :: r := fun x => by simp
  obtain ⟨p1, p2⟩ := p
  unfold grownZ
  rw [e]
  dsimp only
  rw [s, s]
/-! ### files that are filled by whole givings -/
/-- a file's size and hold behind at most two growths, the last giving whole -/
def Whole (b : Bk) (p : Int × Int) : Prop := p = (0, 0) ∨ p = (1, b.first) ∨ ∃ h, b.first ≤ h ∧ p = (h + 1, h + b.step h)
theorem Whole.pos {b : Bk} (ok : b.Ok) {p : Int × Int} (h : Whole b p) : 0 ≤ p.1 ∧ p.1 ≤ p.2 ∧ 0 ≤ p.2 := by
  have := ok.f1
  rcases h with rfl | rfl | ⟨h, hh, rfl⟩
  · exact ⟨Int.le_refl _, Int.le_refl _, Int.le_refl _⟩
  · dsimp only; omega
  · have := b.step_ge ok h
    dsimp only; omega
theorem wholes_nonneg {b : Bk} (ok : b.Ok) : ∀ {ps : Stt}, (∀ p ∈ ps, Whole b p) → 0 ≤ sizes ps ∧ 0 ≤ holds ps ∧ 0 ≤ idleS ps
  | [], _ => by simp [sizes, holds, idleS]
  | p :: r, h => by
    have h1 := (h p (List.mem_cons_self ..)).pos ok
    have h2 := wholes_nonneg ok (ps := r) fun q hq => h q (List.mem_cons_of_mem _ hq)
    rw [sizes_cons, holds_cons, idle_cons]
    omega
section
variable {b : Bk} {blocks total : Int} {files : Nat} {S : Stt → Prop}
/-- a first growth of a file without blocks by h: it holds just h -/
theorem grow_first (ok : b.Ok) (C : Closed b blocks files total S) {d r : Stt} {h : Int} (hs : S (d ++ (0, 0) :: r)) (hl : d.length < files) (h1 : b.first ≤ h) (hr : holds r = 0) (hf : holds d + h ≤ blocks) (ht : sizes d + sizes r + h ≤ total) : S (d ++ (h, h) :: r) := by
  have f1 := ok.f1
  obtain ⟨st', e, q⟩ := C.next _ hs d.length h hl (by omega) (by rw [sizes_append, sizes_cons]; omega)
  rw [grown_mid] at e
  simp only [holds_append, holds_cons, b.step_zero ok, Int.zero_add, Int.sub_zero] at e
  rw [if_pos (by omega), if_neg (by omega)] at e
  have z : st' = d ++ (h, h) :: r := by
    have e' := (Option.some.inj e).symm
    rw [e']
    congr 2
    refine Prod.ext rfl ?_
    show (if (if h < b.first then b.first else h) < blocks - (holds d + holds r) then (if h < b.first then b.first else h) else blocks - (holds d + holds r)) = h
    rw [if_neg (show ¬ h < b.first by omega)]
    split <;> omega
  rw [← z]
  exact q
/-- then one block more -/
theorem grow_one (ok : b.Ok) (C : Closed b blocks files total S) {d r : Stt} {h : Int} (hs : S (d ++ (h, h) :: r)) (hl : d.length < files) (hr : holds r = 0) (hp : 0 < blocks - (holds d + h)) (ht : sizes d + sizes r + h + 1 ≤ total) :
    S (d ++ (h + 1, h + (if b.step h < blocks - (holds d + h) then b.step h else blocks - (holds d + h))) :: r) := by
  have f1 := ok.f1
  have s1 := b.step_ge ok h
  obtain ⟨st', e, q⟩ := C.next _ hs d.length 1 hl (by omega) (by rw [sizes_append, sizes_cons]; dsimp only; omega)
  rw [grown_mid] at e
  simp only [holds_append, holds_cons] at e
  have e1 : h + 1 - h = 1 := by omega
  rw [e1] at e
  rw [if_pos (by omega), if_neg (by omega)] at e
  have z : st' = d ++ (h + 1, h + (if b.step h < blocks - (holds d + h) then b.step h else blocks - (holds d + h))) :: r := by
    have e' := (Option.some.inj e).symm
    rw [e']
    congr 2
    refine Prod.ext rfl ?_
    show h + (if (if 1 < b.step h then b.step h else 1) < blocks - (holds d + (h + holds r)) then (if 1 < b.step h then b.step h else 1) else blocks - (holds d + (h + holds r))) = h + (if b.step h < blocks - (holds d + h) then b.step h else blocks - (holds d + h))
    have e2 : (if 1 < b.step h then b.step h else 1) = b.step h := by
      split <;> omega
    rw [e2, hr, Int.add_zero]
  rw [← z]
  exact q
theorem grow_whole (ok : b.Ok) (C : Closed b blocks files total S) {d r : Stt} {p : Int × Int} (hp : Whole b p) (hs : S (d ++ (0, 0) :: r)) (hl : d.length < files) (hr : holds r = 0) (hrs : sizes r = 0) (hf : holds d + p.2 ≤ blocks) (ht : sizes d + p.1 ≤ total) : S (d ++ p :: r) := by
  have f1 := ok.f1
  rcases hp with rfl | rfl | ⟨h, hh, rfl⟩
  · exact hs
  · dsimp only at hf ht
    have q := grow_one ok C (h := 0) hs hl hr (by omega) (by omega)
    rw [b.step_zero ok] at q
    have e : (if b.first < blocks - (holds d + 0) then b.first else blocks - (holds d + 0)) = b.first := by
      split <;> omega
    rw [e] at q
    simpa using q
  · dsimp only at hf ht
    have s1 := b.step_ge ok h
    have q := grow_one ok C (h := h) (grow_first ok C hs hl hh hr (by omega) (by omega)) hl hr (by omega) (by omega)
    have e : (if b.step h < blocks - (holds d + h) then b.step h else blocks - (holds d + h)) = b.step h := by
      split <;> omega
    rw [e] at q
    exact q
theorem grow_all (ok : b.Ok) (C : Closed b blocks files total S) : ∀ (ps d : Stt) (r : Nat), (∀ p ∈ ps, Whole b p) → (∀ p ∈ d, Whole b p) → S (d ++ zeros (ps.length + r)) → d.length + ps.length + r = files → holds (d ++ ps) ≤ blocks → sizes (d ++ ps) ≤ total →
    S (d ++ ps ++ zeros r)
  | [], d, r, _, _, hs, _, _, _ => by simpa using hs
  | p :: ps, d, r, hw, hd, hs, hl, hh, ht => by
    have n1 := wholes_nonneg ok (ps := ps) fun q hq => hw q (List.mem_cons_of_mem _ hq)
    rw [holds_append, holds_cons] at hh
    rw [sizes_append, sizes_cons] at ht
    have hs' : S (d ++ (0, 0) :: zeros (ps.length + r)) := by
      have : (p :: ps).length + r = (ps.length + r) + 1 := by simp only [List.length_cons]; omega
      rw [this, zeros_succ] at hs
      exact hs
    have hl' : d.length < files := by simp only [List.length_cons] at hl; omega
    have q := grow_whole ok C (hw p (List.mem_cons_self ..)) hs' hl' (holds_zeros _) (sizes_zeros _) (by omega) (by omega)
    have q2 := grow_all ok C ps (d ++ [p]) r (fun x hx => hw x (List.mem_cons_of_mem _ hx)) (fun x hx => by
      rcases List.mem_append.mp hx with h | h
      · exact hd x h
      · rw [List.mem_singleton.mp h]; exact hw p (List.mem_cons_self ..)) (by simpa using q) (by simp only [List.length_append, List.length_cons, List.length_nil] at hl ⊢; omega)
      (by simp only [holds_append, holds_cons]; simp only [holds, List.map_nil, List.sum_nil] at hh ⊢; omega) (by simp only [sizes_append, sizes_cons]; simp only [sizes, List.map_nil, List.sum_nil] at ht ⊢; omega)
    simpa using q2
end
/-- what so many files can hold idle: whole givings, the last one of them perhaps cut short by the disk's end -/
inductive Fill (b : Bk) (blocks : Int) (f : Nat) (idle held : Int) : Prop
  | whole (ps : Stt) (hl : ps.length = f) (hw : ∀ p ∈ ps, Whole b p) (hh : holds ps = held) (hb : held ≤ blocks) (hi : idleS ps = idle)
  | short (ps : Stt) (h m : Int) (hl : ps.length + 1 = f) (hw : ∀ p ∈ ps, Whole b p) (hd : held = blocks) (hh : holds ps + (h + m) = blocks) (h0 : h = 0 ∨ b.first ≤ h) (h1 : 1 ≤ m) (h2 : m < b.step h) (hi : idleS ps + (m - 1) = idle)
theorem Fill.bounds {b : Bk} (ok : b.Ok) {blocks idle held : Int} {f : Nat} (F : Fill b blocks f idle held) : 0 ≤ idle ∧ idle ≤ held ∧ held ≤ blocks ∧ 0 ≤ held := by
  have f1 := ok.f1
  cases F with
  | whole ps hl hw hh hb hi =>
    have n := wholes_nonneg ok hw
    have e := idle_eq ps
    omega
  | short ps h m hl hw hd hh h0 h1 h2 hi =>
    have n := wholes_nonneg ok hw
    have e := idle_eq ps
    rcases h0 with h0 | h0 <;> omega
/-- no growth whose asked total is at most nr is refused, at least so far as a closed table goes -/
def NR (b : Bk) (blocks : Int) (files : Nat) (nr : Int) : Prop := ∀ (total : Int) (S : Stt → Prop), Closed b blocks files total S → total ≤ nr
theorem nr_of_fill {b : Bk} (ok : b.Ok) {blocks idle held : Int} {f : Nat} (F : Fill b blocks f idle held) : NR b blocks (f + 1) (blocks - idle) := by
  intro total S C
  refine Int.not_lt.mp fun hlt => ?_
  have f1 := ok.f1
  have bd := F.bounds ok
  -- the state that holds so much idle, the last file without blocks
  obtain ⟨st, hst, hln, hho, hsi⟩ : ∃ st, S (st ++ zeros 1) ∧ st.length = f ∧ holds st = held ∧ sizes st = held - idle := by
    cases F with
    | whole ps hl hw hh hb hi =>
      refine ⟨ps, ?_, hl, hh, by have := idle_eq ps; omega⟩
      have e := idle_eq ps
      exact grow_all ok C ps [] 1 hw (fun p hp => absurd hp (by simp)) (by rw [hl]; exact C.zero) (by simp [hl]) (by simp only [List.nil_append]; omega) (by simp only [List.nil_append]; omega)
    | short ps h m hl hw hd hh h0 h1 h2 hi =>
      have e := idle_eq ps
      have n := wholes_nonneg ok hw
      have q := grow_all ok C ps [] 2 hw (fun p hp => absurd hp (by simp)) (by rw [show ps.length + 2 = f + 1 by omega]; exact C.zero) (by simp only [List.length_nil]; omega) (by simp only [List.nil_append]; rcases h0 with h0 | h0 <;> omega) (by simp only [List.nil_append]; rcases h0 with h0 | h0 <;> omega)
      have q : S (ps ++ (0, 0) :: zeros 1) := q
      have hl2 : ps.length < f + 1 := by omega
      have q1 : S (ps ++ (h, h) :: zeros 1) := by
        rcases h0 with h0 | h0
        · subst h0; exact q
        · exact grow_first ok C q hl2 h0 (holds_zeros 1) (by omega) (by rw [sizes_zeros]; omega)
      have q2 := grow_one ok C q1 hl2 (holds_zeros 1) (by omega) (by rw [sizes_zeros]; omega)
      have e2 : (if b.step h < blocks - (holds ps + h) then b.step h else blocks - (holds ps + h)) = m := by
        split <;> omega
      rw [e2] at q2
      refine ⟨ps ++ [(h + 1, h + m)], by simpa using q2, by simp [hl], ?_, ?_⟩
      · rw [holds_append]
        simp only [holds_cons]
        simp only [holds, List.map_nil, List.sum_nil] at hh ⊢
        omega
      · rw [sizes_append]
        simp only [sizes_cons]
        simp only [sizes, holds, List.map_nil, List.sum_nil] at e hh ⊢
        omega
  -- the growth that must be refused
  obtain ⟨st', e, _⟩ := C.next _ hst st.length (blocks - held + 1) (by omega) (by omega) (by rw [sizes_append, sizes_zeros]; omega)
  have e0 : st ++ zeros 1 = st ++ (0, 0) :: [] := rfl
  have e1 : holds (st ++ (0, 0) :: []) = held := by
    rw [holds_append, hho, holds_cons]
    show held + (0 + 0) = held
    omega
  rw [e0, grown_mid, e1] at e
  dsimp only at e
  rw [if_pos (by omega), if_pos (by omega)] at e
  cases e
end K76

/-! What check answers, in plain Lean; tables as lists of states. -/
namespace K76
open PySem
/-! ### data -/
/-- an integer (no bool) from lo to hi -/
def isI (lo hi : Int) : PyData → Bool
  | .int i => decide (lo ≤ i) && decide (i ≤ hi)
  | _ => false
def pairD (p : Int × Int) : PyData := .tuple [.int p.1, .int p.2]
def stD (s : Stt) : PyData := .tuple (s.map pairD)
def leI : PyData → PyData → Bool
  | .int i, .int j => decide (i ≤ j)
  | _, _ => false
def fileSt : PyData → Bool
  | .tuple [a, b] => isI 0 300 a && (isI 0 300 b && leI a b)
  | _ => false
def unP : PyData → Int × Int
  | .tuple [.int a, .int b] => (a, b)
  | _ => (0, 0)
def unD : PyData → Stt
  | .tuple ds => ds.map unP
  | _ => []
def isSt (blocks : Int) : PyData → Bool
  | .tuple ds => (decide (1 ≤ ds.length) && decide (ds.length ≤ 8)) && (ds.all fileSt && decide (holds (ds.map unP) ≤ blocks))
  | _ => false
/-- a bound of idle blocks that may be left out -/
def idleOk : Option Int → Int → Bool
  | none, _ => true
  | some i, x => decide (x ≤ i)
def listed (blocks : Int) (files : Nat) (total : Int) (idle : Option Int) (d : PyData) : Bool :=
  isSt blocks d && (decide ((unD d).length = files) && (decide (sizes (unD d) ≤ total) && idleOk idle (idleS (unD d))))
/-- a state as a table may list it -/
structure Good (blocks : Int) (s : Stt) : Prop where
  l1 : 1 ≤ s.length
  l8 : s.length ≤ 8
  each : ∀ p ∈ s, 0 ≤ p.1 ∧ p.1 ≤ p.2 ∧ p.2 ≤ 300
  hold : holds s ≤ blocks
theorem unP_pair (p : Int × Int) : unP (pairD p) = p := rfl
theorem unD_st (s : Stt) : unD (stD s) = s := by
  show (s.map pairD).map unP = s
  rw [List.map_map]
  have : unP ∘ pairD = id := funext unP_pair
  rw [this, List.map_id]
theorem fileSt_pair (p : Int × Int) : fileSt (pairD p) = (decide (0 ≤ p.1 ∧ p.1 ≤ p.2 ∧ p.2 ≤ 300)) := by
  show ((decide (0 ≤ p.1) && decide (p.1 ≤ 300)) && ((decide (0 ≤ p.2) && decide (p.2 ≤ 300)) && decide (p.1 ≤ p.2))) = _
  rw [Bool.eq_iff_iff]
  simp only [Bool.and_eq_true, decide_eq_true_eq]
  omega
theorem fileSt_eq {d : PyData} (h : fileSt d = true) : d = pairD (unP d) := by
  unfold fileSt at h
  split at h
  · rename_i a b
    obtain ⟨h1, h2⟩ := Bool.and_eq_true_iff.mp h
    obtain ⟨h2, _⟩ := Bool.and_eq_true_iff.mp h2
    cases a <;> first | (cases h1; done) | skip
    cases b <;> first | (cases h2; done) | skip
    rfl
  · cases h
theorem isSt_st (blocks : Int) (s : Stt) : isSt blocks (stD s) = true ↔ Good blocks s := by
  have e : (s.map pairD).map unP = s := unD_st s
  show ((decide (1 ≤ (s.map pairD).length) && decide ((s.map pairD).length ≤ 8)) && ((s.map pairD).all fileSt && decide (holds ((s.map pairD).map unP) ≤ blocks))) = true ↔ _
  rw [e, List.length_map]
  simp only [Bool.and_eq_true, decide_eq_true_eq, List.all_eq_true, List.mem_map, forall_exists_index, and_imp, forall_apply_eq_imp_iff₂, fileSt_pair]
  constructor
  · rintro ⟨⟨h1, h2⟩, h3, h4⟩
    exact ⟨h1, h2, h3, h4⟩
  · rintro ⟨h1, h2, h3, h4⟩
    exact ⟨⟨h1, h2⟩, h3, h4⟩
theorem isSt_eq {blocks : Int} {d : PyData} (h : isSt blocks d = true) : d = stD (unD d) := by
  unfold isSt at h
  split at h
  · rename_i ds
    obtain ⟨_, h2⟩ := Bool.and_eq_true_iff.mp h
    obtain ⟨h2, _⟩ := Bool.and_eq_true_iff.mp h2
    show PyData.tuple ds = .tuple ((ds.map unP).map pairD)
    rw [List.map_map]
    congr 1
    have : ∀ l : List PyData, l.all fileSt = true → l = l.map (pairD ∘ unP) := by
      intro l
      induction l with
      | nil => intro _; rfl
      | cons a r ih =>
        intro q
        rw [List.all_cons, Bool.and_eq_true] at q
        rw [List.map_cons, ← ih q.2]
        congr 1
        exact fileSt_eq q.1
    exact this ds h2
  · cases h
theorem isSt_good {blocks : Int} {d : PyData} (h : isSt blocks d = true) : Good blocks (unD d) := by
  have e := isSt_eq h
  rw [e] at h
  have := (isSt_st blocks (unD d)).mp h
  exact this
theorem Good.sizes {blocks : Int} {s : Stt} (g : Good blocks s) : 0 ≤ sizes s ∧ sizes s ≤ holds s ∧ 0 ≤ idleS s := by
  have : ∀ l : Stt, (∀ p ∈ l, 0 ≤ p.1 ∧ p.1 ≤ p.2 ∧ p.2 ≤ 300) → 0 ≤ K76.sizes l ∧ K76.sizes l ≤ holds l ∧ 0 ≤ idleS l := by
    intro l
    induction l with
    | nil => intro _; simp [K76.sizes, holds, idleS]
    | cons a r ih =>
      intro q
      have h1 := q a (List.mem_cons_self ..)
      have h2 := ih fun p hp => q p (List.mem_cons_of_mem _ hp)
      rw [sizes_cons, holds_cons, idle_cons]
      omega
  exact this s g.each
theorem pairD_eqv (p q : Int × Int) : PyData.eqv (pairD p) (pairD q) = decide (p = q) := by
  obtain ⟨a, b⟩ := p
  obtain ⟨c, d⟩ := q
  have e : PyData.eqv (pairD (a, b)) (pairD (c, d)) = ((a == c) && ((b == d) && true)) := by simp only [pairD, PyData.eqv, PyData.eqvAll]
  rw [e, Bool.eq_iff_iff]
  simp
theorem stD_eqv (s t : Stt) : PyData.eqv (stD s) (stD t) = decide (s = t) := by
  have e : PyData.eqv (stD s) (stD t) = PyData.eqvAll (s.map pairD) (t.map pairD) := by simp only [stD, PyData.eqv]
  rw [e]
  induction s generalizing t with
  | nil => cases t <;> simp [PyData.eqvAll]
  | cons p s ih =>
    cases t with
    | nil => simp [PyData.eqvAll]
    | cons q t =>
      simp only [List.map_cons, PyData.eqvAll, pairD_eqv, ih t (by simp only [stD, PyData.eqv])]
      rw [Bool.eq_iff_iff]
      simp
/-! ### the first that fails -/
def firstBad {α : Type} (p : α → Bool) (l : List α) : Option Nat := l.findIdx? fun x => !p x
theorem firstBad_none {α : Type} {p : α → Bool} {l : List α} : firstBad p l = none ↔ ∀ x ∈ l, p x = true := by
  unfold firstBad
  rw [List.findIdx?_eq_none_iff]
  simp
theorem firstBad_at {α : Type} {p : α → Bool} {l : List α} {i : Nat} {x : α} (h : ∀ j y, j < i → l[j]? = some y → p y = true) (hx : l[i]? = some x) (hp : p x = false) : firstBad p l = some i := by
  obtain ⟨hi, e⟩ := List.getElem?_eq_some_iff.mp hx
  unfold firstBad
  rw [List.findIdx?_eq_some_iff_getElem]
  refine ⟨hi, by rw [e, hp]; rfl, fun j hj => ?_⟩
  have := h j l[j] hj (List.getElem?_eq_getElem _)
  simp [this]
/-! ### what follows from a state -/
def succs (b : Bk) (blocks total : Int) (s : Stt) : List (Option Stt) := (List.range s.length).flatMap fun n => (List.range (total - sizes s).toNat).map fun (m : Nat) => grownZ b blocks s n ((m : Int) + 1)
def inS (ss : List Stt) : Option Stt → Bool
  | none => false
  | some s => decide (s ∈ ss)
def entryOk (b : Bk) (blocks total : Int) (ss : List Stt) (s : Stt) : Bool := (succs b blocks total s).all (inS ss)
theorem entryOk_iff {b : Bk} {blocks total : Int} {ss : List Stt} {s : Stt} : entryOk b blocks total ss s = true ↔ ∀ (n : Nat) (m : Int), n < s.length → 1 ≤ m → sizes s + m ≤ total → ∃ s', grownZ b blocks s n m = some s' ∧ s' ∈ ss := by
  unfold entryOk succs
  rw [List.all_eq_true]
  constructor
  · intro h n m hn hm ht
    have hmem : grownZ b blocks s n m ∈ (List.range s.length).flatMap fun n => (List.range (total - sizes s).toNat).map fun (m : Nat) => grownZ b blocks s n ((m : Int) + 1) :=
      List.mem_flatMap.mpr ⟨n, List.mem_range.mpr hn, List.mem_map.mpr ⟨(m - 1).toNat, List.mem_range.mpr (by omega), by congr 1; omega⟩⟩
    have q := h _ hmem
    cases e : grownZ b blocks s n m with
    | none => rw [e] at q; cases q
    | some s' => rw [e] at q; exact ⟨s', rfl, of_decide_eq_true q⟩
  · intro h o ho
    obtain ⟨n, hn, ho⟩ := List.mem_flatMap.mp ho
    obtain ⟨m, hm, rfl⟩ := List.mem_map.mp ho
    have hm := List.mem_range.mp hm
    obtain ⟨s', e, q⟩ := h n ((m : Int) + 1) (List.mem_range.mp hn) (by omega) (by omega)
    rw [e]
    exact decide_eq_true q
/-! ### check's answer -/
inductive Res where
  | ok (n : Nat)
  | no (k : Option Nat)
def checkM (b : Bk) (blocks : Int) (files : Nat) (total : Int) (idle : Option Int) (ds : List PyData) : Res :=
  match firstBad (listed blocks files total idle) ds with
  | some i => .no (some i)
  | none => if zeros files ∈ ds.map unD then
      (match firstBad (fun d => entryOk b blocks total (ds.map unD) (unD d)) ds with
      | some i => .no (some i)
      | none => .ok ds.length)
    else .no none
theorem checkM_listed {b : Bk} {blocks total : Int} {files i : Nat} {idle : Option Int} {ds : List PyData} {d : PyData} (h : ∀ j y, j < i → ds[j]? = some y → listed blocks files total idle y = true) (hd : ds[i]? = some d) (hl : listed blocks files total idle d = false) :
    checkM b blocks files total idle ds = .no (some i) := by
  unfold checkM
  rw [firstBad_at h hd hl]
theorem checkM_zero {b : Bk} {blocks total : Int} {files : Nat} {idle : Option Int} {ds : List PyData} (h : ∀ d ∈ ds, listed blocks files total idle d = true) (hz : zeros files ∉ ds.map unD) : checkM b blocks files total idle ds = .no none := by
  unfold checkM
  rw [firstBad_none.mpr h]
  exact if_neg hz
theorem checkM_entry {b : Bk} {blocks total : Int} {files i : Nat} {idle : Option Int} {ds : List PyData} {d : PyData} (h : ∀ d ∈ ds, listed blocks files total idle d = true) (hz : zeros files ∈ ds.map unD)
    (h2 : ∀ j y, j < i → ds[j]? = some y → entryOk b blocks total (ds.map unD) (unD y) = true) (hd : ds[i]? = some d) (hl : entryOk b blocks total (ds.map unD) (unD d) = false) : checkM b blocks files total idle ds = .no (some i) := by
  unfold checkM
  rw [firstBad_none.mpr h]
  dsimp only
  rw [if_pos hz, firstBad_at (p := fun d => entryOk b blocks total (ds.map unD) (unD d)) h2 hd hl]
theorem checkM_ok {b : Bk} {blocks total : Int} {files : Nat} {idle : Option Int} {ds : List PyData} (h : ∀ d ∈ ds, listed blocks files total idle d = true) (hz : zeros files ∈ ds.map unD)
    (h2 : ∀ d ∈ ds, entryOk b blocks total (ds.map unD) (unD d) = true) : checkM b blocks files total idle ds = .ok ds.length := by
  unfold checkM
  rw [firstBad_none.mpr h]
  dsimp only
  rw [if_pos hz, firstBad_none.mpr h2]
theorem checkM_inv {b : Bk} {blocks total : Int} {files n : Nat} {idle : Option Int} {ds : List PyData} (e : checkM b blocks files total idle ds = .ok n) :
    n = ds.length ∧ (∀ d ∈ ds, listed blocks files total idle d = true) ∧ Closed b blocks files total (· ∈ ds.map unD) := by
  unfold checkM at e
  cases e1 : firstBad (listed blocks files total idle) ds with
  | some i => rw [e1] at e; cases e
  | none =>
    rw [e1] at e
    dsimp only at e
    by_cases hz : zeros files ∈ ds.map unD
    · rw [if_pos hz] at e
      cases e2 : firstBad (fun d => entryOk b blocks total (ds.map unD) (unD d)) ds with
      | some i => rw [e2] at e; cases e
      | none =>
        rw [e2] at e
        injection e with e
        have h1 := firstBad_none.mp e1
        have h2 := firstBad_none.mp e2
        refine ⟨e.symm, h1, hz, fun st hst n' m hn hm ht => ?_⟩
        obtain ⟨d, hd, rfl⟩ := List.mem_map.mp hst
        have hl := h1 d hd
        unfold listed at hl
        simp only [Bool.and_eq_true, decide_eq_true_eq] at hl
        exact entryOk_iff.mp (h2 d hd) n' m (by rw [hl.2.1]; exact hn) hm ht
    · rw [if_neg hz] at e
      cases e
/-! ### lists of states: each once -/
def onceStep (f : List Stt) (x : Stt) : List Stt := if x ∈ f then f else f ++ [x]
def eachOnce (l : List Stt) : List Stt := l.foldl onceStep []
theorem once_fold (l f : List Stt) (x : Stt) : x ∈ l.foldl onceStep f ↔ x ∈ f ∨ x ∈ l := by
  induction l generalizing f with
  | nil => simp
  | cons a r ih =>
    rw [List.foldl_cons, ih]
    unfold onceStep
    by_cases h : a ∈ f
    · rw [if_pos h]
      constructor
      · rintro (q | q)
        · exact .inl q
        · exact .inr (List.mem_cons_of_mem _ q)
      · rintro (q | q)
        · exact .inl q
        · rcases List.mem_cons.mp q with rfl | q
          · exact .inl h
          · exact .inr q
    · rw [if_neg h]
      simp only [List.mem_append, List.mem_cons, List.not_mem_nil, or_false]
      constructor
      · rintro ((q | q) | q)
        · exact .inl q
        · exact .inr (.inl q)
        · exact .inr (.inr q)
      · rintro (q | q | q)
        · exact .inl (.inl q)
        · exact .inl (.inr q)
        · exact .inr q
theorem mem_eachOnce (l : List Stt) (x : Stt) : x ∈ eachOnce l ↔ x ∈ l := by
  have := once_fold l [] x
  unfold eachOnce
  simpa using this
theorem length_once_fold (l f : List Stt) : (l.foldl onceStep f).length ≤ f.length + l.length := by
  induction l generalizing f with
  | nil => simp
  | cons a r ih =>
    rw [List.foldl_cons]
    have h1 := ih (onceStep f a)
    have h2 : (onceStep f a).length ≤ f.length + 1 := by
      unfold onceStep
      split <;> simp
    simp only [List.length_cons]
    omega
theorem length_eachOnce (l : List Stt) : (eachOnce l).length ≤ l.length := by
  have := length_once_fold l []
  unfold eachOnce
  simpa using this
/-- a table's answer hangs on its members alone -/
theorem checkM_of_closed {b : Bk} {blocks total : Int} {files : Nat} {idle : Option Int} {ss : List Stt} (hl : ∀ s ∈ ss, listed blocks files total idle (stD s) = true) (C : Closed b blocks files total (· ∈ ss)) :
    checkM b blocks files total idle (ss.map stD) = .ok ss.length := by
  have e : (ss.map stD).map unD = ss := by
    rw [List.map_map]
    have : unD ∘ stD = id := funext unD_st
    rw [this, List.map_id]
  have q := checkM_ok (b := b) (blocks := blocks) (files := files) (total := total) (idle := idle) (ds := ss.map stD) (fun d hd => by
      obtain ⟨s, hs, rfl⟩ := List.mem_map.mp hd
      exact hl s hs) (by rw [e]; exact C.zero) (fun d hd => by
      obtain ⟨s, hs, rfl⟩ := List.mem_map.mp hd
      rw [e, unD_st]
      refine entryOk_iff.mpr fun n m hn hm ht => ?_
      have h := hl s hs
      unfold listed at h
      simp only [Bool.and_eq_true, decide_eq_true_eq, unD_st] at h
      exact C.next s hs n m (by rw [← h.2.1]; exact hn) hm ht)
  rw [List.length_map] at q
  exact q
end K76

/-! The walk, 1: checks, books. -/
namespace K76
open PySem PySem.Spec PyProof.Rows L2
section
variable {P : Program} {w : World} {K : PySem.W.Frag} {mg : Str → Option Value} {base : Heap}
/-! ### is_integer, check_integer, check_blocks, check_numbers -/
def spIsInteger (K : PySem.W.Frag) : Sp := fun vs H Q _ => ∃ v d lo hi, vs = [v, .int lo, .int hi] ∧ Dp K H v d ∧ Q (.bl (isI lo hi d)) H
theorem sc_is_integer : FnScope ["thing", "least", "most"] ["thing", "least", "most"] (defScope (top 14)) := ⟨rfl, rfl, rfl, by decide +kernel, rfl, by decide +kernel, by decide +kernel⟩
theorem ok_is_integer (T : Tx K mg) : FnG P w K mg base CX0 1 "is_integer" ["thing", "least", "most"] (spIsInteger K) := by
  obtain ⟨fd, F⟩ := T.f_is_integer
  refine FnG.of F T.g_is_integer (fun _ _ _ _ _ _ us hl => match us, hl with | [_, _, _], _ => rfl) (F.ok sc_is_integer (fun vs H Q E h => ?_) (fun cdv A outer s H vs Q E hr h => ?_))
  · obtain ⟨v, d, lo, hi, rfl, _⟩ := h
    rfl
  · obtain ⟨v, d, lo, hi, rfl, hd, q⟩ := h
    refine ⟨_, pss_one (ps_ret (pe_and (pe_isT kit_int T.m_isinstance T.m_int boot_int' (pv 0)) (pe_and (pe_not (pe_isT kit_bool T.m_isinstance T.m_bool boot_bool' (pv 0))) (pe_one (pe_chain op_le op_le (pv 1) (pv 0) (pv 2)))))), ?_⟩
    refine ⟨_, rfl, v, d, rfl, hd, _, rfl, ?_⟩
    cases hd with
    | int i =>
      refine iteT ⟨_, rfl, _, _, rfl, Dp.int i, _, rfl, _, rfl, iteT ⟨_, rfl, _, rfl, lo, i, rfl, rfl, _, rfl, ?_⟩⟩
      by_cases h1 : lo ≤ i
      · rw [decide_eq_true h1]
        refine iteT ⟨_, rfl, i, hi, rfl, rfl, ?_⟩
        have e : isI lo hi (.int i) = decide (i ≤ hi) := by simp [isI, h1]
        rw [e] at q
        exact q
      · rw [decide_eq_false h1]
        refine iteF ?_
        have e : isI lo hi (.int i) = false := by simp [isI, h1]
        rw [e] at q
        exact q
    | bl b => exact iteT ⟨_, rfl, _, _, rfl, Dp.bl b, _, rfl, _, rfl, iteF q⟩
    | non => exact iteF q
    | str x => exact iteF q
    | lst h1 h2 => exact iteF q
    | tup h1 h2 => exact iteF q
theorem isI_int {lo hi i : Int} (h1 : lo ≤ i) (h2 : i ≤ hi) : isI lo hi (.int i) = true := by simp [isI, h1, h2]
def spCheckInt : Sp := fun vs H Q _ => ∃ i lo hi : Int, vs = [.int i, .int lo, .int hi] ∧ lo ≤ i ∧ i ≤ hi ∧ Q .non H
theorem sc_check_integer : FnScope ["thing", "least", "most"] ["thing", "least", "most"] (defScope (top 15)) := ⟨rfl, rfl, rfl, by decide +kernel, rfl, by decide +kernel, by decide +kernel⟩
theorem ok_check_integer (T : Tx K mg) : FnG P w K mg base CX0 2 "check_integer" ["thing", "least", "most"] spCheckInt := by
  obtain ⟨fd, F⟩ := T.f_check_integer
  refine FnG.of F T.g_check_integer (fun _ _ _ _ _ _ us hl => match us, hl with | [_, _, _], _ => rfl) (F.ok sc_check_integer (fun vs H Q E h => ?_) (fun cdv A outer s H vs Q E hr h => ?_))
  · obtain ⟨i, lo, hi, rfl, _⟩ := h
    rfl
  · obtain ⟨i, lo, hi, rfl, h1, h2, q⟩ := h
    refine ⟨_, pss_one (ps_if (pt_not (pt_val (pe_g (ok_is_integer T) hr (pa_cons (pv 0) (pa_cons (pv 1) (pa_cons (pv 2) pa_nil)))))) pss_never pss_nil), ?_⟩
    refine ⟨_, rfl, _, rfl, _, rfl, _, _, lo, hi, rfl, Dp.int i, _, rfl, ?_⟩
    rw [isI_int h1 h2]
    exact iteF q
def spCheckBlocks : Sp := fun vs H Q _ => ∃ b f l : Int, vs = [.int b, .int f, .int l] ∧ 1 ≤ b ∧ b ≤ 300 ∧ l ≤ f ∧ f ≤ 8 ∧ Q .non H
theorem sc_check_blocks : FnScope ["blocks", "files", "least"] ["blocks", "files", "least"] (defScope (top 19)) := ⟨rfl, rfl, rfl, by decide +kernel, rfl, by decide +kernel, by decide +kernel⟩
theorem ok_check_blocks (T : Tx K mg) : FnG P w K mg base CX0 3 "check_blocks" ["blocks", "files", "least"] spCheckBlocks := by
  obtain ⟨fd, F⟩ := T.f_check_blocks
  obtain ⟨t1, g1⟩ := T.i_MOST_BLOCKS
  obtain ⟨t2, g2⟩ := T.i_MOST_FILES
  refine FnG.of F T.g_check_blocks (fun _ _ _ _ _ _ us hl => match us, hl with | [_, _, _], _ => rfl) (F.ok sc_check_blocks (fun vs H Q E h => ?_) (fun cdv A outer s H vs Q E hr h => ?_))
  · obtain ⟨b, f, l, rfl, _⟩ := h
    rfl
  · obtain ⟨b, f, l, rfl, h1, h2, h3, h4, q⟩ := h
    refine ⟨_, pss_cons (ps_expr (pe_g (ok_check_integer T) hr (pa_cons (pv 0) (pa_cons pe_int (pa_cons (pe_glob (v := .int 300) rfl g1 ⟨_, rfl⟩) pa_nil)))))
      (pss_one (ps_expr (pe_g (ok_check_integer T) hr (pa_cons (pv 1) (pa_cons (pv 2) (pa_cons (pe_glob (v := .int 8) rfl g2 ⟨_, rfl⟩) pa_nil)))))), ?_⟩
    exact ⟨_, rfl, b, 1, 300, rfl, h1, h2, _, rfl, _, rfl, f, l, 8, rfl, h3, h4, q⟩
def spCheckNumbers : Sp := fun vs H Q _ => ∃ b f t : Int, vs = [.int b, .int f, .int t] ∧ 1 ≤ b ∧ b ≤ 300 ∧ 1 ≤ f ∧ f ≤ 8 ∧ 0 ≤ t ∧ t ≤ 300 ∧ Q .non H
theorem sc_check_numbers : FnScope ["blocks", "files", "total"] ["blocks", "files", "total"] (defScope (top 41)) := ⟨rfl, rfl, rfl, by decide +kernel, rfl, by decide +kernel, by decide +kernel⟩
theorem ok_check_numbers (T : Tx K mg) : FnG P w K mg base CX0 4 "check_numbers" ["blocks", "files", "total"] spCheckNumbers := by
  obtain ⟨fd, F⟩ := T.f_check_numbers
  obtain ⟨t1, g1⟩ := T.i_MOST_BLOCKS
  refine FnG.of F T.g_check_numbers (fun _ _ _ _ _ _ us hl => match us, hl with | [_, _, _], _ => rfl) (F.ok sc_check_numbers (fun vs H Q E h => ?_) (fun cdv A outer s H vs Q E hr h => ?_))
  · obtain ⟨b, f, l, rfl, _⟩ := h
    rfl
  · obtain ⟨b, f, t, rfl, h1, h2, h3, h4, h5, h6, q⟩ := h
    refine ⟨_, pss_cons (ps_expr (pe_g (ok_check_blocks T) hr (pa_cons (pv 0) (pa_cons (pv 1) (pa_cons pe_int pa_nil)))))
      (pss_one (ps_expr (pe_g ((ok_check_integer T).mono (by decide)) hr (pa_cons (pv 2) (pa_cons pe_int (pa_cons (pe_glob (v := .int 300) rfl g1 ⟨_, rfl⟩) pa_nil)))))), ?_⟩
    exact ⟨_, rfl, _, rfl, b, f, 1, rfl, h1, h2, h3, h4, _, rfl, t, 0, 300, rfl, h5, h6, q⟩
/-! ### shares, parts -/
def spIsShare : Sp := fun vs H Q _ => ∃ (a : Addr) (i j : Int), vs = [.ref a] ∧ H a = some (.tup [.int i, .int j]) ∧ 1 ≤ i ∧ i ≤ 100 ∧ 1 ≤ j ∧ j ≤ 100 ∧ Q (.bl true) H
theorem sc_is_share : FnScope ["thing"] ["thing"] (defScope (top 46)) := ⟨rfl, rfl, rfl, by decide +kernel, rfl, by decide +kernel, by decide +kernel⟩
theorem dp_pair {H : Hp} {a : Addr} {p : Int × Int} (h : H a = some (.tup [.int p.1, .int p.2])) : Dp K H (.ref a) (pairD p) := .tup (SqT.of h) (.cons (.int _) (.cons (.int _) .nil))
theorem ok_is_share (T : Tx K mg) : FnG P w K mg base CX0 2 "is_share" ["thing"] spIsShare := by
  obtain ⟨fd, F⟩ := T.f_is_share
  obtain ⟨t1, g1⟩ := T.i_MOST_SHARE
  refine FnG.of F T.g_is_share (fun _ _ _ _ _ _ us hl => match us, hl with | [_], _ => rfl) (F.ok sc_is_share (fun vs H Q E h => ?_) (fun cdv A outer s H vs Q E hr h => ?_))
  · obtain ⟨a, i, j, rfl, _⟩ := h
    rfl
  · obtain ⟨a, i, j, rfl, ha, h1, h2, h3, h4, q⟩ := h
    refine ⟨_, pss_cons (ps_if (PW.pt (pw_or (pt_not (pt_val (pe_isT kit_tup T.m_isinstance T.m_tuple boot_tuple' (pv 0)))) (pw_or1 (pt_cmpR op_ne (pe_callB call_len rfl T.m_len boot_len' (pa_cons (pv 0) pa_nil)) pe_int (nomark _)))))
        (pss_one (ps_ret pe_bl)) pss_nil)
      (pss_one (ps_ret (pe_and (pe_g (ok_is_integer T) hr (pa_cons (pe_ix ix_tup (pv 0) pe_int (fun _ _ => rfl)) (pa_cons pe_int (pa_cons (pe_glob (v := .int 100) rfl g1 ⟨_, rfl⟩) pa_nil))))
        (pe_one (pe_g (ok_is_integer T) hr (pa_cons (pe_ix ix_tup (pv 0) pe_int (fun _ _ => rfl)) (pa_cons pe_int (pa_cons (pe_glob (v := .int 100) rfl g1 ⟨_, rfl⟩) pa_nil)))))))), ?_⟩
    refine ⟨_, rfl, _, _, rfl, dp_pair (p := (i, j)) ha, _, rfl, iteF ?_⟩
    refine ⟨_, rfl, _, 2, rfl, .inr ⟨_, SqT.of ha, rfl⟩, rfl, _, rfl, iteF ?_⟩
    refine ⟨_, rfl, a, _, _, _, rfl, rfl, SqT.of ha, rfl, _, _, 1, 100, rfl, Dp.int i, _, rfl, ?_⟩
    rw [isI_int h1 h2]
    refine iteT ⟨_, rfl, a, _, _, _, rfl, rfl, SqT.of ha, rfl, _, _, 1, 100, rfl, Dp.int j, ?_⟩
    rw [isI_int h3 h4]
    exact q
def spPartOf : Sp := fun vs H Q _ => ∃ (a : Addr) (b : Bk) (h : Int), b.Ok ∧ vs = [.ref a, .int h] ∧ H a = some (.tup [.int b.top, .int b.bot]) ∧ Q (.int (b.part h)) H
theorem sc_part_of : FnScope ["share", "hold", "top", "bottom"] ["share", "hold"] (defScope (top 47)) := ⟨rfl, rfl, rfl, by decide +kernel, rfl, by decide +kernel, by decide +kernel⟩
theorem ok_part_of (T : Tx K mg) : FnG P w K mg base CX0 1 "part_of" ["share", "hold"] spPartOf := by
  obtain ⟨fd, F⟩ := T.f_part_of
  refine FnG.of F T.g_part_of (fun _ _ _ _ _ _ us hl => match us, hl with | [_, _], _ => rfl) (F.ok sc_part_of (fun vs H Q E h => ?_) (fun cdv A outer s H vs Q E hr h => ?_))
  · obtain ⟨a, b, h, _, rfl, _⟩ := h
    rfl
  · obtain ⟨a, b, h, ok, rfl, ha, q⟩ := h
    have nd := sc_part_of.nd
    have b1 := ok.b1
    have b2 := ok.b2
    have t1 := ok.t1
    have t2 := ok.t2
    refine ⟨_, pss_cons (ps_asg (pv 0) (pg_tup rfl (pgs_cons (pg_name (i := 2) nd rfl (.inl rfl)) (pgs_cons (pg_name (i := 3) nd rfl (.inl rfl)) pgs_nil))))
      (pss_one (ps_ret (pe_un un_neg (pe_op op_fdivN (pe_op op_mul (pe_un un_neg (pv 1)) (pv 2)) (pv 3))))), ?_⟩
    refine ⟨_, rfl, a, _, rfl, SqT.of ha, rfl, _, _, rfl, _, _, rfl, rfl, ?_⟩
    exact ⟨_, rfl, h, rfl, _, rfl, _, b.top, rfl, rfl, .inr ⟨by omega, by omega⟩, _, rfl, _, b.bot, rfl, rfl, ⟨by omega, by omega⟩, _, rfl, q⟩
def spCheckParts : Sp := fun vs H Q _ => ∃ (a : Addr) (b : Bk) (x : Str), b.Ok ∧ vs = [.int b.first, .int b.roof, .ref a, .str x] ∧ H a = some (.tup [.int b.top, .int b.bot]) ∧ Q .non H
theorem sc_check_parts : FnScope ["first", "roof", "share", "ahead"] ["first", "roof", "share", "ahead"] (defScope (top 49)) := ⟨rfl, rfl, rfl, by decide +kernel, rfl, by decide +kernel, by decide +kernel⟩
theorem ok_check_parts (T : Tx K mg) : FnG P w K mg base CX0 3 "check_parts" ["first", "roof", "share", "ahead"] spCheckParts := by
  obtain ⟨fd, F⟩ := T.f_check_parts
  obtain ⟨t1, g1⟩ := T.i_MOST_GROWTH
  refine FnG.of F T.g_check_parts (fun _ _ _ _ _ _ us hl => match us, hl with | [_, _, _, _], _ => rfl) (F.ok sc_check_parts (fun vs H Q E h => ?_) (fun cdv A outer s H vs Q E hr h => ?_))
  · obtain ⟨a, b, x, _, rfl, _⟩ := h
    rfl
  · obtain ⟨a, b, x, ok, rfl, ha, q⟩ := h
    have f1 := ok.f1
    have fr := ok.fr
    have r := ok.r
    have G1 : FnG P w K mg base CX0 2 "is_integer" ["thing", "least", "most"] (spIsInteger K) := (ok_is_integer T).mono (by decide)
    refine ⟨_, pss_cons (ps_if (pt_not (pt_val (pe_g G1 hr (pa_cons (pv 0) (pa_cons pe_int (pa_cons (pe_glob (v := .int (10 ^ 30)) rfl g1 ⟨_, rfl⟩) pa_nil)))))) pss_never pss_nil)
      (pss_cons (ps_if (PW.pt (pw_or (pt_not (pt_val (pe_g G1 hr (pa_cons (pv 1) (pa_cons pe_int (pa_cons (pe_glob (v := .int (10 ^ 30)) rfl g1 ⟨_, rfl⟩) pa_nil)))))) (pw_or1 (pt_cmpR op_lt (pv 1) (pv 0) (nomark _))))) pss_never pss_nil)
      (pss_one (ps_if (pt_not (pt_val (pe_g (ok_is_share T) hr (pa_cons (pv 2) pa_nil)))) pss_never pss_nil))), ?_⟩
    refine ⟨_, rfl, _, _, 1, 10 ^ 30, rfl, Dp.int b.first, _, rfl, ?_⟩
    rw [isI_int f1 (by omega)]
    refine iteF ⟨_, rfl, _, _, 1, 10 ^ 30, rfl, Dp.int b.roof, _, rfl, ?_⟩
    rw [isI_int (by omega) (by omega)]
    refine iteF ⟨_, rfl, _, rfl, _, _, rfl, rfl, _, rfl, ?_⟩
    rw [decide_eq_false (show ¬ b.roof < b.first by omega)]
    exact iteF ⟨_, rfl, a, b.top, b.bot, rfl, ha, ok.t1, ok.t2, ok.b1, ok.b2, _, rfl, iteF q⟩
/-! ### a book -/
def bkF (b : Bk) (sh : Addr) : List (Str × V) := [("own_first", .int b.first), ("own_roof", .int b.roof), ("own_share", .ref sh)]
/-- at a the book b -/
def BookAt (K : PySem.W.Frag) (H : Hp) (a : Addr) (b : Bk) : Prop := ∃ dx sh, H a = some (.ins (He.ga K "Book") dx (bkF b sh)) ∧ H sh = some (.tup [.int b.top, .int b.bot])
theorem BookAt.same {H H' : Hp} {a : Addr} {b : Bk} (h : BookAt K H a b) (s : Same H H') : BookAt K H' a b := by
  obtain ⟨dx, sh, h1, h2⟩ := h
  exact ⟨dx, sh, s _ _ h1, s _ _ h2⟩
theorem bk_first (b : Bk) (sh : Addr) : List.lookup ("own_first" : Str) (bkF b sh) = some (V.int b.first) := by simp [bkF, List.lookup]
theorem bk_roof (b : Bk) (sh : Addr) : List.lookup ("own_roof" : Str) (bkF b sh) = some (V.int b.roof) := by
  have h1 : (("own_roof" : Str) == "own_first") = false := by decide +kernel
  simp [bkF, List.lookup, h1]
theorem bk_share (b : Bk) (sh : Addr) : List.lookup ("own_share" : Str) (bkF b sh) = some (V.ref sh) := by
  have h1 : (("own_share" : Str) == "own_first") = false := by decide +kernel
  have h2 : (("own_share" : Str) == "own_roof") = false := by decide +kernel
  simp [bkF, List.lookup, h1, h2]
theorem bk_no (b : Bk) (sh : Addr) {f : Str} (h1 : (f == ("own_first" : Str)) = false := by decide +kernel) (h2 : (f == ("own_roof" : Str)) = false := by decide +kernel) (h3 : (f == ("own_share" : Str)) = false := by decide +kernel) : List.lookup f (bkF b sh) = none := by
  simp [bkF, List.lookup, h1, h2, h3]
theorem bk_put (b : Bk) (sh : Addr) : putF ("own_share" : Str) (V.ref sh) (putF ("own_roof" : Str) (V.int b.roof) (putF ("own_first" : Str) (V.int b.first) [])) = bkF b sh := by
  have h1 : ¬ (("own_first" : Str) = "own_roof") := by decide +kernel
  have h2 : ¬ (("own_first" : Str) = "own_share") := by decide +kernel
  have h3 : ¬ (("own_roof" : Str) = "own_share") := by decide +kernel
  simp only [putF, if_neg h1, if_neg h2, if_neg h3]
  rfl
theorem put_len1 (f : Str) (v : V) : (putF f v []).length < 1000 := Nat.lt_of_le_of_lt (length_putF f v []) (by decide)
theorem put_len2 (f g : Str) (v u : V) : (putF g u (putF f v [])).length < 1000 := by
  have h1 := length_putF f v []
  have h2 := length_putF g u (putF f v [])
  simp only [List.length_nil] at h1
  omega
def spBookInit (K : PySem.W.Frag) : Sp := fun vs H Q _ => ∃ (x sh dx : Addr) (b : Bk), b.Ok ∧ vs = [.ref x, .int b.first, .int b.roof, .ref sh] ∧ H x = some (.ins (He.ga K "Book") dx []) ∧ H sh = some (.tup [.int b.top, .int b.bot]) ∧ Q .non (upd H x (.ins (He.ga K "Book") dx (bkF b sh)))
theorem sc_Book_init : FnScope ["self", "first", "roof", "share"] ["self", "first", "roof", "share"] (defScope (inClass (top 50) 0)) := ⟨rfl, rfl, rfl, by decide +kernel, rfl, by decide +kernel, by decide +kernel⟩
theorem ok_Book_init (T : Tx K mg) : ∃ fd, Fun K "__init__" "Book.__init__" (inClass (top 50) 0) (He.ma K (He.ga K "Book") "__init__") fd ∧ FnOk P w K mg base CX0 4 (He.ma K (He.ga K "Book") "__init__") fd ["self", "first", "roof", "share"] (spBookInit K) := by
  obtain ⟨fd, F⟩ := T.f_Book_init
  refine ⟨fd, F, F.ok sc_Book_init (fun vs H Q E h => ?_) (fun cdv A outer s H vs Q E hr h => ?_)⟩
  · obtain ⟨x, sh, dx, b, _, rfl, _⟩ := h
    rfl
  · obtain ⟨x, sh, dx, b, ok, rfl, hx, hs, q⟩ := h
    refine ⟨_, pss_cons (ps_expr (pe_g (ok_check_parts T) hr (pa_cons (pv 1) (pa_cons (pv 2) (pa_cons (pv 3) (pa_cons pe_str pa_nil))))))
      (pss_cons (ps_fld (pv 0) (pv 1) rfl) (pss_cons (ps_fld (pv 0) (pv 2) rfl) (pss_one (ps_fld (pv 0) (pv 3) rfl)))), ?_⟩
    refine ⟨_, rfl, _, rfl, _, rfl, sh, b, "roof", ok, rfl, hs, ?_⟩
    refine ⟨_, rfl, _, rfl, x, _, dx, _, rfl, hx, T.c_Book, T.n_own_first, by decide, ?_⟩
    refine ⟨_, rfl, _, rfl, x, _, dx, _, rfl, upd_same, T.c_Book, T.n_own_roof, put_len1 _ _, ?_⟩
    refine ⟨_, rfl, _, rfl, x, _, dx, _, rfl, upd_same, T.c_Book, T.n_own_share, put_len2 _ _ _ _, ?_⟩
    rw [upd_upd, upd_upd]
    rw [bk_put]
    exact q
end
end K76

/-! The walk, 2: a book's methods, its making. -/
namespace K76
open PySem PySem.Spec PyProof.Rows L2
/-- a method of the class c keeps the promise -/
structure FnM (P : Program) (w : World) (K : PySem.W.Frag) (mg : Str → Option Value) (base : Heap) (CX : CXT) (k : Nat) (c m : Str) (ps : List Str) (sp : Sp) : Prop where
  cl : Cls K (He.ga K c)
  me : Meth K (He.ga K c) m (He.ma K (He.ga K c) m)
  ex : ∃ fd, Binds K fd ps [] ∧ FnOk P w K mg base CX k (He.ma K (He.ga K c) m) fd ps sp
section
variable {P : Program} {w : World} {K : PySem.W.Frag} {mg : Str → Option Value} {base : Heap} {CX : CXT} {k : Nat} {c m q : Str} {st : Stmt} {fd : FuncData} {ps : List Str} {sp : Sp}
theorem FnM.of (F : Fun K m q st (He.ma K (He.ga K c) m) fd) (cl : Cls K (He.ga K c)) (me : Meth K (He.ga K c) m (He.ma K (He.ga K c) m))
    (hb : ∀ (kV doc pm : Value) (an : Option Addr) (cdv ct : Value) (us : List Value), us.length = ps.length → bindArgs (PySem.W.fnOf m q (defArgs st) (defBody st) (defScope st) .none kV doc pm an cdv ct) ⟨us, []⟩ = pure (ps.zip us))
    (ok : FnOk P w K mg base CX k (He.ma K (He.ga K c) m) fd ps sp) : FnM P w K mg base CX k c m ps sp := ⟨cl, me, fd, F.binds hb, ok⟩
theorem FnM.mono {j : Nat} (F : FnM P w K mg base CX j c m ps sp) (h : j ≤ k) : FnM P w K mg base CX k c m ps sp := ⟨F.cl, F.me, F.ex.imp fun _ z => ⟨z.1, z.2.mono h⟩⟩
end
section
variable {X : Cx} {CX : CXT} {k : Nat} {c m : Str} {ps : List Str} {sp : Sp} {E : XK} {pos apos : Pos} {e o : Expr} {es : List Expr} {ta : TE} {t : TA}
theorem pe_m {pl : Sem Bool} (ho : PE X o ta) (F : FnM X.prog X.w X.K X.mg X.base CX k c m ps sp) (hr : Room k X.A) (ha : PA X (e :: es) t) (hx : Passes CX X E := by exact pass0)
    (hst : starEach (e :: es) X.env = (false, eval e X.env) :: starEach es X.env := by rfl) (hpl : (backTo pos (starEach es X.env)).any (·.1) = false := by rfl)
    (ht : eval (.Call (.Attribute o m apos) (e :: es) [] pos) X.env = (do
      let ov ← eval o X.env
      standAt apos.atName
      let (f, first) ← holding [ov] (getMethod ov m pl)
      callWith pos f first (backTo pos (starEach (e :: es) X.env)) (backToKw pos (keywordEach [] X.env))) := by rfl) :
    PE X (.Call (.Attribute o m apos) (e :: es) [] pos) (tMeth (He.ga X.K c) m sp [] E ta t) := by
  obtain ⟨cl, me, fd, b, ok⟩ := F
  exact pe_meth ho cl me ok hr b .nil hx ha hst hpl ht
/-- the call of an instance -/
theorem pe_o {fe : Expr} {tf : TE} (hf : PE X fe tf) (co : StX.CallO X.K (He.ga X.K c) (He.ma X.K (He.ga X.K c) "__call__")) (F : FnM X.prog X.w X.K X.mg X.base CX k c "__call__" ps sp) (hr : Room k X.A) (ha : PA X (e :: es) t) (hx : Passes CX X E := by exact pass0)
    (ht : eval (.Call fe (e :: es) [] pos) X.env = (do callWith pos (← eval fe X.env) [] (backTo pos (starEach (e :: es) X.env)) (backToKw pos (keywordEach [] X.env))) := by rfl)
    (he : starEach (e :: es) X.env = (false, eval e X.env) :: starEach es X.env := by rfl) (hpl : (backTo pos (starEach es X.env)).any (·.1) = false := by rfl) :
    PE X (.Call fe (e :: es) [] pos) (StX.tCallO X (He.ga X.K c) sp E tf t) := by
  obtain ⟨cl, me, fd, b, ok⟩ := F
  refine StX.pe_callO hf co (fun A outer s H us vs Q E hr e0 r h => ok.run A outer s H ⟨us, []⟩ us vs Q E hr e0 ?_ r h) hr hx ha ht he hpl
  have hl := ok.len _ _ _ _ h
  have KX : X.K.In s.heap := e0.mod.kin.keeps fun b o z => (e0.bs b o z).1
  have := b s us KX (by rw [List.append_nil, ← r.length, hl])
  simpa using this
end
section
variable {P : Program} {w : World} {K : PySem.W.Frag} {mg : Str → Option Value} {base : Heap}
def spGiven (K : PySem.W.Frag) : Sp := fun vs H Q _ => ∃ (a : Addr) (b : Bk) (h : Int), b.Ok ∧ vs = [.ref a, .int h] ∧ BookAt K H a b ∧ Q (.int (b.step h)) H
theorem sc_given : FnScope ["self", "hold", "many"] ["self", "hold"] (defScope (inClass (top 50) 11)) := ⟨rfl, rfl, rfl, by decide +kernel, rfl, by decide +kernel, by decide +kernel⟩
theorem ok_given (T : Tx K mg) : FnM P w K mg base CX0 2 "Book" "given" ["self", "hold"] (spGiven K) := by
  obtain ⟨fd, F⟩ := T.f_Book_given
  refine FnM.of F T.c_Book T.h_Book_given (fun _ _ _ _ _ _ us hl => match us, hl with | [_, _], _ => rfl) (F.ok sc_given (fun vs H Q E h => ?_) (fun cdv A outer s H vs Q E hr h => ?_))
  · obtain ⟨a, b, h, _, rfl, _⟩ := h
    rfl
  · obtain ⟨a, b, h, ok, rfl, B, q⟩ := h
    obtain ⟨dx, sh, ha, hs⟩ := id B
    have nd := sc_given.nd
    refine ⟨_, pss_cons (ps_set (i := 2) nd rfl (.inl rfl) (pe_g (ok_part_of T) hr (pa_cons (pe_fld (pv 0) rfl) (pa_cons (pv 1) pa_nil))))
      (pss_cons (ps_if (pt_cmpR op_lt (pv 2) (pe_fld (pv 0) rfl) (nomark _)) (pss_one (ps_ret (pe_fld (pv 0) rfl))) pss_nil)
      (pss_one (ps_ret (pe_ifExp (pt_cmpR op_lt (pv 2) (pe_fld (pv 0) rfl) (nomark _)) (pv 2) (pe_fld (pv 0) rfl))))), ?_⟩
    refine ⟨_, rfl, a, _, dx, _, _, rfl, ha, T.c_Book, T.n_own_share, bk_share _ _, _, rfl, sh, b, h, ok, rfl, hs, ?_⟩
    refine ⟨_, rfl, _, rfl, a, _, dx, _, _, rfl, ha, T.c_Book, T.n_own_first, bk_first _ _, _, _, rfl, rfl, _, rfl, ?_⟩
    unfold Bk.step at q
    refine ite2 (fun h1 => ?_) (fun h1 => ?_)
    · have h1 := of_decide_eq_true h1
      rw [if_pos h1] at q
      exact ⟨_, rfl, a, _, dx, _, _, rfl, ha, T.c_Book, T.n_own_first, bk_first _ _, q⟩
    · have h1 : ¬ b.part h < b.first := fun z => h1 (decide_eq_true z)
      rw [if_neg h1] at q
      refine ⟨_, rfl, _, rfl, a, _, dx, _, _, rfl, ha, T.c_Book, T.n_own_roof, bk_roof _ _, _, _, rfl, rfl, _, rfl, ?_⟩
      refine ite2 (fun h2 => ?_) (fun h2 => ?_)
      · have h2 := of_decide_eq_true h2
        rw [if_pos h2] at q
        exact ⟨_, rfl, q⟩
      · have h2 : ¬ b.part h < b.roof := fun z => h2 (decide_eq_true z)
        rw [if_neg h2] at q
        exact ⟨_, rfl, a, _, dx, _, _, rfl, ha, T.c_Book, T.n_own_roof, bk_roof _ _, q⟩
def spStep (K : PySem.W.Frag) : Sp := fun vs H Q _ => ∃ (a : Addr) (b : Bk) (h : Int), b.Ok ∧ 0 ≤ h ∧ h ≤ 100000 ∧ vs = [.ref a, .int h] ∧ BookAt K H a b ∧ Q (.int (b.step h)) H
theorem sc_step : FnScope ["self", "hold"] ["self", "hold"] (defScope (inClass (top 50) 10)) := ⟨rfl, rfl, rfl, by decide +kernel, rfl, by decide +kernel, by decide +kernel⟩
theorem ok_step (T : Tx K mg) : FnM P w K mg base CX0 3 "Book" "step" ["self", "hold"] (spStep K) := by
  obtain ⟨fd, F⟩ := T.f_Book_step
  obtain ⟨t1, g1⟩ := T.i_MOST
  refine FnM.of F T.c_Book T.h_Book_step (fun _ _ _ _ _ _ us hl => match us, hl with | [_, _], _ => rfl) (F.ok sc_step (fun vs H Q E h => ?_) (fun cdv A outer s H vs Q E hr h => ?_))
  · obtain ⟨a, b, h, _, _, _, rfl, _⟩ := h
    rfl
  · obtain ⟨a, b, h, ok, h0, h1, rfl, B, q⟩ := h
    obtain ⟨dx, sh, ha, hs⟩ := id B
    refine ⟨_, pss_cons (ps_expr (pe_g (ok_check_integer T) hr (pa_cons (pv 1) (pa_cons pe_int (pa_cons (pe_glob (v := .int (10 ^ 40)) rfl g1 ⟨_, rfl⟩) pa_nil)))))
      (pss_one (ps_ret (pe_m (pv 0) (ok_given T) hr (pa_cons (pv 1) pa_nil)))), ?_⟩
    exact ⟨_, rfl, h, 0, 10 ^ 40, rfl, h0, by omega, _, rfl, a, dx, _, rfl, ha, bk_no _ _, _, rfl, a, b, h, ok, rfl, B, q⟩
def spCallB (K : PySem.W.Frag) : Sp := fun vs H Q _ => ∃ (a : Addr) (b : Bk) (h n : Int), b.Ok ∧ 0 ≤ h ∧ h ≤ 100000 ∧ 1 ≤ n ∧ n ≤ 100000 ∧ vs = [.ref a, .int h, .int n] ∧ BookAt K H a b ∧ Q (.int (if n < b.step h then b.step h else n)) H
theorem sc_callB : FnScope ["self", "hold", "need", "many"] ["self", "hold", "need"] (defScope (inClass (top 50) 12)) := ⟨rfl, rfl, rfl, by decide +kernel, rfl, by decide +kernel, by decide +kernel⟩
theorem ok_callB (T : Tx K mg) : FnM P w K mg base CX0 3 "Book" "__call__" ["self", "hold", "need"] (spCallB K) := by
  obtain ⟨fd, F⟩ := T.f_Book_call
  obtain ⟨t1, g1⟩ := T.i_MOST
  refine FnM.of F T.c_Book T.h_Book_call (fun _ _ _ _ _ _ us hl => match us, hl with | [_, _, _], _ => rfl) (F.ok sc_callB (fun vs H Q E h => ?_) (fun cdv A outer s H vs Q E hr h => ?_))
  · obtain ⟨a, b, h, n, _, _, _, _, _, rfl, _⟩ := h
    rfl
  · obtain ⟨a, b, h, n, ok, h0, h1, n0, n1, rfl, B, q⟩ := h
    obtain ⟨dx, sh, ha, hs⟩ := id B
    have nd := sc_callB.nd
    refine ⟨_, pss_cons (ps_expr (pe_g (ok_check_integer T) hr (pa_cons (pv 1) (pa_cons pe_int (pa_cons (pe_glob (v := .int (10 ^ 40)) rfl g1 ⟨_, rfl⟩) pa_nil)))))
      (pss_cons (ps_expr (pe_g (ok_check_integer T) hr (pa_cons (pv 2) (pa_cons pe_int (pa_cons (pe_glob (v := .int (10 ^ 40)) rfl g1 ⟨_, rfl⟩) pa_nil)))))
      (pss_cons (ps_set (i := 3) nd rfl (.inl rfl) (pe_m (pv 0) (ok_given T) hr (pa_cons (pv 1) pa_nil)))
      (pss_one (ps_ret (pe_ifExp (pt_cmpR op_gt (pv 3) (pv 2) (nomark _)) (pv 3) (pv 2)))))), ?_⟩
    refine ⟨_, rfl, h, 0, 10 ^ 40, rfl, h0, by omega, _, rfl, n, 1, 10 ^ 40, rfl, n0, by omega, _, rfl, a, dx, _, rfl, ha, bk_no _ _, _, rfl, a, b, h, ok, rfl, B, ?_⟩
    refine ⟨_, rfl, _, rfl, _, _, rfl, rfl, _, rfl, ?_⟩
    refine ite2 (fun h2 => ?_) (fun h2 => ?_)
    · rw [if_pos (of_decide_eq_true h2)] at q
      exact ⟨_, rfl, q⟩
    · rw [if_neg (fun z => h2 (decide_eq_true z))] at q
      exact ⟨_, rfl, q⟩
/-- book.first -/
def spFirst (K : PySem.W.Frag) : Sp := fun vs H Q _ => ∃ (a : Addr) (b : Bk), vs = [.ref a] ∧ BookAt K H a b ∧ Q (.int b.first) H
theorem sc_first : FnScope ["self"] ["self"] (defScope (inClass (top 50) 4)) := ⟨rfl, rfl, rfl, by decide +kernel, rfl, by decide +kernel, by decide +kernel⟩
theorem ok_first (T : Tx K mg) : ∃ fd, Binds K fd ["self"] [] ∧ FnOk P w K mg base CX0 1 (getAd K) fd ["self"] (spFirst K) := by
  obtain ⟨fd, F⟩ := T.getter
  refine ⟨fd, F.binds (fun _ _ _ _ _ _ us hl => match us, hl with | [_], _ => rfl), F.ok sc_first (fun vs H Q E h => ?_) (fun cdv A outer s H vs Q E hr h => ?_)⟩
  · obtain ⟨a, b, rfl, _⟩ := h
    rfl
  · obtain ⟨a, b, rfl, ⟨dx, sh, ha, hs⟩, q⟩ := h
    refine ⟨_, pss_one (ps_ret (pe_fld (pv 0) rfl)), ?_⟩
    exact ⟨_, rfl, a, _, dx, _, _, rfl, ha, T.c_Book, T.n_own_first, bk_first _ _, q⟩
/-! ### facts of exB -/
structure ExF (K : PySem.W.Frag) : Prop where
  oex : OexC K (He.ga K "NotClosed")
  num : PySem.W.findIn K (.ref (He.ga K "NotClosed")) "number" = some none
  init : PySem.W.findIn K (.ref (He.ga K "NotClosed")) "__init__" = some (some (.ref (He.ma K (He.ga K "NotClosed") "__init__")))
  tyI : PySem.W.typeIn K (.ref (He.ma K (He.ga K "NotClosed") "__init__")) = some (.type "function")
  xf : XfC K (He.ga K "NotClosed")
  kitN : PySem.W.kitOne K (.ref (He.ga K "NotClosed")) (.ref (He.ga K "NotClosed")) = some true
  clsN : PySem.W.findIn K (.ref (He.ga K "NotClosed")) "__class__" = some (some (.builtin "object.__class__"))
  mroN : PySem.W.mroIn K (He.ga K "NotClosed") (.type "object") = some true
  getC : PySem.W.specialIn K (.builtin "object.__class__") "__get__" = some (some (.builtin "getset_descriptor.__get__"))
  takC : PySem.W.takesIn K (.builtin "object.__class__") = some true
  sfT : PySem.W.selfFirst K (He.ga K "Table") = true
  clsT : PySem.W.findIn K (.ref (He.ga K "Table")) "__class__" = some (some (.builtin "object.__class__"))
  mroT : PySem.W.mroIn K (He.ga K "Table") (.type "object") = some true
  kitT : PySem.W.kitOne K (.ref (He.ga K "Table")) (.ref (He.ga K "Table")) = some true
  callB : PySem.W.fnIn K (He.ma K (He.ga K "Book") "__call__") = true
  prop : PropOf K (He.ga K "Book") "first" (propAd K) (getAd K)
  kpG : PySem.W.keepIn K (.ref (getAd K)) = true
theorem Tx.more (T : Tx K mg) : ExF K := by
  have h := T.ex
  unfold exB eqB eqV' at h
  simp only [Bool.and_eq_true] at h
  obtain ⟨h1, h2, h3, h4, h5, h6, h7, h8, h9, h10, h11, h12, h13, h14, h15, h16, h17, h18, h19, h20, h21, h22, h23, h24, h25⟩ := h
  refine ⟨⟨oexB_ok h1, He.eqO_ok h2, of_decide_eq_true h3, of_decide_eq_true h4, h5⟩, He.eqO_ok h6, He.eqO_ok h7, of_decide_eq_true h8, xfB_ok h9, of_decide_eq_true h10, He.eqO_ok h11, of_decide_eq_true h12, He.eqO_ok h13, of_decide_eq_true h14,
    h15, He.eqO_ok h16, of_decide_eq_true h17, of_decide_eq_true h18, h19, ⟨He.eqO_ok h20, He.eqO_ok h21, of_decide_eq_true h22, ?_⟩, h24⟩
  unfold getAd
  split at h23
  · rename_i g r e
    rw [e]
    exact ⟨r, rfl⟩
  · cases h23
end
section
variable {X : Cx} {e : Expr} {te : TE} {pos : Pos}
/-- e.first of a book -/
theorem pe_first (T : Tx X.K X.mg) (he : PE X e te) (hr : Room 2 X.A) (hab : attributeBase e "first" X.env (eval e X.env) = eval e X.env := by rfl) : PE X (.Attribute e "first" pos) (tProp (He.ga X.K "Book") (spFirst X.K) [] E0 te) := by
  obtain ⟨fd, b, ok⟩ := ok_first (P := X.prog) (w := X.w) (base := X.base) T
  exact pe_prop he T.c_Book T.more.prop ok hr b .nil pass0 hab
theorem callO_book {K : PySem.W.Frag} {mg : Str → Option Value} (T : Tx K mg) : StX.CallO K (He.ga K "Book") (He.ma K (He.ga K "Book") "__call__") := ⟨T.h_Book_call.at_, T.h_Book_call.fn, T.more.callB⟩
end
end K76

/-! The walk, 3: states. -/
namespace K76
open PySem PySem.Spec PyProof.Rows L2
/-! ### data that stand -/
theorem same_upd {H : Hp} {p : Addr} {o : HO} (h : H p = none) : Same H (upd H p o) := fun a u e => by rw [upd_ne (ne_of_none e h)]; exact e
theorem same_tup {K : PySem.W.Frag} {H H' : Hp} {a : Addr} {xs : List V} (e : Same H H') (h : SqT K H a xs) : SqT K H' a xs := by
  rcases h with (h | ⟨o, h⟩) | h
  · exact .inl (.inl (e _ _ h))
  · exact .inl (.inr ⟨o, e _ _ h⟩)
  · exact .inr h
mutual
theorem dp_same {K : PySem.W.Frag} {H H' : Hp} (e : Same H H') : ∀ (d : PyData) (v : V), Dp K H v d → Dp K H' v d
  | _, _, .non => .non
  | _, _, .bl b => .bl b
  | _, _, .int i => .int i
  | _, _, .str x => .str x
  | .list ds, _, .lst h q => .lst (e.seq h) (dps_same e ds _ q)
  | .tuple ds, _, .tup h q =>   .tup (same_tup e h) (dps_same e ds _ q)
theorem dps_same {K : PySem.W.Frag} {H H' : Hp} (e : Same H H') : ∀ (ds : List PyData) (vs : List V), DpAll K H vs ds → DpAll K H' vs ds
  | [], _, .nil => .nil
  | d :: ds, _, .cons h t => .cons (dp_same e d _ h) (dps_same e ds _ t)
end
theorem dps_len {K : PySem.W.Frag} {H : Hp} : ∀ {ds : List PyData} {vs : List V}, DpAll K H vs ds → vs.length = ds.length
  | [], _, .nil => rfl
  | _ :: _, _, .cons _ t => congrArg Nat.succ (dps_len t)
theorem dps_get {K : PySem.W.Frag} {H : Hp} : ∀ {ds : List PyData} {vs : List V} {i : Nat} {v : V}, DpAll K H vs ds → vs[i]? = some v → ∃ d, ds[i]? = some d ∧ Dp K H v d
  | [], _, i, v, .nil, h => by simp at h
  | d :: ds, _, 0, v, .cons h t, e => by
    simp at e
    subst e
    exact ⟨d, rfl, h⟩
  | d :: ds, _, i + 1, v, .cons h t, e => by
    simp at e
    obtain ⟨d', h1, h2⟩ := dps_get t e
    exact ⟨d', by simpa using h1, h2⟩
theorem dps_get' {K : PySem.W.Frag} {H : Hp} : ∀ {ds : List PyData} {vs : List V} {i : Nat} {d : PyData}, DpAll K H vs ds → ds[i]? = some d → ∃ v, vs[i]? = some v ∧ Dp K H v d
  | [], _, i, v, .nil, h => by simp at h
  | d :: ds, _, 0, d', .cons h t, e => by
    simp at e
    subst e
    exact ⟨_, rfl, h⟩
  | d :: ds, _, i + 1, d', .cons h t, e => by
    simp at e
    obtain ⟨d', h1, h2⟩ := dps_get' t e
    exact ⟨d', by simpa using h1, h2⟩
theorem dps_append {K : PySem.W.Frag} {H : Hp} : ∀ {ds es : List PyData} {vs us : List V}, DpAll K H vs ds → DpAll K H us es → DpAll K H (vs ++ us) (ds ++ es)
  | [], _, _, _, .nil, h => h
  | _ :: _, _, _, _, .cons h t, q => .cons h (dps_append t q)
theorem dps_take {K : PySem.W.Frag} {H : Hp} : ∀ {ds : List PyData} {vs : List V} (n : Nat), DpAll K H vs ds → DpAll K H (vs.take n) (ds.take n)
  | _, _, 0, _ => .nil
  | [], _, _ + 1, .nil => .nil
  | _ :: _, _, n + 1, .cons h t => .cons h (dps_take n t)
theorem dps_drop {K : PySem.W.Frag} {H : Hp} : ∀ {ds : List PyData} {vs : List V} (n : Nat), DpAll K H vs ds → DpAll K H (vs.drop n) (ds.drop n)
  | _, _, 0, h => h
  | [], _, _ + 1, .nil => .nil
  | _ :: _, _, n + 1, .cons h t => dps_drop n t
theorem dps_set {K : PySem.W.Frag} {H : Hp} : ∀ {ds : List PyData} {vs : List V} {v : V} {d : PyData} (n : Nat), DpAll K H vs ds → Dp K H v d → DpAll K H (vs.set n v) (ds.set n d)
  | [], _, _, _, _, .nil, _ => .nil
  | _ :: _, _, _, _, 0, .cons h t, q => .cons q t
  | _ :: _, _, _, _, n + 1, .cons h t, q => .cons h (dps_set n t q)
/-- a state's items -/
theorem dp_st {K : PySem.W.Frag} {H : Hp} {v : V} {s : Stt} (h : Dp K H v (stD s)) : ∃ a xs, v = .ref a ∧ SqT K H a xs ∧ DpAll K H xs (s.map pairD) := by
  have h : Dp K H v (.tuple (s.map pairD)) := h
  cases h with
  | tup h1 q => exact ⟨_, _, rfl, h1, q⟩
theorem dp_pair' {K : PySem.W.Frag} {H : Hp} {v : V} {p : Int × Int} (h : Dp K H v (pairD p)) : ∃ a, v = .ref a ∧ SqT K H a [.int p.1, .int p.2] := by
  have h : Dp K H v (.tuple [.int p.1, .int p.2]) := h
  cases h with
  | tup h q =>
    cases q with
    | cons h1 t =>
      cases t with
      | cons h2 t2 =>
        cases t2
        cases h1
        cases h2
        exact ⟨_, rfl, h⟩
theorem wipe2 (σ : L2.St) (a b : Nat) (x y : Option V) : wipe (((wipe σ [a, b]).set a x).set b y) [a, b] = wipe σ [a, b] := by
  show (((((σ.set b none).set a none).set a x).set b y).set b none).set a none = (σ.set b none).set a none
  rw [List.set_set, List.set_set]
  by_cases h : a = b
  · subst h
    simp
  · rw [List.set_comm x none h, List.set_set, List.set_set]
/-- [e for a, b in a state] -/
theorem lc_pairs {K : PySem.W.Frag} {H : Hp} {σ : L2.St} {te0 te : TE} {a b : Nat} {Q : VK} {v : V} {s : Stt} (f : Int × Int → V) (h0 : ∀ R : VK, R v H → te0 σ H R) (hd : Dp K H v (stD s)) (hl : s.length ≤ 1000)
    (he : ∀ (p : Int × Int) (H2 : Hp) (R : VK), R (f p) H2 → te (((wipe σ [a, b]).set a (some (.int p.1))).set b (some (.int p.2))) H2 R) (q : ∀ D, H D = none → Q (.ref D) (upd H D (.lst (s.map f)))) :
    tLc (iTup K te0) (gTup K 2 (gCons (gName a) (gCons (gName b) gNil))) tYes te [a, b] σ H Q := by
  obtain ⟨ad, xs, rfl, hx, hxs⟩ := dp_st hd
  have hlen : xs.length = s.length := by rw [dps_len hxs, List.length_map]
  refine h0 _ ⟨ad, rfl, ⟨xs, hx⟩, fun D hD => ?_⟩
  have sm : ∀ o, Same H (upd H D o) := fun o => same_upd hD
  refine lc_tup (K := K) (a := ad) (xs := xs) (fun i H' => H' = upd H D (.lst ((s.take i).map f))) (by simp) (fun i H' _ e => by rw [e]; exact same_tup (sm _) hx) (fun i x H' hi e => ?_) (fun H' e => ?_)
  · subst e
    obtain ⟨d, hd1, hd2⟩ := dps_get hxs hi
    rw [List.getElem?_map] at hd1
    cases hp : s[i]? with
    | none => rw [hp] at hd1; cases hd1
    | some p =>
      rw [hp] at hd1
      cases hd1
      obtain ⟨c, rfl, hc⟩ := dp_pair' hd2
      refine ⟨c, _, rfl, same_tup (sm _) hc, rfl, _, _, rfl, _, _, rfl, rfl, wipe2 _ _ _ _ _, ?_⟩
      refine he p _ _ ⟨_, upd_same, ?_, ?_⟩
      · rw [List.length_map, List.length_take]
        exact small1000 (by omega)
      · rw [upd_upd]
        have hi2 := (List.getElem?_eq_some_iff.mp hp).1
        have ep := (List.getElem?_eq_some_iff.mp hp).2
        rw [List.take_succ_eq_append_getElem hi2, ep, List.map_append]
        rfl
  · subst e
    rw [hlen, List.take_length]
    exact q D hD
section
variable {P : Program} {w : World} {K : PySem.W.Frag} {mg : Str → Option Value} {base : Heap}
def spSizes (K : PySem.W.Frag) : Sp := fun vs H Q _ => ∃ (v : V) (s : Stt), vs = [v] ∧ Dp K H v (stD s) ∧ s.length ≤ 1000 ∧ ∀ H', Same H H' → Q (.int (sizes s)) H'
theorem sc_sizes_in : FnScope ["state", "size", "hold"] ["state"] (defScope (top 33)) := ⟨rfl, rfl, rfl, by decide +kernel, rfl, by decide +kernel, by decide +kernel⟩
theorem ok_sizes_in (T : Tx K mg) : FnG P w K mg base CX0 1 "sizes_in" ["state"] (spSizes K) := by
  obtain ⟨fd, F⟩ := T.f_sizes_in
  refine FnG.of F T.g_sizes_in (fun _ _ _ _ _ _ us hl => match us, hl with | [_], _ => rfl) (F.ok sc_sizes_in (fun vs H Q E h => ?_) (fun cdv A outer s H vs Q E hr h => ?_))
  · obtain ⟨v, s, rfl, _⟩ := h
    rfl
  · obtain ⟨v, s, rfl, hd, hl, q⟩ := h
    have nd := sc_sizes_in.nd
    refine ⟨_, pss_one (ps_ret (pe_callB (cr_sum rfl) rfl T.m_sum boot_sum' (pa_cons (pe_lc (own := [("size", 1), ("hold", 2)]) (g := gTup K 2 (gCons (gName 1) (gCons (gName 2) gNil))) (tt := tYes) rfl nd (pi_tup (pv 0)) (blkOk_by (N := ["state", "size", "hold"]) (sc := defScope (top 33)) (by decide +kernel))
      (fun _ _ _ _ _ => pg_tup rfl (pgs_cons (pg_name (i := 1) nd rfl (.inl rfl)) (pgs_cons (pg_name (i := 2) nd rfl (.inl rfl)) pgs_nil))) (fun _ _ _ _ _ => pts_nil) (fun _ _ _ _ _ => pv 1)) pa_nil))), ?_⟩
    unfold tRet tCB tCons
    refine lc_pairs (fun p => .int p.1) (fun R z => ⟨_, rfl, z⟩) hd hl (fun p H2 R z => ⟨_, rfl, z⟩) (fun D hD => ?_)
    have e : s.map (fun p => V.int p.1) = (s.map (fun x : Int × Int => x.1)).map V.int := by rw [List.map_map]; rfl
    exact ⟨D, s.map (fun x : Int × Int => x.1), rfl, by rw [← e]; exact SqL.of upd_same, q _ (same_upd hD)⟩
def spIdle (K : PySem.W.Frag) : Sp := fun vs H Q _ => ∃ (v : V) (s : Stt), vs = [v] ∧ Dp K H v (stD s) ∧ s.length ≤ 1000 ∧ ∀ H', Same H H' → Q (.int (idleS s)) H'
theorem sc_idle_in : FnScope ["state", "size", "hold"] ["state"] (defScope (top 34)) := ⟨rfl, rfl, rfl, by decide +kernel, rfl, by decide +kernel, by decide +kernel⟩
theorem ok_idle_in (T : Tx K mg) : FnG P w K mg base CX0 1 "idle_in" ["state"] (spIdle K) := by
  obtain ⟨fd, F⟩ := T.f_idle_in
  refine FnG.of F T.g_idle_in (fun _ _ _ _ _ _ us hl => match us, hl with | [_], _ => rfl) (F.ok sc_idle_in (fun vs H Q E h => ?_) (fun cdv A outer s H vs Q E hr h => ?_))
  · obtain ⟨v, s, rfl, _⟩ := h
    rfl
  · obtain ⟨v, s, rfl, hd, hl, q⟩ := h
    have nd := sc_idle_in.nd
    refine ⟨_, pss_one (ps_ret (pe_callB (cr_sum rfl) rfl T.m_sum boot_sum' (pa_cons (pe_lc (own := [("size", 1), ("hold", 2)]) (g := gTup K 2 (gCons (gName 1) (gCons (gName 2) gNil))) (tt := tYes) rfl nd (pi_tup (pv 0)) (blkOk_by (N := ["state", "size", "hold"]) (sc := defScope (top 34)) (by decide +kernel))
      (fun _ _ _ _ _ => pg_tup rfl (pgs_cons (pg_name (i := 1) nd rfl (.inl rfl)) (pgs_cons (pg_name (i := 2) nd rfl (.inl rfl)) pgs_nil))) (fun _ _ _ _ _ => pts_nil) (fun _ _ _ _ _ => pe_op op_sub (pv 2) (pv 1))) pa_nil))), ?_⟩
    unfold tRet tCB tCons
    refine lc_pairs (fun p => .int (p.2 - p.1)) (fun R z => ⟨_, rfl, z⟩) hd hl (fun p H2 R z => ⟨_, rfl, _, rfl, _, _, rfl, rfl, z⟩) (fun D hD => ?_)
    have e : s.map (fun p => V.int (p.2 - p.1)) = (s.map (fun p : Int × Int => p.2 - p.1)).map V.int := by rw [List.map_map]; rfl
    exact ⟨D, s.map (fun p : Int × Int => p.2 - p.1), rfl, by rw [← e]; exact SqL.of upd_same, q _ (same_upd hD)⟩
end
end K76

/-! The walk, 4: is_state, is_listed, growths. -/
namespace K76
open PySem PySem.Spec PyProof.Rows L2
theorem wipe1 (σ : L2.St) (a : Nat) (x : Option V) : wipe ((wipe σ [a]).set a x) [a] = wipe σ [a] := by
  show ((σ.set a none).set a x).set a none = σ.set a none
  rw [List.set_set, List.set_set]
/-- [e for a in a tuple of data], e leaves the heap -/
theorem lc_data {K : PySem.W.Frag} {H : Hp} {σ : L2.St} {te0 te : TE} {a : Nat} {Q : VK} {ad : Addr} {xs : List V} {ds : List PyData} (f : PyData → V) (h0 : ∀ R : VK, R (.ref ad) H → te0 σ H R) (hx : SqT K H ad xs) (hd : DpAll K H xs ds) (hl : ds.length ≤ 1000)
    (he : ∀ (x : V) (d : PyData) (H2 : Hp) (R : VK), Dp K H2 x d → R (f d) H2 → te ((wipe σ [a]).set a (some x)) H2 R) (q : ∀ D, H D = none → Q (.ref D) (upd H D (.lst (ds.map f)))) :
    tLc (iTup K te0) (gName a) tYes te [a] σ H Q := by
  have hlen : xs.length = ds.length := dps_len hd
  refine h0 _ ⟨ad, rfl, ⟨xs, hx⟩, fun D hD => ?_⟩
  have sm : ∀ o, Same H (upd H D o) := fun o => same_upd hD
  refine lc_tup (K := K) (a := ad) (xs := xs) (fun i H' => H' = upd H D (.lst ((ds.take i).map f))) (by simp) (fun i H' _ e => by rw [e]; exact same_tup (sm _) hx) (fun i x H' hi e => ?_) (fun H' e => ?_)
  · subst e
    obtain ⟨d, hd1, hd2⟩ := dps_get hd hi
    refine ⟨wipe1 _ _ _, ?_⟩
    refine he x d _ _ (dp_same (sm _) _ _ hd2) ⟨_, upd_same, ?_, ?_⟩
    · rw [List.length_map, List.length_take]
      exact small1000 (by omega)
    · rw [upd_upd]
      have hi2 := (List.getElem?_eq_some_iff.mp hd1).1
      have ep := (List.getElem?_eq_some_iff.mp hd1).2
      rw [List.take_succ_eq_append_getElem hi2, ep, List.map_append]
      rfl
  · subst e
    rw [hlen, List.take_length]
    exact q D hD
theorem all_file {ds : List PyData} (h : ds.all fileSt = true) : ds = (ds.map unP).map pairD := by
  rw [List.map_map]
  induction ds with
  | nil => rfl
  | cons a r ih =>
    rw [List.all_cons, Bool.and_eq_true] at h
    rw [List.map_cons, ← ih h.2]
    congr 1
    exact fileSt_eq h.1
section
variable {P : Program} {w : World} {K : PySem.W.Frag} {mg : Str → Option Value} {base : Heap}
def spFileSt (K : PySem.W.Frag) : Sp := fun vs H Q _ => ∃ v d, vs = [v] ∧ Dp K H v d ∧ Q (.bl (fileSt d)) H
theorem sc_is_file_state : FnScope ["thing"] ["thing"] (defScope (top 31)) := ⟨rfl, rfl, rfl, by decide +kernel, rfl, by decide +kernel, by decide +kernel⟩
theorem ok_is_file_state (T : Tx K mg) : FnG P w K mg base CX0 2 "is_file_state" ["thing"] (spFileSt K) := by
  obtain ⟨fd, F⟩ := T.f_is_file_state
  obtain ⟨t1, g1⟩ := T.i_MOST_BLOCKS
  refine FnG.of F T.g_is_file_state (fun _ _ _ _ _ _ us hl => match us, hl with | [_], _ => rfl) (F.ok sc_is_file_state (fun vs H Q E h => ?_) (fun cdv A outer s H vs Q E hr h => ?_))
  · obtain ⟨v, d, rfl, _⟩ := h
    rfl
  · obtain ⟨v, d, rfl, hd, q⟩ := h
    refine ⟨_, pss_cons (ps_if (PW.pt (pw_or (pt_not (pt_val (pe_isT kit_tup T.m_isinstance T.m_tuple boot_tuple' (pv 0)))) (pw_or1 (pt_cmpR op_ne (pe_callB call_len rfl T.m_len boot_len' (pa_cons (pv 0) pa_nil)) pe_int (nomark _)))))
        (pss_one (ps_ret pe_bl)) pss_nil)
      (pss_cons (ps_if (PW.pt (pw_or (pt_not (pt_val (pe_g (ok_is_integer T) hr (pa_cons (pe_ix ix_tup (pv 0) pe_int (fun _ _ => rfl)) (pa_cons pe_int (pa_cons (pe_glob (v := .int 300) rfl g1 ⟨_, rfl⟩) pa_nil))))))
        (pw_or1 (pt_not (pt_val (pe_g (ok_is_integer T) hr (pa_cons (pe_ix ix_tup (pv 0) pe_int (fun _ _ => rfl)) (pa_cons pe_int (pa_cons (pe_glob (v := .int 300) rfl g1 ⟨_, rfl⟩) pa_nil)))))))))
        (pss_one (ps_ret pe_bl)) pss_nil)
      (pss_one (ps_ret (pe_cmpR op_le (pe_ix ix_tup (pv 0) pe_int (fun _ _ => rfl)) (pe_ix ix_tup (pv 0) pe_int (fun _ _ => rfl)) (nomark _))))), ?_⟩
    refine ⟨_, rfl, v, d, rfl, hd, _, rfl, ?_⟩
    by_cases ht : isaTup d = true
    · cases hd with
      | tup hx hds =>
        rename_i a xs ds
        refine iteF ?_
        have hlen := dps_len hds
        refine ⟨_, rfl, _, ds.length, rfl, .inr ⟨_, hx, hlen.symm⟩, rfl, _, rfl, ?_⟩
        by_cases h2 : ds.length = 2
        · obtain ⟨d1, d2, rfl⟩ : ∃ d1 d2, ds = [d1, d2] := by
            match ds, h2 with
            | [d1, d2], _ => exact ⟨d1, d2, rfl⟩
          refine iteF ?_
          cases hds with
          | cons e1 t =>
            cases t with
            | cons e2 t2 =>
              cases t2
              rename_i v1 v2
              refine ⟨_, rfl, a, _, _, _, rfl, rfl, hx, rfl, _, _, 0, 300, rfl, e1, _, rfl, ?_⟩
              have qq : fileSt (.tuple [d1, d2]) = (isI 0 300 d1 && (isI 0 300 d2 && leI d1 d2)) := rfl
              rw [qq] at q
              cases c1 : isI 0 300 d1 with
              | false =>
                rw [c1] at q
                exact iteT (iteT q)
              | true =>
                rw [c1] at q
                refine iteF ⟨_, rfl, a, _, _, _, rfl, rfl, hx, rfl, _, _, 0, 300, rfl, e2, _, rfl, ?_⟩
                cases c2 : isI 0 300 d2 with
                | false =>
                  rw [c2] at q
                  exact iteT q
                | true =>
                  rw [c2] at q
                  cases e1 with
                  | int i =>
                    cases e2 with
                    | int j => exact iteF ⟨_, rfl, a, _, _, _, rfl, rfl, hx, rfl, _, rfl, a, _, _, _, rfl, rfl, hx, rfl, i, j, rfl, rfl, q⟩
                    | _ => cases c2
                  | _ => cases c1
        · have e : fileSt (.tuple ds) = false := by
            match ds, h2 with
            | [], _ => rfl
            | [_], _ => rfl
            | [_, _], h => exact absurd rfl h
            | _ :: _ :: _ :: _, _ => rfl
          rw [e] at q
          have : decide (V.int (ds.length : Int) = V.int 2) = false := decide_eq_false fun z => by
            injection z with z
            omega
          rw [this]
          exact iteT q
      | _ => cases ht
    · have e : isaTup d = false := by simpa using ht
      have e2 : fileSt d = false := by
        cases d <;> first | rfl | (cases e; done)
      rw [e]
      rw [e2] at q
      exact iteT (iteT q)
def spIsState (K : PySem.W.Frag) : Sp := fun vs H Q _ => ∃ (v : V) (d : PyData) (b : Int), vs = [v, .int b] ∧ Dp K H v d ∧ ∀ H', Same H H' → Q (.bl (isSt b d)) H'
theorem sc_is_state : FnScope ["thing", "blocks", "part", "size", "hold"] ["thing", "blocks"] (defScope (top 32)) := ⟨rfl, rfl, rfl, by decide +kernel, rfl, by decide +kernel, by decide +kernel⟩
theorem ok_is_state (T : Tx K mg) : FnG P w K mg base CX0 3 "is_state" ["thing", "blocks"] (spIsState K) := by
  obtain ⟨fd, F⟩ := T.f_is_state
  obtain ⟨t1, g1⟩ := T.i_MOST_FILES
  refine FnG.of F T.g_is_state (fun _ _ _ _ _ _ us hl => match us, hl with | [_, _], _ => rfl) (F.ok sc_is_state (fun vs H Q E h => ?_) (fun cdv A outer s H vs Q E hr h => ?_))
  · obtain ⟨v, d, b, rfl, _⟩ := h
    rfl
  · obtain ⟨v, d, b, rfl, hd, q⟩ := h
    have nd := sc_is_state.nd
    refine ⟨_, pss_cons (ps_if (PW.pt (pw_or (pt_not (pt_val (pe_isT kit_tup T.m_isinstance T.m_tuple boot_tuple' (pv 0)))) (pw_or1 (pt_not (pt_chain op_le op_le pe_int (pe_callB call_len rfl T.m_len boot_len' (pa_cons (pv 0) pa_nil)) (pe_glob (v := .int 8) rfl g1 ⟨_, rfl⟩))))))
        (pss_one (ps_ret pe_bl)) pss_nil)
      (pss_cons (ps_if (pt_not (pt_val (pe_callB (cr_all rfl) rfl T.m_all boot_all' (pa_cons (pe_lc (own := [("part", 2)]) (g := gName 2) (tt := tYes) rfl nd (pi_tup (pv 0)) (blkOk_by (N := ["thing", "blocks", "part", "size", "hold"]) (sc := defScope (top 32)) (by decide +kernel))
          (fun _ _ _ _ _ => pg_name (i := 2) nd rfl (.inl rfl)) (fun _ _ _ _ _ => pts_nil) (fun _ _ _ _ _ => pe_g (ok_is_file_state T) hr (pa_cons (pv 2) pa_nil))) pa_nil))))
        (pss_one (ps_ret pe_bl)) pss_nil)
      (pss_one (ps_ret (pe_cmpR op_le (pe_callB (cr_sum rfl) rfl T.m_sum boot_sum' (pa_cons (pe_lc (own := [("size", 3), ("hold", 4)]) (g := gTup K 2 (gCons (gName 3) (gCons (gName 4) gNil))) (tt := tYes) rfl nd (pi_tup (pv 0)) (blkOk_by (N := ["thing", "blocks", "part", "size", "hold"]) (sc := defScope (top 32)) (by decide +kernel))
          (fun _ _ _ _ _ => pg_tup rfl (pgs_cons (pg_name (i := 3) nd rfl (.inl rfl)) (pgs_cons (pg_name (i := 4) nd rfl (.inl rfl)) pgs_nil))) (fun _ _ _ _ _ => pts_nil) (fun _ _ _ _ _ => pv 4)) pa_nil)) (pv 1) (nomark _))))), ?_⟩
    refine ⟨_, rfl, v, d, rfl, hd, _, rfl, ?_⟩
    by_cases ht : isaTup d = true
    · cases hd with
      | tup hx hds =>
        rename_i a xs ds
        refine iteF ?_
        have hlen := dps_len hds
        have qq : isSt b (.tuple ds) = ((decide (1 ≤ ds.length) && decide (ds.length ≤ 8)) && (ds.all fileSt && decide (holds (ds.map unP) ≤ b))) := rfl
        rw [qq] at q
        refine ⟨_, rfl, _, ds.length, rfl, .inr ⟨_, hx, hlen.symm⟩, 1, ds.length, rfl, rfl, _, rfl, ?_⟩
        by_cases h1 : 1 ≤ ds.length
        · have e1 : decide ((1 : Int) ≤ (ds.length : Int)) = true := decide_eq_true (by omega)
          rw [e1]
          refine iteT ⟨ds.length, 8, rfl, rfl, _, rfl, ?_⟩
          by_cases h8 : ds.length ≤ 8
          · have e8 : decide ((ds.length : Int) ≤ 8) = true := decide_eq_true (by omega)
            rw [e8]
            refine iteF ?_
            rw [decide_eq_true h1, decide_eq_true h8] at q
            -- all of the parts
            dsimp only [tNext, tSeq, tIfS, tNot, tB, tCB, tCons, tRet, tOp]
            refine lc_data (fun d => .bl (fileSt d)) (fun R z => ⟨_, rfl, z⟩) hx hds (by omega) (fun x d H2 R hxd z => ⟨_, rfl, x, d, rfl, hxd, z⟩) (fun D hD => ?_)
            · have sm : Same H (upd H D (.lst (ds.map fun d => V.bl (fileSt d)))) := same_upd hD
              refine ⟨D, ds.map fileSt, rfl, by rw [List.map_map]; exact SqL.of upd_same, _, rfl, ?_⟩
              have ea : (ds.map fileSt).all id = ds.all fileSt := by rw [List.all_map]; rfl
              rw [ea]
              cases ca : ds.all fileSt with
              | false =>
                rw [ca] at q
                exact iteT (q _ sm)
              | true =>
                rw [ca] at q
                refine iteF ?_
                have es := all_file ca
                have hst : Dp K H (.ref a) (stD (ds.map unP)) := by
                  show Dp K H (.ref a) (.tuple ((ds.map unP).map pairD))
                  rw [← es]
                  exact .tup hx hds
                refine lc_pairs (fun p => .int p.2) (fun R z => ⟨_, rfl, z⟩) (dp_same sm _ _ hst) (by rw [List.length_map]; omega) (fun p H2 R z => ⟨_, rfl, z⟩) (fun D2 hD2 => ?_)
                have e : (ds.map unP).map (fun p => V.int p.2) = ((ds.map unP).map (fun x : Int × Int => x.2)).map V.int := by rw [List.map_map (f := fun x : Int × Int => x.2)]; rfl
                exact ⟨D2, (ds.map unP).map (fun x : Int × Int => x.2), rfl, by rw [← e]; exact SqL.of upd_same, _, rfl, _, b, rfl, rfl, q _ (sm.trans (same_upd hD2))⟩
          · have e8 : decide ((ds.length : Int) ≤ 8) = false := decide_eq_false (by omega)
            rw [e8]
            rw [decide_eq_false h8, Bool.and_false, Bool.false_and] at q
            exact iteT (q H (Same.refl H))
        · have e1 : decide ((1 : Int) ≤ (ds.length : Int)) = false := decide_eq_false (by omega)
          rw [e1]
          refine iteF ⟨_, rfl, ?_⟩
          rw [decide_eq_false h1, Bool.false_and, Bool.false_and] at q
          exact iteT (q H (Same.refl H))
      | _ => cases ht
    · have e : isaTup d = false := by simpa using ht
      have e2 : isSt b d = false := by
        cases d <;> first | rfl | (cases e; done)
      rw [e]
      rw [e2] at q
      exact iteT (iteT (q H (Same.refl H)))
end
end K76

/-! The walk, 5: listed, grown_by, grown. -/
namespace K76
open PySem PySem.Spec PyProof.Rows L2
/-- a bound that may be left out -/
def idV : Option Int → V
  | none => .non
  | some i => .int i
/-- a state, or None -/
def OptV (K : PySem.W.Frag) (H : Hp) (v : V) : Option Stt → Prop
  | none => v = .non
  | some s => Dp K H v (stD s)
theorem optv_same {K : PySem.W.Frag} {H H' : Hp} (e : Same H H') {v : V} : ∀ {o : Option Stt}, OptV K H v o → OptV K H' v o
  | none, h => h
  | some _, h => dp_same e _ _ h
section
variable {P : Program} {w : World} {K : PySem.W.Frag} {mg : Str → Option Value} {base : Heap}
def spIsListed (K : PySem.W.Frag) : Sp := fun vs H Q _ => ∃ (v : V) (d : PyData) (b t : Int) (f : Nat) (i : Option Int), vs = [v, .int b, .int f, .int t, idV i] ∧ Dp K H v d ∧ ∀ H', Same H H' → Q (.bl (listed b f t i d)) H'
theorem sc_is_listed : FnScope ["state", "blocks", "files", "total", "idle"] ["state", "blocks", "files", "total", "idle"] (defScope (top 40)) := ⟨rfl, rfl, rfl, by decide +kernel, rfl, by decide +kernel, by decide +kernel⟩
theorem ok_is_listed (T : Tx K mg) : FnG P w K mg base CX0 4 "is_listed" ["state", "blocks", "files", "total", "idle"] (spIsListed K) := by
  obtain ⟨fd, F⟩ := T.f_is_listed
  refine FnG.of F T.g_is_listed (fun _ _ _ _ _ _ us hl => match us, hl with | [_, _, _, _, _], _ => rfl) (F.ok sc_is_listed (fun vs H Q E h => ?_) (fun cdv A outer s H vs Q E hr h => ?_))
  · obtain ⟨v, d, b, t, f, i, rfl, _⟩ := h
    rfl
  · obtain ⟨v, d, b, t, f, i, rfl, hd, q⟩ := h
    have nd := sc_is_listed.nd
    refine ⟨_, pss_cons (ps_if (PW.pt (pw_or (pt_not (pt_val (pe_g (ok_is_state T) hr (pa_cons (pv 0) (pa_cons (pv 1) pa_nil))))) (pw_or (pt_cmpR op_ne (pe_callB call_len rfl T.m_len boot_len' (pa_cons (pv 0) pa_nil)) (pv 2) (nomark _))
        (pw_or1 (pt_cmpR op_gt (pe_g ((ok_sizes_in T).mono (by decide)) hr (pa_cons (pv 0) pa_nil)) (pv 3) (nomark _)))))) (pss_one (ps_ret pe_bl)) pss_nil)
      (pss_one (ps_ret (pe_or (pe_cmpR op_isN (pv 4) pe_non (nomark _)) (pe_one (pe_cmpR op_le (pe_g ((ok_idle_in T).mono (by decide)) hr (pa_cons (pv 0) pa_nil)) (pv 4) (nomark _)))))), ?_⟩
    refine ⟨_, rfl, _, rfl, v, d, b, rfl, hd, fun H1 s1 => ⟨_, rfl, ?_⟩⟩
    have q' : ∀ H', Same H H' → Q (.bl (isSt b d && (decide ((unD d).length = f) && (decide (sizes (unD d) ≤ t) && idleOk i (idleS (unD d)))))) H' := q
    cases c1 : isSt b d with
    | false =>
      rw [c1] at q'
      exact iteT (iteT (q' _ s1))
    | true =>
      rw [c1] at q'
      have e := isSt_eq c1
      have g := isSt_good c1
      rw [e] at hd
      have hd1 := dp_same s1 _ _ hd
      generalize unD d = st at *
      have l8 := g.l8
      obtain ⟨a, xs, rfl, hx, hxs⟩ := dp_st hd1
      have hlen : xs.length = st.length := by rw [dps_len hxs, List.length_map]
      refine iteF ⟨_, rfl, _, st.length, rfl, .inr ⟨_, hx, hlen.symm⟩, _, rfl, rfl, _, rfl, ?_⟩
      by_cases c2 : st.length = f
      · have e2 : decide (V.int (st.length : Int) = V.int (f : Int)) = true := decide_eq_true (by rw [c2])
        rw [e2]
        rw [decide_eq_true c2] at q'
        refine iteF ⟨_, rfl, _, st, rfl, hd1, by omega, fun H2 s2 => ⟨_, rfl, sizes st, t, rfl, rfl, _, rfl, ?_⟩⟩
        by_cases c3 : sizes st ≤ t
        · have e3 : decide (t < sizes st) = false := decide_eq_false (by omega)
          rw [e3]
          rw [decide_eq_true c3] at q'
          refine iteF ⟨_, rfl, rfl, _, rfl, ?_⟩
          cases i with
          | none => exact iteT (q' _ (s1.trans s2))
          | some i =>
            refine iteF ⟨_, rfl, _, st, rfl, dp_same s2 _ _ hd1, by omega, fun H3 s3 => ⟨_, rfl, idleS st, i, rfl, rfl, q' _ ((s1.trans s2).trans s3)⟩⟩
        · have e3 : decide (t < sizes st) = true := decide_eq_true (by omega)
          rw [e3]
          rw [decide_eq_false c3] at q'
          exact iteT (q' _ (s1.trans s2))
      · have e2 : decide (V.int (st.length : Int) = V.int (f : Int)) = false := decide_eq_false fun z => by
          injection z with z
          omega
        rw [e2]
        rw [decide_eq_false c2] at q'
        exact iteT (iteT (q' _ s1))
theorem cut_take (xs : List V) (n : Nat) : cutV xs none (some (n : Int)) = xs.take n := by
  unfold cutV
  rw [HT.sIx_none, HT.sIx_nat, List.drop_zero, Nat.sub_zero]
  by_cases h : n ≤ xs.length
  · rw [Nat.min_eq_left h]
  · rw [Nat.min_eq_right (by omega), List.take_length, List.take_of_length_le (by omega)]
theorem cut_drop (xs : List V) (n : Nat) : cutV xs (some (n : Int)) none = xs.drop n := by
  unfold cutV
  rw [HT.sIx_none, HT.sIx_nat]
  by_cases h : n ≤ xs.length
  · rw [Nat.min_eq_left h, List.take_of_length_le]
    rw [List.length_drop]
    omega
  · rw [Nat.min_eq_right (by omega), List.drop_length, List.take_nil, List.drop_of_length_le (by omega)]
def spGrownBy (K : PySem.W.Frag) : Sp := fun vs H Q _ => ∃ (a : Addr) (bk : Bk) (v : V) (s : Stt) (b m : Int) (n : Nat), vs = [.ref a, .int b, v, .int n, .int m] ∧ bk.Ok ∧ BookAt K H a bk ∧ Dp K H v (stD s) ∧ s.length ≤ 1000 ∧ n < s.length ∧
  (∀ p ∈ s, 0 ≤ p.1 ∧ 0 ≤ p.2 ∧ p.1 ≤ 1000 ∧ p.2 ≤ 1000) ∧ 1 ≤ m ∧ m ≤ 1000 ∧ ∀ H' u, Same H H' → OptV K H' u (grownZ bk b s n m) → Q u H'
theorem sc_grown_by : FnScope ["book", "blocks", "state", "number", "many", "size", "hold", "need", "free", "asked", "one", "held"] ["book", "blocks", "state", "number", "many"] (defScope (top 35)) := ⟨rfl, rfl, rfl, by decide +kernel, rfl, by decide +kernel, by decide +kernel⟩
theorem ok_grown_by (T : Tx K mg) : FnG P w K mg base CX0 4 "grown_by" ["book", "blocks", "state", "number", "many"] (spGrownBy K) := by
  obtain ⟨fd, F⟩ := T.f_grown_by
  refine FnG.of F T.g_grown_by (fun _ _ _ _ _ _ us hl => match us, hl with | [_, _, _, _, _], _ => rfl) (F.ok sc_grown_by (fun vs H Q E h => ?_) (fun cdv A outer s H vs Q E hr h => ?_))
  · obtain ⟨a, bk, v, st, b, m, n, rfl, _⟩ := h
    rfl
  · obtain ⟨a, bk, v, st, b, m, n, rfl, ok, B, hd, hl, hn, hb, m1, m2, q⟩ := h
    have nd := sc_grown_by.nd
    refine ⟨_, pss_cons (ps_asg (pe_ix ix_tup (pv 2) (pv 3) (fun _ _ => rfl)) (pg_tup rfl (pgs_cons (pg_name (i := 5) nd rfl (.inl rfl)) (pgs_cons (pg_name (i := 6) nd rfl (.inl rfl)) pgs_nil))))
      (pss_cons (ps_set (i := 7) nd rfl (.inl rfl) (pe_op op_sub (pe_op op_add (pv 5) (pv 4)) (pv 6)))
      (pss_cons (ps_if (pt_cmpR op_gt (pv 7) pe_int (nomark _))
        (pss_cons (ps_set (i := 8) nd rfl (.inl rfl) (pe_op op_sub (pv 1) (pe_callB (cr_sum rfl) rfl T.m_sum boot_sum' (pa_cons (pe_lc (own := [("one", 10), ("held", 11)]) (g := gTup K 2 (gCons (gName 10) (gCons (gName 11) gNil))) (tt := tYes) rfl nd (pi_tup (pv 2))
          (blkOk_by (N := ["book", "blocks", "state", "number", "many", "size", "hold", "need", "free", "asked", "one", "held"]) (sc := defScope (top 35)) (by decide +kernel))
          (fun _ _ _ _ _ => pg_tup rfl (pgs_cons (pg_name (i := 10) nd rfl (.inl rfl)) (pgs_cons (pg_name (i := 11) nd rfl (.inl rfl)) pgs_nil))) (fun _ _ _ _ _ => pts_nil) (fun _ _ _ _ _ => pv 11)) pa_nil))))
        (pss_cons (ps_if (pt_cmpR op_lt (pv 8) (pv 7) (nomark _)) (pss_one (ps_ret pe_non)) pss_nil)
        (pss_cons (ps_set (i := 9) nd rfl (.inl rfl) (pe_o (pv 0) (callO_book T) (ok_callB T) hr (pa_cons (pv 6) (pa_cons (pv 7) pa_nil))))
        (pss_one (ps_aug (i := 6) nd rfl (.inl rfl) (pe_ifExp (pt_cmpR op_lt (pv 9) (pv 8) (nomark _)) (pv 9) (pv 8)) ip_add))))) pss_nil)
      (pss_one (ps_ret (pe_tup (StX.pa_star (pe_slice sl_tup (pv 2) po_none (po_some (pv 3))) (pa_cons (pe_tup (pa_cons (pe_op op_add (pv 5) (pv 4)) (pa_cons (pv 6) pa_nil))) (StX.pa_star (pe_slice sl_tup (pv 2) (po_some (pe_op op_add (pv 3) pe_int)) po_none) pa_nil)))))))), ?_⟩
    obtain ⟨ad, xs, rfl, hx, hxs⟩ := dp_st hd
    have hlen : xs.length = st.length := by rw [dps_len hxs, List.length_map]
    obtain ⟨p, hp⟩ : ∃ p, st[n]? = some p := ⟨st[n], List.getElem?_eq_getElem hn⟩
    obtain ⟨xv, hxn, hxd⟩ := dps_get' hxs (i := n) (d := pairD p) (by rw [List.getElem?_map, hp]; rfl)
    obtain ⟨c, rfl, hc⟩ := dp_pair' hxd
    obtain ⟨b1, b2, b3, b4⟩ := hb p (List.mem_of_getElem? hp)
    -- the end: the new tuple
    have fin : ∀ (h' : Int) (σ : L2.St) (H1 : Hp) (R : VK), Same H H1 → σ[2]? = some (some (.ref ad)) → σ[3]? = some (some (.int n)) → σ[4]? = some (some (.int m)) → σ[5]? = some (some (.int p.1)) → σ[6]? = some (some (.int h')) →
        (∀ H' u, Same H H' → Dp K H' u (stD (st.set n (p.1 + m, h'))) → R u H') →
        tTup (StX.tStar K (tSl (rSlT K) (tVar 2) tNoPart (tPart (tVar 3))) (tCons (tTup (tCons (tOp (rI0 fun i j => .int (i + j)) (tVar 5) (tVar 4)) (tCons (tVar 6) tNil))) (StX.tStar K (tSl (rSlT K) (tVar 2) (tPart (tOp (rI0 fun i j => .int (i + j)) (tVar 3) (tC (.int 1)))) tNoPart) tNil))) σ H1 R := by
      intro h' σ H1 R s1 e2 e3 e4 e5 e6 r
      have hx1 := same_tup s1 hx
      refine ⟨_, e2, _, e3, n, rfl, ad, xs, rfl, hx1, ?_, fun p1 n1 => ?_⟩
      · rw [HT.sIx_none, HT.sIx_nat]
        omega
      have s2 := s1.trans (same_upd (o := .tup (cutV xs none (some (n : Int)))) n1)
      refine ⟨p1, _, rfl, .inl (SqT.of upd_same), ?_⟩
      refine ⟨_, e5, _, e4, p.1, m, rfl, rfl, _, e6, (by show 2 ≤ sizeLine; decide), fun p2 n2 => ?_⟩
      have s3 := s2.trans (same_upd (o := .tup [.int (p.1 + m), .int h']) n2)
      refine ⟨_, e2, _, e3, n, 1, rfl, rfl, _, rfl, ad, xs, rfl, same_tup s3 hx, ?_, fun p3 n3 => ?_⟩
      · have : ((n : Int) + 1) = ((n + 1 : Nat) : Int) := by omega
        rw [this, HT.sIx_nat]
        omega
      have s4 := s3.trans (same_upd (o := .tup (cutV xs (some ((n : Int) + 1)) none)) n3)
      refine ⟨p3, _, rfl, .inl (SqT.of upd_same), ?_, fun p4 n4 => ?_⟩
      · have z1 := cutV_length xs none (some (n : Int))
        have z2 := cutV_length xs (some ((n : Int) + 1)) none
        have hs : sizeLine = 16777216 := sizeLine_eq
        simp only [List.length_append, List.length_cons, List.length_nil]
        omega
      refine r _ _ (s4.trans (same_upd n4)) ?_
      have e : ((n : Int) + 1) = ((n + 1 : Nat) : Int) := by omega
      have el : cutV xs none (some (n : Int)) ++ V.ref p2 :: (cutV xs (some ((n : Int) + 1)) none ++ []) = xs.take n ++ V.ref p2 :: xs.drop (n + 1) := by
        rw [e, cut_take, cut_drop, List.append_nil]
      have s5 := s4.trans (same_upd (o := .tup (cutV xs none (some (n : Int)) ++ V.ref p2 :: (cutV xs (some ((n : Int) + 1)) none ++ []))) n4)
      have s25 := ((same_upd (o := .tup (cutV xs (some ((n : Int) + 1)) none)) n3).trans (same_upd (o := .tup (cutV xs none (some (n : Int)) ++ V.ref p2 :: (cutV xs (some ((n : Int) + 1)) none ++ []))) n4))
      refine .tup (SqT.of upd_same) ?_
      have hxs5 := dps_same s5 _ _ hxs
      have h2 : Dp K _ (.ref p2) (pairD (p.1 + m, h')) := dp_same s25 _ _ (.tup (SqT.of upd_same) (.cons (.int _) (.cons (.int _) .nil)))
      have all := dps_append (dps_take n hxs5) (.cons h2 (dps_drop (n + 1) hxs5))
      rw [← el] at all
      rw [List.map_set, List.set_eq_take_append_cons_drop, if_pos (by rw [List.length_map]; exact hn)]
      exact all
    refine ⟨_, rfl, _, rfl, ad, xs, n, _, rfl, rfl, hx, atI_nat hxn, c, _, rfl, hc, rfl, _, _, rfl, _, _, rfl, rfl, ?_⟩
    refine ⟨_, rfl, _, rfl, _, _, rfl, rfl, _, rfl, _, _, rfl, rfl, _, rfl, p.1 + m - p.2, 0, rfl, rfl, _, rfl, ?_⟩
    unfold grownZ at q
    rw [hp] at q
    dsimp only at q
    by_cases c1 : 0 < p.1 + m - p.2
    · rw [decide_eq_true c1]
      rw [if_pos c1] at q
      refine iteT ⟨_, rfl, ?_⟩
      dsimp only [tNext, tSeq, tIfS, tNot, tB, tCB, tCons, tRet, tOp]
      refine lc_pairs (fun p => .int p.2) (fun R z => ⟨_, rfl, z⟩) hd hl (fun p H2 R z => ⟨_, rfl, z⟩) (fun D hD => ?_)
      have sD := same_upd (o := .lst (st.map fun p => V.int p.2)) hD
      have e : st.map (fun p => V.int p.2) = (st.map (fun x : Int × Int => x.2)).map V.int := by rw [List.map_map]; rfl
      refine ⟨D, st.map (fun x : Int × Int => x.2), rfl, by rw [← e]; exact SqL.of upd_same, b, holds st, rfl, rfl, ?_⟩
      refine ⟨_, rfl, _, rfl, b - holds st, p.1 + m - p.2, rfl, rfl, _, rfl, ?_⟩
      by_cases c2 : b - holds st < p.1 + m - p.2
      · rw [decide_eq_true c2]
        rw [if_pos c2] at q
        exact iteT (q _ _ sD rfl)
      · rw [decide_eq_false c2]
        rw [if_neg c2] at q
        refine iteF ⟨_, rfl, a, rfl, _, rfl, _, rfl, ?_, a, bk, p.2, p.1 + m - p.2, ok, by omega, by omega, by omega, by omega, rfl, B.same sD, ?_⟩
        · obtain ⟨dx, sh, hB, _⟩ := B.same sD
          exact .inr ⟨dx, _, hB⟩
        · refine ⟨_, rfl, _, rfl, _, rfl, _, _, rfl, rfl, _, rfl, ?_⟩
          generalize ha : (if p.1 + m - p.2 < bk.step p.2 then bk.step p.2 else p.1 + m - p.2) = asked at q ⊢
          by_cases c3 : asked < b - holds st
          · rw [decide_eq_true c3]
            rw [if_pos c3] at q
            refine iteT ⟨_, rfl, p.2, asked, rfl, rfl, ?_⟩
            exact fin (p.2 + asked) _ _ _ sD rfl rfl rfl rfl rfl fun H' u s' d' => q H' u s' d'
          · rw [decide_eq_false c3]
            rw [if_neg c3] at q
            refine iteF ⟨_, rfl, p.2, b - holds st, rfl, rfl, ?_⟩
            exact fin (p.2 + (b - holds st)) _ _ _ sD rfl rfl rfl rfl rfl fun H' u s' d' => q H' u s' d'
    · rw [decide_eq_false c1]
      rw [if_neg c1] at q
      refine iteF ?_
      exact fin p.2 _ _ _ (Same.refl H) rfl rfl rfl rfl rfl fun H' u s' d' => q H' u s' d'
end
end K76

/-! The walk, 6: grown, next_states, each_once. -/
namespace K76
open PySem PySem.Spec PyProof.Rows L2
theorem Good.small {b : Int} {s : Stt} (g : Good b s) : ∀ p ∈ s, 0 ≤ p.1 ∧ 0 ≤ p.2 ∧ p.1 ≤ 1000 ∧ p.2 ≤ 1000 := fun p hp => by
  have := g.each p hp
  omega
/-! ### tuples stand -/
/-- every tuple stands -/
def TupS (K : PySem.W.Frag) (H H' : Hp) : Prop := ∀ a xs, SqT K H a xs → SqT K H' a xs
theorem TupS.refl {K : PySem.W.Frag} (H : Hp) : TupS K H H := fun _ _ h => h
theorem TupS.trans {K : PySem.W.Frag} {H H1 H2 : Hp} (a : TupS K H H1) (b : TupS K H1 H2) : TupS K H H2 := fun c xs h => b c xs (a c xs h)
theorem Same.ts {K : PySem.W.Frag} {H H' : Hp} (s : Same H H') : TupS K H H' := fun _ _ h => same_tup s h
/-- a thing that may be written, no tuple -/
def isMu : HO → Bool
  | .lst _ => true
  | .ext _ => true
  | .dK _ => true
  | _ => false
theorem ts_upd {K : PySem.W.Frag} {H : Hp} {p : Addr} {o o' : HO} (h : H p = some o) (m : isMu o = true) : TupS K H (upd H p o') := by
  intro a xs hx
  have ne : ∀ u, H a = some u → isMu u = false → a ≠ p := fun u e q z => by
    subst z
    rw [h] at e
    cases e
    rw [m] at q
    cases q
  rcases hx with (hx | ⟨o, hx⟩) | hx
  · exact .inl (.inl (by rw [upd_ne (ne _ hx rfl)]; exact hx))
  · exact .inl (.inr ⟨o, by rw [upd_ne (ne _ hx rfl)]; exact hx⟩)
  · exact .inr hx
theorem dp_ts {K : PySem.W.Frag} {H H' : Hp} (t : TupS K H H') {v : V} {s : Stt} (h : Dp K H v (stD s)) : Dp K H' v (stD s) := by
  obtain ⟨a, xs, rfl, hx, hd⟩ := dp_st h
  refine .tup (t _ _ hx) ?_
  clear hx h
  induction s generalizing xs with
  | nil => cases hd; exact .nil
  | cons p r ih =>
    cases hd with
    | cons h1 t1 =>
      obtain ⟨c, rfl, hc⟩ := dp_pair' h1
      exact .cons (.tup (t _ _ hc) (.cons (.int _) (.cons (.int _) .nil))) (ih _ t1)
theorem optv_ts {K : PySem.W.Frag} {H H' : Hp} (t : TupS K H H') {v : V} : ∀ {o : Option Stt}, OptV K H v o → OptV K H' v o
  | none, h => h
  | some _, h => dp_ts t h
abbrev OptVs (K : PySem.W.Frag) (H : Hp) : List V → List (Option Stt) → Prop := Paired (fun v o => OptV K H v o)
theorem optvs_ts {K : PySem.W.Frag} {H H' : Hp} (t : TupS K H H') {vs : List V} {os : List (Option Stt)} (h : OptVs K H vs os) : OptVs K H' vs os := Paired.mapP h fun _ _ z => optv_ts t z
theorem BookAt.upd {K : PySem.W.Frag} {H : Hp} {a p : Addr} {b : Bk} {o o' : HO} (B : BookAt K H a b) (h : H p = some o) (m : isMu o = true) : BookAt K (upd H p o') a b := by
  obtain ⟨dx, sh, h1, h2⟩ := B
  refine ⟨dx, sh, ?_, ?_⟩
  · rw [upd_ne (fun z => by subst z; rw [h] at h1; cases h1; cases m)]
    exact h1
  · rw [upd_ne (fun z => by subst z; rw [h] at h2; cases h2; cases m)]
    exact h2
/-- a list of states -/
abbrev Sts (K : PySem.W.Frag) (H : Hp) : List V → List Stt → Prop := Paired (fun v s => Dp K H v (stD s))
theorem sts_ts {K : PySem.W.Frag} {H H' : Hp} (t : TupS K H H') {vs : List V} {ss : List Stt} (h : Sts K H vs ss) : Sts K H' vs ss := Paired.mapP h fun _ _ z => dp_ts t z
theorem sts_dps {K : PySem.W.Frag} {H : Hp} {vs : List V} {ss : List Stt} (h : Sts K H vs ss) : DpAll K H vs (ss.map stD) := by
  induction h with
  | nil => exact .nil
  | cons h t ih => exact .cons h ih
theorem dps_sts {K : PySem.W.Frag} {H : Hp} {vs : List V} {ss : List Stt} (h : DpAll K H vs (ss.map stD)) : Sts K H vs ss := by
  induction ss generalizing vs with
  | nil => cases h; exact .nil
  | cons s r ih =>
    cases h with
    | cons h1 t => exact .cons h1 (ih t)
/-! ### states as data: their shape -/
theorem pairD_lay (p : Int × Int) : (pairD p).canLay0 = true := by simp [pairD, PyData.canLay0, PyData.canLayAll0]
theorem pairD_depth (p : Int × Int) : (pairD p).depth = 1 := by simp [pairD, PyData.depth, PyData.depthAll]
theorem pairDs_lay : ∀ s : Stt, PyData.canLayAll0 (s.map pairD) = true
  | [] => by simp [PyData.canLayAll0]
  | p :: s => by simp [PyData.canLayAll0, pairD_lay p, pairDs_lay s]
theorem pairDs_depth : ∀ s : Stt, PyData.depthAll (s.map pairD) ≤ 1
  | [] => by simp [PyData.depthAll]
  | p :: s => by
    have h1 := pairDs_depth s
    have h2 := pairD_depth p
    simp only [List.map_cons, PyData.depthAll]
    omega
theorem stD_lay (s : Stt) : (stD s).canLay0 = true := by
  simp only [stD, PyData.canLay0]
  exact pairDs_lay s
theorem stD_depth (s : Stt) : (stD s).depth ≤ 2 := by
  have := pairDs_depth s
  simp only [stD, PyData.depth]
  omega
theorem stDs_lay : ∀ ss : List Stt, PyData.canLayAll0 (ss.map stD) = true
  | [] => by simp [PyData.canLayAll0]
  | s :: ss => by simp [PyData.canLayAll0, stD_lay s, stDs_lay ss]
theorem stDs_depth : ∀ ss : List Stt, PyData.depthAll (ss.map stD) ≤ 2
  | [] => by simp [PyData.depthAll]
  | s :: ss => by
    have h1 := stDs_depth ss
    have h2 := stD_depth s
    simp only [List.map_cons, PyData.depthAll]
    omega
theorem stD_shaped (s : Stt) : SeqAt.shaped (stD s) = true := by
  have h := stD_depth s
  show ((stD s).canLay0 && decide ((stD s).depth ≤ 64)) = true
  rw [Bool.and_eq_true]
  exact ⟨stD_lay s, decide_eq_true (by omega)⟩
theorem stDs_shaped (ss : List Stt) : SeqAt.shaped (.list (ss.map stD)) = true := by
  have h1 := stDs_depth ss
  have h2 : PyData.depth (.list (ss.map stD)) ≤ 64 := by
    simp only [PyData.depth]
    omega
  show (PyData.canLay0 (.list (ss.map stD)) && decide (PyData.depth (.list (ss.map stD)) ≤ 64)) = true
  rw [Bool.and_eq_true]
  exact ⟨by simp only [PyData.canLay0]; exact stDs_lay ss, decide_eq_true h2⟩
theorem st_any (ss : List Stt) (s : Stt) : ((ss.map stD).any fun z => PyData.eqv z (stD s)) = decide (s ∈ ss) := by
  induction ss with
  | nil => simp
  | cons t r ih =>
    rw [List.map_cons, List.any_cons, ih, stD_eqv, Bool.eq_iff_iff, Bool.or_eq_true, decide_eq_true_eq, decide_eq_true_eq, decide_eq_true_eq, List.mem_cons]
    exact ⟨fun z => z.elim (fun z => .inl z.symm) .inr, fun z => z.elim (fun z => .inl z.symm) .inr⟩
section
variable {X : Cx}
/-- a state in a list of states -/
def rInS (K : PySem.W.Frag) : R2 := fun x y H Q => ∃ (s : Stt) (a : Addr) (vs : List V) (ss : List Stt), Dp K H x (stD s) ∧ y = .ref a ∧ SqL K H a vs ∧ Sts K H vs ss ∧ Q (.bl (decide (s ∈ ss))) H
def rNotInS (K : PySem.W.Frag) : R2 := fun x y H Q => ∃ (s : Stt) (a : Addr) (vs : List V) (ss : List Stt), Dp K H x (stD s) ∧ y = .ref a ∧ SqL K H a vs ∧ Sts K H vs ss ∧ Q (.bl (!decide (s ∈ ss))) H
theorem op_inSt (hu : X.A.units + 65 < cLine) : OpR X (compareOp .In) (rInS X.K) :=
  OpR.imp (op_inD hu) fun x y H Q ⟨s, a, vs, ss, hx, e, hl, hs, q⟩ => by
    subst e
    refine ⟨_, _, hx, .lst hl (sts_dps hs), stD_shaped s, stDs_shaped ss, ?_⟩
    rw [st_any]
    exact q
theorem op_notInSt (hu : X.A.units + 65 < cLine) : OpR X (compareOp .NotIn) (rNotInS X.K) :=
  OpR.imp (op_notInD hu) fun x y H Q ⟨s, a, vs, ss, hx, e, hl, hs, q⟩ => by
    subst e
    refine ⟨_, _, hx, .lst hl (sts_dps hs), stD_shaped s, stDs_shaped ss, ?_⟩
    rw [st_any]
    exact q
end
section
variable {P : Program} {w : World} {K : PySem.W.Frag} {mg : Str → Option Value} {base : Heap}
/-! ### grown -/
def spGrown (K : PySem.W.Frag) : Sp := fun vs H Q _ => ∃ (a : Addr) (bk : Bk) (v : V) (s : Stt) (b m : Int) (n : Nat), vs = [.ref a, .int b, v, .int n, .int m] ∧ bk.Ok ∧ BookAt K H a bk ∧ Dp K H v (stD s) ∧ Good b s ∧ 1 ≤ b ∧ b ≤ 300 ∧ n < s.length ∧
  1 ≤ m ∧ m ≤ 300 ∧ ∀ H' u, Same H H' → OptV K H' u (grownZ bk b s n m) → Q u H'
theorem sc_grown : FnScope ["book", "blocks", "state", "number", "many"] ["book", "blocks", "state", "number", "many"] (defScope (top 36)) := ⟨rfl, rfl, rfl, by decide +kernel, rfl, by decide +kernel, by decide +kernel⟩
theorem ok_grown (T : Tx K mg) : FnG P w K mg base CX0 5 "grown" ["book", "blocks", "state", "number", "many"] (spGrown K) := by
  obtain ⟨fd, F⟩ := T.f_grown
  obtain ⟨t1, g1⟩ := T.i_MOST_BLOCKS
  refine FnG.of F T.g_grown (fun _ _ _ _ _ _ us hl => match us, hl with | [_, _, _, _, _], _ => rfl) (F.ok sc_grown (fun vs H Q E h => ?_) (fun cdv A outer s H vs Q E hr h => ?_))
  · obtain ⟨a, bk, v, st, b, m, n, rfl, _⟩ := h
    rfl
  · obtain ⟨a, bk, v, st, b, m, n, rfl, ok, B, hd, g, b1, b2, hn, m1, m2, q⟩ := h
    have nd := sc_grown.nd
    have G1 : FnG P w K mg base CX0 4 "check_integer" ["thing", "least", "most"] spCheckInt := (ok_check_integer T).mono (by decide)
    refine ⟨_, pss_cons (ps_expr (pe_g G1 hr (pa_cons (pv 1) (pa_cons pe_int (pa_cons (pe_glob (v := .int 300) rfl g1 ⟨_, rfl⟩) pa_nil)))))
      (pss_cons (ps_if (pt_not (pt_val (pe_g ((ok_is_state T).mono (by decide)) hr (pa_cons (pv 2) (pa_cons (pv 1) pa_nil))))) pss_never pss_nil)
      (pss_cons (ps_expr (pe_g G1 hr (pa_cons (pv 3) (pa_cons pe_int (pa_cons (pe_op op_sub (pe_callB call_len rfl T.m_len boot_len' (pa_cons (pv 2) pa_nil)) pe_int) pa_nil)))))
      (pss_cons (ps_expr (pe_g G1 hr (pa_cons (pv 4) (pa_cons pe_int (pa_cons (pe_glob (v := .int 300) rfl g1 ⟨_, rfl⟩) pa_nil)))))
      (pss_one (ps_ret (pe_g (ok_grown_by T) hr (pa_cons (pv 0) (pa_cons (pv 1) (pa_cons (pv 2) (pa_cons (pv 3) (pa_cons (pv 4) pa_nil))))))))))), ?_⟩
    refine ⟨_, rfl, b, 1, 300, rfl, b1, b2, _, rfl, _, rfl, v, stD st, b, rfl, hd, fun H1 s1 => ⟨_, rfl, ?_⟩⟩
    rw [(isSt_st b st).mpr g]
    have hd1 := dp_same s1 _ _ hd
    obtain ⟨ad, xs, rfl, hx, hxs⟩ := dp_st hd1
    have hlen : xs.length = st.length := by rw [dps_len hxs, List.length_map]
    have l8 := g.l8
    refine iteF ⟨_, rfl, _, rfl, _, st.length, rfl, .inr ⟨_, hx, hlen.symm⟩, st.length, 1, rfl, rfl, n, 0, st.length - 1, rfl, by omega, by omega, ?_⟩
    refine ⟨_, rfl, m, 1, 300, rfl, m1, m2, _, rfl, _, rfl, _, rfl, _, rfl, _, rfl, a, bk, _, st, b, m, n, rfl, ok, B.same s1, hd1, by omega, hn, g.small, m1, by omega, fun H' u s' d' => q H' u (s1.trans s') d'⟩
/-! ### next_states -/
def spNext (K : PySem.W.Frag) : Sp := fun vs H Q _ => ∃ (a : Addr) (bk : Bk) (v : V) (s : Stt) (b t : Int), vs = [.ref a, .int b, .int t, v] ∧ bk.Ok ∧ BookAt K H a bk ∧ Dp K H v (stD s) ∧ Good b s ∧ b ≤ 300 ∧ 0 ≤ t ∧ t ≤ 300 ∧
  ∀ H' D us, Same H H' → H D = none → H' D = some (.lst us) → us.length ≤ 4000 → OptVs K H' us (succs bk b t s) → Q (.ref D) H'
theorem sc_next_states : FnScope ["book", "blocks", "total", "state", "left", "found", "number", "many"] ["book", "blocks", "total", "state"] (defScope (top 39)) := ⟨rfl, rfl, rfl, by decide +kernel, rfl, by decide +kernel, by decide +kernel⟩
/-- the part that is found ahead of number i, many j -/
def partS (b : Bk) (blocks total : Int) (s : Stt) (i j : Nat) : List (Option Stt) := ((List.range i).flatMap fun n => (List.range (total - sizes s).toNat).map fun (m : Nat) => grownZ b blocks s n ((m : Int) + 1)) ++ (List.range j).map fun (m : Nat) => grownZ b blocks s i ((m : Int) + 1)
theorem partS_zero (b : Bk) (blocks total : Int) (s : Stt) : partS b blocks total s 0 0 = [] := by simp [partS]
theorem partS_next (b : Bk) (blocks total : Int) (s : Stt) (i j : Nat) : partS b blocks total s i (j + 1) = partS b blocks total s i j ++ [grownZ b blocks s i ((j : Int) + 1)] := by
  unfold partS
  rw [List.range_succ, List.map_append, ← List.append_assoc]
  rfl
theorem partS_row (b : Bk) (blocks total : Int) (s : Stt) (i : Nat) : partS b blocks total s i (total - sizes s).toNat = partS b blocks total s (i + 1) 0 := by
  unfold partS
  rw [List.range_succ, List.flatMap_append]
  simp
theorem partS_all (b : Bk) (blocks total : Int) (s : Stt) : partS b blocks total s s.length 0 = succs b blocks total s := by
  unfold partS succs
  simp
theorem partS_len (b : Bk) (blocks total : Int) (s : Stt) (i j : Nat) : (partS b blocks total s i j).length = i * (total - sizes s).toNat + j := by
  unfold partS
  rw [List.length_append, List.length_map, List.length_range]
  congr 1
  induction i with
  | zero => simp
  | succ i ih =>
    rw [List.range_succ, List.flatMap_append, List.length_append, ih, Nat.succ_mul]
    simp
theorem ok_next_states (T : Tx K mg) : FnG P w K mg base CX0 5 "next_states" ["book", "blocks", "total", "state"] (spNext K) := by
  obtain ⟨fd, F⟩ := T.f_next_states
  refine FnG.of F T.g_next_states (fun _ _ _ _ _ _ us hl => match us, hl with | [_, _, _, _], _ => rfl) (F.ok sc_next_states (fun vs H Q E h => ?_) (fun cdv A outer s H vs Q E hr h => ?_))
  · obtain ⟨a, bk, v, st, b, t, rfl, _⟩ := h
    rfl
  · obtain ⟨a, bk, v, st, b, t, rfl, ok, B, hd, g, bb, t0, t2, q⟩ := h
    have nd := sc_next_states.nd
    refine ⟨_, pss_cons (ps_set (i := 4) nd rfl (.inl rfl) (pe_op op_sub (pv 2) (pe_g ((ok_sizes_in T).mono (by decide)) hr (pa_cons (pv 3) pa_nil))))
      (pss_cons (ps_set (i := 5) nd rfl (.inl rfl) (pe_lst pa_nil))
      (pss_cons (ps_for PassesOwn.never rfl (pi_range1 rfl T.m_range (pa_cons (pe_callB call_len rfl T.m_len boot_len' (pa_cons (pv 3) pa_nil)) pa_nil)) (pg_name (i := 6) nd rfl (.inl rfl))
        (pss_one (ps_for PassesOwn.never rfl (pi_range2 rfl T.m_range (pa_cons pe_int (pa_cons (pe_op op_add (pv 4) pe_int) pa_nil))) (pg_name (i := 7) nd rfl (.inl rfl))
          (pss_one (ps_expr (pe_bm PySem.F.plainAttrs_list PySem.F.slot_list_append PySem.F.type_list_append mt_append (pv 5)
            (pa_cons (pe_g (ok_grown_by T) hr (pa_cons (pv 0) (pa_cons (pv 1) (pa_cons (pv 3) (pa_cons (pv 6) (pa_cons (pv 7) pa_nil)))))) pa_nil)))))))
      (pss_one (ps_ret (pv 5))))), ?_⟩
    have l8 := g.l8
    have l1 := g.l1
    have gs := g.sizes
    have gh := g.hold
    refine ⟨_, rfl, _, rfl, v, st, rfl, hd, by omega, fun H1 s1 => ⟨t, sizes st, rfl, rfl, by decide, fun D hD => ?_⟩⟩
    have hd1 := dp_same s1 _ _ hd
    obtain ⟨ad, xs, rfl, hx, hxs⟩ := dp_st hd1
    have hlen : xs.length = st.length := by rw [dps_len hxs, List.length_map]
    have hDH : H D = none := by
      cases e : H D with
      | none => rfl
      | some u => rw [s1 _ _ e] at hD; cases hD
    have s2 := s1.trans (same_upd (o := .lst []) hD)
    refine ⟨_, rfl, _, st.length, rfl, .inr ⟨_, same_tup (same_upd hD) hx, hlen.symm⟩, st.length, rfl, by omega, by omega, ?_⟩
    have hmul : ∀ i j : Nat, i < st.length → j ≤ (t - sizes st).toNat → i * (t - sizes st).toNat + j ≤ 8 * 300 := fun i j hi hj => by
      have h1 : (t - sizes st).toNat ≤ 300 := by omega
      have h2 : i * (t - sizes st).toNat ≤ 7 * 300 := Nat.mul_le_mul (by omega) h1
      omega
    refine for_range (n := (st.length : Int).toNat) (fun i σ H' => ∃ x y us, σ = [some (.ref a), some (.int b), some (.int t), some (.ref ad), some (.int (t - sizes st)), some (.ref D), x, y] ∧ Same H H' ∧ H' D = some (.lst us) ∧ OptVs K H' us (partS bk b t st i 0)) ?_ ?_ ?_
    · exact ⟨_, _, [], rfl, s2, upd_same, by rw [partS_zero]; exact .nil⟩
    · rintro i σ H2 hi ⟨x, y, us, rfl, s3, hus, hp⟩
      refine ⟨_, rfl, t - sizes st, 1, rfl, rfl, 1, t - sizes st + 1, rfl, ⟨by omega, by omega, by omega, by omega⟩, ?_⟩
      refine for_range (lo := 1) (n := (t - sizes st + 1 - 1).toNat) (fun j σ H' => ∃ y us, σ = [some (.ref a), some (.int b), some (.int t), some (.ref ad), some (.int (t - sizes st)), some (.ref D), some (.int i), y] ∧ Same H H' ∧ H' D = some (.lst us) ∧ OptVs K H' us (partS bk b t st i j)) ?_ ?_ ?_
      · exact ⟨y, us, by rw [Int.zero_add]; rfl, s3, hus, hp⟩
      · rintro j σ H3 hj ⟨y, us, rfl, s4, hus, hp⟩
        have hjn : j < (t - sizes st).toNat := by omega
        have hus3 := Paired.length hp
        rw [partS_len] at hus3
        have hm := hmul i j (by omega) (by omega)
        refine ⟨_, rfl, .inl ⟨rfl, _, SqL.of hus⟩, _, rfl, _, rfl, _, rfl, _, rfl, _, rfl, a, bk, _, st, b, 1 + (j : Int), i, rfl, ok, B.same s4, dp_same s4 _ _ hd, by omega, by omega, g.small, by omega, by omega, fun H4 u s5 o5 => ?_⟩
        have hus5 := s5 _ _ hus
        refine ⟨D, us, u, rfl, rfl, hus5, by rw [hus3]; exact Nat.lt_of_le_of_lt hm (by decide), ?_⟩
        have t5 := ts_upd (K := K) (o' := .lst (us ++ [u])) hus5 rfl
        refine ⟨_, us ++ [u], rfl, fun c o e => ?_, upd_same, ?_⟩
        · have e4 := s5 _ _ (s4 _ _ e)
          rw [upd_ne (fun z => by subst z; rw [hDH] at e; cases e)]
          exact e4
        · rw [partS_next]
          have c1 : (j : Int) + 1 = 1 + j := by omega
          rw [c1]
          exact Paired.snoc (optvs_ts ((Same.ts s5).trans t5) hp) (optv_ts t5 o5)
      · rintro σ H3 ⟨y, us, rfl, s4, hus, hp⟩
        have e : (t - sizes st + 1 - 1).toNat = (t - sizes st).toNat := by omega
        rw [e, partS_row] at hp
        exact ⟨_, y, us, rfl, s4, hus, hp⟩
    · rintro σ H2 ⟨x, y, us, rfl, s3, hus, hp⟩
      have e : (st.length : Int).toNat = st.length := by omega
      rw [e] at hp
      have hl := Paired.length hp
      rw [partS_len] at hl
      rw [partS_all] at hp
      refine ⟨_, rfl, q _ _ us s3 hDH hus ?_ hp⟩
      have h1 : (t - sizes st).toNat ≤ 300 := by omega
      have h2 : st.length * (t - sizes st).toNat ≤ 8 * 300 := Nat.mul_le_mul l8 h1
      omega
end
end K76

/-! The walk, 7: tables. -/
namespace K76
open PySem PySem.Spec PyProof.Rows L2
/-! ### own operators -/
section
variable {X : Cx} {CX : CXT} {n : Nat} {C g : Addr} {sp : Sp} {E : XK}
/-- x op y, x and y instances of the class at C -/
def rOwnI (C : Addr) (sp : Sp) (E : XK) : R2 := fun x y H Q => ∃ a b dx fs dy gs, x = .ref a ∧ y = .ref b ∧ H a = some (.ins C dx fs) ∧ H b = some (.ins C dy gs) ∧ sp [x, y] H Q E
theorem op_ownB {op : Operator} (hs : PySem.W.findIn X.K (.ref C) (PySem.dunder op.info.2) = some (some (.ref g))) (hf : PySem.W.isFn X.K (.ref g) = true) (sf : PySem.W.selfFirst X.K C = true) (F : FnR X.prog X.w X.K X.mg X.base CX n g sp)
    (hr : Room n X.A) (hx : Passes CX X E) : OpR X (binaryOp op) (rOwnI C sp E) := by
  intro pins s σ H x y v u Q I rx ry h
  obtain ⟨a, b, dx, fs, dy, gs, rfl, rfl, ha, hb, q⟩ := h
  cases (show v = Value.ref a from rx)
  cases (show u = Value.ref b from ry)
  obtain ⟨mA, J, _⟩ := ins_get I.hok ha
  obtain ⟨mB, J', _⟩ := ins_get I.hok hb
  obtain ⟨od, J, _⟩ := J.look
  obtain ⟨od', J', _⟩ := J'.look
  obtain ⟨m, hF⟩ := I.fr
  refine PySem.W.binop_K hF I.ok.mod.kin J J'.type sf hs hf ?_
  refine wpAny_mono (wpAny_call (run_fnR (us := [.ref a, .ref b]) (vs := [.ref a, .ref b]) F hr hx I (.cons rfl (.cons rfl .nil)) q)) (fun w s' z => ?_) fun _ _ x => x
  obtain ⟨z', H', I', rz, qz⟩ := z
  exact SlX.cmpback rz ⟨z', H', I', rz, qz⟩
theorem op_ownC {op : CmpOp} (hop : ∀ a b, compareOp op a b = richCompare op a b) (hs : PySem.W.findIn X.K (.ref C) (cmpInfo op).2.1 = some (some (.ref g))) (hf : PySem.W.isFn X.K (.ref g) = true) (F : FnR X.prog X.w X.K X.mg X.base CX n g sp)
    (hr : Room n X.A) (hx : Passes CX X E) : OpR X (compareOp op) (rOwnI C sp E) := by
  intro pins s σ H x y v u Q I rx ry h
  obtain ⟨a, b, dx, fs, dy, gs, rfl, rfl, ha, hb, q⟩ := h
  cases (show v = Value.ref a from rx)
  cases (show u = Value.ref b from ry)
  obtain ⟨mA, J, _⟩ := ins_get I.hok ha
  obtain ⟨mB, J', _⟩ := ins_get I.hok hb
  obtain ⟨od, J, _⟩ := J.look
  obtain ⟨od', J', _⟩ := J'.look
  obtain ⟨m, hF⟩ := I.fr
  rw [hop]
  refine PySem.W.cmp_K (op := op) (tb := .ref C) hr.units0 hF I.ok.mod.kin J J'.type (by simp [PySem.W.notFirst]) hs hf ?_
  refine wpAny_mono (wpAny_call (run_fnR (us := [.ref a, .ref b]) (vs := [.ref a, .ref b]) F hr hx I (.cons rfl (.cons rfl .nil)) q)) (fun w s' z => ?_) fun _ _ x => x
  obtain ⟨z', H', I', rz, qz⟩ := z
  exact SlX.cmpback rz ⟨z', H', I', rz, qz⟩
/-- len(x), x an instance of the class at C -/
def rLenOwn (C : Addr) (sp : Sp) (E : XK) : List V → Hp → VK → Prop := fun xs H Q => ∃ a dx fs, xs = [V.ref a] ∧ H a = some (.ins C dx fs) ∧ sp [.ref a] H (fun z H' => ∃ i : Int, z = .int i ∧ 0 ≤ i ∧ i < 2 ^ 63 ∧ Q z H') E
theorem call_lenI (hs : PySem.W.findIn X.K (.ref C) "__len__" = some (some (.ref g))) (hf : PySem.W.isFn X.K (.ref g) = true) (F : FnR X.prog X.w X.K X.mg X.base CX n g sp) (hr : Room (n + 1) X.A) (hx : Passes CX X E) : CallR X (.builtin "len") (rLenOwn C sp E) := by
  intro pins s σ H xs us Q I r h
  obtain ⟨a, dx, fs, rfl, ha, q⟩ := h
  obtain ⟨u, rfl, ru⟩ := r.one
  cases (show u = Value.ref a from ru)
  obtain ⟨mA, J, _⟩ := ins_get I.hok ha
  obtain ⟨od, J, _⟩ := J.look
  obtain ⟨m, hF⟩ := I.fr
  refine PySem.W.len_K hF I.ok.mod.kin J hs hf (wpAny_mono (wpAny_call (SlX.run_at (us := [.ref a]) (ws := [.ref a]) F (Room.in1 hr) I.env0.in1 hx I (.cons rfl .nil) q)) (fun w s' z => ?_) fun _ _ x => x)
  obtain ⟨z', H', I', rz, i, ei, i0, i1, qz⟩ := z
  subst ei
  obtain ⟨t, e⟩ := (show ∃ t, w = Value.int i t from rz)
  cases e
  exact ⟨⟨i0, i1⟩, .int i, H', I'.tok _, ⟨_, rfl⟩, qz⟩
end
/-! ### a table -/
/-- at t the table of the things us -/
def TableAt (K : PySem.W.Frag) (H : Hp) (t : Addr) (us : List V) : Prop := ∃ dx l, H t = some (.ins (He.ga K "Table") dx [("own_states", .ref l)]) ∧ H l = some (.lst us)
theorem TableAt.same {K : PySem.W.Frag} {H H' : Hp} {t : Addr} {us : List V} (h : TableAt K H t us) (s : Same H H') : TableAt K H' t us := by
  obtain ⟨dx, l, h1, h2⟩ := h
  exact ⟨dx, l, s _ _ h1, s _ _ h2⟩
theorem ts_lookup (l : Addr) : List.lookup ("own_states" : Str) [(("own_states" : Str), V.ref l)] = some (V.ref l) := by simp [List.lookup]
theorem ts_no (l : Addr) {f : Str} (h : (f == ("own_states" : Str)) = false := by decide +kernel) : List.lookup f [(("own_states" : Str), V.ref l)] = none := by simp [List.lookup, h]
section
variable {P : Program} {w : World} {K : PySem.W.Frag} {mg : Str → Option Value} {base : Heap}
def spTableInit (K : PySem.W.Frag) : Sp := fun vs H Q _ => ∃ (x dx l : Addr) (us : List V), vs = [.ref x, .ref l] ∧ H x = some (.ins (He.ga K "Table") dx []) ∧ H l = some (.lst us) ∧ ∀ m, H m = none → Q .non (upd (upd H m (.lst us)) x (.ins (He.ga K "Table") dx [("own_states", .ref m)]))
theorem sc_Table_init : FnScope ["self", "states"] ["self", "states"] (defScope (inClass (top 38) 0)) := ⟨rfl, rfl, rfl, by decide +kernel, rfl, by decide +kernel, by decide +kernel⟩
theorem ok_Table_init (T : Tx K mg) : ∃ fd, Binds K fd ["self", "states"] [] ∧ FnOk P w K mg base CX0 1 (He.ma K (He.ga K "Table") "__init__") fd ["self", "states"] (spTableInit K) := by
  obtain ⟨fd, F⟩ := T.f_Table_init
  refine ⟨fd, F.binds (fun _ _ _ _ _ _ us hl => match us, hl with | [_, _], _ => rfl), F.ok sc_Table_init (fun vs H Q E h => ?_) (fun cdv A outer s H vs Q E hr h => ?_)⟩
  · obtain ⟨x, dx, l, us, rfl, _⟩ := h
    rfl
  · obtain ⟨x, dx, l, us, rfl, hx, hl, q⟩ := h
    refine ⟨_, pss_cons (ps_if (pt_not (pt_val (pe_callB call_isi rfl T.m_isinstance boot_isi' (pa_cons (pv 1) (pa_cons (pe_bltn rfl T.m_list boot_list' (show RelV (.ty "list") (.type "list") from rfl)) pa_nil))))) pss_never pss_nil)
      (pss_one (ps_fld (pv 0) (pe_callTy call_list_of rfl T.m_list boot_list' (pa_cons (pv 1) pa_nil)) rfl)), ?_⟩
    refine ⟨_, rfl, .ref l, .ty "list", .type "list", .type "list", true, rfl, .ty "list", .base (.lst hl), kit_ty (by decide +kernel), _, rfl, iteF ?_⟩
    refine ⟨_, rfl, l, us, rfl, .inl (SqL.of hl), fun m hm => ?_⟩
    refine ⟨_, rfl, x, _, dx, [], rfl, ?_, T.c_Table, T.n_own_states, by decide, q m hm⟩
    rw [upd_ne (ne_of_none hx hm)]
    exact hx
end
theorem hu65 {A : Around} {k : Nat} (hr : Room k A) : A.units + 65 < cLine := by have := hr.un; omega
theorem pe_imp {X : Cx} {e : Expr} {t t' : TE} (h : PE X e t) (hi : ∀ σ H Q, t' σ H Q → t σ H Q) : PE X e t' := ⟨fun pins s σ H Q I q => h.run pins s σ H Q I (hi _ _ _ q)⟩
/-- what follows may be weakened -/
theorem pe_clo {X : Cx} {e : Expr} {te : TE} (he : PE X e te) : PE X e (fun σ H Q => ∃ R : VK, te σ H R ∧ ∀ x H1, R x H1 → Q x H1) :=
  ⟨fun pins s σ H Q I ⟨R, h, hi⟩ => thn (he.run pins s σ H R I h) fun v s' ⟨x, H1, I1, r, q⟩ => ⟨x, H1, I1, r, hi _ _ q⟩⟩
section
variable {X : Cx} {e : Expr} {te : TE} {p pos : Pos}
/-- Table(e), e a list that may be written -/
def tTable (K : PySem.W.Frag) (te : TE) : TE := fun σ H Q => te σ H fun x H1 => ∃ l us, x = .ref l ∧ H1 l = some (.lst us) ∧ ∀ H2 t, Same H1 H2 → H1 t = none → TableAt K H2 t us → Q (.ref t) H2
theorem pe_Table (T : Tx X.K X.mg) (hr : Room 2 X.A) (he : PE X e te) (hg : Gl X "Table" := by rfl) (hst : starEach [e] X.env = (false, eval e X.env) :: starEach [] X.env := by rfl) (hpl : (backTo pos (starEach [] X.env)).any (·.1) = false := by rfl) :
    PE X (.Call (.Name "Table" p) [e] [] pos) (tTable X.K te) := by
  obtain ⟨fd, b, ok⟩ := ok_Table_init (P := X.prog) (w := X.w) (base := X.base) T
  refine pe_imp (pe_make T.mk_Table ok hr hg T.g_Table b .nil pass0 (pa_cons (pe_clo he) pa_nil hst) (by decide) hst hpl) fun σ H Q h => ?_
  refine ⟨_, h, fun v H1 ⟨l, us, e1, hl, q⟩ x dx hx hdx ne => ?_⟩
  subst e1
  have n1 : l ≠ x := ne_of_none hl hx
  have n2 : l ≠ dx := ne_of_none hl hdx
  refine ⟨x, dx, l, us, rfl, upd_same, ?_, fun m hm => ⟨rfl, ?_⟩⟩
  · rw [upd_ne n1, upd_ne n2]
    exact hl
  · have hmx : m ≠ x := fun z => by
      subst z
      rw [upd_same] at hm
      cases hm
    have hm1 : upd H1 dx (.own x) m = none := by
      rw [upd_ne hmx] at hm
      exact hm
    have s1 := same_upd (o := .own x) hdx
    have s2 : Same (upd H1 dx (.own x)) (upd (upd H1 dx (.own x)) x (.ins (He.ga X.K "Table") dx [])) := same_upd (by rw [upd_ne (Ne.symm ne)]; exact hx)
    have s3 := s1.trans (s2.trans (same_upd (o := .lst us) hm))
    refine q _ x (fun c o z => ?_) hx ⟨dx, m, upd_same, ?_⟩
    · rw [upd_ne (fun y => by subst y; rw [hx] at z; cases z)]
      exact s3 _ _ z
    · rw [upd_ne hmx]
      exact upd_same
end
/-! ### each_once -/
section
variable {P : Program} {w : World} {K : PySem.W.Frag} {mg : Str → Option Value} {base : Heap}
def spOnce (K : PySem.W.Frag) : Sp := fun vs H Q _ => ∃ (l : Addr) (us : List V) (ss : List Stt), vs = [.ref l] ∧ SqL K H l us ∧ us.length ≤ 10000 ∧ Sts K H us ss ∧
  ∀ H' D ws, Same H H' → H D = none → H' D = some (.lst ws) → Sts K H' ws (eachOnce ss) → Q (.ref D) H'
theorem sc_each_once : FnScope ["entries", "found", "entry"] ["entries"] (defScope (top 37)) := ⟨rfl, rfl, rfl, by decide +kernel, rfl, by decide +kernel, by decide +kernel⟩
theorem sql_same {K : PySem.W.Frag} {H H' : Hp} {a : Addr} {xs : List V} (e : Same H H') (h : SqL K H a xs) : SqL K H' a xs := e.seq h
theorem once_take (ss : List Stt) (i : Nat) (s : Stt) (h : ss[i]? = some s) : eachOnce (ss.take (i + 1)) = onceStep (eachOnce (ss.take i)) s := by
  have hi := (List.getElem?_eq_some_iff.mp h).1
  have ep := (List.getElem?_eq_some_iff.mp h).2
  unfold eachOnce
  rw [List.take_succ_eq_append_getElem hi, ep, List.foldl_append]
  rfl
theorem sts_get {K : PySem.W.Frag} {H : Hp} : ∀ {vs : List V} {ss : List Stt} {i : Nat} {v : V}, Sts K H vs ss → vs[i]? = some v → ∃ s, ss[i]? = some s ∧ Dp K H v (stD s)
  | _, _, i, v, .nil, h => by simp at h
  | _, _, 0, v, .cons h t, e => by
    simp at e
    subst e
    exact ⟨_, rfl, h⟩
  | _, _, i + 1, v, .cons h t, e => by
    simp at e
    obtain ⟨d', h1, h2⟩ := sts_get t e
    exact ⟨d', by simpa using h1, h2⟩
theorem sts_get' {K : PySem.W.Frag} {H : Hp} : ∀ {vs : List V} {ss : List Stt} {i : Nat} {s : Stt}, Sts K H vs ss → ss[i]? = some s → ∃ v, vs[i]? = some v ∧ Dp K H v (stD s)
  | _, _, i, v, .nil, h => by simp at h
  | _, _, 0, v, .cons h t, e => by
    simp at e
    subst e
    exact ⟨_, rfl, h⟩
  | _, _, i + 1, v, .cons h t, e => by
    simp at e
    obtain ⟨d', h1, h2⟩ := sts_get' t e
    exact ⟨d', by simpa using h1, h2⟩
theorem ok_each_once (T : Tx K mg) : FnG P w K mg base CX0 1 "each_once" ["entries"] (spOnce K) := by
  obtain ⟨fd, F⟩ := T.f_each_once
  refine FnG.of F T.g_each_once (fun _ _ _ _ _ _ us hl => match us, hl with | [_], _ => rfl) (F.ok sc_each_once (fun vs H Q E h => ?_) (fun cdv A outer s H vs Q E hr h => ?_))
  · obtain ⟨l, us, ss, rfl, _⟩ := h
    rfl
  · obtain ⟨l, us, ss, rfl, hl, hz, hs, q⟩ := h
    have nd := sc_each_once.nd
    refine ⟨_, pss_cons (ps_set (i := 1) nd rfl (.inl rfl) (pe_lst pa_nil))
      (pss_cons (ps_for PassesOwn.never rfl (pi_list (pv 0)) (pg_name (i := 2) nd rfl (.inl rfl))
        (pss_one (ps_if (pt_cmpR (op_notInSt (hu65 hr)) (pv 2) (pv 1) rfl) (pss_one (ps_expr (pe_bm PySem.F.plainAttrs_list PySem.F.slot_list_append PySem.F.type_list_append mt_append (pv 1) (pa_cons (pv 2) pa_nil)))) pss_nil)))
      (pss_one (ps_ret (pv 1)))), ?_⟩
    refine ⟨by decide, fun D hD => ?_⟩
    have s1 := same_upd (o := .lst []) hD
    have hlen := Paired.length hs
    refine ⟨_, rfl, l, rfl, ⟨us, sql_same s1 hl⟩, ?_⟩
    refine for_list (K := K) (a := l) (xs := us) (fun i σ H' => ∃ x ws, σ = [some (.ref l), some (.ref D), x] ∧ Same H H' ∧ H' D = some (.lst ws) ∧ Sts K H' ws (eachOnce (ss.take i))) ⟨_, [], rfl, s1, upd_same, .nil⟩ ?_ ?_ ?_
    · rintro i σ H' _ ⟨x, ws, rfl, s2, _⟩
      exact sql_same s2 hl
    · rintro i x σ H2 hx ⟨y, ws, rfl, s2, hD2, hw⟩
      obtain ⟨st, h1, h2⟩ := sts_get hs hx
      have hx2 := dp_same s2 _ _ h2
      refine ⟨_, rfl, _, rfl, st, D, ws, _, hx2, rfl, SqL.of hD2, hw, _, rfl, ?_⟩
      have hstep := once_take ss i st h1
      unfold onceStep at hstep
      by_cases c : st ∈ eachOnce (ss.take i)
      · rw [decide_eq_true c]
        rw [if_pos c] at hstep
        refine iteF ⟨_, ws, rfl, s2, hD2, ?_⟩
        rw [hstep]
        exact hw
      · rw [decide_eq_false c]
        rw [if_neg c] at hstep
        have wl := Paired.length hw
        have el := length_eachOnce (ss.take i)
        rw [List.length_take] at el
        have hs : sizeLine = 16777216 := sizeLine_eq
        refine iteT ⟨_, rfl, .inl ⟨rfl, _, SqL.of hD2⟩, _, rfl, D, ws, x, rfl, rfl, hD2, by omega, ?_⟩
        have t2 := ts_upd (K := K) (o' := .lst (ws ++ [x])) hD2 rfl
        refine ⟨_, ws ++ [x], rfl, fun c o e => ?_, upd_same, ?_⟩
        · rw [upd_ne (fun z => by subst z; rw [hD] at e; cases e)]
          exact s2 _ _ e
        · rw [hstep]
          exact Paired.snoc (sts_ts t2 hw) (dp_ts t2 hx2)
    · rintro σ H2 ⟨y, ws, rfl, s2, hD2, hw⟩
      rw [hlen, List.take_length] at hw
      exact ⟨_, rfl, q _ D ws s2 hD hD2 hw⟩
end
end K76

/-! The walk, 8: a table's methods. -/
namespace K76
open PySem PySem.Spec PyProof.Rows L2
/-! ### within a comprehension: the same rules, K named from outside -/
section
variable {X : Cx} {e : Expr} {te : TE} {f : Str} {pos : Pos}
theorem op_inStK (K : PySem.W.Frag) (hu : X.A.units + 65 < cLine) (h : X.K = K := by rfl) : OpR X (compareOp .In) (rInS K) := by subst h; exact op_inSt hu
theorem pe_fldK (K : PySem.W.Frag) (he : PE X e te) (hb : attributeBase e f X.env (eval e X.env) = eval e X.env := by rfl) (h : X.K = K := by rfl) : PE X (.Attribute e f pos) (tFld K te f) := by subst h; exact pe_fld he hb
end
section
variable {P : Program} {w : World} {K : PySem.W.Frag} {mg : Str → Option Value} {base : Heap}
def spLenT (K : PySem.W.Frag) : Sp := fun vs H Q _ => ∃ (a : Addr) (us : List V), vs = [.ref a] ∧ TableAt K H a us ∧ us.length ≤ 100000 ∧ Q (.int us.length) H
theorem sc_Table_len : FnScope ["self"] ["self"] (defScope (inClass (top 38) 3)) := ⟨rfl, rfl, rfl, by decide +kernel, rfl, by decide +kernel, by decide +kernel⟩
theorem ok_Table_len (T : Tx K mg) : FnM P w K mg base CX0 1 "Table" "__len__" ["self"] (spLenT K) := by
  obtain ⟨fd, F⟩ := T.f_Table_len
  refine FnM.of F T.c_Table T.h_Table_len (fun _ _ _ _ _ _ us hl => match us, hl with | [_], _ => rfl) (F.ok sc_Table_len (fun vs H Q E h => ?_) (fun cdv A outer s H vs Q E hr h => ?_))
  · obtain ⟨a, us, rfl, _⟩ := h
    rfl
  · obtain ⟨a, us, rfl, ⟨dx, l, ha, hl⟩, _, q⟩ := h
    refine ⟨_, pss_one (ps_ret (pe_callB call_len rfl T.m_len boot_len' (pa_cons (pe_fld (pv 0) rfl) pa_nil))), ?_⟩
    exact ⟨_, rfl, a, _, dx, _, _, rfl, ha, T.c_Table, T.n_own_states, ts_lookup _, _, us.length, rfl, .inl ⟨us, SqL.of hl, rfl⟩, q⟩
/-- isinstance(other, Table) of a table -/
theorem isT_read (T : Tx K mg) {H : Hp} {b : Addr} {dx : Addr} {fs : List (Str × V)} {Q : VK} (hb : H b = some (.ins (He.ga K "Table") dx fs)) (q : Q (.bl true) H) : rIsi K [.ref b, .ref (He.ga K "Table")] H Q :=
  ⟨.ref b, .ref (He.ga K "Table"), .ref (He.ga K "Table"), .ref (He.ga K "Table"), true, rfl, .own _, .base (.ins hb T.c_Table T.more.clsT T.more.getC T.more.takC T.more.mroT), T.more.kitT, q⟩
def spOrT (K : PySem.W.Frag) : Sp := fun vs H Q _ => ∃ (a b : Addr) (us ws : List V) (ss tt : List Stt), vs = [.ref a, .ref b] ∧ TableAt K H a us ∧ TableAt K H b ws ∧ us.length ≤ 5000 ∧ ws.length ≤ 5000 ∧ Sts K H us ss ∧ Sts K H ws tt ∧
  ∀ H' t xs, Same H H' → TableAt K H' t xs → Sts K H' xs (eachOnce (ss ++ tt)) → Q (.ref t) H'
theorem sc_Table_or : FnScope ["self", "other"] ["self", "other"] (defScope (inClass (top 38) 5)) := ⟨rfl, rfl, rfl, by decide +kernel, rfl, by decide +kernel, by decide +kernel⟩
theorem ok_Table_or (T : Tx K mg) : FnM P w K mg base CX0 3 "Table" "__or__" ["self", "other"] (spOrT K) := by
  obtain ⟨fd, F⟩ := T.f_Table_or
  refine FnM.of F T.c_Table T.h_Table_or (fun _ _ _ _ _ _ us hl => match us, hl with | [_, _], _ => rfl) (F.ok sc_Table_or (fun vs H Q E h => ?_) (fun cdv A outer s H vs Q E hr h => ?_))
  · obtain ⟨a, b, us, ws, ss, tt, rfl, _⟩ := h
    rfl
  · obtain ⟨a, b, us, ws, ss, tt, rfl, ⟨dx, l, ha, hl⟩, ⟨dy, m, hb, hm⟩, z1, z2, hs, ht, q⟩ := h
    refine ⟨_, pss_cons (ps_if (pt_not (pt_val (pe_callB call_isi rfl T.m_isinstance boot_isi' (pa_cons (pv 1) (pa_cons (pe_glob (v := .ref (He.ga K "Table")) rfl T.g_Table rfl) pa_nil))))) pss_never pss_nil)
      (pss_one (ps_ret (pe_Table T hr (pe_g ((ok_each_once T).mono (by decide)) hr (pa_cons (pe_op op_cat (pe_fld (pv 0) rfl) (pe_fld (pv 1) rfl)) pa_nil))))), ?_⟩
    refine ⟨_, rfl, .ref b, .ref (He.ga K "Table"), .ref (He.ga K "Table"), .ref (He.ga K "Table"), true, rfl, .own _, .base (.ins hb T.c_Table T.more.clsT T.more.getC T.more.takC T.more.mroT), T.more.kitT, _, rfl, iteF ?_⟩
    have hs' : sizeLine = 16777216 := sizeLine_eq
    refine ⟨_, rfl, a, _, dx, _, _, rfl, ha, T.c_Table, T.n_own_states, ts_lookup _, _, rfl, b, _, dy, _, _, rfl, hb, T.c_Table, T.n_own_states, ts_lookup _, l, m, us, ws, rfl, rfl, hl, hm, by omega, fun p hp => ?_⟩
    have s1 := same_upd (o := .lst (us ++ ws)) hp
    have all : Sts K (upd H p (.lst (us ++ ws))) (us ++ ws) (ss ++ tt) := dps_sts (by rw [List.map_append]; exact dps_append (dps_same s1 _ _ (sts_dps hs)) (dps_same s1 _ _ (sts_dps ht)))
    refine ⟨p, us ++ ws, ss ++ tt, rfl, SqL.of upd_same, by rw [List.length_append]; omega, all, fun H2 D xs s2 nD hD hx => ⟨D, xs, rfl, hD, fun H3 t s3 nt Ta => q H3 t xs ((s1.trans s2).trans s3) Ta (dps_sts (dps_same s3 _ _ (sts_dps hx)))⟩⟩
def spAndT (K : PySem.W.Frag) : Sp := fun vs H Q _ => ∃ (a b : Addr) (us ws : List V) (ss tt : List Stt), vs = [.ref a, .ref b] ∧ TableAt K H a us ∧ TableAt K H b ws ∧ us.length ≤ 5000 ∧ ws.length ≤ 5000 ∧ Sts K H us ss ∧ Sts K H ws tt ∧
  ∀ H' t xs, Same H H' → TableAt K H' t xs → Sts K H' xs (eachOnce (ss.filter fun s => decide (s ∈ tt))) → Q (.ref t) H'
theorem sc_Table_and : FnScope ["self", "other", "state"] ["self", "other"] (defScope (inClass (top 38) 6)) := ⟨rfl, rfl, rfl, by decide +kernel, rfl, by decide +kernel, by decide +kernel⟩
theorem ok_Table_and (T : Tx K mg) : FnM P w K mg base CX0 3 "Table" "__and__" ["self", "other"] (spAndT K) := by
  obtain ⟨fd, F⟩ := T.f_Table_and
  refine FnM.of F T.c_Table T.h_Table_and (fun _ _ _ _ _ _ us hl => match us, hl with | [_, _], _ => rfl) (F.ok sc_Table_and (fun vs H Q E h => ?_) (fun cdv A outer s H vs Q E hr h => ?_))
  · obtain ⟨a, b, us, ws, ss, tt, rfl, _⟩ := h
    rfl
  · obtain ⟨a, b, us, ws, ss, tt, rfl, Ta, Tb, z1, z2, hs, ht, q⟩ := h
    have nd := sc_Table_and.nd
    refine ⟨_, pss_cons (ps_if (pt_not (pt_val (pe_callB call_isi rfl T.m_isinstance boot_isi' (pa_cons (pv 1) (pa_cons (pe_glob (v := .ref (He.ga K "Table")) rfl T.g_Table rfl) pa_nil))))) pss_never pss_nil)
      (pss_one (ps_ret (pe_Table T hr (pe_g ((ok_each_once T).mono (by decide)) hr (pa_cons (pe_lc (own := [("state", 2)]) (g := gName 2) rfl nd (pi_list (pe_fld (pv 0) rfl))
        (blkOk_by (N := ["self", "other", "state"]) (sc := defScope (inClass (top 38) 6)) (by decide +kernel)) (fun _ _ _ _ _ => pg_name (i := 2) nd rfl (.inl rfl))
        (fun _ _ _ _ _ => pts_one (pt_cmpR (op_inStK K (hu65 hr)) (pv 2) (pe_fldK K (pv 1)) rfl)) (fun _ _ _ _ _ => pv 2)) pa_nil))))), ?_⟩
    obtain ⟨dx, l, ha, hl⟩ := id Ta
    obtain ⟨dy, m, hb, hm⟩ := id Tb
    have hlen := Paired.length hs
    have hs' : sizeLine = 16777216 := sizeLine_eq
    refine ⟨_, rfl, .ref b, .ref (He.ga K "Table"), .ref (He.ga K "Table"), .ref (He.ga K "Table"), true, rfl, .own _, .base (.ins hb T.c_Table T.more.clsT T.more.getC T.more.takC T.more.mroT), T.more.kitT, _, rfl, iteF ?_⟩
    dsimp only [tNext, tSeq, tIfS, tNot, tB, tCB, tCons, tRet, tOp, tTable, tCall]
    refine ⟨_, rfl, a, _, dx, _, _, rfl, ha, T.c_Table, T.n_own_states, ts_lookup _, l, rfl, ⟨us, SqL.of hl⟩, fun D hD => ?_⟩
    have sm : ∀ o, Same H (upd H D o) := fun o => same_upd hD
    refine lc_list (K := K) (a := l) (xs := us) (fun i H' => ∃ xs, H' = upd H D (.lst xs) ∧ Sts K H' xs ((ss.take i).filter fun s => decide (s ∈ tt))) ⟨[], rfl, .nil⟩ ?_ ?_ ?_
    · rintro i H' _ ⟨xs, rfl, _⟩
      exact sql_same (sm _) (SqL.of hl)
    · rintro i x H2 hx ⟨xs, rfl, hp⟩
      obtain ⟨st, h1, h2⟩ := sts_get hs hx
      have hi := (List.getElem?_eq_some_iff.mp h1).1
      have ep := (List.getElem?_eq_some_iff.mp h1).2
      have hx2 := dp_same (sm (.lst xs)) _ _ h2
      have hstep : (ss.take (i + 1)).filter (fun s => decide (s ∈ tt)) = (ss.take i).filter (fun s => decide (s ∈ tt)) ++ (if st ∈ tt then [st] else []) := by
        rw [List.take_succ_eq_append_getElem hi, ep, List.filter_append]
        by_cases c : st ∈ tt <;> simp [c]
      have hxl := Paired.length hp
      have hfl := List.length_filter_le (fun s => decide (s ∈ tt)) (ss.take i)
      rw [List.length_take] at hfl
      refine ⟨rfl, _, rfl, _, rfl, b, _, dy, _, _, rfl, sm _ _ _ hb, T.c_Table, T.n_own_states, ts_lookup _, st, m, ws, tt, hx2, rfl, SqL.of (sm _ _ _ hm), sts_ts (Same.ts (sm _)) ht, _, rfl, ?_⟩
      by_cases c : st ∈ tt
      · rw [decide_eq_true c]
        rw [if_pos c] at hstep
        refine iteT ⟨_, rfl, xs, upd_same, by omega, xs ++ [x], upd_upd, ?_⟩
        have t2 := ts_upd (K := K) (o' := .lst (xs ++ [x])) (upd_same (H := H) (a := D) (o := .lst xs)) rfl
        rw [hstep]
        exact Paired.snoc (sts_ts t2 hp) (dp_ts t2 hx2)
      · rw [decide_eq_false c]
        rw [if_neg c, List.append_nil] at hstep
        refine iteF ⟨xs, rfl, ?_⟩
        rw [hstep]
        exact hp
    · rintro H2 ⟨xs, rfl, hp⟩
      rw [hlen, List.take_length] at hp
      have hxl := Paired.length hp
      have hfl := List.length_filter_le (fun s => decide (s ∈ tt)) ss
      refine ⟨D, xs, _, rfl, SqL.of upd_same, by omega, hp, fun H3 D2 ys s2 nD hD2 hy => ⟨D2, ys, rfl, hD2, fun H4 t s3 nt Ta => q H4 t ys (((sm _).trans s2).trans s3) Ta (dps_sts (dps_same s3 _ _ (sts_dps hy)))⟩⟩
def spLeT (K : PySem.W.Frag) : Sp := fun vs H Q _ => ∃ (a b : Addr) (us ws : List V) (ss tt : List Stt), vs = [.ref a, .ref b] ∧ TableAt K H a us ∧ TableAt K H b ws ∧ us.length ≤ 5000 ∧ ws.length ≤ 5000 ∧ Sts K H us ss ∧ Sts K H ws tt ∧
  ∀ H', Same H H' → Q (.bl (ss.all fun s => decide (s ∈ tt))) H'
theorem sc_Table_le : FnScope ["self", "other", "state"] ["self", "other"] (defScope (inClass (top 38) 7)) := ⟨rfl, rfl, rfl, by decide +kernel, rfl, by decide +kernel, by decide +kernel⟩
theorem ok_Table_le (T : Tx K mg) : FnM P w K mg base CX0 1 "Table" "__le__" ["self", "other"] (spLeT K) := by
  obtain ⟨fd, F⟩ := T.f_Table_le
  refine FnM.of F T.c_Table T.h_Table_le (fun _ _ _ _ _ _ us hl => match us, hl with | [_, _], _ => rfl) (F.ok sc_Table_le (fun vs H Q E h => ?_) (fun cdv A outer s H vs Q E hr h => ?_))
  · obtain ⟨a, b, us, ws, ss, tt, rfl, _⟩ := h
    rfl
  · obtain ⟨a, b, us, ws, ss, tt, rfl, Ta, Tb, z1, z2, hs, ht, q⟩ := h
    have nd := sc_Table_le.nd
    refine ⟨_, pss_cons (ps_if (pt_not (pt_val (pe_callB call_isi rfl T.m_isinstance boot_isi' (pa_cons (pv 1) (pa_cons (pe_glob (v := .ref (He.ga K "Table")) rfl T.g_Table rfl) pa_nil))))) pss_never pss_nil)
      (pss_one (ps_ret (pe_callB (cr_all rfl) rfl T.m_all boot_all' (pa_cons (pe_lc (own := [("state", 2)]) (g := gName 2) (tt := tYes) rfl nd (pi_list (pe_fld (pv 0) rfl))
        (blkOk_by (N := ["self", "other", "state"]) (sc := defScope (inClass (top 38) 7)) (by decide +kernel)) (fun _ _ _ _ _ => pg_name (i := 2) nd rfl (.inl rfl))
        (fun _ _ _ _ _ => pts_nil) (fun _ _ _ _ _ => pe_cmpR (op_inStK K (hu65 hr)) (pv 2) (pe_fldK K (pv 1)) rfl)) pa_nil)))), ?_⟩
    obtain ⟨dx, l, ha, hl⟩ := id Ta
    obtain ⟨dy, m, hb, hm⟩ := id Tb
    have hlen := Paired.length hs
    have hs' : sizeLine = 16777216 := sizeLine_eq
    refine ⟨_, rfl, .ref b, .ref (He.ga K "Table"), .ref (He.ga K "Table"), .ref (He.ga K "Table"), true, rfl, .own _, .base (.ins hb T.c_Table T.more.clsT T.more.getC T.more.takC T.more.mroT), T.more.kitT, _, rfl, iteF ?_⟩
    dsimp only [tNext, tSeq, tIfS, tNot, tB, tCB, tCons, tRet, tOp, tTable, tCall]
    refine ⟨_, rfl, a, _, dx, _, _, rfl, ha, T.c_Table, T.n_own_states, ts_lookup _, l, rfl, ⟨us, SqL.of hl⟩, fun D hD => ?_⟩
    have sm : ∀ o, Same H (upd H D o) := fun o => same_upd hD
    refine lc_list (K := K) (a := l) (xs := us) (fun i H' => H' = upd H D (.lst (((ss.take i).map fun s => decide (s ∈ tt)).map V.bl))) rfl ?_ ?_ ?_
    · rintro i H' _ rfl
      exact sql_same (sm _) (SqL.of hl)
    · rintro i x H2 hx rfl
      obtain ⟨st, h1, h2⟩ := sts_get hs hx
      have hi := (List.getElem?_eq_some_iff.mp h1).1
      have ep := (List.getElem?_eq_some_iff.mp h1).2
      refine ⟨rfl, _, rfl, _, rfl, b, _, dy, _, _, rfl, sm _ _ _ hb, T.c_Table, T.n_own_states, ts_lookup _, st, m, ws, tt, dp_same (sm _) _ _ h2, rfl, SqL.of (sm _ _ _ hm), sts_ts (Same.ts (sm _)) ht, ?_⟩
      refine ⟨_, upd_same, ?_, ?_⟩
      · rw [List.length_map, List.length_map, List.length_take]
        omega
      · rw [upd_upd, List.take_succ_eq_append_getElem hi, ep, List.map_append, List.map_append]
        rfl
    · rintro H2 rfl
      rw [hlen, List.take_length]
      refine ⟨D, ss.map fun s => decide (s ∈ tt), rfl, SqL.of upd_same, ?_⟩
      have e : (ss.map fun s => decide (s ∈ tt)).all id = ss.all fun s => decide (s ∈ tt) := by rw [List.all_map]; rfl
      rw [e]
      exact q _ (sm _)
end
/-! ### as expressions -/
theorem FnM.r {P : Program} {w : World} {K : PySem.W.Frag} {mg : Str → Option Value} {base : Heap} {CX : CXT} {k : Nat} {c m : Str} {ps : List Str} {sp : Sp} (F : FnM P w K mg base CX k c m ps sp) : FnR P w K mg base CX k (He.ma K (He.ga K c) m) sp := by
  obtain ⟨_, _, fd, b, ok⟩ := F
  exact (ok.raw b .nil).imp fun vs H Q E z => by rw [List.append_nil]; exact z
section
variable {X : Cx}
def rOrT (K : PySem.W.Frag) : R2 := rOwnI (He.ga K "Table") (spOrT K) E0
theorem op_orT (T : Tx X.K X.mg) (hr : Room 3 X.A) : OpR X (binaryOp .BitOr) (rOwnI (He.ga X.K "Table") (spOrT X.K) E0) := op_ownB T.h_Table_or.at_ T.h_Table_or.fn T.more.sfT (ok_Table_or T).r hr pass0
theorem op_andT (T : Tx X.K X.mg) (hr : Room 3 X.A) : OpR X (binaryOp .BitAnd) (rOwnI (He.ga X.K "Table") (spAndT X.K) E0) := op_ownB T.h_Table_and.at_ T.h_Table_and.fn T.more.sfT (ok_Table_and T).r hr pass0
theorem op_leT' (T : Tx X.K X.mg) (hr : Room 1 X.A) : OpR X (compareOp .LtE) (rOwnI (He.ga X.K "Table") (spLeT X.K) E0) := op_ownC (fun _ _ => rfl) T.h_Table_le.at_ T.h_Table_le.fn (ok_Table_le T).r hr pass0
theorem call_lenT (T : Tx X.K X.mg) (hr : Room 2 X.A) : CallR X (.builtin "len") (rLenOwn (He.ga X.K "Table") (spLenT X.K) E0) := call_lenI T.h_Table_len.at_ T.h_Table_len.fn (ok_Table_len T).r hr pass0
end
end K76

/-! Dicts whose keys are states, every value True. -/
namespace K76
open PySem PySem.Spec PyProof.Rows L2
/-! ### the key of a state, the entries of such a dict -/
def nk (s : Stt) : List (List Int) := s.map fun p => [p.1, p.2]
theorem nk_inj : ∀ {s t : Stt}, nk s = nk t → s = t
  | [], [], _ => rfl
  | [], _ :: _, e => by simp [nk] at e
  | _ :: _, [], e => by simp [nk] at e
  | (a, b) :: s, (c, d) :: t, e => by
    have e' : ([a, b] : List Int) :: nk s = [c, d] :: nk t := e
    injection e' with e1 e2
    injection e1 with e3 e4
    injection e4 with e4 _
    rw [e3, e4, nk_inj e2]
abbrev NE := List (Stt × Addr)
def rawE (es : NE) : List (List (List Int) × Addr × Value) := es.map fun e => (nk e.1, e.2, Value.bool true)
def putN (es : NE) (s : Stt) (a : Addr) : NE := if s ∈ es.map (·.1) then es else es ++ [(s, a)]
theorem putN_keys (es : NE) (s : Stt) (a : Addr) : (putN es s a).map (·.1) = if s ∈ es.map (·.1) then es.map (·.1) else es.map (·.1) ++ [s] := by
  unfold putN
  split <;> simp
theorem rawE_keys (es : NE) : (rawE es).map (·.1) = (es.map (·.1)).map nk := by
  unfold rawE
  rw [List.map_map, List.map_map]
  rfl
theorem nodup_nk : ∀ {l : List Stt}, l.Nodup → (l.map nk).Nodup
  | [], _ => by simp
  | s :: l, h => by
    rw [List.nodup_cons] at h
    rw [List.map_cons, List.nodup_cons]
    refine ⟨fun z => ?_, nodup_nk h.2⟩
    obtain ⟨t, ht, e⟩ := List.mem_map.mp z
    rw [nk_inj e] at ht
    exact h.1 ht
theorem rawE_nodup {es : NE} (h : (es.map (·.1)).Nodup) : ((rawE es).map (·.1)).Nodup := by
  rw [rawE_keys]
  exact nodup_nk h
theorem rawE_at (es : NE) (s : Stt) : (atKey (rawE es) (nk s)).isSome = decide (s ∈ es.map (·.1)) := by
  unfold atKey
  induction es with
  | nil => rfl
  | cons e r ih =>
    show (((rawE (e :: r)).find? fun x => decide (x.1 = nk s)).map (·.2)).isSome = _
    have c : rawE (e :: r) = (nk e.1, e.2, Value.bool true) :: rawE r := rfl
    rw [c, List.find?_cons, List.map_cons]
    by_cases h : e.1 = s
    · subst h
      simp
    · have h' : ¬ nk e.1 = nk s := fun z => h (nk_inj z)
      simp only [decide_eq_false h']
      rw [ih]
      rw [Bool.eq_iff_iff]
      simp [Ne.symm h]
theorem rawE_stored (es : NE) (s : Stt) (a : Addr) : storedH (rawE es) (nk s) a (.bool true) = rawE (putN es s a) := by
  unfold storedH putN
  rw [rawE_at]
  by_cases h : s ∈ es.map (·.1)
  · rw [decide_eq_true h, if_pos rfl, if_pos h]
    have : ∀ l : NE, (rawE l).map (putAt (nk s) (.bool true)) = rawE l := by
      intro l
      induction l with
      | nil => rfl
      | cons e r ih =>
        have c : rawE (e :: r) = (nk e.1, e.2, Value.bool true) :: rawE r := rfl
        rw [c, List.map_cons, ih]
        congr 1
        unfold putAt
        split <;> rfl
    exact this es
  · rw [decide_eq_false h, if_neg (by decide), if_neg h]
    simp [rawE]
/-- at d such a dict, by its own object -/
def dnP (P : Program) (w : World) (d : Addr) (es : NE) : Heap → Prop := fun h => ∃ o ee ep, h.get? d = some o ∧ o.ExactDict ∧ o.data = .dict ee ep ∧ ee.toList = (rawE es).map (entryOfKey (nestKind P w))
abbrev dnO (P : Program) (w : World) (d : Addr) (es : NE) : HO := .ext (dnP P w d es)
structure DN (P : Program) (w : World) (K : PySem.W.Frag) (H : Hp) (d : Addr) (es : NE) : Prop where
  at_ : H d = some (dnO P w d es)
  nm : (d == sysModules) = false
  nd : (es.map (·.1)).Nodup
  len : es.length ≤ 20000
  key : ∀ e ∈ es, Dp K H (.ref e.2) (stD e.1)
section
variable {P : Program} {w : World} {K : PySem.W.Frag} {H H' : Hp} {d : Addr} {es : NE}
theorem DN.same (D : DN P w K H d es) (s : Same H H') : DN P w K H' d es := ⟨s _ _ D.at_, D.nm, D.nd, D.len, fun e he => dp_same s _ _ (D.key e he)⟩
/-- another thing was written -/
theorem DN.upd (D : DN P w K H d es) {p : Addr} {o o' : HO} (h : H p = some o) (m : isMu o = true) (ne : d ≠ p) : DN P w K (upd H p o') d es :=
  ⟨by rw [upd_ne ne]; exact D.at_, D.nm, D.nd, D.len, fun e he => dp_ts (ts_upd h m) (D.key e he)⟩
theorem DN.put (D : DN P w K H d es) {s : Stt} {a : Addr} (ha : Dp K H (.ref a) (stD s)) (hl : es.length < 20000) : DN P w K (L2.upd H d (dnO P w d (putN es s a))) d (putN es s a) := by
  refine ⟨upd_same, D.nm, ?_, ?_, fun e he => dp_ts (ts_upd D.at_ rfl) ?_⟩
  · unfold putN
    by_cases h : s ∈ es.map (·.1)
    · rw [if_pos h]
      exact D.nd
    · rw [if_neg h, List.map_append]
      exact List.nodup_append.mpr ⟨D.nd, by simp, fun x hx y hy z => by
        have : y = s := by simpa using hy
        exact h (by rw [← this, ← z]; exact hx)⟩
  · unfold putN
    split
    · exact D.len
    · rw [List.length_append]
      simp
      omega
  · unfold putN at he
    split at he
    · exact D.key e he
    · rcases List.mem_append.mp he with he | he
      · exact D.key e he
      · have : e = (s, a) := by simpa using he
        subst this
        exact ha
theorem dn_ok_of {h : Heap} {xs : List (List (List Int) × Addr × Value)} (e : xs = rawE es) (dd : h.DictOfH (nestKind P w) d xs) : ObjOk P w H' h d (dnO P w d es) := by
  subst e
  obtain ⟨o, ee, ep, h1, h2, h3, h4, _, _⟩ := dd
  exact ⟨⟨o, ee, ep, h1, h2, h3, h4⟩, ⟨o, h1⟩, fun ha hb ⟨o', ee', ep', g1, g2, g3, g4⟩ k => ⟨o', ee', ep', k _ g1, g2, g3, g4⟩⟩
end
section
variable {X : Cx} {pins : List (Addr × Obj)} {σ : L2.St} {H : Hp} {s : Shared} {d a : Addr} {es : NE} {st : Stt} {A : Around} {E : Value → Shared → Prop}
theorem pair_tup (I : Inv X pins σ H s) {c : Addr} {i j : Int} (h : SqT X.K H c [.int i, .int j]) : (tupleKind (intKind X.prog X.w)).is s.heap [i, j] c := by
  obtain ⟨its, r, ⟨o, h1, h2, n, h3⟩, _⟩ := I.tuple h
  cases r with
  | cons r1 t =>
    cases t with
    | cons r2 t2 =>
      cases t2
      obtain ⟨t1, e1⟩ := (show ∃ t, _ = Value.int i t from r1)
      obtain ⟨t2, e2⟩ := (show ∃ t, _ = Value.int j t from r2)
      subst e1 e2
      exact ⟨o, _, n, h1, h2, h3, .cons (intKind_is _ _ _ _) (.cons (intKind_is _ _ _ _) .nil)⟩
theorem nest_of (I : Inv X pins σ H s) (h : Dp X.K H (.ref a) (stD st)) : (nestKind X.prog X.w).is s.heap (nk st) a := by
  obtain ⟨a', xs, e, hx, hd⟩ := dp_st h
  cases e
  obtain ⟨its, r, ⟨o, h1, h2, n, h3⟩, zz⟩ := I.tuple hx
  clear zz
  refine ⟨o, _, n, h1, h2, h3, ?_⟩
  show RefsAre (tupleKind (intKind X.prog X.w)) s.heap (nk st) its.toArray.toList
  have e : its.toArray.toList = its := by simp
  rw [e]
  clear h hx h1 h3 e
  induction st generalizing xs its with
  | nil =>
    cases hd
    cases r
    exact .nil
  | cons p q ih =>
    cases hd with
    | cons h1 t1 =>
      cases r with
      | cons r1 t2 =>
        obtain ⟨c, rfl, hc⟩ := dp_pair' h1
        cases r1
        exact .cons (pair_tup I hc) (ih _ t1 _ t2)
theorem dn_of (I : Inv X pins σ H s) (D : DN X.prog X.w X.K H d es) : s.heap.DictOfH (nestKind X.prog X.w) d (rawE es) := by
  obtain ⟨⟨o, ee, ep, h1, h2, h3, h4⟩, _, _⟩ := (show ObjOk X.prog X.w H s.heap d (dnO X.prog X.w d es) from I.hok d _ D.at_)
  refine ⟨o, ee, ep, h1, h2, h3, h4, fun x hx => ?_, rawE_nodup D.nd⟩
  obtain ⟨e, he, rfl⟩ := List.mem_map.mp hx
  exact nest_of I (D.key e he)
theorem rawE_len (es : NE) : (rawE es).length = es.length := by simp [rawE]
theorem dn_small (D : DN X.prog X.w X.K H d es) : (rawE es).length ≤ sizeLine := by
  have := D.len
  rw [rawE_len, sizeLine_eq]
  omega
def rInN (P : Program) (w : World) (K : PySem.W.Frag) : R2 := fun x y H Q => ∃ (s : Stt) (d : Addr) (es : NE), Dp K H x (stD s) ∧ y = .ref d ∧ DN P w K H d es ∧ Q (.bl (decide (s ∈ es.map (·.1)))) H
def rNotInN (P : Program) (w : World) (K : PySem.W.Frag) : R2 := fun x y H Q => ∃ (s : Stt) (d : Addr) (es : NE), Dp K H x (stD s) ∧ y = .ref d ∧ DN P w K H d es ∧ Q (.bl (!decide (s ∈ es.map (·.1)))) H
theorem op_inN (hu : X.A.units + 65 < cLine) : OpR X (compareOp .In) (rInN X.prog X.w X.K) := by
  intro pins s σ H x y v u Q I rx ry h
  obtain ⟨st, d, es, hd, rfl, D, q⟩ := h
  obtain ⟨a, xs, rfl, _, _⟩ := dp_st hd
  cases (show v = Value.ref a from rx)
  cases (show u = Value.ref d from ry)
  refine wpAny_in_heap (knd := nestKind X.prog X.w) (k := nk st) (by show X.A.units + 1 + 1 < cLine; omega) (nest_of I hd) D.nm (dn_of I D) ?_
  rw [rawE_at]
  exact ⟨.bl _, H, I.tok _, rfl, q⟩
theorem op_notInN (hu : X.A.units + 65 < cLine) : OpR X (compareOp .NotIn) (rNotInN X.prog X.w X.K) := by
  intro pins s σ H x y v u Q I rx ry h
  obtain ⟨st, d, es, hd, rfl, D, q⟩ := h
  obtain ⟨a, xs, rfl, _, _⟩ := dp_st hd
  cases (show v = Value.ref a from rx)
  cases (show u = Value.ref d from ry)
  refine wpAny_notIn_heap (knd := nestKind X.prog X.w) (k := nk st) (by show X.A.units + 1 + 1 < cLine; omega) (nest_of I hd) D.nm (dn_of I D) ?_
  rw [rawE_at]
  exact ⟨.bl _, H, I.tok _, rfl, q⟩
theorem op_inNK (K : PySem.W.Frag) (P : Program) (w : World) (hu : X.A.units + 65 < cLine) (h : X.K = K := by rfl) (h2 : X.prog = P := by rfl) (h3 : X.w = w := by rfl) : OpR X (compareOp .In) (rInN P w K) := by subst h h2 h3; exact op_inN hu
theorem dn_write {h' : Heap} {t' : Nat} (I : Inv X pins σ H s) (D : DN X.prog X.w X.K H d es) {a : Addr} (hs : Heap.SameBut d s.heap h') (dd : h'.DictOfH (nestKind X.prog X.w) d (storedH (rawE es) (nk st) a (.bool true))) :
    Inv X pins σ (upd H d (dnO X.prog X.w d (putN es st a))) { s with heap := h', toks := t' } := by
  refine I.write (x := d) (e := d) (by rw [D.at_]; exact True.intro) (.inl rfl) (fun b q hb z => (hs.2 b hb).trans z) (let ⟨q, _, _, hq, _⟩ := dd; ⟨q, hq⟩) ?_
  exact dn_ok_of (rawE_stored es st a) dd
theorem dn_dictSet {Q : Unit → Shared → Prop} {u r : Value} (hu : X.A.units + 65 < cLine) (I : Inv X pins σ H s) (D : DN X.prog X.w X.K H d es) (hk : Dp X.K H (.ref a) (stD st)) (ru : RelV (.ref a) u) (rv : RelV (.bl true) r)
    (h : ∀ s', Inv X pins σ (upd H d (dnO X.prog X.w d (putN es st a))) s' → Q () s') : wpAny (model X.prog X.w) X.A (dictSet d u r) Q E s := by
  cases (show u = Value.ref a from ru)
  cases (show r = Value.bool true from rv)
  exact wpAny_dictSet_heap (hsz := dn_small D) (knd := nestKind X.prog X.w) (k := nk st) (by show X.A.units + 1 < cLine; omega) (nest_of I hk) (dn_of I D) fun h' dd hs => h _ (dn_write I D hs dd)
theorem dn_setItem {Q : Unit → Shared → Prop} {u r : Value} (hu : X.A.units + 65 < cLine) (I : Inv X pins σ H s) (D : DN X.prog X.w X.K H d es) (hk : Dp X.K H (.ref a) (stD st)) (ru : RelV (.ref a) u) (rv : RelV (.bl true) r)
    (h : ∀ s', Inv X pins σ (upd H d (dnO X.prog X.w d (putN es st a))) s' → Q () s') : wpAny (model X.prog X.w) X.A (setItem (.ref d) u r) Q E s := by
  cases (show u = Value.ref a from ru)
  cases (show r = Value.bool true from rv)
  exact wpAny_setItem_heap (hsz := dn_small D) (knd := nestKind X.prog X.w) (k := nk st) (by show X.A.units + 1 + 1 < cLine; omega) (nest_of I hk) (dn_of I D) fun h' dd hs => h _ (dn_write I D hs dd)
end
/-- d[y] = True -/
def sNPut (P : Program) (w : World) (K : PySem.W.Frag) (td ty tv : TE) : TS := fun D σ H => tv σ H fun v H1 => td σ H1 fun x H2 => ty σ H2 fun y H3 => v = .bl true ∧ ∃ (st : Stt) (d a : Addr) (es : NE), x = .ref d ∧ y = .ref a ∧ Dp K H3 (.ref a) (stD st) ∧ DN P w K H3 d es ∧
  D.nx σ (upd H3 d (dnO P w d (putN es st a)))
section
variable {X : Cx} {o i e value : Expr} {pos pos' tpos p : Pos} {td ty tv te : TE}
theorem ps_nput (hu : X.A.units + 65 < cLine) (ho : PE X o td) (hi : PE X i ty) (hv : PE X value tv) (hs : swapsWith value (some (.Subscript o i pos')) pos.line X.env = pure false) :
    PS X (.Assign [.Subscript o i pos'] value pos) (sNPut X.prog X.w X.K td ty tv) := by
  refine ⟨fun pins s σ H D I h => ?_⟩
  refine wpAny_Assign_Subscript (thn (hv.run pins s σ H _ I h) fun r s1 ⟨v, H1, I1, rv, q1⟩ => thn (ho.run pins s1 σ H1 _ I1 q1) fun u s2 ⟨x, H2, I2, rx, q2⟩ => thn (hi.run pins s2 σ H2 _ I2 q2) fun iv s3 ⟨y, H3, I3, ry, ev, st, d, a, es, ex, ey, hk, g, q3⟩ => ?_) hs
  subst ev ex ey
  obtain rfl : u = Value.ref d := rx
  exact dn_setItem hu I3 g hk ry rv fun s4 I4 => ⟨σ, _, I4, q3⟩
end
end K76

/-! Dicts whose keys are states: displays, comprehensions, dict(pairs), list(d), len(d). -/
namespace K76
open PySem PySem.Spec PyProof.Rows L2
theorem dn_empty {P : Program} {w : World} {H : Hp} (h : Heap) (hb : sysModules < h.objs.size) : ObjOk P w H (h.push { cls := .type "dict", data := .dict #[] }) h.objs.size (dnO P w h.objs.size []) :=
  dn_ok_of (xs := []) rfl (Heap.DictOfH.new h)
section
variable {X : Cx}
/-- {k: True for target in iter ..}, keys states: D the new dict -/
def tDcN (P : Program) (w : World) (K : PySem.W.Frag) (wi : TI) (g : TG) (tt : TT) (tk tv : TE) (vs : List Nat) : TE := fun σ H Q => wi σ H fun J H1 => ∀ D, H1 D = none → (D == sysModules) = false → ∃ W : Nat → Nat → Hp → Prop, (∃ m, W 0 m (upd H1 D (dnO P w D []))) ∧ ∀ i m H, W i m H →
  (J.stop i H ∧ Q (.ref D) H) ∨ (J.go i H ∧ ∃ Nx : Hp → Prop, (∀ H', Nx H' → ∃ m', m' < m ∧ W (i + 1) m' H') ∧ ∀ x H', J.yld i H x H' → g x (wipe σ vs) H' fun σ2 H2 => wipe σ2 vs = wipe σ vs ∧ tt σ2 H2 fun b H3 =>
    if b = true then tk σ2 H3 fun y H4 => tv σ2 H4 fun z H5 => z = .bl true ∧ ∃ (st : Stt) (es : NE) (a : Addr), y = .ref a ∧ Dp K H5 (.ref a) (stD st) ∧ DN P w K H5 D es ∧ Nx (upd H5 D (dnO P w D (putN es st a))) else Nx H3)
theorem dcN_core {pins : List (Addr × Obj)} {s : Shared} {σ : L2.St} {H : Hp} {Q : VK} {kx vx tg iter : Expr} {ifs : List Expr} {scope : Scope} {own : List (Str × Nat)} {pos pos' : Pos} {wi : TI} {g : TG} {tt : TT} {tk tv : TE} {use : Option (Value → Sem Unit)} {Qf : Value → Shared → Prop}
    (hu : X.A.units + 65 < cLine) (hc : X.calm = true) (hN : X.N.Nodup) (I : Inv X pins σ H s) (hi : PI X tg iter wi) (ok : BlkOk X.N X.env.scope scope own)
    (hg : ∀ (s : Shared) (H : Hp) (C : Addr) (cl : List (Str × Addr)) (fp : List Addr), PG (X.blk s H scope (compEnvC scope cl C X.env) fp) tg g) (ht : ∀ (s : Shared) (H : Hp) (C : Addr) (cl : List (Str × Addr)) (fp : List Addr), PTs (X.blk s H scope (compEnvC scope cl C X.env) fp) ifs tt)
    (hk : ∀ (s : Shared) (H : Hp) (C : Addr) (cl : List (Str × Addr)) (fp : List Addr), PE (X.blk s H scope (compEnvC scope cl C X.env) fp) kx tk)
    (he : ∀ (s : Shared) (H : Hp) (C : Addr) (cl : List (Str × Addr)) (fp : List Addr), PE (X.blk s H scope (compEnvC scope cl C X.env) fp) vx tv) (hs : ∀ x, foldedSetIterable iter X.env x = pure x)
    (h : tDcN X.prog X.w X.K wi g tt tk tv (own.map (·.2)) σ H Q)
    (hRR : ∀ D C s' m H', Inv X pins σ H' s' → Q (.ref D) H' → s'.heap.Ns C m → FpOk X pins H' C → compPost (model X.prog X.w) X.A X.xe use Qf (.ref D) C (.ok .next) s') :
    wpAny (model X.prog X.w) X.A (comprehension (.DictComp kx vx [⟨tg, iter, ifs, 0⟩] scope pos) scope X.env pos' newDict false (eval iter X.env) use) Qf X.xe s := by
  have hfree : ∀ y ∈ scope.names, y.2 = .free → ∃ c, X.env.cells.lookup y.1 = some c := fun y hy e => by
    rcases ok.free y hy e with k | k
    · exact I.ok.has _ (.inl k)
    · exact I.ok.has _ (.inr k)
  refine wpAny_comprehension_free (use := use) rfl hs (closure_ok hfree) ok.kind (fun y hy e => by rw [ok.uniq y hy, e])
    (thn (hi.run pins s σ H _ I h) fun xv s1 hx => thn hx fun itv s2 h2 => ?_)
  obtain ⟨it, fp, tn, J, H2, e, I2, T, st2, f2, q⟩ := h2
  subst e
  refine wpAny_newObj_type (newEnv_comp ?_)
  generalize hD : s2.heap.objs.size = D
  have hDn : H2 D = none := I2.hok.fresh (Nat.le_of_eq hD)
  obtain ⟨W, ⟨m0, w0⟩, turn⟩ := q D hDn (by rw [← hD]; exact beq_eq_false_iff_ne.mpr (Nat.ne_of_gt I2.big))
  -- the new list
  generalize hs3 : ({ s2 with heap := s2.heap.push { cls := .type "dict", data := .dict #[] } } : Shared) = s3
  have I3 : Inv X pins σ (upd H2 D (dnO X.prog X.w D [])) s3 := by
    rw [← hs3]
    refine I2.laid (t' := s2.toks) (fun b o e => Heap.get?_push_of_some _ e) (Nat.le_of_eq hD) ?_
    rw [← hD]
    exact dn_empty s2.heap I2.big
  have h3 : s3.heap = s2.heap.push { cls := .type "dict", data := .dict #[] } := by rw [← hs3]
  have sz : ∀ b ∈ fp, b < s2.heap.objs.size := fun b hb => by
    obtain ⟨o, e, _⟩ := T.obj _ _ st2 b hb
    exact Heap.lt_size e
  have f3 : ∀ b ∈ fp, FpOk X pins (upd H2 D (dnO X.prog X.w D [])) b ∧ b < s3.heap.objs.size := fun b hb => by
    have hlt := sz b hb
    refine ⟨⟨?_, (f2 b hb).2⟩, by rw [h3, Heap.size_push]; exact Nat.lt_succ_of_lt hlt⟩
    rw [upd_ne (by rw [← hD]; exact Nat.ne_of_lt hlt)]
    exact (f2 b hb).1
  have st3 : tn 0 s3.heap := T.keep _ _ _ st2 fun b _ o e => by rw [h3]; exact Heap.get?_push_of_some _ e
  have I4 := block_start I3 ok hN f3
  have pg := hg s3 (upd H2 D (dnO X.prog X.w D [])) s3.heap.objs.size (cellsFrom (s3.heap.objs.size + 1) scope.names (cloFrom X.env.cells scope.names [])) fp
  have pt := ht s3 (upd H2 D (dnO X.prog X.w D [])) s3.heap.objs.size (cellsFrom (s3.heap.objs.size + 1) scope.names (cloFrom X.env.cells scope.names [])) fp
  have pk := hk s3 (upd H2 D (dnO X.prog X.w D [])) s3.heap.objs.size (cellsFrom (s3.heap.objs.size + 1) scope.names (cloFrom X.env.cells scope.names [])) fp
  have pe := he s3 (upd H2 D (dnO X.prog X.w D [])) s3.heap.objs.size (cellsFrom (s3.heap.objs.size + 1) scope.names (cloFrom X.env.cells scope.names [])) fp
  show codeAny _ _ (.compStart (.DictComp kx vx [⟨tg, iter, ifs, 0⟩] scope pos) 0 (.ref it) (.ref D) (compEnvC scope (cellsFrom (s3.heap.objs.size + 1) scope.names (cloFrom X.env.cells scope.names [])) s3.heap.objs.size X.env)) (compPost (model X.prog X.w) X.A X.xe use Qf (.ref D) s3.heap.objs.size) { s3 with heap := pushCells (s3.heap.push { cls := .type "dict", data := .dict #[] }) scope.names }
  have nfp : ∀ b ∈ fp, (upd H2 D (dnO X.prog X.w D [])) b = none := fun b hb => (f3 b hb).1.1
  generalize hce : compEnvC scope (cellsFrom (s3.heap.objs.size + 1) scope.names (cloFrom X.env.cells scope.names [])) s3.heap.objs.size X.env = ce at I4 pg pt pk pe ⊢
  have cL : ce.locals = s3.heap.objs.size := by subst hce; rfl
  generalize hH3 : upd H2 D (dnO X.prog X.w D []) = H3 at I3 I4 pg pt pk pe w0 nfp f3
  generalize hs4 : ({ s3 with heap := pushCells (s3.heap.push { cls := .type "dict", data := .dict #[] }) scope.names } : Shared) = s4 at I4 ⊢
  have st4 : tn 0 s4.heap := T.keep _ _ _ st3 fun b _ o e => by rw [← hs4]; exact pushCells_keeps _ _ _ _ (Heap.get?_push_of_some _ e)
  have stat : ∀ {σ' : L2.St} {H' : Hp} {s' : Shared}, Inv (X.blk s3 H3 scope ce fp) [] σ' H' s' → (∀ b ∈ fp, H' b = none) → ∀ b ∈ fp, FpOk (X.blk s3 H3 scope ce fp) [] H' b := fun {σ' H' s'} I' hn b hb =>
    ⟨hn b hb, (I'.ok.exf b hb).1, I'.ok.exfs b hb, .inl hb, fun x c e => (I'.ok.exf b hb).2 x c e, fun p hp => absurd (show p ∈ ([] : List (Addr × Obj)) ++ [] from hp) (by simp)⟩
  have loop : codeAny (model X.prog X.w) X.A (.compLoop (.DictComp kx vx [⟨tg, iter, ifs, 0⟩] scope pos) 0 (.ref it) (.ref D) ce) (compPost (model X.prog X.w) X.A X.xe use Qf (.ref D) s3.heap.objs.size) s4 := by
    refine compLoop_anyD (fun n s' => ∃ i H', Inv (X.blk s3 H3 scope ce fp) [] (wipe σ (own.map (·.2))) H' s' ∧ tn i s'.heap ∧ (∀ b ∈ fp, H' b = none) ∧ W i n H') ?_ m0 ⟨0, H3, I4, st4, nfp, w0⟩
    rintro n s5 ⟨i, H5, I5, st5, n5, w5⟩
    rcases turn i n H5 w5 with ⟨stop, qq⟩ | ⟨go, Nx, hNx, step⟩
    · have td := T.done (X.blk s3 H3 scope ce fp) rfl rfl rfl hc i [] s5 _ H5 (fun _ _ => False) I5 (stat I5 n5) st5 stop
      refine thnF td fun r s6 ⟨hr, I6⟩ => ?_
      subst hr
      -- back in the def's context
      have I7 : Inv X pins σ H5 s6 := I3.call' (ch := fp) I6.os I6.base I6.hok I6.bare fun b hb => ⟨(f3 b hb).1.2.2.2.1, (f3 b hb).1.2.1, (f3 b hb).1.2.2.2.2.1, (f3 b hb).1.2.2.2.2.2⟩
      have nC : H5 s3.heap.objs.size = none := by
        have z : H5 ce.locals = none := I6.free
        rw [cL] at z
        exact z
      obtain ⟨m, hn, _⟩ := I6.loc
      have hn : s6.heap.Ns ce.locals m := hn
      rw [cL] at hn
      exact hRR D s3.heap.objs.size s6 m H5 I7 qq hn (I3.fpOk (Nat.le_refl _) nC)
    · have ti := T.item (X.blk s3 H3 scope ce fp) rfl rfl rfl hc i [] s5 _ H5 (fun _ _ => False) I5 (stat I5 n5) st5 go
      refine thnF ti fun r s6 ⟨u, hr, h6⟩ => ?_
      subst hr
      refine thnF h6 fun _ s7 ⟨x, H7, I7, r7, y7, st7, n7⟩ => ?_
      have I7' := I7.pinned (stat I7 n7) (T.obj _ _ st7)
      refine thnF (pg.run _ s7 _ H7 x u _ I7' r7 (step x H7 y7)) fun _ s8 ⟨σ8, H8, I8, hw8, q8⟩ => ?_
      refine thnF (pt.run _ s8 σ8 H8 _ I8 q8) fun b s9 ⟨H9, I9, q9⟩ => ?_
      -- the turn's end
      have fin : ∀ {s' : Shared} {H' : Hp}, Inv (X.blk s3 H3 scope ce fp) ([] ++ pinsAt fp s7.heap) σ8 H' s' → Nx H' → ∃ m, m < n ∧ ∃ i H', Inv (X.blk s3 H3 scope ce fp) [] (wipe σ (own.map (·.2))) H' s' ∧ tn i s'.heap ∧ (∀ b ∈ fp, H' b = none) ∧ W i m H' := fun {s' H'} I' nx => by
        obtain ⟨m', hm, w'⟩ := hNx H' nx
        have pin' : ∀ b ∈ fp, ∀ o, s7.heap.get? b = some o → s'.heap.get? b = some o ∧ H' b = none := fun b hb o e =>
          let z := I'.pin (b, o) (List.mem_append_right _ (List.mem_append_right _ (mem_pinsAt hb e)))
          ⟨z.1, z.2.1⟩
        have hl : (wipe σ (own.map (·.2))).length = σ8.length := by rw [← hw8, wipe_length]
        refine ⟨m', hm, i + 1, H', (I'.unpinned (pins := [])).weak hl (fun j v e => ?_), T.keep _ _ _ st7 fun b hb o e => (pin' b hb o e).1, fun b hb => ?_, w'⟩
        · rw [← hw8] at e
          exact (wipe_some e).1
        · obtain ⟨o, e, _⟩ := T.obj _ _ st7 b hb
          exact (pin' b hb o e).2
      cases b with
      | false =>
        simp only [Bool.false_eq_true, if_false] at q9 ⊢
        exact fin I9 q9
      | true =>
        simp only [if_true] at q9 ⊢
        refine thnF (pk.run _ s9 σ8 H9 _ I9 q9) fun z s10 ⟨yk, H10, I10, r10, q10⟩ => ?_
        refine thnF (pe.run _ s10 σ8 H10 _ I10 q10) fun z2 s11 ⟨yv, H11, I11, r11, ev, st, es, a, ek, hk, hD11, nx⟩ => ?_
        subst ev ek
        exact dn_dictSet (X := X.blk s3 H3 scope ce fp) hu I11 hD11 hk r10 r11 fun s12 I12 => fin I12 nx
  exact codeAny_compStart_dict loop (T.self X.A 0 _ _ _ st4 loop)
/-- as a value -/
theorem pe_dcN {kx vx tg iter : Expr} {ifs : List Expr} {scope : Scope} {own : List (Str × Nat)} {pos : Pos} {wi : TI} {g : TG} {tt : TT} {tk tv : TE} (hu : X.A.units + 65 < cLine) (hc : X.calm = true) (hN : X.N.Nodup) (hi : PI X tg iter wi) (ok : BlkOk X.N X.env.scope scope own)
    (hg : ∀ (s : Shared) (H : Hp) (C : Addr) (cl : List (Str × Addr)) (fp : List Addr), PG (X.blk s H scope (compEnvC scope cl C X.env) fp) tg g) (ht : ∀ (s : Shared) (H : Hp) (C : Addr) (cl : List (Str × Addr)) (fp : List Addr), PTs (X.blk s H scope (compEnvC scope cl C X.env) fp) ifs tt)
    (hk : ∀ (s : Shared) (H : Hp) (C : Addr) (cl : List (Str × Addr)) (fp : List Addr), PE (X.blk s H scope (compEnvC scope cl C X.env) fp) kx tk)
    (he : ∀ (s : Shared) (H : Hp) (C : Addr) (cl : List (Str × Addr)) (fp : List Addr), PE (X.blk s H scope (compEnvC scope cl C X.env) fp) vx tv) (hs : ∀ x, foldedSetIterable iter X.env x = pure x := by intro _; rfl) :
    PE X (.DictComp kx vx [⟨tg, iter, ifs, 0⟩] scope pos) (tDcN X.prog X.w X.K wi g tt tk tv (own.map (·.2))) := by
  refine ⟨fun pins s σ H Q I h => ?_⟩
  rw [arm_eval_DictComp]
  refine dcN_core hu hc hN I hi ok hg ht hk he hs h fun D C s' m H' I' q hn f => ⟨m, hn, fun h'' sb => ?_⟩
  obtain ⟨f0, f1, f2, f3, f4, f5⟩ := f
  exact ⟨.ref D, H', I'.turned (t' := s'.toks) (fun b o hb e => (sb.2 b hb).trans e) f0 f1 f3 f4 f5, rfl, q⟩

end
/-! ### {k: True}: one entry -/
section
variable {X : Cx} {e v : Expr} {te tv : TE} {pos : Pos}
def tDisN (P : Program) (w : World) (K : PySem.W.Frag) (te tv : TE) : TE := fun σ H Q => ∀ p, H p = none → (p == sysModules) = false → te σ (upd H p (dnO P w p [])) fun x H1 => tv σ H1 fun y H2 => y = .bl true ∧ H2 p = some (dnO P w p []) ∧ ∃ (st : Stt) (a : Addr), x = .ref a ∧ Dp K H2 (.ref a) (stD st) ∧
  Q (.ref p) (upd H2 p (dnO P w p [(st, a)]))
theorem dn_nil {P : Program} {w : World} {K : PySem.W.Frag} {H : Hp} {d : Addr} (h : H d = some (dnO P w d [])) (nm : (d == sysModules) = false) : DN P w K H d [] := ⟨h, nm, List.nodup_nil, by decide, fun e he => by cases he⟩
theorem pe_disN (hu : X.A.units + 65 < cLine) (he : PE X e te) (hv : PE X v tv) : PE X (.Dict [some e] [v] pos) (tDisN X.prog X.w X.K te tv) := by
  refine ⟨fun pins s σ H Q I q => ?_⟩
  have hn := I.hok.fresh (Nat.le_refl s.heap.objs.size)
  have nm : (s.heap.objs.size == sysModules) = false := beq_eq_false_iff_ne.mpr (Nat.ne_of_gt I.big)
  have I1 := I.laid (a := s.heap.objs.size) (o := dnO X.prog X.w s.heap.objs.size []) (h' := s.heap.push { cls := .type "dict", data := .dict #[] }) (t' := s.toks) (fun _ _ q => Heap.get?_push_of_some _ q) (Nat.le_refl _) (dn_empty s.heap I.big)
  rw [arm_eval_Dict, zip_pairTrees [some e] [v] X.env pos rfl rfl, dictDisplay_pairs (pairTrees [some e] [v] X.env pos) (fun z => nomatch z) (by show 1 < 17; decide)]
  refine wpAny_bind (wpAny_standAt (wpAny_bind (wpAny_subDictH (knd := nestKind X.prog X.w) (Q := fun d s' => wpAny (model X.prog X.w) X.A (pure (Value.ref d)) (EP X pins σ Q) X.xe s') (by show X.A.units + 1 < cLine; omega) (by show 1 ≤ 15; decide) ?_)))
  refine pairTrees_cons_walk (thn (he.run pins _ σ _ _ I1 (q _ hn nm)) fun u s1 ⟨x, H1, I2, rx, q1⟩ => thn (hv.run pins s1 σ H1 _ I2 q1) fun r s2 ⟨y, H2, I3, ry, ey, hp, st, a, ex, hk, q2⟩ => pairTrees_nil_walk ?_)
  subst ex ey
  cases (show u = Value.ref a from rx)
  cases (show r = Value.bool true from ry)
  have D := dn_nil (P := X.prog) (w := X.w) (K := X.K) hp nm
  refine ⟨[(nk st, a, Value.bool true)], ⟨rfl, rfl, nest_of I3 hk, trivial⟩, dn_of I3 D, fun h' tk dd hs => wpAny_pure ⟨.ref s.heap.objs.size, _, dn_write (st := st) (a := a) I3 D hs dd, rfl, q2⟩⟩
end
/-! ### dict(pairs) -/
def mergeN (es : NE) : NE := es.foldl (fun acc e => putN acc e.1 e.2) []
theorem putN_mem {acc : NE} {s : Stt} {a : Addr} {e : Stt × Addr} (h : e ∈ putN acc s a) : e ∈ acc ∨ e = (s, a) := by
  unfold putN at h
  split at h
  · exact .inl h
  · rcases List.mem_append.mp h with h | h
    · exact .inl h
    · exact .inr (by simpa using h)
theorem foldN_mem : ∀ (es acc : NE) (e : Stt × Addr), e ∈ es.foldl (fun acc e => putN acc e.1 e.2) acc → e ∈ acc ∨ e ∈ es
  | [], acc, e, h => .inl h
  | x :: r, acc, e, h => by
    rcases foldN_mem r _ e h with h | h
    · rcases putN_mem h with h | h
      · exact .inl h
      · exact .inr (h ▸ List.mem_cons_self ..)
    · exact .inr (List.mem_cons_of_mem _ h)
theorem mergeN_mem {es : NE} {e : Stt × Addr} (h : e ∈ mergeN es) : e ∈ es := (foldN_mem es [] e h).elim (fun z => by cases z) id
theorem foldN_keys : ∀ (es acc : NE) (s : Stt), s ∈ (es.foldl (fun acc e => putN acc e.1 e.2) acc).map (·.1) ↔ s ∈ acc.map (·.1) ∨ s ∈ es.map (·.1)
  | [], acc, s => by simp
  | x :: r, acc, s => by
    rw [List.foldl_cons, foldN_keys r, putN_keys, List.map_cons, List.mem_cons]
    by_cases h : x.1 ∈ acc.map (·.1)
    · rw [if_pos h]
      constructor
      · rintro (q | q)
        · exact .inl q
        · exact .inr (.inr q)
      · rintro (q | q | q)
        · exact .inl q
        · exact .inl (q ▸ h)
        · exact .inr q
    · rw [if_neg h, List.mem_append, List.mem_singleton]
      exact or_assoc
theorem mergeN_keys (es : NE) (s : Stt) : s ∈ (mergeN es).map (·.1) ↔ s ∈ es.map (·.1) := by
  have := foldN_keys es [] s
  simpa [mergeN] using this
theorem putN_nodup {acc : NE} (h : (acc.map (·.1)).Nodup) (s : Stt) (a : Addr) : ((putN acc s a).map (·.1)).Nodup := by
  rw [putN_keys]
  split
  · exact h
  · rename_i n
    exact List.nodup_append.mpr ⟨h, by simp, fun x hx y hy z => by
        have : y = s := by simpa using hy
        exact n (by rw [← this, ← z]; exact hx)⟩
theorem foldN_nodup : ∀ (es acc : NE), (acc.map (·.1)).Nodup → ((es.foldl (fun acc e => putN acc e.1 e.2) acc).map (·.1)).Nodup
  | [], _, h => h
  | x :: r, acc, h => foldN_nodup r _ (putN_nodup h _ _)
theorem putN_len (acc : NE) (s : Stt) (a : Addr) : (putN acc s a).length ≤ acc.length + 1 := by
  unfold putN
  split
  · omega
  · simp
theorem foldN_len : ∀ (es acc : NE), (es.foldl (fun acc e => putN acc e.1 e.2) acc).length ≤ acc.length + es.length
  | [], _ => by simp
  | x :: r, acc => by
    have h1 := foldN_len r (putN acc x.1 x.2)
    have h2 := putN_len acc x.1 x.2
    rw [List.foldl_cons, List.length_cons]
    omega
theorem raw_fold (es acc : NE) : storedAllH (rawE acc) (rawE es) = rawE (es.foldl (fun acc e => putN acc e.1 e.2) acc) := by
  induction es generalizing acc with
  | nil => rfl
  | cons x r ih =>
    show storedAllH (storedH (rawE acc) (nk x.1) x.2 (.bool true)) (rawE r) = _
    rw [rawE_stored, ih]
    rfl
section
variable {X : Cx}
theorem call_dictN (hcalm : X.calm = true) (hu : X.A.units + 65 < cLine) : CallR X (.type "dict") (fun xs H Q => ∃ (l : Addr) (ps : List Addr) (es : NE), xs = [.ref l] ∧ SqL X.K H l (ps.map V.ref) ∧
    Paired (fun p (e : Stt × Addr) => SqT X.K H p [.ref e.2, .bl true] ∧ Dp X.K H (.ref e.2) (stD e.1)) ps es ∧ es.length ≤ 20000 ∧ ∀ p, H p = none → DN X.prog X.w X.K (upd H p (dnO X.prog X.w p (mergeN es))) p (mergeN es) → Q (.ref p) (upd H p (dnO X.prog X.w p (mergeN es)))) := by
  intro pins s σ H xs us Q I r h
  obtain ⟨l, ps, es, rfl, hl, hp, hz, q⟩ := h
  obtain ⟨u, rfl, rx⟩ := vals1 r
  cases (show u = Value.ref l from rx)
  obtain ⟨its, rv, ⟨o, n, ho, hc, hd, hdat⟩, hlz⟩ := I.list hl
  have ei := refs_at rv
  subst ei
  have hlen := Paired.length hp
  have at_ : ∀ (ps : List Addr) (es : NE), Paired (fun p (e : Stt × Addr) => SqT X.K H p [.ref e.2, .bl true] ∧ Dp X.K H (.ref e.2) (stD e.1)) ps es → ∀ (j : Nat) (e : Stt × Addr), es[j]? = some e → ∃ p, ps[j]? = some p ∧ SqT X.K H p [.ref e.2, .bl true] ∧ Dp X.K H (.ref e.2) (stD e.1) := by
    intro ps es h
    induction h with
    | nil => intro j e h; simp at h
    | cons h1 t ih =>
      intro j e h
      cases j with
      | zero =>
        simp at h
        subst h
        exact ⟨_, rfl, h1⟩
      | succ j =>
        simp at h
        obtain ⟨p, e1, e2⟩ := ih j e h
        exact ⟨p, by simpa using e1, e2⟩
  have key : ∀ e ∈ es, Dp X.K H (.ref e.2) (stD e.1) := fun e he => by
    obtain ⟨j, hj⟩ := List.mem_iff_getElem?.mp he
    obtain ⟨_, _, _, z⟩ := at_ ps es hp j e hj
    exact z
  let vv : List (Value × Value) := es.map fun e => (Value.ref e.2, Value.bool true)
  have hvv : vv.length = es.length := by simp [vv]
  have P := PySem.PairArg.list (prog := X.prog) (w := X.w) l (ps.map Value.ref).toArray (fun j => ps.getD j 0) vv
  refine PySem.call_dict_pairsH (knd := nestKind X.prog X.w) (ps := rawE es) P (I.ok.hd hcalm) (by show X.A.units + 1 + 1 + 1 < cLine; omega) ⟨⟨o, n, ho, hc, hd, hdat⟩, by simp [hvv, hlen], fun j k v hj => ?_⟩ ⟨by rw [rawE_len, hvv], fun i k v hi => ?_⟩ (fun h' hk x hx => ?_) (by rw [hvv, sizeLine_eq]; omega) fun h' tk dd hk => ?_
  · have hj' : (es.map fun e => (Value.ref e.2, Value.bool true))[j]? = some (k, v) := hj
    rw [List.getElem?_map] at hj'
    cases he : es[j]? with
    | none => rw [he] at hj'; cases hj'
    | some e =>
      rw [he] at hj'
      cases hj'
      obtain ⟨p, e1, e2, _⟩ := at_ ps es hp j e he
      have e3 : ps.getD j 0 = p := by rw [List.getD_eq_getElem?_getD, e1]; rfl
      refine ⟨by simp [e1, e3], .inl ?_⟩
      show s.heap.IsTuple (ps.getD j 0) _
      rw [e3]
      obtain ⟨its, r, tt, _⟩ := I.tuple e2
      obtain ⟨u1, u2, e4, r1, r2⟩ := vals2 r
      subst e4
      cases (show u1 = Value.ref e.2 from r1)
      cases (show u2 = Value.bool true from r2)
      exact tt
  · have hi' : (es.map fun e => (Value.ref e.2, Value.bool true))[i]? = some (k, v) := hi
    rw [List.getElem?_map] at hi'
    cases he : es[i]? with
    | none => rw [he] at hi'; cases hi'
    | some e =>
      rw [he] at hi'
      cases hi'
      exact ⟨nk e.1, e.2, by simp [rawE, he], rfl⟩
  · obtain ⟨e, he, rfl⟩ := List.mem_map.mp hx
    have I' : L2.Inv X pins σ H { s with heap := h' } := I.kept (t' := s.toks) fun b ob z => hk b ob (Nat.ne_of_lt (Heap.lt_size z)) (by simp) z
    exact nest_of I' (key e he)
  · have hm : (s.heap.objs.size == sysModules) = false := beq_eq_false_iff_ne.mpr (Nat.ne_of_gt I.big)
    have kk : ∀ b ob, s.heap.get? b = some ob → h'.get? b = some ob := fun b ob z => hk b ob (by simp) z
    have hn := I.hok.fresh (Nat.le_refl s.heap.objs.size)
    have ok : ObjOk X.prog X.w (upd H s.heap.objs.size (dnO X.prog X.w s.heap.objs.size (mergeN es))) h' s.heap.objs.size (dnO X.prog X.w s.heap.objs.size (mergeN es)) := dn_ok_of (raw_fold es []) dd
    refine ⟨.ref s.heap.objs.size, _, I.laid (t' := tk) kk (Nat.le_refl _) ok, rfl, q _ hn ⟨upd_same, hm, foldN_nodup es [] List.nodup_nil, ?_, fun e he => dp_same (same_upd hn) _ _ (key e (mergeN_mem he))⟩⟩
    have := foldN_len es []
    simp only [List.length_nil, Nat.zero_add] at this
    exact Nat.le_trans this hz
/-- len(d), list(d) -/
theorem call_lenN : CallR X (.builtin "len") (fun xs H Q => ∃ (d : Addr) (es : NE), xs = [.ref d] ∧ DN X.prog X.w X.K H d es ∧ Q (.int es.length) H) := by
  intro pins s σ H xs us Q I r h
  obtain ⟨d, es, rfl, D, q⟩ := h
  obtain ⟨u, rfl, rx⟩ := vals1 r
  cases (show u = Value.ref d from rx)
  have hl := D.len
  refine call_len_dictH (knd := nestKind X.prog X.w) D.nm (dn_of I D) (by rw [rawE_len]; omega) ?_
  rw [rawE_len]
  exact ⟨.int (es.length : Nat), H, I.tok _, ⟨_, rfl⟩, q⟩
theorem call_listN (hc : X.calm = true) : CallR X (.type "list") (fun xs H Q => ∃ (d : Addr) (es : NE), xs = [V.ref d] ∧ DN X.prog X.w X.K H d es ∧ ∀ p, H p = none → Q (.ref p) (upd H p (.lst (es.map fun e => V.ref e.2)))) := by
  intro pins s σ H xs us Q I r h
  obtain ⟨d, es, rfl, D, q⟩ := h
  obtain ⟨u, rfl, rx⟩ := r.one
  cases rx
  obtain ⟨⟨o, ee, ep, ho, hx, hdt, he⟩, _, _⟩ := (show ObjOk X.prog X.w H s.heap d (dnO X.prog X.w d es) from I.hok d _ D.at_)
  have l1 : ee.size = (rawE es).length := size_of_entries he
  have hsl := sizeLine_eq
  have hln := D.len
  rw [rawE_len] at l1
  refine PySem.W.kdl_call (kdl_raw D.nm hx hdt) (I.ok.hd hc) ho (by omega) fun h' tk acc' c' kp e it => ?_
  have ea : acc'.toList = (es.map fun e => e.2).map Value.ref := by
    have hl : acc'.toList.length = es.length := by rw [Array.length_toList, it.1]; exact l1
    apply List.ext_getElem?
    intro j
    rw [List.map_map, List.getElem?_map]
    cases hj : acc'.toList[j]? with
    | none =>
      have h1 := List.getElem?_eq_none_iff.mp hj
      rw [List.getElem?_eq_none (by omega)]
      all_goals rfl
    | some v =>
      obtain ⟨en, hen, hv⟩ := it.2 j v (by rw [← Array.getElem?_toList]; exact hj)
      have qe := entry_at he j
      rw [hen] at qe
      cases hb : es[j]? with
      | none =>
        have : (rawE es)[j]? = none := by simp [rawE, hb]
        rw [this] at qe
        exact nomatch (show some en = none from qe)
      | some b =>
        have : (rawE es)[j]? = some (nk b.1, b.2, Value.bool true) := by simp [rawE, hb]
        rw [this] at qe
        have e2 : en = entryOfKey (nestKind X.prog X.w) (nk b.1, b.2, Value.bool true) := Option.some.inj qe
        rw [hv, e2]
        all_goals rfl
  have rv : Vals ((es.map fun e => e.2).map V.ref) acc'.toList := by rw [ea]; exact vals_refs _
  have ev : (es.map fun e => e.2).map V.ref = es.map fun e => V.ref e.2 := by rw [List.map_map]; rfl
  rw [ev] at rv
  refine ⟨.ref s.heap.objs.size, _, I.laid (t' := tk) (o := .lst (es.map fun e => V.ref e.2)) kp (Nat.le_refl _) ?_, rfl, q _ (I.hok.fresh (Nat.le_refl _))⟩
  exact ⟨by rw [List.length_map]; omega, acc'.toList, c', rv, by rw [Array.toArray_toList]; exact e⟩
end
end K76

/-! tuple * int, any count. -/
namespace K76
open PySem PySem.Spec PyProof.Rows L2
theorem tuple_mul1 (l : Addr) (items : Array Value) (n : Nat) (dd : Option Addr) (sl : Array (Option Value)) (u : Tok) :
    Meets (Builtin.«tuple.__mul__» ⟨[.ref l, .int 1 u], []⟩) (fun _ R s => s.heap.get? l = some { cls := .type "tuple", dict := dd, data := .seq items n, slots := sl } ∧
      R (.ok (.ret (Value.ref l))) s) :=
  .of_wp fun prog w A R s h => by
    obtain ⟨hp, g, d, tk, os⟩ := s
    obtain ⟨hl, h⟩ := h
    have f1 := AutoSeq1.idx_int
    wp_walk using wpAny_loadPart' hl
    exact ⟨_, rfl, h⟩
theorem tuple_mul0 (l : Addr) (items : Array Value) (n : Nat) (dd : Option Addr) (sl : Array (Option Value)) (x : Int) (u : Tok) (c0 : (decide (x < -(2 ^ 63)) || decide (x ≥ 2 ^ 63)) = false) (c1 : (items.isEmpty || x == 1) = false) (c2 : (decide (x ≤ 0) || items.isEmpty) = true) :
    Meets (Builtin.«tuple.__mul__» ⟨[.ref l, .int x u], []⟩) (fun _ R s => s.heap.get? l = some { cls := .type "tuple", dict := dd, data := .seq items n, slots := sl } ∧
      R (.ok (.ret (Value.ref s.heap.objs.size))) { s with heap := s.heap.push { cls := Value.type "tuple", data := Data.seq #[] }, toks := s.toks }) :=
  .of_wp fun prog w A R s h => by
    obtain ⟨hp, g, d, tk, os⟩ := s
    obtain ⟨hl, h⟩ := h
    have f1 := AutoSeq1.idx_int
    wp_walk using wpAny_loadPart' hl
    repeat (first
      | (refine wpAny_ite_false (decide_eq_false (by rw [c0]; exact Bool.false_ne_true)) ?_; wp_walk using wpAny_loadPart' hl)
      | (refine wpAny_ite_false (decide_eq_false (by rw [c1]; exact Bool.false_ne_true)) ?_; wp_walk using wpAny_loadPart' hl))
    exact ⟨_, rfl, h⟩
/-- t * k of a tuple that stands in H, not empty -/
def rMulT : R2 := fun x y H Q => ∃ l k xs, x = .ref l ∧ y = .int k ∧ H l = some (.tup xs) ∧ xs ≠ [] ∧ 0 ≤ k ∧ k ≤ 1000 ∧ xs.length ≤ 1000 ∧ ∀ p H', Same H H' → H' p = some (.tup (List.replicate k.toNat xs).flatten) → Q (.ref p) H'
section
variable {X : Cx}
theorem op_mulT : OpR X (binaryOp .Mult) rMulT := by
  intro pins s σ H x y v u Q I rx ry h
  obtain ⟨l, k, xs, rfl, rfl, hT, hne, h1, h2, hz, q⟩ := h
  by_cases k2 : 2 ≤ k
  · refine op_repT pins s σ H (.ref l) (.int k) v u Q I rx ry ⟨l, k, xs, rfl, rfl, SqT.of hT, hne, k2, h2, hz, fun p hp => q p _ (same_upd hp) upd_same⟩
  cases rx
  obtain ⟨t, rfl⟩ := ry
  obtain ⟨its, r, ⟨⟨cls, dd, data, sl⟩, ho, hc, n, hd⟩, hs⟩ := I.tuple (SqT.of hT)
  simp only at hc hd
  subst hc hd
  have hle : its.length = xs.length := r.length.symm
  have hn : its ≠ [] := fun e => hne (by
    rw [e] at hle
    exact List.eq_nil_of_length_eq_zero hle.symm)
  have hi : its.toArray.isEmpty = false := by
    cases its with
    | nil => exact absurd rfl hn
    | cons a b => rfl
  by_cases k1 : k = 1
  · subst k1
    refine wpAny_binaryOp_repeat_ref (T := "tuple") (U := "int") (by decide) ⟨_, ho, rfl⟩ (fun s' => typeIs_int s' 1 t) noFill_tuple_mul F.fills_int_mul F.slot_int_rmul repeat_tuple F.slot_int_index.lookup
      (call_meets F.slot_int_rmul (typeIs_int s 1 t) F.entry_int_rmul (F.args_int_rmul_2 _ _) (int_rmul_tuple 1 t l its.toArray n dd sl)
        ⟨ho, rfl, ⟨_, ho, rfl⟩, call_meets F.slot_tuple_mul ⟨_, ho, rfl⟩ F.entry_tuple_mul (F.args_tuple_mul_2 _ _) (tuple_mul1 l its.toArray n dd sl t) ⟨ho, ?_⟩⟩)
    have e : (List.replicate (1 : Int).toNat xs).flatten = xs := by simp
    exact ⟨.ref l, H, I, rfl, q l H (Same.refl H) (by rw [e]; exact hT)⟩
  · have k0 : k = 0 := by omega
    subst k0
    have c1 : (its.toArray.isEmpty || (0 : Int) == 1) = false := by rw [hi] <;> rfl
    refine wpAny_binaryOp_repeat_ref (T := "tuple") (U := "int") (by decide) ⟨_, ho, rfl⟩ (fun s' => typeIs_int s' 0 t) noFill_tuple_mul F.fills_int_mul F.slot_int_rmul repeat_tuple F.slot_int_index.lookup
      (call_meets F.slot_int_rmul (typeIs_int s 0 t) F.entry_int_rmul (F.args_int_rmul_2 _ _) (int_rmul_tuple 0 t l its.toArray n dd sl)
        ⟨ho, rfl, ⟨_, ho, rfl⟩, call_meets F.slot_tuple_mul ⟨_, ho, rfl⟩ F.entry_tuple_mul (F.args_tuple_mul_2 _ _) (tuple_mul0 l its.toArray n dd sl 0 t (by decide) c1 rfl) ⟨ho, ?_⟩⟩)
    have hn' := I.hok.fresh (Nat.le_refl s.heap.objs.size)
    exact ⟨.ref s.heap.objs.size, _, I.laid (t' := s.toks) (o := .tup []) (fun b ob q => Heap.get?_push_of_some _ q) (Nat.le_refl _) ⟨Nat.zero_le _, [], .nil, ⟨_, Heap.get?_push_size _ rfl, rfl, _, rfl⟩⟩, rfl, q _ _ (same_upd hn') upd_same⟩
end
end K76

/-! The walk, 11: check. -/
namespace K76
open PySem PySem.Spec PyProof.Rows L2
/-- over a list that stands -/
theorem dcN_list {P : Program} {w : World} {K : PySem.W.Frag} {a : Addr} {xs : List V} {g : TG} {tt : TT} {tk tv : TE} {vs : List Nat} {σ : L2.St} {H1 : Hp} {D : Addr} {Qd : Hp → Prop} (Pv : Nat → Hp → Prop) (h0 : Pv 0 (upd H1 D (dnO P w D []))) (hl : ∀ i H, i ≤ xs.length → Pv i H → SqL K H a xs)
    (hs : ∀ i x H, xs[i]? = some x → Pv i H → g x (wipe σ vs) H fun σ2 H2 => wipe σ2 vs = wipe σ vs ∧ tt σ2 H2 fun b H3 =>
      if b = true then tk σ2 H3 fun y H4 => tv σ2 H4 fun z H5 => z = .bl true ∧ ∃ (st : Stt) (es : NE) (a : Addr), y = .ref a ∧ Dp K H5 (.ref a) (stD st) ∧ DN P w K H5 D es ∧ Pv (i + 1) (upd H5 D (dnO P w D (putN es st a))) else Pv (i + 1) H3) (hd : ∀ H, Pv xs.length H → Qd H) :
    ∃ W : Nat → Nat → Hp → Prop, (∃ m, W 0 m (upd H1 D (dnO P w D []))) ∧ ∀ i m H, W i m H →
      ((Itl K a).stop i H ∧ Qd H) ∨ ((Itl K a).go i H ∧ ∃ Nx : Hp → Prop, (∀ H', Nx H' → ∃ m', m' < m ∧ W (i + 1) m' H') ∧ ∀ x H', (Itl K a).yld i H x H' → g x (wipe σ vs) H' fun σ2 H2 => wipe σ2 vs = wipe σ vs ∧ tt σ2 H2 fun b H3 =>
        if b = true then tk σ2 H3 fun y H4 => tv σ2 H4 fun z H5 => z = .bl true ∧ ∃ (st : Stt) (es : NE) (a : Addr), y = .ref a ∧ Dp K H5 (.ref a) (stD st) ∧ DN P w K H5 D es ∧ Nx (upd H5 D (dnO P w D (putN es st a))) else Nx H3) := by
  refine ⟨fun i m H => m = xs.length - i ∧ i ≤ xs.length ∧ Pv i H, ⟨xs.length, by simp, Nat.zero_le _, h0⟩, ?_⟩
  rintro i m H ⟨rfl, hi, p⟩
  have q := hl i H hi p
  by_cases hlt : i < xs.length
  · refine .inr ⟨⟨xs, xs[i], q, by simp [hlt]⟩, Pv (i + 1), fun H' p' => ⟨xs.length - (i + 1), by omega, rfl, hlt, p'⟩, fun x H' y => ?_⟩
    obtain ⟨e, y⟩ := y
    subst e
    exact hs i x _ (y xs q) p
  · have e : i = xs.length := by omega
    subst e
    exact .inl ⟨⟨xs, q, Nat.le_refl _⟩, hd H p⟩
section
variable {P : Program} {w : World} {K : PySem.W.Frag} {mg : Str → Option Value} {base : Heap}
def spNC (K : PySem.W.Frag) : Sp := fun vs H Q _ => ∃ (a : Addr) (v : V), vs = [.ref a, v] ∧ H a = some (exo a (He.ga K "NotClosed") none) ∧ ∀ dx, H dx = none → dx ≠ a → Q .non (upd (upd H dx (exd dx [("number", v)])) a (exo a (He.ga K "NotClosed") (some dx)))
theorem sc_NC : FnScope ["self", "number"] ["self", "number"] (defScope (inClass (top 7) 0)) := ⟨rfl, rfl, rfl, by decide +kernel, rfl, by decide +kernel, by decide +kernel⟩
theorem ok_NC (T : Tx K mg) : ∃ fd, Binds K fd ["self", "number"] [] ∧ FnOk P w K mg base CX0 1 (He.ma K (He.ga K "NotClosed") "__init__") fd ["self", "number"] (spNC K) := by
  obtain ⟨fd, F⟩ := T.f_NotClosed_init
  refine ⟨fd, F.binds (fun _ _ _ _ _ _ us hl => match us, hl with | [_, _], _ => rfl), F.ok sc_NC (fun vs H Q E h => ?_) (fun cdv A outer s H vs Q E hr h => ?_)⟩
  · obtain ⟨a, v, rfl, _⟩ := h
    rfl
  · obtain ⟨a, v, rfl, ha, q⟩ := h
    refine ⟨_, pss_one (ps_ost (pv 0) (pv 1)), ?_⟩
    exact ⟨_, rfl, _, rfl, a, _, rfl, T.more.oex, T.more.num, .inl ⟨ha, fun dx hd ne => q dx hd ne⟩⟩
/-- the number that an error tells -/
def noV : Option Nat → V
  | none => .non
  | some n => .int n
/-- what follows raise NotClosed(e) -/
theorem nc_read (T : Tx K mg) {H1 : Hp} {v : V} {W : XK} {k : Option Nat} (hv : v = noV k) (h : ∀ H' d, Same H1 H' → H' d = some (.xd [("number", noV k)]) → W (.ref (He.ga K "NotClosed")) (some d) H') :
    [v].length ≤ 1000 ∧ ∀ a, H1 a = none → spNC K (.ref a :: ([v] ++ [])) (upd H1 a (exo a (He.ga K "NotClosed") none))
      (fun x H2 => x = .non ∧ ∃ (d : Addr) (fs : List (Str × V)), H2 a = some (exo a (He.ga K "NotClosed") (some d)) ∧ H2 d = some (exd d fs) ∧ H1 d = none ∧ W (.ref (He.ga K "NotClosed")) (some d) (upd (del H2 a) d (.xd fs))) (fun _ _ _ => False) := by
  subst hv
  refine ⟨(by decide : 1 ≤ 1000), fun a ha => ⟨a, noV k, rfl, upd_same, fun dx hdx ne => ?_⟩⟩
  have hd1 : H1 dx = none := by
    rw [upd_ne ne] at hdx
    exact hdx
  refine ⟨rfl, dx, _, upd_same, by rw [upd_ne ne]; exact upd_same, hd1, h _ dx (fun c o e => ?_) upd_same⟩
  have c1 : c ≠ dx := fun z => by subst z; rw [hd1] at e; cases e
  have c2 : c ≠ a := fun z => by subst z; rw [ha] at e; cases e
  rw [upd_ne c1, del_ne c2, upd_ne c2, upd_ne c1, upd_ne c2]
  exact e
def spCheck (K : PySem.W.Frag) : Sp := fun vs H Q E => ∃ (a tb : Addr) (bk : Bk) (b t : Int) (f : Nat) (i : Option Int) (us : List V) (ds : List PyData), vs = [.ref a, .int b, .int f, .int t, .ref tb, idV i] ∧ bk.Ok ∧ BookAt K H a bk ∧ (1 ≤ b ∧ b ≤ 300) ∧ (1 ≤ f ∧ f ≤ 8) ∧ (0 ≤ t ∧ t ≤ 300) ∧
  (∀ j, i = some j → 0 ≤ j ∧ j ≤ 300) ∧ TableAt K H tb us ∧ DpAll K H us ds ∧ us.length ≤ 5000 ∧ (∀ n, checkM bk b f t i ds = .ok n → ∀ H', Same H H' → Q (.int n) H') ∧
  (∀ k, checkM bk b f t i ds = .no k → ∀ H' d, Same H H' → H' d = some (.xd [("number", noV k)]) → E (.ref (He.ga K "NotClosed")) (some d) H')
theorem sc_check : FnScope ["book", "blocks", "files", "total", "table", "idle", "number", "state", "known", "later"] ["book", "blocks", "files", "total", "table", "idle"] (defScope (top 42)) := ⟨rfl, rfl, rfl, by decide +kernel, rfl, by decide +kernel, by decide +kernel⟩
theorem listed_eq {b : Int} {f : Nat} {t : Int} {i : Option Int} {d : PyData} (h : listed b f t i d = true) : d = stD (unD d) ∧ Good b (unD d) ∧ (unD d).length = f ∧ sizes (unD d) ≤ t := by
  unfold listed at h
  simp only [Bool.and_eq_true, decide_eq_true_eq] at h
  exact ⟨isSt_eq h.1, isSt_good h.1, h.2.1, h.2.2.1⟩
theorem dps_sts' {H : Hp} {b : Int} {f : Nat} {t : Int} {i : Option Int} : ∀ {us : List V} {ds : List PyData}, DpAll K H us ds → (∀ d ∈ ds, listed b f t i d = true) → Sts K H us (ds.map unD)
  | _, [], .nil, _ => .nil
  | _, d :: ds, .cons h t, hl => by
    have e := (listed_eq (hl d (List.mem_cons_self ..))).1
    rw [e] at h
    have h' : Dp K H _ (stD (unD d)) := h
    exact .cons h' (dps_sts' t fun x hx => hl x (List.mem_cons_of_mem _ hx))
/-- a state times .. : the empty state -/
theorem mem_take_keys {ss : List Stt} {es : NE} (h : ∀ s, s ∈ es.map (·.1) ↔ s ∈ ss) (s : Stt) : decide (s ∈ es.map (·.1)) = decide (s ∈ ss) := by
  rw [decide_eq_decide]
  exact h s
theorem dp_zeros {H : Hp} {p p1 : Addr} {f : Nat} (h1 : H p1 = some (.tup [.int 0, .int 0])) (h : H p = some (.tup (List.replicate f [V.ref p1]).flatten)) : Dp K H (.ref p) (stD (zeros f)) := by
  refine .tup (SqT.of h) ?_
  clear h
  induction f with
  | zero => exact .nil
  | succ n ih => exact .cons (.tup (SqT.of h1) (.cons (.int _) (.cons (.int _) .nil))) ih
theorem ok_check (T : Tx K mg) : ∃ fd, Fun K "check" "check" (top 42) (He.ga K "check") fd ∧ FnOk P w K mg base (L2.CX P w) 6 (He.ga K "check") fd ["book", "blocks", "files", "total", "table", "idle"] (spCheck K) := by
  obtain ⟨fd, F⟩ := T.f_check
  obtain ⟨fdN, bN, okN⟩ := ok_NC (P := P) (w := w) (base := base) T
  obtain ⟨t1, g1⟩ := T.i_MOST_BLOCKS
  refine ⟨fd, F, F.okX sc_check (fun vs H Q E h => ?_) (fun cdv A outer s H vs Q E hr h => ?_)⟩
  · obtain ⟨a, tb, bk, b, t, f, i, us, ds, rfl, _⟩ := h
    rfl
  · obtain ⟨a, tb, bk, b, t, f, i, us, ds, rfl, ok, B, ⟨b1, b2⟩, ⟨f1, f2⟩, ⟨t1', t2⟩, hi, TA, hds, hul, qok, qno⟩ := h
    have nd := sc_check.nd
    refine ⟨_, pss_cons (ps_expr (pe_g ((ok_check_numbers T).mono (by decide)) hr (pa_cons (pv 1) (pa_cons (pv 2) (pa_cons (pv 3) pa_nil)))))
      (pss_cons (ps_if (pt_cmpR op_notN (pv 5) pe_non (nomark _)) (pss_one (ps_expr (pe_g ((ok_check_integer T).mono (by decide)) hr (pa_cons (pv 5) (pa_cons pe_int (pa_cons (pe_glob (v := .int 300) rfl g1 ⟨_, rfl⟩) pa_nil)))))) pss_nil)
      (pss_cons (ps_for (passes_of rfl) rfl (pi_enum rfl T.m_enumerate (pa_cons (pe_fld (pv 4) rfl) pa_nil)) (pg_tup rfl (pgs_cons (pg_name (i := 6) nd rfl (.inl rfl)) (pgs_cons (pg_name (i := 7) nd rfl (.inl rfl)) pgs_nil)))
        (pss_one (ps_if (pt_not (pt_val (pe_g ((ok_is_listed T).mono (by decide)) hr (pa_cons (pv 7) (pa_cons (pv 1) (pa_cons (pv 2) (pa_cons (pv 3) (pa_cons (pv 5) pa_nil))))))))
          (pss_one (ps_raise rfl (takes_of rfl rfl rfl rfl) (pmk_oex T.more.oex T.more.init T.more.tyI okN (hr.mono (by decide)) bN .nil pass0 rfl T.g_NotClosed (pa_cons (pv 6) pa_nil)))) pss_nil)))
      (pss_cons (ps_set (i := 8) nd rfl (.inr rfl) (pe_dcN (own := [("state", 7)]) (g := gName 7) (tt := tYes) (hu65 hr) rfl nd (pi_list (pe_fld (pv 4) rfl))
        (blkOk_by (N := ["book", "blocks", "files", "total", "table", "idle", "number", "state", "known", "later"]) (sc := defScope (top 42)) (by decide +kernel)) (fun _ _ _ _ _ => pg_name (i := 7) nd rfl (.inl rfl)) (fun _ _ _ _ _ => pts_nil) (fun _ _ _ _ _ => pv 7) (fun _ _ _ _ _ => pe_bl)))
      (pss_cons (ps_if (pt_cmpR (op_notInN (hu65 hr)) (pe_op op_mulT (pe_tup (pa_cons (pe_tup (pa_cons pe_int (pa_cons pe_int pa_nil))) pa_nil)) (pv 2)) (pv 8) rfl)
        (pss_one (ps_raise rfl (takes_of rfl rfl rfl rfl) (pmk_oex T.more.oex T.more.init T.more.tyI okN (hr.mono (by decide)) bN .nil pass0 rfl T.g_NotClosed (pa_cons pe_non pa_nil)))) pss_nil)
      (pss_cons (ps_for (passes_of rfl) rfl (pi_enum rfl T.m_enumerate (pa_cons (pe_fld (pv 4) rfl) pa_nil)) (pg_tup rfl (pgs_cons (pg_name (i := 6) nd rfl (.inl rfl)) (pgs_cons (pg_name (i := 7) nd rfl (.inl rfl)) pgs_nil)))
        (pss_one (ps_if (pt_not (pt_val (pe_callB (cr_all rfl) rfl T.m_all boot_all' (pa_cons (pe_lc (own := [("later", 9)]) (g := gName 9) (tt := tYes) rfl nd (pi_list (pe_g (ok_next_states T) hr (pa_cons (pv 0) (pa_cons (pv 1) (pa_cons (pv 3) (pa_cons (pv 7) pa_nil))))))
            (blkOk_by (N := ["book", "blocks", "files", "total", "table", "idle", "number", "state", "known", "later"]) (sc := defScope (top 42)) (by decide +kernel)) (fun _ _ _ _ _ => pg_name (i := 9) nd rfl (.inl rfl)) (fun _ _ _ _ _ => pts_nil)
            (fun _ _ _ _ _ => pe_and (pe_cmpR op_notN (pv 9) pe_non (nomark _)) (pe_one (pe_cmpR (op_inNK K P w (hu65 hr)) (pv 9) (pv 8) rfl)))) pa_nil))))
          (pss_one (ps_raise rfl (takes_of rfl rfl rfl rfl) (pmk_oex T.more.oex T.more.init T.more.tyI okN (hr.mono (by decide)) bN .nil pass0 rfl T.g_NotClosed (pa_cons (pv 6) pa_nil)))) pss_nil)))
      (pss_one (ps_ret (pe_callB call_len rfl T.m_len boot_len' (pa_cons (pe_fld (pv 4) rfl) pa_nil))))))))), ?_⟩
    obtain ⟨dx, l, hT, hl⟩ := id TA
    have hlen : us.length = ds.length := dps_len hds
    have tabR : ∀ {H' : Hp} {R : VK}, Same H H' → R (.ref l) H' → tFld K (tVar 4) "own_states" [some (.ref a), some (.int b), some (.int f), some (.int t), some (.ref tb), some (idV i), none, none, none, none] H' R := fun {H' R} s r =>
      ⟨_, rfl, tb, _, dx, _, _, rfl, s _ _ hT, T.c_Table, T.n_own_states, ts_lookup _, r⟩
    refine ⟨_, rfl, _, rfl, _, rfl, b, f, t, rfl, b1, b2, by omega, by omega, t1', t2, ?_⟩
    refine ⟨_, rfl, rfl, _, rfl, ?_⟩
    refine ite2 (fun hne => ?ga) (fun _ => ?gb)
    case' ga =>
      obtain ⟨j, hj⟩ : ∃ j, i = some j := by
        cases i with
        | none => (have e : decide (idV none = V.non) = true := decide_eq_true rfl); rw [e] at hne; cases hne
        | some j => exact ⟨j, rfl⟩
      obtain ⟨j0, j1⟩ := hi j hj
      refine ⟨_, rfl, j, 0, 300, by rw [hj]; rfl, j0, j1, ?_⟩
    all_goals
      refine ⟨_, rfl, tb, _, dx, _, _, rfl, hT, T.c_Table, T.n_own_states, ts_lookup _, l, us, rfl, SqL.of hl, ?_⟩
      refine for_it (walk_enum (K := K) (a := l) (xs := us)) (fun n σ H' => ∃ x y, σ = [some (.ref a), some (.int b), some (.int f), some (.int t), some (.ref tb), some (idV i), x, y, none, none] ∧ Same H H' ∧ ∀ j d, j < n → ds[j]? = some d → listed b f t i d = true)
        ⟨_, _, rfl, Same.refl H, fun j d hj => absurd hj (Nat.not_lt_zero j)⟩ ?_ ?_ ?_
      · rintro n σ H' _ ⟨x, y, rfl, s1, _⟩
        exact sql_same s1 (SqL.of hl)
      · rintro n x σ H1 H2 hn ⟨x', y', rfl, s1, hall⟩ ⟨T0, x1, x2, rfl, hT0, rfl, e1, e2⟩
        cases e1
        obtain ⟨d, hd1, hd2⟩ := dps_get hds e2
        have s2 := s1.trans (same_upd (o := .tup [.int (n : Nat), x2]) hT0)
        refine ⟨T0, _, rfl, SqT.of upd_same, rfl, _, _, rfl, _, _, rfl, rfl, ?_⟩
        refine ⟨_, rfl, _, rfl, _, rfl, _, rfl, _, rfl, x2, d, b, t, f, i, rfl, dp_same s2 _ _ hd2, fun H3 s3 => ⟨_, rfl, ?_⟩⟩
        cases c : listed b f t i d with
        | false =>
          refine iteT ⟨_, rfl, nc_read T (k := some n) rfl fun H' d' s4 hd' => ?_⟩
          exact qno (some n) (checkM_listed hall hd1 c) H' d' ((s2.trans s3).trans s4) hd'
        | true =>
          refine iteF ⟨_, _, rfl, s2.trans s3, fun j e hj he => ?_⟩
          by_cases hjn : j < n
          · exact hall j e hjn he
          · have : j = n := by omega
            subst this
            rw [hd1] at he
            cases he
            exact c
      · rintro σ H1 ⟨x, y, rfl, s1, hall⟩
        have hlist : ∀ d ∈ ds, listed b f t i d = true := fun d hd => by
          obtain ⟨j, hj⟩ := List.mem_iff_getElem?.mp hd
          exact hall j d (by rw [hlen]; exact (List.getElem?_eq_some_iff.mp hj).1) hj
        have hsts := dps_sts' hds hlist
        have hslen := Paired.length hsts
        refine ⟨_, rfl, tb, _, dx, _, _, rfl, s1 _ _ hT, T.c_Table, T.n_own_states, ts_lookup _, l, rfl, ⟨us, sql_same s1 (SqL.of hl)⟩, fun D hD nmD => ?_⟩
        refine dcN_list (P := P) (w := w) (K := K) (a := l) (xs := us) (fun n H' => (∃ es, H' = upd H1 D (dnO P w D es) ∧ DN P w K H' D es ∧ es.length ≤ n ∧ ∀ s, s ∈ es.map (·.1) ↔ s ∈ (ds.map unD).take n)) ⟨[], rfl, dn_nil upd_same nmD, Nat.le_refl _, fun s => by simp⟩ ?_ ?_ ?_
        · rintro n H' _ ⟨es, rfl, _⟩
          exact sql_same (s1.trans (same_upd hD)) (SqL.of hl)
        · rintro n x H' hx ⟨es, rfl, DD, hln, hmem⟩
          obtain ⟨st, h1, h2⟩ := sts_get hsts hx
          have s2 := s1.trans (same_upd (o := dnO P w D es) hD)
          have hx2 := dp_same s2 _ _ h2
          obtain ⟨ad, _, rfl, _, _⟩ := dp_st hx2
          have hi2 := (List.getElem?_eq_some_iff.mp h1).1
          have ep := (List.getElem?_eq_some_iff.mp h1).2
          refine ⟨rfl, _, rfl, rfl, st, es, ad, rfl, hx2, DD, putN es st ad, upd_upd, DD.put hx2 (by have := (List.getElem?_eq_some_iff.mp hx).1; omega), by have := putN_len es st ad; omega, fun s => ?_⟩
          rw [putN_keys, List.take_succ_eq_append_getElem hi2, ep, List.mem_append, List.mem_singleton, ← hmem s]
          by_cases c : st ∈ es.map (·.1)
          · rw [if_pos c]
            exact ⟨.inl, fun z => z.elim id fun z => by rw [z]; exact c⟩
          · rw [if_neg c, List.mem_append, List.mem_singleton]
        · rintro H2 ⟨es, rfl, DD, _, hmem⟩
          have hmem : ∀ s, s ∈ es.map (·.1) ↔ s ∈ ds.map unD := fun s => by
            have := hmem s
            rw [List.take_of_length_le (by omega)] at this
            exact this
          have s2 := s1.trans (same_upd (o := dnO P w D es) hD)
          generalize hH2 : upd H1 D (dnO P w D es) = H2 at DD s2
          refine ⟨by show 2 ≤ sizeLine; decide, fun p1 hp1 => ⟨by show 1 ≤ sizeLine; decide, fun p2 hp2 => ?_⟩⟩
          have s3 := s2.trans ((same_upd (o := .tup [.int 0, .int 0]) hp1).trans (same_upd (o := .tup [.ref p1]) hp2))
          have DD3 := (DD.same (same_upd (o := .tup [.int 0, .int 0]) hp1)).same (same_upd (o := .tup [.ref p1]) hp2)
          have p12 : p1 ≠ p2 := fun z => by subst z; rw [upd_same] at hp2; cases hp2
          refine ⟨_, rfl, p2, f, [.ref p1], rfl, rfl, upd_same, by simp, by omega, by omega, by show 1 ≤ 1000; decide, fun p3 H3 s4 hp3 => ?_⟩
          have hz : Dp K H3 (.ref p3) (stD (zeros f)) := dp_zeros (s4 _ _ (by rw [upd_ne p12]; exact upd_same)) hp3
          have s5 := s3.trans s4
          have DD5 := DD3.same s4
          refine ⟨_, rfl, zeros f, D, es, hz, rfl, DD5, _, rfl, ?_⟩
          rw [mem_take_keys hmem]
          by_cases cz : zeros f ∈ ds.map unD
          case neg =>
            rw [decide_eq_false cz]
            exact iteT (nc_read T (k := none) rfl fun H' d' s6 hd' => qno none (checkM_zero hlist cz) H' d' (s5.trans s6) hd')
          rw [decide_eq_true cz]
          refine iteF ⟨_, rfl, tb, _, dx, _, _, rfl, s5 _ _ hT, T.c_Table, T.n_own_states, ts_lookup _, l, us, rfl, sql_same s5 (SqL.of hl), ?_⟩
          refine for_it (walk_enum (K := K) (a := l) (xs := us)) (fun n σ H' => ∃ x y, σ = [some (.ref a), some (.int b), some (.int f), some (.int t), some (.ref tb), some (idV i), x, y, some (.ref D), none] ∧ Same H3 H' ∧ ∀ j d, j < n → ds[j]? = some d → entryOk bk b t (ds.map unD) (unD d) = true)
            ⟨_, _, rfl, Same.refl H3, fun j d hj => absurd hj (Nat.not_lt_zero j)⟩ ?_ ?_ ?_
          · rintro n σ H' _ ⟨x, y, rfl, s6, _⟩
            exact sql_same (s5.trans s6) (SqL.of hl)
          · rintro n x σ H4 H5 hn ⟨x', y', rfl, s6, hall2⟩ ⟨T0, x1, x2, rfl, hT0, rfl, e1, e2⟩
            cases e1
            obtain ⟨d, hd1, hd2⟩ := dps_get hds e2
            have hle := listed_eq (hlist d (List.mem_of_getElem? hd1))
            rw [hle.1] at hd2
            have s7 := (s5.trans s6).trans (same_upd (o := .tup [.int (n : Nat), x2]) hT0)
            have hd7 := dp_same s7 _ _ hd2
            refine ⟨T0, _, rfl, SqT.of upd_same, rfl, _, _, rfl, _, _, rfl, rfl, ?_⟩
            refine ⟨_, rfl, _, rfl, _, rfl, _, rfl, a, bk, x2, unD d, b, t, rfl, ok, B.same s7, hd7, hle.2.1, b2, t1', t2, fun H6 L os s8 nL hL hlL hos => ?_⟩
            have DD8 := (DD5.same (s6.trans (same_upd (o := .tup [.int (n : Nat), x2]) hT0))).same s8
            refine ⟨L, rfl, ⟨_, SqL.of hL⟩, fun M hM => ?_⟩
            have sm : ∀ o, Same H6 (upd H6 M o) := fun o => same_upd hM
            refine lc_list (K := K) (a := L) (xs := os) (fun m H' => H' = upd H6 M (.lst ((((succs bk b t (unD d)).take m).map (inS (ds.map unD))).map V.bl))) rfl ?_ ?_ ?_
            · rintro m H' _ rfl
              exact sql_same (sm _) (SqL.of hL)
            · rintro m x H' hx rfl
              obtain ⟨o, ho1, ho2⟩ : ∃ o, (succs bk b t (unD d))[m]? = some o ∧ OptV K H6 x o := by
                clear hall2
                revert hx hos
                generalize succs bk b t (unD d) = sl
                clear hlL hL
                intro hos
                induction hos generalizing m with
                | nil => intro hx; simp at hx
                | cons h t ih =>
                  intro hx
                  cases m with
                  | zero =>
                    simp at hx
                    subst hx
                    exact ⟨_, rfl, h⟩
                  | succ m =>
                    simp at hx
                    obtain ⟨o, e1, e2⟩ := ih m hx
                    exact ⟨o, by simpa using e1, e2⟩
              have hi2 := (List.getElem?_eq_some_iff.mp ho1).1
              have ep := (List.getElem?_eq_some_iff.mp ho1).2
              have hsl := sizeLine_eq
              have hosl := Paired.length hos
              have fin : ∃ acc, upd H6 M (.lst ((((succs bk b t (unD d)).take m).map (inS (ds.map unD))).map V.bl)) M = some (.lst acc) ∧ acc.length < sizeLine ∧ upd (upd H6 M (.lst ((((succs bk b t (unD d)).take m).map (inS (ds.map unD))).map V.bl))) M (.lst (acc ++ [V.bl (inS (ds.map unD) o)])) = upd H6 M (.lst ((((succs bk b t (unD d)).take (m + 1)).map (inS (ds.map unD))).map V.bl)) := by
                refine ⟨_, upd_same, ?_, ?_⟩
                · rw [List.length_map, List.length_map, List.length_take]
                  omega
                · rw [upd_upd, List.take_succ_eq_append_getElem hi2, ep, List.map_append, List.map_append]
                  rfl
              refine ⟨rfl, _, rfl, rfl, _, rfl, ?_⟩
              cases o with
              | none =>
                cases (show x = .non from ho2)
                exact iteF fin
              | some st' =>
                have ho3 := dp_same (sm (.lst ((((succs bk b t (unD d)).take m).map (inS (ds.map unD))).map V.bl))) _ _ (show Dp K H6 x (stD st') from ho2)
                obtain ⟨ad, _, rfl, _, _⟩ := dp_st ho3
                refine iteT ⟨_, rfl, _, rfl, st', D, es, ho3, rfl, DD8.same (sm _), ?_⟩
                rw [mem_take_keys hmem]
                exact fin
            · rintro H' rfl
              have hosl := Paired.length hos
              rw [hosl, List.take_length]
              refine ⟨M, (succs bk b t (unD d)).map (inS (ds.map unD)), rfl, SqL.of upd_same, _, rfl, ?_⟩
              have ea : ((succs bk b t (unD d)).map (inS (ds.map unD))).all id = entryOk bk b t (ds.map unD) (unD d) := by
                unfold entryOk
                rw [List.all_map]
                rfl
              rw [ea]
              cases ce : entryOk bk b t (ds.map unD) (unD d) with
              | false =>
                refine iteT ⟨_, rfl, nc_read T (k := some n) rfl fun H' d' s9 hd' => ?_⟩
                exact qno (some n) (checkM_entry hlist cz (fun j y hj hy => hall2 j y hj hy) hd1 ce) H' d' ((s7.trans s8).trans ((sm _).trans s9)) hd'
              | true =>
                refine iteF ⟨_, _, rfl, ((s6.trans (same_upd hT0)).trans s8).trans (sm _), fun j e hj he => ?_⟩
                by_cases hjn : j < n
                · exact hall2 j e hjn he
                · have : j = n := by omega
                  subst this
                  rw [hd1] at he
                  cases he
                  exact ce
          · rintro σ H4 ⟨x, y, rfl, s6, hall2⟩
            have s7 := s5.trans s6
            refine ⟨_, rfl, tb, _, dx, _, _, rfl, s7 _ _ hT, T.c_Table, T.n_own_states, ts_lookup _, _, us.length, rfl, .inl ⟨us, sql_same s7 (SqL.of hl), rfl⟩, ?_⟩
            rw [hlen]
            refine qok ds.length (checkM_ok hlist cz fun d hd => ?_) _ s7
            obtain ⟨j, hj⟩ := List.mem_iff_getElem?.mp hd
            exact hall2 j d (by rw [hlen]; exact (List.getElem?_eq_some_iff.mp hj).1) hj
end
end K76

/-! The walk, 12: the refusals' choices. -/
namespace K76
open PySem PySem.Spec PyProof.Rows L2
theorem putK_mem {kvs : List (Key × V)} {k : Key} {v : V} {q : Key × V} (h : q ∈ putK kvs k v) : q ∈ kvs ∨ q = (k, v) := by
  unfold putK at h
  split at h
  · obtain ⟨kv, h1, e⟩ := List.mem_map.mp h
    by_cases c : kv.1 = k
    · rw [if_pos c] at e
      subst e
      exact .inr (by rw [← c])
    · rw [if_neg c] at e
      subst e
      exact .inl h1
  · rcases List.mem_append.mp h with h | h
    · exact .inl h
    · exact .inr (by simpa using h)
theorem valV_mem {kvs : List (Key × V)} {k : Key} {v : V} (h : valV kvs k = some v) : (k, v) ∈ kvs := by
  unfold valV at h
  obtain ⟨q, h1, h2⟩ := Option.map_eq_some_iff.mp h
  have m := List.mem_of_find?_eq_some h1
  have e : q.1 = k := by simpa using List.find?_some h1
  subst h2 e
  exact m
/-- two ways that meet again -/
theorem ite_join {c : Prop} [Decidable c] {A : Prop} {G : Hp → Prop} {H0 : Hp} (C : Hp → Prop) (h2 : C H0) (h1 : c → (∀ H2, C H2 → G H2) → A) (h : ∀ H2, C H2 → G H2) : if c then A else G H0 := by
  by_cases z : c
  · rw [if_pos z]
    exact h1 z h
  · rw [if_neg z]
    exact h _ h2
/-- one whole choice: so many blocks, of which so many idle -/
def ChE (K : PySem.W.Frag) (H : Hp) (bk : Bk) (b : Int) (kv : Key × V) : Prop := ∃ (tot idle : Int) (p : Addr) (gv : V), kv = (.inl tot, .ref p) ∧ SqT K H p [.int idle, gv] ∧ 1 ≤ tot ∧ tot ≤ b ∧ Whole bk (tot - idle, tot)
theorem ChE.ts {K : PySem.W.Frag} {H H' : Hp} {bk : Bk} {b : Int} {kv : Key × V} (h : ChE K H bk b kv) (t : TupS K H H') : ChE K H' bk b kv := by
  obtain ⟨tot, idle, p, gv, e, h1, r⟩ := h
  exact ⟨tot, idle, p, gv, e, t _ _ h1, r⟩
section
variable {P : Program} {w : World} {K : PySem.W.Frag} {mg : Str → Option Value} {base : Heap}
def spWholeC (K : PySem.W.Frag) : Sp := fun vs H Q _ => ∃ (a : Addr) (bk : Bk) (b : Int), vs = [.ref a, .int b] ∧ bk.Ok ∧ BookAt K H a bk ∧ 1 ≤ b ∧ b ≤ 300 ∧
  ∀ H' D kvs, Same H H' → H D = none → H' D = some (.dK kvs) → kvs.length ≤ 1000 → (∀ kv ∈ kvs, ChE K H' bk b kv) → Q (.ref D) H'
theorem sc_whole_choices : FnScope ["book", "blocks", "found", "hold", "step", "total"] ["book", "blocks"] (defScope (top 20)) := ⟨rfl, rfl, rfl, by decide +kernel, rfl, by decide +kernel, by decide +kernel⟩
/-- book.first -/
theorem first_read {H : Hp} {a : Addr} {bk : Bk} {Q : VK} (B : BookAt K H a bk) (q : Q (.int bk.first) H) : ∃ a' dx fs, V.ref a = .ref a' ∧ H a' = some (.ins (He.ga K "Book") dx fs) ∧ spFirst K (.ref a' :: []) H Q E0 := by
  obtain ⟨dx, sh, h1, h2⟩ := id B
  exact ⟨a, dx, _, rfl, h1, a, bk, rfl, B, q⟩
theorem ok_whole_choices (T : Tx K mg) : FnG P w K mg base CX0 4 "whole_choices" ["book", "blocks"] (spWholeC K) := by
  obtain ⟨fd, F⟩ := T.f_whole_choices
  refine FnG.of F T.g_whole_choices (fun _ _ _ _ _ _ us hl => match us, hl with | [_, _], _ => rfl) (F.ok sc_whole_choices (fun vs H Q E h => ?_) (fun cdv A outer s H vs Q E hr h => ?_))
  · obtain ⟨a, bk, b, rfl, _⟩ := h
    rfl
  · obtain ⟨a, bk, b, rfl, ok, B, b1, b2, q⟩ := h
    have nd := sc_whole_choices.nd
    have hu := hu_of hr
    have r2 : Room 2 _ := hr.mono (by decide)
    refine ⟨_, pss_cons (ps_set (i := 2) nd rfl (.inl rfl) pe_dnewK)
      (pss_cons (ps_if (pt_cmpR op_le (pe_first T (pv 0) r2) (pv 1) (nomark _))
        (pss_one (ps_dput hu (pv 2) (pe_first T (pv 0) r2) (pe_tup (pa_cons (pe_op op_sub (pe_first T (pv 0) r2) pe_int) (pa_cons (pe_lst (pa_cons pe_int pa_nil)) pa_nil))) rfl)) pss_nil)
      (pss_cons (ps_for PassesOwn.never rfl (pi_range2 rfl T.m_range (pa_cons (pe_first T (pv 0) r2) (pa_cons (pv 1) pa_nil))) (pg_name (i := 3) nd rfl (.inl rfl))
        (pss_cons (ps_set (i := 4) nd rfl (.inl rfl) (pe_m (pv 0) (ok_step T) hr (pa_cons (pv 3) pa_nil)))
        (pss_cons (ps_set (i := 5) nd rfl (.inl rfl) (pe_op op_add (pv 3) (pv 4)))
        (pss_one (ps_if (PW.pt (pw_and (pt_cmpR op_le (pv 5) (pv 1) (nomark _)) (pw_and1 (PW.pt (pw_or (pt_cmp (pc_dnotin hu (pv 5) (pv 2))) (pw_or1 (pt_cmpR op_lt (pe_ix ix_tup (pe_dget hu (pv 2) (pv 5) (fun _ _ => rfl)) pe_int (fun _ _ => rfl)) (pe_op op_sub (pv 4) pe_int) (nomark _))))))))
          (pss_one (ps_dput hu (pv 2) (pv 5) (pe_tup (pa_cons (pe_op op_sub (pv 4) pe_int) (pa_cons (pe_lst (pa_cons (pv 3) (pa_cons pe_int pa_nil))) pa_nil))) rfl)) pss_nil)))))
      (pss_one (ps_ret (pv 2))))), ?_⟩
    have f1 := ok.f1
    have fr := ok.fr
    have rr := ok.r
    have hsl := sizeLine_eq
    refine fun D hD => ?_
    have s1 := same_upd (o := .dK []) hD
    have hD1 : upd H D (.dK []) D = some (.dK []) := upd_same
    generalize upd H D (.dK []) = H1 at s1 hD1 ⊢
    have C1 : Same H H1 ∧ ∃ kvs, H1 D = some (.dK kvs) ∧ kvs.length ≤ 1 ∧ ∀ kv ∈ kvs, ChE K H1 bk b kv := ⟨s1, [], hD1, by decide, fun kv h => by cases h⟩
    refine ⟨_, rfl, first_read (B.same s1) ⟨_, rfl, bk.first, b, rfl, rfl, _, rfl, ?_⟩⟩
    refine ite_join (H0 := H1) (fun H2 => Same H H2 ∧ ∃ kvs, H2 D = some (.dK kvs) ∧ kvs.length ≤ 1 ∧ ∀ kv ∈ kvs, ChE K H2 bk b kv) C1 (fun c L => ?_) (fun H2 ⟨s2, kvs, hD2, hk2, hc2⟩ => ?_)
    · have c := of_decide_eq_true c
      refine ⟨_, rfl, first_read (B.same s1) ⟨bk.first, 1, rfl, rfl, by show 1 ≤ sizeLine; decide, fun g hg => ⟨by show 2 ≤ sizeLine; decide, fun p hp => ?_⟩⟩⟩
      have s2 := (same_upd (o := .lst [.int 1]) hg).trans (same_upd (o := .tup [.int (bk.first - 1), .ref g]) hp)
      have hp' : upd (upd H1 g (.lst [.int 1])) p (.tup [.int (bk.first - 1), .ref g]) p = some (.tup [.int (bk.first - 1), .ref g]) := upd_same
      generalize upd (upd H1 g (.lst [.int 1])) p (.tup [.int (bk.first - 1), .ref g]) = H2 at s2 hp' ⊢
      have hD2 := s2 _ _ hD1
      refine ⟨_, rfl, _, rfl, first_read ((B.same s1).same s2) ⟨D, _, rfl, DPut.k (k := .inl bk.first) hD2 (by decide), L _ ⟨?_, _, upd_same, by simp [putK], fun kv hkv => ?_⟩⟩⟩
      · intro c' o e
        rw [upd_ne (fun z => by subst z; rw [hD] at e; cases e)]
        exact s2 _ _ (s1 _ _ e)
      · rcases putK_mem hkv with h | rfl
        · cases h
        · exact ⟨bk.first, bk.first - 1, p, .ref g, rfl, ts_upd hD2 rfl _ _ (SqT.of hp'), f1, c, .inr (.inl (by congr 1; omega))⟩
    · refine ⟨_, rfl, first_read (B.same s2) ⟨_, rfl, bk.first, b, rfl, ⟨by omega, by omega, by omega, by omega⟩, ?_⟩⟩
      refine for_range (lo := bk.first) (n := (b - bk.first).toNat) (fun j σ H' => ∃ x y z kvs, σ = [some (.ref a), some (.int b), some (.ref D), x, y, z] ∧ Same H H' ∧ H' D = some (.dK kvs) ∧ kvs.length ≤ j + 1 ∧ ∀ kv ∈ kvs, ChE K H' bk b kv) ⟨_, _, _, kvs, rfl, s2, hD2, hk2, hc2⟩ ?_ ?_
      · rintro j σ H3 hj ⟨x, y, z, kvs, rfl, s3, hD3, hk3, hc3⟩
        have hlo : bk.first ≤ bk.first + (j : Int) := by omega
        have hlt : bk.first + (j : Int) < b := by omega
        generalize bk.first + (j : Int) = h at hlo hlt ⊢
        have sg := bk.step_ge ok h
        have sl := bk.step_le ok h
        obtain ⟨dxB, shB, hB1, _⟩ := B.same s3
        refine ⟨_, rfl, a, dxB, _, rfl, hB1, bk_no _ _, _, rfl, a, bk, h, ok, by omega, by omega, rfl, B.same s3, ?_⟩
        refine ⟨_, rfl, _, rfl, h, bk.step h, rfl, rfl, ?_⟩
        -- the turn's end
        have stay : ∃ x y z kvs', [some (V.ref a), some (V.int b), some (V.ref D), some (V.int h), some (V.int (bk.step h)), some (V.int (h + bk.step h))] = [some (.ref a), some (.int b), some (.ref D), x, y, z] ∧ Same H H3 ∧ H3 D = some (.dK kvs') ∧ kvs'.length ≤ j + 1 + 1 ∧ ∀ kv ∈ kvs', ChE K H3 bk b kv :=
          ⟨_, _, _, kvs, rfl, s3, hD3, by omega, hc3⟩
        refine ⟨_, rfl, _, rfl, h + bk.step h, b, rfl, rfl, _, rfl, ?_⟩
        by_cases c : h + bk.step h ≤ b
        case neg =>
          rw [decide_eq_false c]
          exact iteF stay
        rw [decide_eq_true c]
        refine iteT ?_
        have put : ∃ v, [some (V.ref a), some (V.int b), some (V.ref D), some (V.int h), some (V.int (bk.step h)), some (V.int (h + bk.step h))][4]? = some (some v) ∧ ∃ i j', v = V.int i ∧ V.int 1 = V.int j' ∧
          ∃ v, [some (V.ref a), some (V.int b), some (V.ref D), some (V.int h), some (V.int (bk.step h)), some (V.int (h + bk.step h))][3]? = some (some v) ∧ [v, V.int 1].length ≤ sizeLine ∧ ∀ g, H3 g = none → [V.int (i - j'), V.ref g].length ≤ sizeLine ∧ ∀ p, upd H3 g (.lst [v, V.int 1]) p = none →
            ∃ x, [some (V.ref a), some (V.int b), some (V.ref D), some (V.int h), some (V.int (bk.step h)), some (V.int (h + bk.step h))][2]? = some (some x) ∧ ∃ y, [some (V.ref a), some (V.int b), some (V.ref D), some (V.int h), some (V.int (bk.step h)), some (V.int (h + bk.step h))][5]? = some (some y) ∧
              ∃ a' H4, x = V.ref a' ∧ DPut (upd (upd H3 g (.lst [v, V.int 1])) p (.tup [V.int (i - j'), V.ref g])) a' y (.ref p) H4 ∧
                ∃ x y z kvs', [some (V.ref a), some (V.int b), some (V.ref D), some (V.int h), some (V.int (bk.step h)), some (V.int (h + bk.step h))] = [some (.ref a), some (.int b), some (.ref D), x, y, z] ∧ Same H H4 ∧ H4 D = some (.dK kvs') ∧ kvs'.length ≤ j + 1 + 1 ∧ ∀ kv ∈ kvs', ChE K H4 bk b kv := by
          refine ⟨_, rfl, bk.step h, 1, rfl, rfl, _, rfl, by show 2 ≤ sizeLine; decide, fun g hg => ⟨by show 2 ≤ sizeLine; decide, fun p hp => ?_⟩⟩
          have s4 := (same_upd (o := .lst [.int h, .int 1]) hg).trans (same_upd (o := .tup [.int (bk.step h - 1), .ref g]) hp)
          have hp' : upd (upd H3 g (.lst [.int h, .int 1])) p (.tup [.int (bk.step h - 1), .ref g]) p = some (.tup [.int (bk.step h - 1), .ref g]) := upd_same
          generalize upd (upd H3 g (.lst [.int h, .int 1])) p (.tup [.int (bk.step h - 1), .ref g]) = H4 at s4 hp' ⊢
          have hD4 := s4 _ _ hD3
          have t5 := ts_upd (K := K) (o' := .dK (putK kvs (.inl (h + bk.step h)) (.ref p))) hD4 rfl
          refine ⟨_, rfl, _, rfl, D, _, rfl, DPut.k (k := .inl (h + bk.step h)) hD4 (by omega), _, _, _, _, rfl, ?_, upd_same, by have := length_putK kvs (.inl (h + bk.step h)) (.ref p); omega, fun kv hkv => ?_⟩
          · intro c' o e
            rw [upd_ne (fun z => by subst z; rw [hD] at e; cases e)]
            exact s4 _ _ (s3 _ _ e)
          · rcases putK_mem hkv with h' | rfl
            · exact ((hc3 kv h').ts (Same.ts s4)).ts t5
            · exact ⟨h + bk.step h, bk.step h - 1, p, .ref g, rfl, t5 _ _ (SqT.of hp'), by omega, c, .inr (.inr ⟨h, hlo, by congr 1; omega⟩)⟩
        refine ⟨_, rfl, _, rfl, D, _, rfl, DGet.k (k := .inl (h + bk.step h)) hD3, _, rfl, ?_⟩
        cases e : valV kvs (.inl (h + bk.step h)) with
        | none => exact iteT put
        | some v =>
          obtain ⟨tot, idle, p, gv, e1, hp, h1, h2, h3⟩ := hc3 _ (valV_mem e)
          cases e1
          refine iteF ⟨_, rfl, _, rfl, D, .ref p, rfl, .inl ⟨kvs, .inl (h + bk.step h), .inl hD3, rfl, e.symm⟩, p, _, _, _, rfl, rfl, hp, rfl, _, rfl, bk.step h, 1, rfl, rfl, idle, bk.step h - 1, rfl, rfl, _, rfl, ?_⟩
          exact ite2 (fun _ => put) (fun _ => stay)
      · rintro σ H3 ⟨x, y, z, kvs, rfl, s3, hD3, hk3, hc3⟩
        exact ⟨_, rfl, q H3 D kvs s3 hD hD3 (by omega) hc3⟩
end
end K76

/-! The walk, 13: the refusals' layers. -/
namespace K76
open PySem PySem.Spec PyProof.Rows L2
/-- so many files filled by whole givings -/
def FillW (bk : Bk) (k : Nat) (idle held : Int) : Prop := ∃ ps : Stt, ps.length = k ∧ (∀ p ∈ ps, Whole bk p) ∧ holds ps = held ∧ idleS ps = idle
theorem FillW.zero (bk : Bk) : FillW bk 0 0 0 := ⟨[], rfl, (fun p h => by cases h), rfl, rfl⟩
theorem FillW.more {bk : Bk} {k : Nat} {idle held tot i : Int} (F : FillW bk k idle held) (W : Whole bk (tot - i, tot)) : FillW bk (k + 1) (idle + i) (held + tot) := by
  obtain ⟨ps, h1, h2, h3, h4⟩ := F
  refine ⟨(tot - i, tot) :: ps, by rw [List.length_cons, h1], fun p hp => ?_, ?_, ?_⟩
  · rcases List.mem_cons.mp hp with rfl | hp
    · exact W
    · exact h2 p hp
  · rw [holds_cons, h3]
    show tot + held = held + tot
    omega
  · rw [idle_cons, h4]
    show (tot - (tot - i)) + idle = idle + i
    omega
theorem FillW.idle0 {bk : Bk} {k : Nat} {idle held : Int} (F : FillW bk k idle held) : FillW bk (k + 1) idle held := by
  have := F.more (i := 0) (tot := 0) (.inl rfl)
  rw [Int.add_zero, Int.add_zero] at this
  exact this
/-- a cell of a layer -/
def Cel (K : PySem.W.Frag) (H : Hp) (bk : Bk) (prev : Option (List V)) (k h : Nat) (v : V) : Prop := v = .non ∨ ∃ (p : Addr) (idle : Int) (tv gv : V), v = .ref p ∧ SqT K H p [.int idle, tv, gv] ∧ FillW bk k idle h ∧
  ∀ pv, prev = some pv → ∃ (tot : Nat) (c : V), tv = .int tot ∧ tot ≤ h ∧ pv[h - tot]? = some c ∧ c ≠ .non
theorem Cel.ts {K : PySem.W.Frag} {H H' : Hp} {bk : Bk} {prev : Option (List V)} {k h : Nat} {v : V} (c : Cel K H bk prev k h v) (t : TupS K H H') : Cel K H' bk prev k h v := by
  rcases c with c | ⟨p, idle, tv, gv, e, h1, r⟩
  · exact .inl c
  · exact .inr ⟨p, idle, tv, gv, e, t _ _ h1, r⟩
def Lay (K : PySem.W.Frag) (H : Hp) (bk : Bk) (b : Int) (prev : Option (List V)) (k : Nat) (xs : List V) : Prop := xs.length = b.toNat + 1 ∧ ∀ h v, xs[h]? = some v → Cel K H bk prev k h v
theorem Lay.ts {K : PySem.W.Frag} {H H' : Hp} {bk : Bk} {b : Int} {prev : Option (List V)} {k : Nat} {xs : List V} (c : Lay K H bk b prev k xs) (t : TupS K H H') : Lay K H' bk b prev k xs := ⟨c.1, fun h v e => (c.2 h v e).ts t⟩
theorem Lay.set {K : PySem.W.Frag} {H : Hp} {bk : Bk} {b : Int} {prev : Option (List V)} {k : Nat} {xs : List V} (c : Lay K H bk b prev k xs) (i : Nat) (v : V) (cv : Cel K H bk prev k i v) : Lay K H bk b prev k (xs.set i v) := by
  refine ⟨by rw [List.length_set]; exact c.1, fun h u e => ?_⟩
  by_cases hi : h = i
  · subst hi
    have hlt : h < xs.length := by
      have := (List.getElem?_eq_some_iff.mp e).1
      rwa [List.length_set] at this
    rw [List.getElem?_set_self hlt] at e
    cases e
    exact cv
  · rw [List.getElem?_set_ne (Ne.symm hi)] at e
    exact c.2 h u e
def prevOf (Ls : List (Addr × List V)) (j : Nat) : Option (List V) := if j = 0 then none else (Ls[j - 1]?).map Prod.snd
def LL (K : PySem.W.Frag) (H : Hp) (bk : Bk) (b : Int) (Ls : List (Addr × List V)) : Prop := ∀ j L xs, Ls[j]? = some (L, xs) → H L = some (.lst xs) ∧ Lay K H bk b (prevOf Ls j) j xs
theorem prevOf_app {Ls : List (Addr × List V)} {x : Addr × List V} {j : Nat} (h : j ≤ Ls.length) : prevOf (Ls ++ [x]) j = prevOf Ls j := by
  unfold prevOf
  by_cases h0 : j = 0
  · rw [if_pos h0, if_pos h0]
  · rw [if_neg h0, if_neg h0, List.getElem?_append_left (by omega)]
theorem LL.snoc {K : PySem.W.Frag} {H : Hp} {bk : Bk} {b : Int} {Ls : List (Addr × List V)} {L : Addr} {xs : List V} (h : LL K H bk b Ls) (hL : H L = some (.lst xs)) (hl : Lay K H bk b (prevOf Ls Ls.length) Ls.length xs) : LL K H bk b (Ls ++ [(L, xs)]) := by
  intro j M ys e
  by_cases hj : j < Ls.length
  · rw [List.getElem?_append_left hj] at e
    rw [prevOf_app (by omega)]
    exact h j M ys e
  · have hj' : j = Ls.length := by
      have := (List.getElem?_eq_some_iff.mp e).1
      simp at this
      omega
    subst hj'
    rw [List.getElem?_append_right (Nat.le_refl _), Nat.sub_self] at e
    have e' : (L, xs) = (M, ys) := by simpa using e
    cases e'
    rw [prevOf_app (Nat.le_refl _)]
    exact ⟨hL, hl⟩
/-- all but the thing at d stand -/
def SB (d : Addr) (H H' : Hp) : Prop := ∀ c u, c ≠ d → H c = some u → H' c = some u
theorem SB.ts {K : PySem.W.Frag} {d : Addr} {H H' : Hp} {o : HO} (s : SB d H H') (h : H d = some o) (m : isMu o = true) : TupS K H H' := by
  intro a xs hx
  have ne : ∀ u, H a = some u → isMu u = false → a ≠ d := fun u e q z => by
    subst z
    rw [h] at e
    cases e
    rw [m] at q
    cases q
  rcases hx with (hx | ⟨o, hx⟩) | hx
  · exact .inl (.inl (s _ _ (ne _ hx rfl) hx))
  · exact .inl (.inr ⟨o, s _ _ (ne _ hx rfl) hx⟩)
  · exact .inr hx
theorem LL.sb {K : PySem.W.Frag} {H H' : Hp} {bk : Bk} {b : Int} {Ls : List (Addr × List V)} {d : Addr} {kvs : List (Key × V)} (h : LL K H bk b Ls) (s : SB d H H') (hd : H d = some (.dK kvs)) : LL K H' bk b Ls := fun j L xs e =>
  ⟨s _ _ (fun z => by subst z; have := (h j _ xs e).1; rw [hd] at this; cases this) (h j L xs e).1, (h j L xs e).2.ts (s.ts hd rfl)⟩
/-! ### subscripts, K named from outside -/
theorem ix_tupK {X : Cx} (K : PySem.W.Frag) (h : X.K = K := by rfl) : IxR X (rIxT K) := by subst h; exact ix_tup
theorem ix_listK {X : Cx} (K : PySem.W.Frag) (h : X.K = K := by rfl) : IxR X (rIxL K) := by subst h; exact ix_list
theorem ifor_read {tA tB : TT} {t u : L2.TS} {D : Ends} {σ : L2.St} {H : Hp} (c1 : Bool) (hA : ∀ R : Bool → Hp → Prop, R c1 H → tA σ H R) (hB : c1 = false → ∃ c2, ∀ R : Bool → Hp → Prop, R c2 H → tB σ H R) (put : t D σ H) (stay : u D σ H) : tIfS (tOr tA tB) t u D σ H := by
  refine hA _ ?_
  cases c1 with
  | true => exact iteT (iteT put)
  | false =>
    obtain ⟨c2, h2⟩ := hB rfl
    refine iteF (h2 _ ?_)
    cases c2 with
    | true => exact iteT put
    | false => exact iteF stay
theorem flat_rep (n : Nat) (v : V) : (List.replicate n [v]).flatten = List.replicate n v := by
  induction n with
  | zero => rfl
  | succ n ih => rw [List.replicate_succ, List.flatten_cons, ih, List.replicate_succ]; rfl
theorem rep_get {n h : Nat} {v x : V} (e : (List.replicate n v)[h]? = some x) : x = v := by
  rw [List.getElem?_replicate] at e
  split at e
  · cases e; rfl
  · cases e
theorem ixN_nat {n j : Nat} (h : j < n) : ixN n (j : Int) = some j := by
  unfold ixN
  rw [if_pos (by omega), if_pos (by omega)]
  simp
section
variable {P : Program} {w : World} {K : PySem.W.Frag} {mg : Str → Option Value} {base : Heap}
def spLayers (K : PySem.W.Frag) : Sp := fun vs H Q _ => ∃ (D : Addr) (bk : Bk) (b : Int) (f : Nat) (kvs : List (Key × V)), vs = [.ref D, .int b, .int f] ∧ 1 ≤ b ∧ b ≤ 300 ∧ f ≤ 8 ∧ H D = some (.dK kvs) ∧ (∀ kv ∈ kvs, ChE K H bk b kv) ∧
  ∀ H' F Ls, Same H H' → H' F = some (.lst (Ls.map fun l : Addr × List V => V.ref l.1)) → Ls.length = f + 1 → LL K H' bk b Ls → Q (.ref F) H'
theorem sc_layers : FnScope ["choices", "blocks", "files", "found", "turn", "before", "layer", "total", "idle", "growths", "held", "ahead", "here", "best"] ["choices", "blocks", "files"] (defScope (top 21)) := ⟨rfl, rfl, rfl, by decide +kernel, rfl, by decide +kernel, by decide +kernel⟩
theorem ok_layers (T : Tx K mg) : FnG P w K mg base CX0 1 "layers" ["choices", "blocks", "files"] (spLayers K) := by
  obtain ⟨fd, F⟩ := T.f_layers
  refine FnG.of F T.g_layers (fun _ _ _ _ _ _ us hl => match us, hl with | [_, _, _], _ => rfl) (F.ok sc_layers (fun vs H Q E h => ?_) (fun cdv A outer s H vs Q E hr h => ?_))
  · obtain ⟨D, bk, b, f, kvs, rfl, _⟩ := h
    rfl
  · obtain ⟨D, bk, b, f, kvs, rfl, b1, b2, f8, hD, hch, q⟩ := h
    have nd := sc_layers.nd
    have hu := hu_of hr
    refine ⟨_, pss_cons (ps_set (i := 3) nd rfl (.inl rfl) (pe_lst (pa_cons (pe_op op_rep (pe_lst (pa_cons pe_non pa_nil)) (pe_op op_add (pv 1) pe_int)) pa_nil)))
      (pss_cons (ps_asg (pe_tup (pa_cons pe_int (pa_cons pe_non (pa_cons pe_non pa_nil)))) (pg_sub (pe_ix ix_list (pv 3) pe_int (fun _ _ => rfl)) pe_int set_list))
      (pss_cons (ps_for PassesOwn.never rfl (pi_range1 rfl T.m_range (pa_cons (pv 2) pa_nil)) (pg_name (i := 4) nd rfl (.inl rfl))
        (pss_cons (ps_set (i := 5) nd rfl (.inl rfl) (pe_ix ix_list (pv 3) (pe_un un_neg pe_int) (fun _ _ => rfl)))
        (pss_cons (ps_setLc (i := 6) (own := [("best", 13)]) (g := gName 13) (tt := tYes) rfl nd rfl rfl (sw_true rfl rfl rfl (by decide +kernel)) (pi_list (pv 5))
          (blkOk_by (N := ["choices", "blocks", "files", "found", "turn", "before", "layer", "total", "idle", "growths", "held", "ahead", "here", "best"]) (sc := defScope (top 21)) (by decide +kernel)) (fun _ _ _ _ _ => pg_name (i := 13) nd rfl (.inl rfl)) (fun _ _ _ _ _ => pts_nil)
          (fun _ _ _ _ _ => pe_ifExp (pt_cmpR op_isN (pv 13) pe_non (nomark _)) pe_non (pe_tup (pa_cons (pe_ix (ix_tupK K) (pv 13) pe_int (fun _ _ => rfl)) (pa_cons pe_int (pa_cons pe_non pa_nil))))))
        (pss_cons (ps_lock (ps_for PassesOwn.never rfl (pi_items (pv 0)) (pg_tup rfl (pgs_cons (pg_name (i := 7) nd rfl (.inl rfl)) (pgs_cons (pg_tup rfl (pgs_cons (pg_name (i := 8) nd rfl (.inl rfl)) (pgs_cons (pg_name (i := 9) nd rfl (.inl rfl)) pgs_nil))) pgs_nil)))
          (pss_one (ps_for PassesOwn.never rfl (pi_range1 rfl T.m_range (pa_cons (pe_op op_add (pe_op op_sub (pv 1) (pv 7)) pe_int) pa_nil)) (pg_name (i := 10) nd rfl (.inl rfl))
            (pss_cons (ps_set (i := 11) nd rfl (.inl rfl) (pe_ix ix_list (pv 5) (pv 10) (fun _ _ => rfl)))
            (pss_cons (ps_if (pt_cmpR op_isN (pv 11) pe_non (nomark _)) (pss_one ps_continue) pss_nil)
            (pss_cons (ps_set (i := 12) nd rfl (.inl rfl) (pe_ix ix_list (pv 6) (pe_op op_add (pv 10) (pv 7)) (fun _ _ => rfl)))
            (pss_one (ps_if (PW.pt (pw_or (pt_cmpR op_isN (pv 12) pe_non (nomark _)) (pw_or1 (pt_cmpR op_lt (pe_ix ix_tup (pv 12) pe_int (fun _ _ => rfl)) (pe_op op_add (pe_ix ix_tup (pv 11) pe_int (fun _ _ => rfl)) (pv 8)) (nomark _)))))
              (pss_one (ps_asg (pe_tup (pa_cons (pe_op op_add (pe_ix ix_tup (pv 11) pe_int (fun _ _ => rfl)) (pv 8)) (pa_cons (pv 7) (pa_cons (pv 9) pa_nil)))) (pg_sub (pv 6) (pe_op op_add (pv 10) (pv 7)) set_list))) pss_nil)))))))))
        (pss_one (ps_expr (pe_bm PySem.F.plainAttrs_list PySem.F.slot_list_append PySem.F.type_list_append mt_append (pv 3) (pa_cons (pv 6) pa_nil))))))))
      (pss_one (ps_ret (pv 3))))), ?_⟩
    have hsl := sizeLine_eq
    refine ⟨by show 1 ≤ sizeLine; decide, fun l1 hl1 => ?_⟩
    refine ⟨_, rfl, b, 1, rfl, rfl, l1, b + 1, [.non], rfl, rfl, upd_same, by omega, by omega, by rw [List.length_singleton]; omega, fun l2 hl2 => ?_⟩
    have s1 := (same_upd (o := .lst [.non]) hl1).trans (same_upd (o := .lst (List.replicate (b + 1).toNat [V.non]).flatten) hl2)
    have hL2 : upd (upd H l1 (.lst [.non])) l2 (.lst (List.replicate (b + 1).toNat [V.non]).flatten) l2 = some (.lst (List.replicate (b + 1).toNat V.non)) := by rw [upd_same, flat_rep]
    have hL2n : H l2 = none := by
      cases e : H l2 with
      | none => rfl
      | some u =>
        have : upd H l1 (.lst [.non]) l2 = some u := (same_upd hl1) _ _ e
        rw [this] at hl2
        cases hl2
    generalize upd (upd H l1 (.lst [.non])) l2 (.lst (List.replicate (b + 1).toNat [V.non]).flatten) = H1 at s1 hL2 ⊢
    refine ⟨by show 1 ≤ sizeLine; decide, fun F0 hF0 => ?_⟩
    have s2 := s1.trans (same_upd (o := .lst [.ref l2]) hF0)
    have hF2 : upd H1 F0 (.lst [.ref l2]) F0 = some (.lst [.ref l2]) := upd_same
    have hL22 := same_upd (o := .lst [.ref l2]) hF0 _ _ hL2
    have hF0n : H F0 = none := by
      cases e : H F0 with
      | none => rfl
      | some u => rw [s1 _ _ e] at hF0; cases hF0
    have nF : l2 ≠ F0 := ne_of_none hL2 hF0
    generalize upd H1 F0 (.lst [.ref l2]) = H2 at s2 hF2 hL22 ⊢
    refine ⟨by show 3 ≤ sizeLine; decide, fun p hp => ?_⟩
    have s3 := same_upd (o := .tup [.int 0, .non, .non]) hp
    have hp3 : upd H2 p (.tup [.int 0, .non, .non]) p = some (.tup [.int 0, .non, .non]) := upd_same
    have s23 := s2.trans s3
    have hF3 := s3 _ _ hF2
    have hL3 := s3 _ _ hL22
    generalize upd H2 p (.tup [.int 0, .non, .non]) = H3 at s3 s23 hp3 hF3 hL3 ⊢
    have bn : (b + 1).toNat = b.toNat + 1 := by omega
    refine ⟨_, rfl, F0, [.ref l2], 0, _, rfl, rfl, SqL.of hF3, rfl, l2, _, 0, 0, rfl, rfl, hL3, (show ixN _ ((0 : Nat) : Int) = some 0 from ixN_nat (by rw [List.length_replicate, bn]; exact Nat.succ_pos _)), ?_⟩
    have t4 := ts_upd (K := K) (o' := .lst ((List.replicate (b + 1).toNat V.non).set 0 (.ref p))) hL3 rfl
    have lay0 : Lay K (upd H3 l2 (.lst ((List.replicate (b + 1).toNat V.non).set 0 (.ref p)))) bk b none 0 ((List.replicate (b + 1).toNat V.non).set 0 (.ref p)) :=
      Lay.set ⟨by rw [List.length_replicate, bn], fun h v e => .inl (rep_get e)⟩ 0 _ (.inr ⟨p, 0, .non, .non, rfl, t4 _ _ (SqT.of hp3), FillW.zero bk, fun pv z => by cases z⟩)
    have s4 : Same H (upd H3 l2 (.lst ((List.replicate (b + 1).toNat V.non).set 0 (.ref p)))) := fun c o e => by
      rw [upd_ne (fun z => by subst z; rw [hL2n] at e; cases e)]
      exact s23 _ _ e
    have hF4 : upd H3 l2 (.lst ((List.replicate (b + 1).toNat V.non).set 0 (.ref p))) F0 = some (.lst [.ref l2]) := by
      rw [upd_ne (Ne.symm nF)]
      exact hF3
    have hL4 : upd H3 l2 (.lst ((List.replicate (b + 1).toNat V.non).set 0 (.ref p))) l2 = some (.lst ((List.replicate (b + 1).toNat V.non).set 0 (.ref p))) := upd_same
    generalize upd H3 l2 (.lst ((List.replicate (b + 1).toNat V.non).set 0 (.ref p))) = H4 at t4 lay0 s4 hF4 hL4 ⊢
    have ll0 : LL K H4 bk b [(l2, (List.replicate (b + 1).toNat V.non).set 0 (.ref p))] := LL.snoc (Ls := []) (fun j L xs e => by simp at e) hL4 lay0
    generalize hx0 : (List.replicate (b + 1).toNat V.non).set 0 (.ref p) = x0 at ll0
    refine ⟨_, rfl, f, rfl, by omega, by omega, ?_⟩
    refine for_range (n := (f : Int).toNat) (fun k σ H' => ∃ x4 x5 x6 x7 x8 x9 x10 x11 x12 x13 Ls, σ = [some (.ref D), some (.int b), some (.int f), some (.ref F0), x4, x5, x6, x7, x8, x9, x10, x11, x12, x13] ∧ Same H H' ∧ H' F0 = some (.lst (Ls.map fun l : Addr × List V => V.ref l.1)) ∧ Ls.length = k + 1 ∧ LL K H' bk b Ls ∧ ∀ l ∈ Ls, l.1 ≠ F0)
      ⟨_, _, _, _, _, _, _, _, _, _, [(l2, x0)], rfl, s4, hF4, rfl, ll0, fun l hl => by rw [List.mem_singleton.mp hl]; exact nF⟩ ?_ ?_
    · rintro k σ H5 hk ⟨x4, x5, x6, x7, x8, x9, x10, x11, x12, x13, Ls, rfl, s5, hF5, hln, hLL, hnF⟩
      obtain ⟨⟨Lb, bxs⟩, hlast⟩ : ∃ z, Ls[k]? = some z := ⟨Ls[k], List.getElem?_eq_getElem (by omega)⟩
      obtain ⟨hLb, hLayb⟩ := hLL k Lb bxs hlast
      have hat : atI (Ls.map fun l : Addr × List V => V.ref l.1) (-1) = some (.ref Lb) := by
        unfold atI ixN
        rw [if_neg (by decide), if_pos (by rw [List.length_map]; omega)]
        show (Ls.map fun l : Addr × List V => V.ref l.1)[((-1 : Int) + ((Ls.map fun l : Addr × List V => V.ref l.1).length : Nat)).toNat]? = _
        have e : ((-1 : Int) + ((Ls.map fun l : Addr × List V => V.ref l.1).length : Nat)).toNat = k := by rw [List.length_map]; omega
        rw [e, List.getElem?_map, hlast]
        rfl
      refine ⟨_, rfl, 1, rfl, F0, _, -1, _, rfl, rfl, SqL.of hF5, hat, ?_⟩
      -- the new layer, first as the one before it
      refine ⟨_, rfl, Lb, rfl, ⟨bxs, SqL.of hLb⟩, fun Lr hLr => ?_⟩
      refine lc_list (K := K) (a := Lb) (xs := bxs) (fun i H' => ∃ cur, Same H5 H' ∧ H' Lr = some (.lst cur) ∧ cur.length = i ∧ ∀ h v, cur[h]? = some v → Cel K H' bk (some bxs) (k + 1) h v) ⟨[], same_upd hLr, upd_same, rfl, fun h v e => by simp at e⟩ ?_ ?_ ?_
      · rintro i H' _ ⟨cur, s6, _⟩
        exact sql_same s6 (SqL.of hLb)
      · rintro i x H6 hx ⟨cur, s6, hc6, hcl, hcel⟩
        have hi : i < bxs.length := (List.getElem?_eq_some_iff.mp hx).1
        have hbl := hLayb.1
        refine ⟨rfl, _, rfl, rfl, _, rfl, ?_⟩
        have ext : ∀ (H7 : Hp) (v : V), Same H5 H7 → H7 Lr = some (.lst cur) → TupS K H6 H7 → Cel K (upd H7 Lr (.lst (cur ++ [v]))) bk (some bxs) (k + 1) i v →
            ∃ cur', Same H5 (upd H7 Lr (.lst (cur ++ [v]))) ∧ upd H7 Lr (.lst (cur ++ [v])) Lr = some (.lst cur') ∧ cur'.length = i + 1 ∧ ∀ h u, cur'[h]? = some u → Cel K (upd H7 Lr (.lst (cur ++ [v]))) bk (some bxs) (k + 1) h u := by
          intro H7 v s7 h7 t7 cv
          refine ⟨cur ++ [v], fun c o e => ?_, upd_same, by rw [List.length_append, hcl]; rfl, fun h u e => ?_⟩
          · rw [upd_ne (fun z => by subst z; rw [hLr] at e; cases e)]
            exact s7 _ _ e
          · by_cases hh : h < cur.length
            · rw [List.getElem?_append_left hh] at e
              exact ((hcel h u e).ts t7).ts (ts_upd h7 rfl)
            · have hh' : h = cur.length := by
                have := (List.getElem?_eq_some_iff.mp e).1
                simp at this
                omega
              subst hh'
              rw [List.getElem?_append_right (Nat.le_refl _), Nat.sub_self] at e
              have e' : v = u := by simpa using e
              rw [← e', hcl]
              exact cv
        rcases hLayb.2 i x hx with rfl | ⟨pc, idle, tv, gv, rfl, hpc, hfw, _⟩
        · exact iteT ⟨cur, hc6, by omega, ext H6 .non s6 hc6 (TupS.refl _) (.inl rfl)⟩
        · have hpc6 := (Same.ts s6) _ _ hpc
          refine iteF ⟨_, rfl, pc, _, 0, _, rfl, rfl, hpc6, rfl, by show 3 ≤ sizeLine; decide, fun pn hpn => ?_⟩
          have s7 := same_upd (o := .tup [.int idle, .int 0, .non]) hpn
          refine ⟨cur, s7 _ _ hc6, by omega, ext _ (.ref pn) (s6.trans s7) (s7 _ _ hc6) (Same.ts s7) ?_⟩
          refine .inr ⟨pn, idle, .int 0, .non, rfl, ts_upd (s7 _ _ hc6) rfl _ _ (SqT.of upd_same), hfw.idle0, fun pv e => ?_⟩
          cases e
          exact ⟨0, .ref pc, rfl, Nat.zero_le _, hx, fun z => by cases z⟩
      · rintro H6 ⟨cur, s6, hc6, hcl, hcel⟩
        have lay6 : Lay K H6 bk b (some bxs) (k + 1) cur := ⟨by rw [hcl]; exact hLayb.1, hcel⟩
        have hD6 := s6 _ _ (s5 _ _ hD)
        -- the dict is locked
        refine ⟨D, .dK kvs, hD6, trivial, fun od => ?_⟩
        have sb6 : SB D H5 (upd H6 D (.frz od (.dK kvs))) := fun c u ne e => by
          rw [upd_ne ne]
          exact s6 _ _ e
        have nLr : Lr ≠ D := fun z => by subst z; rw [s5 _ _ hD] at hLr; cases hLr
        have lay7 : Lay K (upd H6 D (.frz od (.dK kvs))) bk b (some bxs) (k + 1) cur := lay6.ts (ts_upd hD6 rfl)
        have hc7 : upd H6 D (.frz od (.dK kvs)) Lr = some (.lst cur) := by rw [upd_ne nLr]; exact hc6
        have hD7 : upd H6 D (.frz od (.dK kvs)) D = some (.frz od (.dK kvs)) := upd_same
        generalize upd H6 D (.frz od (.dK kvs)) = H7 at sb6 lay7 hc7 hD7 ⊢
        have hD5 := s5 _ _ hD
        refine ⟨_, rfl, D, od, kvs, rfl, hD7, ?_⟩
        refine for_it (walk_items (d := D) (o := od) (kvs := kvs)) (fun n σ H' => ∃ x7 x8 x9 x10 x11 x12 x13 cur, σ = [some (.ref D), some (.int b), some (.int f), some (.ref F0), some (.int (0 + (k : Nat))), some (.ref Lb), some (.ref Lr), x7, x8, x9, x10, x11, x12, x13] ∧ SB D H5 H' ∧ H' D = some (.frz od (.dK kvs)) ∧ H' Lr = some (.lst cur) ∧ Lay K H' bk b (some bxs) (k + 1) cur)
          ⟨_, _, _, _, _, _, _, cur, rfl, sb6, hD7, hc7, lay7⟩ ?_ ?_ ?_
        · rintro n σ H' _ ⟨y7, y8, y9, y10, y11, y12, y13, cur', rfl, _, h1, _⟩
          exact h1
        · rintro n x σ H8 H9 hn ⟨y7, y8, y9, y10, y11, y12, y13, cur', rfl, sb8, hD8, hc8, lay8⟩ ⟨T0, x1, x2, rfl, hT0, rfl, e1, e2⟩
          obtain ⟨kv, hkv⟩ : ∃ kv, kvs[n]? = some kv := ⟨kvs[n], List.getElem?_eq_getElem hn⟩
          obtain ⟨tot, idle, pk, gv, ekv, hpk, t1, t2, hW⟩ := hch kv (List.mem_of_getElem? hkv)
          have e1 : (kvs[n]?.map fun kv => kV kv.1) = some x1 := e1
          have e2 : kvs[n]?.map Prod.snd = some x2 := e2
          rw [hkv, ekv] at e1 e2
          have e1' : kV (.inl tot) = x1 := by simpa using e1
          have e2' : V.ref pk = x2 := by simpa using e2
          subst e1' e2'
          have s9 := same_upd (o := .tup [kV (.inl tot), .ref pk]) hT0
          have sb9 : SB D H5 (upd H8 T0 (.tup [kV (.inl tot), .ref pk])) := fun c u ne e => s9 _ _ (sb8 c u ne e)
          have hT9 : upd H8 T0 (.tup [kV (.inl tot), .ref pk]) T0 = some (.tup [kV (.inl tot), .ref pk]) := upd_same
          have hD9 := s9 _ _ hD8
          have hc9 := s9 _ _ hc8
          have lay9 := lay8.ts (Same.ts (K := K) s9)
          generalize upd H8 T0 (.tup [kV (.inl tot), .ref pk]) = H9 at s9 sb9 hT9 hD9 hc9 lay9 ⊢
          have hpk9 : SqT K H9 pk [.int idle, gv] := (sb9.ts hD5 rfl) _ _ ((Same.ts s5) _ _ hpk)
          refine ⟨T0, _, rfl, SqT.of hT9, rfl, _, _, rfl, _, _, rfl, pk, _, rfl, hpk9, rfl, _, _, rfl, _, _, rfl, rfl, rfl, ?_⟩
          refine ⟨_, rfl, _, rfl, b, tot, rfl, rfl, b - tot, 1, rfl, rfl, b - tot + 1, rfl, by omega, by omega, ?_⟩
          refine for_range (lo := 0) (n := (b - tot + 1).toNat) (fun m σ H' => ∃ x10 x11 x12 x13 cur, σ = [some (.ref D), some (.int b), some (.int f), some (.ref F0), some (.int (0 + (k : Nat))), some (.ref Lb), some (.ref Lr), some (.int tot), some (.int idle), some gv, x10, x11, x12, x13] ∧ SB D H5 H' ∧ H' D = some (.frz od (.dK kvs)) ∧ H' Lr = some (.lst cur) ∧ Lay K H' bk b (some bxs) (k + 1) cur)
            ⟨_, _, _, _, cur', rfl, sb9, hD9, hc9, lay9⟩ ?_ ?_
          · rintro m σ H10 hm ⟨z10, z11, z12, z13, cur2, rfl, sb10, hD10, hc10, lay10⟩
            have hLb10 := sb10 _ _ (fun z => by subst z; rw [hLb] at hD5; cases hD5) hLb
            have hbl := hLayb.1
            have e0 : (0 : Int) + (m : Nat) = (m : Nat) := Int.zero_add _
            rw [e0]
            obtain ⟨av, hav⟩ : ∃ av, bxs[m]? = some av := ⟨bxs[m], List.getElem?_eq_getElem (by omega)⟩
            refine ⟨_, rfl, _, rfl, Lb, bxs, m, av, rfl, rfl, SqL.of hLb10, atI_nat hav, ?_⟩
            refine ⟨_, rfl, rfl, _, rfl, ?_⟩
            rcases hLayb.2 m av hav with rfl | ⟨pa, ia, tva, gva, rfl, hpa, hfa, _⟩
            · exact iteT ⟨_, _, _, _, cur2, rfl, sb10, hD10, hc10, lay10⟩
            have hpa10 := (sb10.ts hD5 rfl) _ _ hpa
            have hcl2 := lay10.1
            have eix : ((m : Nat) : Int) + tot = ((m + tot.toNat : Nat) : Int) := by omega
            have hix : m + tot.toNat < cur2.length := by omega
            obtain ⟨hv, hhv⟩ : ∃ hv, cur2[m + tot.toNat]? = some hv := ⟨cur2[m + tot.toNat], List.getElem?_eq_getElem hix⟩
            refine iteF ⟨_, rfl, _, rfl, _, rfl, m, tot, rfl, rfl, Lr, cur2, _, hv, rfl, rfl, SqL.of hc10, by rw [eix]; exact atI_nat hhv, ?_⟩
            have stay : ∃ x10 x11 x12 x13 cur, [some (V.ref D), some (V.int b), some (V.int f), some (V.ref F0), some (V.int (0 + (k : Nat))), some (V.ref Lb), some (V.ref Lr), some (V.int tot), some (V.int idle), some gv, some (V.int (m : Nat)), some (V.ref pa), some hv, z13] = [some (.ref D), some (.int b), some (.int f), some (.ref F0), some (.int (0 + (k : Nat))), some (.ref Lb), some (.ref Lr), some (.int tot), some (.int idle), some gv, x10, x11, x12, x13] ∧ SB D H5 H10 ∧ H10 D = some (.frz od (.dK kvs)) ∧ H10 Lr = some (.lst cur) ∧ Lay K H10 bk b (some bxs) (k + 1) cur :=
              ⟨_, _, _, _, cur2, rfl, sb10, hD10, hc10, lay10⟩
            dsimp only [gName]
            refine ifor_read (decide (hv = .non)) (fun R r => ⟨_, rfl, rfl, _, rfl, r⟩) (fun c => ?_) ?_ stay
            · have c := of_decide_eq_false c
              rcases lay10.2 _ hv hhv with z | ⟨ph, ih, tvh, gvh, eh, hph, _⟩
              · exact absurd z c
              exact ⟨_, fun R r => ⟨_, rfl, ph, _, 0, _, eh, rfl, hph, rfl, _, rfl, pa, _, 0, _, rfl, rfl, hpa10, rfl, _, rfl, ia, idle, rfl, rfl, ih, ia + idle, rfl, rfl, _, rfl, r⟩⟩
            · skip
              refine ⟨_, rfl, pa, _, 0, _, rfl, rfl, hpa10, rfl, _, rfl, ia, idle, rfl, rfl, _, rfl, _, rfl, by show 3 ≤ sizeLine; decide, fun pn hpn => ?_⟩
              have s11 := same_upd (o := .tup [.int (ia + idle), .int tot, gv]) hpn
              have hpn11 : upd H10 pn (.tup [.int (ia + idle), .int tot, gv]) pn = some (.tup [.int (ia + idle), .int tot, gv]) := upd_same
              generalize upd H10 pn (.tup [.int (ia + idle), .int tot, gv]) = H11 at s11 hpn11 ⊢
              have hc11 := s11 _ _ hc10
              have t12 := ts_upd (K := K) (o' := .lst (cur2.set (m + tot.toNat) (.ref pn))) hc11 rfl
              refine ⟨_, rfl, _, rfl, _, rfl, m, tot, rfl, rfl, Lr, cur2, _, m + tot.toNat, rfl, rfl, hc11, by rw [eix]; exact ixN_nat hix, ?_⟩
              refine ⟨_, _, _, _, cur2.set (m + tot.toNat) (.ref pn), rfl, fun c u ne e => ?_, ?_, upd_same, ?_⟩
              · rw [upd_ne (fun z => by subst z; rw [hLr] at e; cases e)]
                exact s11 _ _ (sb10 c u ne e)
              · rw [upd_ne (Ne.symm nLr)]
                exact s11 _ _ hD10
              · refine Lay.set ((lay10.ts (Same.ts s11)).ts t12) _ _ (.inr ⟨pn, ia + idle, .int tot, gv, rfl, t12 _ _ (SqT.of hpn11), ?_, fun pv e => ?_⟩)
                · have := hfa.more hW
                  rw [← eix]
                  exact this
                · cases e
                  exact ⟨tot.toNat, .ref pa, by congr 1; omega, by omega, by rw [show m + tot.toNat - tot.toNat = m by omega]; exact hav, fun z => by cases z⟩
          · rintro σ H10 ⟨z10, z11, z12, z13, cur2, rfl, sb10, hD10, hc10, lay10⟩
            exact ⟨_, _, _, _, _, _, _, cur2, rfl, sb10, hD10, hc10, lay10⟩
        · rintro σ H8 ⟨y7, y8, y9, y10, y11, y12, y13, cur', rfl, sb8, hD8, hc8, lay8⟩
          refine ⟨hD8, ?_⟩
          have s9 : Same H5 (upd H8 D (.dK kvs)) := fun c u e => by
            by_cases z : c = D
            · subst z
              rw [hD5] at e
              cases e
              exact upd_same
            · rw [upd_ne z]
              exact sb8 _ _ z e
          have hc9 : upd H8 D (.dK kvs) Lr = some (.lst cur') := by rw [upd_ne nLr]; exact hc8
          have lay9 : Lay K (upd H8 D (.dK kvs)) bk b (some bxs) (k + 1) cur' := ⟨lay8.1, fun h v e => by
            rcases lay8.2 h v e with z | ⟨p', i', tv', gv', e', hp', r'⟩
            · exact .inl z
            · refine .inr ⟨p', i', tv', gv', e', ?_, r'⟩
              have ne : ∀ u, H8 p' = some u → (∀ x, u ≠ .frz od x ∨ x ≠ .dK kvs) → p' ≠ D := fun u hu hx z => by
                subst z
                rw [hD8] at hu
                cases hu
                rcases hx (.dK kvs) with q | q <;> exact q rfl
              rcases hp' with (hp' | ⟨o', hp'⟩) | hp'
              · exact .inl (.inl (by rw [upd_ne (ne _ hp' fun x => .inl fun z => by cases z)]; exact hp'))
              · refine .inl (.inr ⟨o', ?_⟩)
                rw [upd_ne (fun z => by subst z; rw [hD8] at hp'; cases hp')]
                exact hp'
              · exact .inr hp'⟩
          generalize upd H8 D (.dK kvs) = H9 at s9 hc9 lay9 ⊢
          have hF9 := s9 _ _ hF5
          have nFL : F0 ≠ Lr := fun z => by subst z; rw [hF5] at hLr; cases hLr
          refine ⟨_, rfl, .inl ⟨rfl, _, SqL.of hF9⟩, _, rfl, F0, _, _, rfl, rfl, hF9, by rw [List.length_map]; omega, ?_⟩
          have t10 := ts_upd (K := K) (o' := .lst ((Ls.map fun l : Addr × List V => V.ref l.1) ++ [.ref Lr])) hF9 rfl
          have sn : ∀ c u, c ≠ F0 → H9 c = some u → upd H9 F0 (.lst ((Ls.map fun l : Addr × List V => V.ref l.1) ++ [.ref Lr])) c = some u := fun c u ne e => by rw [upd_ne ne]; exact e
          refine ⟨_, _, _, _, _, _, _, _, _, _, Ls ++ [(Lr, cur')], rfl, fun c u e => ?_, by rw [upd_same, List.map_append]; rfl, by rw [List.length_append, hln]; rfl, LL.snoc (fun j L xs e => ?_) (by rw [upd_ne (Ne.symm nFL)]; exact hc9) ?_, fun l hl => ?_⟩
          · refine sn c u (fun z => ?_) (s9 _ _ (s5 _ _ e))
            subst z
            rw [hF0n] at e
            cases e
          · obtain ⟨h1, h2⟩ := hLL j L xs e
            refine ⟨sn _ _ (fun z => ?_) (s9 _ _ h1), (h2.ts (Same.ts s9)).ts t10⟩
            exact hnF _ (List.mem_of_getElem? e) z
          · have ep : prevOf Ls Ls.length = some bxs := by
              unfold prevOf
              rw [if_neg (by omega), hln, Nat.add_sub_cancel, hlast]
              rfl
            rw [ep, hln]
            exact lay9.ts t10
          · rcases List.mem_append.mp hl with hl | hl
            · exact hnF l hl
            · rw [List.mem_singleton.mp hl]
              exact Ne.symm nFL
    · rintro σ H5 ⟨x4, x5, x6, x7, x8, x9, x10, x11, x12, x13, Ls, rfl, s5, hF5, hln, hLL, hnF⟩
      exact ⟨_, rfl, q H5 F0 Ls s5 hF5 (by omega) hLL⟩
end
end K76

/-! The walk, 14: growths_at, short_choices. -/
namespace K76
open PySem PySem.Spec PyProof.Rows L2
/-- the layers at F, as a list of lists -/
structure LsAt (K : PySem.W.Frag) (H : Hp) (bk : Bk) (b : Int) (F : Addr) (Ls : List (Addr × List V)) : Prop where
  at_ : H F = some (.lst (Ls.map fun l : Addr × List V => V.ref l.1))
  ll : LL K H bk b Ls
theorem LsAt.same {K : PySem.W.Frag} {H H' : Hp} {bk : Bk} {b : Int} {F : Addr} {Ls : List (Addr × List V)} (h : LsAt K H bk b F Ls) (s : Same H H') : LsAt K H' bk b F Ls :=
  ⟨s _ _ h.at_, fun j L xs e => ⟨s _ _ (h.ll j L xs e).1, (h.ll j L xs e).2.ts (Same.ts s)⟩⟩
theorem ls_get {Ls : List (Addr × List V)} {k : Nat} {L : Addr} {xs : List V} (e : Ls[k]? = some (L, xs)) : (Ls.map fun l : Addr × List V => V.ref l.1)[k]? = some (.ref L) := by rw [List.getElem?_map, e]; rfl
section
variable {P : Program} {w : World} {K : PySem.W.Frag} {mg : Str → Option Value} {base : Heap}
def spGrowths (K : PySem.W.Frag) : Sp := fun vs H Q _ => ∃ (F : Addr) (bk : Bk) (b : Int) (f h : Nat) (Ls : List (Addr × List V)), vs = [.ref F, .int f, .int h] ∧ LsAt K H bk b F Ls ∧ f ≤ 8 ∧ (∃ L xs c, Ls[f]? = some (L, xs) ∧ xs[h]? = some c ∧ c ≠ .non) ∧
  ∀ H' R rs, Same H H' → H R = none → H' R = some (.lst rs) → rs.length ≤ f → Q (.ref R) H'
theorem sc_growths_at : FnScope ["found", "files", "held", "rows", "idle", "total", "growths"] ["found", "files", "held"] (defScope (top 22)) := ⟨rfl, rfl, rfl, by decide +kernel, rfl, by decide +kernel, by decide +kernel⟩
def mu1 (i : Nat) : L2.St → Hp → Nat := fun σ _ => match σ[i]? with
  | some (some (.int n)) => n.toNat
  | _ => 0
theorem ok_growths_at (T : Tx K mg) : FnG P w K mg base CX0 1 "growths_at" ["found", "files", "held"] (spGrowths K) := by
  obtain ⟨fd, F⟩ := T.f_growths_at
  refine FnG.of F T.g_growths_at (fun _ _ _ _ _ _ us hl => match us, hl with | [_, _, _], _ => rfl) (F.ok sc_growths_at (fun vs H Q E h => ?_) (fun cdv A outer s H vs Q E hr h => ?_))
  · obtain ⟨F0, bk, b, f, h, Ls, rfl, _⟩ := h
    rfl
  · obtain ⟨F0, bk, b, f, h, Ls, rfl, hLs, f8, ⟨L, xs, c, e1, e2, e3⟩, q⟩ := h
    have nd := sc_growths_at.nd
    have hsl := sizeLine_eq
    refine ⟨_, pss_cons (ps_set (i := 3) nd rfl (.inl rfl) (pe_lst pa_nil))
      (pss_cons (ps_while PassesOwn.never (pt_cmpR op_gt (pv 1) pe_int (nomark _))
        (pss_cons (ps_asg (pe_ix ix_list (pe_ix ix_list (pv 0) (pv 1) (fun _ _ => rfl)) (pv 2) (fun _ _ => rfl)) (pg_tup rfl (pgs_cons (pg_name (i := 4) nd rfl (.inl rfl)) (pgs_cons (pg_name (i := 5) nd rfl (.inl rfl)) (pgs_cons (pg_name (i := 6) nd rfl (.inl rfl)) pgs_nil)))))
        (pss_cons (ps_if (pt_cmpR op_notN (pv 6) pe_non (nomark _)) (pss_one (ps_expr (pe_bm PySem.F.plainAttrs_list PySem.F.slot_list_append PySem.F.type_list_append mt_append (pv 3) (pa_cons (pv 6) pa_nil)))) pss_nil)
        (pss_cons (ps_aug (i := 2) nd rfl (.inl rfl) (pv 5) ip_sub)
        (pss_one (ps_aug (i := 1) nd rfl (.inl rfl) pe_int ip_sub))))))
      (pss_one (ps_ret (pv 3)))), ?_⟩
    refine ⟨by decide, fun R hR => ?_⟩
    refine while_by (fun σ H' => ∃ x4 x5 x6 rs, ∃ (f' h' : Nat), σ = [some (.ref F0), some (.int f'), some (.int h'), some (.ref R), x4, x5, x6] ∧ Same H H' ∧ H' R = some (.lst rs) ∧ rs.length + f' ≤ f ∧ ∃ L xs c, Ls[f']? = some (L, xs) ∧ xs[h']? = some c ∧ c ≠ .non) (mu1 1)
      ⟨_, _, _, [], f, h, rfl, same_upd hR, upd_same, by simp, L, xs, c, e1, e2, e3⟩ ?_ ?_
    · rintro σ H1 ⟨x4, x5, x6, rs, f', h', rfl, s1, hR1, hlen, L1, xs1, c1, g1, g2, g3⟩
      refine ⟨_, rfl, f', 0, rfl, rfl, _, rfl, ?_⟩
      by_cases hf : 0 < f'
      · rw [decide_eq_true (show (f' : Int) > 0 by omega)]
        have Ls1 := hLs.same s1
        obtain ⟨hL1, hLay⟩ := Ls1.ll f' L1 xs1 g1
        rcases hLay.2 h' c1 g2 with z | ⟨p, idle, tv, gv, rfl, hp, hfw, hpv⟩
        · exact absurd z g3
        obtain ⟨⟨L0, ys⟩, hL0⟩ : ∃ z, Ls[f' - 1]? = some z := ⟨Ls[f' - 1]'(by have := (List.getElem?_eq_some_iff.mp g1).1; omega), List.getElem?_eq_getElem _⟩
        have ep : prevOf Ls f' = some ys := by
          unfold prevOf
          rw [if_neg (by omega), hL0]
          rfl
        obtain ⟨tot, c0, rfl, t1, t2, t3⟩ := hpv ys ep
        refine iteT ⟨_, rfl, _, rfl, F0, _, f', _, rfl, rfl, SqL.of Ls1.at_, atI_nat (ls_get g1), _, rfl, L1, xs1, h', _, rfl, rfl, SqL.of hL1, atI_nat g2, p, _, rfl, hp, rfl, _, _, rfl, _, _, rfl, _, _, rfl, rfl, ?_⟩
        refine ⟨_, rfl, rfl, _, rfl, ?_⟩
        refine ite_join (H0 := H1) (fun H2 => Same H H2 ∧ ∃ rs', H2 R = some (.lst rs') ∧ rs'.length + f' ≤ f + 1) ⟨s1, rs, hR1, by omega⟩ (fun _ J => ?_) (fun H2 ⟨s2, rs', hR2, hl2⟩ => ?_)
        · refine ⟨_, rfl, .inl ⟨rfl, _, SqL.of hR1⟩, _, rfl, R, rs, gv, rfl, rfl, hR1, by omega, J _ ⟨fun a u e => ?_, _, upd_same, by rw [List.length_append]; simp; omega⟩⟩
          rw [upd_ne (fun z => by subst z; rw [hR] at e; cases e)]
          exact s1 _ _ e
        · refine ⟨_, rfl, _, rfl, h', tot, rfl, rfl, _, rfl, f', 1, rfl, rfl, ?_⟩
          refine ⟨⟨some (.int idle), some (.int tot), some gv, rs', f' - 1, h' - tot, ?_, s2, hR2, by omega, L0, ys, c0, hL0, t2, t3⟩, ?_⟩
          · have a1 : ((f' : Int) - 1) = ((f' - 1 : Nat) : Int) := by omega
            have a2 : ((h' : Int) - tot) = ((h' - tot : Nat) : Int) := by omega
            show [some (.ref F0), some (.int ((f' : Int) - 1)), some (.int ((h' : Int) - tot)), some (.ref R), some (.int idle), some (.int tot), some gv] = _
            rw [a1, a2]
          · show ((f' : Int) - 1).toNat < (f' : Int).toNat
            omega
      · rw [decide_eq_false (show ¬ (f' : Int) > 0 by omega)]
        exact iteF ⟨_, rfl, q H1 R rs s1 hR hR1 (by omega)⟩
    · rintro σ H1 Q1 Q2 hq ⟨v, h1, i, j, h2, h3, k, h4, h5⟩
      exact ⟨v, h1, i, j, h2, h3, k, h4, hq _ _ h5⟩
theorem ifor2_read {tA tB : TT} {t u : L2.TS} {D : Ends} {σ : L2.St} {H : Hp} (c1 c2 : Bool) (hA : ∀ R : Bool → Hp → Prop, R c1 H → tA σ H R) (hB : c1 = false → ∀ R : Bool → Hp → Prop, R c2 H → tB σ H R) (put : (c1 || c2) = true → t D σ H) (stay : (c1 || c2) = false → u D σ H) : tIfS (tOr tA tB) t u D σ H := by
  refine hA _ ?_
  cases c1 with
  | true => exact iteT (iteT (put rfl))
  | false =>
    refine iteF (hB rfl _ ?_)
    cases c2 with
    | true => exact iteT (put rfl)
    | false => exact iteF (stay rfl)
/-! ### short_choices -/
def ShE (K : PySem.W.Frag) (H : Hp) (bk : Bk) (b : Int) (v : V) : Prop := ∃ (p : Addr) (h m : Int) (g : Addr), v = .ref p ∧ SqT K H p [.int (h + m), .int (m - 1), .ref g] ∧ (h = 0 ∨ bk.first ≤ h) ∧ 1 ≤ m ∧ m < bk.step h ∧ h + m ≤ b
theorem ShE.ts {H H' : Hp} {bk : Bk} {b : Int} {v : V} (h : ShE K H bk b v) (t : TupS K H H') : ShE K H' bk b v := by
  obtain ⟨p, h, m, g, e, h1, r⟩ := h
  exact ⟨p, h, m, g, e, t _ _ h1, r⟩
def spShort (K : PySem.W.Frag) : Sp := fun vs H Q _ => ∃ (a : Addr) (bk : Bk) (b : Int), vs = [.ref a, .int b] ∧ bk.Ok ∧ BookAt K H a bk ∧ 1 ≤ b ∧ b ≤ 300 ∧
  ∀ H' R rs, Same H H' → H' R = some (.lst rs) → (∀ v ∈ rs, ShE K H' bk b v) → Q (.ref R) H'
theorem sc_short_choices : FnScope ["book", "blocks", "found", "hold", "most", "many"] ["book", "blocks"] (defScope (top 23)) := ⟨rfl, rfl, rfl, by decide +kernel, rfl, by decide +kernel, by decide +kernel⟩
theorem ok_short_choices (T : Tx K mg) : FnG P w K mg base CX0 4 "short_choices" ["book", "blocks"] (spShort K) := by
  obtain ⟨fd, F⟩ := T.f_short_choices
  refine FnG.of F T.g_short_choices (fun _ _ _ _ _ _ us hl => match us, hl with | [_, _], _ => rfl) (F.ok sc_short_choices (fun vs H Q E h => ?_) (fun cdv A outer s H vs Q E hr h => ?_))
  · obtain ⟨a, bk, b, rfl, _⟩ := h
    rfl
  · obtain ⟨a, bk, b, rfl, ok, B, b1, b2, q⟩ := h
    have nd := sc_short_choices.nd
    have hsl := sizeLine_eq
    have r2 : Room 2 _ := hr.mono (by decide)
    refine ⟨_, pss_cons (ps_set (i := 2) nd rfl (.inl rfl) (pe_lst pa_nil))
      (pss_cons (ps_for PassesOwn.never rfl (pi_range1 rfl T.m_range (pa_cons (pv 1) pa_nil)) (pg_name (i := 3) nd rfl (.inl rfl))
        (pss_one (ps_if (PW.pt (pw_or (pt_cmpR op_eq (pv 3) pe_int (nomark _)) (pw_or1 (pt_cmpR op_ge (pv 3) (pe_first T (pv 0) r2) (nomark _)))))
          (pss_cons (ps_set (i := 4) nd rfl (.inl rfl) (pe_callB (call_min2 rfl) rfl T.m_min boot_min' (pa_cons (pe_op op_sub (pe_callTy call_int1 rfl T.m_int boot_int' (pa_cons (pe_m (pv 0) (ok_step T) hr (pa_cons (pv 3) pa_nil)) pa_nil)) pe_int) (pa_cons (pe_op op_sub (pv 1) (pv 3)) pa_nil))))
          (pss_one (ps_for PassesOwn.never rfl (pi_range2 rfl T.m_range (pa_cons pe_int (pa_cons (pe_op op_add (pv 4) pe_int) pa_nil))) (pg_name (i := 5) nd rfl (.inl rfl))
            (pss_one (ps_expr (pe_bm PySem.F.plainAttrs_list PySem.F.slot_list_append PySem.F.type_list_append mt_append (pv 2)
              (pa_cons (pe_tup (pa_cons (pe_op op_add (pv 3) (pv 5)) (pa_cons (pe_op op_sub (pv 5) pe_int) (pa_cons (pe_ifExp (pt_cmpR op_eq (pv 3) pe_int (nomark _)) (pe_lst (pa_cons pe_int pa_nil)) (pe_lst (pa_cons (pv 3) (pa_cons pe_int pa_nil)))) pa_nil)))) pa_nil))))))) pss_nil)))
      (pss_one (ps_ret (pv 2)))), ?_⟩
    refine ⟨by decide, fun R hR => ?_⟩
    refine ⟨_, rfl, b, rfl, by omega, by omega, ?_⟩
    refine for_range (lo := 0) (n := b.toNat) (fun i σ H' => ∃ x3 x4 x5 rs, σ = [some (.ref a), some (.int b), some (.ref R), x3, x4, x5] ∧ Same H H' ∧ H' R = some (.lst rs) ∧ rs.length ≤ 300 * i ∧ ∀ v ∈ rs, ShE K H' bk b v)
      ⟨_, _, _, [], rfl, same_upd hR, upd_same, by simp, fun v h => by cases h⟩ ?_ ?_
    · rintro i σ H1 hi ⟨x3, x4, x5, rs, rfl, s1, hR1, hl1, hE⟩
      have e0 : (0 : Int) + (i : Nat) = (i : Nat) := Int.zero_add _
      rw [e0]
      have stay : ∃ y3 y4 y5 rs, [some (V.ref a), some (V.int b), some (V.ref R), some (V.int (i : Nat)), x4, x5] = [some (.ref a), some (.int b), some (.ref R), y3, y4, y5] ∧ Same H H1 ∧ H1 R = some (.lst rs) ∧ rs.length ≤ 300 * (i + 1) ∧ ∀ v ∈ rs, ShE K H1 bk b v := ⟨some (.int (i : Nat)), x4, x5, rs, rfl, s1, hR1, by omega, hE⟩
      obtain ⟨dxB, shB, hB1, _⟩ := B.same s1
      dsimp only [gName]
      refine ifor2_read (decide ((i : Int) = 0)) (decide ((i : Int) ≥ bk.first)) (fun R r => ⟨_, rfl, rfl, _, rfl, ?_⟩) (fun _ R r => ⟨_, rfl, _, rfl, first_read (B.same s1) ⟨_, _, rfl, rfl, _, rfl, r⟩⟩) (fun c => ?_) (fun _ => stay)
      · have e : decide (V.int (i : Nat) = V.int 0) = decide ((i : Int) = 0) := by
          rw [decide_eq_decide]
          exact ⟨fun z => by injection z, fun z => by rw [z]⟩
        rw [e]
        exact r
      have hh : (i : Int) = 0 ∨ bk.first ≤ (i : Int) := by
        rw [Bool.or_eq_true, decide_eq_true_eq, decide_eq_true_eq] at c
        exact c
      have sg := bk.step_ge ok (i : Nat)
      have f1 := ok.f1
      refine ⟨_, rfl, a, dxB, _, rfl, hB1, bk_no _ _, _, rfl, a, bk, (i : Nat), ok, by omega, by omega, rfl, B.same s1, ?_⟩
      refine .inl ⟨bk.step (i : Nat), rfl, bk.step (i : Nat), 1, rfl, rfl, _, rfl, _, rfl, b, (i : Nat), rfl, rfl, bk.step (i : Nat) - 1, b - (i : Nat), rfl, ?_⟩
      generalize hm : (if b - ((i : Nat) : Int) < bk.step (i : Nat) - 1 then b - ((i : Nat) : Int) else bk.step (i : Nat) - 1) = most
      have m1 : most ≤ b - (i : Nat) ∧ most ≤ bk.step (i : Nat) - 1 ∧ 0 ≤ most := by
        rw [← hm]
        split <;> omega
      refine ⟨_, rfl, most, 1, rfl, rfl, 1, most + 1, rfl, ⟨by omega, by omega, by omega, by omega⟩, ?_⟩
      refine for_range (lo := 1) (n := (most + 1 - 1).toNat) (fun j σ H' => ∃ x5 rs, σ = [some (.ref a), some (.int b), some (.ref R), some (.int (i : Nat)), some (.int most), x5] ∧ Same H H' ∧ H' R = some (.lst rs) ∧ rs.length ≤ 300 * i + j ∧ ∀ v ∈ rs, ShE K H' bk b v)
        ⟨_, rs, rfl, s1, hR1, by omega, hE⟩ ?_ ?_
      · rintro j σ H2 hj ⟨x5, rs, rfl, s2, hR2, hl2, hE2⟩
        refine ⟨_, rfl, .inl ⟨rfl, _, SqL.of hR2⟩, _, rfl, _, rfl, (i : Nat), 1 + (j : Nat), rfl, rfl, _, rfl, 1 + (j : Nat), 1, rfl, rfl, ?_⟩
        -- the end of a turn
        have fin : ∀ (H3 : Hp) (g : Addr), Same H2 H3 → [V.int ((i : Nat) + (1 + (j : Nat))), V.int (1 + (j : Nat) - 1), V.ref g].length ≤ sizeLine ∧ ∀ p, H3 p = none → ∃ l xs y, V.ref R = .ref l ∧ [V.ref p] = [y] ∧ upd H3 p (.tup [V.int ((i : Nat) + (1 + (j : Nat))), V.int (1 + (j : Nat) - 1), V.ref g]) l = some (.lst xs) ∧ xs.length < sizeLine ∧
            ∃ x5 rs, [some (V.ref a), some (V.int b), some (V.ref R), some (V.int (i : Nat)), some (V.int most), some (V.int (1 + (j : Nat)))] = [some (.ref a), some (.int b), some (.ref R), some (.int (i : Nat)), some (.int most), x5] ∧ Same H (upd (upd H3 p (.tup [V.int ((i : Nat) + (1 + (j : Nat))), V.int (1 + (j : Nat) - 1), V.ref g])) l (.lst (xs ++ [y]))) ∧
              upd (upd H3 p (.tup [V.int ((i : Nat) + (1 + (j : Nat))), V.int (1 + (j : Nat) - 1), V.ref g])) l (.lst (xs ++ [y])) R = some (.lst rs) ∧ rs.length ≤ 300 * i + (j + 1) ∧ ∀ v ∈ rs, ShE K (upd (upd H3 p (.tup [V.int ((i : Nat) + (1 + (j : Nat))), V.int (1 + (j : Nat) - 1), V.ref g])) l (.lst (xs ++ [y]))) bk b v := by
          intro H3 g s3
          refine ⟨by show 3 ≤ sizeLine; decide, fun p hp => ?_⟩
          have s4 := same_upd (o := .tup [V.int ((i : Nat) + (1 + (j : Nat))), V.int (1 + (j : Nat) - 1), V.ref g]) hp
          have hp4 : upd H3 p (.tup [V.int ((i : Nat) + (1 + (j : Nat))), V.int (1 + (j : Nat) - 1), V.ref g]) p = some (.tup [V.int ((i : Nat) + (1 + (j : Nat))), V.int (1 + (j : Nat) - 1), V.ref g]) := upd_same
          generalize upd H3 p (.tup [V.int ((i : Nat) + (1 + (j : Nat))), V.int (1 + (j : Nat) - 1), V.ref g]) = H4 at s4 hp4 ⊢
          have s34 : Same H2 H4 := Same.trans s3 s4
          have hR4 := s34 _ _ hR2
          have t5 := ts_upd (K := K) (o' := .lst (rs ++ [.ref p])) hR4 rfl
          refine ⟨R, rs, .ref p, rfl, rfl, hR4, by omega, _, _, rfl, fun c u e => ?_, upd_same, by rw [List.length_append]; simp; omega, fun v hv => ?_⟩
          · rw [upd_ne (fun z => by subst z; rw [hR] at e; cases e)]
            exact s34 _ _ (s2 _ _ e)
          · rcases List.mem_append.mp hv with hv | hv
            · exact ((hE2 v hv).ts (Same.ts s34)).ts t5
            · rw [List.mem_singleton.mp hv]
              exact ⟨p, (i : Nat), 1 + (j : Nat), g, rfl, t5 _ _ (SqT.of hp4), hh, by omega, by omega, by omega⟩
        refine ⟨_, rfl, rfl, _, rfl, ?_⟩
        refine ite2 (fun _ => ?_) (fun _ => ?_)
        · exact ⟨by show 1 ≤ sizeLine; decide, fun g hg => fin _ g (same_upd hg)⟩
        · exact ⟨_, rfl, by show 2 ≤ sizeLine; decide, fun g hg => fin _ g (same_upd hg)⟩
      · rintro σ H2 ⟨x5, rs, rfl, s2, hR2, hl2, hE2⟩
        exact ⟨_, _, _, rs, rfl, s2, hR2, by omega, hE2⟩
    · rintro σ H1 ⟨x3, x4, x5, rs, rfl, s1, hR1, hl1, hE⟩
      exact ⟨_, rfl, q H1 R rs s1 hR1 hE⟩
end
end K76

/-! The walk, 15: fullest, never_refused. -/
namespace K76
open PySem PySem.Spec PyProof.Rows L2
def BestV (K : PySem.W.Frag) (H : Hp) (bk : Bk) (b : Int) (f : Nat) (v : V) : Prop := ∃ (p : Addr) (idle : Int) (hv gv : V) (held : Int), v = .ref p ∧ SqT K H p [.int idle, hv, gv] ∧ Fill bk b f idle held
theorem BestV.ts {K : PySem.W.Frag} {H H' : Hp} {bk : Bk} {b : Int} {f : Nat} {v : V} (h : BestV K H bk b f v) (t : TupS K H H') : BestV K H' bk b f v := by
  obtain ⟨p, idle, hv, gv, held, e, h1, r⟩ := h
  exact ⟨p, idle, hv, gv, held, e, t _ _ h1, r⟩
theorem fill_zero (bk : Bk) {b : Int} (hb : 0 ≤ b) (f : Nat) : Fill bk b f 0 0 := .whole (zeros f) (zeros_length f) (fun p hp => .inl (by
  unfold zeros at hp
  exact (List.mem_replicate.mp hp).2)) (holds_zeros f) hb (by rw [idle_eq, holds_zeros, sizes_zeros]; rfl)
theorem FillW.fill {bk : Bk} {b idle held : Int} {k : Nat} (F : FillW bk k idle held) (h : held ≤ b) : Fill bk b k idle held := by
  obtain ⟨ps, h1, h2, h3, h4⟩ := F
  exact .whole ps h1 h2 h3 h h4
theorem FillW.short {bk : Bk} {b idle held h m : Int} {k : Nat} (F : FillW bk k idle held) (e : held + (h + m) = b) (h0 : h = 0 ∨ bk.first ≤ h) (h1 : 1 ≤ m) (h2 : m < bk.step h) : Fill bk b (k + 1) (idle + (m - 1)) b := by
  obtain ⟨ps, g1, g2, g3, g4⟩ := F
  exact .short ps h m (by rw [g1]) g2 rfl (by rw [g3]; exact e) h0 h1 h2 (by rw [g4])
section
variable {P : Program} {w : World} {K : PySem.W.Frag} {mg : Str → Option Value} {base : Heap}
def spFullest (K : PySem.W.Frag) : Sp := fun vs H Q _ => ∃ (a : Addr) (bk : Bk) (b : Int) (f : Nat), vs = [.ref a, .int b, .int f] ∧ bk.Ok ∧ BookAt K H a bk ∧ 1 ≤ b ∧ b ≤ 300 ∧ f ≤ 7 ∧ ∀ H' v, Same H H' → BestV K H' bk b f v → Q v H'
theorem sc_fullest : FnScope ["book", "blocks", "files", "found", "best", "held", "here", "total", "idle", "growths", "ahead"] ["book", "blocks", "files"] (defScope (top 24)) := ⟨rfl, rfl, rfl, by decide +kernel, rfl, by decide +kernel, by decide +kernel⟩
theorem ok_fullest (T : Tx K mg) : FnG P w K mg base CX0 5 "fullest" ["book", "blocks", "files"] (spFullest K) := by
  obtain ⟨fd, F⟩ := T.f_fullest
  refine FnG.of F T.g_fullest (fun _ _ _ _ _ _ us hl => match us, hl with | [_, _, _], _ => rfl) (F.ok sc_fullest (fun vs H Q E h => ?_) (fun cdv A outer s H vs Q E hr h => ?_))
  · obtain ⟨a, bk, b, f, rfl, _⟩ := h
    rfl
  · obtain ⟨a, bk, b, f, rfl, ok, B, b1, b2, f7, q⟩ := h
    have nd := sc_fullest.nd
    have hsl := sizeLine_eq
    refine ⟨_, pss_cons (ps_set (i := 3) nd rfl (.inl rfl) (pe_g ((ok_layers T).mono (by decide)) hr (pa_cons (pe_g (ok_whole_choices T) hr (pa_cons (pv 0) (pa_cons (pv 1) pa_nil))) (pa_cons (pv 1) (pa_cons (pv 2) pa_nil)))))
      (pss_cons (ps_set (i := 4) nd rfl (.inl rfl) (pe_tup (pa_cons pe_int (pa_cons pe_int (pa_cons (pe_lst pa_nil) pa_nil)))))
      (pss_cons (ps_for PassesOwn.never rfl (pi_enum rfl T.m_enumerate (pa_cons (pe_ix ix_list (pv 3) (pv 2) (fun _ _ => rfl)) pa_nil)) (pg_tup rfl (pgs_cons (pg_name (i := 5) nd rfl (.inl rfl)) (pgs_cons (pg_name (i := 6) nd rfl (.inl rfl)) pgs_nil)))
        (pss_one (ps_if (PW.pt (pw_and (pt_cmpR op_notN (pv 6) pe_non (nomark _)) (pw_and1 (pt_cmpR op_gt (pe_ix ix_tup (pv 6) pe_int (fun _ _ => rfl)) (pe_ix ix_tup (pv 4) pe_int (fun _ _ => rfl)) (nomark _)))))
          (pss_one (ps_set (i := 4) nd rfl (.inl rfl) (pe_tup (pa_cons (pe_ix ix_tup (pv 6) pe_int (fun _ _ => rfl)) (pa_cons (pv 5) (pa_cons (pe_g ((ok_growths_at T).mono (by decide)) hr (pa_cons (pv 3) (pa_cons (pv 2) (pa_cons (pv 5) pa_nil)))) pa_nil)))))) pss_nil)))
      (pss_cons (ps_if (pt_cmpR op_eq (pv 2) pe_int (nomark _)) (pss_one (ps_ret (pv 4))) pss_nil)
      (pss_cons (ps_for PassesOwn.never rfl (pi_list (pe_g (ok_short_choices T) hr (pa_cons (pv 0) (pa_cons (pv 1) pa_nil)))) (pg_tup rfl (pgs_cons (pg_name (i := 7) nd rfl (.inl rfl)) (pgs_cons (pg_name (i := 8) nd rfl (.inl rfl)) (pgs_cons (pg_name (i := 9) nd rfl (.inl rfl)) pgs_nil))))
        (pss_cons (ps_set (i := 10) nd rfl (.inl rfl) (pe_ix ix_list (pe_ix ix_list (pv 3) (pe_op op_sub (pv 2) pe_int) (fun _ _ => rfl)) (pe_op op_sub (pv 1) (pv 7)) (fun _ _ => rfl)))
        (pss_one (ps_if (PW.pt (pw_and (pt_cmpR op_notN (pv 10) pe_non (nomark _)) (pw_and1 (pt_cmpR op_gt (pe_op op_add (pe_ix ix_tup (pv 10) pe_int (fun _ _ => rfl)) (pv 8)) (pe_ix ix_tup (pv 4) pe_int (fun _ _ => rfl)) (nomark _)))))
          (pss_one (ps_set (i := 4) nd rfl (.inl rfl) (pe_tup (pa_cons (pe_op op_add (pe_ix ix_tup (pv 10) pe_int (fun _ _ => rfl)) (pv 8)) (pa_cons (pv 1) (pa_cons (pe_op op_cat (pe_g ((ok_growths_at T).mono (by decide)) hr (pa_cons (pv 3) (pa_cons (pe_op op_sub (pv 2) pe_int) (pa_cons (pe_op op_sub (pv 1) (pv 7)) pa_nil)))) (pe_lst (pa_cons (pv 9) pa_nil))) pa_nil)))))) pss_nil))))
      (pss_one (ps_ret (pv 4))))))), ?_⟩
    refine ⟨_, rfl, _, rfl, a, bk, b, rfl, ok, B, b1, b2, fun H1 D kvs s1 nD hD hkl hch => ?_⟩
    refine ⟨_, rfl, _, rfl, D, bk, b, f, kvs, rfl, b1, b2, by omega, hD, hch, fun H2 F0 Ls s2 hF hLn hLL => ?_⟩
    have L2' : LsAt K H2 bk b F0 Ls := ⟨hF, hLL⟩
    have s12 := s1.trans s2
    refine ⟨by decide, fun r hr0 => ⟨by show 3 ≤ sizeLine; decide, fun p hp => ?_⟩⟩
    have s3 := (same_upd (o := .lst []) hr0).trans (same_upd (o := .tup [.int 0, .int 0, .ref r]) hp)
    have best3 : BestV K (upd (upd H2 r (.lst [])) p (.tup [.int 0, .int 0, .ref r])) bk b f (.ref p) := ⟨p, 0, .int 0, .ref r, 0, rfl, SqT.of upd_same, fill_zero bk (by omega) f⟩
    generalize upd (upd H2 r (.lst [])) p (.tup [.int 0, .int 0, .ref r]) = H3 at s3 best3 ⊢
    obtain ⟨⟨Lf, xf⟩, hLf⟩ : ∃ z, Ls[f]? = some z := ⟨Ls[f]'(by omega), List.getElem?_eq_getElem _⟩
    obtain ⟨hLf2, hLayf⟩ := hLL f Lf xf hLf
    refine ⟨_, rfl, _, rfl, F0, _, f, _, rfl, rfl, SqL.of (s3 _ _ hF), atI_nat (ls_get hLf), Lf, xf, rfl, SqL.of (s3 _ _ hLf2), ?_⟩
    refine for_it (walk_enum (K := K) (a := Lf) (xs := xf)) (fun n σ H' => ∃ bv x5 x6 x7 x8 x9 x10, σ = [some (.ref a), some (.int b), some (.int f), some (.ref F0), some bv, x5, x6, x7, x8, x9, x10] ∧ Same H2 H' ∧ BestV K H' bk b f bv) ⟨_, _, _, _, _, _, _, rfl, s3, best3⟩ ?_ ?_ ?_
    · rintro n σ H' _ ⟨bv, x5, x6, x7, x8, x9, x10, rfl, s4, _⟩
      exact SqL.of (s4 _ _ hLf2)
    · rintro n x σ H4 H5 hn ⟨bv, x5, x6, x7, x8, x9, x10, rfl, s4, best4⟩ ⟨T0, y1, y2, rfl, hT0, rfl, e1, e2⟩
      have e1 : V.int (n : Nat) = y1 := by simpa using e1
      subst e1
      have s5 := same_upd (o := .tup [.int (n : Nat), y2]) hT0
      refine ⟨T0, _, rfl, SqT.of upd_same, rfl, _, _, rfl, _, _, rfl, rfl, ?_⟩
      have s25 := s4.trans s5
      have best5 := best4.ts (Same.ts s5)
      generalize upd H4 T0 (.tup [.int (n : Nat), y2]) = H5 at s5 s25 best5 ⊢
      obtain ⟨pb, ib, hb, gb, held, rfl, hpb, hfb⟩ := id best5
      have stay : ∃ bv y5 y6 y7 y8 y9 y10, [some (V.ref a), some (V.int b), some (V.int f), some (V.ref F0), some (V.ref pb), some (V.int (n : Nat)), some y2, x7, x8, x9, x10] = [some (.ref a), some (.int b), some (.int f), some (.ref F0), some bv, y5, y6, y7, y8, y9, y10] ∧ Same H2 H5 ∧ BestV K H5 bk b f bv :=
        ⟨_, _, _, _, _, _, _, rfl, s25, best5⟩
      refine ⟨_, rfl, rfl, _, rfl, ?_⟩
      rcases hLayf.2 n y2 e2 with rfl | ⟨ph, ih, tvh, gvh, rfl, hph, hfh, hpv⟩
      · exact iteF (iteF stay)
      have hph5 := (Same.ts s25) _ _ hph
      refine iteT ⟨_, rfl, ph, _, 0, _, rfl, rfl, hph5, rfl, _, rfl, pb, _, 0, _, rfl, rfl, hpb, rfl, ih, ib, rfl, rfl, _, rfl, ?_⟩
      refine ite2 (fun _ => ?_) (fun _ => stay)
      refine ⟨_, rfl, ph, _, 0, _, rfl, rfl, hph5, rfl, _, rfl, _, rfl, _, rfl, _, rfl, F0, bk, b, f, n, Ls, rfl, L2'.same s25, by omega, ⟨Lf, xf, _, hLf, e2, fun z => by cases z⟩, fun H6 R rs s6 nR hR hrl => ?_⟩
      refine ⟨by show 3 ≤ sizeLine; decide, fun pn hpn => ?_⟩
      have s7 := same_upd (o := .tup [.int ih, .int (n : Nat), .ref R]) hpn
      refine ⟨_, _, _, _, _, _, _, rfl, (s25.trans s6).trans s7, ⟨pn, ih, .int (n : Nat), .ref R, (n : Nat), rfl, SqT.of upd_same, hfh.fill ?_⟩⟩
      have h1 := hLayf.1
      have h2 := (List.getElem?_eq_some_iff.mp e2).1
      omega
    · rintro σ H4 ⟨bv, x5, x6, x7, x8, x9, x10, rfl, s4, best4⟩
      have ef : decide (V.int (f : Nat) = V.int 0) = decide (f = 0) := by
        rw [decide_eq_decide]
        exact ⟨fun z => by injection z with z; omega, fun z => by rw [z]; rfl⟩
      refine ⟨_, rfl, rfl, _, rfl, ?_⟩
      rw [ef]
      by_cases f0 : f = 0
      · rw [decide_eq_true f0]
        exact iteT ⟨_, rfl, q H4 bv (s12.trans s4) best4⟩
      rw [decide_eq_false f0]
      refine iteF ⟨_, rfl, _, rfl, a, bk, b, rfl, ok, B.same (s12.trans s4), b1, b2, fun H5 R rs s5 hR hsh => ?_⟩
      obtain ⟨⟨Lg, xg⟩, hLg⟩ : ∃ z, Ls[f - 1]? = some z := ⟨Ls[f - 1]'(by omega), List.getElem?_eq_getElem _⟩
      obtain ⟨hLg2, hLayg⟩ := hLL (f - 1) Lg xg hLg
      refine ⟨R, rfl, ⟨rs, SqL.of hR⟩, ?_⟩
      refine for_list (K := K) (a := R) (xs := rs) (fun n σ H' => ∃ bv x5 x6 x7 x8 x9 x10, σ = [some (.ref a), some (.int b), some (.int f), some (.ref F0), some bv, x5, x6, x7, x8, x9, x10] ∧ Same H5 H' ∧ BestV K H' bk b f bv) ⟨_, _, _, _, _, _, _, rfl, Same.refl H5, best4.ts (Same.ts s5)⟩ ?_ ?_ ?_
      · rintro n σ H' _ ⟨bv, x5, x6, x7, x8, x9, x10, rfl, s6, _⟩
        exact SqL.of (s6 _ _ hR)
      · rintro n x σ H6 hx ⟨bv, x5, x6, x7, x8, x9, x10, rfl, s6, best6⟩
        obtain ⟨ps, h, m, g, rfl, hps, h0, m1, m2, hm⟩ := hsh x (List.mem_of_getElem? hx)
        have s26 := (s4.trans s5).trans s6
        have hps6 := (Same.ts s6) _ _ hps
        have h0' : 0 ≤ h := by have := ok.f1; omega
        refine ⟨ps, _, rfl, hps6, rfl, _, _, rfl, _, _, rfl, _, _, rfl, rfl, ?_⟩
        have e1 : ((f : Nat) : Int) - 1 = ((f - 1 : Nat) : Int) := by omega
        have e2 : b - (h + m) = ((b - (h + m)).toNat : Nat) := by omega
        have hlt : (b - (h + m)).toNat < xg.length := by
          have := hLayg.1
          omega
        obtain ⟨av, hav⟩ : ∃ av, xg[(b - (h + m)).toNat]? = some av := ⟨xg[(b - (h + m)).toNat], List.getElem?_eq_getElem hlt⟩
        refine ⟨_, rfl, _, rfl, f, 1, rfl, rfl, F0, _, (f : Int) - 1, _, rfl, rfl, SqL.of (s26 _ _ hF), by rw [e1]; exact atI_nat (ls_get hLg), _, rfl, _, rfl, b, h + m, rfl, rfl, Lg, xg, b - (h + m), av, rfl, rfl, SqL.of (s26 _ _ hLg2), by rw [e2]; exact atI_nat hav, ?_⟩
        obtain ⟨pb, ib, hb, gb, held, rfl, hpb, hfb⟩ := id best6
        have stay : ∃ bv y5 y6 y7 y8 y9 y10, [some (V.ref a), some (V.int b), some (V.int f), some (V.ref F0), some (V.ref pb), x5, x6, some (V.int (h + m)), some (V.int (m - 1)), some (V.ref g), some av] = [some (.ref a), some (.int b), some (.int f), some (.ref F0), some bv, y5, y6, y7, y8, y9, y10] ∧ Same H5 H6 ∧ BestV K H6 bk b f bv :=
          ⟨_, _, _, _, _, _, _, rfl, s6, best6⟩
        refine ⟨_, rfl, rfl, _, rfl, ?_⟩
        rcases hLayg.2 _ av hav with rfl | ⟨ph, ih, tvh, gvh, rfl, hph, hfh, hpv⟩
        · exact iteF (iteF stay)
        have hph6 := (Same.ts s26) _ _ hph
        refine iteT ⟨_, rfl, ph, _, 0, _, rfl, rfl, hph6, rfl, _, rfl, ih, m - 1, rfl, rfl, _, rfl, pb, _, 0, _, rfl, rfl, hpb, rfl, ih + (m - 1), ib, rfl, rfl, _, rfl, ?_⟩
        refine ite2 (fun _ => ?_) (fun _ => stay)
        refine ⟨_, rfl, ph, _, 0, _, rfl, rfl, hph6, rfl, _, rfl, ih, m - 1, rfl, rfl, _, rfl, ?_⟩
        refine ⟨_, rfl, _, rfl, f, 1, rfl, rfl, _, rfl, _, rfl, b, h + m, rfl, rfl, F0, bk, b, f - 1, (b - (h + m)).toNat, Ls, by show [V.ref F0, V.int ((f : Int) - 1), V.int (b - (h + m))] = _; rw [e1, e2]; rfl, L2'.same s26, by omega, ⟨Lg, xg, _, hLg, hav, fun z => by cases z⟩, fun H7 R2 rs2 s7 nR2 hR2 hrl => ?_⟩
        refine ⟨_, rfl, by show 1 ≤ sizeLine; decide, fun l1 hl1 => ?_⟩
        refine ⟨R2, l1, rs2, [.ref g], rfl, rfl, (same_upd (o := .lst [.ref g]) hl1) _ _ hR2, upd_same, by rw [List.length_singleton]; omega, fun l2 hl2 => ⟨by show 3 ≤ sizeLine; decide, fun pn hpn => ?_⟩⟩
        have s8 := (s7.trans (same_upd (o := .lst [.ref g]) hl1)).trans ((same_upd hl2).trans (same_upd (o := .tup [.int (ih + (m - 1)), .int b, .ref l2]) hpn))
        refine ⟨_, _, _, _, _, _, _, rfl, s6.trans s8, ⟨pn, ih + (m - 1), .int b, .ref l2, b, rfl, SqT.of upd_same, ?_⟩⟩
        have := hfh.short (b := b) (h := h) (m := m) (by omega) h0 m1 m2
        rw [show f - 1 + 1 = f by omega] at this
        exact this
      · rintro σ H6 ⟨bv, x5, x6, x7, x8, x9, x10, rfl, s6, best6⟩
        exact ⟨_, rfl, q H6 bv (((s12.trans s4).trans s5).trans s6) best6⟩
/-! ### never_refused -/
def spLeast (K : PySem.W.Frag) : Sp := fun vs H Q _ => ∃ (a : Addr) (bk : Bk) (b : Int) (f : Nat), vs = [.ref a, .int b, .int f] ∧ bk.Ok ∧ BookAt K H a bk ∧ 1 ≤ b ∧ b ≤ 300 ∧ 1 ≤ f ∧ f ≤ 8 ∧ ∀ H' nr, Same H H' → 0 ≤ nr → nr ≤ b → NR bk b f nr → Q (.int (nr + 1)) H'
theorem sc_least_refused : FnScope ["book", "blocks", "files"] ["book", "blocks", "files"] (defScope (top 26)) := ⟨rfl, rfl, rfl, by decide +kernel, rfl, by decide +kernel, by decide +kernel⟩
theorem ok_least_refused (T : Tx K mg) : FnG P w K mg base CX0 6 "least_refused" ["book", "blocks", "files"] (spLeast K) := by
  obtain ⟨fd, F⟩ := T.f_least_refused
  refine FnG.of F T.g_least_refused (fun _ _ _ _ _ _ us hl => match us, hl with | [_, _, _], _ => rfl) (F.ok sc_least_refused (fun vs H Q E h => ?_) (fun cdv A outer s H vs Q E hr h => ?_))
  · obtain ⟨a, bk, b, f, rfl, _⟩ := h
    rfl
  · obtain ⟨a, bk, b, f, rfl, ok, B, b1, b2, f1, f8, q⟩ := h
    refine ⟨_, pss_cons (ps_expr (pe_g ((ok_check_blocks T).mono (by decide)) hr (pa_cons (pv 1) (pa_cons (pv 2) (pa_cons pe_int pa_nil)))))
      (pss_one (ps_ret (pe_op op_sub (pe_op op_add (pv 1) pe_int) (pe_ix ix_tup (pe_g (ok_fullest T) hr (pa_cons (pv 0) (pa_cons (pv 1) (pa_cons (pe_op op_sub (pv 2) pe_int) pa_nil)))) pe_int (fun _ _ => rfl))))), ?_⟩
    refine ⟨_, rfl, _, rfl, b, f, 1, rfl, b1, b2, by omega, by omega, ?_⟩
    refine ⟨_, rfl, b, 1, rfl, rfl, _, rfl, _, rfl, _, rfl, f, 1, rfl, rfl, a, bk, b, f - 1, by show [V.ref a, V.int b, V.int ((f : Int) - 1)] = _; rw [show ((f : Nat) : Int) - 1 = ((f - 1 : Nat) : Int) by omega], ok, B, b1, b2, by omega, fun H' v s' bv => ?_⟩
    obtain ⟨p, idle, hv, gv, held, rfl, hp, hf⟩ := bv
    have bd := hf.bounds ok
    have n := nr_of_fill ok hf
    rw [show f - 1 + 1 = f by omega] at n
    refine ⟨p, _, 0, _, rfl, rfl, hp, rfl, b + 1, idle, rfl, rfl, ?_⟩
    have := q H' (b - idle) s' (by omega) (by omega) n
    rw [show b - idle + 1 = b + 1 - idle by omega] at this
    exact this
def spNever (K : PySem.W.Frag) : Sp := fun vs H Q _ => ∃ (a : Addr) (bk : Bk) (b : Int) (f : Nat), vs = [.ref a, .int b, .int f] ∧ bk.Ok ∧ BookAt K H a bk ∧ 1 ≤ b ∧ b ≤ 300 ∧ 1 ≤ f ∧ f ≤ 8 ∧ ∀ H' nr, Same H H' → 0 ≤ nr → nr ≤ b → NR bk b f nr → Q (.int nr) H'
theorem sc_never_refused : FnScope ["book", "blocks", "files"] ["book", "blocks", "files"] (defScope (top 27)) := ⟨rfl, rfl, rfl, by decide +kernel, rfl, by decide +kernel, by decide +kernel⟩
theorem ok_never_refused (T : Tx K mg) : FnG P w K mg base CX0 7 "never_refused" ["book", "blocks", "files"] (spNever K) := by
  obtain ⟨fd, F⟩ := T.f_never_refused
  refine FnG.of F T.g_never_refused (fun _ _ _ _ _ _ us hl => match us, hl with | [_, _, _], _ => rfl) (F.ok sc_never_refused (fun vs H Q E h => ?_) (fun cdv A outer s H vs Q E hr h => ?_))
  · obtain ⟨a, bk, b, f, rfl, _⟩ := h
    rfl
  · obtain ⟨a, bk, b, f, rfl, ok, B, b1, b2, f1, f8, q⟩ := h
    refine ⟨_, pss_one (ps_ret (pe_op op_sub (pe_g (ok_least_refused T) hr (pa_cons (pv 0) (pa_cons (pv 1) (pa_cons (pv 2) pa_nil)))) pe_int)), ?_⟩
    refine ⟨_, rfl, _, rfl, _, rfl, a, bk, b, f, rfl, ok, B, b1, b2, f1, f8, fun H' nr s' h0 h1 hn => ⟨nr + 1, 1, rfl, rfl, ?_⟩⟩
    have := q H' nr s' h0 h1 hn
    show Q (.int (nr + 1 - 1)) H'
    rw [show nr + 1 - 1 = nr by omega]
    exact this
end
end K76

/-! The walk, 16: table_of, the making of a book. -/
namespace K76
open PySem PySem.Spec PyProof.Rows L2
theorem sts_snoc {K : PySem.W.Frag} {H : Hp} {vs : List V} {ss : List Stt} {v : V} {s : Stt} (h : Sts K H vs ss) (d : Dp K H v (stD s)) : Sts K H (vs ++ [v]) (ss ++ [s]) := Paired.snoc h d
theorem sts_split {K : PySem.W.Frag} {H : Hp} {vs : List V} {ss : List Stt} (h : Sts K H vs ss) (hn : 0 < vs.length) : ∃ v s, vs[vs.length - 1]? = some v ∧ ss = ss.dropLast ++ [s] ∧ Dp K H v (stD s) ∧ Sts K H vs.dropLast ss.dropLast := by
  have hl := Paired.length h
  have hlt : vs.length - 1 < vs.length := by omega
  obtain ⟨s, hs, hd⟩ := sts_get h (List.getElem?_eq_getElem hlt)
  refine ⟨_, s, List.getElem?_eq_getElem hlt, ?_, hd, ?_⟩
  · have e : ss ≠ [] := fun z => by rw [z, List.length_nil] at hl; omega
    have e2 : ss.getLast e = s := by
      have := List.getLast_eq_getElem e
      rw [this]
      rw [hl] at hs
      have := (List.getElem?_eq_some_iff.mp hs).2
      exact this
    rw [← e2]
    exact (List.dropLast_concat_getLast e).symm
  · have := dps_take (vs.length - 1) (sts_dps h)
    rw [← List.map_take] at this
    have h1 := dps_sts this
    rw [List.dropLast_eq_take, List.dropLast_eq_take, ← hl]
    exact h1
theorem sts_keys {K : PySem.W.Frag} {H : Hp} : ∀ {es : NE}, (∀ e ∈ es, Dp K H (.ref e.2) (stD e.1)) → Sts K H (es.map fun e => V.ref e.2) (es.map (·.1))
  | [], _ => .nil
  | e :: es, h => .cons (h e (List.mem_cons_self ..)) (sts_keys fun x hx => h x (List.mem_cons_of_mem _ hx))
section
variable {X : Cx} {o i e v value : Expr} {pos pos' : Pos} {td ty tv te : TE}
theorem pe_disNK (P : Program) (w : World) (K : PySem.W.Frag) (hu : X.A.units + 65 < cLine) (he : PE X e te) (hv : PE X v tv) (h1 : X.prog = P := by rfl) (h2 : X.w = w := by rfl) (h3 : X.K = K := by rfl) : PE X (.Dict [some e] [v] pos) (tDisN P w K te tv) := by
  subst h1 h2 h3
  exact pe_disN hu he hv
theorem ps_nputK (P : Program) (w : World) (K : PySem.W.Frag) (hu : X.A.units + 65 < cLine) (ho : PE X o td) (hi : PE X i ty) (hv : PE X value tv) (hs : swapsWith value (some (.Subscript o i pos')) pos.line X.env = pure false) (h1 : X.prog = P := by rfl) (h2 : X.w = w := by rfl) (h3 : X.K = K := by rfl) :
    PS X (.Assign [.Subscript o i pos'] value pos) (sNPut P w K td ty tv) := by
  subst h1 h2 h3
  exact ps_nput hu ho hi hv hs
theorem op_notInNK (P : Program) (w : World) (K : PySem.W.Frag) (hu : X.A.units + 65 < cLine) (h1 : X.prog = P := by rfl) (h2 : X.w = w := by rfl) (h3 : X.K = K := by rfl) : OpR X (compareOp .NotIn) (rNotInN P w K) := by
  subst h1 h2 h3
  exact op_notInN hu
end
/-- all that follows from s is in ks -/
def allNext (bk : Bk) (b t : Int) (ks : List Stt) (s : Stt) : Prop := ∀ o ∈ succs bk b t s, ∃ s', o = some s' ∧ s' ∈ ks
theorem optvs_get {K : PySem.W.Frag} {H : Hp} : ∀ {vs : List V} {os : List (Option Stt)} {i : Nat} {v : V}, OptVs K H vs os → vs[i]? = some v → ∃ o, os[i]? = some o ∧ OptV K H v o
  | _, _, i, v, .nil, h => by simp at h
  | _, _, 0, v, .cons h t, e => by
    simp at e
    subst e
    exact ⟨_, rfl, h⟩
  | _, _, i + 1, v, .cons h t, e => by
    simp at e
    obtain ⟨o, h1, h2⟩ := optvs_get t e
    exact ⟨o, by simpa using h1, h2⟩
theorem succs_mem {bk : Bk} {b t : Int} {s : Stt} {o : Option Stt} (h : o ∈ succs bk b t s) : ∃ (n : Nat) (m : Int), n < s.length ∧ 1 ≤ m ∧ sizes s + m ≤ t ∧ o = grownZ bk b s n m := by
  unfold succs at h
  obtain ⟨n, hn, ho⟩ := List.mem_flatMap.mp h
  obtain ⟨m, hm, rfl⟩ := List.mem_map.mp ho
  have hn := List.mem_range.mp hn
  have hm := List.mem_range.mp hm
  exact ⟨n, (m : Int) + 1, hn, by omega, by omega, rfl⟩
theorem allNext_iff {bk : Bk} {b t : Int} {ks : List Stt} {s : Stt} : allNext bk b t ks s ↔ ∀ (n : Nat) (m : Int), n < s.length → 1 ≤ m → sizes s + m ≤ t → ∃ s', grownZ bk b s n m = some s' ∧ s' ∈ ks := by
  constructor
  · intro h n m hn hm ht
    refine h _ ?_
    unfold succs
    exact List.mem_flatMap.mpr ⟨n, List.mem_range.mpr hn, List.mem_map.mpr ⟨(m - 1).toNat, List.mem_range.mpr (by omega), by congr 1; omega⟩⟩
  · intro h o ho
    obtain ⟨n, m, hn, hm, ht, rfl⟩ := succs_mem ho
    exact h n m hn hm ht
section
variable {P : Program} {w : World} {K : PySem.W.Frag} {mg : Str → Option Value} {base : Heap}
def spTableOf (K : PySem.W.Frag) : Sp := fun vs H Q _ => ∃ (a : Addr) (bk : Bk) (b t : Int) (f : Nat) (ss : List Stt), vs = [.ref a, .int b, .int f, .int t] ∧ bk.Ok ∧ BookAt K H a bk ∧ (1 ≤ b ∧ b ≤ 300) ∧ (1 ≤ f ∧ f ≤ 8) ∧ (0 ≤ t ∧ t ≤ 300) ∧
  Closed bk b f t (· ∈ ss) ∧ (∀ s ∈ ss, Good b s ∧ s.length = f) ∧ ss.length ≤ 4000 ∧ ∀ H' T us rs, Same H H' → TableAt K H' T us → Sts K H' us rs → rs.length ≤ 4000 → (∀ s ∈ rs, s ∈ ss) → Closed bk b f t (· ∈ rs) → Q (.ref T) H'
theorem sc_table_of : FnScope ["book", "blocks", "files", "total", "first", "known", "waiting", "later"] ["book", "blocks", "files", "total"] (defScope (top 43)) := ⟨rfl, rfl, rfl, by decide +kernel, rfl, by decide +kernel, by decide +kernel⟩
theorem ok_table_of (T : Tx K mg) : FnG P w K mg base CX0 8 "table_of" ["book", "blocks", "files", "total"] (spTableOf K) := by
  obtain ⟨fd, F⟩ := T.f_table_of
  obtain ⟨t1, g1⟩ := T.i_MOST_STATES
  refine FnG.of F T.g_table_of (fun _ _ _ _ _ _ us hl => match us, hl with | [_, _, _, _], _ => rfl) (F.ok sc_table_of (fun vs H Q E h => ?_) (fun cdv A outer s H vs Q E hr h => ?_))
  · obtain ⟨a, bk, b, t, f, ss, rfl, _⟩ := h
    rfl
  · obtain ⟨a, bk, b, t, f, ss, rfl, ok, B, ⟨b1, b2⟩, ⟨f1, f2⟩, ⟨t0, t2⟩, CL, hG, hsl, q⟩ := h
    have nd := sc_table_of.nd
    have hsz := sizeLine_eq
    refine ⟨_, pss_cons (ps_expr (pe_g ((ok_check_numbers T).mono (by decide)) hr (pa_cons (pv 1) (pa_cons (pv 2) (pa_cons (pv 3) pa_nil)))))
      (pss_cons (ps_if (pt_cmpR op_gt (pv 3) (pe_g (ok_never_refused T) hr (pa_cons (pv 0) (pa_cons (pv 1) (pa_cons (pv 2) pa_nil)))) (nomark _)) pss_never pss_nil)
      (pss_cons (ps_set (i := 4) nd rfl (.inl rfl) (pe_op op_mulT (pe_tup (pa_cons (pe_tup (pa_cons pe_int (pa_cons pe_int pa_nil))) pa_nil)) (pv 2)))
      (pss_cons (ps_set (i := 5) nd rfl (.inl rfl) (pe_disNK P w K (hu65 hr) (pv 4) pe_bl))
      (pss_cons (ps_set (i := 6) nd rfl (.inl rfl) (pe_lst (pa_cons (pv 4) pa_nil)))
      (pss_cons (ps_while PassesOwn.never (pt_cmpR op_gt (pe_callB call_len rfl T.m_len boot_len' (pa_cons (pv 6) pa_nil)) pe_int (nomark _))
        (pss_one (ps_for PassesOwn.never rfl (pi_list (pe_g ((ok_next_states T).mono (by decide)) hr (pa_cons (pv 0) (pa_cons (pv 1) (pa_cons (pv 3) (pa_cons (pe_bm0 PySem.F.plainAttrs_list PySem.F.slot_list_pop PySem.F.type_list_pop mt_pop (pv 6)) pa_nil)))))) (pg_name (i := 7) nd rfl (.inl rfl))
          (pss_one (ps_if (pt_cmpR (op_notInNK P w K (hu65 hr)) (pv 7) (pv 5) rfl)
            (pss_cons (ps_nputK P w K (hu65 hr) (pv 5) (pv 7) pe_bl rfl)
            (pss_cons (ps_expr (pe_bm PySem.F.plainAttrs_list PySem.F.slot_list_append PySem.F.type_list_append mt_append (pv 6) (pa_cons (pv 7) pa_nil)))
            (pss_one (ps_if (pt_cmpR op_gt (pe_callB call_lenN rfl T.m_len boot_len' (pa_cons (pv 5) pa_nil)) (pe_glob (v := .int 5000) rfl g1 ⟨_, rfl⟩) (nomark _)) pss_never pss_nil)))) pss_nil)))))
      (pss_one (ps_ret (pe_Table T (hr.mono (by decide)) (pe_callTy (call_listN rfl) rfl T.m_list boot_list' (pa_cons (pv 5) pa_nil)))))))))), ?_⟩
    refine ⟨_, rfl, _, rfl, _, rfl, b, f, t, rfl, b1, b2, by omega, by omega, t0, t2, ?_⟩
    refine ⟨_, rfl, _, rfl, _, rfl, _, rfl, a, bk, b, f, rfl, ok, B, b1, b2, f1, f2, fun H1 nr s1 n0 n1 hnr => ⟨t, nr, rfl, rfl, _, rfl, ?_⟩⟩
    have htn := hnr t (· ∈ ss) CL
    rw [decide_eq_false (show ¬ t > nr by omega)]
    refine iteF ⟨by show 2 ≤ sizeLine; decide, fun p1 hp1 => ⟨by show 1 ≤ sizeLine; decide, fun p2 hp2 => ?_⟩⟩
    have s2 := (same_upd (o := .tup [.int 0, .int 0]) hp1).trans (same_upd (o := .tup [.ref p1]) hp2)
    have p12 : p1 ≠ p2 := fun z => by subst z; rw [upd_same] at hp2; cases hp2
    have hp1' : upd (upd H1 p1 (.tup [.int 0, .int 0])) p2 (.tup [.ref p1]) p1 = some (.tup [.int 0, .int 0]) := by rw [upd_ne p12]; exact upd_same
    have hp2' : upd (upd H1 p1 (.tup [.int 0, .int 0])) p2 (.tup [.ref p1]) p2 = some (.tup [.ref p1]) := upd_same
    generalize upd (upd H1 p1 (.tup [.int 0, .int 0])) p2 (.tup [.ref p1]) = H2 at s2 hp1' hp2' ⊢
    refine ⟨_, rfl, p2, f, [.ref p1], rfl, rfl, hp2', by simp, by omega, by omega, by show 1 ≤ 1000; decide, fun p3 H3 s3 hp3 => ?_⟩
    have hz3 : Dp K H3 (.ref p3) (stD (zeros f)) := dp_zeros (s3 _ _ hp1') hp3
    have s13 := (s1.trans s2).trans s3
    refine fun D hD nmD => ?_
    have s4 := same_upd (o := dnO P w D []) hD
    refine ⟨_, rfl, rfl, upd_same, zeros f, p3, rfl, dp_same s4 _ _ hz3, ?_⟩
    have DN0 : DN P w K (upd (upd H3 D (dnO P w D [])) D (dnO P w D [(zeros f, p3)])) D [(zeros f, p3)] := DN.put (dn_nil upd_same nmD) (dp_same s4 _ _ hz3) (by decide)
    rw [upd_upd] at DN0
    rw [upd_upd]
    have s5 := same_upd (o := dnO P w D [(zeros f, p3)]) hD
    have hz5 := dp_same s5 _ _ hz3
    have s15 := s13.trans s5
    have nDH : H D = none := by
      cases e : H D with
      | none => rfl
      | some u => rw [s13 _ _ e] at hD; cases hD
    generalize upd H3 D (dnO P w D [(zeros f, p3)]) = H5 at DN0 s5 hz5 s15 ⊢
    refine ⟨_, rfl, by show 1 ≤ sizeLine; decide, fun W hW => ?_⟩
    have s6 := same_upd (o := .lst [.ref p3]) hW
    have nWH : H W = none := by
      cases e : H W with
      | none => rfl
      | some u => rw [s15 _ _ e] at hW; cases hW
    have nDW : D ≠ W := ne_of_none DN0.at_ hW
    have zin := CL.zero
    -- the loop
    have bound : ∀ (es : NE) (H' : Hp), DN P w K H' D es → (∀ s ∈ es.map (·.1), s ∈ ss) → es.length ≤ ss.length := fun es H' dn h => by
      have := List.Nodup.length_le_of_subset dn.nd h
      rw [List.length_map] at this
      exact this
    refine ⟨fun m σ H' => ∃ (x7 : Option V) (es : NE) (ws : List V) (wss : List Stt), σ = [some (.ref a), some (.int b), some (.int f), some (.int t), some (.ref p3), some (.ref D), some (.ref W), x7] ∧ Same H H' ∧ DN P w K H' D es ∧ H' W = some (.lst ws) ∧ Sts K H' ws wss ∧ (∀ s ∈ wss, s ∈ es.map (fun e : Stt × Addr => e.1)) ∧ (∀ s ∈ es.map (fun e : Stt × Addr => e.1), s ∈ ss) ∧ zeros f ∈ es.map (fun e : Stt × Addr => e.1) ∧
        (∀ s ∈ es.map (fun e : Stt × Addr => e.1), s ∈ wss ∨ allNext bk b t (es.map (fun e : Stt × Addr => e.1)) s) ∧ wss.length ≤ es.length ∧ m = 2 * (ss.length - es.length) + wss.length,
      ⟨_, none, [(zeros f, p3)], [.ref p3], [zeros f], rfl, s15.trans s6, DN0.same s6, upd_same, .cons (dp_same s6 _ _ hz5) .nil, fun s h => h, fun s h => by rw [List.mem_singleton.mp h]; exact zin, List.mem_singleton.mpr rfl, fun s h => .inl h, Nat.le_refl _, rfl⟩, ?_⟩
    rintro m σ H7 ⟨x7, es, ws, wss, rfl, s7, dn7, hW7, hws, hwk, hks, hz, hall, hwl, rfl⟩
    have hlw := Paired.length hws
    have hbe := bound es H7 dn7 hks
    refine ⟨_, rfl, _, ws.length, rfl, .inl ⟨ws, SqL.of hW7, rfl⟩, ws.length, 0, rfl, rfl, _, rfl, ?_⟩
    by_cases hpos : 0 < ws.length
    · rw [decide_eq_true (show (ws.length : Int) > 0 by omega)]
      obtain ⟨v0, st0, hv0, hss0, hd0, hws0⟩ := sts_split hws hpos
      have hst0k : st0 ∈ es.map (fun e : Stt × Addr => e.1) := hwk _ (by rw [hss0]; simp)
      obtain ⟨hg0, hl0⟩ := hG st0 (hks _ hst0k)
      have tW := ts_upd (K := K) (o' := .lst ws.dropLast) hW7 rfl
      have ld : (wss.dropLast).length + 1 = wss.length := by
        rw [List.length_dropLast]
        omega
      refine iteT ⟨fun σ' H' => ∃ (x7 : Option V) (es' : NE) (ws' : List V) (wss' : List Stt), σ' = [some (.ref a), some (.int b), some (.int f), some (.int t), some (.ref p3), some (.ref D), some (.ref W), x7] ∧ Same H H' ∧ DN P w K H' D es' ∧ H' W = some (.lst ws') ∧ Sts K H' ws' wss' ∧ (∀ s ∈ wss', s ∈ es'.map (fun e : Stt × Addr => e.1)) ∧ (∀ s ∈ es'.map (fun e : Stt × Addr => e.1), s ∈ ss) ∧ zeros f ∈ es'.map (fun e : Stt × Addr => e.1) ∧
        (∀ s ∈ es'.map (fun e : Stt × Addr => e.1), s ∈ wss' ∨ allNext bk b t (es'.map (fun e : Stt × Addr => e.1)) s) ∧ wss'.length ≤ es'.length ∧ 2 * (ss.length - es'.length) + wss'.length < 2 * (ss.length - es.length) + wss.length, ?_, ?_⟩
      · rintro σ' H' ⟨x7, es', ws', wss', h1, h2, h3, h4, h5, h6, h7, h8, h9, h10, h11⟩
        exact ⟨_, h11, x7, es', ws', wss', h1, h2, h3, h4, h5, h6, h7, h8, h9, h10, rfl⟩
      refine ⟨_, rfl, _, rfl, _, rfl, _, rfl, .inl ⟨rfl, _, SqL.of hW7⟩, W, ws, v0, rfl, rfl, hW7, hv0, ?_⟩
      have sW : Same H (upd H7 W (.lst ws.dropLast)) := fun c u e => by
        rw [upd_ne (fun z => by subst z; rw [nWH] at e; cases e)]
        exact s7 _ _ e
      have dn8 : DN P w K (upd H7 W (.lst ws.dropLast)) D es := dn7.upd hW7 rfl nDW
      have hW8 : upd H7 W (.lst ws.dropLast) W = some (.lst ws.dropLast) := upd_same
      have hd8 := dp_ts tW hd0
      have hws8 := sts_ts tW hws0
      generalize upd H7 W (.lst ws.dropLast) = H8 at sW dn8 hW8 hd8 hws8 ⊢
      refine ⟨a, bk, v0, st0, b, t, rfl, ok, B.same sW, hd8, hg0, b2, t0, t2, fun H9 L os s9 nL hL hlL hos => ?_⟩
      refine ⟨L, rfl, ⟨os, SqL.of hL⟩, ?_⟩
      have nLD : L ≠ D := fun z => by subst z; rw [dn8.at_] at nL; cases nL
      have nLW : L ≠ W := fun z => by subst z; rw [hW8] at nL; cases nL
      refine for_list (K := K) (a := L) (xs := os) (fun i σ H' => ∃ (x7 : Option V) (es' : NE) (ws' : List V) (wss' : List Stt), σ = [some (.ref a), some (.int b), some (.int f), some (.int t), some (.ref p3), some (.ref D), some (.ref W), x7] ∧ Same H H' ∧ TupS K H9 H' ∧ H' L = some (.lst os) ∧ DN P w K H' D es' ∧ H' W = some (.lst ws') ∧ Sts K H' ws' wss' ∧ (∀ s ∈ wss', s ∈ es'.map (fun e : Stt × Addr => e.1)) ∧ (∀ s ∈ es'.map (fun e : Stt × Addr => e.1), s ∈ ss) ∧ (∀ s ∈ es.map (fun e : Stt × Addr => e.1), s ∈ es'.map (fun e : Stt × Addr => e.1)) ∧
          (∀ s ∈ es'.map (fun e : Stt × Addr => e.1), s ∈ wss' ∨ s = st0 ∨ allNext bk b t (es'.map (fun e : Stt × Addr => e.1)) s) ∧ wss'.length ≤ es'.length ∧ 2 * (ss.length - es'.length) + wss'.length < 2 * (ss.length - es.length) + wss.length ∧
          ∀ j o, j < i → (succs bk b t st0)[j]? = some o → ∃ s', o = some s' ∧ s' ∈ es'.map (fun e : Stt × Addr => e.1))
        ⟨_, es, ws.dropLast, wss.dropLast, rfl, sW.trans s9, TupS.refl _, hL, dn8.same s9, s9 _ _ hW8, sts_ts (Same.ts s9) hws8, fun s h => hwk s (by rw [hss0]; exact List.mem_append_left _ h), hks, fun s h => h, fun s h => ?_, by omega, by omega, fun j o hj => absurd hj (Nat.not_lt_zero j)⟩ ?_ ?_ ?_
      · rcases hall s h with z | z
        · rw [hss0] at z
          rcases List.mem_append.mp z with z | z
          · exact .inl z
          · exact .inr (.inl (List.mem_singleton.mp z))
        · exact .inr (.inr z)
      · rintro i σ H' _ ⟨y7, es', ws', wss', rfl, _, _, h1, _⟩
        exact SqL.of h1
      · rintro i x σ H10 hx ⟨y7, es', ws', wss', rfl, s10, t10, hL10, dn10, hW10, hws10, hwk10, hks10, hinc, hall10, hwl10, hm10, hdone⟩
        obtain ⟨o, ho1, ho2⟩ := optvs_get hos hx
        obtain ⟨n, mm, hn, hm1, hmt, ho3⟩ := succs_mem (List.mem_of_getElem? ho1)
        obtain ⟨s', e', hs'⟩ := CL.next st0 (hks _ hst0k) n mm (by rw [← hl0]; exact hn) hm1 hmt
        rw [e'] at ho3
        subst ho3
        have hxd := dp_ts t10 (show Dp K H9 x (stD s') from ho2)
        obtain ⟨ax, _, rfl, _, _⟩ := dp_st hxd
        have hbe' := bound es' H10 dn10 hks10
        refine ⟨_, rfl, _, rfl, s', D, es', hxd, rfl, dn10, _, rfl, ?_⟩
        have grow : ∀ (es2 : NE), (∀ s ∈ es'.map (fun e : Stt × Addr => e.1), s ∈ es2.map (fun e : Stt × Addr => e.1)) → s' ∈ es2.map (fun e : Stt × Addr => e.1) → ∀ j o, j < i + 1 → (succs bk b t st0)[j]? = some o → ∃ s', o = some s' ∧ s' ∈ es2.map (fun e : Stt × Addr => e.1) := by
          intro es2 h1 h2 j o hj ho
          by_cases hji : j < i
          · obtain ⟨s2, e2, m2⟩ := hdone j o hji ho
            exact ⟨s2, e2, h1 _ m2⟩
          · have : j = i := by omega
            subst this
            rw [ho1] at ho
            cases ho
            exact ⟨s', rfl, h2⟩
        by_cases cin : s' ∈ es'.map (fun e : Stt × Addr => e.1)
        · rw [decide_eq_true cin]
          exact iteF ⟨_, es', ws', wss', rfl, s10, t10, hL10, dn10, hW10, hws10, hwk10, hks10, hinc, hall10, hwl10, hm10, grow es' (fun _ h => h) cin⟩
        · rw [decide_eq_false cin]
          have ep : putN es' s' ax = es' ++ [(s', ax)] := if_neg cin
          refine iteT ⟨_, rfl, _, rfl, rfl, s', D, ax, es', rfl, rfl, hxd, dn10, ?_⟩
          have dn11 := dn10.put hxd (by omega)
          have t11 := ts_upd (K := K) (o' := dnO P w D (putN es' s' ax)) dn10.at_ rfl
          rw [ep] at dn11 t11 ⊢
          have hW11 : upd H10 D (dnO P w D (es' ++ [(s', ax)])) W = some (.lst ws') := by rw [upd_ne (Ne.symm nDW)]; exact hW10
          have hL11 : upd H10 D (dnO P w D (es' ++ [(s', ax)])) L = some (.lst os) := by rw [upd_ne nLD]; exact hL10
          have s11 : Same H (upd H10 D (dnO P w D (es' ++ [(s', ax)]))) := fun c u e => by
            rw [upd_ne (fun z => by subst z; rw [nDH] at e; cases e)]
            exact s10 _ _ e
          have hx11 := dp_ts t11 hxd
          have hws11 := sts_ts t11 hws10
          generalize upd H10 D (dnO P w D (es' ++ [(s', ax)])) = H11 at dn11 t11 hW11 hL11 s11 hx11 hws11 ⊢
          have hkeys : (es' ++ [(s', ax)]).map (fun e : Stt × Addr => e.1) = es'.map (fun e : Stt × Addr => e.1) ++ [s'] := by simp
          have hks12 : ∀ s ∈ (es' ++ [(s', ax)]).map (fun e : Stt × Addr => e.1), s ∈ ss := fun s h => by
            rw [hkeys] at h
            rcases List.mem_append.mp h with h | h
            · exact hks10 s h
            · rw [List.mem_singleton.mp h]; exact hs'
          have hbe2 := bound _ _ dn11 hks12
          have hlw' := Paired.length hws10
          rw [List.length_append, List.length_singleton] at hbe2
          refine ⟨_, rfl, .inl ⟨rfl, _, SqL.of hW11⟩, _, rfl, W, ws', .ref ax, rfl, rfl, hW11, by omega, ?_⟩
          have t12 := ts_upd (K := K) (o' := .lst (ws' ++ [.ref ax])) hW11 rfl
          have dn12 : DN P w K (upd H11 W (.lst (ws' ++ [.ref ax]))) D (es' ++ [(s', ax)]) := dn11.upd hW11 rfl nDW
          refine ⟨_, rfl, D, es' ++ [(s', ax)], rfl, dn12, (es' ++ [(s', ax)]).length, 5000, rfl, rfl, _, rfl, ?_⟩
          rw [decide_eq_false (show ¬ (((es' ++ [(s', ax)]).length : Nat) : Int) > 5000 by rw [List.length_append, List.length_singleton]; omega)]
          refine iteF ⟨_, es' ++ [(s', ax)], ws' ++ [.ref ax], wss' ++ [s'], rfl, fun c u e => ?_, (t10.trans t11).trans t12, by rw [upd_ne nLW]; exact hL11, dn12, upd_same, sts_snoc (sts_ts t12 hws11) (dp_ts t12 hx11), fun s h => ?_, hks12, fun s h => ?_, fun s h => ?_, ?_, ?_, grow _ (fun s h => ?_) ?_⟩
          · rw [upd_ne (fun z => by subst z; rw [nWH] at e; cases e)]
            exact s11 _ _ e
          · rw [hkeys]
            rcases List.mem_append.mp h with h | h
            · exact List.mem_append_left _ (hwk10 s h)
            · exact List.mem_append_right _ h
          · rw [hkeys]
            exact List.mem_append_left _ (hinc s h)
          · rw [hkeys] at h
            rcases List.mem_append.mp h with h | h
            · rcases hall10 s h with z | z | z
              · exact .inl (List.mem_append_left _ z)
              · exact .inr (.inl z)
              · refine .inr (.inr fun o ho => ?_)
                obtain ⟨s2, e2, m2⟩ := z o ho
                exact ⟨s2, e2, by rw [hkeys]; exact List.mem_append_left _ m2⟩
            · exact .inl (List.mem_append_right _ h)
          · rw [List.length_append, List.length_append, List.length_singleton, List.length_singleton]
            omega
          · rw [List.length_append, List.length_append, List.length_singleton, List.length_singleton]
            omega
          · rw [hkeys]
            exact List.mem_append_left _ h
          · rw [hkeys]
            exact List.mem_append_right _ (List.mem_singleton.mpr rfl)
      · rintro σ H10 ⟨y7, es', ws', wss', rfl, s10, t10, hL10, dn10, hW10, hws10, hwk10, hks10, hinc, hall10, hwl10, hm10, hdone⟩
        have hosl := Paired.length hos
        refine ⟨_, es', ws', wss', rfl, s10, dn10, hW10, hws10, hwk10, hks10, hinc _ hz, fun s h => ?_, hwl10, hm10⟩
        rcases hall10 s h with z | z | z
        · exact .inl z
        · subst z
          refine .inr fun o ho => ?_
          obtain ⟨j, hj⟩ := List.mem_iff_getElem?.mp ho
          exact hdone j o (by rw [hosl]; exact (List.getElem?_eq_some_iff.mp hj).1) hj
        · exact .inr z
    · rw [decide_eq_false (show ¬ (ws.length : Int) > 0 by omega)]
      have hw0 : wss = [] := List.eq_nil_of_length_eq_zero (by omega)
      subst hw0
      refine iteF ⟨_, rfl, D, es, rfl, dn7, fun p4 hp4 => ⟨p4, _, rfl, upd_same, fun H8 T0 s8 nT TA => ?_⟩⟩
      have s78 := (same_upd (o := .lst (es.map fun e => V.ref e.2)) hp4).trans s8
      have sts : Sts K H8 (es.map fun e => V.ref e.2) (es.map (fun e : Stt × Addr => e.1)) := sts_keys (dn7.same s78).key
      refine q H8 T0 _ (es.map (fun e : Stt × Addr => e.1)) (s7.trans s78) TA sts (by rw [List.length_map]; omega) hks ⟨hz, fun st hst n m hn hm ht => ?_⟩
      rcases hall st hst with z | z
      · cases z
      · exact allNext_iff.mp z n m (by rw [(hG st (hks st hst)).2]; exact hn) hm ht
/-! ### a book is made -/
theorem kb_Book (T : Tx K mg) : ∃ fd, KBn K fd ["self", "first", "roof", "share"] 3 ["share"] (fun us ws => us ++ ws) (fun us ws => us ++ ws) ∧ FnOk P w K mg base CX0 4 (He.ma K (He.ga K "Book") "__init__") fd ["self", "first", "roof", "share"] (spBookInit K) := by
  obtain ⟨fd, F, ok⟩ := ok_Book_init (P := P) (w := w) (base := base) T
  refine ⟨fd, ⟨fun s us ws X l1 l2 => ?_, fun r1 r2 => r1.append r2⟩, ok⟩
  obtain ⟨oc, od, kV, doc, pm, an, cdv, ct, osl, rfl, _⟩ := F.ex
  match us, ws, l1, l2 with
  | [_, _, _], [_], _, _ => exact .of_eq rfl
end
end K76

/-! The walk, 17: the law's pool, parts, book, step, growth. -/
namespace K76
open PySem PySem.Spec PyProof.Rows L2
theorem SB.trans {p : Addr} {H H1 H2 : Hp} (a : SB p H H1) (b : SB p H1 H2) : SB p H H2 := fun c u n e => b c u n (a c u n e)
theorem SB.refl (p : Addr) (H : Hp) : SB p H H := fun _ _ _ e => e
theorem Same.sb {p : Addr} {H H' : Hp} (s : Same H H') : SB p H H' := fun c u _ e => s c u e
theorem sb_upd {p : Addr} {H : Hp} {o : HO} : SB p H (upd H p o) := fun c u n e => by rw [upd_ne n]; exact e
theorem BookAt.sb {K : PySem.W.Frag} {H H' : Hp} {a p : Addr} {b : Bk} {xs : List V} (B : BookAt K H a b) (s : SB p H H') (h : H p = some (.lst xs)) : BookAt K H' a b := by
  obtain ⟨dx, sh, h1, h2⟩ := B
  exact ⟨dx, sh, s _ _ (fun z => by subst z; rw [h] at h1; cases h1) h1, s _ _ (fun z => by subst z; rw [h] at h2; cases h2) h2⟩
/-- the pool of numbers -/
def PoolAt (H : Hp) (p : Addr) : Prop := ∃ x y : Int, H p = some (.lst [.int x, .int y]) ∧ 0 ≤ y ∧ y < 2147483648
theorem PoolAt.same {H H' : Hp} {p : Addr} (h : PoolAt H p) (s : Same H H') : PoolAt H' p := by
  obtain ⟨x, y, e, r⟩ := h
  exact ⟨x, y, s _ _ e, r⟩
/-- the law's own parts of a book -/
def PartsAt (H : Hp) (a : Addr) (b : Bk) : Prop := ∃ sh, H a = some (.tup [.int b.first, .int b.roof, .ref sh]) ∧ H sh = some (.tup [.int b.top, .int b.bot])
theorem PartsAt.same {H H' : Hp} {a : Addr} {b : Bk} (h : PartsAt H a b) (s : Same H H') : PartsAt H' a b := by
  obtain ⟨sh, h1, h2⟩ := h
  exact ⟨sh, s _ _ h1, s _ _ h2⟩
theorem PartsAt.sb {H H' : Hp} {a p : Addr} {b : Bk} {xs : List V} (B : PartsAt H a b) (s : SB p H H') (h : H p = some (.lst xs)) : PartsAt H' a b := by
  obtain ⟨sh, h1, h2⟩ := B
  exact ⟨sh, s _ _ (fun z => by subst z; rw [h] at h1; cases h1) h1, s _ _ (fun z => by subst z; rw [h] at h2; cases h2) h2⟩
section
variable {P : Program} {w : World} {K : PySem.W.Frag} {mg : Str → Option Value} {base : Heap}
/-! ### _law_draw -/
def spDraw : Sp := fun vs H Q _ => ∃ (p : Addr) (m : Int), vs = [.ref p, .int m] ∧ PoolAt H p ∧ 1 ≤ m ∧ m ≤ 100000 ∧ ∀ H' r, 0 ≤ r → r < m → SB p H H' → PoolAt H' p → Q (.int r) H'
theorem sc_draw : FnScope ["_law_pool", "_law_many", "_law_found"] ["_law_pool", "_law_many"] (defScope (top 55)) := ⟨rfl, rfl, rfl, by decide +kernel, rfl, by decide +kernel, by decide +kernel⟩
theorem ok_draw (T : Tx K mg) : FnG P w K mg base CX0 1 "_law_draw" ["_law_pool", "_law_many"] spDraw := by
  obtain ⟨fd, F⟩ := T.f_l_draw
  refine FnG.of F T.g_l_draw (fun _ _ _ _ _ _ us hl => match us, hl with | [_, _], _ => rfl) (F.ok sc_draw (fun vs H Q E h => ?_) (fun cdv A outer s H vs Q E hr h => ?_))
  · obtain ⟨p, m, rfl, _⟩ := h
    rfl
  · obtain ⟨p, m, rfl, ⟨x, y, hp, y0, y1⟩, m1, m2, q⟩ := h
    have nd := sc_draw.nd
    refine ⟨_, pss_cons (ps_if (pt_cmpR op_gt (pe_ix ix_list (pv 0) pe_int (fun _ _ => rfl)) pe_int (nomark _))
        (pss_cons (ps_set (i := 2) nd rfl (.inl rfl) (pe_op op_mod (pe_callTy call_int1 rfl T.m_int boot_int' (pa_cons (pe_ix ix_list (pv 0) pe_int (fun _ _ => rfl)) pa_nil)) (pv 1)))
        (pss_cons (ps_asg (pe_op op_fdivN (pe_ix ix_list (pv 0) pe_int (fun _ _ => rfl)) (pv 1)) (pg_sub (pv 0) pe_int set_list))
        (pss_one (ps_ret (pv 2))))) pss_nil)
      (pss_cons (ps_asg (pe_op op_mod (pe_callTy call_int1 rfl T.m_int boot_int' (pa_cons (pe_op op_add (pe_op op_mul (pe_ix ix_list (pv 0) pe_int (fun _ _ => rfl)) pe_int) pe_int) pa_nil)) pe_int) (pg_sub (pv 0) pe_int set_list))
      (pss_one (ps_ret (pe_op op_mod (pe_op op_fdivN (pe_op op_mod (pe_callTy call_int1 rfl T.m_int boot_int' (pa_cons (pe_op op_mul (pe_ix ix_list (pv 0) pe_int (fun _ _ => rfl)) (pe_ix ix_list (pv 0) pe_int (fun _ _ => rfl))) pa_nil)) pe_int) pe_int) (pv 1))))), ?_⟩
    refine ⟨_, rfl, p, _, 0, _, rfl, rfl, SqL.of hp, rfl, x, 0, rfl, rfl, _, rfl, ?_⟩
    refine ite2 (fun _ => ?_) (fun _ => ?_)
    · refine ⟨_, rfl, p, _, 0, _, rfl, rfl, SqL.of hp, rfl, .inl ⟨x, rfl, _, rfl, x, m, rfl, rfl, by omega, ?_⟩⟩
      refine ⟨_, rfl, p, _, 0, _, rfl, rfl, SqL.of hp, rfl, _, rfl, x, m, rfl, rfl, ⟨by omega, by omega⟩, ?_⟩
      refine ⟨_, rfl, p, _, 0, 0, rfl, rfl, hp, rfl, ?_⟩
      exact ⟨_, rfl, q _ _ (Int.emod_nonneg _ (by omega)) (Int.emod_lt_of_pos _ (by omega)) sb_upd ⟨_, y, upd_same, y0, y1⟩⟩
    · refine ⟨_, rfl, p, _, 1, _, rfl, rfl, SqL.of hp, rfl, y, 48271, rfl, rfl, .inl ⟨by omega, by omega⟩, y * 48271, 11, rfl, rfl, .inl ⟨_, rfl, _, 2147483647, rfl, rfl, (show (0 : Int) < 2147483647 by decide), ?_⟩⟩
      refine ⟨_, rfl, p, _, 1, 1, rfl, rfl, hp, rfl, ?_⟩
      have z0 := Int.emod_nonneg (y * 48271 + 11) (show (2147483647 : Int) ≠ 0 by decide)
      have z1 := Int.emod_lt_of_pos (y * 48271 + 11) (show (0 : Int) < 2147483647 by decide)
      have hp2 : upd H p (.lst ([V.int x, V.int y].set 1 (.int ((y * 48271 + 11) % 2147483647)))) p = some (.lst [.int x, .int ((y * 48271 + 11) % 2147483647)]) := upd_same
      refine ⟨_, rfl, p, _, 1, _, rfl, rfl, SqL.of hp2, rfl, _, rfl, p, _, 1, _, rfl, rfl, SqL.of hp2, rfl, (y * 48271 + 11) % 2147483647, (y * 48271 + 11) % 2147483647, rfl, rfl, .inl ⟨by omega, by omega⟩, .inl ⟨_, rfl, _, 2147483629, rfl, rfl, (show (0 : Int) < 2147483629 by decide), _, 64, rfl, rfl, ⟨by decide, by decide⟩, _, rfl, _, m, rfl, rfl, by omega, ?_⟩⟩
      exact q _ _ (Int.emod_nonneg _ (by omega)) (Int.emod_lt_of_pos _ (by omega)) sb_upd ⟨x, _, hp2, z0, by omega⟩
/-! ### _law_hand -/
def spHand (K : PySem.W.Frag) : Sp := fun vs H Q _ => ∃ (s : Addr) (ns : List Int) (k : Nat), vs = [.ref s, .int k] ∧ SqL K H s (ns.map V.int) ∧ k ≤ 2 ∧ ∀ H' p, Same H H' → H p = none → PoolAt H' p → Q (.ref p) H'
theorem sc_hand : FnScope ["_law_script", "_law_k", "_law_cell", "_law_seed"] ["_law_script", "_law_k"] (defScope (top 54)) := ⟨rfl, rfl, rfl, by decide +kernel, rfl, by decide +kernel, by decide +kernel⟩
theorem none_of_same {H H' : Hp} {p : Addr} (s : Same H H') (h : H' p = none) : H p = none := by
  cases e : H p with
  | none => rfl
  | some u => rw [s _ _ e] at h; cases h
theorem ok_hand (T : Tx K mg) : FnG P w K mg base CX0 1 "_law_hand" ["_law_script", "_law_k"] (spHand K) := by
  obtain ⟨fd, F⟩ := T.f_l_hand
  refine FnG.of F T.g_l_hand (fun _ _ _ _ _ _ us hl => match us, hl with | [_, _], _ => rfl) (F.ok sc_hand (fun vs H Q E h => ?_) (fun cdv A outer s H vs Q E hr h => ?_))
  · obtain ⟨s, ns, k, rfl, _⟩ := h
    rfl
  · obtain ⟨sa, ns, k, rfl, hs, k2, q⟩ := h
    have nd := sc_hand.nd
    have hsl := sizeLine_eq
    refine ⟨_, pss_cons (ps_set (i := 2) nd rfl (.inl rfl) (pe_ix ix_list (pe_op op_cat (pe_slice sl_list (pv 0) (po_some (pv 1)) (po_some (pe_op op_add (pv 1) pe_int))) (pe_lst (pa_cons pe_int pa_nil))) pe_int (fun _ _ => rfl)))
      (pss_cons (ps_set (i := 3) nd rfl (.inl rfl) (pe_op op_mod (pe_op op_mul (pe_op op_add (pe_op op_add (pe_op op_mod (pe_callTy call_int1 rfl T.m_int boot_int' (pa_cons (pv 2) pa_nil)) pe_int) (pe_op op_mul pe_int (pv 1))) pe_int) pe_int) pe_int))
      (pss_one (ps_ret (pe_lst (pa_cons (pe_op op_mul (pe_callTy call_int1 rfl T.m_int boot_int' (pa_cons (pe_cmpR op_ge (pv 2) (pe_op op_pow pe_int pe_int) (nomark _)) pa_nil)) (pv 2)) (pa_cons (pv 3) pa_nil)))))), ?_⟩
    refine ⟨_, rfl, _, rfl, k, rfl, _, rfl, k, 1, rfl, rfl, (k : Int) + 1, rfl, sa, _, rfl, hs, fun l1 hl1 => ?_⟩
    refine ⟨by show 1 ≤ sizeLine; decide, fun l2 hl2 => ?_⟩
    have s1 := (same_upd (o := .lst (cutV (ns.map V.int) (some (k : Int)) (some ((k : Int) + 1)))) hl1).trans (same_upd (o := .lst [.int 0]) hl2)
    have e12 : l1 ≠ l2 := fun z => by subst z; rw [upd_same] at hl2; cases hl2
    have hl1' : upd (upd H l1 (.lst (cutV (ns.map V.int) (some (k : Int)) (some ((k : Int) + 1))))) l2 (.lst [.int 0]) l1 = some (.lst (cutV (ns.map V.int) (some (k : Int)) (some ((k : Int) + 1)))) := by rw [upd_ne e12]; exact upd_same
    have hcut : ∃ ms : List Int, cutV (ns.map V.int) (some (k : Int)) (some ((k : Int) + 1)) = ms.map V.int ∧ ms.length ≤ 1 := by
      have e : ((k : Int) + 1) = ((k + 1 : Nat) : Int) := by omega
      unfold cutV
      rw [e, HT.sIx_nat, HT.sIx_nat, ← List.map_drop, ← List.map_take]
      refine ⟨_, rfl, ?_⟩
      rw [List.length_take]
      omega
    obtain ⟨ms, hms, hml⟩ := hcut
    rw [hms] at s1 hl1' ⊢
    have hl2' : upd (upd H l1 (.lst (ms.map V.int))) l2 (.lst [.int 0]) l2 = some (.lst [.int 0]) := upd_same
    generalize upd (upd H l1 (.lst (ms.map V.int))) l2 (.lst [.int 0]) = H2 at s1 hl1' hl2' ⊢
    obtain ⟨cell, hcell⟩ : ∃ cell : Int, (ms.map V.int ++ [V.int 0])[0]? = some (.int cell) := by
      cases ms with
      | nil => exact ⟨0, rfl⟩
      | cons c _ => exact ⟨c, rfl⟩
    refine ⟨l1, l2, _, _, rfl, rfl, hl1', hl2', by rw [List.length_map, List.length_singleton]; omega, fun l3 hl3 => ?_⟩
    refine ⟨l3, _, 0, _, rfl, rfl, SqL.of upd_same, atI_nat (j := 0) hcell, ?_⟩
    have s3 := s1.trans (same_upd (o := .lst (ms.map V.int ++ [V.int 0])) hl3)
    generalize upd H2 l3 (.lst (ms.map V.int ++ [V.int 0])) = H3 at s3 ⊢
    have c0 := Int.emod_nonneg cell (show (2147483647 : Int) ≠ 0 by decide)
    have c1 := Int.emod_lt_of_pos cell (show (0 : Int) < 2147483647 by decide)
    refine ⟨_, rfl, .inl ⟨cell, rfl, cell, 2147483647, rfl, rfl, (show (0 : Int) < 2147483647 by decide), ?_⟩⟩
    refine ⟨_, rfl, 7919, k, rfl, rfl, .inl ⟨by omega, by omega⟩, cell % 2147483647, 7919 * (k : Int), rfl, rfl, cell % 2147483647 + 7919 * (k : Int), 1, rfl, rfl, cell % 2147483647 + 7919 * (k : Int) + 1, 48271, rfl, rfl, .inl ⟨by omega, by omega⟩, _, 2147483629, rfl, rfl, (show (0 : Int) < 2147483629 by decide), ?_⟩
    have z0 := Int.emod_nonneg ((cell % 2147483647 + 7919 * (k : Int) + 1) * 48271) (show (2147483629 : Int) ≠ 0 by decide)
    have z1 := Int.emod_lt_of_pos ((cell % 2147483647 + 7919 * (k : Int) + 1) * 48271) (show (0 : Int) < 2147483629 by decide)
    refine ⟨_, rfl, 10, 18, rfl, rfl, ⟨by decide, by decide, by decide⟩, cell, 10 ^ 18, rfl, rfl, .inr ⟨_, rfl, ?_⟩⟩
    have hb : ∃ o : Int, (if decide ((10 : Int) ^ 18 ≤ cell) = true then (1 : Int) else 0) = o ∧ 0 ≤ o ∧ o ≤ 1 := ⟨_, rfl, by split <;> decide, by split <;> decide⟩
    obtain ⟨o, ho, o0, o1⟩ := hb
    refine ⟨_, rfl, o, cell, by rw [← ho], rfl, .inl ⟨by omega, by omega⟩, _, rfl, by show 2 ≤ sizeLine; decide, fun p hp => ?_⟩
    exact q _ p (s3.trans (same_upd hp)) (none_of_same s3 hp) ⟨o * cell, _, upd_same, z0, by omega⟩
end
end K76

/-! The walk, 18: the law's parts, book, step, growth. -/
namespace K76
open PySem PySem.Spec PyProof.Rows L2
theorem PoolAt.ne {H : Hp} {p a : Addr} {xs : List V} (h : PoolAt H p) (e : H a = some (.tup xs)) : a ≠ p := fun z => by
  subst z
  obtain ⟨x, y, e', _⟩ := h
  rw [e] at e'
  cases e'
theorem PoolAt.lst {H : Hp} {p : Addr} (h : PoolAt H p) : ∃ xs, H p = some (.lst xs) := let ⟨_, _, e, _⟩ := h; ⟨_, e⟩
section
variable {P : Program} {w : World} {K : PySem.W.Frag} {mg : Str → Option Value} {base : Heap}
def spParts : Sp := fun vs H Q _ => ∃ (p : Addr), vs = [.ref p] ∧ PoolAt H p ∧ ∀ H' a bk, bk.Ok → SB p H H' → PoolAt H' p → PartsAt H' a bk → Q (.ref a) H'
theorem sc_parts : FnScope ["_law_pool", "_law_first", "_law_roof", "_law_any_pair", "_law_pair"] ["_law_pool"] (defScope (top 56)) := ⟨rfl, rfl, rfl, by decide +kernel, rfl, by decide +kernel, by decide +kernel⟩
theorem six (r : Int) (h0 : 0 ≤ r) (h6 : r < 6) : r = 0 ∨ r = 1 ∨ r = 2 ∨ r = 3 ∨ r = 4 ∨ r = 5 := by omega
theorem pick_first (r : Int) (h0 : 0 ≤ r) (h6 : r < 6) : ∃ f : Int, atI [V.int 1, .int 1, .int 2, .int 3, .int 4, .int 7] r = some (.int f) ∧ 1 ≤ f ∧ f ≤ 7 := by
  rcases six r h0 h6 with rfl | rfl | rfl | rfl | rfl | rfl <;> exact ⟨_, rfl, by decide, by decide⟩
theorem pick_roof (r : Int) (h0 : 0 ≤ r) (h6 : r < 6) : ∃ f : Int, atI [V.int 0, .int 0, .int 1, .int 5, .int 20, .int 100] r = some (.int f) ∧ 0 ≤ f ∧ f ≤ 100 := by
  rcases six r h0 h6 with rfl | rfl | rfl | rfl | rfl | rfl <;> exact ⟨_, rfl, by decide, by decide⟩
theorem pick_pair {H : Hp} {a1 a2 a3 a4 a5 a6 : Addr} {t6 b6 : Int} (r : Int) (h0 : 0 ≤ r) (h6 : r < 6) (h1 : H a1 = some (.tup [.int 1, .int 1])) (h2 : H a2 = some (.tup [.int 1, .int 1])) (h3 : H a3 = some (.tup [.int 1, .int 2])) (h4 : H a4 = some (.tup [.int 2, .int 3])) (h5 : H a5 = some (.tup [.int 1, .int 10]))
    (h7 : H a6 = some (.tup [.int t6, .int b6])) (ht : 1 ≤ t6 ∧ t6 ≤ 5) (hb : 1 ≤ b6 ∧ b6 ≤ 5) :
    ∃ (sh : Addr) (t b : Int), atI [V.ref a1, .ref a2, .ref a3, .ref a4, .ref a5, .ref a6] r = some (.ref sh) ∧ H sh = some (.tup [.int t, .int b]) ∧ (1 ≤ t ∧ t ≤ 10) ∧ 1 ≤ b ∧ b ≤ 10 := by
  rcases six r h0 h6 with rfl | rfl | rfl | rfl | rfl | rfl
  · exact ⟨a1, 1, 1, rfl, h1, by decide, by decide⟩
  · exact ⟨a2, 1, 1, rfl, h2, by decide, by decide⟩
  · exact ⟨a3, 1, 2, rfl, h3, by decide, by decide⟩
  · exact ⟨a4, 2, 3, rfl, h4, by decide, by decide⟩
  · exact ⟨a5, 1, 10, rfl, h5, by decide, by decide⟩
  · exact ⟨a6, t6, b6, rfl, h7, by omega, by omega⟩
theorem ok_parts (T : Tx K mg) : FnG P w K mg base CX0 2 "_law_parts" ["_law_pool"] spParts := by
  obtain ⟨fd, F⟩ := T.f_l_parts
  refine FnG.of F T.g_l_parts (fun _ _ _ _ _ _ us hl => match us, hl with | [_], _ => rfl) (F.ok sc_parts (fun vs H Q E h => ?_) (fun cdv A outer s H vs Q E hr h => ?_))
  · obtain ⟨p, rfl, _⟩ := h
    rfl
  · obtain ⟨p, rfl, hp, q⟩ := h
    have nd := sc_parts.nd
    have hsl := sizeLine_eq
    have G : FnG P w K mg base CX0 1 "_law_draw" ["_law_pool", "_law_many"] spDraw := ok_draw T
    refine ⟨_, pss_cons (ps_set (i := 1) nd rfl (.inl rfl) (pe_ix ix_list (pe_lst (pa_cons pe_int (pa_cons pe_int (pa_cons pe_int (pa_cons pe_int (pa_cons pe_int (pa_cons pe_int pa_nil))))))) (pe_g G hr (pa_cons (pv 0) (pa_cons pe_int pa_nil))) (fun _ _ => rfl)))
      (pss_cons (ps_set (i := 2) nd rfl (.inl rfl) (pe_op op_add (pv 1) (pe_ix ix_list (pe_lst (pa_cons pe_int (pa_cons pe_int (pa_cons pe_int (pa_cons pe_int (pa_cons pe_int (pa_cons pe_int pa_nil))))))) (pe_g G hr (pa_cons (pv 0) (pa_cons pe_int pa_nil))) (fun _ _ => rfl))))
      (pss_cons (ps_set (i := 3) nd rfl (.inl rfl) (pe_tup (pa_cons (pe_op op_add pe_int (pe_g G hr (pa_cons (pv 0) (pa_cons pe_int pa_nil)))) (pa_cons (pe_op op_add pe_int (pe_g G hr (pa_cons (pv 0) (pa_cons pe_int pa_nil)))) pa_nil))))
      (pss_cons (ps_set (i := 4) nd rfl (.inl rfl) (pe_ix ix_list (pe_lst (pa_cons (pe_tup (pa_cons pe_int (pa_cons pe_int pa_nil))) (pa_cons (pe_tup (pa_cons pe_int (pa_cons pe_int pa_nil))) (pa_cons (pe_tup (pa_cons pe_int (pa_cons pe_int pa_nil))) (pa_cons (pe_tup (pa_cons pe_int (pa_cons pe_int pa_nil))) (pa_cons (pe_tup (pa_cons pe_int (pa_cons pe_int pa_nil))) (pa_cons (pv 3) pa_nil)))))))
        (pe_g G hr (pa_cons (pv 0) (pa_cons pe_int pa_nil))) (fun _ _ => rfl)))
      (pss_one (ps_ret (pe_tup (pa_cons (pv 1) (pa_cons (pv 2) (pa_cons (pv 4) pa_nil))))))))), ?_⟩
    refine ⟨by show 6 ≤ sizeLine; decide, fun l1 hl1 => ?_⟩
    have s1 := same_upd (o := .lst [.int 1, .int 1, .int 2, .int 3, .int 4, .int 7]) hl1
    refine ⟨_, rfl, p, 6, rfl, hp.same s1, by decide, by decide, fun H2 r1 a0 a6 sb2 hp2 => ?_⟩
    have n1 : l1 ≠ p := fun z => by subst z; obtain ⟨xs, e⟩ := hp.lst; rw [hl1] at e; cases e
    obtain ⟨first, e1, f1, f7⟩ := pick_first r1 a0 a6
    refine ⟨l1, _, r1, _, rfl, rfl, SqL.of (sb2 _ _ n1 upd_same), e1, ?_⟩
    have sb12 : SB p H H2 := (Same.sb s1).trans sb2
    refine ⟨_, rfl, by show 6 ≤ sizeLine; decide, fun l2 hl2 => ?_⟩
    have s2 := same_upd (o := .lst [.int 0, .int 0, .int 1, .int 5, .int 20, .int 100]) hl2
    refine ⟨_, rfl, p, 6, rfl, hp2.same s2, by decide, by decide, fun H3 r2 c0 c6 sb3 hp3 => ?_⟩
    have n2 : l2 ≠ p := fun z => by subst z; obtain ⟨xs, e⟩ := hp2.lst; rw [hl2] at e; cases e
    obtain ⟨more, e2, g0, g1⟩ := pick_roof r2 c0 c6
    refine ⟨l2, _, r2, _, rfl, rfl, SqL.of (sb3 _ _ n2 upd_same), e2, first, more, rfl, rfl, ?_⟩
    have sb13 := (sb12.trans (Same.sb s2)).trans sb3
    refine ⟨_, rfl, p, 5, rfl, hp3, by decide, by decide, fun H4 r3 d0 d5 sb4 hp4 => ⟨1, r3, rfl, rfl, ?_⟩⟩
    refine ⟨_, rfl, p, 5, rfl, hp4, by decide, by decide, fun H5 r4 i0 i5 sb5 hp5 => ⟨1, r4, rfl, rfl, by show 2 ≤ sizeLine; decide, fun a6 h6 => ?_⟩⟩
    have sb15 := (sb13.trans sb4).trans sb5
    have s6 := same_upd (o := .tup [.int (1 + r3), .int (1 + r4)]) h6
    have h66 : upd H5 a6 (.tup [.int (1 + r3), .int (1 + r4)]) a6 = some (.tup [.int (1 + r3), .int (1 + r4)]) := upd_same
    refine ⟨by show 2 ≤ sizeLine; decide, fun a1 h1 => ⟨by show 2 ≤ sizeLine; decide, fun a2 h2 => ⟨by show 2 ≤ sizeLine; decide, fun a3 h3 => ⟨by show 2 ≤ sizeLine; decide, fun a4 h4 => ⟨by show 2 ≤ sizeLine; decide, fun a5 h5 => ?_⟩⟩⟩⟩⟩
    have u1 := same_upd (o := .tup [.int 1, .int 1]) h1
    have u2 := same_upd (o := .tup [.int 1, .int 1]) h2
    have u3 := same_upd (o := .tup [.int 1, .int 2]) h3
    have u4 := same_upd (o := .tup [.int 2, .int 3]) h4
    have u5 := same_upd (o := .tup [.int 1, .int 10]) h5
    refine ⟨_, rfl, by show 6 ≤ sizeLine; decide, fun l3 hl3 => ?_⟩
    have u6 := same_upd (o := .lst [.ref a1, .ref a2, .ref a3, .ref a4, .ref a5, .ref a6]) hl3
    have s7 := s6.trans (u1.trans (u2.trans (u3.trans (u4.trans (u5.trans u6)))))
    have hp7 := hp5.same s7
    refine ⟨_, rfl, p, 6, rfl, hp7, by decide, by decide, fun H8 r5 j0 j6 sb8 hp8 => ?_⟩
    have up : ∀ {a : Addr} {xs : List V}, upd (upd (upd (upd (upd (upd (upd H5 a6 (.tup [.int (1 + r3), .int (1 + r4)])) a1 (.tup [.int 1, .int 1])) a2 (.tup [.int 1, .int 1])) a3 (.tup [.int 1, .int 2])) a4 (.tup [.int 2, .int 3])) a5 (.tup [.int 1, .int 10])) l3 (.lst [.ref a1, .ref a2, .ref a3, .ref a4, .ref a5, .ref a6]) a = some (.tup xs) → H8 a = some (.tup xs) := fun {a xs} e => sb8 _ _ (hp7.ne e) e
    have n3 : l3 ≠ p := fun z => by
      subst z
      obtain ⟨xs, e⟩ := hp5.lst
      rw [(s6.trans (u1.trans (u2.trans (u3.trans (u4.trans u5))))) _ _ e] at hl3
      cases hl3
    obtain ⟨sh, t, b, e5, hsh, ht, hb⟩ := pick_pair (H := H8) r5 j0 j6 (up ((u2.trans (u3.trans (u4.trans (u5.trans u6)))) _ _ upd_same)) (up ((u3.trans (u4.trans (u5.trans u6))) _ _ upd_same)) (up ((u4.trans (u5.trans u6)) _ _ upd_same)) (up ((u5.trans u6) _ _ upd_same)) (up (u6 _ _ upd_same))
      (up ((u1.trans (u2.trans (u3.trans (u4.trans (u5.trans u6))))) _ _ h66)) (by omega) (by omega)
    refine ⟨l3, _, r5, _, rfl, rfl, SqL.of (sb8 _ _ n3 upd_same), e5, ?_⟩
    refine ⟨_, rfl, _, rfl, _, rfl, by show 3 ≤ sizeLine; decide, fun pa hpa => ?_⟩
    have s9 := same_upd (o := .tup [.int first, .int (first + more), .ref sh]) hpa
    exact q _ pa ⟨first, first + more, t, b⟩ ⟨f1, by show first ≤ first + more; omega, by show first + more ≤ 1000; omega, ht.1, by show t ≤ 100; omega, hb.1, by show b ≤ 100; omega⟩ (((sb15.trans (Same.sb s7)).trans sb8).trans (Same.sb s9)) (hp8.same s9) ⟨sh, upd_same, s9 _ _ hsh⟩
/-! ### _law_book -/
def spLBook (K : PySem.W.Frag) : Sp := fun vs H Q _ => ∃ (a : Addr) (bk : Bk), vs = [.ref a] ∧ bk.Ok ∧ PartsAt H a bk ∧ ∀ H' x, Same H H' → BookAt K H' x bk → Q (.ref x) H'
theorem sc_lbook : FnScope ["_law_parts_here"] ["_law_parts_here"] (defScope (top 57)) := ⟨rfl, rfl, rfl, by decide +kernel, rfl, by decide +kernel, by decide +kernel⟩
theorem ok_lbook (T : Tx K mg) : FnG P w K mg base CX0 6 "_law_book" ["_law_parts_here"] (spLBook K) := by
  obtain ⟨fd, F⟩ := T.f_l_book
  obtain ⟨fdB, kb, okB⟩ := kb_Book (P := P) (w := w) (base := base) T
  refine FnG.of F T.g_l_book (fun _ _ _ _ _ _ us hl => match us, hl with | [_], _ => rfl) (F.ok sc_lbook (fun vs H Q E h => ?_) (fun cdv A outer s H vs Q E hr h => ?_))
  · obtain ⟨a, bk, rfl, _⟩ := h
    rfl
  · obtain ⟨a, bk, rfl, ok, ⟨sh, ha, hsh⟩, q⟩ := h
    refine ⟨_, pss_one (ps_ret (pe_makeK T.mk_Book okB hr rfl T.g_Book kb pass0 (pa_cons (pe_ix ix_tup (pv 0) pe_int (fun _ _ => rfl)) (pa_cons (pe_ix ix_tup (pv 0) pe_int (fun _ _ => rfl)) pa_nil)) (pk_cons (pe_ix ix_tup (pv 0) pe_int (fun _ _ => rfl)) pk_nil))), ?_⟩
    refine ⟨_, rfl, a, _, 0, _, rfl, rfl, SqT.of ha, rfl, _, rfl, a, _, 1, _, rfl, rfl, SqT.of ha, rfl, _, rfl, a, _, 2, _, rfl, rfl, SqT.of ha, rfl, rfl, rfl, fun x dx hx hdx ne => ?_⟩
    have n1 : sh ≠ x := ne_of_none hsh hx
    have n2 : sh ≠ dx := ne_of_none hsh hdx
    have hsh' : upd (upd H dx (.own x)) x (.ins (He.ga K "Book") dx []) sh = some (.tup [.int bk.top, .int bk.bot]) := by rw [upd_ne n1, upd_ne n2]; exact hsh
    refine ⟨x, sh, dx, bk, ok, rfl, upd_same, hsh', rfl, ?_⟩
    rw [upd_upd]
    refine q _ x (fun c u e => ?_) ⟨dx, sh, upd_same, by rw [upd_ne n1, upd_ne n2]; exact hsh⟩
    rw [upd_ne (fun z => by subst z; rw [hx] at e; cases e), upd_ne (fun z => by subst z; rw [hdx] at e; cases e)]
    exact e
/-! ### _law_step -/
def spLStep : Sp := fun vs H Q _ => ∃ (a : Addr) (bk : Bk) (h : Int), vs = [.ref a, .int h] ∧ bk.Ok ∧ PartsAt H a bk ∧ 0 ≤ h ∧ h ≤ 100000 ∧ Q (.int (bk.step h)) H
theorem sc_lstep : FnScope ["_law_parts_here", "_law_hold", "_law_first", "_law_roof", "_law_pair"] ["_law_parts_here", "_law_hold"] (defScope (top 58)) := ⟨rfl, rfl, rfl, by decide +kernel, rfl, by decide +kernel, by decide +kernel⟩
theorem ok_lstep (T : Tx K mg) : FnG P w K mg base CX0 1 "_law_step" ["_law_parts_here", "_law_hold"] spLStep := by
  obtain ⟨fd, F⟩ := T.f_l_step
  refine FnG.of F T.g_l_step (fun _ _ _ _ _ _ us hl => match us, hl with | [_, _], _ => rfl) (F.ok sc_lstep (fun vs H Q E h => ?_) (fun cdv A outer s H vs Q E hr h => ?_))
  · obtain ⟨a, bk, h, rfl, _⟩ := h
    rfl
  · obtain ⟨a, bk, h, rfl, ok, ⟨sh, ha, hsh⟩, h0, h1, q⟩ := h
    have nd := sc_lstep.nd
    have b1 := ok.b1
    have b2 := ok.b2
    refine ⟨_, pss_cons (ps_asg (pv 0) (pg_tup rfl (pgs_cons (pg_name (i := 2) nd rfl (.inl rfl)) (pgs_cons (pg_name (i := 3) nd rfl (.inl rfl)) (pgs_cons (pg_name (i := 4) nd rfl (.inl rfl)) pgs_nil)))))
      (pss_one (ps_ret (pe_callB (call_min2 rfl) rfl T.m_min boot_min' (pa_cons (pe_callTy call_int1 rfl T.m_int boot_int' (pa_cons (pv 3) pa_nil)) (pa_cons (pe_callB (call_max2 rfl) rfl T.m_max boot_max' (pa_cons (pe_callTy call_int1 rfl T.m_int boot_int' (pa_cons (pv 2) pa_nil))
        (pa_cons (pe_op op_fdivN (pe_op op_sub (pe_op op_add (pe_op op_mul (pv 1) (pe_ix ix_tup (pv 4) pe_int (fun _ _ => rfl))) (pe_ix ix_tup (pv 4) pe_int (fun _ _ => rfl))) pe_int) (pe_ix ix_tup (pv 4) pe_int (fun _ _ => rfl))) pa_nil))) pa_nil))))), ?_⟩
    refine ⟨_, rfl, a, _, rfl, SqT.of ha, rfl, _, _, rfl, _, _, rfl, _, _, rfl, rfl, ?_⟩
    refine ⟨_, rfl, .inl ⟨_, rfl, _, rfl, .inl ⟨_, rfl, _, rfl, _, rfl, sh, _, 0, _, rfl, rfl, SqT.of hsh, rfl, h, bk.top, rfl, rfl, .inl ⟨by omega, by omega⟩, ?_⟩⟩⟩
    refine ⟨_, rfl, sh, _, 1, _, rfl, rfl, SqT.of hsh, rfl, h * bk.top, bk.bot, rfl, rfl, h * bk.top + bk.bot, 1, rfl, rfl, _, rfl, sh, _, 1, _, rfl, rfl, SqT.of hsh, rfl, h * bk.top + bk.bot - 1, bk.bot, rfl, rfl, ⟨by omega, by omega⟩, ?_⟩
    refine ⟨bk.first, (h * bk.top + bk.bot - 1).fdiv bk.bot, rfl, bk.roof, _, rfl, ?_⟩
    have e := Bk.lstep_eq ok h
    rw [← e] at q
    exact q
/-! ### _law_grown -/
def spLGrown (K : PySem.W.Frag) : Sp := fun vs H Q _ => ∃ (a : Addr) (bk : Bk) (v : V) (s : Stt) (b m : Int) (n : Nat), vs = [.ref a, .int b, v, .int n, .int m] ∧ bk.Ok ∧ PartsAt H a bk ∧ Dp K H v (stD s) ∧ s.length ≤ 1000 ∧ n < s.length ∧
  (∀ p ∈ s, 0 ≤ p.1 ∧ 0 ≤ p.2 ∧ p.1 ≤ 1000 ∧ p.2 ≤ 1000) ∧ 1 ≤ m ∧ m ≤ 1000 ∧ ∀ H' u, Same H H' → OptV K H' u (grownZ bk b s n m) → Q u H'
theorem sc_lgrown : FnScope ["_law_parts_here", "_law_blocks", "_law_state", "_law_at", "_law_many", "_law_filled", "_law_hold", "_law_need", "_law_free", "_law_one", "_law_held"] ["_law_parts_here", "_law_blocks", "_law_state", "_law_at", "_law_many"] (defScope (top 59)) := ⟨rfl, rfl, rfl, by decide +kernel, rfl, by decide +kernel, by decide +kernel⟩
theorem ok_lgrown (T : Tx K mg) : FnG P w K mg base CX0 2 "_law_grown" ["_law_parts_here", "_law_blocks", "_law_state", "_law_at", "_law_many"] (spLGrown K) := by
  obtain ⟨fd, F⟩ := T.f_l_grown
  refine FnG.of F T.g_l_grown (fun _ _ _ _ _ _ us hl => match us, hl with | [_, _, _, _, _], _ => rfl) (F.ok sc_lgrown (fun vs H Q E h => ?_) (fun cdv A outer s H vs Q E hr h => ?_))
  · obtain ⟨a, bk, v, st, b, m, n, rfl, _⟩ := h
    rfl
  · obtain ⟨a, bk, v, st, b, m, n, rfl, ok, B, hd, hl, hn, hb, m1, m2, q⟩ := h
    have nd := sc_lgrown.nd
    have hs : sizeLine = 16777216 := sizeLine_eq
    refine ⟨_, pss_cons (ps_asg (pe_ix ix_tup (pv 2) (pv 3) (fun _ _ => rfl)) (pg_tup rfl (pgs_cons (pg_name (i := 5) nd rfl (.inl rfl)) (pgs_cons (pg_name (i := 6) nd rfl (.inl rfl)) pgs_nil))))
      (pss_cons (ps_set (i := 7) nd rfl (.inl rfl) (pe_op op_sub (pe_op op_add (pv 5) (pv 4)) (pv 6)))
      (pss_cons (ps_if (pt_cmpR op_gt (pv 7) pe_int (nomark _))
        (pss_cons (ps_set (i := 8) nd rfl (.inl rfl) (pe_op op_sub (pv 1) (pe_callB (cr_sum rfl) rfl T.m_sum boot_sum' (pa_cons (pe_lc (own := [("_law_one", 9), ("_law_held", 10)]) (g := gTup K 2 (gCons (gName 9) (gCons (gName 10) gNil))) (tt := tYes) rfl nd (pi_tup (pv 2))
          (blkOk_by (N := ["_law_parts_here", "_law_blocks", "_law_state", "_law_at", "_law_many", "_law_filled", "_law_hold", "_law_need", "_law_free", "_law_one", "_law_held"]) (sc := defScope (top 59)) (by decide +kernel))
          (fun _ _ _ _ _ => pg_tup rfl (pgs_cons (pg_name (i := 9) nd rfl (.inl rfl)) (pgs_cons (pg_name (i := 10) nd rfl (.inl rfl)) pgs_nil))) (fun _ _ _ _ _ => pts_nil) (fun _ _ _ _ _ => pv 10)) pa_nil))))
        (pss_cons (ps_if (pt_cmpR op_lt (pv 8) (pv 7) (nomark _)) (pss_one (ps_ret pe_non)) pss_nil)
        (pss_one (ps_set (i := 6) nd rfl (.inl rfl) (pe_op op_add (pv 6) (pe_callB (call_min2 rfl) rfl T.m_min boot_min' (pa_cons (pe_callTy call_int1 rfl T.m_int boot_int' (pa_cons (pv 8) pa_nil))
          (pa_cons (pe_callB (call_max2 rfl) rfl T.m_max boot_max' (pa_cons (pe_callTy call_int1 rfl T.m_int boot_int' (pa_cons (pe_g (ok_lstep T) hr (pa_cons (pv 0) (pa_cons (pv 6) pa_nil))) pa_nil)) (pa_cons (pv 7) pa_nil))) pa_nil)))))))) pss_nil)
      (pss_one (ps_ret (pe_op op_catA (pe_op op_catA (pe_slice sl_tup (pv 2) po_none (po_some (pv 3))) (pe_tup (pa_cons (pe_tup (pa_cons (pe_op op_add (pv 5) (pv 4)) (pa_cons (pv 6) pa_nil))) pa_nil))) (pe_slice sl_tup (pv 2) (po_some (pe_op op_add (pv 3) pe_int)) po_none)))))), ?_⟩
    obtain ⟨ad, xs, rfl, hx, hxs⟩ := dp_st hd
    have hlen : xs.length = st.length := by rw [dps_len hxs, List.length_map]
    obtain ⟨p, hp⟩ : ∃ p, st[n]? = some p := ⟨st[n], List.getElem?_eq_getElem hn⟩
    obtain ⟨xv, hxn, hxd⟩ := dps_get' hxs (i := n) (d := pairD p) (by rw [List.getElem?_map, hp]; rfl)
    obtain ⟨c, rfl, hc⟩ := dp_pair' hxd
    obtain ⟨b1, b2, b3, b4⟩ := hb p (List.mem_of_getElem? hp)
    -- the end: the new tuple
    have fin : ∀ (h' : Int) (σ : L2.St) (H1 : Hp) (R : VK), Same H H1 → σ[2]? = some (some (.ref ad)) → σ[3]? = some (some (.int n)) → σ[4]? = some (some (.int m)) → σ[5]? = some (some (.int p.1)) → σ[6]? = some (some (.int h')) →
        (∀ H' u, Same H H' → Dp K H' u (stD (st.set n (p.1 + m, h'))) → R u H') →
        tOp (rCatA K) (tOp (rCatA K) (tSl (rSlT K) (tVar 2) tNoPart (tPart (tVar 3))) (tTup (tCons (tTup (tCons (tOp (rI0 fun i j => .int (i + j)) (tVar 5) (tVar 4)) (tCons (tVar 6) tNil))) tNil))) (tSl (rSlT K) (tVar 2) (tPart (tOp (rI0 fun i j => .int (i + j)) (tVar 3) (tC (.int 1)))) tNoPart) σ H1 R := by
      intro h' σ H1 R s1 e2 e3 e4 e5 e6 r
      have hx1 := same_tup s1 hx
      refine ⟨_, e2, _, e3, n, rfl, ad, xs, rfl, hx1, ?_, fun p1 n1 => ?_⟩
      · rw [HT.sIx_none, HT.sIx_nat]
        omega
      have s2 := s1.trans (same_upd (o := .tup (cutV xs none (some (n : Int)))) n1)
      refine ⟨_, e5, _, e4, p.1, m, rfl, rfl, _, e6, (by show 2 ≤ sizeLine; decide), fun p2 n2 => ⟨by show 1 ≤ sizeLine; decide, fun p3 n3 => ?_⟩⟩
      have u2 := same_upd (o := .tup [.int (p.1 + m), .int h']) n2
      have u3 := same_upd (o := .tup [.ref p2]) n3
      have s3 := (s2.trans u2).trans u3
      have hp1 := (u2.trans u3) _ _ (upd_same (H := H1) (a := p1) (o := .tup (cutV xs none (some (n : Int)))))
      have hp2 := u3 _ _ (upd_same (H := upd H1 p1 (.tup (cutV xs none (some (n : Int))))) (a := p2) (o := .tup [.int (p.1 + m), .int h']))
      have hp3 : upd (upd (upd H1 p1 (.tup (cutV xs none (some (n : Int))))) p2 (.tup [.int (p.1 + m), .int h'])) p3 (.tup [.ref p2]) p3 = some (.tup [.ref p2]) := upd_same
      generalize upd (upd (upd H1 p1 (.tup (cutV xs none (some (n : Int))))) p2 (.tup [.int (p.1 + m), .int h'])) p3 (.tup [.ref p2]) = H3 at s3 hp1 hp2 hp3 ⊢
      have z1 := cutV_length xs none (some (n : Int))
      have eN : ((n : Int) + 1) = ((n + 1 : Nat) : Int) := by omega
      -- the rest, from the front part at pf
      have rest : ∀ (pf : Addr) (H4 : Hp), Same H3 H4 → H4 pf = some (.tup (xs.take n ++ [.ref p2])) → tSl (rSlT K) (tVar 2) (tPart (tOp (rI0 fun i j => .int (i + j)) (tVar 3) (tC (.int 1)))) tNoPart σ H4 (fun y H5 => rCatA K (.ref pf) y H5 R) := by
        intro pf H4 s4 hpf
        refine ⟨_, e2, _, e3, n, 1, rfl, rfl, _, rfl, ad, xs, rfl, same_tup (s3.trans s4) hx, ?_, fun p4 n4 => ?_⟩
        · rw [eN, HT.sIx_nat]
          omega
        have u5 := same_upd (o := .tup (cutV xs (some ((n : Int) + 1)) none)) n4
        have z2 := cutV_length xs (some ((n : Int) + 1)) none
        have hx5 := dps_same ((s3.trans s4).trans u5) _ _ hxs
        have hd2 : Dp K H3 (.ref p2) (pairD (p.1 + m, h')) := .tup (SqT.of hp2) (.cons (.int _) (.cons (.int _) .nil))
        have all : ∀ {H6 : Hp}, Same H3 H6 → ∀ {pz : Addr}, H6 pz = some (.tup (xs.take n ++ V.ref p2 :: xs.drop (n + 1))) → Dp K H6 (.ref pz) (stD (st.set n (p.1 + m, h'))) := by
          intro H6 s6 pz hz
          refine .tup (SqT.of hz) ?_
          have h6 := dps_same (s3.trans s6) _ _ hxs
          have := dps_append (dps_take n h6) (.cons (dp_same s6 _ _ hd2) (dps_drop (n + 1) h6))
          rw [List.map_set, List.set_eq_take_append_cons_drop, if_pos (by rw [List.length_map]; exact hn)]
          exact this
        have s5 := s4.trans u5
        refine ⟨pf, p4, _, _, rfl, rfl, SqT.of (u5 _ _ hpf), SqT.of upd_same, ?_, fun z => absurd z (by simp), fun _ z => ?_, fun _ _ p5 n5 => ?_⟩
        · simp only [List.length_append, List.length_take, List.length_singleton]
          omega
        · rw [eN, cut_drop] at z
          refine r _ _ (s3.trans s5) (all s5 ?_)
          rw [z]
          exact u5 _ _ hpf
        · have u6 := same_upd (o := .tup (xs.take n ++ [V.ref p2] ++ cutV xs (some ((n : Int) + 1)) none)) n5
          refine r _ _ ((s3.trans s5).trans u6) (all (s5.trans u6) ?_)
          rw [upd_same, eN, cut_drop, List.append_assoc]
          rfl
      rw [cut_take] at hp1
      refine ⟨p1, p3, xs.take n, [.ref p2], rfl, rfl, SqT.of hp1, SqT.of hp3, ?_, fun z => ?_, fun _ z => ?_, fun _ _ pf nf => ?_⟩
      · simp only [List.length_take, List.length_singleton]
        omega
      · exact rest p3 H3 (Same.refl _) (by rw [z]; exact hp3)
      · cases z
      · exact rest pf _ (same_upd nf) upd_same
    refine ⟨_, rfl, _, rfl, ad, xs, n, _, rfl, rfl, hx, atI_nat hxn, c, _, rfl, hc, rfl, _, _, rfl, _, _, rfl, rfl, ?_⟩
    refine ⟨_, rfl, _, rfl, _, _, rfl, rfl, _, rfl, _, _, rfl, rfl, _, rfl, p.1 + m - p.2, 0, rfl, rfl, _, rfl, ?_⟩
    unfold grownZ at q
    rw [hp] at q
    dsimp only at q
    by_cases c1 : 0 < p.1 + m - p.2
    · rw [decide_eq_true c1]
      rw [if_pos c1] at q
      refine iteT ⟨_, rfl, ?_⟩
      dsimp only [tNext, tSeq, tIfS, tNot, tB, tCB, tCons, tRet, tOp]
      refine lc_pairs (fun p => .int p.2) (fun R z => ⟨_, rfl, z⟩) hd hl (fun p H2 R z => ⟨_, rfl, z⟩) (fun D hD => ?_)
      have sD := same_upd (o := .lst (st.map fun p => V.int p.2)) hD
      have e : st.map (fun p => V.int p.2) = (st.map (fun x : Int × Int => x.2)).map V.int := by rw [List.map_map]; rfl
      refine ⟨D, st.map (fun x : Int × Int => x.2), rfl, by rw [← e]; exact SqL.of upd_same, b, holds st, rfl, rfl, ?_⟩
      refine ⟨_, rfl, _, rfl, b - holds st, p.1 + m - p.2, rfl, rfl, _, rfl, ?_⟩
      by_cases c2 : b - holds st < p.1 + m - p.2
      · rw [decide_eq_true c2]
        rw [if_pos c2] at q
        exact iteT (q _ _ sD rfl)
      · rw [decide_eq_false c2]
        rw [if_neg c2] at q
        refine iteF ⟨_, rfl, _, rfl, .inl ⟨b - holds st, rfl, _, rfl, _, rfl, a, bk, p.2, rfl, ok, B.same sD, by omega, by omega, .inl ⟨bk.step p.2, rfl, _, rfl, bk.step p.2, p.1 + m - p.2, rfl, b - holds st, _, rfl, p.2, _, rfl, rfl, ?_⟩⟩⟩
        have eq1 : (if p.1 + m - p.2 > bk.step p.2 then p.1 + m - p.2 else bk.step p.2) = if p.1 + m - p.2 < bk.step p.2 then bk.step p.2 else p.1 + m - p.2 := by
          split <;> split <;> omega
        have q' : ∀ H' u, Same H H' → Dp K H' u (stD (st.set n (p.1 + m, p.2 + (if (if p.1 + m - p.2 > bk.step p.2 then p.1 + m - p.2 else bk.step p.2) < b - holds st then (if p.1 + m - p.2 > bk.step p.2 then p.1 + m - p.2 else bk.step p.2) else b - holds st)))) → Q u H' := by
          rw [eq1]
          exact fun H' u s' d' => q H' u s' d'
        exact fin _ _ _ _ sD rfl rfl rfl rfl rfl q'
    · rw [decide_eq_false c1]
      rw [if_neg c1] at q
      refine iteF ?_
      exact fin p.2 _ _ _ (Same.refl H) rfl rfl rfl rfl rfl fun H' u s' d' => q H' u s' d'
/-! ### _law_idle -/
theorem sc_lidle : FnScope ["_law_state", "_law_size", "_law_hold"] ["_law_state"] (defScope (top 61)) := ⟨rfl, rfl, rfl, by decide +kernel, rfl, by decide +kernel, by decide +kernel⟩
theorem ok_lidle (T : Tx K mg) : FnG P w K mg base CX0 1 "_law_idle" ["_law_state"] (spIdle K) := by
  obtain ⟨fd, F⟩ := T.f_l_idle
  refine FnG.of F T.g_l_idle (fun _ _ _ _ _ _ us hl => match us, hl with | [_], _ => rfl) (F.ok sc_lidle (fun vs H Q E h => ?_) (fun cdv A outer s H vs Q E hr h => ?_))
  · obtain ⟨v, s, rfl, _⟩ := h
    rfl
  · obtain ⟨v, s, rfl, hd, hl, q⟩ := h
    have nd := sc_lidle.nd
    refine ⟨_, pss_one (ps_ret (pe_callB (cr_sum rfl) rfl T.m_sum boot_sum' (pa_cons (pe_lc (own := [("_law_size", 1), ("_law_hold", 2)]) (g := gTup K 2 (gCons (gName 1) (gCons (gName 2) gNil))) (tt := tYes) rfl nd (pi_tup (pv 0)) (blkOk_by (N := ["_law_state", "_law_size", "_law_hold"]) (sc := defScope (top 61)) (by decide +kernel))
      (fun _ _ _ _ _ => pg_tup rfl (pgs_cons (pg_name (i := 1) nd rfl (.inl rfl)) (pgs_cons (pg_name (i := 2) nd rfl (.inl rfl)) pgs_nil))) (fun _ _ _ _ _ => pts_nil) (fun _ _ _ _ _ => pe_op op_sub (pv 2) (pv 1))) pa_nil))), ?_⟩
    unfold tRet tCB tCons
    refine lc_pairs (fun p => .int (p.2 - p.1)) (fun R z => ⟨_, rfl, z⟩) hd hl (fun p H2 R z => ⟨_, rfl, _, rfl, _, _, rfl, rfl, z⟩) (fun D hD => ?_)
    have e : s.map (fun p => V.int (p.2 - p.1)) = (s.map (fun p : Int × Int => p.2 - p.1)).map V.int := by rw [List.map_map]; rfl
    exact ⟨D, s.map (fun p : Int × Int => p.2 - p.1), rfl, by rw [← e]; exact SqL.of upd_same, q _ (same_upd hD)⟩
end
end K76

/-! The walk, 19: what the law finds reachable. -/
namespace K76
open PySem PySem.Spec PyProof.Rows L2
theorem holds_nonneg : ∀ {s : Stt}, (∀ p ∈ s, 0 ≤ p.1 ∧ p.1 ≤ p.2) → 0 ≤ holds s ∧ ∀ p ∈ s, p.2 ≤ holds s
  | [], _ => ⟨by simp [holds], fun p h => by cases h⟩
  | q :: r, h => by
    obtain ⟨h1, h2⟩ := holds_nonneg (s := r) fun p hp => h p (List.mem_cons_of_mem _ hp)
    have h0 := h q (List.mem_cons_self ..)
    rw [holds_cons]
    refine ⟨by omega, fun p hp => ?_⟩
    rcases List.mem_cons.mp hp with rfl | hp
    · omega
    · have := h2 p hp
      omega
theorem good_grown {bk : Bk} (ok : bk.Ok) {b m : Int} {s s' : Stt} {n : Nat} (g : Good b s) (hn : n < s.length) (hm : 1 ≤ m) (hb : b ≤ 300) (e : grownZ bk b s n m = some s') : Good b s' ∧ s'.length = s.length ∧ sizes s' = sizes s + m := by
  obtain ⟨d, p, r, rfl, hd⟩ : ∃ d p r, s = d ++ p :: r ∧ d.length = n := ⟨s.take n, s[n], s.drop (n + 1), by rw [← List.drop_eq_getElem_cons hn, List.take_append_drop], by rw [List.length_take]; omega⟩
  subst hd
  rw [grown_mid] at e
  have f1 := ok.f1
  have sg := bk.step_ge ok p.2
  have hp := g.each p (by simp)
  have gh := g.hold
  have l1 := g.l1
  have l8 := g.l8
  simp only [holds_append, holds_cons] at gh e
  -- the new pair
  have fin : ∀ h' : Int, p.1 + m ≤ h' → p.2 ≤ h' → holds d + (h' + holds r) ≤ b → Good b (d ++ (p.1 + m, h') :: r) ∧ (d ++ (p.1 + m, h') :: r).length = (d ++ p :: r).length ∧ sizes (d ++ (p.1 + m, h') :: r) = sizes (d ++ p :: r) + m := by
    intro h' h1 h2 h3
    have each0 : ∀ q ∈ d ++ (p.1 + m, h') :: r, 0 ≤ q.1 ∧ q.1 ≤ q.2 := by
      intro q hq
      rcases List.mem_append.mp hq with hq | hq
      · have := g.each q (List.mem_append_left _ hq)
        omega
      · rcases List.mem_cons.mp hq with rfl | hq
        · exact ⟨by show 0 ≤ p.1 + m; omega, h1⟩
        · have := g.each q (List.mem_append_right _ (List.mem_cons_of_mem _ hq))
          omega
    obtain ⟨z0, z1⟩ := holds_nonneg each0
    have hh : holds (d ++ (p.1 + m, h') :: r) ≤ b := by
      simp only [holds_append, holds_cons]
      exact h3
    refine ⟨⟨by simp only [List.length_append, List.length_cons]; omega, by simpa using l8, fun q hq => ?_, hh⟩, by simp, ?_⟩
    · have q1 := each0 q hq
      have q2 := z1 q hq
      omega
    · simp only [sizes_append, sizes_cons]
      omega
  by_cases c1 : 0 < p.1 + m - p.2
  · rw [if_pos c1] at e
    by_cases c2 : b - (holds d + (p.2 + holds r)) < p.1 + m - p.2
    · rw [if_pos c2] at e
      cases e
    · rw [if_neg c2] at e
      have e := Option.some.inj e
      subst e
      refine fin _ ?_ ?_ ?_
      all_goals
        generalize hk : (if p.1 + m - p.2 < bk.step p.2 then bk.step p.2 else p.1 + m - p.2) = k
        have k1 : p.1 + m - p.2 ≤ k := by
          rw [← hk]
          split <;> omega
        split <;> omega
  · rw [if_neg c1] at e
    have e := Option.some.inj e
    subst e
    exact fin p.2 (by omega) (Int.le_refl _) (by omega)
/-- found from the empty state, sizes up to the total -/
inductive Reach (bk : Bk) (b : Int) (f : Nat) (t : Int) : Stt → Prop
  | zero : Reach bk b f t (zeros f)
  | next {s s' : Stt} {n : Nat} {m : Int} : Reach bk b f t s → n < f → 1 ≤ m → sizes s + m ≤ t → grownZ bk b s n m = some s' → Reach bk b f t s'
theorem zeros_good {f : Nat} {b : Int} (h1 : 1 ≤ f) (h8 : f ≤ 8) (hb : 0 ≤ b) : Good b (zeros f) := ⟨by rw [zeros_length]; exact h1, by rw [zeros_length]; exact h8, fun p hp => by
  unfold zeros at hp
  rw [(List.mem_replicate.mp hp).2]
  decide, by rw [holds_zeros]; exact hb⟩
theorem Reach.good {bk : Bk} (ok : bk.Ok) {b : Int} {f : Nat} {t : Int} {s : Stt} (h1 : 1 ≤ f) (h8 : f ≤ 8) (b0 : 0 ≤ b) (hb : b ≤ 300) (ht : 0 ≤ t) (h : Reach bk b f t s) : Good b s ∧ s.length = f ∧ sizes s ≤ t := by
  induction h with
  | zero => exact ⟨zeros_good h1 h8 b0, zeros_length f, by rw [sizes_zeros]; exact ht⟩
  | next hr hn hm hs e ih =>
    obtain ⟨g, l, z⟩ := ih
    obtain ⟨g', l', z'⟩ := good_grown ok g (by rw [l]; exact hn) hm hb e
    exact ⟨g', l'.trans l, by omega⟩
theorem Reach.closed {bk : Bk} {b : Int} {f : Nat} {t : Int} {s : Stt} {S : Stt → Prop} (C : Closed bk b f t S) (h : Reach bk b f t s) : S s := by
  induction h with
  | zero => exact C.zero
  | next hr hn hm hs e ih =>
    obtain ⟨s2, e2, q⟩ := C.next _ ih _ _ hn hm hs
    rw [e] at e2
    cases e2
    exact q
section
variable {X : Cx}
theorem call_dictNK (P : Program) (w : World) (K : PySem.W.Frag) (hcalm : X.calm = true) (hu : X.A.units + 65 < cLine) (h1 : X.prog = P := by rfl) (h2 : X.w = w := by rfl) (h3 : X.K = K := by rfl) : CallR X (.type "dict") (fun xs H Q => ∃ (l : Addr) (ps : List Addr) (es : NE), xs = [.ref l] ∧ SqL K H l (ps.map V.ref) ∧
    Paired (fun p (e : Stt × Addr) => SqT K H p [.ref e.2, .bl true] ∧ Dp K H (.ref e.2) (stD e.1)) ps es ∧ es.length ≤ 20000 ∧ ∀ p, H p = none → DN P w K (upd H p (dnO P w p (mergeN es))) p (mergeN es) → Q (.ref p) (upd H p (dnO P w p (mergeN es)))) := by
  subst h1 h2 h3
  exact call_dictN hcalm hu
end
section
variable {P : Program} {w : World} {K : PySem.W.Frag} {mg : Str → Option Value} {base : Heap}
/-- [(s, True) for s in ..]: the pairs, new -/
theorem lc_true {H : Hp} {σ : L2.St} {te0 : TE} {l : Addr} {us : List V} {ss : List Stt} {i : Nat} {Q : VK} (hi : i < σ.length) (h0 : ∀ R : VK, R (.ref l) H → te0 σ H R) (hl : SqL K H l us) (hs : Sts K H us ss) (hz : us.length ≤ 10000)
    (q : ∀ D H' (ps : List Addr) (es : NE), Same H H' → H' D = some (.lst (ps.map V.ref)) → Paired (fun p (e : Stt × Addr) => SqT K H' p [.ref e.2, .bl true] ∧ Dp K H' (.ref e.2) (stD e.1)) ps es → es.map (fun e : Stt × Addr => e.1) = ss → Q (.ref D) H') :
    tLc (iList K te0) (gName i) tYes (tTup (tCons (tVar i) (tCons (tC (.bl true)) tNil))) [i] σ H Q := by
  have hlen := Paired.length hs
  have hsl := sizeLine_eq
  refine h0 _ ⟨l, rfl, ⟨us, hl⟩, fun D hD => ?_⟩
  refine lc_list (K := K) (a := l) (xs := us) (fun n H' => ∃ (ps : List Addr) (es : NE), Same H H' ∧ H' D = some (.lst (ps.map V.ref)) ∧ ps.length = n ∧ Paired (fun p (e : Stt × Addr) => SqT K H' p [.ref e.2, .bl true] ∧ Dp K H' (.ref e.2) (stD e.1)) ps es ∧ es.map (fun e : Stt × Addr => e.1) = ss.take n)
    ⟨[], [], same_upd hD, upd_same, rfl, .nil, by simp⟩ ?_ ?_ ?_
  · rintro n H' _ ⟨ps, es, s1, _⟩
    exact sql_same s1 hl
  · rintro n x H1 hx ⟨ps, es, s1, hD1, hpl, hp, he⟩
    obtain ⟨st, h1, h2⟩ := sts_get hs hx
    have hi2 := (List.getElem?_eq_some_iff.mp h1).1
    have ep := (List.getElem?_eq_some_iff.mp h1).2
    have hxl := (List.getElem?_eq_some_iff.mp hx).1
    have hx1 := dp_same s1 _ _ h2
    obtain ⟨ad, _, rfl, _, _⟩ := dp_st hx1
    refine ⟨wipe1 _ _ _, _, List.getElem?_set_self (by rw [wipe_length]; exact hi), by show 2 ≤ sizeLine; decide, fun pt hpt => ?_⟩
    have s2 := same_upd (o := .tup [.ref ad, .bl true]) hpt
    have hD2 := s2 _ _ hD1
    refine ⟨_, hD2, by rw [List.length_map]; omega, ps ++ [pt], es ++ [(st, ad)], fun c u e => ?_, by rw [upd_same, List.map_append]; rfl, by rw [List.length_append, hpl]; rfl, Paired.snoc (Paired.mapP hp fun a b z => ?_) ?_, ?_⟩
    · rw [upd_ne (fun z => by subst z; rw [hD] at e; cases e)]
      exact s2 _ _ (s1 _ _ e)
    · have t := (Same.ts (K := K) s2).trans (ts_upd (o' := .lst (ps.map V.ref ++ [V.ref pt])) hD2 rfl)
      exact ⟨t _ _ z.1, dp_ts t z.2⟩
    · have t3 := ts_upd (K := K) (o' := .lst (ps.map V.ref ++ [V.ref pt])) hD2 rfl
      exact ⟨t3 _ _ (SqT.of upd_same), dp_ts ((Same.ts s2).trans t3) hx1⟩
    · rw [List.map_append, he, List.take_succ_eq_append_getElem hi2, ep]
      rfl
  · rintro H1 ⟨ps, es, s1, hD1, hpl, hp, he⟩
    rw [hlen, List.take_length] at he
    exact q D H1 ps es s1 hD1 hp he
end
end K76

/-! The walk, 20: _law_closure. -/
namespace K76
open PySem PySem.Spec PyProof.Rows L2
section
variable {P : Program} {w : World} {K : PySem.W.Frag} {mg : Str → Option Value} {base : Heap}
def spClosure (K : PySem.W.Frag) : Sp := fun vs H Q _ => ∃ (a l : Addr) (v : V) (bk : Bk) (b t : Int) (f : Nat), vs = [.ref a, .int b, .int f, .int t, .ref l] ∧ bk.Ok ∧ PartsAt H a bk ∧ (1 ≤ b ∧ b ≤ 300) ∧ (1 ≤ f ∧ f ≤ 8) ∧ (0 ≤ t ∧ t ≤ 300) ∧ H l = some (.lst [v]) ∧ Dp K H v (stD (zeros f)) ∧
  ∀ H' D us rs, Same H H' → H D = none → H' D = some (.lst us) → Sts K H' us rs → 1 ≤ rs.length → rs.length ≤ 2800 → (∀ s ∈ rs, Reach bk b f t s) → Q (.ref D) H'
theorem sc_closure : FnScope ["_law_parts_here", "_law_blocks", "_law_files", "_law_total", "_law_starts", "_law_found", "_law_known", "_law_at", "_law_sizes", "_law_number", "_law_many", "_law_later", "_law_start", "_law_size", "_law_hold"] ["_law_parts_here", "_law_blocks", "_law_files", "_law_total", "_law_starts"] (defScope (top 60)) := ⟨rfl, rfl, rfl, by decide +kernel, rfl, by decide +kernel, by decide +kernel⟩
theorem ok_closure (T : Tx K mg) : FnG P w K mg base CX0 3 "_law_closure" ["_law_parts_here", "_law_blocks", "_law_files", "_law_total", "_law_starts"] (spClosure K) := by
  obtain ⟨fd, F⟩ := T.f_l_closure
  refine FnG.of F T.g_l_closure (fun _ _ _ _ _ _ us hl => match us, hl with | [_, _, _, _, _], _ => rfl) (F.ok sc_closure (fun vs H Q E h => ?_) (fun cdv A outer s H vs Q E hr h => ?_))
  · obtain ⟨a, l, v, bk, b, t, f, rfl, _⟩ := h
    rfl
  · obtain ⟨a, l, v, bk, b, t, f, rfl, ok, PA0, ⟨b1, b2⟩, ⟨f1, f2⟩, ⟨t0, t2⟩, hl, hv, q⟩ := h
    have nd := sc_closure.nd
    have hsl := sizeLine_eq
    refine ⟨_, pss_cons (ps_set (i := 5) nd rfl (.inl rfl) (pe_callTy call_list_of rfl T.m_list boot_list' (pa_cons (pv 4) pa_nil)))
      (pss_cons (ps_set (i := 6) nd rfl (.inl rfl) (pe_callTy (call_dictNK P w K rfl (hu65 hr)) rfl T.m_dict boot_dict' (pa_cons (pe_lc (own := [("_law_start", 12)]) (g := gName 12) (tt := tYes) rfl nd (pi_list (pv 4))
        (blkOk_by (N := ["_law_parts_here", "_law_blocks", "_law_files", "_law_total", "_law_starts", "_law_found", "_law_known", "_law_at", "_law_sizes", "_law_number", "_law_many", "_law_later", "_law_start", "_law_size", "_law_hold"]) (sc := defScope (top 60)) (by decide +kernel))
        (fun _ _ _ _ _ => pg_name (i := 12) nd rfl (.inl rfl)) (fun _ _ _ _ _ => pts_nil) (fun _ _ _ _ _ => pe_tup (pa_cons (pv 12) (pa_cons pe_bl pa_nil)))) pa_nil)))
      (pss_cons (ps_set (i := 7) nd rfl (.inl rfl) pe_int)
      (pss_cons (ps_while PassesOwn.never (PW.pt (pw_and (pt_cmpR op_lt (pv 7) (pe_callB call_len rfl T.m_len boot_len' (pa_cons (pv 5) pa_nil)) (nomark _)) (pw_and1 (pt_cmpR op_lt (pe_callB call_len rfl T.m_len boot_len' (pa_cons (pv 5) pa_nil)) pe_int (nomark _)))))
        (pss_cons (ps_set (i := 8) nd rfl (.inl rfl) (pe_callB (cr_sum rfl) rfl T.m_sum boot_sum' (pa_cons (pe_lc (own := [("_law_size", 13), ("_law_hold", 14)]) (g := gTup K 2 (gCons (gName 13) (gCons (gName 14) gNil))) (tt := tYes) rfl nd (pi_tup (pe_ix ix_list (pv 5) (pv 7) (fun _ _ => rfl)))
          (blkOk_by (N := ["_law_parts_here", "_law_blocks", "_law_files", "_law_total", "_law_starts", "_law_found", "_law_known", "_law_at", "_law_sizes", "_law_number", "_law_many", "_law_later", "_law_start", "_law_size", "_law_hold"]) (sc := defScope (top 60)) (by decide +kernel))
          (fun _ _ _ _ _ => pg_tup rfl (pgs_cons (pg_name (i := 13) nd rfl (.inl rfl)) (pgs_cons (pg_name (i := 14) nd rfl (.inl rfl)) pgs_nil))) (fun _ _ _ _ _ => pts_nil) (fun _ _ _ _ _ => pv 13)) pa_nil)))
        (pss_cons (ps_for PassesOwn.never rfl (pi_range1 rfl T.m_range (pa_cons (pv 2) pa_nil)) (pg_name (i := 9) nd rfl (.inl rfl))
          (pss_one (ps_for PassesOwn.never rfl (pi_range2 rfl T.m_range (pa_cons pe_int (pa_cons (pe_op op_sub (pe_op op_add (pv 3) pe_int) (pv 8)) pa_nil))) (pg_name (i := 10) nd rfl (.inl rfl))
            (pss_cons (ps_set (i := 11) nd rfl (.inl rfl) (pe_g (ok_lgrown T) hr (pa_cons (pv 0) (pa_cons (pv 1) (pa_cons (pe_ix ix_list (pv 5) (pv 7) (fun _ _ => rfl)) (pa_cons (pv 9) (pa_cons (pv 10) pa_nil)))))))
            (pss_one (ps_if (PW.pt (pw_and (pt_cmpR op_notN (pv 11) pe_non (nomark _)) (pw_and1 (pt_cmpR (op_notInNK P w K (hu65 hr)) (pv 11) (pv 6) rfl))))
              (pss_cons (ps_nputK P w K (hu65 hr) (pv 6) (pv 11) pe_bl rfl)
              (pss_one (ps_expr (pe_bm PySem.F.plainAttrs_list PySem.F.slot_list_append PySem.F.type_list_append mt_append (pv 5) (pa_cons (pv 11) pa_nil))))) pss_nil))))))
        (pss_one (ps_set (i := 7) nd rfl (.inl rfl) (pe_op op_add (pv 7) pe_int))))))
      (pss_one (ps_ret (pv 5)))))), ?_⟩
    refine ⟨_, rfl, l, [v], rfl, .inl (SqL.of hl), fun F0 hF0 => ?_⟩
    have s1 := same_upd (o := .lst [v]) hF0
    have hF1 : upd H F0 (.lst [v]) F0 = some (.lst [v]) := upd_same
    have hl1 := s1 _ _ hl
    have hv1 := dp_same s1 _ _ hv
    generalize upd H F0 (.lst [v]) = H1 at s1 hF1 hl1 hv1 ⊢
    dsimp only [tNext, tSeq, tIfS, tNot, tB, tCB, tCons, tRet, tOp, tAsg, gName]
    refine lc_true (i := 12) (K := K) (H := H1) (us := [v]) (ss := [zeros f]) (l := l) (by show 12 < 15; decide) (fun R z => ⟨_, rfl, z⟩) (SqL.of hl1) (.cons hv1 .nil) (by show 1 ≤ 10000; decide) (fun D1 H2 ps es0 s2 hD1 hps hes => ?_)
    refine ⟨D1, ps, es0, rfl, SqL.of hD1, hps, ?_, fun D hD dn0 => ?_⟩
    · have : es0.length = 1 := by rw [← List.length_map (f := fun e : Stt × Addr => e.1), hes]; rfl
      omega
    have hm1 : (mergeN es0).length ≤ 1 := by
      have h1 := foldN_len es0 []
      have h2 : es0.length = 1 := by rw [← List.length_map (f := fun e : Stt × Addr => e.1), hes]; rfl
      rw [h2] at h1
      exact h1
    have s3 := same_upd (o := dnO P w D (mergeN es0)) hD
    have s13 := (s1.trans s2).trans s3
    have hF3 := (s2.trans s3) _ _ hF1
    have hv3 := dp_same (s2.trans s3) _ _ hv1
    have nDH : H D = none := none_of_same (s1.trans s2) hD
    have nFD : F0 ≠ D := ne_of_none (s2 _ _ hF1) hD
    generalize upd H2 D (dnO P w D (mergeN es0)) = H3 at dn0 s3 s13 hF3 hv3 ⊢
    refine while_by (fun σ H' => ∃ (x8 x9 x10 x11 x12 x13 x14 : Option V) (k : Nat) (us : List V) (rs : List Stt) (es : NE), σ = [some (.ref a), some (.int b), some (.int f), some (.int t), some (.ref l), some (.ref F0), some (.ref D), some (.int k), x8, x9, x10, x11, x12, x13, x14] ∧ Same H H' ∧ H' F0 = some (.lst us) ∧ Sts K H' us rs ∧ DN P w K H' D es ∧ es.length ≤ us.length ∧ 1 ≤ us.length ∧ us.length ≤ 2800 ∧ ∀ s ∈ rs, Reach bk b f t s)
      (fun (σ : L2.St) _ => match σ[7]? with
        | some (some (V.int k)) => (300 - k).toNat
        | _ => 0) ⟨_, _, _, _, _, _, _, 0, [v], [zeros f], mergeN es0, rfl, s13, hF3, .cons hv3 .nil, dn0, by rw [List.length_singleton]; exact hm1, Nat.le_refl _, by show 1 ≤ 2800; decide, fun s h => by rw [List.mem_singleton.mp h]; exact .zero⟩ ?_ ?_
    · rintro σ H4 ⟨x8, x9, x10, x11, x12, x13, x14, k, us, rs, es, rfl, s4, hF4, hsts, dn4, hel, hu1, hu2, hreach⟩
      have hlen := Paired.length hsts
      refine ⟨_, rfl, _, rfl, _, us.length, rfl, .inl ⟨us, SqL.of hF4, rfl⟩, k, us.length, rfl, rfl, _, rfl, ?_⟩
      by_cases hk : k < us.length
      case neg =>
        rw [decide_eq_false (show ¬ (k : Int) < us.length by omega)]
        exact iteF (iteF ⟨_, rfl, q H4 F0 us rs s4 (none_of_same (Same.refl H) hF0) hF4 hsts (by omega) (by omega) hreach⟩)
      rw [decide_eq_true (show (k : Int) < us.length by omega)]
      refine iteT ⟨_, rfl, _, us.length, rfl, .inl ⟨us, SqL.of hF4, rfl⟩, us.length, 300, rfl, rfl, _, rfl, ?_⟩
      by_cases hk3 : us.length < 300
      case neg =>
        rw [decide_eq_false (show ¬ (us.length : Int) < 300 by omega)]
        exact iteF ⟨_, rfl, q H4 F0 us rs s4 (none_of_same (Same.refl H) hF0) hF4 hsts (by omega) (by omega) hreach⟩
      rw [decide_eq_true (show (us.length : Int) < 300 by omega)]
      refine iteT ?_
      obtain ⟨x, hx⟩ : ∃ x, us[k]? = some x := ⟨us[k], List.getElem?_eq_getElem hk⟩
      obtain ⟨st, hst, hd⟩ := sts_get hsts hx
      obtain ⟨g, gl, gz⟩ := (hreach st (List.mem_of_getElem? hst)).good ok f1 f2 (by omega) b2 t0
      have gs := g.sizes
      have l8 := g.l8
      dsimp only [tNext, tSeq, tIfS, tNot, tB, tCB, tCons, tRet, tOp, tAsg]
      refine lc_pairs (fun p => .int p.1) (fun R z => ⟨_, rfl, _, rfl, F0, us, k, x, rfl, rfl, SqL.of hF4, atI_nat hx, z⟩) hd (by omega) (fun p H2 R z => ⟨_, rfl, z⟩) (fun L hL => ?_)
      have e : st.map (fun p => V.int p.1) = (st.map (fun x : Int × Int => x.1)).map V.int := by rw [List.map_map]; rfl
      refine ⟨L, st.map (fun x : Int × Int => x.1), rfl, by rw [← e]; exact SqL.of upd_same, ?_⟩
      have s5 := same_upd (o := .lst (st.map fun p => V.int p.1)) hL
      have s45 := s4.trans s5
      have hF5 := s5 _ _ hF4
      have hsts5 := sts_ts (Same.ts s5) hsts
      have dn5 := dn4.same s5
      have hd5 := dp_same s5 _ _ hd
      generalize upd H4 L (.lst (st.map fun p => V.int p.1)) = H5 at s5 s45 hF5 hsts5 dn5 hd5 ⊢
      have hsum : (st.map (fun x : Int × Int => x.1)).sum = sizes st := rfl
      refine ⟨_, rfl, f, rfl, by omega, by omega, ?_⟩
      have hmul : ∀ i j : Nat, i < f → j ≤ (t - sizes st).toNat → i * (t - sizes st).toNat + j ≤ 8 * 300 := fun i j hi hj => by
        have h1 : (t - sizes st).toNat ≤ 300 := by omega
        have h2 : i * (t - sizes st).toNat ≤ 7 * 300 := Nat.mul_le_mul (by omega) h1
        omega
      refine for_range (n := (f : Int).toNat) (fun i σ H' => ∃ (x9 x10 x11 : Option V) (us' : List V) (rs' : List Stt) (es' : NE), σ = [some (.ref a), some (.int b), some (.int f), some (.int t), some (.ref l), some (.ref F0), some (.ref D), some (.int k), some (.int (sizes st)), x9, x10, x11, x12, x13, x14] ∧ Same H H' ∧ TupS K H5 H' ∧ H' F0 = some (.lst us') ∧ us'[k]? = some x ∧ Sts K H' us' rs' ∧ DN P w K H' D es' ∧ es'.length ≤ us'.length ∧ 1 ≤ us'.length ∧ us'.length ≤ 300 + i * (t - sizes st).toNat ∧ ∀ s ∈ rs', Reach bk b f t s)
        ⟨_, _, _, us, rs, es, rfl, s45, TupS.refl _, hF5, hx, hsts5, dn5, hel, hu1, by omega, hreach⟩ ?_ ?_
      · rintro i σ H6 hi ⟨x9, x10, x11, us6, rs6, es6, rfl, s6, t6, hF6, hx6, hsts6, dn6, hel6, hu16, hu26, hre6⟩
        have hi' : i < f := by omega
        refine ⟨_, rfl, t, 1, rfl, rfl, _, rfl, t + 1, sizes st, rfl, rfl, 1, t + 1 - sizes st, rfl, ⟨by omega, by omega, by omega, by omega⟩, ?_⟩
        refine for_range (lo := 1) (n := (t + 1 - sizes st - 1).toNat) (fun j σ H' => ∃ (x10 x11 : Option V) (us' : List V) (rs' : List Stt) (es' : NE), σ = [some (.ref a), some (.int b), some (.int f), some (.int t), some (.ref l), some (.ref F0), some (.ref D), some (.int k), some (.int (sizes st)), some (.int (i : Nat)), x10, x11, x12, x13, x14] ∧ Same H H' ∧ TupS K H5 H' ∧ H' F0 = some (.lst us') ∧ us'[k]? = some x ∧ Sts K H' us' rs' ∧ DN P w K H' D es' ∧ es'.length ≤ us'.length ∧ 1 ≤ us'.length ∧ us'.length ≤ 300 + i * (t - sizes st).toNat + j ∧ ∀ s ∈ rs', Reach bk b f t s)
          ⟨_, _, us6, rs6, es6, by rw [Int.zero_add]; rfl, s6, t6, hF6, hx6, hsts6, dn6, hel6, hu16, by omega, hre6⟩ ?_ ?_
        · rintro j σ H7 hj ⟨x10', x11', us7, rs7, es7, rfl, s7, t7, hF7, hx7, hsts7, dn7, hel7, hu17, hu27, hre7⟩
          have hm := hmul i j hi' (by omega)
          refine ⟨_, rfl, _, rfl, _, rfl, _, rfl, F0, us7, k, x, rfl, rfl, SqL.of hF7, atI_nat hx7, _, rfl, _, rfl, a, bk, x, st, b, 1 + (j : Nat), i, rfl, ok, PA0.same s7, dp_ts t7 hd5, by omega, by omega, g.small, by omega, by omega, fun H8 u s8 o8 => ?_⟩
          have s78 := s7.trans s8
          have t8 := t7.trans (Same.ts s8)
          have hF8 := s8 _ _ hF7
          have hsts8 := sts_ts (Same.ts s8) hsts7
          have dn8 := dn7.same s8
          have stay : ∃ (y10 y11 : Option V) (us' : List V) (rs' : List Stt) (es' : NE), [some (V.ref a), some (.int b), some (.int f), some (.int t), some (.ref l), some (.ref F0), some (.ref D), some (.int k), some (.int (sizes st)), some (.int (i : Nat)), some (.int (1 + (j : Nat))), some u, x12, x13, x14] = [some (.ref a), some (.int b), some (.int f), some (.int t), some (.ref l), some (.ref F0), some (.ref D), some (.int k), some (.int (sizes st)), some (.int (i : Nat)), y10, y11, x12, x13, x14] ∧ Same H H8 ∧ TupS K H5 H8 ∧ H8 F0 = some (.lst us') ∧ us'[k]? = some x ∧ Sts K H8 us' rs' ∧ DN P w K H8 D es' ∧ es'.length ≤ us'.length ∧ 1 ≤ us'.length ∧ us'.length ≤ 300 + i * (t - sizes st).toNat + (j + 1) ∧ ∀ s ∈ rs', Reach bk b f t s :=
            ⟨_, _, us7, rs7, es7, rfl, s78, t8, hF8, hx7, hsts8, dn8, hel7, hu17, by omega, hre7⟩
          refine ⟨_, rfl, rfl, _, rfl, ?_⟩
          cases hg : grownZ bk b st i (1 + (j : Nat)) with
          | none =>
            rw [hg] at o8
            cases (show u = .non from o8)
            exact iteF (iteF stay)
          | some s' =>
            rw [hg] at o8
            have hd8 : Dp K H8 u (stD s') := o8
            obtain ⟨ad, _, rfl, _, _⟩ := dp_st hd8
            refine iteT ⟨_, rfl, _, rfl, s', D, es7, hd8, rfl, dn8, _, rfl, ?_⟩
            by_cases cin : s' ∈ es7.map (·.1)
            · rw [decide_eq_true cin]
              exact iteF stay
            rw [decide_eq_false cin]
            refine iteT ⟨_, rfl, _, rfl, rfl, s', D, ad, es7, rfl, rfl, hd8, dn8, ?_⟩
            have dn9 := dn8.put hd8 (by omega)
            have t9 := ts_upd (K := K) (o' := dnO P w D (putN es7 s' ad)) dn8.at_ rfl
            have s9 : Same H (upd H8 D (dnO P w D (putN es7 s' ad))) := fun c o e => by
              rw [upd_ne (fun z => by subst z; rw [nDH] at e; cases e)]
              exact s78 _ _ e
            have hF9 : upd H8 D (dnO P w D (putN es7 s' ad)) F0 = some (.lst us7) := by rw [upd_ne nFD]; exact hF8
            generalize upd H8 D (dnO P w D (putN es7 s' ad)) = H9 at dn9 t9 s9 hF9 ⊢
            have hpl := putN_len es7 s' ad
            refine ⟨_, rfl, .inl ⟨rfl, _, SqL.of hF9⟩, _, rfl, F0, us7, .ref ad, rfl, rfl, hF9, by omega, ?_⟩
            have t10 := ts_upd (K := K) (o' := .lst (us7 ++ [.ref ad])) hF9 rfl
            refine ⟨_, _, us7 ++ [.ref ad], rs7 ++ [s'], putN es7 s' ad, rfl, fun c o e => ?_, (t8.trans t9).trans t10, upd_same, by rw [List.getElem?_append_left (List.getElem?_eq_some_iff.mp hx7).1]; exact hx7, sts_snoc (sts_ts (t9.trans t10) hsts8) (dp_ts (t9.trans t10) hd8), dn9.upd hF9 rfl (Ne.symm nFD), ?_, ?_, ?_, fun s hs => ?_⟩
            · rw [upd_ne (fun z => by subst z; rw [hF0] at e; cases e)]
              exact s9 _ _ e
            · rw [List.length_append, List.length_singleton]
              omega
            · rw [List.length_append, List.length_singleton]
              omega
            · rw [List.length_append, List.length_singleton]
              omega
            · rcases List.mem_append.mp hs with hs | hs
              · exact hre7 s hs
              · rw [List.mem_singleton.mp hs]
                exact .next (hreach st (List.mem_of_getElem? hst)) hi' (by omega) (by omega) hg
        · rintro σ H7 ⟨x10', x11', us7, rs7, es7, rfl, s7, t7, hF7, hx7, hsts7, dn7, hel7, hu17, hu27, hre7⟩
          have e1 : (t + 1 - sizes st - 1).toNat = (t - sizes st).toNat := by omega
          rw [e1] at hu27
          exact ⟨_, _, _, us7, rs7, es7, rfl, s7, t7, hF7, hx7, hsts7, dn7, hel7, hu17, by rw [Nat.succ_mul]; omega, hre7⟩
      · rintro σ H6 ⟨x9, x10, x11, us6, rs6, es6, rfl, s6, t6, hF6, hx6, hsts6, dn6, hel6, hu16, hu26, hre6⟩
        have e1 : (f : Int).toNat = f := by omega
        rw [e1] at hu26
        have h1 : (t - sizes st).toNat ≤ 300 := by omega
        have h2 : f * (t - sizes st).toNat ≤ 8 * 300 := Nat.mul_le_mul f2 h1
        refine ⟨_, rfl, k, 1, rfl, rfl, ⟨_, _, _, _, _, _, _, k + 1, us6, rs6, es6, rfl, s6, hF6, hsts6, dn6, hel6, hu16, by omega, hre6⟩, ?_⟩
        show (300 - ((k : Int) + 1)).toNat < (300 - (k : Int)).toNat
        omega
    · rintro σ H4 Q1 Q2 hq ⟨v1, h1, v2, h2, y, n, h3, h4, i, j, h5, h6, c, h7, h8⟩
      refine ⟨v1, h1, v2, h2, y, n, h3, h4, i, j, h5, h6, c, h7, ?_⟩
      cases c with
      | false => exact iteF (hq _ _ (by simpa using h8))
      | true =>
        have h8 := (show if true = true then _ else _ from h8)
        rw [if_pos rfl] at h8
        obtain ⟨v1, h1, y, n, h3, h4, i, j, h5, h6, c, h7, h9⟩ := h8
        exact iteT ⟨v1, h1, y, n, h3, h4, i, j, h5, h6, c, h7, hq _ _ h9⟩
end
end K76

/-! Promises of defs that are kept where no guarded built-in (repr, ..) is under way. -/
namespace K76
open PySem PySem.Spec PyProof.Rows L2
structure FnOkG (P : Program) (w : World) (K : PySem.W.Frag) (mg : Str → Option Value) (base : Heap) (CX : CXT) (k : Nat) (f : Addr) (fd : FuncData) (ps : List Str) (sp : Sp) : Prop where
  len : ∀ vs H Q E, sp vs H Q E → vs.length = ps.length
  run : ∀ (A : Around) (outer : List Env) (s : Shared) (H : Hp) (args : Args) (us : List Value) (vs : List V) (Q : VK) (E : XK), A.guards = some [] → Room k A → Env0 P w K mg base A outer s H → BindsTo s fd args (ps.zip us) → Vals vs us → sp vs H Q E →
    codeAny (model P w) A (.call (.ref f) args) (CR CX outer P w H s Q E) s
theorem fnG_of {CX : CXT} {P : Program} {w : World} {K : PySem.W.Frag} {mg : Str → Option Value} {base : Heap} {k : Nat} {f : Addr} {name qual : Str} {params : Arguments} {body : List Stmt} {scope : Scope} {dV kV doc pm cdv ct oc : Value} {an od : Option Addr}
    {osl : Array (Option Value)} {N ps : List Str} {sp : Sp} (lk : K.lookup f = some ⟨oc, od, .func (PySem.W.fnOf name qual params body scope dV kV doc pm an cdv ct), osl⟩) (hcd : PySem.W.codeIn K cdv qual = true) (S : FnScope N ps scope)
    (len : ∀ vs H Q E, sp vs H Q E → vs.length = ps.length)
    (hbody : ∀ (A : Around) (outer : List Env) (s : Shared) (H : Hp) (vs : List V) (Q : VK) (E : XK), (A.deeper (envOfC qual scope s.heap.objs.size f cdv)).guards = some [] → Room k (A.deeper (envOfC qual scope s.heap.objs.size f cdv)) → sp vs H Q E →
      ∃ t, PSs (cxOf CX P w K mg base N qual scope f cdv A outer s H E) body t ∧ t { nx := fun _ H' => Q .non H', rt := Q } (L2.start N vs) H) :
    FnOkG P w K mg base CX (k + 1) f (PySem.W.fnOf name qual params body scope dV kV doc pm an cdv ct) ps sp := by
  refine ⟨len, fun A outer s H args us vs Q E hga hr e0 hb r hsp => ?_⟩
  have hl := len _ _ _ _ hsp
  have KX : K.In s.heap := e0.mod.kin.keeps fun b o e => (e0.bs b o e).1
  have lim : s.heap.NoLimit := e0.mod.nolimit.keeps fun b o e => (e0.bs b o e).1
  have hkind : ∀ y ∈ ps.zip us, scope.names.lookup y.1 = some .local ∨ (scope.names.lookup y.1 = some .cell ∧ ((cellsFrom (s.heap.objs.size + 1) scope.names []).lookup y.1).isSome = true) := fun ⟨n, v⟩ hy => by
    rcases S.par n (List.of_mem_zip hy).1 with q | q
    · exact .inl q
    · exact .inr ⟨q, PySem.W.cellsFrom_some _ _ _ (.inl q)⟩
  refine codeAny_call_function hr.depth (KX _ _ lk) rfl S.co S.gen rfl (PySem.W.codeRec_of KX hcd) (hb _ _ _ _ ?_)
  refine wpAny_newFunctionEnv_cells S.kind hkind fun env he s1 x => ?_
  subst he
  refine ⟨lim.keeps x.toInCall.keep, codeAny_func ?_⟩
  obtain ⟨t, ht, hq⟩ := hbody A outer s H vs Q E hga (hr.deeper _) hsp
  have I : Inv (cxOf CX P w K mg base N qual scope f cdv A outer s H E) [] (L2.start N vs) H s1 := inv_start S hr.hd e0 hl r x
  refine wpAny_mono (ht.run [] s1 (L2.start N vs) H _ I hq) (fun fl s' hs => ?_) fun e s' hs => hs
  have fin : ∀ {σ' : L2.St} {H' : Hp} {v : V} {u : Value}, Inv (cxOf CX P w K mg base N qual scope f cdv A outer s H E) [] σ' H' s' → RelV v u → Q v H' → CE outer P w H s Q u s' :=
    fun {σ' H' v u} J rv q => ⟨v, H', J.os, J.bare, J.base, J.hok, rv, q⟩
  cases fl with
  | ret u =>
    obtain ⟨v, σ', H', J, rv, q⟩ := hs
    exact fin J rv q
  | next =>
    obtain ⟨σ', H', J, q⟩ := hs
    exact fin (v := V.non) (u := Value.none) J rfl q
  | brk =>
    obtain ⟨_, _, _, q⟩ := hs
    exact False.elim q
  | cont =>
    obtain ⟨_, _, _, q⟩ := hs
    exact False.elim q
theorem lawG_call {P : Program} {w : World} {K : PySem.W.Frag} {mg mb : Str → Option Value} {CX : CXT} {k : Nat} {fa a : Addr} {fd : FuncData} {x : Str} {sp : Sp} {s₁ : Shared} {vs : List Value} {ns : List Int}
    (KX : K.In s₁.heap) (hns : s₁.heap.Ns mainGlobals mg) (hb : s₁.heap.Ns builtinsNs mb) (hbb : ∀ x : Str, x ≠ "__name__" → mb x = bootBuiltins x) (hlim : s₁.heap.NoLimit) (hg : s₁.gens = #[])
    (ha : s₁.heap.get? a = some { cls := .type "list", data := .seq vs.toArray }) (hi : IntsAre vs ns) (hl : ns.length ≤ sizeLine) (hr : Room k callerA)
    (F : ∀ base : Heap, K.In base → base.Ns mainGlobals mg → FnOkG P w K mg base CX k fa fd [x] sp) (hbind : ∀ (s : Shared) (u : Value), BindsTo s fd ⟨[u], []⟩ [(x, u)])
    (hsp : ∀ H : Hp, Only H → SqL K H a (ns.map V.int) → sp [.ref a] H (fun v _ => v = .bl true) fun _ _ _ => False)
    (hCX : ∀ H e s', CX [] H s₁ (fun _ _ _ => False) e s' → False) :
    codeAny (model P w) callerA (.call (.ref fa) ⟨[.ref a], []⟩) (fun r s' => r = .ok (.ret (.bool true)) ∧ OldK s₁.heap s'.heap ∧ s'.os = s₁.os ∧ AllBare s'.gens) s₁ := by
  have rv := vals_ints hi
  have lenV := hi.length
  -- from an abstract heap in which nothing but the script may be tracked
  have core : ∀ H : Hp, Only H → SqL K H a (ns.map V.int) → HOk P w H s₁.heap → (∀ b, H b ≠ none → b = a) → (H a ≠ none → K.lookup a = none) →
      codeAny (model P w) callerA (.call (.ref fa) ⟨[.ref a], []⟩) (fun r s' => r = .ok (.ret (.bool true)) ∧ OldK s₁.heap s'.heap ∧ s'.os = s₁.os ∧ AllBare s'.gens) s₁ := by
    intro H hO hS hok hA hK
    have base_of : ∀ {b : Addr} {o : Obj}, s₁.heap.get? b = some o → H b = none → (hidT s₁.heap H).get? b = some o := fun e n => hidT_get e n
    have noA : ∀ {b : Addr} {o : Obj} {es : Array DictEntry} {ep : Nat}, s₁.heap.get? b = some o → o.data = .dict es ep → H b = none := fun {b o es ep} e d => by
      cases q : H b with
      | none => rfl
      | some u =>
        have e' : b = a := hA b (by rw [q]; simp)
        subst e'
        rw [ha] at e; cases e
        have d' : Data.seq vs.toArray _ = Data.dict es ep := d
        cases d'
    have nsK : ∀ {b : Addr} {m : Str → Option Value}, s₁.heap.Ns b m → (hidT s₁.heap H).Ns b m := fun {b m} ⟨o, es, ep, e, d, r⟩ => ⟨o, es, ep, base_of e (noA e d), d, r⟩
    have hKb : K.In (hidT s₁.heap H) := fun b o e => base_of (KX b o e) (by
      cases q : H b with
      | none => rfl
      | some u =>
        have e' : b = a := hA b (by rw [q]; simp)
        subst e'
        rw [hK (by rw [q]; simp)] at e; cases e)
    have hM : Mod K mg (hidT s₁.heap H) := ⟨hKb, nsK hns, ⟨mb, nsK hb, hbb⟩, let ⟨mc, h1, h2⟩ := hlim; ⟨mc, nsK h1, h2⟩⟩
    have e0 : Env0 P w K mg (hidT s₁.heap H) callerA [] s₁ H := ⟨rfl, hM, fun b o e => of_hidT e, Nat.le_of_eq (hidT_size _ _), trivial, fun b hb => absurd (show b ∈ ([] : List Addr) from hb) (by simp), hok, .of_eq hg⟩
    refine codeAny_mono ((F _ hKb (nsK hns)).run callerA [] s₁ H ⟨[.ref a], []⟩ [.ref a] [.ref a] _ _ rfl hr e0 (hbind s₁ (.ref a)) (.cons rfl .nil) (hsp H hO hS)) fun r s' h => ?_
    cases r with
    | error e => exact (hCX H e s' h).elim
    | ok fl =>
      cases fl with
      | next => exact False.elim h
      | brk => exact False.elim h
      | cont => exact False.elim h
      | ret u =>
        obtain ⟨v, H', os, bare, un, hok', r', q⟩ := h
        have q' : v = .bl true := q
        subst q'
        obtain rfl : u = Value.bool true := r'
        refine ⟨rfl, OldK.of_keep fun b o e => ?_, os, bare⟩
        cases q : H b with
        | none => exact un.keep b o e q (by intro z; exact absurd (show b ∈ ([] : List Addr) from z) (by simp)) (by simp)
        | some u =>
          rcases hO b with z | ⟨ob, xs, z⟩
          · rw [q] at z; cases z
          · have z2 := un.frzs b ob _ z
            obtain ⟨e1, _⟩ := hok b _ z
            obtain ⟨e2, _⟩ := hok' b _ z2
            rw [e] at e1; cases e1
            exact e2
  cases hk : K.lookup a with
  | some o =>
    -- the script is one of the module's own objects
    have e := KX a o hk
    rw [ha] at e
    cases e
    refine core (fun _ => none) (fun _ => .inl rfl) (.inr ⟨_, vs.toArray, _, hk, rfl, rfl, rfl, by rw [List.size_toArray, lenV]; exact hl, by simpa using rv⟩) (fun b u z => by have z' : (none : Option HO) = some u := z; cases z') (fun b z => absurd rfl z) fun z => absurd rfl z
  | none =>
    refine core (fun b => if b = a then some (.frz { cls := .type "list", data := .seq vs.toArray } (.lst (ns.map V.int))) else none) (fun b => ?_) (.inl (.inr ⟨{ cls := .type "list", data := .seq vs.toArray }, if_pos rfl⟩)) (fun b u z => ?_) (fun b z => ?_) fun _ => hk
    · by_cases hb : b = a
      · exact .inr ⟨_, _, if_pos hb⟩
      · exact .inl (if_neg hb)
    · by_cases hb : b = a
      · have z' := (if_pos hb).symm.trans z
        cases z'
        subst hb
        exact ⟨ha, by rw [List.length_map]; exact hl, vs, _, rv, ha⟩
      · have z' := (if_neg hb).symm.trans z
        cases z'
    · by_cases hb : b = a
      · exact hb
      · exact absurd (if_neg hb) z
theorem walkG_of {l : PySem.W.OpenLaw} {n k : Nat} {q : Program} {loose : List Str} {XP : (Str → Option Value) → Heap → Prop} {YP : World → Heap → Prop} {d : DefRec} {CX : CXT} {x : Str}
    (hn : l.most = some n) (hn2 : n ≤ sizeLine) (hdf : d.params.defaults = []) (hr : Room k callerA)
    (F : ∀ (w : World) (mg : Str → Option Value) (fa : Addr) (h : Heap), YP w h → h.Ns mainGlobals mg → mg d.name = some (.ref fa) →
      ∃ (K : PySem.W.Frag) (fd : FuncData) (sp : Sp), K.In h ∧ (∀ (s : Shared) (u : Value), BindsTo s fd ⟨[u], []⟩ [(x, u)]) ∧
        (∀ (H : Hp) (a : Addr) (ns : List Int), ns.length ≤ n → Only H → SqL K H a (ns.map V.int) → sp [.ref a] H (fun v _ => v = .bl true) fun _ _ _ => False) ∧
        ∀ base : Heap, K.In base → base.Ns mainGlobals mg → FnOkG l.prog w K mg base CX k fa fd [x] sp)
    (hCX : ∀ (H : Hp) (s : Shared) (e : Value) (s' : Shared), CX [] H s (fun _ _ _ => False) e s' → False) :
    PySem.W.WalkO q loose XP YP l.row.toRowW d [] (fun f vs => PySem.call f vs) := by
  refine Att.attach_call hn hdf fun w s₀ s₁ mg mb fa o pm cd doc a vs ns G Y ho hd hcd hmg hobj hints hlen hg => ?_
  obtain ⟨K, fd, sp, KX, hb, hsp, hF⟩ := F w mg fa _ Y G.T.g hmg
  exact lawG_call KX G.T.g G.T.b G.T.builtins G.T.nolimit hg hobj hints (Nat.le_trans hlen hn2) hr hF hb (fun H hO hS => hsp H a ns hlen hO hS) fun H e s' => hCX H s₁ e s'

structure FnGG (P : Program) (w : World) (K : PySem.W.Frag) (mg : Str → Option Value) (base : Heap) (CX : CXT) (k : Nat) (x : Str) (ps : List Str) (sp : Sp) : Prop where
  g : mg x = some (.ref (He.ga K x))
  kp : PySem.W.keepIn K (.ref (He.ga K x)) = true
  ex : ∃ fd, Binds K fd ps [] ∧ FnOkG P w K mg base CX k (He.ga K x) fd ps sp
section
variable {P : Program} {w : World} {K : PySem.W.Frag} {mg : Str → Option Value} {base : Heap} {CX : CXT} {k : Nat} {x : Str} {st : Stmt} {fd : FuncData} {ps : List Str} {sp : Sp}
theorem FnGG.of (F : Fun K x x st (He.ga K x) fd) (g : mg x = some (.ref (He.ga K x)))
    (hb : ∀ (kV doc pm : Value) (an : Option Addr) (cdv ct : Value) (us : List Value), us.length = ps.length → bindArgs (PySem.W.fnOf x x (defArgs st) (defBody st) (defScope st) .none kV doc pm an cdv ct) ⟨us, []⟩ = pure (ps.zip us))
    (ok : FnOkG P w K mg base CX k (He.ga K x) fd ps sp) : FnGG P w K mg base CX k x ps sp := ⟨g, F.kp, fd, F.binds hb, ok⟩
theorem okG {qual : Str} {f : Addr} {N : List Str} (F : Fun K x qual st f fd) (S : FnScope N ps (defScope st)) (len : ∀ vs H Q E, sp vs H Q E → vs.length = ps.length)
    (hbody : ∀ (cdv : Value) (A : Around) (outer : List Env) (s : Shared) (H : Hp) (vs : List V) (Q : VK) (E : XK), (A.deeper (envOfC qual (defScope st) s.heap.objs.size f cdv)).guards = some [] → Room k (A.deeper (envOfC qual (defScope st) s.heap.objs.size f cdv)) → sp vs H Q E →
      ∃ t, PSs (cxOf CX0 P w K mg base N qual (defScope st) f cdv A outer s H E).nox (defBody st) t ∧ t { nx := fun _ H' => Q .non H', rt := Q } (L2.start N vs) H) : FnOkG P w K mg base CX0 (k + 1) f fd ps sp := by
  obtain ⟨oc, od, kV, doc, pm, an, cdv, ct, osl, rfl, lk, hcd⟩ := F.ex
  refine fnG_of lk hcd S len fun A outer s H vs Q E hga hr hsp => ?_
  obtain ⟨t, h, q⟩ := hbody cdv A outer s H vs Q E hga hr hsp
  exact ⟨t, h.nox, q⟩
end
section
variable {X : Cx} {CX : CXT} {k : Nat} {f : Addr} {fd : FuncData} {ps : List Str} {sp : Sp} {E : XK} {x : Str} {p pos : Pos} {e : Expr} {es : List Expr} {t : TA}
theorem runG {pins : List (Addr × Obj)} {σ : L2.St} {H : Hp} {s : Shared} {Q : VK} {us : List Value} {vs : List V} (F : FnOkG X.prog X.w X.K X.mg X.base CX k f fd ps sp) (hg : X.A.guards = some []) (hr : Room k X.A) (hb : Binds X.K fd ps []) (hx : Passes CX X E)
    (I : Inv X pins σ H s) (r : Vals vs us) (h : sp vs H Q E) : wpAny (model X.prog X.w) X.A (call (.ref f) us) (EP X pins σ Q) X.xe s := by
  have hl : us.length = ps.length := by rw [← r.length]; exact F.len _ _ _ _ h
  have b := hb s us I.kIn (by rw [List.append_nil]; exact hl)
  rw [List.append_nil] at b
  refine wpAny_call (codeAny_mono (F.run X.A X.stack s H ⟨us, []⟩ us vs Q E hg hr I.env0 b r h) fun r s' hq => ?_)
  cases r with
  | error e => exact hx pins σ H s e s' I hq
  | ok fl =>
    cases fl with
    | ret u => exact I.after hq
    | next => exact False.elim hq
    | brk => exact False.elim hq
    | cont => exact False.elim hq
theorem pe_gg (F : FnGG X.prog X.w X.K X.mg X.base CX k x ps sp) (hga : X.A.guards = some []) (hr : Room k X.A) (ha : PA X (e :: es) t) (hx : Passes CX X E := by exact pass0) (hg : Gl X x := by rfl)
    (hdb : (x == ("__debug__" : Str)) = false := by decide) (he : starEach (e :: es) X.env = (false, eval e X.env) :: starEach es X.env := by rfl) (hpl : (backTo pos (starEach es X.env)).any (·.1) = false := by rfl) :
    PE X (.Call (.Name x p) (e :: es) [] pos) (tCall sp [] E t) := by
  obtain ⟨g, kp, fd, b, ok⟩ := F
  refine ⟨fun pins s σ H Q I h => ?_⟩
  refine wpAny_Call_Name_kw (ld_glob I hg g ?_ hdb)
  refine PySem.W.callWith_K (h₀ := X.base) I.ok.mod.kin kp (thn (ha.run pos pins s σ H _ I h) fun us s1 ⟨vs, H1, I1, r, q⟩ => ⟨I1.kIn, ?_⟩) he hpl
  have q' : sp (vs ++ []) H1 Q E := q
  rw [List.append_nil] at q'
  exact runG ok hga hr b hx I1 r q'
/-- repr of a tuple of data -/
theorem call_reprT (hga : X.A.guards = some []) (hu : X.A.units + 65 < cLine) : CallR X (.builtin "repr") (fun xs H Q => ∃ v ds, xs = [v] ∧ Dp X.K H v (.tuple ds) ∧ (PyData.tuple ds).showable = true ∧ (PyData.tuple ds).hasDict = false ∧ (PyData.tuple ds).depth ≤ 60 ∧ (PyData.tuple ds).shown.length ≤ sizeLine ∧ Q (.str (PyData.tuple ds).shown) H) := by
  intro pins s σ H xs us Q I r h
  obtain ⟨v, ds, rfl, hd, h1, h2, h3, h4, q⟩ := h
  obtain ⟨u, rfl, ru⟩ := r.one
  obtain ⟨as, rd⟩ := Dp.reads I _ v u hd ru
  have hv : ∃ a, u = .ref a := by
    cases hd with
    | tup hx hds => exact ⟨_, ru⟩
  obtain ⟨a, rfl⟩ := hv
  exact repr_of_reads' rd h1 (fun z => by rw [h2] at z; cases z) hga (by omega) (fun b o e => e) (fun h' t tk hk => ⟨.str _, H, I.kept (t' := tk) hk, ⟨t, rfl⟩, q⟩) h4
end
end K76

namespace K76
open PySem PySem.Spec PyProof.Rows L2
def chkD (d : PyData) : Bool := d.showable && (!d.hasDict && (decide (d.depth ≤ 60) && decide (d.shown.length ≤ 1000)))
theorem chk_all : (List.range 11).all (fun i => (List.range 11).all fun j => chkD (pairD ((i : Int) - 1, (j : Int) - 1))) = true := by decide +kernel
theorem chk_b : chkD (.tuple [.bool true, .int 1]) = true ∧ chkD (.tuple [.str "odd", .int 1]) = true ∧ chkD (.tuple [.int 0, .str "0"]) = true ∧ chkD (.tuple [.int 0, .str "odd"]) = true := by decide +kernel
theorem shown_b : (PyData.tuple [.bool true, .int 1]).shown ≠ (PyData.tuple [.str "odd", .int 1]).shown := by decide +kernel
theorem shown_e : (PyData.tuple [.int 0, .str "0"]).shown ≠ (PyData.tuple [.int 0, .str "odd"]).shown := by decide +kernel
end K76

/-! The walk, 21: the law's look at entries. -/
namespace K76
open PySem PySem.Spec PyProof.Rows L2
section
variable {P : Program} {w : World} {K : PySem.W.Frag} {mg : Str → Option Value} {base : Heap}
/-! ### _law_entry -/
def spLEntry (P : Program) (w : World) (K : PySem.W.Frag) : Sp := fun vs H Q _ => ∃ (a d : Addr) (bk : Bk) (v : V) (s : Stt) (b t : Int) (f : Nat) (es : NE) (ss : List Stt), vs = [.ref a, .int b, .int f, .int t, v, .ref d] ∧ bk.Ok ∧ BookAt K H a bk ∧ (1 ≤ b ∧ b ≤ 300) ∧ Dp K H v (stD s) ∧ Good b s ∧ s.length = f ∧ (0 ≤ t ∧ t ≤ 300) ∧
  DN P w K H d es ∧ (∀ s, s ∈ es.map (fun e : Stt × Addr => e.1) ↔ s ∈ ss) ∧ ∀ H', Same H H' → Q (.bl (entryOk bk b t ss s)) H'
theorem sc_lentry : FnScope ["_law_book_here", "_law_blocks", "_law_files", "_law_total", "_law_state", "_law_states", "_law_sizes", "_law_number", "_law_many", "_law_later", "_law_size", "_law_hold"] ["_law_book_here", "_law_blocks", "_law_files", "_law_total", "_law_state", "_law_states"] (defScope (top 62)) := ⟨rfl, rfl, rfl, by decide +kernel, rfl, by decide +kernel, by decide +kernel⟩
theorem ok_lentry (T : Tx K mg) : FnG P w K mg base CX0 6 "_law_entry" ["_law_book_here", "_law_blocks", "_law_files", "_law_total", "_law_state", "_law_states"] (spLEntry P w K) := by
  obtain ⟨fd, F⟩ := T.f_l_entry
  refine FnG.of F T.g_l_entry (fun _ _ _ _ _ _ us hl => match us, hl with | [_, _, _, _, _, _], _ => rfl) (F.ok sc_lentry (fun vs H Q E h => ?_) (fun cdv A outer s H vs Q E hr h => ?_))
  · obtain ⟨a, d, bk, v, st, b, t, f, es, ss, rfl, _⟩ := h
    rfl
  · obtain ⟨a, d, bk, v, st, b, t, f, es, ss, rfl, ok, B, ⟨b1, b2⟩, hd, g, gl, ⟨t0, t2⟩, dn, hmem, q⟩ := h
    have nd := sc_lentry.nd
    have gs := g.sizes
    have gh := g.hold
    have l8 := g.l8
    refine ⟨_, pss_cons (ps_set (i := 6) nd rfl (.inl rfl) (pe_callB (cr_sum rfl) rfl T.m_sum boot_sum' (pa_cons (pe_lc (own := [("_law_size", 10), ("_law_hold", 11)]) (g := gTup K 2 (gCons (gName 10) (gCons (gName 11) gNil))) (tt := tYes) rfl nd (pi_tup (pv 4))
        (blkOk_by (N := ["_law_book_here", "_law_blocks", "_law_files", "_law_total", "_law_state", "_law_states", "_law_sizes", "_law_number", "_law_many", "_law_later", "_law_size", "_law_hold"]) (sc := defScope (top 62)) (by decide +kernel))
        (fun _ _ _ _ _ => pg_tup rfl (pgs_cons (pg_name (i := 10) nd rfl (.inl rfl)) (pgs_cons (pg_name (i := 11) nd rfl (.inl rfl)) pgs_nil))) (fun _ _ _ _ _ => pts_nil) (fun _ _ _ _ _ => pv 10)) pa_nil)))
      (pss_cons (ps_for PassesOwn.never rfl (pi_range1 rfl T.m_range (pa_cons (pv 2) pa_nil)) (pg_name (i := 7) nd rfl (.inl rfl))
        (pss_one (ps_for PassesOwn.never rfl (pi_range2 rfl T.m_range (pa_cons pe_int (pa_cons (pe_op op_sub (pe_op op_add (pv 3) pe_int) (pv 6)) pa_nil))) (pg_name (i := 8) nd rfl (.inl rfl))
          (pss_cons (ps_set (i := 9) nd rfl (.inl rfl) (pe_g (ok_grown T) hr (pa_cons (pv 0) (pa_cons (pv 1) (pa_cons (pv 4) (pa_cons (pv 7) (pa_cons (pv 8) pa_nil)))))))
          (pss_one (ps_if (PW.pt (pw_or (pt_cmpR op_isN (pv 9) pe_non (nomark _)) (pw_or1 (pt_cmpR (op_notInNK P w K (hu65 hr)) (pv 9) (pv 5) rfl)))) (pss_one (ps_ret pe_bl)) pss_nil))))))
      (pss_one (ps_ret pe_bl))), ?_⟩
    dsimp only [tNext, tSeq, tIfS, tNot, tB, tCB, tCons, tRet, tOp, tAsg]
    refine lc_pairs (fun p => .int p.1) (fun R z => ⟨_, rfl, z⟩) hd (by omega) (fun p H2 R z => ⟨_, rfl, z⟩) (fun L hL => ?_)
    have e : st.map (fun p => V.int p.1) = (st.map (fun x : Int × Int => x.1)).map V.int := by rw [List.map_map]; rfl
    refine ⟨L, st.map (fun x : Int × Int => x.1), rfl, by rw [← e]; exact SqL.of upd_same, ?_⟩
    have s1 := same_upd (o := .lst (st.map fun p => V.int p.1)) hL
    generalize upd H L (.lst (st.map fun p => V.int p.1)) = H1 at s1 ⊢
    refine ⟨_, rfl, f, rfl, by omega, by omega, ?_⟩
    refine for_range (n := (f : Int).toNat) (fun i σ H' => ∃ (x7 x8 x9 x10 x11 : Option V), σ = [some (.ref a), some (.int b), some (.int f), some (.int t), some v, some (.ref d), some (.int (sizes st)), x7, x8, x9, x10, x11] ∧ Same H H' ∧ ∀ (n : Nat) (m : Int), n < i → 1 ≤ m → sizes st + m ≤ t → ∃ s', grownZ bk b st n m = some s' ∧ s' ∈ ss)
      ⟨_, _, _, _, _, rfl, s1, fun n m hn => absurd hn (Nat.not_lt_zero n)⟩ ?_ ?_
    · rintro i σ H2 hi ⟨x7, x8, x9, x10, x11, rfl, s2, hall⟩
      have hi' : i < f := by omega
      refine ⟨_, rfl, t, 1, rfl, rfl, _, rfl, t + 1, sizes st, rfl, rfl, 1, t + 1 - sizes st, rfl, ⟨by omega, by omega, by omega, by omega⟩, ?_⟩
      refine for_range (lo := 1) (n := (t + 1 - sizes st - 1).toNat) (fun j σ H' => ∃ (x8 x9 : Option V), σ = [some (.ref a), some (.int b), some (.int f), some (.int t), some v, some (.ref d), some (.int (sizes st)), some (.int (i : Nat)), x8, x9, x10, x11] ∧ Same H H' ∧ ∀ (m : Int), 1 ≤ m → m < 1 + (j : Nat) → ∃ s', grownZ bk b st i m = some s' ∧ s' ∈ ss)
        ⟨_, _, by rw [Int.zero_add]; rfl, s2, fun m h1 h2 => by omega⟩ ?_ ?_
      · rintro j σ H3 hj ⟨x8', x9', rfl, s3, hall2⟩
        refine ⟨_, rfl, _, rfl, _, rfl, _, rfl, _, rfl, a, bk, v, st, b, 1 + (j : Nat), i, rfl, ok, B.same s3, dp_same s3 _ _ hd, g, b1, b2, by omega, by omega, by omega, fun H4 u s4 o4 => ?_⟩
        have s34 := s3.trans s4
        -- a growth that fails
        have bad : (¬ ∃ s', grownZ bk b st i (1 + (j : Nat)) = some s' ∧ s' ∈ ss) → Q (.bl false) H4 := fun z => by
          have e : entryOk bk b t ss st = false := by
            cases c : entryOk bk b t ss st with
            | false => rfl
            | true => exact absurd (entryOk_iff.mp c i (1 + (j : Nat)) (by omega) (by omega) (by omega)) z
          have := q H4 s34
          rw [e] at this
          exact this
        refine ⟨_, rfl, rfl, _, rfl, ?_⟩
        cases hg : grownZ bk b st i (1 + (j : Nat)) with
        | none =>
          rw [hg] at o4
          cases (show u = .non from o4)
          exact iteT (iteT (bad (by rw [hg]; rintro ⟨s', e, _⟩; cases e)))
        | some s' =>
          rw [hg] at o4
          have hd4 : Dp K H4 u (stD s') := o4
          obtain ⟨ad, _, rfl, _, _⟩ := dp_st hd4
          refine iteF ⟨_, rfl, _, rfl, s', d, es, hd4, rfl, dn.same s34, _, rfl, ?_⟩
          by_cases cin : s' ∈ es.map (·.1)
          · rw [decide_eq_true cin]
            refine iteF ⟨_, _, rfl, s34, fun m h1 h2 => ?_⟩
            by_cases hm : m < 1 + (j : Nat)
            · exact hall2 m h1 hm
            · have : m = 1 + (j : Nat) := by omega
              subst this
              exact ⟨s', hg, (hmem s').mp cin⟩
          · rw [decide_eq_false cin]
            refine iteT (bad ?_)
            rw [hg]
            rintro ⟨s2, e2, m2⟩
            cases e2
            exact cin ((hmem _).mpr m2)
      · rintro σ H3 ⟨x8', x9', rfl, s3, hall2⟩
        refine ⟨_, _, _, _, _, rfl, s3, fun n m hn h1 h2 => ?_⟩
        by_cases hni : n < i
        · exact hall n m hni h1 h2
        · have : n = i := by omega
          subst this
          exact hall2 m h1 (by omega)
    · rintro σ H2 ⟨x7, x8, x9, x10, x11, rfl, s2, hall⟩
      have e : entryOk bk b t ss st = true := entryOk_iff.mpr fun n m hn h1 h2 => hall n m (by omega) h1 h2
      have := q H2 s2
      rw [e] at this
      exact this
/-! ### _law_count -/
def cntD (d : PyData) : PyData := if (isaInt d && !isaBool d) = true then d else .str "odd"
def spCount (K : PySem.W.Frag) : Sp := fun vs H Q _ => ∃ (v : V) (d : PyData), vs = [v] ∧ Dp K H v d ∧ ∀ u, Dp K H u (cntD d) → Q u H
theorem sc_count : FnScope ["_law_one"] ["_law_one"] (defScope (top 64)) := ⟨rfl, rfl, rfl, by decide +kernel, rfl, by decide +kernel, by decide +kernel⟩
theorem ok_count (T : Tx K mg) : FnG P w K mg base CX0 1 "_law_count" ["_law_one"] (spCount K) := by
  obtain ⟨fd, F⟩ := T.f_l_count
  refine FnG.of F T.g_l_count (fun _ _ _ _ _ _ us hl => match us, hl with | [_], _ => rfl) (F.ok sc_count (fun vs H Q E h => ?_) (fun cdv A outer s H vs Q E hr h => ?_))
  · obtain ⟨v, d, rfl, _⟩ := h
    rfl
  · obtain ⟨v, d, rfl, hd, q⟩ := h
    refine ⟨_, pss_one (ps_ret (pe_ifExp (PW.pt (pw_and (pt_val (pe_isT kit_int T.m_isinstance T.m_int boot_int' (pv 0))) (pw_and1 (pt_not (pt_val (pe_isT kit_bool T.m_isinstance T.m_bool boot_bool' (pv 0))))))) (pv 0) pe_str)), ?_⟩
    unfold cntD at q
    refine ⟨_, rfl, v, d, rfl, hd, _, rfl, ?_⟩
    cases c1 : isaInt d with
    | false =>
      rw [c1] at q
      exact iteF (iteF (q _ (by rw [Bool.false_and, if_neg (by decide)]; exact .str _)))
    | true =>
      rw [c1, Bool.true_and] at q
      refine iteT ⟨_, rfl, v, d, rfl, hd, _, rfl, ?_⟩
      cases c2 : isaBool d with
      | false =>
        rw [c2] at q
        exact iteT ⟨_, rfl, q _ (by rw [if_pos (by decide)]; exact hd)⟩
      | true =>
        rw [c2] at q
        exact iteF (q _ (by rw [if_neg (by decide)]; exact .str _))
/-! ### _law_is_entry -/
/-- a part of a thing that the law may look at -/
inductive PairOk : PyData → Prop
  | no (d : PyData) (h : isaTup d = false) : PairOk d
  | len (ds : List PyData) (h : ds.length ≠ 2) : PairOk (.tuple ds)
  | iij (i j : Int) (hi : -1 ≤ i ∧ i ≤ 9) (hj : -1 ≤ j ∧ j ≤ 9) : PairOk (pairD (i, j))
  | tru : PairOk (.tuple [.bool true, .int 1])
  | txt : PairOk (.tuple [.int 0, .str "0"])
/-- a thing that the law may look at -/
structure EntD (d : PyData) : Prop where
  sh : SeqAt.shaped d = true
  tup : ∀ ds, d = .tuple ds → ds.length ≤ 8 ∧ ∀ e ∈ ds, PairOk e
theorem chk_ints {i j : Int} (hi : -1 ≤ i ∧ i ≤ 9) (hj : -1 ≤ j ∧ j ≤ 9) : chkD (pairD (i, j)) = true := by
  have h := chk_all
  rw [List.all_eq_true] at h
  have h1 := h (i + 1).toNat (List.mem_range.mpr (by omega))
  rw [List.all_eq_true] at h1
  have h2 := h1 (j + 1).toNat (List.mem_range.mpr (by omega))
  have e1 : (((i + 1).toNat : Nat) : Int) - 1 = i := by omega
  have e2 : (((j + 1).toNat : Nat) : Int) - 1 = j := by omega
  rw [e1, e2] at h2
  exact h2
theorem chkD_ok {d : PyData} (h : chkD d = true) : d.showable = true ∧ d.hasDict = false ∧ d.depth ≤ 60 ∧ d.shown.length ≤ sizeLine := by
  unfold chkD at h
  simp only [Bool.and_eq_true, Bool.not_eq_true', decide_eq_true_eq] at h
  have hs := sizeLine_eq
  exact ⟨h.1, h.2.1, h.2.2.1, by omega⟩
theorem eqv_nil (ds : List PyData) : PyData.eqv (.tuple ds) (.tuple []) = decide (ds = []) := by
  cases ds <;> simp [PyData.eqv, PyData.eqvAll]
theorem nil_shaped : SeqAt.shaped (.tuple []) = true := by decide +kernel
def spIsEntry (K : PySem.W.Frag) : Sp := fun vs H Q _ => ∃ (v : V) (d : PyData) (b : Int), vs = [v, .int b] ∧ Dp K H v d ∧ EntD d ∧ ∀ H', Same H H' → Q (.bl (isSt b d)) H'
theorem sc_is_entry : FnScope ["_law_thing", "_law_blocks", "_law_pair"] ["_law_thing", "_law_blocks"] (defScope (top 63)) := ⟨rfl, rfl, rfl, by decide +kernel, rfl, by decide +kernel, by decide +kernel⟩
theorem ok_is_entry (T : Tx K mg) : FnGG P w K mg base CX0 2 "_law_is_entry" ["_law_thing", "_law_blocks"] (spIsEntry K) := by
  obtain ⟨fd, F⟩ := T.f_l_is_entry
  refine FnGG.of F T.g_l_is_entry (fun _ _ _ _ _ _ us hl => match us, hl with | [_, _], _ => rfl) (okG F sc_is_entry (fun vs H Q E h => ?_) (fun cdv A outer s H vs Q E hga hr h => ?_))
  · obtain ⟨v, d, b, rfl, _⟩ := h
    rfl
  · obtain ⟨v, d, b, rfl, hd, he, q⟩ := h
    have nd := sc_is_entry.nd
    have hsl := sizeLine_eq
    refine ⟨_, pss_cons (ps_if (PW.pt (pw_or (pt_not (pt_val (pe_isT kit_tup T.m_isinstance T.m_tuple boot_tuple' (pv 0)))) (pw_or1 (pt_cmpR (op_eqD hr.units) (pv 0) (pe_tup pa_nil) (nomark _))))) (pss_one (ps_ret pe_bl)) pss_nil)
      (pss_cons (ps_for PassesOwn.never rfl (pi_tup (pv 0)) (pg_name (i := 2) nd rfl (.inl rfl))
        (pss_cons (ps_if (PW.pt (pw_or (pt_not (pt_val (pe_isT kit_tup T.m_isinstance T.m_tuple boot_tuple' (pv 2)))) (pw_or1 (pt_cmpR op_ne (pe_callB call_len rfl T.m_len boot_len' (pa_cons (pv 2) pa_nil)) pe_int (nomark _))))) (pss_one (ps_ret pe_bl)) pss_nil)
        (pss_cons (ps_if (pt_cmpR op_ne (pe_callB (call_reprT hga (hu65 hr)) rfl T.m_repr boot_repr' (pa_cons (pv 2) pa_nil))
            (pe_callB (call_reprT hga (hu65 hr)) rfl T.m_repr boot_repr' (pa_cons (pe_tup (pa_cons (pe_g (ok_count T) hr (pa_cons (pe_ix ix_tup (pv 2) pe_int (fun _ _ => rfl)) pa_nil)) (pa_cons (pe_g (ok_count T) hr (pa_cons (pe_ix ix_tup (pv 2) pe_int (fun _ _ => rfl)) pa_nil)) pa_nil))) pa_nil)) (nomark _)) (pss_one (ps_ret pe_bl)) pss_nil)
        (pss_one (ps_if (pt_not (pt_chain op_le op_le pe_int (pe_ix ix_tup (pv 2) pe_int (fun _ _ => rfl)) (pe_ix ix_tup (pv 2) pe_int (fun _ _ => rfl)))) (pss_one (ps_ret pe_bl)) pss_nil)))))
      (pss_one (ps_ret (pe_cmpR op_le (pe_callB (cr_sum rfl) rfl T.m_sum boot_sum' (pa_cons (pe_lc (own := [("_law_pair", 2)]) (g := gName 2) (tt := tYes) rfl nd (pi_tup (pv 0)) (blkOk_by (N := ["_law_thing", "_law_blocks", "_law_pair"]) (sc := defScope (top 63)) (by decide +kernel))
        (fun _ _ _ _ _ => pg_name (i := 2) nd rfl (.inl rfl)) (fun _ _ _ _ _ => pts_nil) (fun _ _ _ _ _ => pe_callTy call_int1 rfl T.m_int boot_int' (pa_cons (pe_ix (ix_tupK K) (pv 2) pe_int (fun _ _ => rfl)) pa_nil))) pa_nil)) (pv 1) (nomark _))))), ?_⟩
    refine ⟨_, rfl, v, d, rfl, hd, _, rfl, ?_⟩
    by_cases ht : isaTup d = true
    case neg =>
      have e : isaTup d = false := by simpa using ht
      have e2 : isSt b d = false := by
        cases d <;> first | rfl | (cases e; done)
      rw [e]
      rw [e2] at q
      exact iteT (iteT (q H (Same.refl H)))
    cases d with
    | tuple ds =>
      obtain ⟨l8, hp⟩ := he.tup ds rfl
      have hd0 := hd
      cases hd with
      | tup hx hds =>
        rename_i a xs
        have hlen := dps_len hds
        refine iteF ⟨_, rfl, by show 0 ≤ sizeLine; omega, fun p0 hp0 => ?_⟩
        have s1 := same_upd (o := .tup []) hp0
        refine ⟨_, _, dp_same s1 _ _ hd0, .tup (SqT.of upd_same) .nil, he.sh, nil_shaped, _, rfl, ?_⟩
        rw [eqv_nil]
        generalize upd H p0 (.tup []) = H1 at s1 ⊢
        have qq : isSt b (.tuple ds) = ((decide (1 ≤ ds.length) && decide (ds.length ≤ 8)) && (ds.all fileSt && decide (holds (ds.map unP) ≤ b))) := rfl
        by_cases c0 : ds = []
        · rw [decide_eq_true c0]
          subst c0
          exact iteT (q H1 s1)
        rw [decide_eq_false c0]
        have l1 : 1 ≤ ds.length := by
          cases ds with
          | nil => exact absurd rfl c0
          | cons _ _ => simp
        rw [qq, decide_eq_true l1, decide_eq_true l8] at q
        refine iteF ⟨_, rfl, a, rfl, ⟨xs, same_tup s1 hx⟩, ?_⟩
        refine for_tup (K := K) (a := a) (xs := xs) (fun n σ H' => ∃ x2, σ = [some (.ref a), some (.int b), x2] ∧ Same H H' ∧ ∀ j e, j < n → ds[j]? = some e → fileSt e = true) ⟨_, rfl, s1, fun j e hj => absurd hj (Nat.not_lt_zero j)⟩ ?_ ?_ ?_
        · rintro n σ H' _ ⟨x2, rfl, s2, _⟩
          exact same_tup s2 hx
        · rintro n x σ H2 hxn ⟨x2, rfl, s2, hall⟩
          obtain ⟨e, he1, he2⟩ := dps_get hds hxn
          have hme := List.mem_of_getElem? he1
          have hxe := dp_same s2 _ _ he2
          -- a part that is no file's state
          have bad : fileSt e = false → ∀ H', Same H H' → Q (.bl false) H' := fun z H' s' => by
            have : ds.all fileSt = false := by
              cases c : ds.all fileSt with
              | false => rfl
              | true =>
                rw [List.all_eq_true] at c
                rw [c e hme] at z
                cases z
            rw [this] at q
            exact q H' s'
          refine ⟨_, rfl, x, e, rfl, hxe, _, rfl, ?_⟩
          cases hp e hme with
          | no _ h0 =>
            rw [h0]
            have z : fileSt e = false := by
              cases e <;> first | rfl | (cases h0; done)
            exact iteT (iteT (bad z H2 s2))
          | len es hl =>
            have z : fileSt (.tuple es) = false := by
              match es, hl with
              | [], _ => rfl
              | [_], _ => rfl
              | [_, _], h => exact absurd rfl h
              | _ :: _ :: _ :: _, _ => rfl
            cases hxe with
            | tup hc hcs =>
              rename_i c ys
              have hcl := dps_len hcs
              refine iteF ⟨_, rfl, _, es.length, rfl, .inr ⟨_, hc, hcl.symm⟩, rfl, _, rfl, ?_⟩
              have : decide (V.int (es.length : Int) = V.int 2) = false := decide_eq_false fun z => by
                injection z with z
                omega
              rw [this]
              exact iteT (bad z H2 s2)
          | iij i j hi hj =>
            obtain ⟨c, rfl, hc⟩ := dp_pair' hxe
            obtain ⟨k1, k2, k3, k4⟩ := chkD_ok (chk_ints hi hj)
            refine iteF ⟨_, rfl, _, 2, rfl, .inr ⟨_, hc, rfl⟩, rfl, _, rfl, iteF ?_⟩
            refine ⟨_, rfl, _, [.int i, .int j], rfl, hxe, k1, k2, k3, k4, ?_⟩
            refine ⟨_, rfl, c, _, 0, _, rfl, rfl, hc, rfl, _, .int i, rfl, .int i, fun u1 hu1 => ?_⟩
            refine ⟨_, rfl, c, _, 1, _, rfl, rfl, hc, rfl, _, .int j, rfl, .int j, fun u2 hu2 => ⟨by show 2 ≤ sizeLine; decide, fun p3 hp3 => ?_⟩⟩
            have hu1 : Dp K H2 u1 (.int i) := hu1
            have hu2 : Dp K H2 u2 (.int j) := hu2
            cases hu1
            cases hu2
            have s3 := same_upd (o := .tup [.int i, .int j]) hp3
            refine ⟨_, [.int i, .int j], rfl, .tup (SqT.of upd_same) (.cons (.int i) (.cons (.int j) .nil)), k1, k2, k3, k4, rfl, _, rfl, ?_⟩
            have er : decide (V.str (PyData.tuple [.int i, .int j]).shown = V.str (PyData.tuple [.int i, .int j]).shown) = true := decide_eq_true rfl
            rw [er]
            have hc3 := same_tup s3 hc
            have s23 := s2.trans s3
            generalize upd H2 p3 (.tup [.int i, .int j]) = H3 at s3 s23 hc3 ⊢
            refine iteF ⟨_, rfl, c, _, 0, _, rfl, rfl, hc3, rfl, 0, i, rfl, rfl, _, rfl, ?_⟩
            have ef : fileSt (pairD (i, j)) = decide (0 ≤ i ∧ i ≤ j ∧ j ≤ 300) := fileSt_pair (i, j)
            by_cases c1 : 0 ≤ i
            · rw [decide_eq_true c1]
              refine iteT ⟨_, rfl, c, _, 1, _, rfl, rfl, hc3, rfl, i, j, rfl, rfl, _, rfl, ?_⟩
              by_cases c2 : i ≤ j
              · rw [decide_eq_true c2]
                refine iteF ⟨_, rfl, s23, fun m e hm hem => ?_⟩
                by_cases hmn : m < n
                · exact hall m e hmn hem
                · have : m = n := by omega
                  subst this
                  rw [he1] at hem
                  cases hem
                  rw [ef]
                  exact decide_eq_true ⟨c1, c2, by omega⟩
              · rw [decide_eq_false c2]
                exact iteT (bad (by rw [ef]; exact decide_eq_false fun z => c2 z.2.1) H3 s23)
            · rw [decide_eq_false c1]
              refine iteF ⟨_, rfl, iteT (bad (by rw [ef]; exact decide_eq_false fun z => c1 z.1) H3 s23)⟩
          | tru =>
            have z : fileSt (.tuple [.bool true, .int 1]) = false := rfl
            obtain ⟨k1, k2, k3, k4⟩ := chkD_ok chk_b.1
            obtain ⟨m1, m2, m3, m4⟩ := chkD_ok chk_b.2.1
            have hxe0 := hxe
            cases hxe with
            | tup hc hcs =>
              cases hcs with
              | cons e1 t =>
                cases t with
                | cons e2 t2 =>
                  cases t2
                  cases e1
                  cases e2
                  rename_i c
                  refine iteF ⟨_, rfl, _, 2, rfl, .inr ⟨_, hc, rfl⟩, rfl, _, rfl, iteF ?_⟩
                  refine ⟨_, rfl, _, _, rfl, hxe0, k1, k2, k3, k4, ?_⟩
                  refine ⟨_, rfl, c, _, 0, _, rfl, rfl, hc, rfl, _, .bool true, rfl, .bl true, fun u1 hu1 => ?_⟩
                  refine ⟨_, rfl, c, _, 1, _, rfl, rfl, hc, rfl, _, .int 1, rfl, .int 1, fun u2 hu2 => ⟨by show 2 ≤ sizeLine; decide, fun p3 hp3 => ?_⟩⟩
                  have hu1 : Dp K H2 u1 (.str "odd") := hu1
                  have hu2 : Dp K H2 u2 (.int 1) := hu2
                  cases hu1
                  cases hu2
                  have s3 := same_upd (o := .tup [.str "odd", .int 1]) hp3
                  refine ⟨_, [.str "odd", .int 1], rfl, .tup (SqT.of upd_same) (.cons (.str _) (.cons (.int 1) .nil)), m1, m2, m3, m4, rfl, _, rfl, ?_⟩
                  have er : decide (V.str (PyData.tuple [.bool true, .int 1]).shown = V.str (PyData.tuple [.str "odd", .int 1]).shown) = false := decide_eq_false fun z => by
                    injection z with z
                    exact shown_b z
                  rw [er]
                  exact iteT (bad z _ (s2.trans s3))
          | txt =>
            have z : fileSt (.tuple [.int 0, .str "0"]) = false := rfl
            obtain ⟨k1, k2, k3, k4⟩ := chkD_ok chk_b.2.2.1
            obtain ⟨m1, m2, m3, m4⟩ := chkD_ok chk_b.2.2.2
            have hxe0 := hxe
            cases hxe with
            | tup hc hcs =>
              cases hcs with
              | cons e1 t =>
                cases t with
                | cons e2 t2 =>
                  cases t2
                  cases e1
                  cases e2
                  rename_i c
                  refine iteF ⟨_, rfl, _, 2, rfl, .inr ⟨_, hc, rfl⟩, rfl, _, rfl, iteF ?_⟩
                  refine ⟨_, rfl, _, _, rfl, hxe0, k1, k2, k3, k4, ?_⟩
                  refine ⟨_, rfl, c, _, 0, _, rfl, rfl, hc, rfl, _, .int 0, rfl, .int 0, fun u1 hu1 => ?_⟩
                  refine ⟨_, rfl, c, _, 1, _, rfl, rfl, hc, rfl, _, .str "0", rfl, .str "0", fun u2 hu2 => ⟨by show 2 ≤ sizeLine; decide, fun p3 hp3 => ?_⟩⟩
                  have hu1 : Dp K H2 u1 (.int 0) := hu1
                  have hu2 : Dp K H2 u2 (.str "odd") := hu2
                  cases hu1
                  cases hu2
                  have s3 := same_upd (o := .tup [.int 0, .str "odd"]) hp3
                  refine ⟨_, [.int 0, .str "odd"], rfl, .tup (SqT.of upd_same) (.cons (.int 0) (.cons (.str _) .nil)), m1, m2, m3, m4, rfl, _, rfl, ?_⟩
                  have er : decide (V.str (PyData.tuple [.int 0, .str "0"]).shown = V.str (PyData.tuple [.int 0, .str "odd"]).shown) = false := decide_eq_false fun z => by
                    injection z with z
                    exact shown_e z
                  rw [er]
                  exact iteT (bad z _ (s2.trans s3))
        · rintro σ H2 ⟨x2, rfl, s2, hall⟩
          have ca : ds.all fileSt = true := by
            rw [List.all_eq_true]
            intro e he
            obtain ⟨j, hj⟩ := List.mem_iff_getElem?.mp he
            exact hall j e (by rw [hlen]; exact (List.getElem?_eq_some_iff.mp hj).1) hj
          rw [ca] at q
          have es := all_file ca
          have hx2 := same_tup s2 hx
          have hds2 := dps_same s2 _ _ hds
          rw [es] at hds2
          dsimp only [tNext, tSeq, tIfS, tNot, tB, tCB, tCons, tRet, tOp]
          refine ⟨_, rfl, a, rfl, ⟨xs, hx2⟩, fun D hD => ?_⟩
          have sm : ∀ o, Same H2 (upd H2 D o) := fun o => same_upd hD
          refine lc_tup (K := K) (a := a) (xs := xs) (fun n H' => H' = upd H2 D (.lst ((((ds.map unP).take n).map (fun p : Int × Int => p.2)).map V.int))) rfl ?_ ?_ ?_
          · rintro n H' _ rfl
            exact same_tup (sm _) hx2
          · rintro n x H' hxn rfl
            obtain ⟨e, he1, he2⟩ := dps_get hds2 hxn
            rw [List.getElem?_map] at he1
            cases hp2 : (ds.map unP)[n]? with
            | none => rw [hp2] at he1; cases he1
            | some p =>
              rw [hp2] at he1
              cases he1
              obtain ⟨c, rfl, hc⟩ := dp_pair' he2
              have hi2 := (List.getElem?_eq_some_iff.mp hp2).1
              have ep := (List.getElem?_eq_some_iff.mp hp2).2
              refine ⟨rfl, _, rfl, c, _, 1, _, rfl, rfl, same_tup (sm _) hc, rfl, .inl ⟨p.2, rfl, ?_⟩⟩
              refine ⟨_, upd_same, ?_, ?_⟩
              · rw [List.length_map, List.length_map, List.length_take]
                rw [List.length_map] at hi2
                omega
              · rw [upd_upd, List.take_succ_eq_append_getElem hi2, ep, List.map_append, List.map_append]
                rfl
          · rintro H' rfl
            have hl2 : xs.length = (ds.map unP).length := by rw [List.length_map]; exact hlen
            rw [hl2, List.take_length]
            refine ⟨D, (ds.map unP).map (fun p : Int × Int => p.2), rfl, SqL.of upd_same, _, rfl, _, b, rfl, rfl, ?_⟩
            exact q _ (s2.trans (sm _))
    | _ => cases ht
end
end K76

/-! The walk, 22: _law_checked. -/
namespace K76
section
open PySem PySem.W PySem.Spec PySem.Calls PyProof.Rows
variable {prog : Program} {w : World} {A : Around} {E : Value → Shared → Prop} {s : Shared} {K : Frag} {x D : Addr} {ox od : Obj}
theorem kin_classED {Q : Option Value → Shared → Prop} (hga : findIn K (.ref D) "__getattribute__" = some (some (.builtin "BaseException.__getattribute__"))) (hgt : findIn K (.ref D) "__getattr__" = some none) (hsub : subIn K (.ref D) (.type "BaseException") = some true)
    (hdct : hasDictIn K D = true) (ha : findIn K (.ref D) "__class__" = some (some (.builtin "object.__class__")))
    (hn : specialIn K (.builtin "object.__class__") "__get__" = some (some (.builtin "getset_descriptor.__get__"))) (htk : takesIn K (.builtin "object.__class__") = some true) (hm : mroIn K D (.type "object") = some true)
    (X : K.In s.heap) (I : InstAt s.heap x ox D (some od)) (h : Q (some (.ref D)) { s with toks := s.toks + 1 }) : wpAny (model prog w) A (getAttr? (.ref x) "__class__") Q E s := by
  have hf : findObj K D (some od) "__class__" = some (.bind (.builtin "getset_descriptor.__get__") (.builtin "object.__class__")) := findObj_data (by obtain ⟨cd, hc, _⟩ := any_some hdct; show (clsIn K D).isSome = true; rw [hc]; rfl) ha hn htk
  obtain ⟨hp, g, d, t, os⟩ := s
  have L0 := I.type (M := model prog w)
  have L1 := looks_findIn (M := model prog w) X hga
  have L2 := looks_findIn (M := model prog w) X hgt
  have L3 := looks_find (M := model prog w) X I hf
  have sub : Looks (model prog w) hp (isInstance (.ref x) (.type "BaseException")) true := L0.andThen (looks_subIn X hsub)
  have hx0 : (false && onTheHeap (Value.builtin "BaseException.__getattribute__")) = false := rfl
  have hx2 : (Value.builtin "BaseException.__getattribute__" == Value.builtin "object.__getattribute__") = false := by decide +kernel
  have hx1 : (onTheHeap (Value.ref D) && Value.builtin "BaseException.__getattribute__" == Value.builtin "object.__getattribute__") = false := by rw [hx2]; rfl
  unfold getAttr? getAttrBy? getAttrBy
  refine wpAny_bind (wpAny_mkText (wpAny_bind (wpAny_attempt (wpAny_holding (wpAny_bind (L0.at (wpAny_bind (L1.at ?_))))))))
  show wpAny _ _ (if (onTheHeap (Value.ref D) && Value.builtin "BaseException.__getattribute__" == Value.builtin "object.__getattribute__") = true then _ else _) _ _ _
  rw [hx1, if_neg Bool.false_ne_true]
  unfold getAttrByItsOwn hookBefore
  refine wpAny_bind ?_
  rw [if_pos (show onTheHeap (Value.ref D) = true from rfl)]
  refine L2.at ?_
  refine wpAny_bind (wpAny_attempt (wpAny_holding ?_))
  unfold callGetattribute
  rw [hx0, if_neg Bool.false_ne_true]
  unfold boundAndCalled
  rw [PySem.F.excAttr_ValueError.ga.bind (.ref x)]
  refine wpAny_bind (wpAny_pure ?_)
  show wpAny _ _ (call (.builtin "BaseException.__getattribute__") [.ref x, .str "__class__" t]) _ _ _
  refine wpAny_call (codeAny_call_builtin PySem.F.excAttr_ValueError.ga.plain PySem.F.entry_bexc_ga ?_)
  refine @check_slot (model prog w) _ _ ⟨hp, g, d, t + 1, os⟩ "BaseException.__getattribute__" "BaseException" "__getattribute__" (.ref x) [.str "__class__" t] [] _ (by decide +kernel) (by decide +kernel) sub (PySem.F.args_bexc_ga (.ref x) (.str "__class__" t)) ?_
  unfold Builtin.«object.__getattribute__»
  refine wpAny_bind (wpAny_of_eq (a := ((Value.ref x : Value), [Value.str "__class__" t])) (by first | rfl | (simp only [slotArgs]; rfl)) ?_)
  refine wpAny_bind (wpAny_pure (wpAny_bind (L0.at (wpAny_bind (L3.at ?_)))))
  show wpAny _ _ (holding [Value.builtin "object.__class__"] (call (.builtin "getset_descriptor.__get__") [.builtin "object.__class__", .ref x, .ref D]) >>= ret) _ _ _
  refine wpAny_bind (wpAny_holding (wpAny_call (class_get (s := ⟨hp, g, d, t + 1, os⟩) (ox := ox) (od := some od) X I hm ?_)))
  refine wpAny_pure ?_
  show wpAny _ _ (handedOut (.ref D)) _ _ _
  rw [handedOut_of (v := .ref D) rfl]
  first
    | exact wpAny_pure (wpAny_pure h)
    | exact wpAny_pure h
    | exact wpAny_pure (wpAny_bind (wpAny_pure (wpAny_pure h)))
theorem kitx_excD (hga : findIn K (.ref D) "__getattribute__" = some (some (.builtin "BaseException.__getattribute__"))) (hgt : findIn K (.ref D) "__getattr__" = some none) (hsub : subIn K (.ref D) (.type "BaseException") = some true) (hdct : hasDictIn K D = true) (ha : findIn K (.ref D) "__class__" = some (some (.builtin "object.__class__")))
    (hn : specialIn K (.builtin "object.__class__") "__get__" = some (some (.builtin "getset_descriptor.__get__"))) (htk : takesIn K (.builtin "object.__class__") = some true) (hm : mroIn K D (.type "object") = some true) :
    KitX K (.ref x) (.ref D) (fun h => InstAt h x ox D (some od)) where
  ty := fun _ _ _ I => I.type
  it := fun _ _ X _ => by
    obtain ⟨cdD, hcD, _⟩ := any_some hdct
    unfold clsIn at hcD
    split at hcD
    · rename_i c' d' cd' sl' ho
      intro A' Q' E' s' k q
      unfold isType loadHead
      exact wpAny_bind (wpAny_loadPart (k _ _ (X _ _ ho)) (wpAny_pure q))
    · cases hcD
  ne := fun h tp dd its n sl X htp => by
    obtain ⟨cdD, hcD, _⟩ := any_some hdct
    refine Bool.eq_false_iff.mpr fun q => ?_
    have e : D = tp := Value.ref.inj (beq_iff_eq.mp q)
    subst e
    unfold clsIn at hcD
    split at hcD
    · rename_i c' d' cd' sl' ho
      have z := (X _ _ ho).symm.trans htp
      cases z
    · cases hcD
  ca := fun X I k => kin_classED hga hgt hsub hdct ha hn htk hm X I k
end
open PySem PySem.Spec PyProof.Rows L2
def tCallNS (n m : Nat) (sp : Sp) (gV : List V → List V → List V) (E : L2.St → XK) (t tk : TA) : TE := fun σ H Q => t σ H fun vs H1 => tk σ H1 fun zs H2 => vs.length = n ∧ zs.length = m ∧ sp (gV vs zs) H2 Q (E σ)
section
variable {X : Cx} {CX : CXT} {k n : Nat} {f : Addr} {fd : FuncData} {ps ks : List Str} {sp : Sp} {E : L2.St → XK} {x : Str} {p pos : Pos} {e : Expr} {es : List Expr} {kws : List Keyword} {t tk : TA} {g : List Value → List Value → List Value} {gV : List V → List V → List V}
theorem run_fnNS {pins : List (Addr × Obj)} {σ : L2.St} {H : Hp} {s : Shared} {Q : VK} {us ws : List Value} {vs zs : List V} (F : FnOk X.prog X.w X.K X.mg X.base CX k f fd ps sp) (hr : Room k X.A) (hb : KBn X.K fd ps n ks g gV) (hx : PassesAt CX X σ (E σ))
    (I : Inv X pins σ H s) (r : Vals vs us) (rz : Vals zs ws) (l1 : vs.length = n) (l2 : zs.length = ks.length) (h : sp (gV vs zs) H Q (E σ)) : wpAny (model X.prog X.w) X.A (call (.ref f) us (ks.zip ws)) (EP X pins σ Q) X.xe s := by
  have r2 := hb.rel r rz
  refine wpAny_call (codeAny_mono (F.run X.A X.stack s H ⟨us, ks.zip ws⟩ (g us ws) (gV vs zs) Q (E σ) hr I.env0 (hb.to s us ws I.kIn (r.length.symm.trans l1) (rz.length.symm.trans l2)) r2 h) fun r s' hq => ?_)
  cases r with
  | error e => exact hx pins H s e s' I hq
  | ok fl =>
    cases fl with
    | ret u => exact I.after hq
    | next => exact False.elim hq
    | brk => exact False.elim hq
    | cont => exact False.elim hq
/-- f(e, .., k = v, ..) -/
theorem pe_callNS (F : FnOk X.prog X.w X.K X.mg X.base CX k f fd ps sp) (hr : Room k X.A) (hg : Gl X x) (hm : X.mg x = some (.ref f)) (hk : PySem.W.keepIn X.K (.ref f) = true) (hb : KBn X.K fd ps n ks g gV) (hx : ∀ σ, PassesAt CX X σ (E σ))
    (ha : PA X (e :: es) t) (hkw : PK X kws tk) (hall : (backToKw pos (keywordEach kws X.env)).all (·.1.isSome) = true := by rfl) (hks : (backToKw pos (keywordEach kws X.env)).filterMap (·.1) = ks := by rfl)
    (hdb : (x == ("__debug__" : Str)) = false := by decide) (he : starEach (e :: es) X.env = (false, eval e X.env) :: starEach es X.env := by rfl)
    (hpl : ((backTo pos (starEach (e :: es) X.env)).any (·.1) || (backToKw pos (keywordEach kws X.env)).any (·.1.isNone)) = false := by rfl) :
    PE X (.Call (.Name x p) (e :: es) kws pos) (tCallNS n ks.length sp gV E t tk) := by
  refine ⟨fun pins s σ H Q I h => ?_⟩
  refine wpAny_Call_Name_kw (ld_glob I hg hm ?_ hdb)
  refine PySem.W.callWith_KW (h₀ := X.base) I.ok.mod.kin hk hall (thn (ha.run pos pins s σ H _ I h) fun us s1 ⟨vs, H1, I1, r, q⟩ => ?_) hpl he
  refine thn (hkw.run pos pins s1 σ H1 _ I1 q) fun ws s2 ⟨zs, H2, I2, rz, l1, l2, q2⟩ => ⟨I2.kIn, ?_⟩
  rw [hks]
  exact run_fnNS F hr hb (hx σ) I2 r rz l1 l2 q2
end
/-- isinstance(e, C), e the caught error with its dict -/
def rIsED (K : PySem.W.Frag) (D a : Addr) (cls : Value) (d : Option Addr) : List V → Hp → VK → Prop := fun xs H Q => ∃ (b : Bool) (dd : Addr) (fs : List (Str × V)), xs = [.ref a, .ref D] ∧ cls = .ref D ∧ d = some dd ∧ H dd = some (.xd fs) ∧ PySem.W.kitOne K (.ref D) (.ref D) = some b ∧ Q (.bl b) H
theorem call_isED {X : Cx} {a D : Addr} {oe : Obj} {cls : Value} {d : Option Addr} {pn : List (Addr × Obj)} (C : ExcC X.K D) (hz : Zc cls d oe) (hf : ∃ vs, oe.data = .fields vs) : CallR (X.suite a ((a, oe) :: pn)) (.builtin "isinstance") (rIsED X.K D a cls d) := by
  intro pins s σ H xs us Q I r h
  obtain ⟨b, dd, fs, rfl, rfl, rfl, hdd, e, q⟩ := h
  obtain ⟨u1, u2, rfl, r1, r2⟩ := r.two
  cases (show u1 = Value.ref a from r1)
  cases (show u2 = Value.ref D from r2)
  obtain ⟨hget, _⟩ := I.pin (a, oe) (List.mem_append.mpr (.inl List.mem_cons_self))
  obtain ⟨vs, hv⟩ := hf
  have hx : ObjOk X.prog X.w H s.heap dd (.xd fs) := I.hok dd _ hdd
  obtain ⟨mA, hns, hr⟩ := hx
  obtain ⟨od, ho, hl⟩ := lookIn_ns hns
  have J : PySem.W.InstAt s.heap a oe D (some od) := ⟨hget, hz.1, by unfold PySem.W.notCls; rw [hv] <;> rfl, by rw [hz.2]; exact ho⟩
  exact PySem.W.kia_one (kitx_excD C.hg C.hk C.hs C.hd C.ha C.hn C.ht C.hm) I.kIn J e (fun z => nomatch z) fun tk => ⟨.bl b, H, I.kept (t' := tk) fun _ _ z => z, rfl, q⟩
section
variable {P : Program} {w : World} {K : PySem.W.Frag} {mg : Str → Option Value} {base : Heap}
theorem Tx.excC (T : Tx K mg) : ExcC K (He.ga K "NotClosed") := ⟨T.more.xf.ga, T.more.xf.gg, T.more.xf.exC, T.more.xf.hdC, T.more.clsN, T.more.getC, T.more.takC, T.more.mroN⟩
theorem kb_check (T : Tx K mg) : ∃ fd, KBn K fd ["book", "blocks", "files", "total", "table", "idle"] 5 ["idle"] (fun us ws => us ++ ws) (fun us ws => us ++ ws) ∧ PySem.W.keepIn K (.ref (He.ga K "check")) = true ∧ FnOk P w K mg base (L2.CX P w) 6 (He.ga K "check") fd ["book", "blocks", "files", "total", "table", "idle"] (spCheck K) := by
  obtain ⟨fd, F, ok⟩ := ok_check (P := P) (w := w) (base := base) T
  refine ⟨fd, ⟨fun s us ws X l1 l2 => ?_, fun r1 r2 => r1.append r2⟩, F.kp, ok⟩
  obtain ⟨oc, od, kV, doc, pm, an, cdv, ct, osl, rfl, _⟩ := F.ex
  match us, ws, l1, l2 with
  | [_, _, _, _, _], [_], _, _ => exact .of_eq rfl
def spChecked (K : PySem.W.Frag) : Sp := fun vs H Q _ => ∃ (a tb : Addr) (bk : Bk) (b t : Int) (f : Nat) (i : Option Int) (us : List V) (ds : List PyData), vs = [.ref a, .int b, .int f, .int t, .ref tb, idV i] ∧ bk.Ok ∧ BookAt K H a bk ∧ (1 ≤ b ∧ b ≤ 300) ∧ (1 ≤ f ∧ f ≤ 8) ∧ (0 ≤ t ∧ t ≤ 300) ∧
  (∀ j, i = some j → 0 ≤ j ∧ j ≤ 300) ∧ TableAt K H tb us ∧ DpAll K H us ds ∧ us.length ≤ 5000 ∧ (∀ n, checkM bk b f t i ds = .ok n → ∀ H', Same H H' → Q (.int n) H') ∧
  (∀ k, checkM bk b f t i ds = .no k → ∀ H' p, Same H H' → H' p = some (.tup [.str "no", noV k]) → Q (.ref p) H')
theorem nc_lookup (k : Option Nat) : List.lookup ("number" : Str) [(("number" : Str), noV k)] = some (noV k) := by simp [List.lookup]
theorem sc_checked : FnScope ["_law_book_here", "_law_blocks", "_law_files", "_law_total", "_law_table", "_law_most", "e"] ["_law_book_here", "_law_blocks", "_law_files", "_law_total", "_law_table", "_law_most"] (defScope (top 67)) := ⟨rfl, rfl, rfl, by decide +kernel, rfl, by decide +kernel, by decide +kernel⟩
theorem ok_checked (T : Tx K mg) : FnG P w K mg base CX0 7 "_law_checked" ["_law_book_here", "_law_blocks", "_law_files", "_law_total", "_law_table", "_law_most"] (spChecked K) := by
  obtain ⟨fd, F⟩ := T.f_l_checked
  obtain ⟨fdC, kb, kp, okC⟩ := kb_check (P := P) (w := w) (base := base) T
  refine FnG.of F T.g_l_checked (fun _ _ _ _ _ _ us hl => match us, hl with | [_, _, _, _, _, _], _ => rfl) (F.ok sc_checked (fun vs H Q E h => ?_) (fun cdv A outer s H vs Q E hr h => ?_))
  · obtain ⟨a, tb, bk, b, t, f, i, us, ds, rfl, _⟩ := h
    rfl
  · obtain ⟨a, tb, bk, b, t, f, i, us, ds, rfl, ok, B, hb, hf, ht, hi, TA, hds, hul, qok, qno⟩ := h
    have nd := sc_checked.nd
    refine ⟨_, pss_one (ps_try_as (i := 6) (tb := fun W => tRet (tCallNS 5 ([("idle" : Str)]).length (spCheck K) (fun us ws => us ++ ws) (WE W) (tCons (tVar 0) (tCons (tVar 1) (tCons (tVar 2) (tCons (tVar 3) (tCons (tVar 4) tNil))))) (tCons (tVar 5) tNil)))
        (ts := fun a cls d => tRet (tIf (tB (tCB (rIsED K (He.ga K "NotClosed") a cls d) (tCons (tVar 6) (tCons (tC (.ref (He.ga K "NotClosed"))) tNil)))) (tTup (tCons (tC (.str "no")) (tCons (tXf a cls d (He.ga K "NotClosed") "number" (tVar 6)) tNil))) (tC (.str "another")))) (Wout := fun _ _ _ _ => False)
        rfl rfl nd rfl rfl ⟨rfl, by decide, Or.inl T.g_GrowError⟩ takes0
        (fun W pn xe tk _ => pss_one (ps_ret (by exact (pe_callNS okC hr rfl T.g_check kp kb (fun σ => passAt tk σ) (pa_cons (pv 0) (pa_cons (pv 1) (pa_cons (pv 2) (pa_cons (pv 3) (pa_cons (pv 4) pa_nil))))) (pk_cons (pv 5) pk_nil)))))
        (fun a oe cls d pn hz hf => pss_one (ps_ret (by exact (pe_ifExp (pt_val (pe_callB (call_isED T.excC hz hf) rfl T.m_isinstance boot_isi' (pa_cons (pv 6) (pa_cons (pe_glob (v := .ref (He.ga K "NotClosed")) rfl T.g_NotClosed rfl) pa_nil)))) (pe_tup (pa_cons pe_str (pa_cons (pe_xf T.more.xf T.more.num hz hf (pv 6)) pa_nil))) pe_str))))), ?_⟩
    refine ⟨_, rfl, _, rfl, _, rfl, _, rfl, _, rfl, _, rfl, rfl, rfl, a, tb, bk, b, t, f, i, us, ds, rfl, ok, B, hb, hf, ht, hi, TA, hds, hul, qok, fun k hk H' d s' hd => ⟨true, T.exm, fun _ ax hax => ?_, fun z => nomatch z⟩⟩
    refine ⟨_, rfl, true, d, _, rfl, rfl, rfl, hd, T.more.kitN, _, rfl, iteT ?_⟩
    refine ⟨_, rfl, rfl, rfl, d, _, _, rfl, hd, nc_lookup k, by show 2 ≤ sizeLine; decide, fun p hp => ?_⟩
    exact qno k hk _ p (s'.trans (same_upd hp)) upd_same
end
end K76

/-! The walk, 23: what is due. -/
namespace K76
open PySem PySem.Spec PyProof.Rows L2
section
variable {P : Program} {w : World} {K : PySem.W.Frag} {mg : Str → Option Value} {base : Heap}
def spDue (K : PySem.W.Frag) : Sp := fun vs H Q _ => ∃ (a l : Addr) (bk : Bk) (b t : Int) (f : Nat) (i : Option Int) (us : List V) (ds : List PyData), vs = [.ref a, .int b, .int f, .int t, .ref l, idV i] ∧ bk.Ok ∧ BookAt K H a bk ∧ (1 ≤ b ∧ b ≤ 300) ∧ (1 ≤ f ∧ f ≤ 8) ∧ (0 ≤ t ∧ t ≤ 300) ∧
  H l = some (.lst us) ∧ DpAll K H us ds ∧ us.length ≤ 5000 ∧ (∀ d ∈ ds, EntD d) ∧ (∀ n, checkM bk b f t i ds = .ok n → ∀ H', Same H H' → Q (.int n) H') ∧
  (∀ k, checkM bk b f t i ds = .no k → ∀ H' p, Same H H' → H' p = some (.tup [.str "no", noV k]) → Q (.ref p) H')
theorem sc_due : FnScope ["_law_book_here", "_law_blocks", "_law_files", "_law_total", "_law_states", "_law_most", "_law_at", "_law_sizes", "_law_known", "_law_size", "_law_hold", "_law_state"] ["_law_book_here", "_law_blocks", "_law_files", "_law_total", "_law_states", "_law_most"] (defScope (top 66)) := ⟨rfl, rfl, rfl, by decide +kernel, rfl, by decide +kernel, by decide +kernel⟩
theorem ok_due (T : Tx K mg) : FnGG P w K mg base CX0 7 "_law_due" ["_law_book_here", "_law_blocks", "_law_files", "_law_total", "_law_states", "_law_most"] (spDue K) := by
  obtain ⟨fd, F⟩ := T.f_l_due
  refine FnGG.of F T.g_l_due (fun _ _ _ _ _ _ us hl => match us, hl with | [_, _, _, _, _, _], _ => rfl) (okG F sc_due (fun vs H Q E h => ?_) (fun cdv A outer s H vs Q E hga hr h => ?_))
  · obtain ⟨a, l, bk, b, t, f, i, us, ds, rfl, _⟩ := h
    rfl
  · obtain ⟨a, l, bk, b, t, f, i, us, ds, rfl, ok, B, ⟨b1, b2⟩, ⟨f1, f2⟩, ⟨t0, t2⟩, hl, hds, hul, hent, qok, qno⟩ := h
    have nd := sc_due.nd
    have hsl := sizeLine_eq
    have hlen : us.length = ds.length := dps_len hds
    have r2 : Room 2 _ := hr.mono (by decide)
    refine ⟨_, pss_cons (ps_for PassesOwn.never rfl (pi_range1 rfl T.m_range (pa_cons (pe_callB call_len rfl T.m_len boot_len' (pa_cons (pv 4) pa_nil)) pa_nil)) (pg_name (i := 6) nd rfl (.inl rfl))
        (pss_cons (ps_if (pt_not (pt_val (pe_gg (ok_is_entry T) hga r2 (pa_cons (pe_ix ix_list (pv 4) (pv 6) (fun _ _ => rfl)) (pa_cons (pv 1) pa_nil))))) (pss_one (ps_ret (pe_tup (pa_cons pe_str (pa_cons (pv 6) pa_nil))))) pss_nil)
        (pss_cons (ps_set (i := 7) nd rfl (.inl rfl) (pe_callB (cr_sum rfl) rfl T.m_sum boot_sum' (pa_cons (pe_lc (own := [("_law_size", 9), ("_law_hold", 10)]) (g := gTup K 2 (gCons (gName 9) (gCons (gName 10) gNil))) (tt := tYes) rfl nd (pi_tup (pe_ix ix_list (pv 4) (pv 6) (fun _ _ => rfl)))
          (blkOk_by (N := ["_law_book_here", "_law_blocks", "_law_files", "_law_total", "_law_states", "_law_most", "_law_at", "_law_sizes", "_law_known", "_law_size", "_law_hold", "_law_state"]) (sc := defScope (top 66)) (by decide +kernel))
          (fun _ _ _ _ _ => pg_tup rfl (pgs_cons (pg_name (i := 9) nd rfl (.inl rfl)) (pgs_cons (pg_name (i := 10) nd rfl (.inl rfl)) pgs_nil))) (fun _ _ _ _ _ => pts_nil) (fun _ _ _ _ _ => pv 9)) pa_nil)))
        (pss_one (ps_if (PW.pt (pw_or (pt_cmpR op_ne (pe_callB call_len rfl T.m_len boot_len' (pa_cons (pe_ix ix_list (pv 4) (pv 6) (fun _ _ => rfl)) pa_nil)) (pv 2) (nomark _)) (pw_or (pt_cmpR op_gt (pv 7) (pv 3) (nomark _))
            (pw_or1 (PW.pt (pw_and (pt_cmpR op_notN (pv 5) pe_non (nomark _)) (pw_and1 (pt_cmpR op_gt (pe_g ((ok_lidle T).mono (by decide)) hr (pa_cons (pe_ix ix_list (pv 4) (pv 6) (fun _ _ => rfl)) pa_nil)) (pv 5) (nomark _)))))))))
          (pss_one (ps_ret (pe_tup (pa_cons pe_str (pa_cons (pv 6) pa_nil))))) pss_nil)))))
      (pss_cons (ps_if (pt_cmpR (op_notInSt (hu65 hr)) (pe_op op_mulT (pe_tup (pa_cons (pe_tup (pa_cons pe_int (pa_cons pe_int pa_nil))) pa_nil)) (pv 2)) (pv 4) rfl) (pss_one (ps_ret (pe_tup (pa_cons pe_str (pa_cons pe_non pa_nil))))) pss_nil)
      (pss_cons (ps_set (i := 8) nd rfl (.inl rfl) (pe_callTy (call_dictNK P w K rfl (hu65 hr)) rfl T.m_dict boot_dict' (pa_cons (pe_lc (own := [("_law_state", 11)]) (g := gName 11) (tt := tYes) rfl nd (pi_list (pv 4))
        (blkOk_by (N := ["_law_book_here", "_law_blocks", "_law_files", "_law_total", "_law_states", "_law_most", "_law_at", "_law_sizes", "_law_known", "_law_size", "_law_hold", "_law_state"]) (sc := defScope (top 66)) (by decide +kernel))
        (fun _ _ _ _ _ => pg_name (i := 11) nd rfl (.inl rfl)) (fun _ _ _ _ _ => pts_nil) (fun _ _ _ _ _ => pe_tup (pa_cons (pv 11) (pa_cons pe_bl pa_nil)))) pa_nil)))
      (pss_cons (ps_for PassesOwn.never rfl (pi_range1 rfl T.m_range (pa_cons (pe_callB call_len rfl T.m_len boot_len' (pa_cons (pv 4) pa_nil)) pa_nil)) (pg_name (i := 6) nd rfl (.inl rfl))
        (pss_one (ps_if (pt_not (pt_val (pe_g (ok_lentry T) hr (pa_cons (pv 0) (pa_cons (pv 1) (pa_cons (pv 2) (pa_cons (pv 3) (pa_cons (pe_ix ix_list (pv 4) (pv 6) (fun _ _ => rfl)) (pa_cons (pv 8) pa_nil))))))))) (pss_one (ps_ret (pe_tup (pa_cons pe_str (pa_cons (pv 6) pa_nil))))) pss_nil)))
      (pss_one (ps_ret (pe_callB call_len rfl T.m_len boot_len' (pa_cons (pv 4) pa_nil))))))), ?_⟩
    refine ⟨_, rfl, _, us.length, rfl, .inl ⟨us, SqL.of hl, rfl⟩, us.length, rfl, by omega, by omega, ?_⟩
    have eN : ((us.length : Nat) : Int).toNat = us.length := by omega
    rw [eN]
    refine for_range (lo := 0) (n := us.length) (fun n σ H' => ∃ (x6 x7 x8 x9 x10 x11 : Option V), σ = [some (.ref a), some (.int b), some (.int f), some (.int t), some (.ref l), some (idV i), x6, x7, x8, x9, x10, x11] ∧ Same H H' ∧ ∀ j d, j < n → ds[j]? = some d → listed b f t i d = true)
      ⟨_, _, _, _, _, _, rfl, Same.refl H, fun j d hj => absurd hj (Nat.not_lt_zero j)⟩ ?_ ?_
    · rintro n σ H1 hn ⟨x6, x7, x8, x9, x10, x11, rfl, s1, hall⟩
      rw [show (0 : Int) + (n : Nat) = (n : Nat) from Int.zero_add _]
      obtain ⟨x, hx⟩ : ∃ x, us[n]? = some x := ⟨us[n], List.getElem?_eq_getElem hn⟩
      obtain ⟨d, hd1, hd2⟩ := dps_get hds hx
      have hl1 := s1 _ _ hl
      have hx1 := dp_same s1 _ _ hd2
      -- told as no entry
      have bad : listed b f t i d = false → ∀ H2, Same H H2 → ∀ p, H2 p = none → Q (.ref p) (upd H2 p (.tup [.str "no", .int (n : Nat)])) := fun c H2 s2 p hp =>
        qno (some n) (checkM_listed hall hd1 c) _ p (s2.trans (same_upd hp)) upd_same
      refine ⟨_, rfl, _, rfl, l, us, n, x, rfl, rfl, SqL.of hl1, atI_nat hx, _, rfl, x, d, b, rfl, hx1, hent d (List.mem_of_getElem? hd1), fun H2 s2 => ⟨_, rfl, ?_⟩⟩
      have s12 := s1.trans s2
      cases c1 : isSt b d with
      | false =>
        exact iteT ⟨_, rfl, by show 2 ≤ sizeLine; decide, fun p hp => bad (by unfold listed; rw [c1]; rfl) H2 s12 p hp⟩
      | true =>
        have e1 := isSt_eq c1
        have g := isSt_good c1
        have l8 := g.l8
        have hx2 := dp_same s12 _ _ hd2
        rw [e1] at hx2
        have elist : listed b f t i d = (decide ((unD d).length = f) && (decide (sizes (unD d) ≤ t) && idleOk i (idleS (unD d)))) := by
          unfold listed
          rw [c1, Bool.true_and]
        have hl2 := s12 _ _ hl
        refine iteF ?_
        dsimp only [tNext, tSeq, tIfS, tNot, tB, tCB, tCons, tRet, tOp, tAsg]
        refine lc_pairs (fun p => .int p.1) (fun R z => ⟨_, rfl, _, rfl, l, us, n, x, rfl, rfl, SqL.of hl2, atI_nat hx, z⟩) hx2 (by omega) (fun p H2 R z => ⟨_, rfl, z⟩) (fun L hL => ?_)
        have e : (unD d).map (fun p => V.int p.1) = ((unD d).map (fun x : Int × Int => x.1)).map V.int := by rw [List.map_map]; rfl
        refine ⟨L, (unD d).map (fun x : Int × Int => x.1), rfl, by rw [← e]; exact SqL.of upd_same, ?_⟩
        have s3 := same_upd (o := .lst ((unD d).map fun p => V.int p.1)) hL
        have s13 := s12.trans s3
        have hx3 := dp_same s3 _ _ hx2
        have hl3 := s13 _ _ hl
        generalize upd H2 L (.lst ((unD d).map fun p => V.int p.1)) = H3 at s3 s13 hx3 hl3 ⊢
        obtain ⟨ad, ys, rfl, hys, hyd⟩ := dp_st hx3
        have hyl : ys.length = (unD d).length := by rw [dps_len hyd, List.length_map]
        refine ⟨_, rfl, _, rfl, l, us, n, _, rfl, rfl, SqL.of hl3, atI_nat hx, _, (unD d).length, rfl, .inr ⟨_, hys, hyl.symm⟩, _, rfl, rfl, _, rfl, ?_⟩
        by_cases c2 : (unD d).length = f
        case neg =>
          have e2 : decide (V.int ((unD d).length : Int) = V.int (f : Int)) = false := decide_eq_false fun z => by
            injection z with z
            omega
          rw [e2]
          exact iteT (iteT ⟨_, rfl, by show 2 ≤ sizeLine; decide, fun p hp => bad (by rw [elist, decide_eq_false c2, Bool.false_and]) H3 s13 p hp⟩)
        have e2 : decide (V.int ((unD d).length : Int) = V.int (f : Int)) = true := decide_eq_true (by rw [c2])
        rw [e2]
        refine iteF ⟨_, rfl, _, rfl, sizes (unD d), t, rfl, rfl, _, rfl, ?_⟩
        by_cases c3 : sizes (unD d) ≤ t
        case neg =>
          rw [decide_eq_true (show t < sizes (unD d) by omega)]
          exact iteT (iteT ⟨_, rfl, by show 2 ≤ sizeLine; decide, fun p hp => bad (by rw [elist, decide_eq_false c3, Bool.false_and, Bool.and_false]) H3 s13 p hp⟩)
        rw [decide_eq_false (show ¬ t < sizes (unD d) by omega)]
        refine iteF ⟨_, rfl, rfl, _, rfl, ?_⟩
        -- the turn's end
        have good : ∀ H4, Same H H4 → idleOk i (idleS (unD d)) = true → ∃ (y6 y7 y8 y9 y10 y11 : Option V), [some (V.ref a), some (.int b), some (.int f), some (.int t), some (.ref l), some (idV i), some (.int (n : Nat)), some (.int (sizes (unD d))), x8, x9, x10, x11] = [some (.ref a), some (.int b), some (.int f), some (.int t), some (.ref l), some (idV i), y6, y7, y8, y9, y10, y11] ∧ Same H H4 ∧ ∀ j d, j < n + 1 → ds[j]? = some d → listed b f t i d = true := by
          intro H4 s4 c4
          refine ⟨_, _, _, _, _, _, rfl, s4, fun j e hj he => ?_⟩
          by_cases hjn : j < n
          · exact hall j e hjn he
          · have : j = n := by omega
            subst this
            rw [hd1] at he
            cases he
            rw [elist, decide_eq_true c2, decide_eq_true c3, c4]
            rfl
        cases i with
        | none => exact iteF (iteF (good H3 s13 rfl))
        | some i0 =>
          refine iteT ⟨_, rfl, _, rfl, l, us, n, _, rfl, rfl, SqL.of hl3, atI_nat hx, _, unD d, rfl, hx3, by omega, fun H4 s4 => ⟨_, rfl, idleS (unD d), i0, rfl, rfl, _, rfl, ?_⟩⟩
          by_cases c4 : idleS (unD d) ≤ i0
          · rw [decide_eq_false (show ¬ i0 < idleS (unD d) by omega)]
            exact iteF (good H4 (s13.trans s4) (decide_eq_true c4))
          · rw [decide_eq_true (show i0 < idleS (unD d) by omega)]
            refine iteT ⟨_, rfl, by show 2 ≤ sizeLine; decide, fun p hp => bad (by rw [elist]; show (_ && (_ && decide (idleS (unD d) ≤ i0))) = false; rw [decide_eq_false c4, Bool.and_false, Bool.and_false]) H4 (s13.trans s4) p hp⟩
    · rintro σ H1 ⟨x6, x7, x8, x9, x10, x11, rfl, s1, hall⟩
      have hlist : ∀ d ∈ ds, listed b f t i d = true := fun d hd => by
        obtain ⟨j, hj⟩ := List.mem_iff_getElem?.mp hd
        exact hall j d (by rw [hlen]; exact (List.getElem?_eq_some_iff.mp hj).1) hj
      have hsts := dps_sts' hds hlist
      refine ⟨by show 2 ≤ sizeLine; decide, fun p1 hp1 => ⟨by show 1 ≤ sizeLine; decide, fun p2 hp2 => ?_⟩⟩
      have s2 := (same_upd (o := .tup [.int 0, .int 0]) hp1).trans (same_upd (o := .tup [.ref p1]) hp2)
      have p12 : p1 ≠ p2 := fun z => by subst z; rw [upd_same] at hp2; cases hp2
      have hp1' : upd (upd H1 p1 (.tup [.int 0, .int 0])) p2 (.tup [.ref p1]) p1 = some (.tup [.int 0, .int 0]) := by rw [upd_ne p12]; exact upd_same
      have hp2' : upd (upd H1 p1 (.tup [.int 0, .int 0])) p2 (.tup [.ref p1]) p2 = some (.tup [.ref p1]) := upd_same
      have s12 := s1.trans s2
      generalize upd (upd H1 p1 (.tup [.int 0, .int 0])) p2 (.tup [.ref p1]) = H2 at s2 s12 hp1' hp2' ⊢
      refine ⟨_, rfl, p2, f, [.ref p1], rfl, rfl, hp2', by simp, by omega, by omega, by show 1 ≤ 1000; decide, fun p3 H3 s3 hp3 => ?_⟩
      have hz : Dp K H3 (.ref p3) (stD (zeros f)) := dp_zeros (s3 _ _ hp1') hp3
      have s13 := s12.trans s3
      have hl3 := s13 _ _ hl
      have hsts3 := sts_ts (Same.ts s13) hsts
      refine ⟨_, rfl, zeros f, l, us, _, hz, rfl, SqL.of hl3, hsts3, _, rfl, ?_⟩
      by_cases cz : zeros f ∈ ds.map unD
      case neg =>
        rw [decide_eq_false cz]
        exact iteT ⟨by show 2 ≤ sizeLine; decide, fun p hp => qno none (checkM_zero hlist cz) _ p (s13.trans (same_upd hp)) upd_same⟩
      rw [decide_eq_true cz]
      refine iteF ?_
      dsimp only [tNext, tSeq, tIfS, tNot, tB, tCB, tCons, tRet, tOp, tAsg, gName]
      refine lc_true (i := 11) (K := K) (H := H3) (us := us) (ss := ds.map unD) (l := l) (by show 11 < 12; decide) (fun R z => ⟨_, rfl, z⟩) (SqL.of hl3) hsts3 (by omega) (fun D1 H4 ps es0 s4 hD1 hps hes => ?_)
      have hesl : es0.length = us.length := by
        rw [← List.length_map (f := fun e : Stt × Addr => e.1), hes, List.length_map, hlen]
      refine ⟨D1, ps, es0, rfl, SqL.of hD1, hps, by omega, fun D hD dn => ?_⟩
      have s5 := same_upd (o := dnO P w D (mergeN es0)) hD
      have s15 := (s13.trans s4).trans s5
      have hmem : ∀ s, s ∈ (mergeN es0).map (fun e : Stt × Addr => e.1) ↔ s ∈ ds.map unD := fun s => by
        have := mergeN_keys es0 s
        rw [hes] at this
        exact this
      generalize upd H4 D (dnO P w D (mergeN es0)) = H5 at dn s5 s15 ⊢
      refine ⟨_, rfl, _, us.length, rfl, .inl ⟨us, SqL.of (s15 _ _ hl), rfl⟩, us.length, rfl, by omega, by omega, ?_⟩
      rw [eN]
      refine for_range (lo := 0) (n := us.length) (fun n σ H' => ∃ (x6 x7 x9 x10 x11 : Option V), σ = [some (.ref a), some (.int b), some (.int f), some (.int t), some (.ref l), some (idV i), x6, x7, some (.ref D), x9, x10, x11] ∧ Same H5 H' ∧ ∀ j d, j < n → ds[j]? = some d → entryOk bk b t (ds.map unD) (unD d) = true)
        ⟨_, _, _, _, _, rfl, Same.refl H5, fun j d hj => absurd hj (Nat.not_lt_zero j)⟩ ?_ ?_
      · rintro n σ H6 hn ⟨x6, x7, x9, x10, x11, rfl, s6, hall2⟩
        rw [show (0 : Int) + (n : Nat) = (n : Nat) from Int.zero_add _]
        obtain ⟨x, hx⟩ : ∃ x, us[n]? = some x := ⟨us[n], List.getElem?_eq_getElem hn⟩
        obtain ⟨d, hd1, hd2⟩ := dps_get hds hx
        have hle := listed_eq (hlist d (List.mem_of_getElem? hd1))
        rw [hle.1] at hd2
        have s16 := s15.trans s6
        refine ⟨_, rfl, _, rfl, _, rfl, _, rfl, _, rfl, _, rfl, l, us, n, x, rfl, rfl, SqL.of (s16 _ _ hl), atI_nat hx, _, rfl, a, D, bk, x, unD d, b, t, f, mergeN es0, ds.map unD, rfl, ok, B.same s16, ⟨b1, b2⟩, dp_same s16 _ _ hd2, hle.2.1, hle.2.2.1, ⟨t0, t2⟩, dn.same s6, hmem, fun H7 s7 => ⟨_, rfl, ?_⟩⟩
        cases c : entryOk bk b t (ds.map unD) (unD d) with
        | false =>
          exact iteT ⟨_, rfl, by show 2 ≤ sizeLine; decide, fun p hp => qno (some n) (checkM_entry hlist cz hall2 hd1 c) _ p ((s16.trans s7).trans (same_upd hp)) upd_same⟩
        | true =>
          refine iteF ⟨_, _, _, _, _, rfl, s6.trans s7, fun j e hj he => ?_⟩
          by_cases hjn : j < n
          · exact hall2 j e hjn he
          · have : j = n := by omega
            subst this
            rw [hd1] at he
            cases he
            exact c
      · rintro σ H6 ⟨x6, x7, x9, x10, x11, rfl, s6, hall2⟩
        have s16 := s15.trans s6
        refine ⟨_, rfl, _, us.length, rfl, .inl ⟨us, SqL.of (s16 _ _ hl), rfl⟩, ?_⟩
        rw [hlen]
        refine qok ds.length (checkM_ok hlist cz fun d hd => ?_) _ s16
        obtain ⟨j, hj⟩ := List.mem_iff_getElem?.mp hd
        exact hall2 j d (by rw [hlen]; exact (List.getElem?_eq_some_iff.mp hj).1) hj
end
end K76

/-! The walk, 24: _law_bent. -/
namespace K76
open PySem PySem.Spec PyProof.Rows L2
section
variable {P : Program} {w : World} {K : PySem.W.Frag} {mg : Str → Option Value} {base : Heap}
theorem paired_erase {α β : Type} {R : α → β → Prop} : ∀ {xs : List α} {ys : List β} (n : Nat), Paired R xs ys → Paired R (xs.eraseIdx n) (ys.eraseIdx n)
  | _, _, _, .nil => by simpa using Paired.nil
  | _, _, 0, .cons h t => t
  | _, _, n + 1, .cons h t => .cons h (paired_erase n t)
theorem paired_append {α β : Type} {R : α → β → Prop} : ∀ {xs : List α} {ys : List β} {us : List α} {vs : List β}, Paired R xs ys → Paired R us vs → Paired R (xs ++ us) (ys ++ vs)
  | _, _, _, _, .nil, h => h
  | _, _, _, _, .cons h t, k => .cons h (paired_append t k)
theorem paired_take {α β : Type} {R : α → β → Prop} : ∀ {xs : List α} {ys : List β} (n : Nat), Paired R xs ys → Paired R (xs.take n) (ys.take n)
  | _, _, _, .nil => by simpa using Paired.nil
  | _, _, 0, .cons h t => .nil
  | _, _, n + 1, .cons h t => .cons h (paired_take n t)
theorem paired_drop {α β : Type} {R : α → β → Prop} : ∀ {xs : List α} {ys : List β} (n : Nat), Paired R xs ys → Paired R (xs.drop n) (ys.drop n)
  | _, _, _, .nil => by simpa using Paired.nil
  | _, _, 0, .cons h t => .cons h t
  | _, _, n + 1, .cons h t => paired_drop n t
theorem dps_zeros {H : Hp} {p1 : Addr} (h1 : H p1 = some (.tup [.int 0, .int 0])) : ∀ k : Nat, DpAll K H (List.replicate k [V.ref p1]).flatten ((zeros k).map pairD)
  | 0 => .nil
  | k + 1 => by
    have e : (List.replicate (k + 1) [V.ref p1]).flatten = V.ref p1 :: (List.replicate k [V.ref p1]).flatten := by rw [List.replicate_succ]; rfl
    rw [e, zeros_succ]
    exact .cons (dp_pair (p := (0, 0)) h1) (dps_zeros h1 k)
theorem four (r : Int) (h0 : 0 ≤ r) (h4 : r < 4) : r = 0 ∨ r = 1 ∨ r = 2 ∨ r = 3 := by omega
theorem pick_turn (r : Int) (h0 : 0 ≤ r) (h4 : r < 4) : ∃ f : Int, atI [V.int 0, .int 0, .int 1, .int 3] r = some (.int f) ∧ 0 ≤ f ∧ f ≤ 3 := by
  rcases four r h0 h4 with rfl | rfl | rfl | rfl <;> exact ⟨_, rfl, by decide, by decide⟩
/-- what the bending may add -/
def Added (s : Stt) : Prop := ∃ k : Nat, k ≤ 2 ∧ s = (1, 1) :: zeros k
def spBent (K : PySem.W.Frag) : Sp := fun vs H Q _ => ∃ (p l : Addr) (f : Int) (us : List V) (rs : List Stt), vs = [.ref p, .ref l, .int f] ∧ PoolAt H p ∧ H l = some (.lst us) ∧ Sts K H us rs ∧ 1 ≤ rs.length ∧ rs.length ≤ 2800 ∧
  ∀ H' x ws ss, SB p H H' → PoolAt H' p → H x = none → H' x = some (.lst ws) → Sts K H' ws ss → 1 ≤ ss.length → ss.length ≤ 2801 → (∀ s ∈ ss, s ∈ rs ∨ Added s) → Q (.ref x) H'
theorem sc_bent : FnScope ["_law_pool", "_law_states", "_law_files", "_law_turn", "_law_at"] ["_law_pool", "_law_states", "_law_files"] (defScope (top 68)) := ⟨rfl, rfl, rfl, by decide +kernel, rfl, by decide +kernel, by decide +kernel⟩
theorem ok_bent (T : Tx K mg) : FnG P w K mg base CX0 2 "_law_bent" ["_law_pool", "_law_states", "_law_files"] (spBent K) := by
  obtain ⟨fd, F⟩ := T.f_l_bent
  refine FnG.of F T.g_l_bent (fun _ _ _ _ _ _ us hl => match us, hl with | [_, _, _], _ => rfl) (F.ok sc_bent (fun vs H Q E h => ?_) (fun cdv A outer s H vs Q E hr h => ?_))
  · obtain ⟨p, l, f, us, rs, rfl, _⟩ := h
    rfl
  · obtain ⟨p, l, f, us, rs, rfl, hp, hl, hst, r1, r2, q⟩ := h
    have nd := sc_bent.nd
    have hsl := sizeLine_eq
    have G : FnG P w K mg base CX0 1 "_law_draw" ["_law_pool", "_law_many"] spDraw := ok_draw T
    refine ⟨_, pss_cons (ps_set (i := 1) nd rfl (.inl rfl) (pe_callTy call_list_of rfl T.m_list boot_list' (pa_cons (pv 1) pa_nil)))
      (pss_cons (ps_for PassesOwn.never rfl (pi_range1 rfl T.m_range (pa_cons (pe_ix ix_list (pe_lst (pa_cons pe_int (pa_cons pe_int (pa_cons pe_int (pa_cons pe_int pa_nil))))) (pe_g G hr (pa_cons (pv 0) (pa_cons pe_int pa_nil))) (fun _ _ => rfl)) pa_nil)) (pg_name (i := 3) nd rfl (.inl rfl))
        (pss_one (ps_if (pt_cmpR op_gt (pe_callB call_len rfl T.m_len boot_len' (pa_cons (pv 1) pa_nil)) pe_int (nomark _))
          (pss_one (ps_expr (pe_bm PySem.F.plainAttrs_list PySem.F.slot_list_pop PySem.F.type_list_pop mt_popAt (pv 1) (pa_cons (pe_g G hr (pa_cons (pv 0) (pa_cons (pe_callB call_len rfl T.m_len boot_len' (pa_cons (pv 1) pa_nil)) pa_nil))) pa_nil)))) pss_nil)))
      (pss_cons (ps_if (pt_cmpR op_eq (pe_g G hr (pa_cons (pv 0) (pa_cons pe_int pa_nil))) pe_int (nomark _))
        (pss_one (ps_expr (pe_bm PySem.F.plainAttrs_list PySem.F.slot_list_append PySem.F.type_list_append mt_append (pv 1)
          (pa_cons (pe_op op_catA (pe_tup (pa_cons (pe_tup (pa_cons pe_int (pa_cons pe_int pa_nil))) pa_nil)) (pe_op op_mulT (pe_tup (pa_cons (pe_tup (pa_cons pe_int (pa_cons pe_int pa_nil))) pa_nil)) (pe_g G hr (pa_cons (pv 0) (pa_cons pe_int pa_nil))))) pa_nil)))) pss_nil)
      (pss_cons (ps_set (i := 4) nd rfl (.inl rfl) (pe_g G hr (pa_cons (pv 0) (pa_cons (pe_callB call_len rfl T.m_len boot_len' (pa_cons (pv 1) pa_nil)) pa_nil))))
      (pss_one (ps_ret (pe_op op_cat (pe_slice sl_list (pv 1) (po_some (pv 4)) po_none) (pe_slice sl_list (pv 1) po_none (po_some (pv 4))))))))), ?_⟩
    refine ⟨_, rfl, l, us, rfl, .inl (SqL.of hl), fun F0 hF0 => ?_⟩
    have hlen := Paired.length hst
    have s1 := same_upd (o := .lst us) hF0
    have hF1 : upd H F0 (.lst us) F0 = some (.lst us) := upd_same
    have hp1 := hp.same s1
    have hst1 := sts_ts (Same.ts s1) hst
    have nF : F0 ≠ p := fun z => by subst z; obtain ⟨xs, e⟩ := hp.lst; rw [hF0] at e; cases e
    generalize upd H F0 (.lst us) = H1 at s1 hF1 hp1 hst1 ⊢
    refine ⟨by show 4 ≤ sizeLine; decide, fun l1 hl1 => ?_⟩
    have s2 := same_upd (o := .lst [.int 0, .int 0, .int 1, .int 3]) hl1
    have hL : upd H1 l1 (.lst [.int 0, .int 0, .int 1, .int 3]) l1 = some (.lst [.int 0, .int 0, .int 1, .int 3]) := upd_same
    have hp2 := hp1.same s2
    have n1 : l1 ≠ p := fun z => by subst z; obtain ⟨xs, e⟩ := hp1.lst; rw [hl1] at e; cases e
    have hF2 := s2 _ _ hF1
    have hst2 := sts_ts (Same.ts s2) hst1
    generalize upd H1 l1 (.lst [.int 0, .int 0, .int 1, .int 3]) = H2 at s2 hL hp2 hF2 hst2 ⊢
    refine ⟨_, rfl, p, 4, rfl, hp2, by decide, by decide, fun H3 t1 a0 a4 sb3 hp3 => ?_⟩
    obtain ⟨tn, e1, tn0, tn3⟩ := pick_turn t1 a0 a4
    obtain ⟨xp2, hx2⟩ := hp2.lst
    have hst3 := sts_ts (sb3.ts hx2 rfl) hst2
    have hF3 := sb3 _ _ nF hF2
    have sb03 : SB p H H3 := (Same.sb (s1.trans s2)).trans sb3
    refine ⟨l1, _, t1, _, rfl, rfl, SqL.of (sb3 _ _ n1 hL), e1, tn, rfl, by omega, by omega, ?_⟩
    refine for_range (n := tn.toNat) (fun i σ H' => ∃ (x3 x4 : Option V) (ws : List V) (ss : List Stt), σ = [some (.ref p), some (.ref F0), some (.int f), x3, x4] ∧ SB p H H' ∧ PoolAt H' p ∧ H' F0 = some (.lst ws) ∧ Sts K H' ws ss ∧ 1 ≤ ss.length ∧ ss.length ≤ 2800 ∧ ∀ s ∈ ss, s ∈ rs)
      ⟨_, _, us, rs, rfl, sb03, hp3, hF3, hst3, r1, r2, fun s h => h⟩ ?_ ?_
    · rintro i σ H4 hi ⟨x3, x4, ws, ss, rfl, sb4, hp4, hF4, hst4, z1, z2, z3⟩
      have hl4 := Paired.length hst4
      refine ⟨_, rfl, _, ws.length, rfl, .inl ⟨ws, SqL.of hF4, rfl⟩, ws.length, 1, rfl, rfl, _, rfl, ?_⟩
      by_cases c1 : 1 < ws.length
      case neg =>
        rw [decide_eq_false (show ¬ (1 : Int) < ws.length by omega)]
        exact iteF ⟨_, _, ws, ss, rfl, sb4, hp4, hF4, hst4, z1, z2, z3⟩
      rw [decide_eq_true (show (1 : Int) < ws.length by omega)]
      refine iteT ⟨_, rfl, .inl ⟨rfl, _, SqL.of hF4⟩, _, rfl, _, rfl, _, ws.length, rfl, .inl ⟨ws, SqL.of hF4, rfl⟩, p, ws.length, rfl, hp4, by omega, by omega, fun H5 r b0 b1 sb5 hp5 => ?_⟩
      have hF5 := sb5 _ _ nF hF4
      obtain ⟨xp4, hx4⟩ := hp4.lst
      have hst5 := sts_ts (sb5.ts hx4 rfl) hst4
      obtain ⟨n, rfl⟩ := Int.eq_ofNat_of_zero_le b0
      have hn : n < ws.length := by omega
      refine ⟨F0, ws, n, n, ws[n], rfl, rfl, hF5, by omega, by omega, by rw [PyProof.Rows.seqIndex_at (by omega) (by omega)]; rfl, List.getElem?_eq_getElem hn, ?_⟩
      have t6 := ts_upd (K := K) (o' := .lst (ws.eraseIdx n)) hF5 rfl
      refine ⟨_, _, ws.eraseIdx n, ss.eraseIdx n, rfl, fun c u hc e => ?_, ?_, upd_same, sts_ts t6 (paired_erase n hst5), ?_, ?_, fun s h => z3 s (List.mem_of_mem_eraseIdx h)⟩
      · rw [upd_ne (fun z => by subst z; rw [hF0] at e; cases e)]
        exact sb5 _ _ hc (sb4 _ _ hc e)
      · obtain ⟨x, y, e, r⟩ := hp5
        exact ⟨x, y, by rw [upd_ne (Ne.symm nF)]; exact e, r⟩
      · rw [List.length_eraseIdx]
        split <;> omega
      · rw [List.length_eraseIdx]
        split <;> omega
    · rintro σ H4 ⟨x3, x4, ws, ss, rfl, sb4, hp4, hF4, hst4, z1, z2, z3⟩
      obtain ⟨xp4, hx4⟩ := hp4.lst
      refine ⟨_, rfl, p, 4, rfl, hp4, by decide, by decide, fun H5 r b0 b1 sb5 hp5 => ?_⟩
      have hF5 := sb5 _ _ nF hF4
      have hst5 := sts_ts (sb5.ts hx4 rfl) hst4
      have sb05 := sb4.trans sb5
      have hl5 := Paired.length hst5
      obtain ⟨xp5, hx5⟩ := hp5.lst
      refine ⟨rfl, _, rfl, ?_⟩
      refine ite_join (H0 := H5) (fun H' => SB p H H' ∧ PoolAt H' p ∧ ∃ (ws : List V) (ss : List Stt), H' F0 = some (.lst ws) ∧ Sts K H' ws ss ∧ 1 ≤ ss.length ∧ ss.length ≤ 2801 ∧ ∀ s ∈ ss, s ∈ rs ∨ Added s) ⟨sb05, hp5, ws, ss, hF5, hst5, z1, by omega, fun s h => .inl (z3 s h)⟩ (fun _ J => ?_) (fun H6 ⟨sb6, hp6, ws, ss, hF6, hst6, z1, z2, z3⟩ => ?_)
      · refine ⟨_, rfl, .inl ⟨rfl, _, SqL.of hF5⟩, by show 2 ≤ sizeLine; decide, fun pa hpa => ⟨by show 1 ≤ sizeLine; decide, fun pb hpb => ⟨by show 2 ≤ sizeLine; decide, fun pc hpc => ⟨by show 1 ≤ sizeLine; decide, fun pd hpd => ?_⟩⟩⟩⟩
        have u1 := same_upd (o := .tup [.int 1, .int 1]) hpa
        have u2 := same_upd (o := .tup [.ref pa]) hpb
        have u3 := same_upd (o := .tup [.int 0, .int 0]) hpc
        have u4 := same_upd (o := .tup [.ref pc]) hpd
        have ha := (u2.trans (u3.trans u4)) _ _ (upd_same (H := H5) (a := pa) (o := .tup [.int 1, .int 1]))
        have hb := (u3.trans u4) _ _ (upd_same (H := upd H5 pa (.tup [.int 1, .int 1])) (a := pb) (o := .tup [.ref pa]))
        have hc := u4 _ _ (upd_same (H := upd (upd H5 pa (.tup [.int 1, .int 1])) pb (.tup [.ref pa])) (a := pc) (o := .tup [.int 0, .int 0]))
        have hd := (upd_same (H := upd (upd (upd H5 pa (.tup [.int 1, .int 1])) pb (.tup [.ref pa])) pc (.tup [.int 0, .int 0])) (a := pd) (o := .tup [.ref pc]))
        have s56 := ((u1.trans u2).trans u3).trans u4
        generalize upd (upd (upd (upd H5 pa (.tup [.int 1, .int 1])) pb (.tup [.ref pa])) pc (.tup [.int 0, .int 0])) pd (.tup [.ref pc]) = H6 at s56 ha hb hc hd ⊢
        have hp6 := hp5.same s56
        obtain ⟨xp6, hx6⟩ := hp6.lst
        refine ⟨_, rfl, p, 3, rfl, hp6, by decide, by decide, fun H7 k c0 c3 sb7 hp7 => ?_⟩
        obtain ⟨k, rfl⟩ := Int.eq_ofNat_of_zero_le c0
        have ha7 := sb7 _ _ (hp6.ne ha) ha
        have hb7 := sb7 _ _ (hp6.ne hb) hb
        have hc7 := sb7 _ _ (hp6.ne hc) hc
        have hd7 := sb7 _ _ (hp6.ne hd) hd
        have hF7 := sb7 _ _ nF (s56 _ _ hF5)
        have hst7 := sts_ts ((Same.ts s56).trans (sb7.ts hx6 rfl)) hst5
        have sb07 := (sb05.trans (Same.sb s56)).trans sb7
        refine ⟨pd, k, _, rfl, rfl, hd7, by simp, by omega, by omega, by show 1 ≤ 1000; decide, fun pm H8 s8 hm => ?_⟩
        have hz := dps_zeros (K := K) (s8 _ _ hc7) k
        have hp8 := hp7.same s8
        have C9 : ∀ (H9 : Hp) (c : Addr), Same H8 H9 → Dp K H9 (.ref c) (stD ((1, 1) :: zeros k)) → SB p H (upd H9 F0 (.lst (ws ++ [.ref c]))) ∧ PoolAt (upd H9 F0 (.lst (ws ++ [.ref c]))) p ∧ ∃ (ws' : List V) (ss' : List Stt), upd H9 F0 (.lst (ws ++ [.ref c])) F0 = some (.lst ws') ∧ Sts K (upd H9 F0 (.lst (ws ++ [.ref c]))) ws' ss' ∧ 1 ≤ ss'.length ∧ ss'.length ≤ 2801 ∧ ∀ s ∈ ss', s ∈ rs ∨ Added s := by
          intro H9 c s9 dc
          have hF9 := s9 _ _ (s8 _ _ hF7)
          have t9 := ts_upd (K := K) (o' := .lst (ws ++ [.ref c])) hF9 rfl
          refine ⟨fun c u hc e => ?_, ?_, _, ss ++ [(1, 1) :: zeros k], upd_same, sts_ts t9 (sts_snoc (sts_ts (Same.ts (s8.trans s9)) hst7) dc), ?_, ?_, fun s h => ?_⟩
          · rw [upd_ne (fun z => by subst z; rw [hF0] at e; cases e)]
            exact s9 _ _ (s8 _ _ (sb07 _ _ hc e))
          · obtain ⟨x, y, e, r⟩ := hp8.same s9
            exact ⟨x, y, by rw [upd_ne (Ne.symm nF)]; exact e, r⟩
          · rw [List.length_append, List.length_singleton]
            omega
          · rw [List.length_append, List.length_singleton]
            omega
          · rcases List.mem_append.mp h with h | h
            · exact .inl (z3 s h)
            · exact .inr ⟨k, by omega, List.mem_singleton.mp h⟩
        have dpa := dp_pair (K := K) (p := (1, 1)) (s8 _ _ ha7)
        have hlk : (List.replicate (k : Int).toNat [V.ref pc]).flatten.length ≤ 2 := by
          have := dps_len hz
          rw [List.length_map, zeros_length] at this
          have e : (k : Int).toNat = k := by omega
          rw [e]
          omega
        refine ⟨pb, pm, _, _, rfl, rfl, SqT.of (s8 _ _ hb7), SqT.of hm, ?_, fun z => absurd z (by simp), fun _ z => ?_, fun _ _ pn hpn => ?_⟩
        · show 1 + _ ≤ sizeLine
          omega
        · refine ⟨F0, ws, .ref pb, rfl, rfl, s8 _ _ hF7, by omega, J _ (C9 H8 pb (Same.refl _) ?_)⟩
          have k0 : k = 0 := by
            cases k with
            | zero => rfl
            | succ j => 
              have e : ((j + 1 : Nat) : Int).toNat = j + 1 := by omega
              rw [e, List.replicate_succ] at z
              cases z
          subst k0
          exact .tup (SqT.of (s8 _ _ hb7)) (.cons dpa .nil)
        · have v9 := same_upd (o := .tup ([V.ref pa] ++ (List.replicate (k : Int).toNat [V.ref pc]).flatten)) hpn
          refine ⟨F0, ws, .ref pn, rfl, rfl, v9 _ _ (s8 _ _ hF7), by omega, J _ (C9 _ pn v9 ?_)⟩
          have e : (k : Int).toNat = k := by omega
          refine .tup (SqT.of upd_same) ?_
          rw [e]
          exact dps_same (by rw [e] at v9; exact v9) _ _ (.cons dpa hz)
      · refine ⟨_, rfl, _, rfl, _, ws.length, rfl, .inl ⟨ws, SqL.of hF6, rfl⟩, p, ws.length, rfl, hp6, ?_, ?_, fun H7 r c0 c1 sb7 hp7 => ?_⟩
        · have := Paired.length hst6
          omega
        · have := Paired.length hst6
          omega
        have hl6 := Paired.length hst6
        obtain ⟨xp6, hx6⟩ := hp6.lst
        obtain ⟨n, rfl⟩ := Int.eq_ofNat_of_zero_le c0
        have hF7 := sb7 _ _ nF hF6
        have hst7 := sts_ts (sb7.ts hx6 rfl) hst6
        refine ⟨_, rfl, _, rfl, n, rfl, F0, ws, rfl, SqL.of hF7, fun x1 hx1 => ?_⟩
        rw [cut_drop]
        have v1 := same_upd (o := .lst (ws.drop n)) hx1
        refine ⟨_, rfl, _, rfl, n, rfl, F0, ws, rfl, SqL.of (v1 _ _ hF7), fun x2 hx2 => ?_⟩
        rw [cut_take]
        have v2 := same_upd (o := .lst (ws.take n)) hx2
        have hx1' := v2 _ _ (upd_same (H := H7) (a := x1) (o := .lst (ws.drop n)))
        refine ⟨x1, x2, _, _, rfl, rfl, hx1', upd_same, ?_, fun x3 hx3 => ?_⟩
        · rw [List.length_drop, List.length_take]
          omega
        have v3 := same_upd (o := .lst (ws.drop n ++ ws.take n)) hx3
        have v := (v1.trans v2).trans v3
        refine q _ x3 (ws.drop n ++ ws.take n) (ss.drop n ++ ss.take n) ((sb6.trans sb7).trans (Same.sb v)) (hp7.same v) ?_ upd_same (sts_ts (Same.ts v) (paired_append (paired_drop n hst7) (paired_take n hst7))) ?_ ?_ (fun s h => ?_)
        · have hx0 := none_of_same (v1.trans v2) hx3
          cases e : H x3 with
          | none => rfl
          | some u =>
            by_cases z : x3 = p
            · subst z
              obtain ⟨xs, e7⟩ := hp7.lst
              rw [e7] at hx0
              cases hx0
            · rw [(sb6.trans sb7) _ _ z e] at hx0
              cases hx0
        · rw [List.length_append, List.length_drop, List.length_take]
          omega
        · rw [List.length_append, List.length_drop, List.length_take]
          omega
        · rcases List.mem_append.mp h with h | h
          · exact z3 s (List.mem_of_mem_drop h)
          · exact z3 s (List.mem_of_mem_take h)
end
end K76

/-! The walk, 25: _law_with_odd. -/
namespace K76
open PySem PySem.Spec PyProof.Rows L2
/-- the heap without the thing at p -/
def er (p : Addr) (H : Hp) : Hp := fun b => if b = p then none else H b
theorem er_ne {p a : Addr} {H : Hp} (h : a ≠ p) : er p H a = H a := if_neg h
theorem er_le {p : Addr} {H : Hp} : Same (er p H) H := fun c u e => by
  unfold er at e
  split at e
  · cases e
  · exact e
theorem er_sb {p : Addr} {H H' : Hp} (s : SB p H H') : Same (er p H) (er p H') := fun c u e => by
  unfold er at e ⊢
  split at e
  · cases e
  · rename_i h
    rw [if_neg h]
    exact s _ _ h e
theorem er_same {p : Addr} {H H' : Hp} (s : Same H H') : Same (er p H) (er p H') := er_sb (Same.sb s)
theorem er_new {p a : Addr} {H : Hp} {o : HO} (h : a ≠ p) : er p (upd H a o) a = some o := by rw [er_ne h]; exact upd_same
section
variable {K : PySem.W.Frag}
/-- an expression that makes new data -/
def Rx (K : PySem.W.Frag) (p : Addr) (σ : L2.St) (H0 : Hp) (te : TE) (d : PyData) : Prop := ∀ H, Same H0 H → ∀ R : VK, (∀ H' v, Same H H' → Dp K (er p H') v d → R v H') → te σ H R
def Rxs (K : PySem.W.Frag) (p : Addr) (σ : L2.St) (H0 : Hp) (ta : TA) (ds : List PyData) : Prop := ∀ H, Same H0 H → ∀ R : List V → Hp → Prop, (∀ H' vs, Same H H' → DpAll K (er p H') vs ds → R vs H') → ta σ H R
variable {p : Addr} {σ : L2.St} {H0 : Hp}
theorem rx_int (i : Int) : Rx K p σ H0 (tC (.int i)) (.int i) := fun H s R q => q H _ (Same.refl _) (.int i)
theorem rx_non : Rx K p σ H0 (tC .non) .none := fun H s R q => q H _ (Same.refl _) .non
theorem rx_bl (b : Bool) : Rx K p σ H0 (tC (.bl b)) (.bool b) := fun H s R q => q H _ (Same.refl _) (.bl b)
theorem rx_str (x : Str) : Rx K p σ H0 (tC (.str x)) (.str x) := fun H s R q => q H _ (Same.refl _) (.str x)
theorem rx_neg (i : Int) : Rx K p σ H0 (tUn (rU fun i => .int (-i)) (tC (.int i))) (.int (-i)) := fun H s R q => ⟨i, rfl, q H _ (Same.refl _) (.int (-i))⟩
theorem rx_add {i j : Int} {n : Nat} (h : σ[n]? = some (some (.int i))) : Rx K p σ H0 (tOp (rI0 fun i j => .int (i + j)) (tVar n) (tC (.int j))) (.int (i + j)) := fun H s R q => ⟨_, h, i, j, rfl, rfl, q H _ (Same.refl _) (.int (i + j))⟩
theorem rxs_nil : Rxs K p σ H0 tNil [] := fun H s R q => q H _ (Same.refl _) .nil
theorem rxs_cons {te : TE} {ta : TA} {d : PyData} {ds : List PyData} (h : Rx K p σ H0 te d) (t : Rxs K p σ H0 ta ds) : Rxs K p σ H0 (tCons te ta) (d :: ds) := fun H s R q =>
  h H s _ fun H1 v s1 d1 => t H1 (s.trans s1) _ fun H2 vs s2 d2 => q H2 _ (s1.trans s2) (.cons (dp_same (er_same s2) _ _ d1) d2)
theorem rx_tup {ta : TA} {ds : List PyData} {u : HO} (hp : H0 p = some u) (hz : ds.length ≤ 100) (t : Rxs K p σ H0 ta ds) : Rx K p σ H0 (tTup ta) (.tuple ds) := fun H s R q =>
  t H s _ fun H1 vs s1 d1 => by
    have hl := dps_len d1
    have hsl := sizeLine_eq
    refine ⟨by omega, fun a ha => ?_⟩
    have hp1 := (s.trans s1) _ _ hp
    have ne : a ≠ p := Ne.symm (ne_of_none hp1 ha)
    have s2 := same_upd (o := .tup vs) ha
    exact q _ _ (s1.trans s2) (.tup (SqT.of (er_new ne)) (dps_same (er_same s2) _ _ d1))
theorem rx_lst {ta : TA} {ds : List PyData} {u : HO} (hp : H0 p = some u) (hz : ds.length ≤ 100) (t : Rxs K p σ H0 ta ds) : Rx K p σ H0 (tLst ta) (.list ds) := fun H s R q =>
  t H s _ fun H1 vs s1 d1 => by
    have hl := dps_len d1
    have hsl := sizeLine_eq
    refine ⟨by omega, fun a ha => ?_⟩
    have hp1 := (s.trans s1) _ _ hp
    have ne : a ≠ p := Ne.symm (ne_of_none hp1 ha)
    have s2 := same_upd (o := .lst vs) ha
    exact q _ _ (s1.trans s2) (.lst (SqL.of (er_new ne)) (dps_same (er_same s2) _ _ d1))
theorem dps_rep {H : Hp} {v : V} {d : PyData} (h : Dp K H v d) : ∀ k : Nat, DpAll K H (List.replicate k [v]).flatten (List.replicate k d)
  | 0 => .nil
  | k + 1 => by
    rw [List.replicate_succ, List.replicate_succ]
    exact .cons h (dps_rep h k)
theorem rx_rep {te : TE} {d : PyData} {u : HO} {n : Nat} {f : Nat} (hp : H0 p = some u) (hn : σ[n]? = some (some (.int f))) (hf : f ≤ 100) (t : Rx K p σ H0 te d) : Rx K p σ H0 (tOp rRep (tLst (tCons te tNil)) (tVar n)) (.list (List.replicate f d)) := fun H s R q =>
  t H s _ fun H1 v s1 d1 => by
    have hsl := sizeLine_eq
    refine ⟨by show 1 ≤ sizeLine; omega, fun l hl => ⟨_, hn, l, f, [v], rfl, rfl, upd_same, by omega, by omega, ?_, fun a ha => ?_⟩⟩
    · show 1 * (f : Int).toNat ≤ sizeLine
      omega
    have s2 := same_upd (o := .lst [v]) hl
    have hp2 := ((s.trans s1).trans s2) _ _ hp
    have ne : a ≠ p := Ne.symm (ne_of_none hp2 ha)
    have s3 := same_upd (o := .lst (List.replicate (f : Int).toNat [v]).flatten) ha
    have e : (f : Int).toNat = f := by omega
    refine q _ _ (s1.trans (s2.trans s3)) (.lst (xs := (List.replicate (f : Int).toNat [v]).flatten) (SqL.of (er_new ne)) ?_)
    refine dps_same (er_same s3) _ _ ?_
    have := dps_rep (dp_same (er_same s2) _ _ d1) f
    rw [e]
    exact this
theorem rx_cat {te : TE} {e : PyData} {u : HO} {n : Nat} {ar : Addr} {zs : List PyData} {xr : List V} (hp : H0 p = some u) (hn : σ[n]? = some (some (.ref ar))) (hr : er p H0 ar = some (.tup xr)) (hx : DpAll K (er p H0) xr zs) (hz : zs.length ≤ 100) (t : Rx K p σ H0 te e) :
    Rx K p σ H0 (tOp (rCatA K) (tTup (tCons te tNil)) (tVar n)) (.tuple (e :: zs)) := fun H s R q =>
  t H s _ fun H1 v s1 d1 => by
    have hsl := sizeLine_eq
    have hxl := dps_len hx
    refine ⟨by show 1 ≤ sizeLine; omega, fun a ha => ?_⟩
    have s2 := same_upd (o := .tup [v]) ha
    have hp1 := (s.trans s1) _ _ hp
    have ne : a ≠ p := Ne.symm (ne_of_none hp1 ha)
    have d2 := dp_same (er_same (p := p) s2) _ _ d1
    have s02 := (s.trans s1).trans s2
    have hx2 := dps_same (er_same (p := p) s02) _ _ hx
    have hr2 := (er_same (p := p) s02) _ _ hr
    have hr3 := er_le _ _ hr2
    refine ⟨_, hn, a, ar, [v], xr, rfl, rfl, SqT.of upd_same, SqT.of hr3, by show 1 + _ ≤ sizeLine; omega, fun z => absurd z (by simp), fun _ z => ?_, fun _ _ b hb => ?_⟩
    · subst z
      cases hx2
      exact q _ _ (s1.trans s2) (.tup (SqT.of (er_new ne)) (.cons d2 .nil))
    · have s3 := same_upd (o := .tup ([v] ++ xr)) hb
      have hp2 := s02 _ _ hp
      have ne3 : b ≠ p := Ne.symm (ne_of_none hp2 hb)
      exact q _ _ (s1.trans (s2.trans s3)) (.tup (SqT.of (er_new ne3)) (dps_same (er_same s3) _ _ (.cons d2 hx2)))
end
end K76

/-! The walk, 26: _law_with_odd. -/
namespace K76
open PySem PySem.Spec PyProof.Rows L2
section
variable {P : Program} {w : World} {K : PySem.W.Frag} {mg : Str → Option Value} {base : Heap}
/-- the odd things -/
def oddA (f : Nat) : List PyData := [.none, .int 5, .list (List.replicate f (.list [.int 0, .int 0])), .list (List.replicate f (.tuple [.int 0, .int 0])), .tuple (.tuple [.int 0] :: (zeros (f - 1)).map pairD), .tuple (.tuple [.int 1, .int 0] :: (zeros (f - 1)).map pairD), .tuple (.tuple [.bool true, .int 1] :: (zeros (f - 1)).map pairD), .tuple []]
def oddB (f : Nat) (b : Int) : List PyData := [.tuple (.tuple [.int (-1), .int 0] :: (zeros (f - 1)).map pairD), .tuple (.tuple [.int 0, .int (b + 1)] :: (zeros (f - 1)).map pairD), .tuple (.tuple [.int 0, .str "0"] :: (zeros (f - 1)).map pairD), .tuple (.none :: (zeros (f - 1)).map pairD), .tuple (.list [.int 0, .int 0] :: (zeros (f - 1)).map pairD)]
theorem entD_head {e : PyData} {f : Nat} (hf : 1 ≤ f ∧ f ≤ 3) (hs : SeqAt.shaped (.tuple (e :: (zeros (f - 1)).map pairD)) = true) (he : PairOk e) : EntD (.tuple (e :: (zeros (f - 1)).map pairD)) := by
  refine ⟨hs, fun ds h => ?_⟩
  cases h
  refine ⟨?_, fun d hd => ?_⟩
  · rw [List.length_cons, List.length_map, zeros_length]
    omega
  · rcases List.mem_cons.mp hd with rfl | hd
    · exact he
    · obtain ⟨p, hp, rfl⟩ := List.mem_map.mp hd
      unfold zeros at hp
      rw [(List.mem_replicate.mp hp).2]
      exact .iij 0 0 (by decide) (by decide)
theorem entD_lst {ds : List PyData} (hs : SeqAt.shaped (.list ds) = true) : EntD (.list ds) := ⟨hs, fun _ h => by cases h⟩
theorem three {f : Nat} (hf : 1 ≤ f ∧ f ≤ 3) : f = 1 ∨ f = 2 ∨ f = 3 := by omega
theorem odd_ent {f : Nat} {b : Int} (hf : 1 ≤ f ∧ f ≤ 3) (hb : 1 ≤ b ∧ b ≤ 8) : ∀ d ∈ oddA f ++ oddB f b, EntD d := by
  intro d hd
  simp only [oddA, oddB, List.cons_append, List.nil_append, List.mem_cons, List.not_mem_nil, or_false] at hd
  rcases hd with rfl | rfl | rfl | rfl | rfl | rfl | rfl | rfl | rfl | rfl | rfl | rfl | rfl
  · exact ⟨by decide +kernel, fun _ h => by cases h⟩
  · exact ⟨by decide +kernel, fun _ h => by cases h⟩
  · exact entD_lst (by rcases three hf with rfl | rfl | rfl <;> decide +kernel)
  · exact entD_lst (by rcases three hf with rfl | rfl | rfl <;> decide +kernel)
  · exact entD_head hf (by rcases three hf with rfl | rfl | rfl <;> decide +kernel) (.len _ (by simp))
  · exact entD_head hf (by rcases three hf with rfl | rfl | rfl <;> decide +kernel) (.iij 1 0 (by decide) (by decide))
  · exact entD_head hf (by rcases three hf with rfl | rfl | rfl <;> decide +kernel) .tru
  · exact ⟨by decide +kernel, fun _ h => by cases h; exact ⟨by simp, fun e h => by cases h⟩⟩
  · exact entD_head hf (stD_shaped ((-1, 0) :: zeros (f - 1))) (.iij (-1) 0 (by decide) (by decide))
  · exact entD_head hf (stD_shaped ((0, b + 1) :: zeros (f - 1))) (.iij 0 (b + 1) (by decide) (by omega))
  · exact entD_head hf (by rcases three hf with rfl | rfl | rfl <;> decide +kernel) .txt
  · exact entD_head hf (by rcases three hf with rfl | rfl | rfl <;> decide +kernel) (.no _ rfl)
  · exact entD_head hf (by rcases three hf with rfl | rfl | rfl <;> decide +kernel) (.no _ rfl)
theorem lst_read {p : Addr} {σ : L2.St} {H : Hp} {ta : TA} {ds : List PyData} {u : HO} {Q : VK} (hp : H p = some u) (hz : ds.length ≤ 100) (t : Rxs K p σ H ta ds) (q : ∀ H' a vs, Same H H' → H' a = some (.lst vs) → a ≠ p → DpAll K (er p H') vs ds → Q (.ref a) H') : tLst ta σ H Q :=
  t H (Same.refl _) _ fun H1 vs s1 d1 => by
    have hl := dps_len d1
    have hsl := sizeLine_eq
    refine ⟨by omega, fun a ha => ?_⟩
    have ne : a ≠ p := Ne.symm (ne_of_none (s1 _ _ hp) ha)
    have s2 := same_upd (o := .lst vs) ha
    exact q _ _ _ (s1.trans s2) upd_same ne (dps_same (er_same s2) _ _ d1)
theorem seq_asg {t : TE} {i : Nat} {u : TS} {D : Ends} {σ : L2.St} {H : Hp} (h : t σ H fun v H1 => u D (σ.set i (some v)) H1) : tSeq (tAsg t (gName i)) u D σ H := h
def spOdd (K : PySem.W.Frag) : Sp := fun vs H Q _ => ∃ (p l : Addr) (f : Nat) (b : Int) (us : List V) (ss : List Stt), vs = [.ref p, .ref l, .int f, .int b] ∧ PoolAt H p ∧ H l = some (.lst us) ∧ l ≠ p ∧ Sts K H us ss ∧ ss.length ≤ 2801 ∧ (1 ≤ f ∧ f ≤ 3) ∧ (1 ≤ b ∧ b ≤ 8) ∧
  ∀ H' x ws ds, SB p H H' → PoolAt H' p → H' x = some (.lst ws) → DpAll K H' ws ds → ds.length = ss.length + 1 → (∀ d ∈ ds, EntD d ∨ ∃ s ∈ ss, d = stD s) → Q (.ref x) H'
theorem sc_odd : FnScope ["_law_pool", "_law_states", "_law_files", "_law_blocks", "_law_rest", "_law_some", "_law_at", "_law_odd"] ["_law_pool", "_law_states", "_law_files", "_law_blocks"] (defScope (top 65)) := ⟨rfl, rfl, rfl, by decide +kernel, rfl, by decide +kernel, by decide +kernel⟩
theorem ok_odd (T : Tx K mg) : FnG P w K mg base CX0 2 "_law_with_odd" ["_law_pool", "_law_states", "_law_files", "_law_blocks"] (spOdd K) := by
  obtain ⟨fd, F⟩ := T.f_l_with_odd
  refine FnG.of F T.g_l_with_odd (fun _ _ _ _ _ _ us hl => match us, hl with | [_, _, _, _], _ => rfl) (F.ok sc_odd (fun vs H Q E h => ?_) (fun cdv A outer s H vs Q E hr h => ?_))
  · obtain ⟨p, l, f, b, us, ss, rfl, _⟩ := h
    rfl
  · obtain ⟨p, l, f, b, us, ss, rfl, hp, hl, hlp, hst, z2, hf, hb, q⟩ := h
    have nd := sc_odd.nd
    have hsl := sizeLine_eq
    have G : FnG P w K mg base CX0 1 "_law_draw" ["_law_pool", "_law_many"] spDraw := ok_draw T
    refine ⟨_, pss_cons (ps_set (i := 4) nd rfl (.inl rfl) (pe_op op_mulT (pe_tup (pa_cons (pe_tup (pa_cons pe_int (pa_cons pe_int pa_nil))) pa_nil)) (pe_op op_sub (pv 2) pe_int)))
      (pss_cons (ps_set (i := 5) nd rfl (.inl rfl) (pe_lst (pa_cons pe_non (pa_cons pe_int (pa_cons (pe_op op_rep (pe_lst (pa_cons (pe_lst (pa_cons pe_int (pa_cons pe_int pa_nil))) pa_nil)) (pv 2)) (pa_cons (pe_op op_rep (pe_lst (pa_cons (pe_tup (pa_cons pe_int (pa_cons pe_int pa_nil))) pa_nil)) (pv 2))
        (pa_cons (pe_op op_catA (pe_tup (pa_cons (pe_tup (pa_cons pe_int pa_nil)) pa_nil)) (pv 4))
        (pa_cons (pe_op op_catA (pe_tup (pa_cons (pe_tup (pa_cons pe_int (pa_cons pe_int pa_nil))) pa_nil)) (pv 4))
        (pa_cons (pe_op op_catA (pe_tup (pa_cons (pe_tup (pa_cons pe_bl (pa_cons pe_int pa_nil))) pa_nil)) (pv 4))
        (pa_cons (pe_tup pa_nil) pa_nil))))))))))
      (pss_cons (ps_set (i := 5) nd rfl (.inl rfl) (pe_op op_cat (pv 5) (pe_lst
        (pa_cons (pe_op op_catA (pe_tup (pa_cons (pe_tup (pa_cons (pe_un un_neg pe_int) (pa_cons pe_int pa_nil))) pa_nil)) (pv 4))
        (pa_cons (pe_op op_catA (pe_tup (pa_cons (pe_tup (pa_cons pe_int (pa_cons (pe_op op_add (pv 3) pe_int) pa_nil))) pa_nil)) (pv 4))
        (pa_cons (pe_op op_catA (pe_tup (pa_cons (pe_tup (pa_cons pe_int (pa_cons pe_str pa_nil))) pa_nil)) (pv 4))
        (pa_cons (pe_op op_catA (pe_tup (pa_cons pe_non pa_nil)) (pv 4))
        (pa_cons (pe_op op_catA (pe_tup (pa_cons (pe_lst (pa_cons pe_int (pa_cons pe_int pa_nil))) pa_nil)) (pv 4)) pa_nil))))))))
      (pss_cons (ps_par (i := 6) (j := 7) (by rfl) nd rfl rfl (by decide) rfl rfl (pa_cons (pe_g G hr (pa_cons (pv 0) (pa_cons (pe_op op_add (pe_callB call_len rfl T.m_len boot_len' (pa_cons (pv 1) pa_nil)) pe_int) pa_nil)))
        (pa_cons (pe_ix ix_list (pv 5) (pe_g G hr (pa_cons (pv 0) (pa_cons pe_int pa_nil))) (fun _ _ => rfl)) pa_nil)) (by rfl))
      (pss_one (ps_ret (pe_op op_cat (pe_op op_cat (pe_slice sl_list (pv 1) po_none (po_some (pv 6))) (pe_lst (pa_cons (pv 7) pa_nil))) (pe_slice sl_list (pv 1) (po_some (pv 6)) po_none))))))), ?_⟩
    refine ⟨by show 2 ≤ sizeLine; decide, fun pc hpc => ⟨by show 1 ≤ sizeLine; decide, fun pd hpd => ?_⟩⟩
    have u3 := same_upd (o := .tup [.int 0, .int 0]) hpc
    have u4 := same_upd (o := .tup [.ref pc]) hpd
    have hc := u4 _ _ (upd_same (H := H) (a := pc) (o := .tup [.int 0, .int 0]))
    have hd := (upd_same (H := upd H pc (.tup [.int 0, .int 0])) (a := pd) (o := .tup [.ref pc]))
    have s1 := u3.trans u4
    generalize upd (upd H pc (.tup [.int 0, .int 0])) pd (.tup [.ref pc]) = H1 at s1 hc hd ⊢
    refine ⟨_, rfl, f, 1, rfl, rfl, pd, (f : Int) - 1, [.ref pc], rfl, rfl, hd, by simp, by omega, by omega, by show 1 ≤ 1000; decide, fun pr H2 s2 hr2 => ?_⟩
    have s12 := s1.trans s2
    obtain ⟨xp, hxp⟩ := hp.lst
    have hxp2 := s12 _ _ hxp
    have ncp : pc ≠ p := (hp.same s1).ne hc
    have nrp : pr ≠ p := (hp.same s12).ne hr2
    have hz := dps_zeros (K := K) (H := er p H2) (p1 := pc) (by rw [er_ne ncp]; exact s2 _ _ hc) (f - 1)
    have ef : ((f : Int) - 1).toNat = f - 1 := by omega
    rw [ef] at hr2
    have hre : er p H2 pr = some (.tup (List.replicate (f - 1) [V.ref pc]).flatten) := by rw [er_ne nrp]; exact hr2
    have hzl : ((zeros (f - 1)).map pairD).length ≤ 100 := by rw [List.length_map, zeros_length]; omega
    generalize hzs : (zeros (f - 1)).map pairD = zs at hz hzl
    refine seq_asg (lst_read (K := K) (ds := [.none, .int 5, .list (List.replicate f (.list [.int 0, .int 0])), .list (List.replicate f (.tuple [.int 0, .int 0])), .tuple (.tuple [.int 0] :: zs), .tuple (.tuple [.int 1, .int 0] :: zs), .tuple (.tuple [.bool true, .int 1] :: zs), .tuple []]) hxp2 (by simp)
      (rxs_cons rx_non (rxs_cons (rx_int 5) (rxs_cons (rx_rep hxp2 rfl (by omega) (rx_lst hxp2 (by simp) (rxs_cons (rx_int 0) (rxs_cons (rx_int 0) rxs_nil))))
      (rxs_cons (rx_rep hxp2 rfl (by omega) (rx_tup hxp2 (by simp) (rxs_cons (rx_int 0) (rxs_cons (rx_int 0) rxs_nil))))
      (rxs_cons (rx_cat hxp2 rfl hre hz hzl (rx_tup hxp2 (by simp) (rxs_cons (rx_int 0) rxs_nil)))
      (rxs_cons (rx_cat hxp2 rfl hre hz hzl (rx_tup hxp2 (by simp) (rxs_cons (rx_int 1) (rxs_cons (rx_int 0) rxs_nil))))
      (rxs_cons (rx_cat hxp2 rfl hre hz hzl (rx_tup hxp2 (by simp) (rxs_cons (rx_bl true) (rxs_cons (rx_int 1) rxs_nil))))
      (rxs_cons (rx_tup hxp2 (by simp) rxs_nil) rxs_nil)))))))) (fun H3 la xa s3 hla nla da => ?_))
    have hxp3 := s3 _ _ hxp2
    have hre3 := (er_same (p := p) s3) _ _ hre
    have hz3 := dps_same (er_same (p := p) s3) _ _ hz
    refine seq_asg ⟨_, rfl, lst_read (K := K) (ds := [.tuple (.tuple [.int (-1), .int 0] :: zs), .tuple (.tuple [.int 0, .int (b + 1)] :: zs), .tuple (.tuple [.int 0, .str "0"] :: zs), .tuple (.none :: zs), .tuple (.list [.int 0, .int 0] :: zs)]) hxp3 (by simp)
      (rxs_cons (rx_cat hxp3 rfl hre3 hz3 hzl (rx_tup hxp3 (by simp) (rxs_cons (rx_neg 1) (rxs_cons (rx_int 0) rxs_nil))))
      (rxs_cons (rx_cat hxp3 rfl hre3 hz3 hzl (rx_tup hxp3 (by simp) (rxs_cons (rx_int 0) (rxs_cons (rx_add rfl) rxs_nil))))
      (rxs_cons (rx_cat hxp3 rfl hre3 hz3 hzl (rx_tup hxp3 (by simp) (rxs_cons (rx_int 0) (rxs_cons (rx_str "0") rxs_nil))))
      (rxs_cons (rx_cat hxp3 rfl hre3 hz3 hzl rx_non)
      (rxs_cons (rx_cat hxp3 rfl hre3 hz3 hzl (rx_lst hxp3 (by simp) (rxs_cons (rx_int 0) (rxs_cons (rx_int 0) rxs_nil)))) rxs_nil))))) (fun H4 lb xb s4 hlb nlb db => ?_)⟩
    have la8 := dps_len da
    have lb5 := dps_len db
    refine ⟨la, lb, xa, xb, rfl, rfl, s4 _ _ hla, hlb, by rw [la8, lb5]; show 13 ≤ sizeLine; decide, fun l5 h5 => ?_⟩
    have v5 := same_upd (o := .lst (xa ++ xb)) h5
    have h55 : upd H4 l5 (.lst (xa ++ xb)) l5 = some (.lst (xa ++ xb)) := upd_same
    have n5 : l5 ≠ p := Ne.symm (ne_of_none (s4 _ _ hxp3) h5)
    have dab := dps_append (dps_same (er_same (p := p) (s4.trans v5)) _ _ da) (dps_same (er_same (p := p) v5) _ _ db)
    have s05 := ((s12.trans s3).trans s4).trans v5
    generalize upd H4 l5 (.lst (xa ++ xb)) = H5 at v5 h55 dab s05 ⊢
    have hl5 := s05 _ _ hl
    have hp5 := hp.same s05
    have hlen := Paired.length hst
    refine ⟨_, rfl, _, rfl, _, us.length, rfl, .inl ⟨us, SqL.of hl5, rfl⟩, us.length, 1, rfl, rfl, p, _, rfl, hp5, by omega, by omega, fun H6 r a0 a1 sb6 hp6 => ?_⟩
    obtain ⟨n, rfl⟩ := Int.eq_ofNat_of_zero_le a0
    have h56 := sb6 _ _ n5 h55
    have hl6 := sb6 _ _ hlp hl5
    have dab6 := dps_same (er_sb sb6) _ _ dab
    refine ⟨_, rfl, _, rfl, p, 13, rfl, hp6, by decide, by decide, fun H7 r2 b0 b1 sb7 hp7 => ?_⟩
    obtain ⟨m, rfl⟩ := Int.eq_ofNat_of_zero_le b0
    have h57 := sb7 _ _ n5 h56
    have hl7 := sb7 _ _ hlp hl6
    have dab7 := dps_same (er_sb sb7) _ _ dab6
    have hxl : (xa ++ xb).length = 13 := by rw [List.length_append, la8, lb5]; rfl
    have hm : m < (xa ++ xb).length := by omega
    obtain ⟨d, hd1, hd2⟩ := dps_get dab7 (List.getElem?_eq_getElem hm)
    have hde : EntD d := odd_ent hf hb d (by
      have h := List.mem_of_getElem? hd1
      rw [← hzs] at h
      exact h)
    refine ⟨l5, _, m, _, rfl, rfl, SqL.of h57, atI_nat (List.getElem?_eq_getElem hm), _, _, rfl, ?_⟩
    have sb07 : SB p H H7 := ((Same.sb s05).trans sb6).trans sb7
    have hst7 := sts_ts (sb07.ts hxp rfl) hst
    have hd7 := dp_same er_le _ _ hd2
    generalize (xa ++ xb)[m] = y at hd2 hd7 ⊢
    refine ⟨_, rfl, _, rfl, n, rfl, l, us, rfl, SqL.of hl7, fun x1 hx1 => ?_⟩
    rw [cut_take]
    have v1 := same_upd (o := .lst (us.take n)) hx1
    refine ⟨_, rfl, by show 1 ≤ sizeLine; omega, fun x2 hx2 => ?_⟩
    have v2 := same_upd (o := .lst [y]) hx2
    refine ⟨x1, x2, _, _, rfl, rfl, v2 _ _ upd_same, upd_same, ?_, fun x3 hx3 => ?_⟩
    · rw [List.length_take]
      show _ + 1 ≤ sizeLine
      omega
    have v3 := same_upd (o := .lst (us.take n ++ [y])) hx3
    have v13 := (v1.trans v2).trans v3
    refine ⟨_, rfl, _, rfl, n, rfl, l, us, rfl, SqL.of (v13 _ _ hl7), fun x4 hx4 => ?_⟩
    rw [cut_drop]
    have v4 := same_upd (o := .lst (us.drop n)) hx4
    refine ⟨x3, x4, _, _, rfl, rfl, v4 _ _ upd_same, upd_same, ?_, fun x6 hx6 => ?_⟩
    · rw [List.length_append, List.length_take, List.length_drop]
      show _ + 1 + _ ≤ sizeLine
      omega
    have v6 := same_upd (o := .lst (us.take n ++ [y] ++ us.drop n)) hx6
    have v16 := (v13.trans v4).trans v6
    have D7 := sts_dps hst7
    refine q _ x6 _ ((ss.map stD).take n ++ [d] ++ (ss.map stD).drop n) (sb07.trans (Same.sb v16)) (hp7.same v16) upd_same (dps_same v16 _ _ (dps_append (dps_append (dps_take n D7) (.cons hd7 .nil)) (dps_drop n D7))) ?_ (fun e he => ?_)
    · simp only [List.length_append, List.length_take, List.length_drop, List.length_map, List.length_singleton]
      omega
    · rcases List.mem_append.mp he with he | he
      · rcases List.mem_append.mp he with he | he
        · obtain ⟨s, h1, h2⟩ := List.mem_map.mp (List.mem_of_mem_take he)
          exact .inr ⟨s, h1, h2.symm⟩
        · rw [List.mem_singleton.mp he]
          exact .inl hde
      · obtain ⟨s, h1, h2⟩ := List.mem_map.mp (List.mem_of_mem_drop he)
        exact .inr ⟨s, h1, h2.symm⟩
end
end K76

/-! The walk, 27: _law_true. -/
namespace K76
open PySem PySem.Spec PyProof.Rows L2
theorem nodup_len : ∀ {l m : List Stt}, l.Nodup → (∀ x ∈ l, x ∈ m) → l.length ≤ m.length
  | [], _, _, _ => Nat.zero_le _
  | a :: r, m, nd, h => by
    have ha := h a (List.mem_cons_self ..)
    obtain ⟨n1, n2⟩ := List.nodup_cons.mp nd
    have := nodup_len (l := r) (m := m.erase a) n2 fun x hx => (List.mem_erase_of_ne (fun z : x = a => n1 (by rw [← z]; exact hx))).mpr (h x (List.mem_cons_of_mem _ hx))
    rw [List.length_erase_of_mem ha] at this
    have hp := List.length_pos_of_mem ha
    rw [List.length_cons]
    omega
theorem nodup_fold : ∀ (l f : List Stt), f.Nodup → (l.foldl onceStep f).Nodup
  | [], f, h => h
  | a :: r, f, h => by
    rw [List.foldl_cons]
    refine nodup_fold r _ ?_
    unfold onceStep
    split
    · exact h
    · rename_i c
      rw [List.nodup_append]
      exact ⟨h, by simp, fun x hx y hy z => c (by rw [List.mem_singleton.mp hy] at z; exact z ▸ hx)⟩
theorem once_len {l m : List Stt} (h : ∀ x ∈ l, x ∈ m) : (eachOnce l).length ≤ m.length := nodup_len (nodup_fold l [] .nil) fun x hx => h x ((mem_eachOnce l x).mp hx)
theorem Closed.iff {bk : Bk} {b t : Int} {f : Nat} {S S' : Stt → Prop} (C : Closed bk b f t S) (h : ∀ s, S' s ↔ S s) : Closed bk b f t S' := ⟨(h _).mpr C.zero, fun st hs n m hn hm ht => by
  obtain ⟨s', e, q⟩ := C.next st ((h _).mp hs) n m hn hm ht
  exact ⟨s', e, (h _).mpr q⟩⟩
theorem listed_none {b t : Int} {f : Nat} {i : Option Int} {d : PyData} (h : listed b f t i d = true) : listed b f t none d = true := by
  unfold listed at h ⊢
  simp only [Bool.and_eq_true] at h ⊢
  exact ⟨h.1, h.2.1, h.2.2.1, rfl⟩
/-- a table of listed states that is closed -/
def TOk (K : PySem.W.Frag) (bk : Bk) (b t : Int) (f : Nat) (ss : List Stt) (H : Hp) (v : V) : Prop := ∃ (ta : Addr) (us : List V) (rr : List Stt), v = .ref ta ∧ TableAt K H ta us ∧ Sts K H us rr ∧ rr.length ≤ 5000 ∧ (∀ s ∈ rr, s ∈ ss) ∧ Closed bk b f t (· ∈ rr)
theorem TOk.same {K : PySem.W.Frag} {bk : Bk} {b t : Int} {f : Nat} {ss : List Stt} {H H' : Hp} {v : V} (h : TOk K bk b t f ss H v) (s : Same H H') : TOk K bk b t f ss H' v := by
  obtain ⟨ta, us, rr, e, h1, h2, h3⟩ := h
  exact ⟨ta, us, rr, e, h1.same s, sts_ts (Same.ts s) h2, h3⟩
section
variable {P : Program} {w : World} {K : PySem.W.Frag} {mg : Str → Option Value} {base : Heap}
theorem ifand_read {tA tB : TT} {t u : L2.TS} {D : Ends} {σ : L2.St} {H : Hp} (c1 : Bool) (hA : ∀ R : Bool → Hp → Prop, R c1 H → tA σ H R) (hB : c1 = true → ∀ R : Bool → Hp → Prop, (∀ H', Same H H' → R false H') → tB σ H R) (stay : ∀ H', Same H H' → u D σ H') : tIfS (tAnd tA tB) t u D σ H := by
  refine hA _ ?_
  cases c1 with
  | false => exact iteF (iteF (stay H (Same.refl H)))
  | true => exact iteT (hB rfl _ fun H' s => iteF (stay H' s))
theorem seq_if {c : TT} {t u v : L2.TS} {D : Ends} {σ : L2.St} {H : Hp} (h : tIfS c t u { D with nx := v D } σ H) : tSeq (tIfS c t u) v D σ H := h
def spTrue (K : PySem.W.Frag) : Sp := fun vs H Q _ => ∃ (a l : Addr) (bk : Bk) (b t : Int) (f : Nat) (i : Option Int) (us : List V) (ds : List PyData) (n : Nat), vs = [.ref a, .int b, .int f, .int t, .ref l, idV i] ∧ bk.Ok ∧ PartsAt H a bk ∧ (1 ≤ b ∧ b ≤ 300) ∧ (1 ≤ f ∧ f ≤ 8) ∧ (0 ≤ t ∧ t ≤ 300) ∧
  H l = some (.lst us) ∧ DpAll K H us ds ∧ us.length ≤ 4000 ∧ checkM bk b f t i ds = .ok n ∧ ∀ H', Same H H' → Q (.bl true) H'
theorem sc_true : FnScope ["_law_parts_here", "_law_blocks", "_law_files", "_law_total", "_law_states", "_law_most", "_law_book_here", "_law_reached", "_law_least", "_law_table", "_law_one", "_law_state"] ["_law_parts_here", "_law_blocks", "_law_files", "_law_total", "_law_states", "_law_most"] (defScope (top 69)) := ⟨rfl, rfl, rfl, by decide +kernel, rfl, by decide +kernel, by decide +kernel⟩
theorem ok_true (T : Tx K mg) : FnG P w K mg base CX0 9 "_law_true" ["_law_parts_here", "_law_blocks", "_law_files", "_law_total", "_law_states", "_law_most"] (spTrue K) := by
  obtain ⟨fd, F⟩ := T.f_l_true
  refine FnG.of F T.g_l_true (fun _ _ _ _ _ _ us hl => match us, hl with | [_, _, _, _, _, _], _ => rfl) (F.ok sc_true (fun vs H Q E h => ?_) (fun cdv A outer s H vs Q E hr h => ?_))
  · obtain ⟨a, l, bk, b, t, f, i, us, ds, n, rfl, _⟩ := h
    rfl
  · obtain ⟨a, l, bk, b, t, f, i, us, ds, n, rfl, ok, PA, ⟨b1, b2⟩, ⟨f1, f2⟩, ⟨t0, t2⟩, hl, hds, hul, hck, q⟩ := h
    have nd := sc_true.nd
    have hsl := sizeLine_eq
    obtain ⟨hn, hlist, CL⟩ := checkM_inv hck
    have hst := dps_sts' hds hlist
    generalize hss : ds.map unD = ss at CL hst
    refine ⟨_, pss_cons (ps_set (i := 6) nd rfl (.inl rfl) (pe_g ((ok_lbook T).mono (by decide)) hr (pa_cons (pv 0) pa_nil)))
      (pss_cons (ps_if (pt_cmpR op_gt (pv 3) (pe_g ((ok_never_refused T).mono (by decide)) hr (pa_cons (pv 6) (pa_cons (pv 1) (pa_cons (pv 2) pa_nil)))) (nomark _)) (pss_one (ps_ret pe_bl)) pss_nil)
      (pss_cons (ps_set (i := 7) nd rfl (.inl rfl) (pe_g ((ok_closure T).mono (by decide)) hr (pa_cons (pv 0) (pa_cons (pv 1) (pa_cons (pv 2) (pa_cons (pv 3) (pa_cons (pe_lst (pa_cons (pe_op op_mulT (pe_tup (pa_cons (pe_tup (pa_cons pe_int (pa_cons pe_int pa_nil))) pa_nil)) (pv 2)) pa_nil)) pa_nil)))))))
      (pss_cons (ps_if (PW.pt (pw_and (pt_cmpR op_notN (pv 5) pe_non (nomark _)) (pw_and1 (pt_cmpR (op_neD hr.units) (pe_lc (own := [("_law_state", 11)]) (g := gName 11) rfl nd (pi_list (pv 7))
          (blkOk_by (N := ["_law_parts_here", "_law_blocks", "_law_files", "_law_total", "_law_states", "_law_most", "_law_book_here", "_law_reached", "_law_least", "_law_table", "_law_one", "_law_state"]) (sc := defScope (top 69)) (by decide +kernel))
          (fun _ _ _ _ _ => pg_name (i := 11) nd rfl (.inl rfl)) (fun _ _ _ _ _ => pts_one (pt_cmpR op_gt (pe_g ((ok_lidle T).mono (by decide)) hr (pa_cons (pv 11) pa_nil)) (pv 5) (nomark _))) (fun _ _ _ _ _ => pv 11)) (pe_lst pa_nil) (nomark _))))) (pss_one (ps_ret pe_bl)) pss_nil)
      (pss_cons (ps_par (i := 8) (j := 9) (by rfl) nd rfl rfl (by decide) rfl rfl (pa_cons (pe_g (ok_table_of T) hr (pa_cons (pv 6) (pa_cons (pv 1) (pa_cons (pv 2) (pa_cons (pv 3) pa_nil))))) (pa_cons (pe_Table T (hr.mono (by decide)) (pv 4)) pa_nil)) (by rfl))
      (pss_cons (ps_if (pt_not (pt_cmpR (op_leT' T (hr.mono (by decide))) (pv 8) (pv 9) (nomark _))) (pss_one (ps_ret pe_bl)) pss_nil)
      (pss_cons (ps_for PassesOwn.never rfl (pi_list (pe_lst (pa_cons (pe_op (op_orT T (hr.mono (by decide))) (pv 8) (pv 9)) (pa_cons (pe_op (op_andT T (hr.mono (by decide))) (pv 8) (pv 9)) (pa_cons (pe_op (op_orT T (hr.mono (by decide))) (pv 9) (pv 9)) pa_nil))))) (pg_name (i := 10) nd rfl (.inl rfl))
        (pss_one (ps_if (pt_cmpR op_ne (pe_g ((ok_checked T).mono (by decide)) hr (pa_cons (pv 6) (pa_cons (pv 1) (pa_cons (pv 2) (pa_cons (pv 3) (pa_cons (pv 10) (pa_cons pe_non pa_nil))))))) (pe_callB (call_lenT T (hr.mono (by decide))) rfl T.m_len boot_len' (pa_cons (pv 10) pa_nil)) (nomark _)) (pss_one (ps_ret pe_bl)) pss_nil)))
      (pss_one (ps_ret pe_bl)))))))), ?_⟩
    refine ⟨_, rfl, a, bk, rfl, ok, PA, fun H1 x s1 B1 => ?_⟩
    refine ⟨_, rfl, _, rfl, _, rfl, _, rfl, x, bk, b, f, rfl, ok, B1, b1, b2, f1, f2, fun H2 nr s2 nr0 nrb hnr => ⟨t, nr, rfl, rfl, _, rfl, ?_⟩⟩
    have htn := hnr t _ CL
    rw [decide_eq_false (show ¬ nr < t by omega)]
    refine iteF ?_
    refine ⟨_, rfl, _, rfl, _, rfl, _, rfl, by show 2 ≤ sizeLine; decide, fun pc hpc => ⟨by show 1 ≤ sizeLine; decide, fun pd hpd => ?_⟩⟩
    have u3 := same_upd (o := .tup [.int 0, .int 0]) hpc
    have u4 := same_upd (o := .tup [.ref pc]) hpd
    have hc := u4 _ _ (upd_same (H := H2) (a := pc) (o := .tup [.int 0, .int 0]))
    have hd := (upd_same (H := upd H2 pc (.tup [.int 0, .int 0])) (a := pd) (o := .tup [.ref pc]))
    have s24 := u3.trans u4
    generalize upd (upd H2 pc (.tup [.int 0, .int 0])) pd (.tup [.ref pc]) = H4 at s24 hc hd ⊢
    refine ⟨_, rfl, pd, f, [.ref pc], rfl, rfl, hd, by simp, by omega, by omega, by show 1 ≤ 1000; decide, fun pz H5 s5 hz => ?_⟩
    have dz := dp_zeros (K := K) (s5 _ _ hc) hz
    refine ⟨by show 1 ≤ sizeLine; decide, fun lz hlz => ?_⟩
    have u6 := same_upd (o := .lst [.ref pz]) hlz
    have s06 := (((s1.trans s2).trans s24).trans s5).trans u6
    refine ⟨a, lz, .ref pz, bk, b, t, f, rfl, ok, PA.same s06, ⟨b1, b2⟩, ⟨f1, f2⟩, ⟨t0, t2⟩, upd_same, dp_same u6 _ _ dz, fun H7 D vs rs s7 nD hD hrs r1 r2 hre => ?_⟩
    have s07 := s06.trans s7
    have hlenr := Paired.length hrs
    have hin : ∀ s ∈ rs, s ∈ ss := fun s h => (hre s h).closed CL
    dsimp only [gName]
    refine seq_if ?_
    refine ifand_read (!decide (idV i = .non)) (fun R z => ⟨_, rfl, rfl, _, rfl, z⟩) (fun hi R z => ?_) (fun H8 s8 => ?_)
    · cases i with
      | none => cases hi
      | some j =>
        dsimp only [tTest, tOp]
        refine ⟨_, rfl, D, rfl, ⟨vs, SqL.of hD⟩, fun F0 hF0 => ?_⟩
        refine lc_list (K := K) (a := D) (xs := vs) (fun n H' => Same H7 H' ∧ H' F0 = some (.lst [])) ⟨same_upd hF0, upd_same⟩ ?_ ?_ ?_
        · rintro n H' _ ⟨s8, _⟩
          exact sql_same s8 (SqL.of hD)
        · rintro n y H8 hy ⟨s8, hF8⟩
          obtain ⟨st, h1, h2⟩ := sts_get hrs hy
          have hmem := hin st (List.mem_of_getElem? h1)
          rw [← hss] at hmem
          obtain ⟨d, hdm, hdu⟩ := List.mem_map.mp hmem
          have hld := hlist d hdm
          unfold listed at hld
          simp only [Bool.and_eq_true, decide_eq_true_eq] at hld
          rw [hdu] at hld
          have hidle : idleS st ≤ j := of_decide_eq_true hld.2.2.2
          have hlenst := ((hre st (List.mem_of_getElem? h1)).good ok f1 f2 (by omega) b2 t0).2.1
          refine ⟨rfl, _, rfl, y, st, rfl, dp_same s8 _ _ h2, by omega, fun H9 s9 => ⟨_, rfl, idleS st, j, rfl, rfl, _, rfl, ?_⟩⟩
          rw [decide_eq_false (show ¬ j < idleS st by omega)]
          exact iteF ⟨s8.trans s9, s9 _ _ hF8⟩
        · rintro H8 ⟨s8, hF8⟩
          refine ⟨by show 0 ≤ sizeLine; omega, fun e0 he0 => ?_⟩
          have v9 := same_upd (o := .lst []) he0
          refine ⟨.list [], .list [], .lst (SqL.of (v9 _ _ hF8)) .nil, .lst (SqL.of upd_same) .nil, by decide +kernel, by decide +kernel, _, rfl, ?_⟩
          have ee : (!PyData.eqv (.list []) (.list [])) = false := by decide +kernel
          rw [ee]
          exact z _ (s8.trans v9)
    have s08 := s07.trans s8
    refine ⟨_, rfl, _, rfl, _, rfl, _, rfl, x, bk, b, t, f, ss, rfl, ok, ((B1.same s2).same s24).same (((s5.trans u6).trans s7).trans s8), ⟨b1, b2⟩, ⟨f1, f2⟩, ⟨t0, t2⟩, CL, ?_, ?_, fun H9 Lt lus lrs s9 Ta hls z1 z2 z3 => ?_⟩
    · intro s h
      rw [← hss] at h
      obtain ⟨d, hdm, rfl⟩ := List.mem_map.mp h
      have := listed_eq (hlist d hdm)
      exact ⟨this.2.1, this.2.2.1⟩
    · have := Paired.length hst
      omega
    have s09 := s08.trans s9
    refine ⟨_, rfl, l, us, rfl, s09 _ _ hl, fun H10 Tt s10 nT TaT => ?_⟩
    have s10' := s09.trans s10
    obtain ⟨dx, ll, hLt, hll⟩ := id (Ta.same s10)
    obtain ⟨dy, lt, hTt, hlt⟩ := id TaT
    have hls10 := sts_ts (Same.ts s10) hls
    have hst10 := sts_ts (Same.ts s10') hst
    have hlenL := Paired.length hls
    have hlenS := Paired.length hst
    have TaL := Ta.same s10
    refine ⟨_, _, rfl, _, rfl, _, rfl, Lt, Tt, dx, _, dy, _, rfl, rfl, hLt, hTt, Lt, Tt, lus, us, lrs, ss, rfl, TaL, TaT, by omega, by omega, hls10, hst10, fun H11 s11 => ⟨_, rfl, ?_⟩⟩
    have eall : (lrs.all fun s => decide (s ∈ ss)) = true := by
      rw [List.all_eq_true]
      exact fun s h => decide_eq_true (z2 s h)
    rw [eall]
    refine iteF ?_
    have hls11 := sts_ts (Same.ts s11) hls10
    have hst11 := sts_ts (Same.ts s11) hst10
    have hssl : ss.length ≤ 4000 := by omega
    refine ⟨_, rfl, _, rfl, Lt, Tt, dx, _, dy, _, rfl, rfl, s11 _ _ hLt, s11 _ _ hTt, Lt, Tt, lus, us, lrs, ss, rfl, TaL.same s11, TaT.same s11, by omega, by omega, hls11, hst11, fun H12 ta xa s12 TA HA => ?_⟩
    have s1112 := s11.trans s12
    refine ⟨_, rfl, _, rfl, Lt, Tt, dx, _, dy, _, rfl, rfl, s1112 _ _ hLt, s1112 _ _ hTt, Lt, Tt, lus, us, lrs, ss, rfl, TaL.same s1112, TaT.same s1112, by omega, by omega, sts_ts (Same.ts s1112) hls10, sts_ts (Same.ts s1112) hst10, fun H13 tb xb s13 TB HB => ?_⟩
    have s1113 := s1112.trans s13
    refine ⟨_, rfl, _, rfl, Tt, Tt, dy, _, dy, _, rfl, rfl, s1113 _ _ hTt, s1113 _ _ hTt, Tt, Tt, us, us, ss, ss, rfl, TaT.same s1113, TaT.same s1113, by omega, by omega, sts_ts (Same.ts s1113) hst10, sts_ts (Same.ts s1113) hst10, fun H14 tc xc s14 TC HC => ?_⟩
    have okA : TOk K bk b t f ss H14 (.ref ta) := by
      have hm : ∀ s, s ∈ eachOnce (lrs ++ ss) ↔ s ∈ ss := fun s => by
        rw [mem_eachOnce, List.mem_append]
        exact ⟨fun h => h.elim (z2 s) id, .inr⟩
      have := once_len (l := lrs ++ ss) (m := ss) fun s h => (List.mem_append.mp h).elim (z2 s) id
      exact ⟨ta, xa, _, rfl, TA.same (s13.trans s14), sts_ts (Same.ts (s13.trans s14)) HA, by omega, fun s h => (hm s).mp h, CL.iff hm⟩
    have okB : TOk K bk b t f ss H14 (.ref tb) := by
      have hm : ∀ s, s ∈ eachOnce (lrs.filter fun s => decide (s ∈ ss)) ↔ s ∈ lrs := fun s => by
        rw [mem_eachOnce, List.mem_filter]
        exact ⟨fun h => h.1, fun h => ⟨h, decide_eq_true (z2 s h)⟩⟩
      have := once_len (l := lrs.filter fun s => decide (s ∈ ss)) (m := lrs) fun s h => (List.mem_filter.mp h).1
      exact ⟨tb, xb, _, rfl, TB.same s14, sts_ts (Same.ts s14) HB, by omega, fun s h => z2 s ((hm s).mp h), z3.iff hm⟩
    have okC : TOk K bk b t f ss H14 (.ref tc) := by
      have hm : ∀ s, s ∈ eachOnce (ss ++ ss) ↔ s ∈ ss := fun s => by
        rw [mem_eachOnce, List.mem_append]
        exact ⟨fun h => h.elim id id, .inr⟩
      have := once_len (l := ss ++ ss) (m := ss) fun s h => (List.mem_append.mp h).elim id id
      exact ⟨tc, xc, _, rfl, TC, HC, by omega, fun s h => (hm s).mp h, CL.iff hm⟩
    refine ⟨by show 3 ≤ sizeLine; decide, fun L3 hL3 => ?_⟩
    have s15 := same_upd (o := .lst [.ref ta, .ref tb, .ref tc]) hL3
    have hL3' : upd H14 L3 (.lst [.ref ta, .ref tb, .ref tc]) L3 = some (.lst [.ref ta, .ref tb, .ref tc]) := upd_same
    have okA := okA.same s15
    have okB := okB.same s15
    have okC := okC.same s15
    have s015 := (((s10'.trans s1113).trans s14).trans s15)
    generalize upd H14 L3 (.lst [.ref ta, .ref tb, .ref tc]) = H15 at s15 hL3' okA okB okC s015 ⊢
    refine ⟨L3, rfl, ⟨_, SqL.of hL3'⟩, ?_⟩
    have B15 : BookAt K H15 x bk := B1.same ((((s2.trans s24).trans ((s5.trans u6).trans s7)).trans (s8.trans s9)).trans ((s10.trans (s1113.trans s14)).trans s15))
    refine for_list (K := K) (a := L3) (xs := [.ref ta, .ref tb, .ref tc]) (fun m σ H' => ∃ (x10 x11 : Option V), σ = [some (.ref a), some (.int b), some (.int f), some (.int t), some (.ref l), some (idV i), some (.ref x), some (.ref D), some (.ref Lt), some (.ref Tt), x10, x11] ∧ Same H15 H') ⟨_, _, rfl, Same.refl _⟩ ?_ ?_ ?_
    · rintro m σ H' _ ⟨x10, x11, rfl, sH⟩
      exact sql_same sH (SqL.of hL3')
    · rintro m v σ H16 hv ⟨x10, x11, rfl, sH⟩
      have okV : TOk K bk b t f ss H16 v := by
        have hv' := List.mem_of_getElem? hv
        simp only [List.mem_cons, List.not_mem_nil, or_false] at hv'
        rcases hv' with rfl | rfl | rfl
        · exact okA.same sH
        · exact okB.same sH
        · exact okC.same sH
      obtain ⟨tv, uv, rv, rfl, TV, HV, lv, inv, CV⟩ := okV
      have hc := checkM_of_closed (b := bk) (blocks := b) (files := f) (total := t) (idle := none) (ss := rv) (fun s h => by
        have h1 := inv s h
        rw [← hss] at h1
        obtain ⟨d, hdm, rfl⟩ := List.mem_map.mp h1
        have hh := hlist d hdm
        rw [← (listed_eq hh).1]
        exact listed_none hh) CV
      have lenv := Paired.length HV
      refine ⟨_, rfl, _, rfl, _, rfl, _, rfl, _, rfl, x, tv, bk, b, t, f, none, uv, rv.map stD, rfl, ok, B15.same sH, ⟨b1, b2⟩, ⟨f1, f2⟩, ⟨t0, t2⟩, ?_, TV, sts_dps HV, by omega, fun n' e H17 s17 => ?_, ?_⟩
      case refine_1 => exact fun j h => by cases h
      case refine_3 => exact fun k e => by rw [hc] at e; cases e
      rw [hc] at e
      cases e
      obtain ⟨dz, lz', hTv, hlz'⟩ := id (TV.same s17)
      refine ⟨_, rfl, tv, dz, _, rfl, hTv, tv, uv, rfl, TV.same s17, by omega, uv.length, rfl, by omega, by omega, rfl, _, rfl, ?_⟩
      have : decide (V.int (rv.length : Int) = V.int (uv.length : Int)) = true := decide_eq_true (by rw [lenv])
      rw [this]
      exact iteF ⟨_, _, rfl, sH.trans s17⟩
    · rintro σ H16 ⟨x10, x11, rfl, sH⟩
      exact q _ (s015.trans sH)
end
end K76

/-! The walk, 28: law. -/
namespace K76
open PySem PySem.Spec PyProof.Rows L2
theorem sb_fresh {p : Addr} {H H' : Hp} (h : H p = none) (s : SB p H H') : Same H H' := fun c u e => s c u (fun z => by subst z; rw [h] at e; cases e) e
/-- a state that the law may list -/
structure StOk (s : Stt) : Prop where
  ent : EntD (stD s)
  idle : 0 ≤ idleS s ∧ idleS s ≤ 300
  len : s.length ≤ 8
theorem stOk_of {s : Stt} (l8 : s.length ≤ 8) (h : ∀ p ∈ s, 0 ≤ p.1 ∧ p.1 ≤ p.2) (hh : holds s ≤ 8) (hi : 0 ≤ idleS s) (hj : idleS s ≤ 300) : StOk s := by
  obtain ⟨z0, z1⟩ := holds_nonneg h
  refine ⟨⟨stD_shaped s, fun ds e => ?_⟩, ⟨hi, hj⟩, l8⟩
  cases e
  refine ⟨by rw [List.length_map]; exact l8, fun e he => ?_⟩
  obtain ⟨p, hp, rfl⟩ := List.mem_map.mp he
  have h1 := h p hp
  have h2 := z1 p hp
  exact .iij p.1 p.2 (by omega) (by omega)
theorem stOk_good {b : Int} {s : Stt} (g : Good b s) (hb : b ≤ 8) : StOk s := by
  have h1 := g.sizes
  have h2 := g.hold
  have h3 := idle_eq s
  exact stOk_of g.l8 (fun p hp => ⟨(g.each p hp).1, (g.each p hp).2.1⟩) (by omega) h1.2.2 (by omega)
theorem stOk_added {s : Stt} (h : Added s) : StOk s := by
  obtain ⟨k, hk, rfl⟩ := h
  have : k = 0 ∨ k = 1 ∨ k = 2 := by omega
  rcases this with rfl | rfl | rfl
  · exact stOk_of (by decide) (by decide) (by decide) (by decide) (by decide)
  · exact stOk_of (by decide) (by decide) (by decide) (by decide) (by decide)
  · exact stOk_of (by decide) (by decide) (by decide) (by decide) (by decide)
section
variable {P : Program} {w : World} {K : PySem.W.Frag} {mg : Str → Option Value} {base : Heap}
theorem cg {R : V → Hp → Prop} {i j : Int} {H : Hp} (e : i = j) (h : R (.int j) H) : R (.int i) H := e ▸ h
theorem pick_room {f : Nat} (h : 1 ≤ f ∧ f ≤ 3) : ∃ m : Int, atI [V.int 8, .int 8, .int 5] ((f : Int) - 1) = some (.int m) ∧ 1 ≤ m ∧ m ≤ 8 := by
  rcases three h with rfl | rfl | rfl
  · exact ⟨8, rfl, by decide, by decide⟩
  · exact ⟨8, rfl, by decide, by decide⟩
  · exact ⟨5, rfl, by decide, by decide⟩
theorem pick_total (r : Int) (h0 : 0 ≤ r) (h4 : r < 4) (n d : Int) (b : Int) (n0 : 0 ≤ n) (n1 : n ≤ b) (d0 : 0 ≤ d) (d1 : d < b + 2) : ∃ t : Int, atI [V.int n, .int n, .int (n + 1), .int d] r = some (.int t) ∧ 0 ≤ t ∧ t ≤ b + 1 := by
  rcases four r h0 h4 with rfl | rfl | rfl | rfl
  · exact ⟨n, rfl, n0, by omega⟩
  · exact ⟨n, rfl, n0, by omega⟩
  · exact ⟨n + 1, rfl, by omega, by omega⟩
  · exact ⟨d, rfl, by omega, by omega⟩
theorem pick_most (r : Int) (h0 : 0 ≤ r) (h4 : r < 4) (g m : Int) (g0 : 0 ≤ g) (g1 : g ≤ 300) (m0 : 0 ≤ m) (m1 : m ≤ 300) : ∃ i : Option Int, atI [V.non, .int g, .int g, .int m] r = some (idV i) ∧ ∀ j, i = some j → 0 ≤ j ∧ j ≤ 300 := by
  rcases four r h0 h4 with rfl | rfl | rfl | rfl
  · exact ⟨none, rfl, fun j h => by cases h⟩
  · exact ⟨some g, rfl, fun j h => by cases h; exact ⟨g0, g1⟩⟩
  · exact ⟨some g, rfl, fun j h => by cases h; exact ⟨g0, g1⟩⟩
  · exact ⟨some m, rfl, fun j h => by cases h; exact ⟨m0, m1⟩⟩
theorem ite_set {c : Prop} [Decidable c] {A : Prop} {N : L2.St → Hp → Prop} {σ0 : L2.St} {H0 : Hp} (C : L2.St → Hp → Prop) (h2 : C σ0 H0) (h1 : c → (∀ σ H, C σ H → N σ H) → A) (h : ∀ σ H, C σ H → N σ H) : if c then A else N σ0 H0 := by
  by_cases z : c
  · rw [if_pos z]
    exact h1 z h
  · rw [if_neg z]
    exact h _ _ h2
def noD : Option Nat → PyData
  | none => .none
  | some i => .int i
def dNo (k : Option Nat) : PyData := .tuple [.str "no", noD k]
theorem dp_no {H : Hp} {p : Addr} {k : Option Nat} (h : H p = some (.tup [.str "no", noV k])) : Dp K H (.ref p) (dNo k) := .tup (SqT.of h) (.cons (.str _) (.cons (match k with | none => .non | some _ => .int _) .nil))
theorem sh_no (k : Option Nat) : SeqAt.shaped (dNo k) = true := by
  cases k with
  | none => decide +kernel
  | some i =>
    simp [SeqAt.shaped, dNo, noD, PyData.canLay0, PyData.canLayAll0, PyData.depth, PyData.depthAll]
    decide +kernel
theorem eq_no (k : Option Nat) : (!PyData.eqv (dNo k) (dNo k)) = false := by
  cases k with
  | none => decide +kernel
  | some i => simp [dNo, noD, PyData.eqv, PyData.eqvAll]
theorem sh_int (n : Int) : SeqAt.shaped (.int n) = true := rfl
theorem eq_int (n : Int) : (!PyData.eqv (.int n) (.int n)) = false := by simp [PyData.eqv]
def spLaw (K : PySem.W.Frag) : Sp := fun vs H Q _ => ∃ (a : Addr) (ns : List Int), vs = [.ref a] ∧ SqL K H a (ns.map V.int) ∧ ∀ H', Q (.bl true) H'
theorem sc_law : FnScope ["_law_script", "_law_k", "_law_pool", "_law_parts_here", "_law_book_here", "_law_files", "_law_blocks", "_law_sure", "_law_total", "_law_found", "_law_states", "_law_greatest", "_law_most", "_law_due_here", "_law_state"] ["_law_script"] (defScope (top 70)) := ⟨rfl, rfl, rfl, by decide +kernel, rfl, by decide +kernel, by decide +kernel⟩
theorem ok_law (T : Tx K mg) {fd : FuncData} (F : Fun K "law" "law" (top 70) (He.ga K "law") fd) : FnOkG P w K mg base CX0 10 (He.ga K "law") fd ["_law_script"] (spLaw K) := by
  refine okG F sc_law (fun vs H Q E h => ?_) (fun cdv A outer s H vs Q E hga hr h => ?_)
  · obtain ⟨a, ns, rfl, _⟩ := h
    rfl
  · obtain ⟨sa, ns, rfl, hsa, q⟩ := h
    have nd := sc_law.nd
    have hsl := sizeLine_eq
    have r7 : Room 7 _ := hr.mono (by decide)
    have G : FnG P w K mg base CX0 9 "_law_draw" ["_law_pool", "_law_many"] spDraw := (ok_draw T).mono (by decide)
    have hr' : Room 9 _ := hr
    refine ⟨_, pss_cons (ps_for PassesOwn.never rfl (pi_range1 rfl T.m_range (pa_cons (pe_callB (call_max2 rfl) rfl T.m_max boot_max' (pa_cons pe_int (pa_cons (pe_callB (call_min2 rfl) rfl T.m_min boot_min' (pa_cons (pe_callB call_len rfl T.m_len boot_len' (pa_cons (pv 0) pa_nil)) (pa_cons pe_int pa_nil))) pa_nil))) pa_nil)) (pg_name (i := 1) nd rfl (.inl rfl))
        (pss_cons (ps_set (i := 2) nd rfl (.inl rfl) (pe_g ((ok_hand T).mono (by decide)) hr' (pa_cons (pv 0) (pa_cons (pv 1) pa_nil))))
        (pss_cons (ps_set (i := 3) nd rfl (.inl rfl) (pe_g ((ok_parts T).mono (by decide)) hr' (pa_cons (pv 2) pa_nil)))
        (pss_cons (ps_set (i := 4) nd rfl (.inl rfl) (pe_g ((ok_lbook T).mono (by decide)) hr' (pa_cons (pv 3) pa_nil)))
        (pss_cons (ps_set (i := 5) nd rfl (.inl rfl) (pe_op op_add pe_int (pe_g G hr' (pa_cons (pv 2) (pa_cons pe_int pa_nil)))))
        (pss_cons (ps_set (i := 6) nd rfl (.inl rfl) (pe_op op_add pe_int (pe_g G hr' (pa_cons (pv 2) (pa_cons (pe_ix ix_list (pe_lst (pa_cons pe_int (pa_cons pe_int (pa_cons pe_int pa_nil)))) (pe_op op_sub (pv 5) pe_int) (fun _ _ => rfl)) pa_nil)))))
        (pss_cons (ps_set (i := 7) nd rfl (.inl rfl) (pe_g ((ok_never_refused T).mono (by decide)) hr' (pa_cons (pv 4) (pa_cons (pv 6) (pa_cons (pv 5) pa_nil)))))
        (pss_cons (ps_set (i := 8) nd rfl (.inl rfl) (pe_ix ix_list (pe_lst (pa_cons (pv 7) (pa_cons (pv 7) (pa_cons (pe_op op_add (pv 7) pe_int) (pa_cons (pe_g G hr' (pa_cons (pv 2) (pa_cons (pe_op op_add (pv 6) pe_int) pa_nil))) pa_nil))))) (pe_g G hr' (pa_cons (pv 2) (pa_cons pe_int pa_nil))) (fun _ _ => rfl)))
        (pss_cons (ps_set (i := 9) nd rfl (.inl rfl) (pe_g ((ok_closure T).mono (by decide)) hr' (pa_cons (pv 3) (pa_cons (pv 6) (pa_cons (pv 5) (pa_cons (pv 8) (pa_cons (pe_lst (pa_cons (pe_op op_mulT (pe_tup (pa_cons (pe_tup (pa_cons pe_int (pa_cons pe_int pa_nil))) pa_nil)) (pv 5)) pa_nil)) pa_nil)))))))
        (pss_cons (ps_set (i := 10) nd rfl (.inl rfl) (pe_g ((ok_bent T).mono (by decide)) hr' (pa_cons (pv 2) (pa_cons (pv 9) (pa_cons (pv 5) pa_nil)))))
        (pss_cons (ps_set (i := 11) nd rfl (.inl rfl) (pe_callB (cr_max rfl) rfl T.m_max boot_max' (pa_cons (pe_lc (own := [("_law_state", 14)]) (g := gName 14) (tt := tYes) rfl nd (pi_list (pv 10))
          (blkOk_by (N := ["_law_script", "_law_k", "_law_pool", "_law_parts_here", "_law_book_here", "_law_files", "_law_blocks", "_law_sure", "_law_total", "_law_found", "_law_states", "_law_greatest", "_law_most", "_law_due_here", "_law_state"]) (sc := defScope (top 70)) (by decide +kernel))
          (fun _ _ _ _ _ => pg_name (i := 14) nd rfl (.inl rfl)) (fun _ _ _ _ _ => pts_nil) (fun _ _ _ _ _ => pe_callTy call_int1 rfl T.m_int boot_int' (pa_cons (pe_g ((ok_lidle T).mono (by decide)) hr' (pa_cons (pv 14) pa_nil)) pa_nil))) pa_nil)))
        (pss_cons (ps_set (i := 12) nd rfl (.inl rfl) (pe_ix ix_list (pe_lst (pa_cons pe_non (pa_cons (pv 11) (pa_cons (pv 11) (pa_cons (pe_callB (call_max2 rfl) rfl T.m_max boot_max' (pa_cons pe_int (pa_cons (pe_op op_sub (pv 11) pe_int) pa_nil))) pa_nil))))) (pe_g G hr' (pa_cons (pv 2) (pa_cons pe_int pa_nil))) (fun _ _ => rfl)))
        (pss_cons (ps_if (pt_cmpR op_eq (pe_g G hr' (pa_cons (pv 2) (pa_cons pe_int pa_nil))) pe_int (nomark _)) (pss_one (ps_set (i := 10) nd rfl (.inl rfl) (pe_g ((ok_odd T).mono (by decide)) hr' (pa_cons (pv 2) (pa_cons (pv 10) (pa_cons (pv 5) (pa_cons (pv 6) pa_nil))))))) pss_nil)
        (pss_cons (ps_set (i := 13) nd rfl (.inl rfl) (pe_gg (ok_due T) hga r7 (pa_cons (pv 4) (pa_cons (pv 6) (pa_cons (pv 5) (pa_cons (pv 8) (pa_cons (pv 10) (pa_cons (pv 12) pa_nil))))))))
        (pss_cons (ps_if (pt_cmpR (op_neD hr.units) (pe_g ((ok_checked T).mono (by decide)) hr' (pa_cons (pv 4) (pa_cons (pv 6) (pa_cons (pv 5) (pa_cons (pv 8) (pa_cons (pe_Table T (hr.mono (by decide)) (pv 10)) (pa_cons (pv 12) pa_nil))))))) (pv 13) (nomark _)) (pss_one (ps_ret pe_bl)) pss_nil)
        (pss_one (ps_if (PW.pt (pw_and (pt_val (pe_isT kit_int T.m_isinstance T.m_int boot_int' (pv 13))) (pw_and1 (pt_not (pt_val (pe_g (ok_true T) hr' (pa_cons (pv 3) (pa_cons (pv 6) (pa_cons (pv 5) (pa_cons (pv 8) (pa_cons (pv 10) (pa_cons (pv 12) pa_nil))))))))))))
          (pss_one (ps_ret pe_bl)) pss_nil)))))))))))))))))
      (pss_one (ps_ret pe_bl)), ?_⟩
    have hcount : ∀ z : Int, 0 ≤ z → ∃ N : Int, (if (if 3 < z then (3 : Int) else z) > 1 then (if 3 < z then (3 : Int) else z) else 1) = N ∧ 1 ≤ N ∧ N ≤ 3 := fun z z0 => ⟨_, rfl, by split <;> split <;> omega, by split <;> split <;> omega⟩
    obtain ⟨N, hN, N1, N3⟩ := hcount (ns.map V.int).length (by omega)
    refine ⟨_, rfl, _, _, rfl, .inl ⟨_, hsa, rfl⟩, _, 3, rfl, 1, _, rfl, N, by rw [← hN], by omega, by omega, ?_⟩
    refine for_range (n := N.toNat) (fun k σ H' => ∃ (x1 x2 x3 x4 x5 x6 x7 x8 x9 x10 x11 x12 x13 x14 : Option V), σ = [some (.ref sa), x1, x2, x3, x4, x5, x6, x7, x8, x9, x10, x11, x12, x13, x14] ∧ Same H H')
      ⟨_, _, _, _, _, _, _, _, _, _, _, _, _, _, rfl, Same.refl H⟩ ?_ ?_
    case refine_2 =>
      rintro σ H1 ⟨x1, x2, x3, x4, x5, x6, x7, x8, x9, x10, x11, x12, x13, x14, rfl, s1⟩
      exact q H1
    rintro k σ H1 hk ⟨x1, x2, x3, x4, x5, x6, x7, x8, x9, x10, x11, x12, x13, x14, rfl, s1⟩
    refine ⟨_, rfl, _, rfl, sa, ns, k, by rw [Int.zero_add]; rfl, sql_same s1 hsa, by omega, fun H2 p s2 np hp2 => ?_⟩
    refine ⟨_, rfl, p, rfl, hp2, fun H3 a bk ok sb3 hp3 PA3 => ?_⟩
    refine ⟨_, rfl, a, bk, rfl, ok, PA3, fun H4 x s4 B4 => ?_⟩
    have hp4 := hp3.same s4
    have PA4 := PA3.same s4
    refine ⟨_, rfl, p, 3, rfl, hp4, by decide, by decide, fun H5 f0 f1 f2 sb5 hp5 => ?_⟩
    obtain ⟨g, rfl⟩ := Int.eq_ofNat_of_zero_le f1
    obtain ⟨xp4, hx4⟩ := hp4.lst
    have PA5 := PA4.sb sb5 hx4
    have B5 := B4.sb sb5 hx4
    obtain ⟨f, hf⟩ : ∃ f : Nat, f = g + 1 := ⟨_, rfl⟩
    have ef : (1 : Int) + (g : Int) = (f : Int) := by omega
    have f13 : 1 ≤ f ∧ f ≤ 3 := by omega
    refine ⟨1, g, rfl, rfl, ?_⟩
    dsimp only [gName]
    rw [ef]
    have sbA : SB p H1 H5 := (((Same.sb s2).trans sb3).trans (Same.sb s4)).trans sb5
    -- the blocks
    refine ⟨_, rfl, by show 3 ≤ sizeLine; decide, fun l6 hl6 => ?_⟩
    have s6 := same_upd (o := .lst [.int 8, .int 8, .int 5]) hl6
    have h6 : upd H5 l6 (.lst [.int 8, .int 8, .int 5]) l6 = some (.lst [.int 8, .int 8, .int 5]) := upd_same
    have hp6 := hp5.same s6
    have PA6 := PA5.same s6
    have B6 := B5.same s6
    have sb6 := sbA.trans (Same.sb s6)
    generalize upd H5 l6 (.lst [.int 8, .int 8, .int 5]) = H6 at s6 h6 hp6 PA6 B6 sb6 ⊢
    obtain ⟨bm, eb, bm1, bm8⟩ := pick_room f13
    refine ⟨_, rfl, f, 1, rfl, rfl, l6, _, (f : Int) - 1, _, rfl, rfl, SqL.of h6, eb, p, bm, rfl, hp6, bm1, by omega, fun H7 b0 b1 b2 sb7 hp7 => ⟨1, b0, rfl, rfl, ?_⟩⟩
    obtain ⟨xp6, hx6⟩ := hp6.lst
    have PA7 := PA6.sb sb7 hx6
    have B7 := B6.sb sb7 hx6
    have sb17 := sb6.trans sb7
    obtain ⟨b, hb⟩ : ∃ b : Int, 1 + b0 = b := ⟨_, rfl⟩
    dsimp only [gName]
    rw [hb]
    have b18 : 1 ≤ b ∧ b ≤ 8 := by omega
    -- sure
    refine ⟨_, rfl, _, rfl, _, rfl, x, bk, b, f, rfl, ok, B7, by omega, by omega, by omega, by omega, fun H8 nr s8 nr0 nrb _ => ?_⟩
    have hp8 := hp7.same s8
    have PA8 := PA7.same s8
    have B8 := B7.same s8
    have sb18 := sb17.trans (Same.sb s8)
    -- the total
    obtain ⟨xp8, hx8⟩ := hp8.lst
    refine ⟨_, rfl, _, rfl, _, rfl, nr, 1, rfl, rfl, _, rfl, _, rfl, b, 2, rfl, rfl, p, b + 2, rfl, hp8, by omega, by omega, fun H9 d0 d1 d2 sb9 hp9 => ⟨by show 4 ≤ sizeLine; decide, fun l10 hl10 => ?_⟩⟩
    have PA9 := PA8.sb sb9 hx8
    have B9 := B8.sb sb9 hx8
    have sb19 := sb18.trans sb9
    have s10 := same_upd (o := .lst [.int nr, .int nr, .int (nr + 1), .int d0]) hl10
    have h10 : upd H9 l10 (.lst [.int nr, .int nr, .int (nr + 1), .int d0]) l10 = some (.lst [.int nr, .int nr, .int (nr + 1), .int d0]) := upd_same
    have hp10 := hp9.same s10
    have n10 : l10 ≠ p := fun z => by subst z; obtain ⟨xs, e⟩ := hp9.lst; rw [hl10] at e; cases e
    have PA10 := PA9.same s10
    have B10 := B9.same s10
    have sb1A := sb19.trans (Same.sb s10)
    generalize upd H9 l10 (.lst [.int nr, .int nr, .int (nr + 1), .int d0]) = H10 at s10 h10 hp10 PA10 B10 sb1A ⊢
    obtain ⟨xp10, hx10⟩ := hp10.lst
    refine ⟨_, rfl, p, 4, rfl, hp10, by decide, by decide, fun H11 t1 t2 t3 sb11 hp11 => ?_⟩
    obtain ⟨t, et, t0, tb⟩ := pick_total t1 t2 t3 nr d0 b nr0 nrb d1 d2
    refine ⟨l10, _, t1, _, rfl, rfl, SqL.of (sb11 _ _ n10 h10), et, ?_⟩
    have PA11 := PA10.sb sb11 hx10
    have B11 := B10.sb sb11 hx10
    have sb1B := sb1A.trans sb11
    -- found
    refine ⟨_, rfl, _, rfl, _, rfl, _, rfl, by show 2 ≤ sizeLine; decide, fun pc hpc => ⟨by show 1 ≤ sizeLine; decide, fun pd hpd => ?_⟩⟩
    have u3 := same_upd (o := .tup [.int 0, .int 0]) hpc
    have u4 := same_upd (o := .tup [.ref pc]) hpd
    have hc := u4 _ _ (upd_same (H := H11) (a := pc) (o := .tup [.int 0, .int 0]))
    have hd := (upd_same (H := upd H11 pc (.tup [.int 0, .int 0])) (a := pd) (o := .tup [.ref pc]))
    have s12 := u3.trans u4
    generalize upd (upd H11 pc (.tup [.int 0, .int 0])) pd (.tup [.ref pc]) = H12 at s12 hc hd ⊢
    refine ⟨_, rfl, pd, f, [.ref pc], rfl, rfl, hd, by simp, by omega, by omega, by show 1 ≤ 1000; decide, fun pz H13 s13 hz => ?_⟩
    have dz := dp_zeros (K := K) (s13 _ _ hc) hz
    refine ⟨by show 1 ≤ sizeLine; decide, fun lz hlz => ?_⟩
    have u14 := same_upd (o := .lst [.ref pz]) hlz
    have s14 := (s12.trans s13).trans u14
    refine ⟨a, lz, .ref pz, bk, b, t, f, rfl, ok, PA11.same s14, by omega, by omega, by omega, upd_same, dp_same u14 _ _ dz, fun H15 D us rs s15 _ hD hrs r1 r2 hre => ?_⟩
    have s15' := s14.trans s15
    have hp15 := hp11.same s15'
    have PA15 := PA11.same s15'
    have B15 := B11.same s15'
    have sb1F := sb1B.trans (Same.sb s15')
    -- bent
    obtain ⟨xp15, hx15⟩ := hp15.lst
    refine ⟨_, rfl, _, rfl, _, rfl, p, D, f, us, rs, rfl, hp15, hD, hrs, r1, r2, fun H16 L ws ss sb16 hp16 nL hL hws z1 z2 z3 => ?_⟩
    have PA16 := PA15.sb sb16 hx15
    have B16 := B15.sb sb16 hx15
    have sb1G := sb1F.trans sb16
    have nLp : L ≠ p := fun z => by subst z; rw [hx15] at nL; cases nL
    have hok : ∀ s ∈ ss, StOk s := fun s h => (z3 s h).elim (fun h => stOk_good ((hre s h).good ok (by omega) (by omega) (by omega) (by omega) t0).1 b18.2) stOk_added
    have hwl := Paired.length hws
    -- the greatest
    dsimp only [gName]
    refine ⟨_, rfl, L, rfl, ⟨ws, SqL.of hL⟩, fun D2 hD2 => ?_⟩
    refine lc_list (K := K) (a := L) (xs := ws) (fun n H' => Same H16 H' ∧ H' D2 = some (.lst (((ss.take n).map idleS).map V.int))) ⟨same_upd hD2, upd_same⟩ ?_ ?_ ?_
    case refine_1 =>
      rintro n H' _ ⟨sH, _⟩
      exact sql_same sH (SqL.of hL)
    case refine_2 =>
      rintro n y H17 hy ⟨sH, hF⟩
      obtain ⟨st, h1, h2⟩ := sts_get hws hy
      have hst := hok st (List.mem_of_getElem? h1)
      have hi2 := (List.getElem?_eq_some_iff.mp h1).1
      have ep := (List.getElem?_eq_some_iff.mp h1).2
      have hl8 := hst.len
      refine ⟨rfl, _, rfl, y, st, rfl, dp_same sH _ _ h2, by omega, fun H18 s18 => .inl ⟨idleS st, rfl, ?_⟩⟩
      refine ⟨_, s18 _ _ hF, ?_, fun c u e => ?_, ?_⟩
      · simp only [List.length_map, List.length_take]
        omega
      · rw [upd_ne (fun z => by subst z; rw [hD2] at e; cases e)]
        exact s18 _ _ (sH _ _ e)
      · rw [upd_same, List.take_succ_eq_append_getElem hi2, ep, List.map_append, List.map_append]
        rfl
    rintro H17 ⟨s17, hF⟩
    rw [hwl, List.take_length] at hF
    refine ⟨D2, ss.map idleS, rfl, SqL.of hF, by rw [List.length_map]; omega, fun m hm _ => ?_⟩
    obtain ⟨sm, hsm, hme⟩ := List.mem_map.mp hm
    have hmi := (hok sm hsm).idle
    rw [hme] at hmi
    have hp17 := hp16.same s17
    have PA17 := PA16.same s17
    have B17 := B16.same s17
    have hL17 := s17 _ _ hL
    have hws17 := sts_ts (Same.ts s17) hws
    have sb1H := sb1G.trans (Same.sb s17)
    -- the most
    obtain ⟨M, hM, M0, M1⟩ : ∃ M : Int, (if m - 1 > 0 then m - 1 else 0) = M ∧ 0 ≤ M ∧ M ≤ 300 := ⟨_, rfl, by split <;> omega, by split <;> omega⟩
    refine ⟨_, rfl, _, rfl, _, rfl, m, 1, rfl, rfl, 0, m - 1, rfl, by show 4 ≤ sizeLine; decide, fun l18 hl18 => ?_⟩
    rw [hM]
    have s18 := same_upd (o := .lst [.non, .int m, .int m, .int M]) hl18
    have h18 : upd H17 l18 (.lst [.non, .int m, .int m, .int M]) l18 = some (.lst [.non, .int m, .int m, .int M]) := upd_same
    have n18 : l18 ≠ p := fun z => by subst z; obtain ⟨xs, e⟩ := hp17.lst; rw [hl18] at e; cases e
    have hp18 := hp17.same s18
    have PA18 := PA17.same s18
    have B18 := B17.same s18
    have hL18 := s18 _ _ hL17
    have hws18 := sts_ts (Same.ts s18) hws17
    have sb1I := sb1H.trans (Same.sb s18)
    generalize upd H17 l18 (.lst [.non, .int m, .int m, .int M]) = H18 at s18 h18 hp18 PA18 B18 hL18 hws18 sb1I ⊢
    obtain ⟨xp18, hx18⟩ := hp18.lst
    refine ⟨_, rfl, p, 4, rfl, hp18, by decide, by decide, fun H19 v1 v2 v3 sb19 hp19 => ?_⟩
    obtain ⟨i, ei, hi⟩ := pick_most v1 v2 v3 m M hmi.1 hmi.2 M0 M1
    refine ⟨l18, _, v1, _, rfl, rfl, SqL.of (sb19 _ _ n18 h18), ei, ?_⟩
    have PA19 := PA18.sb sb19 hx18
    have B19 := B18.sb sb19 hx18
    have hL19 := sb19 _ _ nLp hL18
    have hws19 := sts_ts (sb19.ts hx18 rfl) hws18
    have sb1J := sb1I.trans sb19
    obtain ⟨xp19, hx19⟩ := hp19.lst
    -- an odd thing?
    refine ⟨_, rfl, p, 3, rfl, hp19, by decide, by decide, fun H20 o1 o2 o3 sb20 hp20 => ⟨rfl, _, rfl, ?_⟩⟩
    have PA20 := PA19.sb sb20 hx19
    have B20 := B19.sb sb20 hx19
    have hL20 := sb20 _ _ nLp hL19
    have hws20 := sts_ts (sb20.ts hx19 rfl) hws19
    have sb1K := sb1J.trans sb20
    obtain ⟨xp20, hx20⟩ := hp20.lst
    refine ite_set (fun σ H' => ∃ (L' : Addr) (ws' : List V) (ds' : List PyData), σ = [some (.ref sa), some (.int (0 + (k : Nat))), some (.ref p), some (.ref a), some (.ref x), some (.int f), some (.int b), some (.int nr), some (.int t), some (.ref D), some (.ref L'), some (.int m), some (idV i), x13, x14] ∧ SB p H1 H' ∧ BookAt K H' x bk ∧ PartsAt H' a bk ∧ H' L' = some (.lst ws') ∧ DpAll K H' ws' ds' ∧ ds'.length ≤ 2802 ∧ ∀ d ∈ ds', EntD d)
      ⟨L, ws, ss.map stD, rfl, sb1K, B20, PA20, hL20, sts_dps hws20, by rw [List.length_map]; omega, fun d hd => ?_⟩ (fun _ J => ?_) ?_
    · obtain ⟨s, hs, rfl⟩ := List.mem_map.mp hd
      exact (hok s hs).ent
    · refine ⟨_, rfl, _, rfl, _, rfl, _, rfl, p, L, f, b, ws, ss, rfl, hp20, hL20, nLp, hws20, z2, f13, b18, fun H21 L2 ws2 ds2 sb21 hp21 hL2 hds2 hl2 he2 => J _ _ ⟨L2, ws2, ds2, rfl, sb1K.trans sb21, B20.sb sb21 hx20, PA20.sb sb21 hx20, hL2, hds2, by omega, fun d hd => ?_⟩⟩
      rcases he2 d hd with h | ⟨s, hs, rfl⟩
      · exact h
      · exact (hok s hs).ent
    rintro σ H21 ⟨L', ws', ds', rfl, sb21, B21, PA21, hL', hds', hdl, hde⟩
    have hwl' := dps_len hds'
    have s021 : Same H H21 := s1.trans (sb_fresh np sb21)
    cases hck : checkM bk b f t i ds' with
    | ok n =>
      have no' : ∀ k, checkM bk b f t i ds' = .no k → False := fun k e => by rw [hck] at e; cases e
      refine ⟨_, rfl, _, rfl, _, rfl, _, rfl, _, rfl, _, rfl, x, L', bk, b, t, f, i, ws', ds', rfl, ok, B21, by omega, by omega, by omega, hL', hds', by omega, hde, fun n' e H22 s22 => ?_, fun k e => (no' k e).elim⟩
      rw [hck] at e
      cases e
      refine ⟨_, rfl, _, rfl, _, rfl, _, rfl, _, rfl, L', ws', rfl, s22 _ _ hL', fun H23 tb s23 nT TA => ?_⟩
      have s2123 := s22.trans s23
      refine ⟨_, rfl, x, tb, bk, b, t, f, i, ws', ds', rfl, ok, B21.same s2123, by omega, by omega, by omega, hi, TA, dps_same s2123 _ _ hds', by omega, fun n' e H24 s24 => ?_, fun k e => (no' k e).elim⟩
      rw [hck] at e
      cases e
      refine ⟨_, rfl, .int n, .int n, .int _, .int _, sh_int _, sh_int _, _, rfl, ?_⟩
      rw [eq_int]
      have s2124 := s2123.trans s24
      refine iteF ⟨_, rfl, .int n, .int n, rfl, .int _, _, rfl, iteT ?_⟩
      refine ⟨_, rfl, _, rfl, _, rfl, _, rfl, _, rfl, _, rfl, a, L', bk, b, t, f, i, ws', ds', n, rfl, ok, PA21.same s2124, by omega, by omega, by omega, s2124 _ _ hL', dps_same s2124 _ _ hds', by omega, hck, fun H25 s25 => ⟨_, rfl, iteF ?_⟩⟩
      exact ⟨_, _, _, _, _, _, _, _, _, _, _, _, _, _, rfl, s021.trans (s2124.trans s25)⟩
    | no kk =>
      have ok' : ∀ k, checkM bk b f t i ds' = .ok k → False := fun k e => by rw [hck] at e; cases e
      refine ⟨_, rfl, _, rfl, _, rfl, _, rfl, _, rfl, _, rfl, x, L', bk, b, t, f, i, ws', ds', rfl, ok, B21, by omega, by omega, by omega, hL', hds', by omega, hde, fun k e => (ok' k e).elim, fun k e H22 pn s22 hpn => ?_⟩
      rw [hck] at e
      cases e
      refine ⟨_, rfl, _, rfl, _, rfl, _, rfl, _, rfl, L', ws', rfl, s22 _ _ hL', fun H23 tb s23 nT TA => ?_⟩
      have s2123 := s22.trans s23
      refine ⟨_, rfl, x, tb, bk, b, t, f, i, ws', ds', rfl, ok, B21.same s2123, by omega, by omega, by omega, hi, TA, dps_same s2123 _ _ hds', by omega, fun k e => (ok' k e).elim, fun k e H24 pm s24 hpm => ?_⟩
      rw [hck] at e
      cases e
      have s2124 := s2123.trans s24
      have dn := dp_no (K := K) ((s23.trans s24) _ _ hpn)
      refine ⟨_, rfl, dNo kk, dNo kk, dp_no hpm, dn, sh_no _, sh_no _, _, rfl, ?_⟩
      rw [eq_no]
      refine iteF ⟨_, rfl, .ref pn, dNo kk, rfl, dn, _, rfl, iteF (iteF ?_)⟩
      exact ⟨_, _, _, _, _, _, _, _, _, _, _, _, _, _, rfl, s021.trans s2124⟩
end
end K76

/-! The walk, 29: what the head tells, the end. -/
namespace K76
open PySem PySem.Spec PyProof.Rows L2
section
variable {K : PySem.W.Frag} {mg : Str → Option Value} {h : Heap}
theorem ba' {a b : Bool} (q : (a && b) = true) : a = true ∧ b = true := by rwa [Bool.and_eq_true] at q
theorem getter_of (e : fnAt K (getAd K) = getVal) (kp : PySem.W.keepIn K (.ref (getAd K)) = true)
    (c2 : (match K.lookup (getAd K) with | some ⟨_, _, .func fd, _⟩ => PySem.W.codeIn K fd.code "Book.first" && (match fd.defaults with | .none => true | _ => false) | _ => false) = true) : ∃ fd, Fun K "first" "Book.first" (inClass (top 50) 4) (getAd K) fd := by
  unfold fnAt at e
  cases q : K.lookup (getAd K) with
  | none =>
    rw [q] at c2
    cases c2
  | some o =>
    obtain ⟨oc, od, dt, osl⟩ := o
    rw [q] at c2 e
    cases dt with
    | func fd =>
      obtain ⟨n1, n2, n3, n4, n5, n6, n7, n8, n9, n10, n11, n12, n13, n14, n15⟩ := fd
      have e2 : (some (n1, n2, n3, n4, n5, n6, n7, n15) : He.FnW) = getVal := e
      unfold getVal at e2
      simp only [Option.some.injEq, Prod.mk.injEq] at e2
      obtain ⟨h1, h2, h3, h4, h5, h6, h7, h8⟩ := e2
      subst h1 h2 h3 h4 h5 h6 h7 h8
      obtain ⟨k1, k2⟩ := ba' c2
      have hn : n8 = .none := by
        clear q e
        cases n8 <;> first | rfl | (cases k2; done)
      subst hn
      exact ⟨_, ⟨oc, od, n9, n10, n11, n12, n13, n14, osl, rfl, q, k1⟩, kp⟩
    | _ => cases c2
theorem fun_of {x : Str} {st : Stmt} {f : Addr} {fd : FuncData} (F : FunD K x x (defArgs st) (defBody st) (defScope st) [] [] f fd) : Fun K x x st f fd := by
  obtain ⟨oc, od, dV, kV, doc, pm, an, cdv, ct, osl, e, lk, hcd, hD, _⟩ := F.ex
  rcases hD with ⟨_, rfl⟩ | ⟨z, _⟩
  · exact ⟨⟨oc, od, kV, doc, pm, an, cdv, ct, osl, e, lk, hcd⟩, F.kp⟩
  · exact absurd rfl z
theorem tx_of (X : K.In h) (G : h.Ns mainGlobals mg) (c : Says76 K) : Tx K mg := by
  have c1 : He.SaysD fa fnl K := congrArg (fun z : Al76 => z.1) c
  have ex : exB K = true := congrArg (fun z : Al76 => z.2.1) c
  have eg : fnAt K (getAd K) = getVal := congrArg (fun z : Al76 => z.2.2) c
  refine ⟨fun i f hf => c1.fact i hf, fun i d hd => c1.def_ i hd, ex, ?_, fun x a e => PySem.W.mg_of X G e, fun x e => PySem.W.mg_none_of X G e⟩
  have ex2 := ex
  unfold exB eqB eqV' at ex2
  simp only [Bool.and_eq_true] at ex2
  obtain ⟨h1, h2, h3, h4, h5, h6, h7, h8, h9, h10, h11, h12, h13, h14, h15, h16, h17, h18, h19, h20, h21, h22, h23, h24, h25⟩ := ex2
  exact getter_of eg h24 h25
end
end K76
open PySem PySem.W PySem.Calls PyProof.Rows
theorem PySem.Challenge.cw_grownfiles_k76_whole_tables_of_any_autho_holds : PySem.Challenge.rw_grownfiles_k76_whole_tables_of_any_autho.Holds := by
  w_on; o_law
  refine HandSHeadRun.head_any (r := OpenLaw.row PySem.Challenge.rw_grownfiles_k76_whole_tables_of_any_autho) (q := view (OpenLaw.row PySem.Challenge.rw_grownfiles_k76_whole_tables_of_any_autho).prog [70]) (H := K76.hook76) (ob := K76.ob) (M := 10000) (loose := K76.loose) (d := HandSHeadRun.topDef (OpenLaw.row PySem.Challenge.rw_grownfiles_k76_whole_tables_of_any_autho).prog 70) (kwd := []) K76.ob_eq
    (by kernel_rfl) (fun s => by kernel_rfl) K76.run (by kernel_rfl) (by kernel_rfl) (by kernel_rfl) (by rfl) (by first | assumption | decide +kernel) (by decide +kernel) ⟨rfl, rfl, rfl, rfl, rfl, by decide +kernel⟩ ?hw ?hc
  case hw => w_witness2
  case hc =>
    refine K76.walkG_of (l := PySem.Challenge.rw_grownfiles_k76_whole_tables_of_any_autho) (n := 63) (k := 10) (x := "_law_script") (CX := L2.CX0) rfl (by decide) (by kernel_rfl) ⟨rfl, by decide, by decide⟩ ?F (fun _ _ _ _ z => z)
    intro w mg fa h Y G hmg0
    obtain ⟨K, KX, c⟩ := Y
    have hmg : mg ("law" : PySem.Str) = some (.ref fa) := by
      have e : (HandSHeadRun.topDef (OpenLaw.row PySem.Challenge.rw_grownfiles_k76_whole_tables_of_any_autho).prog 70).name = ("law" : PySem.Str) := by kernel_rfl
      rw [← e]
      exact hmg0
    have T : K76.Tx K mg := K76.tx_of KX G c
    have hfa : He.ga K "law" = fa := by
      have e := T.g_law.symm.trans hmg
      cases e
      rfl
    subst hfa
    obtain ⟨fd, FD⟩ := T.fn 41 (K76.dG "law" 70) rfl
    have F : L2.FunD K "law" "law" (L2.defArgs (K76.top 70)) (L2.defBody (K76.top 70)) (L2.defScope (K76.top 70)) [] [] (He.ga K "law") fd := FD
    have b := L2.FunD.bindsA (ps := ["_law_script"]) F fun _ _ _ _ _ _ us hl => match us, hl with | [_], _ => rfl
    exact ⟨K, fd, K76.spLaw K, KX, fun s v => b s [v] rfl, fun H a ns hl _ hS => ⟨a, ns, rfl, hS, fun _ => rfl⟩, fun base _ _ => K76.ok_law T (K76.fun_of F)⟩
