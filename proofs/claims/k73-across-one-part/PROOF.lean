import PyProof.Rows.All
import Wide.All
import OpenK.AllK
import Wide.FinOn
import HandS.ForMost
import PyProof.P3Eq
import PyProof.TupleKey
import PyProof.DictRoadsH
import KE.KDictDisplayH
import HandS.TupMul
import HandS.TupAny
import HandS.Style
import HandS.Conv
import KE.GoesEnum
import HandS.More
import KE.KDictSum
import HandS.IsInst
import HandS.TupLe
import HandS.Deep
import HandS.Wide
import HandS.WideMore
import HandS.TupSets
import HandS.Codes
import HandS.Walk
import HandS.Iter
import PySem.Challenge.RW_clockadds_k73_across_one_part
set_option Elab.async false
set_option linter.all false
set_option maxRecDepth 100000
set_option maxHeartbeats 4000000
/-! keys that are a pair: a tuple of one int, and an int -/
namespace CK
open PySem PySem.Spec PyProof.Rows L2

abbrev NK := Int × Int
def IsNK (h : Heap) (k : NK) (p : Addr) : Prop := ∃ o r t n o' t' n', h.get? p = some o ∧ o.cls = .type "tuple" ∧ o.data = .seq #[.ref r, .int k.2 t] n ∧ h.get? r = some o' ∧ o'.cls = .type "tuple" ∧ o'.data = .seq #[.int k.1 t'] n'
section
variable {P : Program} {w : World}
theorem IsNK.inner {h : Heap} {r : Addr} {a : Int} {o' : Obj} {t' : Tok} {n' : Nat} (e : h.get? r = some o') (c : o'.cls = .type "tuple") (d : o'.data = .seq #[.int a t'] n') : IsTupleKey (intKind P w) h [a] r :=
  ⟨o', #[.int a t'], n', e, c, d, .cons (by simp [intKind, Value.isInt]) .nil⟩
theorem IsNK.inj {h : Heap} {p : Addr} {x y : NK} (hx : IsNK h x p) (hy : IsNK h y p) : x = y := by
  obtain ⟨o, r, t, n, o1, t1, n1, e1, e2, e3, e4, e5, e6⟩ := hx
  obtain ⟨q, s, u, m, q1, u1, m1, f1, f2, f3, f4, f5, f6⟩ := hy
  rw [e1] at f1; cases f1
  rw [e3] at f3
  injection f3 with g1 _
  have g2 := congrArg Array.toList g1
  simp only [List.cons.injEq, Value.ref.injEq, Value.int.injEq, and_true] at g2
  obtain ⟨g3, g4, _⟩ := g2
  subst g3
  rw [e4] at f4; cases f4
  rw [e6] at f6
  injection f6 with k1 _
  have k2 := congrArg Array.toList k1
  simp only [List.cons.injEq, Value.int.injEq, and_true] at k2
  obtain ⟨x1, x2⟩ := x
  obtain ⟨y1, y2⟩ := y
  simp only at k2 g4
  rw [k2.1, g4]
theorem IsNK.keeps {h h' : Heap} {k : NK} {a d : Addr} {o : Obj} {es ep} (x : IsNK h k a) (ho : h.get? d = some o) (hd : o.data = .dict es ep) (hs : Heap.SameBut d h h') : IsNK h' k a := by
  obtain ⟨q, r, t, n, o1, t1, n1, e1, e2, e3, e4, e5, e6⟩ := x
  have h1 : a ≠ d := by
    rintro rfl
    rw [ho] at e1; cases e1
    rw [hd] at e3; cases e3
  have h2 : r ≠ d := by
    rintro rfl
    rw [ho] at e4; cases e4
    rw [hd] at e6; cases e6
  exact ⟨q, r, t, n, o1, t1, n1, (hs.2 a h1).trans e1, e2, e3, (hs.2 r h2).trans e4, e5, e6⟩
def nkHash (P : Program) (w : World) (k : NK) : Int := reduceHash (Builtin.Tuple.tupleHashOf [tupleKeyHash (intKind P w) [k.1], hashInt k.2])
variable {A : Around} {E : Value → Shared → Prop} {s : Shared}
theorem wpAny_pyHash_nk {k : NK} {a : Addr} {Q : Int → Shared → Prop} (hu : A.units + 1 < cLine) (hk : IsNK s.heap k a) (h : Q (nkHash P w k) { s with toks := s.toks + 4 }) :
    wpAny (model P w) A (pyHash (.ref a)) Q E s := by
  obtain ⟨o, r, t, n, o1, t1, n1, ho, hc, hd, e4, e5, e6⟩ := hk
  have hT : s.TypeIs (.ref a) "tuple" := ⟨o, ho, hc⟩
  have hi : IsTupleKey (intKind P w) s.heap [k.1] r := IsNK.inner e4 e5 e6
  unfold pyHash
  first | unfold pyHashByItsType | skip
  first | refine wpAny_bind (wpAny_cRoomFor_or (.inr (Nat.lt_of_succ_lt hu)) ?_) | skip
  refine wpAny_bind (wpAny_specialOf hT F.slot_tuple_hash.lookup ?_)
  show wpAny _ _ (if (some (Value.builtin "tuple.__hash__") == some Value.none) = true then _ else _) Q E s
  rw [if_neg (by rw [beq_builtin_none]; exact Bool.false_ne_true)]
  refine wpAny_bind (wpAny_specialOf hT F.slot_tuple_hash.lookup ?_)
  show wpAny _ _ (callSpecialIfBoundUnlessNone? (.ref a) "__hash__" _ >>= _) Q E s
  refine wpAny_bind (wpAny_callSpecialIfBoundUnlessNone?_slot hT F.slot_tuple_hash (wpAny_call_entry F.slot_tuple_hash hT F.entry_tuple_hash ?_ (F.args_tuple_hash_1 _)))
  show wpAny _ _ (Builtin.Tuple.tupleItemsOf (.ref a) >>= _) _ _ s
  refine wpAny_bind (wpAny_tupleItemsOf ho hd ?_)
  refine wpAny_bind ?_
  rw [← Array.forIn_toList]
  show wpAny _ _ (forIn [Value.ref r, Value.int k.2 t] _ _) _ _ s
  rw [List.forIn_cons]
  refine wpAny_bind (wpAny_bind (wpAny_pyHash_tuple (A := A.in1) hu hi ?_))
  first
    | refine wpAny_pure ?_
    | refine wpAny_bind (wpAny_pure (wpAny_pure ?_))
  dsimp only
  rw [List.forIn_cons]
  refine wpAny_bind (wpAny_bind (wpAny_pyHash_int ?_))
  first
    | refine wpAny_pure ?_
    | refine wpAny_bind (wpAny_pure (wpAny_pure ?_))
  dsimp only
  rw [List.forIn_nil]
  refine wpAny_pure ?_
  show wpAny _ _ (retInt (Builtin.Tuple.tupleHashOf [tupleKeyHash (intKind P w) [k.1], hashInt k.2])) _ _ _
  refine wpAny_ret_mkInt ?_
  show wpAny _ _ (if (decide (-(2 : Int) ^ 63 ≤ Builtin.Tuple.tupleHashOf [tupleKeyHash (intKind P w) [k.1], hashInt k.2]) && decide (Builtin.Tuple.tupleHashOf [tupleKeyHash (intKind P w) [k.1], hashInt k.2] < 2 ^ 63)) = true then _ else _) Q E _
  unfold nkHash reduceHash at h
  by_cases hr : (decide (-(2 : Int) ^ 63 ≤ Builtin.Tuple.tupleHashOf [tupleKeyHash (intKind P w) [k.1], hashInt k.2]) && decide (Builtin.Tuple.tupleHashOf [tupleKeyHash (intKind P w) [k.1], hashInt k.2] < 2 ^ 63)) = true
  · rw [if_pos hr]
    rw [if_pos hr] at h
    exact wpAny_pure (by simpa [Nat.add_assoc] using h)
  · rw [if_neg hr]
    rw [if_neg hr] at h
    exact wpAny_bind (wpAny_rule (wpAny_pure (by simpa [Nat.add_assoc] using h)))
theorem IsNK.reads {h : Heap} {k : NK} {a : Addr} (x : IsNK h k a) : Reads h (.ref a) (.tuple [.tuple [.int k.1], .int k.2]) [] := by
  obtain ⟨o, r, t, n, o1, t1, n1, ho, hc, hd, e4, e5, e6⟩ := x
  have r1 : Reads h (.ref r) (.tuple [.int k.1]) [] := Reads.tuple e4 e5 e6 (ReadsAll.cons (as := []) (bs := []) (Reads.int _ _) ReadsAll.nil)
  exact Reads.tuple ho hc hd (ReadsAll.cons (as := []) (bs := []) r1 (ReadsAll.cons (as := []) (bs := []) (Reads.int _ _) ReadsAll.nil))
theorem eqv_nk (x y : NK) : PyData.eqv (.tuple [.tuple [.int x.1], .int x.2]) (.tuple [.tuple [.int y.1], .int y.2]) = decide (x = y) := by
  obtain ⟨a, b⟩ := x
  obtain ⟨c, d⟩ := y
  simp only [PyData.eqv, PyData.eqvAll, Bool.and_true, Prod.mk.injEq, Bool.decide_and]
  rfl
theorem wpAny_eqBool_nk {x y : NK} {a b : Addr} {Q : Bool → Shared → Prop} (hu : A.units + 8 < cLine) (hx : IsNK s.heap x a) (hy : IsNK s.heap y b) (h : Q (decide (x = y)) s) :
    wpAny (model P w) A (eqBool (.ref a) (.ref b)) Q E s := by
  rw [← eqv_nk] at h
  refine SeqAt.eqBoolOverData P w A E s _ _ _ _ _ _ Q hx.reads hy.reads (by simp [PyData.canLay0, PyData.canLayAll0]) (by simp [PyData.canLay0, PyData.canLayAll0]) ?_ h
  refine Nat.lt_of_le_of_lt (Nat.add_le_add_left ?_ _) hu
  simp [PyData.depth, PyData.depthAll]
theorem wpAny_eqIsQuiet_nk {k : NK} {a : Addr} {Q : Bool → Shared → Prop} (hk : IsNK s.heap k a) (h : Q true s) : wpAny (model P w) A (eqIsQuiet 8 (.ref a)) Q E s := by
  obtain ⟨o, r, t, n, o1, t1, n1, ho, hc, hd, e4, e5, e6⟩ := hk
  have hT : s.TypeIs (.ref a) "tuple" := ⟨o, ho, hc⟩
  have hR : s.TypeIs (.ref r) "tuple" := ⟨o1, e4, e5⟩
  unfold eqIsQuiet
  refine wpAny_bind (wpAny_specialOf hT F.slot_tuple_eq.lookup ?_)
  show wpAny _ _ (isInstance (.ref a) (.type "tuple") >>= _) _ _ s
  refine wpAny_bind (wpAny_isInstance hT isSubtype_tuple_tuple ?_)
  simp only [Bool.not_true, Bool.false_eq_true, if_false]
  refine wpAny_bind (wpAny_seqItems ho hd ?_)
  refine wpAny_bind ?_
  show wpAny _ _ (forIn (#[Value.ref r, Value.int k.2 t] : Array Value) _ _) _ _ s
  rw [← Array.forIn_toList]
  show wpAny _ _ (forIn [Value.ref r, Value.int k.2 t] _ _) _ _ s
  rw [List.forIn_cons]
  refine wpAny_bind (wpAny_bind ?_)
  · show wpAny _ _ (eqIsQuiet 7 (.ref r)) _ _ s
    unfold eqIsQuiet
    refine wpAny_bind (wpAny_specialOf hR F.slot_tuple_eq.lookup ?_)
    show wpAny _ _ (isInstance (.ref r) (.type "tuple") >>= _) _ _ s
    refine wpAny_bind (wpAny_isInstance hR isSubtype_tuple_tuple ?_)
    simp only [Bool.not_true, Bool.false_eq_true, if_false]
    refine wpAny_bind (wpAny_seqItems e4 e6 ?_)
    refine wpAny_bind ?_
    show wpAny _ _ (forIn (#[Value.int k.1 t1] : Array Value) _ _) _ _ s
    rw [← Array.forIn_toList]
    show wpAny _ _ (forIn [Value.int k.1 t1] _ _) _ _ s
    rw [List.forIn_cons, eqIsQuiet_byValue _ (show carriedByValue (Value.int k.1 t1) = true from rfl)]
    refine wpAny_bind (wpAny_bind (wpAny_pure ?_))
    simp only [Bool.not_true, Bool.false_eq_true, if_false]
    refine wpAny_pure ?_
    dsimp only
    rw [List.forIn_nil]
    refine wpAny_pure ?_
    dsimp only
    refine wpAny_pure ?_
    simp only [Bool.not_true, Bool.false_eq_true, if_false]
    refine wpAny_pure ?_
    dsimp only
    rw [List.forIn_cons]
    refine wpAny_bind (wpAny_bind (wpAny_pure (a := true) ?_))
    simp only [Bool.not_true, Bool.false_eq_true, if_false]
    refine wpAny_pure ?_
    dsimp only
    rw [List.forIn_nil]
    refine wpAny_pure ?_
    exact wpAny_pure h
end
def nkKind (P : Program) (w : World) : HeapKind P w NK where
  is := IsNK
  hash := nkHash P w
  draws := fun _ => 4
  room := fun A => A.units + 8 < cLine
  inj := fun hx hy => hx.inj hy
  keeps := fun x ho hd hs => x.keeps ho hd hs
  pyHash := fun hu hk h => wpAny_pyHash_nk (Nat.lt_of_le_of_lt (Nat.add_le_add_left (by decide) _) hu) hk h
  eqBool := fun hu hx hy h => wpAny_eqBool_nk hu hx hy h
  quiet := fun hk h => wpAny_eqIsQuiet_nk hk h
end CK

set_option Elab.async false
set_option linter.all false
set_option maxRecDepth 100000
set_option maxHeartbeats 4000000
/-! rules over the layer for a dict whose keys are pairs of a tuple and an int -/
namespace CK
open PySem PySem.Spec PyProof.Rows L2

abbrev NE := NK × Addr × V
abbrev NR : List NE → List (NK × Addr × Value) → Prop := Paired fun p q => p.1 = q.1 ∧ p.2.1 = q.2.1 ∧ RelV p.2.2 q.2.2
def NDφ (P : Program) (w : World) (a : Addr) (kvs : List NE) (h : Heap) : Prop := kvs.length ≤ sizeLine ∧ (a == sysModules) = false ∧ ∃ xs, NR kvs xs ∧ (xs.map (·.1)).Nodup ∧
  ∃ o es ep, h.get? a = some o ∧ o.ExactDict ∧ o.data = .dict es ep ∧ es.toList = xs.map (entryOfKey (nkKind P w))
def ND (P : Program) (w : World) (a : Addr) (kvs : List NE) : HO := .ext (NDφ P w a kvs)
def NKAt (H : Hp) (k : NK) (q : Addr) : Prop := ∃ r, H q = some (.tup [.ref r, .int k.2]) ∧ H r = some (.tup [.int k.1])
def NKs (H : Hp) (kvs : List NE) : Prop := ∀ e ∈ kvs, NKAt H e.1 e.2.1
theorem NKAt.same {H H' : Hp} {k : NK} {q : Addr} (e : Same H H') (x : NKAt H k q) : NKAt H' k q := let ⟨r, a, b⟩ := x; ⟨r, e _ _ a, e _ _ b⟩
theorem NKs.same {H H' : Hp} {kvs : List NE} (e : Same H H') (x : NKs H kvs) : NKs H' kvs := fun p hp => (x p hp).same e
theorem NKAt.upd {H : Hp} {k : NK} {q a : Addr} {o : HO} (x : NKAt H k q) (ha : ∀ xs, H a ≠ some (.tup xs)) : NKAt (upd H a o) k q := by
  obtain ⟨r, e1, e2⟩ := x
  refine ⟨r, ?_, ?_⟩
  · rw [upd_ne (fun z => ha _ (z ▸ e1))]; exact e1
  · rw [upd_ne (fun z => ha _ (z ▸ e2))]; exact e2
theorem NKs.upd {H : Hp} {kvs : List NE} {a : Addr} {o : HO} (x : NKs H kvs) (ha : ∀ xs, H a ≠ some (.tup xs)) : NKs (L2.upd H a o) kvs := fun p hp => (x p hp).upd ha
section
variable {P : Program} {w : World} {H : Hp} {h : Heap} {a : Addr} {kvs : List NE}
theorem nk_of (ok : HOk P w H h) {k : NK} {q : Addr} (x : NKAt H k q) : IsNK h k q := by
  obtain ⟨r, e1, e2⟩ := x
  obtain ⟨_, its, v1, o, g1, g2, n, g3⟩ := (show ObjOk P w H h q (.tup _) from ok q _ e1)
  obtain ⟨_, jts, v2, o', f1, f2, m, f3⟩ := (show ObjOk P w H h r (.tup _) from ok r _ e2)
  cases v1 with
  | cons r1 t1 =>
    cases t1 with
    | cons r2 t2 =>
      cases t2
      cases r1
      obtain ⟨t, rfl⟩ := r2
      cases v2 with
      | cons r3 t3 =>
        cases t3
        obtain ⟨t', rfl⟩ := r3
        exact ⟨o, r, t, n, o', t', m, g1, g2, g3, f1, f2, f3⟩
theorem nd_ok (ok : HOk P w H h) (e : Rd H a (ND P w a kvs)) : NDφ P w a kvs h := (show ObjOk P w H h a (ND P w a kvs) from e.ok ok).1
theorem nr_is (ok : HOk P w H h) : ∀ {l : List NE} {m : List (NK × Addr × Value)}, NR l m → NKs H l → ∀ x ∈ m, IsNK h x.1 x.2.1 := by
  intro l m q
  induction q with
  | nil => intro _ x hx; exact nomatch hx
  | @cons p q ps qs hq t ih =>
    intro hk x hx
    rcases List.mem_cons.mp hx with e | hx
    · subst e
      have z := hk p List.mem_cons_self
      rw [hq.1, hq.2.1] at z
      exact nk_of ok z
    · exact ih (fun y hy => hk y (List.mem_cons_of_mem _ hy)) x hx
theorem nd_of (ok : HOk P w H h) (e : Rd H a (ND P w a kvs)) (hk : NKs H kvs) : kvs.length ≤ sizeLine ∧ (a == sysModules) = false ∧ ∃ xs, NR kvs xs ∧ h.DictOfH (nkKind P w) a xs := by
  obtain ⟨z, y, xs, r, nd, o, es, ep, h1, h2, h3, h4⟩ := nd_ok ok e
  exact ⟨z, y, xs, r, o, es, ep, h1, h2, h3, h4, nr_is ok r hk, nd⟩
theorem nd_new {H' : Hp} {xs : List (NK × Addr × Value)} (z : kvs.length ≤ sizeLine) (y : (a == sysModules) = false) (r : NR kvs xs) (dd : h.DictOfH (nkKind P w) a xs) : ObjOk P w H' h a (ND P w a kvs) := by
  obtain ⟨o, es, ep, h1, h2, h3, h4, _, nd⟩ := dd
  refine ⟨⟨z, y, xs, r, nd, o, es, ep, h1, h2, h3, h4⟩, ⟨o, h1⟩, fun g g' x k => ?_⟩
  obtain ⟨z, y, xs, r, nd, o, es, ep, h1, h2, h3, h4⟩ := x
  exact ⟨z, y, xs, r, nd, o, es, ep, k o h1, h2, h3, h4⟩
end
/-! reading and storing, on lists -/
def ngL (kvs : List NE) (k : NK) : Option V := (kvs.find? fun e => decide (e.1 = k)).map (·.2.2)
def npL (kvs : List NE) (k : NK) (q : Addr) (v : V) : List NE := if (ngL kvs k).isSome then kvs.map fun e => if e.1 = k then (e.1, e.2.1, v) else e else kvs ++ [(k, q, v)]
theorem NR.get {kvs : List NE} {xs : List (NK × Addr × Value)} (r : NR kvs xs) (k : NK) : RelO (ngL kvs k) ((atKey xs k).map (·.2)) := by
  induction r with
  | nil => exact True.intro
  | @cons p q ps qs h t ih =>
    obtain ⟨h1, _, h2⟩ := h
    by_cases e : p.1 = k
    · have e' : q.1 = k := h1.symm.trans e
      have b : atKey (q :: qs) k = some q.2 := by simp [atKey, List.find?_cons, e']
      have c : ngL (p :: ps) k = some p.2.2 := by simp [ngL, List.find?_cons, e]
      rw [c, b]; exact h2
    · have e' : ¬ q.1 = k := fun z => e (h1.trans z)
      have b : atKey (q :: qs) k = atKey qs k := by simp [atKey, List.find?_cons, e']
      have c : ngL (p :: ps) k = ngL ps k := by simp [ngL, List.find?_cons, e]
      rw [c, b]; exact ih
theorem NR.repl {kvs : List NE} {xs : List (NK × Addr × Value)} (r : NR kvs xs) (k : NK) {y : V} {u : Value} (ry : RelV y u) : NR (kvs.map fun e => if e.1 = k then (e.1, e.2.1, y) else e) (xs.map (putAt k u)) := by
  induction r with
  | nil => exact .nil
  | @cons p q ps qs h t ih =>
    rw [List.map_cons, List.map_cons]
    refine .cons ?_ ih
    obtain ⟨h1, h2, h3⟩ := h
    unfold putAt
    by_cases e : p.1 = k
    · rw [if_pos e, if_pos (h1.symm.trans e)]; exact ⟨h1, h2, ry⟩
    · rw [if_neg e, if_neg (fun z => e (h1.trans z))]; exact ⟨h1, h2, h3⟩
theorem NR.put {kvs : List NE} {xs : List (NK × Addr × Value)} (r : NR kvs xs) (k : NK) {b : Addr} {y : V} {u : Value} (ry : RelV y u) : NR (npL kvs k b y) (storedH xs k b u) := by
  have e : (ngL kvs k).isSome = (atKey xs k).isSome := by rw [(r.get k).isSome_eq, Option.isSome_map]
  unfold npL storedH
  rw [e]
  by_cases q : (atKey xs k).isSome = true
  · rw [if_pos q, if_pos q]; exact r.repl k ry
  · rw [if_neg q, if_neg q]; exact Paired.snoc r ⟨rfl, rfl, ry⟩
theorem npL_len (kvs : List NE) (k : NK) (q : Addr) (v : V) : (npL kvs k q v).length ≤ kvs.length + 1 := by
  unfold npL
  split
  · rw [List.length_map]; exact Nat.le_succ _
  · rw [List.length_append]; exact Nat.le_refl _
theorem NKs.put {H : Hp} {kvs : List NE} (x : NKs H kvs) {k : NK} {q : Addr} (e : NKAt H k q) (v : V) : NKs H (npL kvs k q v) := by
  intro p hp
  unfold npL at hp
  split at hp
  · obtain ⟨p0, h0, rfl⟩ := List.mem_map.mp hp
    have z := x p0 h0
    split <;> exact z
  · rcases List.mem_append.mp hp with h | h
    · exact x p h
    · rw [List.mem_singleton.mp h]; exact e

section
variable {X : Cx} {pins : List (Addr × Obj)} {σ : L2.St} {H : Hp} {s : Shared}
theorem nd_empty {H' : Hp} (I : Inv X pins σ H s) : ObjOk X.prog X.w H' (s.heap.push { cls := .type "dict", data := .dict #[] }) s.heap.objs.size (ND X.prog X.w s.heap.objs.size []) :=
  nd_new (Nat.zero_le _) (beq_eq_false_iff_ne.mpr (Ne.symm (Nat.ne_of_lt I.big))) .nil (Heap.DictOfH.new s.heap)
theorem room8 {A : Around} {k : Nat} (hr : Room k A) : (nkKind X.prog X.w).room A.in1 := by
  show A.in1.units + 8 < cLine
  have h1 : A.in1.units = A.units + 1 := rfl
  rw [h1]
  have := hr.units
  omega
theorem nk_meets_keys {prog : Program} {w : World} (d : Addr) (hd : (d == sysModules) = false) :
    MeetsIn prog w (Builtin.«dict.keys» ⟨[.ref d], []⟩) (fun _ R s => s.TypeIs (.ref d) "dict" ∧ R (.ok (.ret (.ref s.heap.objs.size))) { s with heap := s.heap.push { cls := .type "dict_keys", data := .fields #[.ref d] } }) :=
  .of_wp fun A R s ⟨hm, h⟩ => by
    refine wpAny_bind ?_
    unfold Builtin.Dict.noArgs
    refine wpAny_bind (wpAny_notOrdered_dict hm ?_)
    show wpAny _ _ (pure d) _ _ s
    refine wpAny_pure ?_
    show wpAny _ _ (Builtin.Dict.showsAll d >>= _) _ _ s
    unfold Builtin.Dict.showsAll
    rw [if_neg (by rw [hd]; exact Bool.false_ne_true)]
    exact wpAny_bind (wpAny_pure (wpAny_bind (wpAny_newObj_type (wpAny_pure ⟨_, rfl, h⟩))))
/-- {} -/
def tNNew (P : Program) (w : World) : TE := fun _ H Q => ∀ p, H p = none → Q (.ref p) (upd H p (ND P w p []))
theorem pe_nnew {pos : Pos} : PE X (.Dict [] [] pos) (tNNew X.prog X.w) := ⟨fun pins s σ H Q I h =>
  wpAny_Dict_empty ⟨.ref s.heap.objs.size, _, I.laid (t' := s.toks) (fun _ _ q => Heap.get?_push_of_some _ q) (Nat.le_refl _) (nd_empty I), rfl, h _ (I.hok.fresh (Nat.le_refl _))⟩⟩
/-- {k: v} -/
def tNDisp (P : Program) (w : World) (tk tv : TE) : TE := fun σ H Q => ∀ p, H p = none → tk σ (upd H p (ND P w p [])) fun x H1 => tv σ H1 fun y H2 => H2 p = some (ND P w p []) ∧ ∃ k q, x = .ref q ∧ NKAt H2 k q ∧ Q (.ref p) (upd H2 p (ND P w p [(k, q, y)]))
theorem pe_ndisp {j : Nat} (hr : Room j X.A) {k v : Expr} {pos : Pos} {tk tv : TE} (hk : PE X k tk) (hv : PE X v tv) : PE X (.Dict [some k] [v] pos) (tNDisp X.prog X.w tk tv) := by
  refine ⟨fun pins s σ H Q I h => ?_⟩
  have hn := I.hok.fresh (Nat.le_refl s.heap.objs.size)
  have I1 := I.laid (h' := s.heap.push { cls := .type "dict", data := .dict #[] }) (t' := s.toks) (fun _ _ q => Heap.get?_push_of_some _ q) (Nat.le_refl _) (nd_empty I)
  have hsh := zip_pairTrees [some k] [v] X.env pos (by rfl) rfl
  rw [arm_eval_Dict, hsh, dictDisplay_pairs _ (by simp [pairTrees]) (by simp [pairTrees])]
  refine wpAny_bind (wpAny_standAt (wpAny_bind (wpAny_subDictH (knd := nkKind X.prog X.w) (Q := fun d s' => wpAny (model X.prog X.w) X.A (pure (Value.ref d)) (EP X pins σ Q) X.xe s') (show X.A.units + 8 < cLine from by have := hr.units; omega) (by simp [pairTrees]) ?_)))
  refine pairTrees_cons_walk (thn (hk.run pins _ σ _ _ I1 (h _ hn)) fun kv s1 ⟨x, H1, I2, rx, q1⟩ => thn (hv.run pins s1 σ H1 _ I2 q1) fun vv s2 ⟨y, H2, I3, ry, e, k0, q, ex, hq, q2⟩ => ?_)
  subst ex
  cases (show kv = Value.ref q from rx)
  refine pairTrees_nil_walk ?_
  obtain ⟨_, hd, xs, r, dd⟩ := nd_of I3.hok (.inl e) (fun p hp => nomatch hp)
  cases r
  refine ⟨[(k0, q, vv)], ⟨rfl, rfl, nk_of I3.hok hq, trivial⟩, dd, fun h' tk' dd' hs => wpAny_pure ?_⟩
  obtain ⟨o', es, ep, ho', _⟩ := id dd'
  have I4 := I3.write (x := s.heap.objs.size) (e := s.heap.objs.size) (o := ND X.prog X.w s.heap.objs.size [(k0, q, y)]) (t' := tk') (by rw [e]; exact True.intro) (.inl rfl) (fun b ob hb z => (hs.2 b hb).trans z) ⟨o', ho'⟩
    (nd_new (xs := [(k0, q, vv)]) (by show 1 ≤ sizeLine; decide) hd (.cons ⟨rfl, rfl, ry⟩ .nil) dd')
  exact ⟨.ref s.heap.objs.size, _, I4, rfl, q2⟩
/-- the value at a key, d[k] and d.get(k, x) -/
theorem nd_getItem {A : Around} {j : Nat} (hr : Room j A) {a q : Addr} {kvs : List NE} {k : NK} {v : V} {E : Value → Shared → Prop} {Q : Value → Shared → Prop} (I : Inv X pins σ H s) (e : Rd H a (ND X.prog X.w a kvs)) (hk : NKs H kvs) (hq : NKAt H k q) (l : ngL kvs k = some v)
    (h : ∀ w' s', Inv X pins σ H s' → RelV v w' → Q w' s') : wpAny (model X.prog X.w) A (getItem (.ref a) (.ref q)) Q E s := by
  obtain ⟨z, hd, xs, rel, dd⟩ := nd_of I.hok e hk
  obtain ⟨w', hw, rw'⟩ := RelO.some_of (v := v) (o := (atKey xs k).map (·.2)) (by rw [← l]; exact rel.get k)
  obtain ⟨p, hp, hp2⟩ := Option.map_eq_some_iff.mp hw
  refine wpAny_getItem_heap (room8 (X := X) hr) (nk_of I.hok hq) dd hp ?_
  rw [hp2]
  exact h w' _ (I.tok _) rw'
theorem nd_typeIs {a : Addr} {kvs : List NE} (I : Inv X pins σ H s) (e : Rd H a (ND X.prog X.w a kvs)) : s.TypeIs (.ref a) "dict" := by
  obtain ⟨_, _, xs, _, _, o, es, ep, h1, h2, _⟩ := nd_ok I.hok e
  exact ⟨o, h1, h2.1⟩
theorem nd_noDict {a : Addr} {kvs : List NE} (I : Inv X pins σ H s) (e : Rd H a (ND X.prog X.w a kvs)) : ∀ b, Value.ref a = .ref b → ∃ ob, s.heap.get? b = some ob ∧ ob.dict = none := fun b q => by
  cases q
  obtain ⟨_, _, xs, _, _, o, es, ep, h1, h2, _⟩ := nd_ok I.hok e
  exact ⟨o, h1, h2.2.1⟩
def tNGet (P : Program) (w : World) (td ty : TE) : TE := fun σ H Q => td σ H fun x H1 => ty σ H1 fun y H2 => ∃ a q kvs k v, x = .ref a ∧ y = .ref q ∧ Rd H2 a (ND P w a kvs) ∧ NKs H2 kvs ∧ NKAt H2 k q ∧ ngL kvs k = some v ∧ Q v H2
theorem pe_nget {j : Nat} (hr : Room j X.A) {o i : Expr} {pos : Pos} {td ty : TE} (ho : PE X o td) (hi : PE X i ty) (hs : NoSl i) : PE X (.Subscript o i pos) (tNGet X.prog X.w td ty) := by
  refine ⟨fun pins s σ H Q I h => ?_⟩
  refine subD_of PySem.F.slot_dict_getitem.lookup hs (thn (ho.run pins s σ H _ I h) fun u s1 ⟨x, H1, I1, rx, q1⟩ => thn (hi.run pins s1 σ H1 _ I1 q1) fun iv s2 ⟨y, H2, I2, ry, a, q, kvs, k, v, ex, ey, e, hk, hq, l, q2⟩ => ?_)
  subst ex
  subst ey
  cases (show u = Value.ref a from rx)
  cases (show iv = Value.ref q from ry)
  exact ⟨nd_typeIs I2 e, nd_getItem hr I2 e hk hq l fun w' s3 I3 rw' => ⟨v, H2, I3, rw', q2⟩⟩
def tNGet2 (P : Program) (w : World) (td ty tx : TE) : TE := fun σ H Q => td σ H fun x H1 => ∃ a kvs, x = .ref a ∧ Rd H1 a (ND P w a kvs) ∧ ty σ H1 fun y H2 => tx σ H2 fun z H3 => ∃ q k, y = .ref q ∧ Rd H3 a (ND P w a kvs) ∧ NKs H3 kvs ∧ NKAt H3 k q ∧ Q ((ngL kvs k).getD z) H3
theorem pe_nget2 {j : Nat} (hr : Room j X.A) {o e f : Expr} {apos cpos : Pos} {td ty tx : TE} (ho : PE X o td) (he : PE X e ty) (hf : PE X f tx) (m : M2 X o "get" apos e f cpos) : PE X (.Call (.Attribute o "get" apos) [e, f] [] cpos) (tNGet2 X.prog X.w td ty tx) := by
  refine ⟨fun pins s σ H Q I h => ?_⟩
  refine wpAny_Call_method m.base m.few m.line PySem.F.plainAttrs_dict PySem.F.slot_dict_get PySem.F.type_dict_get (thn (ho.run pins s σ H _ I h) fun u s1 ⟨x, H1, I1, rx, a, kvs, ex, d, q1⟩ => ?_)
  subst ex
  cases (show u = Value.ref a from rx)
  refine ⟨nd_typeIs I1 d, nd_noDict I1 d, ?_⟩
  rw [m.trees]
  refine Calls.callWith_builtin rfl (Calls.evalArgs_plain (Calls.spliced_cons (thn (he.run pins s1 σ H1 _ I1 q1) fun iv s2 ⟨y, H2, I2, ry, q2⟩ =>
    Calls.spliced_cons (thn (hf.run pins s2 σ H2 _ I2 q2) fun fv s3 ⟨z, H3, I3, rz, q, k, ey, d3, hk, hq, q3⟩ => Calls.spliced_nil ?_))))
  subst ey
  cases (show iv = Value.ref q from ry)
  obtain ⟨_, hd, xs, rel, dd⟩ := nd_of I3.hok d3 hk
  refine call_meetsIn PySem.F.slot_dict_get dd.typeIs PySem.F.entry_dict_get (PySem.F.args_dict_get_3 _ _ _) (meetsH_dict_get_default (nkKind X.prog X.w) a q hd fv) ⟨room8 (X := X) hr, k, xs, nk_of I3.hok hq, dd, _, H3, I3.tok _, ?_, q3⟩
  exact (rel.get k).getD rz
def sNPut (P : Program) (w : World) (td ty tv : TE) : TS := fun D σ H => tv σ H fun v H1 => td σ H1 fun x H2 => ty σ H2 fun y H3 => ∃ a q kvs k, x = .ref a ∧ y = .ref q ∧ H3 a = some (ND P w a kvs) ∧ NKs H3 kvs ∧ NKAt H3 k q ∧ kvs.length < 1000 ∧ D.nx σ (upd H3 a (ND P w a (npL kvs k q v)))
theorem ps_nput {j : Nat} (hr : Room j X.A) {o i value : Expr} {pos pos' : Pos} {td ty tv : TE} (ho : PE X o td) (hi : PE X i ty) (hv : PE X value tv) (hs : swapsWith value (some (.Subscript o i pos')) pos.line X.env = pure false) :
    PS X (.Assign [.Subscript o i pos'] value pos) (sNPut X.prog X.w td ty tv) := by
  refine ⟨fun pins s σ H D I h => ?_⟩
  refine wpAny_Assign_Subscript (thn (hv.run pins s σ H _ I h) fun r s1 ⟨v, H1, I1, rv, q1⟩ => thn (ho.run pins s1 σ H1 _ I1 q1) fun u s2 ⟨x, H2, I2, rx, q2⟩ => thn (hi.run pins s2 σ H2 _ I2 q2) fun iv s3 ⟨y, H3, I3, ry, a, q, kvs, k, ex, ey, e, hk, hq, hl, q3⟩ => ?_) hs
  subst ex
  subst ey
  cases (show u = Value.ref a from rx)
  cases (show iv = Value.ref q from ry)
  obtain ⟨z, hd, xs, rel, dd⟩ := nd_of I3.hok (.inl e) hk
  have hz : xs.length ≤ sizeLine := by rw [← Paired.length rel]; exact z
  have hl2 : (npL kvs k q v).length ≤ sizeLine := by
    have := npL_len kvs k q v
    rw [sizeLine_eq]
    omega
  refine wpAny_setItem_heap (hsz := hz) (room8 (X := X) hr) (nk_of I3.hok hq) dd fun h' dd' hs => ⟨σ, _, I3.write (x := a) (e := a) (o := ND X.prog X.w a (npL kvs k q v)) (t' := s3.toks + 4) (by rw [e]; exact True.intro) (.inl rfl) (fun b ob hb z => (hs.2 b hb).trans z) ?_ ?_, q3⟩
  · obtain ⟨o', _, _, ho', _⟩ := dd'
    exact ⟨o', ho'⟩
  · exact nd_new hl2 hd (rel.put k rv) dd'
/-- for .. in d.keys(), the dict locked -/
def Itn (P : Program) (w : World) (d : Addr) (o : Obj) (kvs : List NE) : It :=
  ⟨fun i H => H d = some (.frz o (ND P w d kvs)) ∧ i < kvs.length, fun i H x H' => H' = H ∧ ∃ e, kvs[i]? = some e ∧ x = .ref e.2.1, fun i H => H d = some (.frz o (ND P w d kvs)) ∧ kvs.length ≤ i⟩
theorem nd_frz {d : Addr} {o : Obj} {kvs : List NE} (I : Inv X pins σ H s) (h : H d = some (.frz o (ND X.prog X.w d kvs))) :
    (d == sysModules) = false ∧ s.heap.get? d = some o ∧ o.ExactDict ∧ ∃ (es : Array DictEntry) (ep : Nat), o.data = .dict es ep ∧ es.size = kvs.length ∧ ∀ (i : Nat) (e : NE), kvs[i]? = some e → ∃ en : DictEntry, es[i]? = some en ∧ en.key = .ref e.2.1 := by
  obtain ⟨hd, ⟨z, y, xs, r, nd, o', es, ep, h1, h2, h3, h4⟩, _, _⟩ := I.hok d _ h
  rw [hd] at h1
  cases h1
  refine ⟨y, hd, h2, es, ep, h3, ?_, fun i e he => ?_⟩
  · have l1 : es.size = xs.length := size_of_entries h4
    have l2 : kvs.length = xs.length := Paired.length r
    omega
  · obtain ⟨b, hb, e1, e2, _⟩ := paired_get r he
    have q := entry_at h4 i
    rw [hb] at q
    refine ⟨_, q, ?_⟩
    show Value.ref b.2.1 = _
    rw [e2]
theorem turn_nkeys {P : Program} {w : World} {K : PySem.W.Frag} {tg : Expr} {d : Addr} {o : Obj} {kvs : List NE} {es : Array DictEntry} {ep : Nat} (it : Addr) (hod : o.data = .dict es ep) : Turn P w K tg (Itn P w d o kvs) [it] it (fun i h => h.IsKeyIter it d i kvs.length ep) where
  mem := by simp
  obj := fun i h st b hb => by
    cases (show b = it by simpa using hb)
    obtain ⟨oi, e, c, dd⟩ := st
    exact ⟨oi, e, fun v z => by rw [dd] at z; cases z⟩
  keep := fun i h h' st k => st.at fun oi e => k it (by simp) oi e
  item := by
    intro X hP hw hK hc i pins s σ H E I hf st hg
    subst hP hw hK
    obtain ⟨hd, hi⟩ := hg
    obtain ⟨f0, f1, f2, f3, f4, f5⟩ := hf it (by simp)
    obtain ⟨hs, hgd, hx, es', ep', hdt, hsz, ent⟩ := nd_frz I hd
    obtain ⟨rfl, rfl⟩ := dict_ep hod hdt
    obtain ⟨en, hen, hkey⟩ := ent i _ (List.getElem?_eq_getElem hi)
    refine next_key_item st hgd hdt hsz hen fun h' st' sb => ?_
    have I1 : Inv X pins σ H { s with heap := h' } := I.turned (t' := s.toks) (fun b ob hb e => (sb.2 b hb).trans e) f0 f1 f3 f4 f5
    obtain ⟨oi, e, c, dd⟩ := id st'
    exact ⟨en.key, rfl, go_of (s := { s with heap := h' }) e c dd (by decide) ⟨.ref kvs[i].2.1, H, I1, hkey, ⟨rfl, _, List.getElem?_eq_getElem hi, rfl⟩, st', fun b hb => (hf b hb).1⟩⟩
  done := by
    intro X hP hw hK hc i pins s σ H E I hf st hg
    subst hP hw hK
    obtain ⟨hd, hi⟩ := hg
    obtain ⟨f0, f1, f2, f3, f4, f5⟩ := hf it (by simp)
    obtain ⟨hs, hgd, hx, es', ep', hdt, hsz, ent⟩ := nd_frz I hd
    obtain ⟨rfl, rfl⟩ := dict_ep hod hdt
    exact next_key_end (I.ok.hd hc) st hgd hdt hsz hi fun h' eb => ⟨rfl, I.turned (t' := s.toks) (fun b ob hb e => eb b ob hb e) f0 f1 f3 f4 f5⟩
  self := fun A i s Q E st h => by
    refine wpAny_pyIter_slot st.typeIs F.slot_dict_keyiterator_iter (wpAny_call_entry F.slot_dict_keyiterator_iter st.typeIs F.entry_dict_keyiterator_iter ?_ (F.args_dict_keyiterator_iter_1 _))
    show wpAny _ _ (ret (.ref it)) _ _ s
    exact wpAny_pure ⟨_, rfl, "dict_keyiterator", _, st.typeIs, F.slot_dict_keyiterator_next.lookup, h⟩
def iNKeys (P : Program) (w : World) (td : TE) : TI := fun σ H R => td σ H fun x H1 => ∃ d o kvs, x = .ref d ∧ H1 d = some (.frz o (ND P w d kvs)) ∧ R (Itn P w d o kvs) H1
theorem pi_nkeys {tg e : Expr} {td : TE} {apos cpos : Pos} (he : PE X e td) (hbase : attributeBase e "keys" X.env (eval e X.env) = eval e X.env := by rfl) (hline : (apos.endLine == cpos.line) = true := by rfl) :
    PI X tg (.Call (.Attribute e "keys" apos) [] [] cpos) (iNKeys X.prog X.w td) := by
  refine ⟨fun pins s σ H R I h => ?_⟩
  refine wpAny_Call_method (T := "dict") (id := "dict.keys") hbase rfl hline F.plainAttrs_dict F.slot_dict_keys F.type_dict_keys (thn (he.run pins s σ H _ I h) fun u s1 ⟨x, H1, I1, rx, d, o, kvs, ex, hd, q⟩ => ?_)
  subst ex
  cases (show u = Value.ref d from rx)
  obtain ⟨hs, hgd, hx, es, ep, hdt, hsz, ent⟩ := nd_frz I1 hd
  have hT : s1.TypeIs (.ref d) "dict" := ⟨o, hgd, hx.1⟩
  refine ⟨hT, fun b q => by cases q; exact ⟨o, hgd, hx.2.1⟩, ?_⟩
  have I2 : Inv X pins σ H1 { s1 with heap := s1.heap.push { cls := .type "dict_keys", data := .fields #[.ref d] } } := I1.kept (t' := s1.toks) fun b ob q => Heap.get?_push_of_some _ q
  have hv : PySem.W.KdlKeysView (s1.heap.push { cls := .type "dict_keys", data := .fields #[.ref d] }) s1.heap.objs.size d := ⟨_, Heap.get?_push_size _ rfl, rfl, rfl⟩
  have hgd2 : (s1.heap.push { cls := .type "dict_keys", data := .fields #[.ref d] }).get? d = some o := Heap.get?_push_of_some _ hgd
  have fin : wpAny (model X.prog X.w) X.A (pyIter (.ref s1.heap.objs.size)) (PIE X pins σ tg R) X.xe { s1 with heap := s1.heap.push { cls := .type "dict_keys", data := .fields #[.ref d] } } := by
    obtain ⟨ov, hov, hcv, hdv⟩ := id hv
    have tv : Shared.TypeIs { s1 with heap := s1.heap.push { cls := .type "dict_keys", data := .fields #[.ref d] } } (.ref s1.heap.objs.size) "dict_keys" := ⟨ov, hov, hcv⟩
    refine wpAny_pyIter_slot tv PySem.W.kdl_slot_keys_iter (wpAny_call_entry PySem.W.kdl_slot_keys_iter tv PySem.W.kdl_entry_keys_iter ?_ (PySem.W.kdl_args_keys_iter _))
    unfold Builtin.«dict_keys.__iter__»
    refine wpAny_bind (wpAny_pure (wpAny_bind ?_))
    unfold Builtin.Dict_items.dictOf
    refine wpAny_bind (wpAny_field hov hdv (x := .ref d) rfl (wpAny_pure (wpAny_bind ?_)))
    unfold Builtin.Dict_items.newIterator
    refine wpAny_bind (wpAny_dictEntries hgd2 hdt (wpAny_bind (wpAny_dictEpoch hgd2 hdt ?_)))
    have hown : Builtin.Dict_items.ownsTuple "dict_keyiterator" = false := by decide
    simp only [hown, Bool.false_eq_true, if_false]
    refine wpAny_newObj_type (wpAny_pure ⟨_, rfl, "dict_keyiterator", _, ⟨_, Heap.get?_push_size _ rfl, rfl⟩, PySem.F.slot_dict_keyiterator_next.lookup, ?_⟩)
    refine pi_one (tk := s1.toks) I2 _ (turn_nkeys _ hdt) ⟨_, Heap.get?_push_size _ rfl, rfl, ?_⟩ q
    simp [rawInt, hsz]
  show wpAny _ _ (callWith cpos (.builtin "dict.keys") [.ref d] [] []) _ X.xe s1
  refine method_meetsIn F.slot_dict_keys F.entry_dict_keys rfl (PySem.evalArgs_none ⟨rfl, hT, F.args_dict_keys_1 _, _, nk_meets_keys d hs, hT, fin⟩)
end
end CK

set_option Elab.async false
set_option linter.all false
set_option maxRecDepth 100000
set_option maxHeartbeats 4000000
/-! more rules: tuple * 1, tuple[::-1], enumerate(tuple), sum of a dict's values, sorted of its keys -/
namespace CK
open PySem PySem.Spec PyProof.Rows L2

/-! tuple * 1 is the tuple itself -/
theorem tup_mul_one (l : Addr) (items : Array Value) (n : Nat) (dd : Option Addr) (sl : Array (Option Value)) (u : Tok) :
    Meets (Builtin.«tuple.__mul__» ⟨[.ref l, .int 1 u], []⟩) (fun _ R s => s.heap.get? l = some { cls := .type "tuple", dict := dd, data := .seq items n, slots := sl } ∧ R (.ok (.ret (Value.ref l))) s) :=
  .of_wp fun prog w A R s h => by
    obtain ⟨hp, g, d, tk, os⟩ := s
    obtain ⟨hl, h⟩ := h
    have f1 := AutoSeq1.idx_int
    wp_walk using wpAny_loadPart' hl
    repeat (first
      | (refine wpAny_ite_false (by decide) ?_; wp_walk using wpAny_loadPart' hl)
      | (refine wpAny_ite_true (by simp) ?_; wp_walk using wpAny_loadPart' hl))
    all_goals first
      | exact ⟨_, rfl, h⟩
      | trace_state
def rRep1 (K : PySem.W.Frag) : R2 := fun x y H Q => ∃ l xs, x = .ref l ∧ y = .int 1 ∧ SqT K H l xs ∧ Q (.ref l) H
theorem op_rep1 {X : Cx} : OpR X (binaryOp .Mult) (rRep1 X.K) := by
  intro pins s σ H x y v u Q I rx ry h
  obtain ⟨l, xs, rfl, rfl, hT, q⟩ := h
  cases rx
  obtain ⟨t, rfl⟩ := ry
  obtain ⟨its, r, ⟨⟨cls, dd, data, sl⟩, ho, hc, n, hd⟩, hs⟩ := I.tuple hT
  simp only at hc hd
  subst hc hd
  exact wpAny_binaryOp_repeat_ref (T := "tuple") (U := "int") (by decide) ⟨_, ho, rfl⟩ (fun s' => typeIs_int s' 1 t) noFill_tuple_mul F.fills_int_mul F.slot_int_rmul repeat_tuple F.slot_int_index.lookup
    (call_meets F.slot_int_rmul (typeIs_int s 1 t) F.entry_int_rmul (F.args_int_rmul_2 _ _) (int_rmul_tuple 1 t l its.toArray n dd sl)
      ⟨ho, rfl, ⟨_, ho, rfl⟩, call_meets F.slot_tuple_mul ⟨_, ho, rfl⟩ F.entry_tuple_mul (F.args_tuple_mul_2 _ _) (tup_mul_one l its.toArray n dd sl t) ⟨ho, ⟨.ref l, H, I, rfl, q⟩⟩⟩)
/-- tuple * k, k at least 1 -/
def rRepA (K : PySem.W.Frag) : R2 := fun x y H Q => ∃ l k xs, x = .ref l ∧ y = .int k ∧ SqT K H l xs ∧ xs ≠ [] ∧ 1 ≤ k ∧ k ≤ 1000 ∧ xs.length ≤ 1000 ∧ (k = 1 → Q (.ref l) H) ∧ ∀ p, H p = none → Q (.ref p) (upd H p (.tup (List.replicate k.toNat xs).flatten))
theorem op_repA {X : Cx} : OpR X (binaryOp .Mult) (rRepA X.K) := by
  intro pins s σ H x y v u Q I rx ry h
  obtain ⟨l, k, xs, ex, ey, hT, h0, h1, h2, h3, q1, q2⟩ := h
  by_cases hk : k = 1
  · subst hk
    exact op_rep1 pins s σ H x y v u Q I rx ry ⟨l, xs, ex, ey, hT, q1 rfl⟩
  · exact op_repT pins s σ H x y v u Q I rx ry ⟨l, k, xs, ex, ey, hT, h0, by omega, h2, h3, q2⟩

/-! tuple[::-1] -/
section
variable {prog : Program} {w : World} {A : Around} {E : Value → Shared → Prop} {s : Shared}
theorem sliceApplied_rev {sl : Addr} {vl vu vs : Value} {n : Nat} {Q : Int × Int × Nat → Shared → Prop} (hs : s.heap.IsSliceOf sl vl vu vs) (pl : IsPart vl none) (pu : IsPart vu none) (ps : IsPart vs (some (-1)))
    (h : Q ((n : Int) - 1, -1, n) s) : wpAny (model prog w) A (Builtin.Slice.sliceApplied (.ref sl) (pure (n : Int))) Q E s := by
  obtain ⟨os, hos, hcs, hds⟩ := id hs
  unfold Builtin.Slice.sliceApplied Builtin.Slice.sliceFields
  refine wpAny_bind (wpAny_bind (wpAny_field hos hds (x := vl) rfl (wpAny_bind (wpAny_field hos hds (x := vu) rfl (wpAny_bind (wpAny_field hos hds (x := vs) rfl (wpAny_pure ?_)))))))
  refine wpAny_bind (HT.slicePart_ ps ?_)
  show wpAny _ _ (if ((-1 : Int) == 0) = true then _ else _) _ _ s
  rw [if_neg (by decide)]
  refine wpAny_bind (HT.slicePart_ pl (wpAny_bind (HT.slicePart_ pu (wpAny_bind (wpAny_pure ?_)))))
  have e1 : Builtin.Slice.sliceAdjust none none (-1) (n : Int) = ((n : Int) - 1, -1) := by
    unfold Builtin.Slice.sliceAdjust
    rfl
  have e2 : Builtin.Slice.slicePlaces ((n : Int) - 1) (-1) (-1) = n := by
    unfold Builtin.Slice.slicePlaces
    rw [if_neg (by omega)]
    split
    · have e : ((n : Int) - 1 - -1 - 1) / (- -1) = (n : Int) - 1 := by
        rw [show (- -1 : Int) = 1 by decide, Int.ediv_one]
        omega
      omega
    · omega
  show wpAny _ _ (match Builtin.Slice.sliceAdjust none none (-1) (n : Int) with | (lo, hi) => pure (lo, (-1 : Int), Builtin.Slice.slicePlaces lo hi (-1))) _ _ s
  rw [e1]
  show wpAny _ _ (pure ((n : Int) - 1, (-1 : Int), Builtin.Slice.slicePlaces ((n : Int) - 1) (-1) (-1))) _ _ s
  rw [e2]
  exact wpAny_pure h
theorem fm_congr {α β : Type} {f g : α → Option β} : ∀ {l : List α}, (∀ x ∈ l, f x = g x) → l.filterMap f = l.filterMap g
  | [], _ => rfl
  | x :: l, h => by
    rw [List.filterMap_cons, List.filterMap_cons, h x List.mem_cons_self, fm_congr (l := l) fun y hy => h y (List.mem_cons_of_mem _ hy)]
theorem pick_rev (xs : Array Value) : ((List.range xs.size).filterMap fun (k : Nat) => xs[((xs.size : Int) - 1 + (k : Int) * -1).toNat]?).toArray = xs.toList.reverse.toArray := by
  have e : ∀ k ∈ List.range xs.size, xs[((xs.size : Int) - 1 + (k : Int) * -1).toNat]? = (fun j => xs[j]?) (xs.size - 1 - k) := fun k hk => by
    have := List.mem_range.mp hk
    show _ = xs[xs.size - 1 - k]?
    rw [show ((xs.size : Int) - 1 + (k : Int) * -1).toNat = xs.size - 1 - k by omega]
  rw [fm_congr e]
  have e2 : (List.range xs.size).filterMap (fun k => (fun j => xs[j]?) (xs.size - 1 - k)) = ((List.range xs.size).map fun k => xs.size - 1 - k).filterMap (fun j => xs[j]?) := by
    rw [List.filterMap_map] <;> rfl
  rw [e2, PySem.W.krv_range, List.filterMap_reverse, PySem.W.krv_all]
theorem getItem_tuple_rev {t sl : Addr} {items : Array Value} {vl vu vs : Value} {Q : Value → Shared → Prop} (ht : IsTup s.heap t items) (hs : s.heap.IsSliceOf sl vl vu vs) (pl : IsPart vl none) (pu : IsPart vu none) (ps : IsPart vs (some (-1)))
    (h : Q (.ref s.heap.objs.size) { s with heap := s.heap.push { cls := .type "tuple", data := .seq items.toList.reverse.toArray } }) (hz : items.size ≤ sizeLine) : wpAny (model prog w) A (getItem (.ref t) (.ref sl)) Q E s := by
  obtain ⟨os, hos, hcs, hds⟩ := id hs
  have hTs : s.TypeIs (.ref sl) "slice" := ⟨os, hos, hcs⟩
  have hok : sizeOk (.seq items.toList.reverse.toArray) := by
    show items.toList.reverse.toArray.size ≤ sizeLine
    rw [List.size_toArray, List.length_reverse, Array.length_toList]
    exact hz
  unfold getItem
  try with_reducible refine wpAny_holding ?_
  first | refine wpAny_bind (wpAny_pure ?_) | skip
  refine wpAny_bind (wpAny_sequenceKey ht.typeIs (by decide) ?_)
  refine wpAny_bind (wpAny_callSpecial?_slot (name := Str.ofString "__getitem__") ht.typeIs PyProof.Rows.slot_tuple_getitem
    (wpAny_call_entry PyProof.Rows.slot_tuple_getitem ht.typeIs entry_tuple_getitem ?_ (args_tuple_getitem _ _)))
  show wpAny _ _ (Builtin.Tuple.tupleItemsOf (.ref t) >>= _) _ _ s
  refine wpAny_bind (tupleItemsOf_ ht (wpAny_bind (wpAny_typeOf hTs ?_)))
  rw [if_pos (by decide)]
  refine wpAny_bind (sliceApplied_rev hs pl pu ps ?_)
  show wpAny _ _ (if (((items.size : Int) - 1 == 0) && ((-1 : Int) == 1) && (items.size == items.size)) = true then _ else _) _ _ s
  rw [if_neg (by simp), pick_rev]
  first
    | exact wpAny_bind (m := Builtin.Tuple.tupleExact _) (wpAny_newObj_type (wpAny_pure ⟨_, rfl, wpAny_pure h⟩) hok)
    | exact wpAny_bind (m := Builtin.Tuple.tupleExact _) (wpAny_newObj_type (wpAny_bind (wpAny_pure (wpAny_pure ⟨_, rfl, wpAny_pure h⟩))) hok)
    | exact wpAny_bind (wpAny_bind (m := Builtin.Tuple.tupleExact _) (wpAny_newObj_type (wpAny_pure (wpAny_pure ⟨_, rfl, wpAny_pure h⟩)) hok))
    | exact wpAny_bind (wpAny_bind (m := Builtin.Tuple.tupleExact _) (wpAny_newObj_type (wpAny_pure ⟨_, rfl, wpAny_pure h⟩) hok))
end
section
variable {X : Cx}
def tRevT (K : PySem.W.Frag) (te : TE) : TE := fun σ H Q => te σ H fun x H1 => ∃ a xs, x = .ref a ∧ SqT K H1 a xs ∧ ∀ p, H1 p = none → Q (.ref p) (upd H1 p (.tup xs.reverse))
theorem pe_revT {e : Expr} {te : TE} {k : Nat} {p1 p2 p3 pos : Pos} (he : PE X e te) : PE X (.Subscript e (.Slice none none (some (.UnaryOp .USub (.Constant (.int 1) k p1) p2)) p3) pos) (tRevT X.K te) := by
  refine ⟨fun pins s σ H Q I h => ?_⟩
  refine Subscript_ (thn (he.run pins s σ H _ I h) fun v s1 ⟨x, H1, I1, r1, q1⟩ => ?_)
  obtain ⟨a, xs, ex, hx, q⟩ := q1
  subst ex
  cases r1
  have hst : PO X (some (.UnaryOp .USub (.Constant (.int 1) k p1) p2)) (tPart (tUn (rU fun i => .int (-i)) (tC (.int 1)))) := po_some (pe_un un_neg pe_int)
  refine wpAny_Slice (thn (po_none.run pins s1 σ H1 (fun o H2 => o = none ∧ H2 = H1) I1 ⟨rfl, rfl⟩) fun vl s2 ⟨l, H2, I2, pl, el, e2⟩ => ?_)
  subst el e2
  refine thn (po_none.run pins s2 σ H2 (fun o H3 => o = none ∧ H3 = H2) I2 ⟨rfl, rfl⟩) fun vu s3 ⟨u, H3, I3, pu, eu, e3⟩ => ?_
  subst eu e3
  refine thn (hst.run pins s3 σ H3 (fun o H4 => o = some (-1) ∧ H4 = H3) I3 ⟨1, rfl, -1, rfl, rfl, rfl⟩) fun vs s4 ⟨o, H4, I4, ps, eo, e4⟩ => ?_
  subst eo e4
  have I5 : Inv X pins σ H4 { s4 with heap := s4.heap.push { cls := .type "slice", data := .fields #[vl, vu, vs] } } := I4.kept (t' := s4.toks) fun b ob q => Heap.get?_push_of_some _ q
  obtain ⟨its, r, ht, hz⟩ := I5.tuple hx
  have hlen := r.length
  show wpAny (model X.prog X.w) X.A (subscriptTail e (.Slice none none (some (.UnaryOp .USub (.Constant (.int 1) k p1) p2)) p3) (.ref a) (.ref s4.heap.objs.size)) (EP X pins σ Q) X.xe { s4 with heap := s4.heap.push { cls := .type "slice", data := .fields #[vl, vu, vs] } }
  refine tail_any (ops := [.ref a, .ref s4.heap.objs.size]) ht.typeIs (PyProof.Rows.slot_tuple_getitem.lookup) ?_ (by with_unfolding_all rfl)
  refine getItem_tuple_rev ht (Heap.IsSliceOf.new _ vl vu vs) pl pu ps ?_ (by rw [List.size_toArray]; omega)
  refine ⟨.ref _, _, I5.laid (t' := s4.toks) (o := .tup xs.reverse) (fun b ob q => Heap.get?_push_of_some _ q) (Nat.le_refl _) ?_, rfl, q _ (I5.hok.fresh (Nat.le_refl _))⟩
  exact ⟨by rw [List.length_reverse]; exact hz, _, r.reverse, IsTup.new _ _⟩
end
end CK

set_option Elab.async false
set_option linter.all false
set_option maxRecDepth 100000
set_option maxHeartbeats 4000000
namespace CK
open PySem PySem.Spec PyProof.Rows L2

/-! tuple(range(a, b, c)) -/
section
variable {X : Cx}
def tTupRg3 (ta : TA) : TE := fun σ H Q => ta σ H fun vs H1 => ∃ (i j c : Int) (n : Nat), vs = [.int i, .int j, .int c] ∧ RgC i j c n ∧ n ≤ 1000 ∧ ∀ q, H1 q = none → Q (.ref q) (upd H1 q (.tup ((List.range n).map fun k => V.int (i + (k : Nat) * c))))
theorem vals_rg3 {i c : Int} {n : Nat} {acc : Array Value} (h : ItemsOf (fun k v => ∃ t, v = .int (i + k * c) t) acc n) : Vals ((List.range n).map fun k => V.int (i + (k : Nat) * c)) acc.toList := by
  have e : acc.toList.length = n := by rw [Array.length_toList]; exact h.1
  rw [← e]
  refine vals_of_get acc.toList _ fun j u hj => ?_
  obtain ⟨t, rfl⟩ := h.2 j u (by rw [← hj, Array.getElem?_toList])
  exact ⟨t, rfl⟩
theorem pe_tupRg3 {a b c : Expr} {ta : TA} {p pos p2 pos2 : Pos} (hc : X.calm = true) (hg : Gl X "tuple") (hm : X.mg "tuple" = none) (hg2 : Gl X "range") (hm2 : X.mg "range" = none) (ha : PA X [a, b, c] ta)
    (hs : starEach [a, b, c] X.env = (false, eval a X.env) :: starEach [b, c] X.env := by rfl) (hpl : (backTo pos2 (starEach [b, c] X.env)).any (·.1) = false := by rfl)
    (na : starEach [.Call (.Name "range" p2) [a, b, c] [] pos2] X.env = (false, eval (.Call (.Name "range" p2) [a, b, c] [] pos2) X.env) :: starEach [] X.env := by rfl) :
    PE X (.Call (.Name "tuple" p) [.Call (.Name "range" p2) [a, b, c] [] pos2] [] pos) (tTupRg3 ta) := by
  refine ⟨fun pins s σ H Q I h => ?_⟩
  refine Call_ (ld_blt I hg hm boot_tuple (PyProof.Rows.callWith_type1 (args_cons ?_ na) na))
  refine Call_ (ld_blt I hg2 hm2 boot_range (PyProof.Rows.callWith_type1 (thn (ha.run pos2 pins s σ H _ I h) fun us s1 ⟨vs, H1, I1, r1, q1⟩ => ?_) hs hpl))
  obtain ⟨i, j, k, n, e, ⟨c0, c1, c2, c3⟩, hn, q⟩ := q1
  subst e
  cases r1 with
  | cons r rr =>
    cases rr with
    | cons r' rr =>
      cases rr with
      | cons r'' rr =>
        cases rr
        obtain ⟨t, rfl⟩ := r
        obtain ⟨t', rfl⟩ := r'
        obtain ⟨t'', rfl⟩ := r''
        refine call_range_3 c0 (args_nil ?_) (.inl (PyProof.noPylong_small c1))
        have I2 : Inv X pins σ H1 { s1 with heap := s1.heap.push { cls := .type "range", data := .fields #[.int i t, .int j t', .int k t''] } } := I1.kept (t' := s1.toks) fun b o e => Heap.get?_push_of_some _ e
        refine call_tuple_range (n := n) (I2.ok.hd hc) (IsRange.new _ _ _ _ _ _ _) c2 c3 (by omega) fun h' tk acc hk hi => ?_
        have I3 : Inv X pins σ H1 { s1 with heap := h', toks := tk } := I2.kept (t' := tk) hk
        refine ⟨.ref h'.objs.size, _, I3.laid (t' := tk) (fun c o e => Heap.get?_push_of_some _ e) (Nat.le_refl _) (show ObjOk X.prog X.w _ _ _ (.tup ((List.range n).map fun m => V.int (i + (m : Nat) * k))) from ⟨?_, acc.toList, vals_rg3 hi, ?_⟩), rfl, q _ (I3.hok.fresh (Nat.le_refl _))⟩
        · rw [List.length_map, List.length_range, sizeLine_eq]; omega
        · rw [Array.toArray_toList]; exact IsTup.new _ _
end

/-! enumerate(tuple) -/
def Iten (K : PySem.W.Frag) (a : Addr) : It :=
  ⟨fun i H => ∃ (xs : List V) (x : V), SqT K H a xs ∧ xs[i]? = some x, fun i H v H' => ∃ T x, v = .ref T ∧ H T = none ∧ H' = upd H T (.tup [.int (i : Nat), x]) ∧ ∀ xs, SqT K H a xs → xs[i]? = some x, fun i H => ∃ xs : List V, SqT K H a xs ∧ xs.length ≤ i⟩
set_option maxHeartbeats 1000000 in
theorem enumT_new {t : Addr} {items : Array Value} :
    Meets (Builtin.«enumerate.__new__» ⟨[.type "enumerate", .ref t], []⟩) (fun _ R s => s.heap.IsTuple t items ∧
      R (.ok (.ret (.ref (s.heap.push { cls := .type "tuple_iterator", data := .fields #[.ref t, .int 0 0] }).objs.size))) { s with heap := (s.heap.push { cls := .type "tuple_iterator", data := .fields #[.ref t, .int 0 0] }).push { cls := .type "enumerate", data := .fields #[.none, .bool false, .ref s.heap.objs.size, rawInt 0, .none, .none] } }) :=
  .of_wp fun prog w A R s h => by
    obtain ⟨hp, g, d, tk, os⟩ := s
    obtain ⟨h1, h⟩ := h
    have hsub := sub_enumerate
    have q1 : ∀ {A' : Around} {E : Value → Shared → Prop} {Q : Value → Shared → Prop}, Q (.ref hp.objs.size) ⟨hp.push { cls := .type "tuple_iterator", data := .fields #[.ref t, .int 0 0] }, g, d, tk, os⟩ → wpAny (model prog w) A' (pyIter (.ref t)) Q E ⟨hp, g, d, tk, os⟩ :=
      fun q => wpAny_pyIter_tuple h1 q
    wp_walk using q1
    refine wpAny_stack_any fun st => wpAny_pure ?_
    split
    · rename_i c _ _ _ _ _
      cases (c == Value.type "enumerate")
      · wp_walk using q1
        exact ⟨_, rfl, h⟩
      · wp_walk using q1
        exact ⟨_, rfl, h⟩
    · wp_walk using q1
      exact ⟨_, rfl, h⟩
section
variable {prog : Program} {w : World} {A : Around} {E : Value → Shared → Prop} {s : Shared}
theorem enumT_call {t : Addr} {items : Array Value} {Q : Value → Shared → Prop} (ht : s.heap.IsTuple t items)
    (h : ∀ h', IsEnum h' (s.heap.objs.size + 1) s.heap.objs.size 0 .none → h'.IsTupleIter s.heap.objs.size t 0 → h'.objs.size = s.heap.objs.size + 2 →
      (∀ b o, s.heap.get? b = some o → h'.get? b = some o) → Q (.ref (s.heap.objs.size + 1)) { s with heap := h' }) :
    wpAny (model prog w) A (call (.type "enumerate") [.ref t]) Q E s := by
  refine callType_new F.called_enumerate (by decide) (F.typeCall_enumerate_1 _) (F.newCall_enumerate_1 _) (fun obj => F.args_object_init_2 obj _) F.entry_enumerate_new
    (enumT_new (t := t) (items := items)) ⟨ht, ?_⟩
  have hz : (s.heap.push { cls := .type "tuple_iterator", data := .fields #[.ref t, .int 0 0] }).objs.size = s.heap.objs.size + 1 := Heap.size_push ..
  show _ ∧ _
  rw [hz]
  have he : IsEnum ((s.heap.push { cls := .type "tuple_iterator", data := .fields #[.ref t, .int 0 0] }).push
      { cls := .type "enumerate", data := .fields #[.none, .bool false, .ref s.heap.objs.size, rawInt 0, .none, .none] }) (s.heap.objs.size + 1) s.heap.objs.size 0 .none := by
    have := Heap.get?_push_size (s.heap.push { cls := .type "tuple_iterator", data := .fields #[.ref t, .int 0 0] })
      (o := { cls := .type "enumerate", data := .fields #[.none, .bool false, .ref s.heap.objs.size, rawInt 0, .none, .none] }) rfl
    rw [hz] at this
    exact this
  exact ⟨⟨_, he, rfl⟩, h _ he ⟨_, Heap.get?_push_of_some _ (Heap.get?_push_size _ rfl), rfl, rfl⟩ (by rw [Heap.size_push, hz]) fun b o x => Heap.get?_push_of_some _ (Heap.get?_push_of_some _ x)⟩
end
theorem turn_enumT {P : Program} {w : World} {K : PySem.W.Frag} {elts : List Expr} {kk : Nat} {tpos : Pos} (a e it : Addr) :
    Turn P w K (.Tuple elts kk tpos) (Iten K a) [e, it] e (fun i h => (∃ old, IsEnum h e it ((i : Nat) : Int) old) ∧ h.IsTupleIter it a i ∧ e ≠ it ∧ a ≠ e ∧ a ≠ it) where
  mem := by simp
  obj := fun i h st b hb => by
    obtain ⟨⟨old, he⟩, ⟨o, ho, hc, hd⟩, _⟩ := st
    rcases (show b = e ∨ b = it by simpa using hb) with z | z
    · rw [z]; exact ⟨_, he, fun v q => nomatch q⟩
    · rw [z]; exact ⟨o, ho, fun v q => by rw [hd] at q; cases q⟩
  keep := fun i h h' st k => let ⟨⟨old, he⟩, hi, hne⟩ := st; ⟨⟨old, k e (by simp) _ he⟩, hi.at fun o q => k it (by simp) o q, hne⟩
  item := by
    intro X hP hw hK hc i pins s σ H E I hf st hg
    subst hP hw hK
    obtain ⟨⟨old, he⟩, hit, hne, hae, hai⟩ := st
    obtain ⟨xs, x, hq, hx⟩ := hg
    obtain ⟨its, rv, p, hz⟩ := I.tuple hq
    obtain ⟨u, hu, ru⟩ := rv.get hx
    have hel : e < s.heap.objs.size := Heap.lt_size he
    have hil : it < s.heap.objs.size := by obtain ⟨_, q, _⟩ := hit; exact Heap.lt_size q
    have hil2 : i < its.toArray.size := by
      rw [List.size_toArray]
      exact (List.getElem?_eq_some_iff.mp hu).1
    refine wpAny_pyNext_enum_itemD (Draws.tuple (prog := X.prog) (w := X.w) (A := X.A.in1) (I.ok.hd hc) it a hai its.toArray) he ⟨hit, p⟩ hil2 hne (by simp [hne, Ne.symm hae]) fun x' h' tk hP ho hit' hT hsz hk => ?_
    have ex' : x' = u := by
      have : its.toArray[i]? = some u := by simpa using hu
      rw [this] at hP
      exact (Option.some.inj hP).symm
    subst ex'
    refine ⟨_, rfl, wpAny_letOwnedTupleGo_enum (s := { s with heap := h', toks := tk + 1 }) ho fun h'' he' sb => ?_⟩
    have hT2 : h''.get? s.heap.objs.size = some { cls := .type "tuple", data := .seq #[.int i tk, x'] } := (sb.2 _ (Nat.ne_of_gt hel)).trans hT
    have new : ObjOk X.prog X.w (upd H s.heap.objs.size (.tup [.int (i : Nat), x])) h'' s.heap.objs.size (.tup [.int (i : Nat), x]) :=
      ⟨by show 2 ≤ sizeLine; decide, [.int i tk, x'], .cons ⟨_, rfl⟩ (.cons ru .nil), ⟨_, hT2, rfl, _, rfl⟩⟩
    have I1 : Inv X pins σ (upd H s.heap.objs.size (.tup [.int (i : Nat), x])) { s with heap := h'', toks := tk + 1 } :=
      I.turnedNew (ch := [e, it]) (fun b ob hb q => (sb.2 b (fun z => hb (by simp [z]))).trans (hk b ob (fun z => hb (by simp [z])) (fun z => hb (by simp [z])) q)) hf (Nat.le_refl _) new
    refine ⟨.ref s.heap.objs.size, _, I1, rfl, ⟨_, x, rfl, I.hok.fresh (Nat.le_refl _), rfl, fun ys hy => by rw [I.tuple_inj hy hq]; exact hx⟩, ⟨⟨x', ?_⟩, hit'.1.at fun o q => (sb.2 it (Ne.symm hne)).trans q, hne, hae, hai⟩, fun b hb => ?_⟩
    · rw [show ((i + 1 : Nat) : Int) = (i : Int) + 1 by omega]
      exact he'
    · have hb' : b < s.heap.objs.size := by
        rcases (show b = e ∨ b = it by simpa using hb) with z | z
        · rw [z]; exact hel
        · rw [z]; exact hil
      rw [upd_ne (Nat.ne_of_lt hb')]
      exact (hf b hb).1
  done := by
    intro X hP hw hK hc i pins s σ H E I hf st hg
    subst hP hw hK
    obtain ⟨⟨old, he⟩, hit, hne, hae, hai⟩ := st
    obtain ⟨xs, hq, hx⟩ := hg
    obtain ⟨its, rv, p, hz⟩ := I.tuple hq
    obtain ⟨f0, f1, f2, f3, f4, f5⟩ := hf it (by simp)
    have hl := rv.length
    have hT : s.TypeIs (.ref e) "enumerate" := ⟨_, he, rfl⟩
    unfold pyNext
    refine wpAny_bind (wpAny_attempt (wpAny_callSpecial?_slot (name := Str.ofString "__next__") hT F.slot_enumerate_next
      (wpAny_call_entry F.slot_enumerate_next hT F.entry_enumerate_next ?_ (F.args_enumerate_next_1 _))))
    show wpAny _ _ (field (.ref e) 2 >>= _) _ _ _
    refine wpAny_bind (wpAny_field he rfl (x := .ref it) rfl ?_)
    refine wpAny_bind (wpAny_nextOf_tuple_end (I.ok.hd hc) hit p (by simp; omega) fun h' x he' hx' => ?_)
    obtain ⟨o, ho, hc2⟩ := hx'
    refine wpAny_bind (wpAny_isInstance (T := "StopIteration") (b := true) ⟨o, ho, hc2⟩ isSubtype_stop ?_)
    exact wpAny_pure ⟨rfl, I.turned (t' := s.toks) (fun b o hb q => he' b o hb q) f0 f1 f3 f4 f5⟩
  self := fun A i s Q E st h => let ⟨⟨_, he⟩, _⟩ := st; wpAny_pyIter_enum he h
def iEnumT (K : PySem.W.Frag) (ta : TA) : TI := fun σ H R => ta σ H fun vs H1 => ∃ a xs, vs = [.ref a] ∧ SqT K H1 a xs ∧ R (Iten K a) H1
theorem pi_enumT {X : Cx} {e : Expr} {ta : TA} {p pos tpos : Pos} {elts : List Expr} {kk : Nat} (hg : Gl X "enumerate") (hm : X.mg "enumerate" = none) (ha : PA X [e] ta) (hs : starEach [e] X.env = [(false, eval e X.env)] := by rfl) :
    PI X (.Tuple elts kk tpos) (.Call (.Name "enumerate" p) [e] [] pos) (iEnumT X.K ta) := by
  refine ⟨fun pins s σ H R I h => ?_⟩
  refine Call_ (ld_blt I hg hm boot_enumerate (PyProof.Rows.callWith_type1 (thn (ha.run pos pins s σ H _ I h) fun us s1 ⟨vs, H1, I1, r1, q1⟩ => ?_) hs rfl))
  obtain ⟨a, xs, ex, hq, q⟩ := q1
  subst ex
  cases r1 with
  | cons r rr =>
    cases rr
    cases r
    obtain ⟨its, rv, p', hz⟩ := I1.tuple hq
    have hal : a < s1.heap.objs.size := p'.lt
    refine enumT_call p' fun h' he hit hsz hk => wpAny_pyIter_enum he ?_
    have I2 : Inv X pins σ H1 { s1 with heap := h' } := I1.kept (t' := s1.toks) hk
    refine ⟨s1.heap.objs.size + 1, [s1.heap.objs.size + 1, s1.heap.objs.size], _, _, H1, rfl, I2, turn_enumT a (s1.heap.objs.size + 1) s1.heap.objs.size, ⟨⟨.none, he⟩, hit, Nat.succ_ne_self _, Nat.ne_of_lt (Nat.lt_succ_of_lt hal), Nat.ne_of_lt hal⟩, fun b hb => ?_, q⟩
    have hle : s1.heap.objs.size ≤ b := by
      rcases (show b = s1.heap.objs.size + 1 ∨ b = s1.heap.objs.size by simpa using hb) with z | z
      · rw [z]; exact Nat.le_add_right _ _
      · rw [z]; exact Nat.le_refl _
    exact I1.fpOk hle (I1.hok.fresh hle)
/-- the turns of enumerate(tuple), for the for loop -/
theorem for_enumT {K : PySem.W.Frag} {a : Addr} {xs : List V} {g : TG} {tb : TS} {D : Ends} {σ : L2.St} {H : Hp} (Pv : Nat → L2.St → Hp → Prop) (h0 : Pv 0 σ H) (hl : ∀ i σ H, i ≤ xs.length → Pv i σ H → SqT K H a xs)
    (hs : ∀ i x T σ H, xs[i]? = some x → Pv i σ H → H T = none → g (.ref T) σ (upd H T (.tup [.int (i : Nat), x])) fun σ2 H2 => tb { D with nx := Pv (i + 1), ct := Pv (i + 1), bk := D.nx } σ2 H2) (hd : ∀ σ H, Pv xs.length σ H → D.nx σ H) :
    ∃ W : Nat → Nat → L2.St → Hp → Prop, (∃ m, W 0 m σ H) ∧ ∀ i m σ H, W i m σ H →
      ((Iten K a).stop i H ∧ D.nx σ H) ∨ ((Iten K a).go i H ∧ ∃ N : L2.St → Hp → Prop, (∀ σ' H', N σ' H' → ∃ m', m' < m ∧ W (i + 1) m' σ' H') ∧ ∀ x H', (Iten K a).yld i H x H' → g x σ H' fun σ2 H2 => tb { D with nx := N, ct := N, bk := D.nx } σ2 H2) := by
  refine ⟨fun i m σ H => m = xs.length - i ∧ i ≤ xs.length ∧ Pv i σ H, ⟨xs.length, by simp, Nat.zero_le _, h0⟩, ?_⟩
  rintro i m σ H ⟨rfl, hi, p⟩
  have q := hl i σ H hi p
  by_cases hlt : i < xs.length
  · refine .inr ⟨⟨xs, xs[i], q, by simp [hlt]⟩, Pv (i + 1), fun σ' H' p' => ⟨xs.length - (i + 1), by omega, rfl, hlt, p'⟩, fun v H' y => ?_⟩
    obtain ⟨T, x, rfl, hT, rfl, hx⟩ := y
    exact hs i x T σ H (hx xs q) p hT
  · have e : i = xs.length := by omega
    subst e
    exact .inl ⟨⟨xs, q, Nat.le_refl _⟩, hd σ H p⟩

/-! the views d.values(), d.keys(); sum and sorted over them -/
def viewO (T : String) (v d : Addr) : HO := .ext fun h => ∃ o, h.get? v = some o ∧ o.cls = .type T ∧ o.data = .fields #[.ref d]
theorem viewO_new {P : Program} {w : World} {H : Hp} {h : Heap} {T : String} {d : Addr} : ObjOk P w H (h.push { cls := .type T, data := .fields #[.ref d] }) h.objs.size (viewO T h.objs.size d) :=
  ⟨⟨_, Heap.get?_push_size _ rfl, rfl, rfl⟩, ⟨_, Heap.get?_push_size _ rfl⟩, fun _ _ x k => let ⟨o, ho, r⟩ := x; ⟨o, k o ho, r⟩⟩
section
variable {X : Cx} {pins : List (Addr × Obj)} {σ : L2.St} {H : Hp} {s : Shared}
def rView (T : String) : V → List V → Hp → VK → Prop := fun x xs H Q => ∃ (a : Addr) (kvs : List (Key × V)), x = .ref a ∧ xs = [] ∧ H a = some (.dK kvs) ∧ ∀ p, H p = none → Q (.ref p) (upd H p (viewO T p a))
theorem mt_values : MtR X "dict.values" (rView "dict_values") := by
  intro pins s σ H x xs v us Q I rx rxs h
  obtain ⟨a, kvs, rfl, rfl, ha, q⟩ := h
  cases rx
  cases rxs
  obtain ⟨z, hd, vs, rel, dd⟩ := dk_of I.hok ha
  have hf : H s.heap.objs.size = none := I.hok.fresh (Nat.le_refl _)
  exact call_meetsIn F.slot_dict_values dd.typeIs F.entry_dict_values (F.args_dict_values_1 _) (meets_dict_values (mixKind X.prog X.w) a hd)
    ⟨⟨vs, dd⟩, .ref s.heap.objs.size, _, I.laid (t' := s.toks) (fun b u e => Heap.get?_push_of_some _ e) (Nat.le_refl _) viewO_new, rfl, q _ hf⟩
theorem mt_keys : MtR X "dict.keys" (rView "dict_keys") := by
  intro pins s σ H x xs v us Q I rx rxs h
  obtain ⟨a, kvs, rfl, rfl, ha, q⟩ := h
  cases rx
  cases rxs
  obtain ⟨z, hd, vs, rel, dd⟩ := dk_of I.hok ha
  have hf : H s.heap.objs.size = none := I.hok.fresh (Nat.le_refl _)
  exact call_meetsIn F.slot_dict_keys dd.typeIs F.entry_dict_keys (F.args_dict_keys_1 _) (PySem.W.kdl_meets_keys (mixKind X.prog X.w) a hd)
    ⟨⟨vs, dd⟩, .ref s.heap.objs.size, _, I.laid (t' := s.toks) (fun b u e => Heap.get?_push_of_some _ e) (Nat.le_refl _) viewO_new, rfl, q _ hf⟩
theorem preSum_list (f : Nat → Int) : ∀ (l : List Int), (∀ i, i < l.length → f i = l.getD i 0) → PySem.preSum f l.length = l.sum := by
  intro l
  suffices ∀ n, n ≤ l.length → (∀ i, i < l.length → f i = l.getD i 0) → PySem.preSum f n = (l.take n).sum by
    intro h
    have := this l.length (Nat.le_refl _) h
    rw [List.take_length] at this
    exact this
  intro n
  induction n with
  | zero => intro _ _; simp [PySem.preSum]
  | succ n ih =>
    intro hn h
    show PySem.preSum f n + f n = _
    rw [ih (by omega) h, h n (by omega)]
    have e : l[n]? = some (l.getD n 0) := by
      rw [List.getD_eq_getElem?_getD, List.getElem?_eq_getElem (by omega)]
      rfl
    rw [sum_take e]
/-- sum(d.values()) -/
def rSumV : List V → Hp → VK → Prop := fun vs H Q => ∃ (v a : Addr) (kvs : List (Key × V)) (ns : List Int), vs = [.ref v] ∧ H v = some (viewO "dict_values" v a) ∧ H a = some (.dK kvs) ∧ kvs.map (·.2) = ns.map V.int ∧ Q (.int ns.sum) H
theorem cr_sumV (hcalm : X.calm = true) : CallR X (.builtin "sum") rSumV := by
  intro pins s σ H xs us Q I r h
  obtain ⟨v, a, kvs, ns, ex, hv, ha, hns, q⟩ := h
  subst ex
  obtain ⟨u, eu, rx⟩ := vals1 r
  subst eu
  cases rx
  obtain ⟨z, lo, vs, rel, dd⟩ := dk_of I.hok ha
  obtain ⟨ep, hat⟩ := dd.dictAt
  have view : s.heap.IsValuesView v a := (show ObjOk X.prog X.w H s.heap v (viewO "dict_values" v a) from I.hok v _ hv).1
  have hlen : vs.length = ns.length := by
    have e := congrArg List.length hns
    rw [List.length_map, List.length_map] at e
    rw [← e]
    exact (Paired.length rel).symm
  have K := PySem.W.kdl_values (prog := X.prog) (w := X.w) (knd := mixKind X.prog X.w) (d := a) (r := v) (kvs := vs) (ep := ep)
  refine call_sum_walkAnyS ?_
  obtain ⟨oI, St, hit, W, st⟩ := K.iter X.A.in1 s (I.ok.hd hcalm) ⟨view, hat⟩
  refine hit _ _ ⟨s.heap.objs.size, _, _, _, vs.length, _, _, fun i => ns.getD i 0, rfl, W.toS, st, fun b hb => ?_, fun i u hu => ?_, fun s' t' hm => ?_⟩
  · show b < (s.heap.push oI).objs.size
    rw [Heap.size_push]
    rcases List.mem_cons.mp hb with e | hb
    · rw [e]; exact Nat.lt_succ_self _
    · rw [List.mem_singleton.mp hb]; exact Nat.lt_succ_of_lt (K.there _ ⟨view, hat⟩).2
  · obtain ⟨k, hx⟩ := hu
    obtain ⟨b, hb, hkv⟩ : ∃ b, kvs[i]? = some b ∧ RelV b.2 u := by
      have hi : i < kvs.length := by
        rw [Paired.length rel]
        exact (List.getElem?_eq_some_iff.mp hx).1
      obtain ⟨c, hc1, _, hc2⟩ := paired_get rel (List.getElem?_eq_getElem hi)
      rw [hx] at hc1
      cases hc1
      exact ⟨_, List.getElem?_eq_getElem hi, hc2⟩
    have e1 : (kvs.map (·.2))[i]? = some b.2 := by rw [List.getElem?_map, hb]; rfl
    rw [hns, List.getElem?_map] at e1
    cases e2 : ns[i]? with
    | none => rw [e2] at e1; cases e1
    | some y =>
      rw [e2] at e1
      have e3 : V.int y = b.2 := Option.some.inj e1
      rw [← e3] at hkv
      obtain ⟨t, rfl⟩ := hkv
      refine ⟨t, ?_⟩
      show Value.int y t = Value.int (ns.getD i 0) t
      rw [List.getD_eq_getElem?_getD, e2]
      rfl
  · have hk : ∀ b o, s.heap.get? b = some o → s'.heap.get? b = some o := fun b o e =>
      hm.heap b o (fun hI => absurd (Heap.lt_size e) (by rw [List.mem_singleton.mp hI]; exact Nat.lt_irrefl _)) (Heap.get?_push_of_some _ e)
    rw [Moved.eq_with hm]
    have es : PySem.preSum (fun i => ns.getD i 0) vs.length = ns.sum := by rw [hlen]; exact preSum_list _ ns fun i _ => rfl
    rw [es]
    exact ⟨.int ns.sum, H, I.kept (t' := s'.toks) hk, ⟨t', rfl⟩, q⟩
/-- sorted(d.keys()), ints -/
def rSortK : List V → Hp → VK → Prop := fun xs H Q => ∃ (v a : Addr) (kvs : List (Key × V)) (ks : List Int), xs = [.ref v] ∧ H v = some (viewO "dict_keys" v a) ∧ H a = some (.dK kvs) ∧ kvs.map (·.1) = ks.map Sum.inl ∧ ks.length < 64 ∧
    ∀ (ys : List Int) (p : Addr), ys.Perm ks → ys.Pairwise (· ≤ ·) → H p = none → Q (.ref p) (upd H p (.lst (ys.map V.int)))
theorem cr_sortK (hcalm : X.calm = true) : CallR X (.builtin "sorted") rSortK := by
  intro pins s σ H xs us Q I r q
  obtain ⟨v, a, kvs, ks, ex, hvw, hd, hks, h64, q⟩ := q
  subst ex
  obtain ⟨u, eu, rx⟩ := vals1 r
  subst eu
  cases rx
  obtain ⟨z, lo, vs, rel, dd⟩ := dk_of I.hok hd
  obtain ⟨ep, hat⟩ := dd.dictAt
  have view : PySem.W.KdlKeysView s.heap v a := (show ObjOk X.prog X.w H s.heap v (viewO "dict_keys" v a) from I.hok v _ hvw).1
  have hkeys : vs.map (·.1) = ks.map Sum.inl := rel.keys.symm.trans hks
  have hl : vs.length = ks.length := by
    have e := congrArg List.length hkeys
    rw [List.length_map, List.length_map] at e
    exact e
  have h16 : vs.length ≤ sizeLine := by rw [hl, sizeLine_eq]; omega
  refine Calls.call_function_entry PyProof.Rows.kind_sorted PyProof.Rows.plain_sorted PyProof.Rows.entry_sorted (PyProof.Rows.args_sorted1 _) ?_
  unfold Builtin.«sorted»
  refine wpAny_bind (m := checkCount "sorted" 1 1 _) (wpAny_pure ?_)
  refine wpAny_bind (PySem.W.kdu_collect (A := X.A.in1) (PySem.W.kdl_keys (knd := mixKind X.prog X.w) (kvs := vs) (ep := ep)) (I.ok.hd hcalm) ⟨view, hat⟩ h16 fun h' tk acc hk hacc => ?_)
  have hal : acc.toList.length = ks.length := by rw [Array.length_toList, hacc.1, hl]
  have hS : IntsAre acc.toList ks := ints_each hal fun j u e => by
    obtain ⟨k, x, e1, e2⟩ := hacc.2 j u (by rw [← Array.getElem?_toList]; exact e)
    have e3 : (vs.map (·.1))[j]? = some k := by rw [List.getElem?_map, e1]; rfl
    rw [hkeys, List.getElem?_map] at e3
    cases e4 : ks[j]? with
    | none => rw [e4] at e3; cases e3
    | some y =>
      rw [e4] at e3
      have e5 : Sum.inl y = k := Option.some.inj e3
      subst e5
      rcases keyIs_shape (show keyIs (Sum.inl y) u = true from e2) with ⟨i, t, ek, ev⟩ | ⟨z, t, ek, ev⟩
      · cases ek
        exact ⟨y, t, rfl, ev⟩
      · cases ek
  have I1 : Inv X pins σ H { s with heap := h', toks := tk } := I.kept hk
  refine wpAny_bind (wpAny_newList ?_ (by rw [hal, sizeLine_eq]; omega))
  have hoL : (h'.push (seqObj "list" acc.toList.toArray 0)).get? h'.objs.size = some (seqObj "list" acc.toList.toArray 0) := Heap.get?_push_size _ rfl
  show wpAny _ _ _ _ _ { s with heap := h'.push (seqObj "list" acc.toList.toArray 0), toks := tk }
  refine wpAny_bind (wpAny_holding (wpAny_call_entry PyProof.Rows.slot_list_sort ⟨_, hoL, rfl⟩ PyProof.Rows.entry_list_sort
    (PyProof.Rows.list_sort_tree (s := { s with heap := h'.push (seqObj "list" acc.toList.toArray 0), toks := tk }) hoL hS (by rw [hal]; exact h64) fun out ys g1 g2 g3 => ⟨_, rfl, ?_⟩) (PyProof.Rows.args_list_sort _)))
  obtain ⟨e', he'⟩ := PyProof.Rows.sortedHeap_at (vs := acc.toList) (out := out) hoL
  have hlen : (ys.map V.int).length ≤ sizeLine := by
    rw [List.length_map, g2.length_eq]
    exact Nat.le_trans (Nat.le_of_lt h64) (by decide)
  have hnew : ObjOk X.prog X.w (upd H h'.objs.size (.lst (ys.map V.int))) (PyProof.Rows.sortedHeap _ _ _ out) h'.objs.size (.lst (ys.map V.int)) :=
    ⟨hlen, out.toList, e', vals_of_ints g1, by rw [Array.toArray_toList]; exact he'⟩
  refine wpAny_pure ⟨_, rfl, .ref h'.objs.size, _, I1.laid (t' := tk) (fun b u e => ?_) (Nat.le_refl _) hnew, rfl, q ys _ g2 g3 (I1.hok.fresh (Nat.le_refl _))⟩
  have hb : b < h'.objs.size := Heap.lt_size e
  rw [PyProof.Rows.sortedHeap_old (Nat.ne_of_lt hb) (by rw [Heap.size_push]; exact Nat.lt_succ_of_lt hb)]
  exact Heap.get?_push_of_some _ e
end
end CK

set_option Elab.async false
set_option linter.all false
set_option maxRecDepth 100000
set_option maxHeartbeats 4000000
namespace CK
open PySem PySem.Spec PyProof.Rows L2

/-! the text by places -/
def top (i : Nat) : Stmt := PySem.Challenge.pw_clockadds_k73_across_one_part.main.body.getD i (.Pass ⟨0, 0, 0, 0⟩)
abbrev sIsIn : Stmt := top 8
abbrev sGcd : Stmt := top 9
abbrev sIsArrow : Stmt := top 14
abbrev sNeedWeb : Stmt := top 15
abbrev sNeedHours : Stmt := top 16
abbrev sNeedDial : Stmt := top 17
abbrev sNeedAll : Stmt := top 18
abbrev sNeedClock : Stmt := top 19
abbrev sLedFrom : Stmt := top 20
abbrev sPartsIn : Stmt := top 21
abbrev sAboveIn : Stmt := top 22
abbrev sFlowIn : Stmt := top 24
abbrev sMarkOf : Stmt := top 25
abbrev sMarksIn : Stmt := top 26
abbrev sMarks : Stmt := top 27
abbrev sCanCome : Stmt := top 28
abbrev sPrimeTo : Stmt := top 29
abbrev sWaysOf : Stmt := top 30
abbrev sCountWith : Stmt := top 31
abbrev sComeCount : Stmt := top 32
abbrev sAtIn : Stmt := top 33
abbrev sLeastCome : Stmt := top 34
abbrev sInOrder : Stmt := top 36
abbrev sDivisors : Stmt := top 37
abbrev sChoices : Stmt := top 38
abbrev sClassTable : Stmt := top 39
abbrev sClassCount : Stmt := top 40
abbrev sClassSizes : Stmt := top 41
abbrev sCountsOf : Stmt := top 43
abbrev sNeedPlace : Stmt := top 44
abbrev sShown : Stmt := top 45
abbrev sNeedWish : Stmt := top 46
abbrev sCanMeet : Stmt := top 47
abbrev sGatheredIn : Stmt := top 49
abbrev sGathered : Stmt := top 50
abbrev sTaken : Stmt := top 52
abbrev sPick : Stmt := top 53
abbrev sDial : Stmt := top 54
abbrev sLGcd : Stmt := top 55
abbrev sLaw : Stmt := top 56

/-! values and heaps -/
abbrev vN (n : Nat) : V := .int (n : Int)
theorem _root_.L2.Same.tup {K : PySem.W.Frag} {H H' : Hp} {a : Addr} {xs : List V} (e : Same H H') (h : SqT K H a xs) : SqT K H' a xs := by
  rcases h with (h | ⟨o, h⟩) | h
  · exact .inl (.inl (e _ _ h))
  · exact .inl (.inr ⟨o, e _ _ h⟩)
  · exact .inr h
theorem same_upd {H : Hp} {p : Addr} {o : HO} (h : H p = none) : Same H (upd H p o) := fun b x e => by
  rw [upd_ne (ne_of_none e h)]
  exact e
/-- what came in later than H may change -/
theorem _root_.L2.Same.mut {H H' : Hp} {p : Addr} {o : HO} (e : Same H H') (h : H p = none) : Same H (upd H' p o) := fun a u ha => by
  rw [upd_ne (ne_of_none ha h)]
  exact e a u ha
theorem _root_.L2.Same.fresh {H H' : Hp} {p : Addr} (e : Same H H') (h : H' p = none) : H p = none := e.free h

theorem _root_.L2.Room.units65 {k : Nat} {A : Around} (r : Room k A) : A.units + 65 < cLine := by have := r.un; omega
/-- tests on ints, decided -/
theorem eq_int {a b : Int} (h : a = b) : decide (V.int a = V.int b) = true := decide_eq_true (by rw [h])
theorem eq_intF {a b : Int} (h : a ≠ b) : decide (V.int a = V.int b) = false := decide_eq_false fun z => h (V.int.inj z)
theorem ne_int {a b : Int} (h : a ≠ b) : (!decide (V.int a = V.int b)) = true := by rw [eq_intF h]; rfl
theorem ne_intF {a b : Int} (h : a = b) : (!decide (V.int a = V.int b)) = false := by rw [eq_int h]; rfl
/-- what the names of the top and the built-ins hold -/
structure Blt (mg : Str → Option Value) : Prop where
  isinstance : mg "isinstance" = none
  int : mg "int" = none
  bool : mg "bool" = none
  abs : mg "abs" = none
  tuple : mg "tuple" = none
  len : mg "len" = none
  enumerate : mg "enumerate" = none
  sorted : mg "sorted" = none
  range : mg "range" = none
  list : mg "list" = none
  sum : mg "sum" = none
  set : mg "set" = none
structure Cns (mg : Str → Option Value) : Prop where
  mc : ∃ t, mg "MOST_CLOCKS" = some (.int 7 t)
  lh : ∃ t, mg "LEAST_HOURS" = some (.int 2 t)
  mh : ∃ t, mg "MOST_HOURS" = some (.int 24 t)
theorem b_isinstance : bootBuiltins "isinstance" = some (.builtin "isinstance") := by decide +kernel
theorem b_int : bootBuiltins "int" = some (.type "int") := by decide +kernel
theorem b_bool : bootBuiltins "bool" = some (.type "bool") := by decide +kernel
theorem b_abs : bootBuiltins "abs" = some (.builtin "abs") := by decide +kernel
theorem b_tuple : bootBuiltins "tuple" = some (.type "tuple") := by decide +kernel
theorem b_sorted : bootBuiltins "sorted" = some (.builtin "sorted") := by decide +kernel
theorem b_list : bootBuiltins "list" = some (.type "list") := by decide +kernel
theorem b_sum : bootBuiltins "sum" = some (.builtin "sum") := by decide +kernel
theorem b_set : bootBuiltins "set" = some (.type "set") := by decide +kernel

/-- a def of the text, under its name -/
structure Stands (K : PySem.W.Frag) (mg : Str → Option Value) (x : Str) (st : Stmt) (ps : List Str) : Prop where
  ex : ∃ (f : Addr) (fd : FuncData), Fun K x x st f fd ∧ Binds K fd ps [] ∧ mg x = some (.ref f)
/-- a def that keeps a promise, under its name -/
structure Cal (P : Program) (w : World) (K : PySem.W.Frag) (mg : Str → Option Value) (base : Heap) (k : Nat) (x : Str) (sp : Sp) : Prop where
  ex : ∃ (f : Addr) (fd : FuncData) (ps : List Str), FnOk P w K mg base CX0 k f fd ps sp ∧ mg x = some (.ref f) ∧ PySem.W.keepIn K (.ref f) = true ∧ Binds K fd ps []
theorem pe_d {X : Cx} {k j : Nat} {x : Str} {sp : Sp} {p pos : Pos} {e : Expr} {es : List Expr} {t : TA} (c : Cal X.prog X.w X.K X.mg X.base k x sp) (hr : Room j X.A) (hk : k ≤ j) (hg : Gl X x) (ha : PA X (e :: es) t)
    (hdb : (x == ("__debug__" : Str)) = false := by decide) (he : starEach (e :: es) X.env = (false, eval e X.env) :: starEach es X.env := by rfl) (hpl : (backTo pos (starEach es X.env)).any (·.1) = false := by rfl) :
    PE X (.Call (.Name x p) (e :: es) [] pos) (tCall sp [] E0 t) := by
  obtain ⟨f, fd, ps, F, hm, kp, b⟩ := c.ex
  exact pe_call F (hr.mono hk) hg hm kp b .nil pass0 ha hdb he hpl

section
variable {P : Program} {w : World} {K : PySem.W.Frag} {mg : Str → Option Value} {base : Heap}
theorem cal_of {x : Str} {st : Stmt} {N ps : List Str} {k : Nat} {sp : Sp} (T : Stands K mg x st ps) (S : FnScope N ps (defScope st)) (len : ∀ vs H Q E, sp vs H Q E → vs.length = ps.length)
    (hbody : ∀ (f : Addr) (cdv : Value) (A : Around) (outer : List Env) (s : Shared) (H : Hp) (vs : List V) (Q : VK) (E : XK), Room k (A.deeper (envOfC x (defScope st) s.heap.objs.size f cdv)) → sp vs H Q E →
      ∃ t, PSs (cxOf CX0 P w K mg base N x (defScope st) f cdv A outer s H E).nox (defBody st) t ∧ t { nx := fun _ H' => Q .non H', rt := Q } (start N vs) H) : Cal P w K mg base (k + 1) x sp := by
  obtain ⟨f, fd, F, b, m⟩ := T.ex
  exact ⟨f, fd, ps, F.ok S len (hbody f), m, F.kp, b⟩

/-! is_in -/
def spIsIn : Sp := fun vs H Q _ => ∃ (v lo hi : Int), vs = [.int v, .int lo, .int hi] ∧ Q (.bl (decide (lo ≤ v ∧ v ≤ hi))) H
theorem scIsIn : FnScope ["value", "least", "most"] ["value", "least", "most"] (defScope sIsIn) := ⟨rfl, rfl, rfl, by decide +kernel, rfl, by decide +kernel, by decide +kernel⟩
theorem c_is_in (T : Stands K mg "is_in" sIsIn ["value", "least", "most"]) (B : Blt mg) : Cal P w K mg base 1 "is_in" spIsIn := by
  refine cal_of T scIsIn (fun vs H Q E h => ?_) (fun f cdv A outer s H vs Q E hr h => ?_)
  · obtain ⟨v, lo, hi, rfl, _⟩ := h
    rfl
  · obtain ⟨v, lo, hi, rfl, q⟩ := h
    refine ⟨_, pss_one (ps_ret (pe_and (pe_callB call_isi (by rfl) B.isinstance b_isinstance (pa_cons (pv 0) (pa_cons (pe_bltn (v := .ty "int") (by rfl) B.int b_int rfl) pa_nil)))
      (pe_and (pe_not (pe_callB call_isi (by rfl) B.isinstance b_isinstance (pa_cons (pv 0) (pa_cons (pe_bltn (v := .ty "bool") (by rfl) B.bool b_bool rfl) pa_nil))))
        (pe_one (pe_chain op_le op_le (pv 1) (pv 0) (pv 2)))))), ?_⟩
    refine ⟨_, rfl, _, _, _, _, true, rfl, .ty _, .base (.int v), kit_ty (by decide +kernel), true, rfl, iteT ?_⟩
    refine ⟨_, rfl, _, _, _, _, false, rfl, .ty _, .base (.int v), kit_ty (by decide +kernel), false, rfl, true, rfl, iteT ?_⟩
    refine ⟨_, rfl, _, rfl, _, _, rfl, rfl, _, rfl, ite2 (fun c => ?_) (fun c => ?_)⟩
    · have c' : lo ≤ v := of_decide_eq_true c
      refine ⟨_, rfl, _, _, rfl, rfl, ?_⟩
      have e : decide (lo ≤ v ∧ v ≤ hi) = decide (v ≤ hi) := by simp [c']
      rw [e] at q
      exact q
    · have c' : ¬ lo ≤ v := of_decide_eq_false (Bool.eq_false_iff.mpr c)
      have e : decide (lo ≤ v ∧ v ≤ hi) = false := by simp [c']
      rw [e] at q
      exact q

/-! gcd -/
def spGcd : Sp := fun vs H Q _ => ∃ (a b : Nat), vs = [vN a, vN b] ∧ Q (vN (Nat.gcd a b)) H
theorem scGcd : FnScope ["one", "other"] ["one", "other"] (defScope sGcd) := ⟨rfl, rfl, rfl, by decide +kernel, rfl, by decide +kernel, by decide +kernel⟩
theorem c_gcd (T : Stands K mg "gcd" sGcd ["one", "other"]) (B : Blt mg) : Cal P w K mg base 1 "gcd" spGcd := by
  refine cal_of T scGcd (fun vs H Q E h => ?_) (fun f cdv A outer s H vs Q E hr h => ?_)
  · obtain ⟨a, b, rfl, _⟩ := h
    rfl
  · obtain ⟨a, b, rfl, q⟩ := h
    refine ⟨_, pss_cons (ps_par (i := 0) (j := 1) rfl scGcd.nd rfl rfl (by decide) rfl rfl (pa_cons (pe_callB call_abs (by rfl) B.abs b_abs (pa_cons (pv 0) pa_nil)) (pa_cons (pe_callB call_abs (by rfl) B.abs b_abs (pa_cons (pv 1) pa_nil)) pa_nil)) (by rfl))
      (pss_cons (ps_while PassesOwn.never (pt_cmpR op_ne (pv 1) pe_int (nomark _)) (pss_one (ps_par (i := 0) (j := 1) rfl scGcd.nd rfl rfl (by decide) rfl rfl (pa_cons (pv 1) (pa_cons (pe_op op_mod (pv 0) (pv 1)) pa_nil)) (by rfl))))
      (pss_one (ps_ret (pv 0)))), ?_⟩
    have ea : (if (a : Int) < 0 then -(a : Int) else (a : Int)) = (a : Int) := if_neg (by omega)
    have eb : (if (b : Int) < 0 then -(b : Int) else (b : Int)) = (b : Int) := if_neg (by omega)
    refine ⟨_, rfl, _, rfl, _, rfl, _, rfl, _, _, rfl, ?_⟩
    refine while_by (fun σ H' => H' = H ∧ ∃ x y : Nat, σ = [some (vN x), some (vN y)] ∧ Nat.gcd x y = Nat.gcd a b) (fun σ _ => match σ with | [_, some (.int y)] => y.toNat | _ => 0) ⟨rfl, a, b, ?_, rfl⟩ ?_ (fun σ H Q Q' m ⟨v, e, s, k, ek, q⟩ => ⟨v, e, s, k, ek, m _ _ q⟩)
    · show [some (V.int (if (a : Int) < 0 then -(a : Int) else (a : Int))), some (V.int (if (b : Int) < 0 then -(b : Int) else (b : Int)))] = _
      rw [ea, eb]
    · rintro σ H' ⟨rfl, x, y, rfl, e⟩
      by_cases hy : y = 0
      · subst hy
        refine ⟨_, rfl, rfl, false, rfl, iteF ?_⟩
        refine ⟨_, rfl, ?_⟩
        rw [Nat.gcd_zero_right] at e
        rw [e]
        exact q
      · refine ⟨_, rfl, rfl, true, congrArg V.bl (ne_int (by omega)), iteT ?_⟩
        refine ⟨_, rfl, _, rfl, _, rfl, _, _, rfl, rfl, by omega, _, _, rfl, ?_⟩
        refine ⟨⟨rfl, y, x % y, rfl, ?_⟩, ?_⟩
        · rw [← e, Nat.gcd_comm x y, Nat.gcd_rec y x, Nat.gcd_comm]
        · show (((x : Int) % (y : Int)).toNat) < ((y : Int)).toNat
          have := Nat.mod_lt x (Nat.pos_of_ne_zero hy)
          omega
end
end CK

set_option Elab.async false
set_option linter.all false
set_option maxRecDepth 100000
set_option maxHeartbeats 4000000
namespace CK
open PySem PySem.Spec PyProof.Rows L2

/-! what stands in the heap -/
/-- pairs of numbers, each a tuple -/
def Arr (K : PySem.W.Frag) (H : Hp) (ts : List Addr) (ar : List (Nat × Nat)) : Prop := ts.length = ar.length ∧ ∀ (i : Nat) (t : Addr) (p : Nat × Nat), ts[i]? = some t → ar[i]? = some p → SqT K H t [vN p.1, vN p.2]
def lex (p q : Nat × Nat) : Prop := p.1 < q.1 ∨ (p.1 = q.1 ∧ p.2 < q.2)
/-- arrows of a web of n clocks that holds the ring -/
structure Ring (n : Nat) (ar : List (Nat × Nat)) : Prop where
  n2 : 2 ≤ n
  n7 : n ≤ 7
  ring : ∀ k, k < n → (k, (k + 1) % n) ∈ ar
  ok : ∀ p ∈ ar, p.1 < n ∧ p.2 < n ∧ p.1 ≠ p.2
  asc : ar.Pairwise lex
  len : ar.length < 64
def Web (K : PySem.W.Frag) (H : Hp) (w : Addr) (n : Nat) (ar : List (Nat × Nat)) : Prop := ∃ (b : Addr) (ts : List Addr), SqT K H w [vN n, .ref b] ∧ SqT K H b (ts.map V.ref) ∧ Arr K H ts ar
theorem Arr.same {K : PySem.W.Frag} {H H' : Hp} {ts : List Addr} {ar : List (Nat × Nat)} (e : Same H H') (h : Arr K H ts ar) : Arr K H' ts ar := ⟨h.1, fun i t p a b => e.tup (h.2 i t p a b)⟩
theorem Web.same {K : PySem.W.Frag} {H H' : Hp} {w : Addr} {n : Nat} {ar : List (Nat × Nat)} (e : Same H H') (h : Web K H w n ar) : Web K H' w n ar :=
  let ⟨b, ts, h1, h2, h3⟩ := h; ⟨b, ts, e.tup h1, e.tup h2, h3.same e⟩
theorem TyX.tupq {K : PySem.W.Frag} {H : Hp} {a : Addr} {xs : List V} (h : SqT K H a xs) : TyX K H (.ref a) (.type "tuple") := by
  rcases h with (h | ⟨o, h⟩) | ⟨o, its, n, h, hc, _⟩
  · exact .base (.tup h)
  · exact .fTuple h
  · exact .kTuple h hc

section
variable {P : Program} {w : World} {K : PySem.W.Frag} {mg : Str → Option Value} {base : Heap}

/-! is_arrow -/
def spIsArrow (K : PySem.W.Frag) : Sp := fun vs H Q _ => ∃ (t : Addr) (n i j : Nat), vs = [.ref t, vN n] ∧ SqT K H t [vN i, vN j] ∧ i < n ∧ j < n ∧ i ≠ j ∧ ∀ H', Same H H' → Q (.bl true) H'
theorem scIsArrow : FnScope ["value", "many", "one"] ["value", "many"] (defScope sIsArrow) := ⟨rfl, rfl, rfl, by decide +kernel, rfl, by decide +kernel, by decide +kernel⟩
theorem c_is_arrow (T : Stands K mg "is_arrow" sIsArrow ["value", "many"]) (B : Blt mg) (cIsIn : Cal P w K mg base 1 "is_in" spIsIn) : Cal P w K mg base 2 "is_arrow" (spIsArrow K) := by
  refine cal_of T scIsArrow (fun vs H Q E h => ?_) (fun f cdv A outer s H vs Q E hr h => ?_)
  · obtain ⟨t, n, i, j, rfl, _⟩ := h
    rfl
  · obtain ⟨t, n, i, j, rfl, ht, hi, hj, hne, q⟩ := h
    refine ⟨_, pss_cons (ps_if (PW.pt (pw_or (pt_not (pt_val (pe_callB call_isi (by rfl) B.isinstance b_isinstance (pa_cons (pv 0) (pa_cons (pe_bltn (v := .ty "tuple") (by rfl) B.tuple b_tuple rfl) pa_nil))))) (pw_or1 (pt_cmpR op_ne (pe_callB call_len_seq (by rfl) B.len PySem.boot_len (pa_cons (pv 0) pa_nil)) pe_int (nomark _))))) (pss_one (ps_ret pe_bl)) pss_nil)
      (pss_one (ps_ret (pe_and (pe_cmpR (op_eqD hr.units) (pe_lc (own := [("one", 2)]) (g := gName 2) rfl scIsArrow.nd (pi_tup (pv 0)) (blkOk_by (N := ["value", "many", "one"]) (sc := defScope sIsArrow) (by decide +kernel)) (fun _ _ _ _ _ => pg_name (i := 2) scIsArrow.nd rfl (Or.inl rfl)) (fun _ _ _ _ _ => pts_one (pt_not (pt_val (pe_d cIsIn hr (by decide) (by rfl) (pa_cons (pv 2) (pa_cons pe_int (pa_cons (pe_op op_sub (pv 1) pe_int) pa_nil))))))) (fun _ _ _ _ _ => pv 2)) (pe_lst pa_nil) (nomark _)) (pe_one (pe_cmpR op_ne (pe_ix ix_tup (pv 0) pe_int (fun _ _ => rfl)) (pe_ix ix_tup (pv 0) pe_int (fun _ _ => rfl)) (nomark _)))))), ?_⟩
    refine ⟨_, rfl, _, _, _, _, true, rfl, .ty _, TyX.tupq ht, kit_ty (by decide +kernel), true, rfl, iteF ?_⟩
    refine ⟨_, rfl, t, _, rfl, .inr ht, rfl, false, congrArg V.bl (ne_intF rfl), iteF ?_⟩
    refine ⟨_, rfl, t, rfl, ⟨_, ht⟩, fun D hD => lc_tup (K := K) (a := t) (xs := [vN i, vN j]) (fun _ H' => Same H H' ∧ H' D = some (.lst [])) ⟨same_upd hD, upd_same⟩ (fun _ _ _ p => p.1.tup ht) ?_ ?_⟩
    · rintro m x H' hx ⟨sm, eD⟩
      obtain ⟨a, ha, rfl⟩ : ∃ a, a < n ∧ x = vN a := by
        match m, hx with
        | 0, hx => exact ⟨i, hi, (Option.some.inj hx).symm⟩
        | 1, hx => exact ⟨j, hj, (Option.some.inj hx).symm⟩
        | m + 2, hx => simp at hx
      exact ⟨rfl, _, rfl, _, rfl, _, _, rfl, rfl, _, _, _, rfl, true, congrArg V.bl (decide_eq_true ⟨by omega, by omega⟩), iteF ⟨sm, eD⟩⟩
    · rintro H' ⟨sm, eD⟩
      refine ⟨Nat.zero_le _, fun p hp => ?_⟩
      have s2 : Same H' (upd H' p (.lst [])) := same_upd hp
      refine ⟨_, _, .lst (SqL.of (s2 _ _ eD)) .nil, .lst (SqL.of upd_same) .nil, rfl, rfl, true, rfl, iteT ?_⟩
      have ht2 : SqT K (upd H' p (.lst [])) t [vN i, vN j] := (sm.trans s2).tup ht
      refine ⟨_, rfl, t, _, _, _, rfl, rfl, ht2, atI_nat (j := 0) rfl, _, rfl, t, _, _, _, rfl, rfl, ht2, atI_nat (j := 1) rfl, rfl, ?_⟩
      rw [ne_int (by omega)]
      exact q _ (sm.trans s2)

/-! need_web -/
theorem leT_no {p q : Nat × Nat} (h : lex q p) : Ob.lexAt (fun j => decide (([(p.1 : Int), (p.2 : Int)] : List Int).getD j 0 = ([(q.1 : Int), (q.2 : Int)] : List Int).getD j 0)) (fun j => decide (([(p.1 : Int), (p.2 : Int)] : List Int).getD j 0 ≤ ([(q.1 : Int), (q.2 : Int)] : List Int).getD j 0)) (decide (2 ≤ 2)) 0 2 = false := by
  rw [Ob.lexAt_succ, Ob.lexAt_succ, Ob.lexAt_zero]
  show (if decide ((p.1 : Int) = (q.1 : Int)) = true then (if decide ((p.2 : Int) = (q.2 : Int)) = true then _ else decide ((p.2 : Int) ≤ (q.2 : Int))) else decide ((p.1 : Int) ≤ (q.1 : Int))) = false
  rcases h with h | ⟨h1, h2⟩
  · rw [if_neg (by simp; omega)]
    exact decide_eq_false (by omega)
  · rw [if_pos (by simp; omega), if_neg (by simp; omega)]
    exact decide_eq_false (by omega)
def spNeedWeb (K : PySem.W.Frag) : Sp := fun vs H Q _ => ∃ (wv : Addr) (n : Nat) (ar : List (Nat × Nat)), vs = [.ref wv] ∧ Web K H wv n ar ∧ Ring n ar ∧ ∀ H', Same H H' → Q .non H'
theorem scNeedWeb : FnScope ["web", "index", "one"] ["web"] (defScope sNeedWeb) := ⟨rfl, rfl, rfl, by decide +kernel, rfl, by decide +kernel, by decide +kernel⟩
theorem c_need_web (T : Stands K mg "need_web" sNeedWeb ["web"]) (B : Blt mg) (C : Cns mg) (cIsIn : Cal P w K mg base 1 "is_in" spIsIn) (cIsArrow : Cal P w K mg base 2 "is_arrow" (spIsArrow K)) : Cal P w K mg base 3 "need_web" (spNeedWeb K) := by
  refine cal_of T scNeedWeb (fun vs H Q E h => ?_) (fun f cdv A outer s H vs Q E hr h => ?_)
  · obtain ⟨wv, n, ar, rfl, _⟩ := h
    rfl
  · obtain ⟨wv, n, ar, rfl, ⟨b, ts, hw, hb, harr⟩, R, q⟩ := h
    refine ⟨_, pss_cons (ps_if (PW.pt (pw_or (pt_not (pt_val (pe_callB call_isi (by rfl) B.isinstance b_isinstance (pa_cons (pv 0) (pa_cons (pe_bltn (v := .ty "tuple") (by rfl) B.tuple b_tuple rfl) pa_nil))))) (pw_or (pt_cmpR op_ne (pe_callB call_len_seq (by rfl) B.len PySem.boot_len (pa_cons (pv 0) pa_nil)) pe_int (nomark _)) (pw_or1 (pt_not (pt_val (pe_callB call_isi (by rfl) B.isinstance b_isinstance (pa_cons (pe_ix ix_tup (pv 0) pe_int (fun _ _ => rfl)) (pa_cons (pe_bltn (v := .ty "tuple") (by rfl) B.tuple b_tuple rfl) pa_nil))))))))) (pss_one (ps_never)) pss_nil)
      (pss_cons (ps_if (pt_not (pt_val (pe_d cIsIn hr (by decide) (by rfl) (pa_cons (pe_ix ix_tup (pv 0) pe_int (fun _ _ => rfl)) (pa_cons pe_int (pa_cons (pe_glob (v := .int 7) (by rfl) C.mc.choose_spec ⟨_, rfl⟩) pa_nil)))))) (pss_one (ps_never)) pss_nil)
      (pss_one (ps_for PassesOwn.never rfl (pi_enumT (by rfl) B.enumerate (pa_cons (pe_ix ix_tup (pv 0) pe_int (fun _ _ => rfl)) pa_nil)) (pg_tup rfl (pgs_cons (pg_name (i := 1) scNeedWeb.nd rfl (Or.inl rfl)) (pgs_cons (pg_name (i := 2) scNeedWeb.nd rfl (Or.inl rfl)) pgs_nil))) (pss_one (ps_if (PW.pt (pw_or (pt_not (pt_val (pe_d cIsArrow hr (by decide) (by rfl) (pa_cons (pv 2) (pa_cons (pe_ix ix_tup (pv 0) pe_int (fun _ _ => rfl)) pa_nil))))) (pw_or1 (PW.pt (pw_and (pt_cmpR op_gt (pv 1) pe_int (nomark _)) (pw_and1 (pt_cmpR (op_leT hr.units0) (pv 2) (pe_ix ix_tup (pe_ix ix_tup (pv 0) pe_int (fun _ _ => rfl)) (pe_op op_sub (pv 1) pe_int) (fun _ _ => rfl)) (nomark _)))))))) (pss_one (ps_never)) pss_nil))))), ?_⟩
    refine ⟨_, rfl, _, _, _, _, true, rfl, .ty _, TyX.tupq hw, kit_ty (by decide +kernel), true, rfl, iteF ?_⟩
    refine ⟨_, rfl, wv, _, rfl, .inr hw, rfl, false, congrArg V.bl (ne_intF rfl), iteF ?_⟩
    refine ⟨_, rfl, wv, _, _, _, rfl, rfl, hw, atI_nat (j := 1) rfl, _, _, _, _, true, rfl, .ty _, TyX.tupq hb, kit_ty (by decide +kernel), true, rfl, iteF ?_⟩
    refine ⟨_, rfl, wv, _, _, _, rfl, rfl, hw, atI_nat (j := 0) rfl, _, _, _, rfl, true, congrArg V.bl (decide_eq_true ⟨?_, ?_⟩), iteF ?_⟩
    · have := R.n2
      omega
    · have := R.n7
      omega
    refine ⟨_, rfl, wv, _, _, _, rfl, rfl, hw, atI_nat (j := 1) rfl, b, _, rfl, hb, for_enumT (K := K) (a := b) (xs := ts.map V.ref) (fun i σ H' => ∃ y1 y2, σ = [some (.ref wv), y1, y2] ∧ Same H H') ⟨none, none, rfl, Same.refl _⟩ (fun i σ H' _ ⟨_, _, _, sm⟩ => sm.tup hb) ?_ ?_⟩
    · rintro i x Ta σ H' hx ⟨y1, y2, rfl, sm⟩ hT
      rw [List.getElem?_map] at hx
      obtain ⟨t, ht, rfl⟩ := Option.map_eq_some_iff.mp hx
      have hi : i < ar.length := by
        rw [← harr.1]
        exact (List.getElem?_eq_some_iff.mp ht).1
      have s1 : Same H (upd H' Ta (.tup [.int (i : Nat), .ref t])) := sm.trans (same_upd hT)
      have okp := R.ok _ (List.getElem_mem hi)
      refine ⟨Ta, _, rfl, SqT.of upd_same, rfl, _, _, rfl, _, _, rfl, rfl, ?_⟩
      refine ⟨_, rfl, _, rfl, wv, _, _, _, rfl, rfl, s1.tup hw, atI_nat (j := 0) rfl, t, n, _, _, rfl, s1.tup (harr.2 i t _ ht (List.getElem?_eq_getElem hi)), okp.1, okp.2.1, okp.2.2, fun H2 s2 => ⟨true, rfl, iteF ?_⟩⟩
      by_cases h0 : i = 0
      · refine ⟨_, rfl, _, _, rfl, rfl, false, congrArg V.bl (decide_eq_false (by omega)), iteF (iteF ?_)⟩
        exact ⟨_, _, rfl, s1.trans s2⟩
      · have hj : i - 1 < ar.length := by omega
        obtain ⟨t', ht'⟩ : ∃ t', ts[i - 1]? = some t' := ⟨_, List.getElem?_eq_getElem (by rw [harr.1]; exact hj)⟩
        have s3 := s1.trans s2
        refine ⟨_, rfl, _, _, rfl, rfl, true, congrArg V.bl (decide_eq_true (by omega)), iteT ?_⟩
        have e1 : ((i : Int) - 1) = ((i - 1 : Nat) : Int) := by omega
        have hat : atI (ts.map V.ref) ((i : Int) - 1) = some (.ref t') := by
          rw [e1]
          exact atI_nat (by rw [List.getElem?_map, ht'] <;> rfl)
        refine ⟨_, rfl, _, rfl, wv, _, _, _, rfl, rfl, s3.tup hw, atI_nat (j := 1) rfl, _, rfl, _, _, rfl, rfl, b, _, _, _, rfl, rfl, s3.tup hb, hat, t, t', [_, _], [_, _], rfl, rfl, s3.tup (harr.2 i t _ ht (List.getElem?_eq_getElem hi)), s3.tup (harr.2 (i - 1) t' _ ht' (List.getElem?_eq_getElem hj)), false, congrArg V.bl (leT_no (p := ar[i]) (q := ar[i - 1]) ?_), iteF ?_⟩
        · exact List.pairwise_iff_getElem.mp R.asc (i - 1) i hj hi (by omega)
        · exact ⟨_, _, rfl, s3⟩
    · rintro σ H' ⟨y1, y2, rfl, sm⟩
      exact q _ sm
end
end CK

set_option Elab.async false
set_option linter.all false
set_option maxRecDepth 100000
set_option maxHeartbeats 4000000
namespace CK
open PySem PySem.Spec PyProof.Rows L2

/-- a tuple, a list of numbers -/
abbrev Tn (K : PySem.W.Frag) (H : Hp) (a : Addr) (ds : List Nat) : Prop := SqT K H a (ds.map vN)
section
variable {P : Program} {w : World} {K : PySem.W.Frag} {mg : Str → Option Value} {base : Heap}

/-! need_hours -/
def spNeedHours : Sp := fun vs H Q _ => ∃ (k : Nat), vs = [vN k] ∧ 2 ≤ k ∧ k ≤ 24 ∧ Q .non H
theorem scNeedHours : FnScope ["hours"] ["hours"] (defScope sNeedHours) := ⟨rfl, rfl, rfl, by decide +kernel, rfl, by decide +kernel, by decide +kernel⟩
theorem c_need_hours (T : Stands K mg "need_hours" sNeedHours ["hours"]) (C : Cns mg) (cIsIn : Cal P w K mg base 1 "is_in" spIsIn) : Cal P w K mg base 2 "need_hours" spNeedHours := by
  refine cal_of T scNeedHours (fun vs H Q E h => ?_) (fun f cdv A outer s H vs Q E hr h => ?_)
  · obtain ⟨k, rfl, _⟩ := h
    rfl
  · obtain ⟨k, rfl, h2, h24, q⟩ := h
    refine ⟨_, pss_one (ps_if (pt_not (pt_val (pe_d cIsIn hr (by decide) (by rfl) (pa_cons (pv 0) (pa_cons (pe_glob (v := .int 2) (by rfl) C.lh.choose_spec ⟨_, rfl⟩) (pa_cons (pe_glob (v := .int 24) (by rfl) C.mh.choose_spec ⟨_, rfl⟩) pa_nil)))))) (pss_one (ps_never)) pss_nil), ?_⟩
    exact ⟨_, rfl, _, _, _, rfl, true, congrArg V.bl (decide_eq_true ⟨by omega, by omega⟩), iteF q⟩

/-! need_dial -/
def spNeedDial (K : PySem.W.Frag) : Sp := fun vs H Q _ => ∃ (wv d n k : _) (x : V) (ds : List Nat), vs = [.ref wv, vN k, .ref d] ∧ SqT K H wv [vN n, x] ∧ Tn K H d ds ∧ ds.length = n ∧ (∀ c ∈ ds, c < k) ∧ ∀ H', Same H H' → Q .non H'
theorem scNeedDial : FnScope ["web", "hours", "dial", "index", "one"] ["web", "hours", "dial"] (defScope sNeedDial) := ⟨rfl, rfl, rfl, by decide +kernel, rfl, by decide +kernel, by decide +kernel⟩
theorem c_need_dial (T : Stands K mg "need_dial" sNeedDial ["web", "hours", "dial"]) (B : Blt mg) (cIsIn : Cal P w K mg base 1 "is_in" spIsIn) : Cal P w K mg base 2 "need_dial" (spNeedDial K) := by
  refine cal_of T scNeedDial (fun vs H Q E h => ?_) (fun f cdv A outer s H vs Q E hr h => ?_)
  · obtain ⟨wv, d, n, k, x, ds, rfl, _⟩ := h
    rfl
  · obtain ⟨wv, d, n, k, x, ds, rfl, hw, hd, hl, hk, q⟩ := h
    refine ⟨_, pss_cons (ps_if (PW.pt (pw_or (pt_not (pt_val (pe_callB call_isi (by rfl) B.isinstance b_isinstance (pa_cons (pv 2) (pa_cons (pe_bltn (v := .ty "tuple") (by rfl) B.tuple b_tuple rfl) pa_nil))))) (pw_or1 (pt_cmpR op_ne (pe_callB call_len_seq (by rfl) B.len PySem.boot_len (pa_cons (pv 2) pa_nil)) (pe_ix ix_tup (pv 0) pe_int (fun _ _ => rfl)) (nomark _))))) (pss_one (ps_never)) pss_nil)
      (pss_one (ps_for PassesOwn.never rfl (pi_enumT (by rfl) B.enumerate (pa_cons (pv 2) pa_nil)) (pg_tup rfl (pgs_cons (pg_name (i := 3) scNeedDial.nd rfl (Or.inl rfl)) (pgs_cons (pg_name (i := 4) scNeedDial.nd rfl (Or.inl rfl)) pgs_nil))) (pss_one (ps_if (pt_not (pt_val (pe_d cIsIn hr (by decide) (by rfl) (pa_cons (pv 4) (pa_cons pe_int (pa_cons (pe_op op_sub (pv 1) pe_int) pa_nil)))))) (pss_one (ps_never)) pss_nil)))), ?_⟩
    refine ⟨_, rfl, _, _, _, _, true, rfl, .ty _, TyX.tupq hd, kit_ty (by decide +kernel), true, rfl, iteF ?_⟩
    refine ⟨_, rfl, d, _, rfl, .inr hd, _, rfl, wv, _, _, _, rfl, rfl, hw, atI_nat (j := 0) rfl, rfl, false, congrArg V.bl (ne_intF (by rw [List.length_map, hl])), iteF ?_⟩
    refine ⟨_, rfl, d, _, rfl, hd, for_enumT (K := K) (a := d) (xs := ds.map vN) (fun i σ H' => ∃ y1 y2, σ = [some (.ref wv), some (vN k), some (.ref d), y1, y2] ∧ Same H H') ⟨none, none, rfl, Same.refl _⟩ (fun i σ H' _ ⟨_, _, _, sm⟩ => sm.tup hd) ?_ ?_⟩
    · rintro i x Ta σ H' hx ⟨y1, y2, rfl, sm⟩ hT
      rw [List.getElem?_map] at hx
      obtain ⟨c, hc, rfl⟩ := Option.map_eq_some_iff.mp hx
      have hck := hk c (List.mem_of_getElem? hc)
      refine ⟨Ta, _, rfl, SqT.of upd_same, rfl, _, _, rfl, _, _, rfl, rfl, ?_⟩
      refine ⟨_, rfl, _, rfl, _, _, rfl, rfl, _, _, _, rfl, true, congrArg V.bl (decide_eq_true ⟨by omega, by omega⟩), iteF ?_⟩
      exact ⟨_, _, rfl, sm.trans (same_upd hT)⟩
    · rintro σ H' ⟨y1, y2, rfl, sm⟩
      exact q _ sm

/-! need_all -/
def spNeedAll (K : PySem.W.Frag) : Sp := fun vs H Q _ => ∃ (wv d : Addr) (n k : Nat) (ar : List (Nat × Nat)) (ds : List Nat), vs = [.ref wv, vN k, .ref d] ∧ Web K H wv n ar ∧ Ring n ar ∧ 2 ≤ k ∧ k ≤ 24 ∧ Tn K H d ds ∧ ds.length = n ∧ (∀ c ∈ ds, c < k) ∧ ∀ H', Same H H' → Q .non H'
theorem scNeedAll : FnScope ["web", "hours", "dial"] ["web", "hours", "dial"] (defScope sNeedAll) := ⟨rfl, rfl, rfl, by decide +kernel, rfl, by decide +kernel, by decide +kernel⟩
theorem c_need_all (T : Stands K mg "need_all" sNeedAll ["web", "hours", "dial"]) (cNeedWeb : Cal P w K mg base 3 "need_web" (spNeedWeb K)) (cNeedHours : Cal P w K mg base 2 "need_hours" spNeedHours) (cNeedDial : Cal P w K mg base 2 "need_dial" (spNeedDial K)) : Cal P w K mg base 4 "need_all" (spNeedAll K) := by
  refine cal_of T scNeedAll (fun vs H Q E h => ?_) (fun f cdv A outer s H vs Q E hr h => ?_)
  · obtain ⟨wv, d, n, k, ar, ds, rfl, _⟩ := h
    rfl
  · obtain ⟨wv, d, n, k, ar, ds, rfl, hw, R, h2, h24, hd, hl, hk, q⟩ := h
    refine ⟨_, pss_cons (ps_expr (pe_d cNeedWeb hr (by decide) (by rfl) (pa_cons (pv 0) pa_nil)))
      (pss_cons (ps_expr (pe_d cNeedHours hr (by decide) (by rfl) (pa_cons (pv 1) pa_nil)))
      (pss_one (ps_expr (pe_d cNeedDial hr (by decide) (by rfl) (pa_cons (pv 0) (pa_cons (pv 1) (pa_cons (pv 2) pa_nil))))))), ?_⟩
    refine ⟨_, rfl, wv, n, ar, rfl, hw, R, fun H1 s1 => ?_⟩
    refine ⟨_, rfl, k, rfl, h2, h24, ?_⟩
    obtain ⟨b, ts, h1, _⟩ := hw
    exact ⟨_, rfl, _, rfl, _, rfl, wv, d, n, k, _, ds, rfl, s1.tup h1, s1.tup hd, hl, hk, fun H2 s2 => q _ (s1.trans s2)⟩

/-! need_clock -/
def spNeedClock (K : PySem.W.Frag) : Sp := fun vs H Q _ => ∃ (wv : Addr) (n j : Nat) (x : V), vs = [.ref wv, vN j] ∧ SqT K H wv [vN n, x] ∧ j < n ∧ Q .non H
theorem scNeedClock : FnScope ["web", "place"] ["web", "place"] (defScope sNeedClock) := ⟨rfl, rfl, rfl, by decide +kernel, rfl, by decide +kernel, by decide +kernel⟩
theorem c_need_clock (T : Stands K mg "need_clock" sNeedClock ["web", "place"]) (cIsIn : Cal P w K mg base 1 "is_in" spIsIn) : Cal P w K mg base 2 "need_clock" (spNeedClock K) := by
  refine cal_of T scNeedClock (fun vs H Q E h => ?_) (fun f cdv A outer s H vs Q E hr h => ?_)
  · obtain ⟨wv, n, j, x, rfl, _⟩ := h
    rfl
  · obtain ⟨wv, n, j, x, rfl, hw, hj, q⟩ := h
    refine ⟨_, pss_one (ps_if (pt_not (pt_val (pe_d cIsIn hr (by decide) (by rfl) (pa_cons (pv 1) (pa_cons pe_int (pa_cons (pe_op op_sub (pe_ix ix_tup (pv 0) pe_int (fun _ _ => rfl)) pe_int) pa_nil)))))) (pss_one (ps_never)) pss_nil), ?_⟩
    exact ⟨_, rfl, _, rfl, wv, _, _, _, rfl, rfl, hw, atI_nat (j := 0) rfl, _, _, rfl, rfl, _, _, _, rfl, true, congrArg V.bl (decide_eq_true ⟨by omega, by omega⟩), iteF q⟩

/-! led_from -/
theorem inV_vN (x : Nat) (xs : List Nat) : inV (vN x) (xs.map vN) = decide (x ∈ xs) := by
  unfold inV
  rw [List.any_map]
  induction xs with
  | nil => simp
  | cons y ys ih =>
    rw [List.any_cons, ih]
    have e : ((fun z => eqV z (vN x)) ∘ vN) y = decide (x = y) := by
      show eqV (V.int (y : Int)) (V.int (x : Int)) = _
      by_cases h : x = y
      · subst h
        simp [eqV]
      · have h' : ¬ (y : Int) = (x : Int) := by omega
        simp [eqV, h, h']
    rw [e]
    simp [List.mem_cons, Bool.decide_or]
theorem flat_vN (xs : List Nat) : (xs.map vN).all flatV = true := by
  rw [List.all_map]
  exact List.all_eq_true.mpr fun _ _ => rfl
def Dps (K : PySem.W.Frag) (H : Hp) : ∀ xs : List Nat, DpAll K H (xs.map vN) (xs.map fun (x : Nat) => PyData.int (x : Int))
  | [] => .nil
  | x :: xs => .cons (.int _) (Dps K H xs)
theorem lay_ints (xs : List Int) : PyData.canLayAll0 (xs.map PyData.int) = true := by
  induction xs with
  | nil => rfl
  | cons x xs ih => exact ih
theorem depth_ints (xs : List Int) : PyData.depthAll (xs.map PyData.int) = 0 := by
  induction xs with
  | nil => rfl
  | cons x xs ih =>
    show max (PyData.depth (PyData.int x)) (PyData.depthAll (xs.map PyData.int)) = 0
    rw [ih]
    rfl
/-- data of small depth -/
theorem shaped_of {d : PyData} (h1 : d.canLay0 = true) (h2 : d.depth ≤ 64) : SeqAt.shaped d = true := by
  unfold SeqAt.shaped
  rw [h1, decide_eq_true h2]
  rfl
theorem shaped_lst (xs : List Int) : SeqAt.shaped (.list (xs.map PyData.int)) = true := shaped_of (lay_ints xs) (by
  show PyData.depthAll (xs.map PyData.int) + 1 ≤ 64
  rw [depth_ints]
  decide)
theorem shaped_tup (xs : List Int) : SeqAt.shaped (.tuple (xs.map PyData.int)) = true := shaped_of (lay_ints xs) (by
  show PyData.depthAll (xs.map PyData.int) + 1 ≤ 64
  rw [depth_ints]
  decide)
abbrev pdN (xs : List Nat) : List PyData := (xs.map fun (x : Nat) => (x : Int)).map PyData.int
theorem DpN (K : PySem.W.Frag) (H : Hp) (xs : List Nat) : DpAll K H (xs.map vN) (pdN xs) := by
  induction xs with
  | nil => exact .nil
  | cons x xs ih => exact .cons (.int _) ih
/-- the ring leads everywhere -/
theorem ring_all {n : Nat} {ar : List (Nat × Nat)} (R : Ring n ar) {F : List Nat} (hb : ∀ x ∈ F, x < n) (hc : ∀ x ∈ F, ∀ y, (x, y) ∈ ar → y ∈ F) {p : Nat} (hp : p ∈ F) : ∀ k, k < n → k ∈ F := by
  have hpn := hb p hp
  have go : ∀ j, (p + j) % n ∈ F := by
    intro j
    induction j with
    | zero =>
      rw [Nat.add_zero, Nat.mod_eq_of_lt hpn]
      exact hp
    | succ j ih =>
      have h1 := R.ring _ (hb _ ih)
      have e : ((p + j) % n + 1) % n = (p + (j + 1)) % n := by
        rw [Nat.mod_add_mod]
        rfl
      rw [e] at h1
      exact hc _ ih _ h1
  intro k hk
  have e : (p + (n - p + k)) % n = k := by
    rw [show p + (n - p + k) = k + n by omega, Nat.add_mod_right, Nat.mod_eq_of_lt hk]
  rw [← e]
  exact go _
theorem sorted_range {n : Nat} {F : List Nat} (nd : F.Nodup) (hb : ∀ x ∈ F, x < n) (hall : ∀ k, k < n → k ∈ F) {ns : List Int} (hp : ns.Perm (F.map fun (x : Nat) => (x : Int))) (hs : ns.Pairwise (· ≤ ·)) : ns.map V.int = (List.range n).map vN := by
  have h1 : F.Perm (List.range n) := (List.perm_ext_iff_of_nodup nd List.nodup_range).mpr fun a => ⟨fun h => List.mem_range.mpr (hb a h), fun h => hall a (List.mem_range.mp h)⟩
  have h2 : ns.Perm ((List.range n).map fun (x : Nat) => (x : Int)) := hp.trans (h1.map _)
  have h3 : ((List.range n).map fun (x : Nat) => (x : Int)).Pairwise (· ≤ ·) := by
    rw [List.pairwise_map]
    exact List.pairwise_lt_range.imp fun h => by omega
  rw [PySem.W.ksm_same h2 hs h3, List.map_map]
  rfl
/-- what is known of the clocks found and of those that wait; h: the one whose arrows are looked at -/
structure LF (n : Nat) (ar : List (Nat × Nat)) (place : Nat) (F Rw : List Nat) (h : Nat) : Prop where
  nd : F.Nodup
  bd : ∀ x ∈ F, x < n
  pl : place ∈ F
  sub : ∀ x ∈ Rw, x ∈ F
  cl : ∀ x ∈ F, x ∉ Rw → x ≠ h → ∀ y, (x, y) ∈ ar → y ∈ F
theorem LF.len {n : Nat} {ar : List (Nat × Nat)} {place h : Nat} {F Rw : List Nat} (L : LF n ar place F Rw h) : F.length ≤ n := by
  have := L.nd.length_le_of_subset (l₂ := List.range n) fun x hx => List.mem_range.mpr (L.bd x hx)
  rwa [List.length_range] at this
theorem LF.add {n : Nat} {ar : List (Nat × Nat)} {place h y : Nat} {F Rw : List Nat} (L : LF n ar place F Rw h) (hy : y < n) (hn : y ∉ F) : LF n ar place (F ++ [y]) (Rw ++ [y]) h where
  nd := List.nodup_append.mpr ⟨L.nd, by simp, fun a ha b hb => by rw [List.mem_singleton.mp hb]; exact fun e => hn (e ▸ ha)⟩
  bd := fun x hx => (List.mem_append.mp hx).elim (L.bd x) fun z => by rw [List.mem_singleton.mp z]; exact hy
  pl := List.mem_append_left _ L.pl
  sub := fun x hx => (List.mem_append.mp hx).elim (fun z => List.mem_append_left _ (L.sub x z)) fun z => List.mem_append_right _ z
  cl := fun x hx hr hh z hz => by
    rcases List.mem_append.mp hx with hx | hx
    · exact List.mem_append_left _ (L.cl x hx (fun q => hr (List.mem_append_left _ q)) hh z hz)
    · exact absurd (List.mem_append_right _ hx) hr

def spLedFrom (K : PySem.W.Frag) : Sp := fun vs H Q _ => ∃ (wv : Addr) (n place : Nat) (ar : List (Nat × Nat)), vs = [.ref wv, vN place] ∧ Web K H wv n ar ∧ Ring n ar ∧ place < n ∧ ∀ p H', Same H H' → H p = none → H' p = some (.lst ((List.range n).map vN)) → Q (.ref p) H'
theorem scLedFrom : FnScope ["web", "place", "found", "rows", "here", "one", "other"] ["web", "place"] (defScope sLedFrom) := ⟨rfl, rfl, rfl, by decide +kernel, rfl, by decide +kernel, by decide +kernel⟩
theorem c_led_from (T : Stands K mg "led_from" sLedFrom ["web", "place"]) (B : Blt mg) : Cal P w K mg base 1 "led_from" (spLedFrom K) := by
  refine cal_of T scLedFrom (fun vs H Q E h => ?_) (fun f cdv A outer s H vs Q E hr h => ?_)
  · obtain ⟨wv, n, place, ar, rfl, _⟩ := h
    rfl
  · obtain ⟨wv, n, place, ar, rfl, ⟨b, ts, hw, hb, harr⟩, R, hpl, q⟩ := h
    have n7 := R.n7
    refine ⟨_, pss_cons (ps_par (i := 2) (j := 3) rfl scLedFrom.nd rfl rfl (by decide) rfl rfl (pa_cons (pe_lst (pa_cons (pv 1) pa_nil)) (pa_cons (pe_lst (pa_cons (pv 1) pa_nil)) pa_nil)) (by rfl))
      (pss_cons (ps_while PassesOwn.never (pt_cmpR (op_neD hr.units) (pv 3) (pe_lst pa_nil) (nomark _)) (pss_cons (ps_set (i := 4) scLedFrom.nd rfl (Or.inl rfl) (pe_bm0 PySem.F.plainAttrs_list PySem.F.slot_list_pop PySem.F.type_list_pop mt_pop (pv 3)))
        (pss_one (ps_for PassesOwn.never rfl (pi_tup (pe_ix ix_tup (pv 0) pe_int (fun _ _ => rfl))) (pg_tup rfl (pgs_cons (pg_name (i := 5) scLedFrom.nd rfl (Or.inl rfl)) (pgs_cons (pg_name (i := 6) scLedFrom.nd rfl (Or.inl rfl)) pgs_nil))) (pss_one (ps_if (PW.pt (pw_and (pt_cmpR op_eq (pv 5) (pv 4) (nomark _)) (pw_and1 (pt_cmpR op_notIn_seq (pv 6) (pv 2) (by rfl))))) (pss_cons (ps_expr (pe_bm PySem.F.plainAttrs_list PySem.F.slot_list_append PySem.F.type_list_append mt_append (pv 2) (pa_cons (pv 6) pa_nil)))
            (pss_one (ps_expr (pe_bm PySem.F.plainAttrs_list PySem.F.slot_list_append PySem.F.type_list_append mt_append (pv 3) (pa_cons (pv 6) pa_nil))))) pss_nil))))))
      (pss_one (ps_ret (pe_callB cr_sorted (by rfl) B.sorted b_sorted (pa_cons (pv 2) pa_nil))))), ?_⟩
    refine ⟨_, rfl, by show 1 ≤ sizeLine; decide, fun a1 ha1 => ⟨_, rfl, by show 1 ≤ sizeLine; decide, fun a2 ha2 => ⟨_, _, rfl, ?_⟩⟩⟩
    have h1 : H a1 = none := ha1
    have n12 : a1 ≠ a2 := ne_of_none upd_same ha2
    have h2 : H a2 = none := (same_upd ha1).free ha2
    have sm0 : Same H (upd (upd H a1 (.lst [vN place])) a2 (.lst [vN place])) := (same_upd ha1).trans (same_upd ha2)
    refine ⟨fun m σ H' => ∃ (F Rw : List Nat) (y4 y5 y6 : Option V), m = (n - F.length) + Rw.length ∧ σ = [some (.ref wv), some (vN place), some (.ref a1), some (.ref a2), y4, y5, y6] ∧ Same H H' ∧ H' a1 = some (.lst (F.map vN)) ∧ H' a2 = some (.lst (Rw.map vN)) ∧ LF n ar place F Rw n ∧ Rw.length ≤ F.length,
      ⟨_, [place], [place], none, none, none, rfl, rfl, sm0, ?_, upd_same, ?_, Nat.le_refl _⟩, ?_⟩
    · rw [upd_ne n12]
      exact upd_same
    · exact ⟨by simp, by simp [hpl], by simp, by simp, fun x hx hn => absurd hx hn⟩
    rintro m σ H' ⟨F, Rw, y4, y5, y6, rfl, rfl, sm, e1, e2, L, hle⟩
    refine ⟨_, rfl, Nat.zero_le _, fun p hp => ?_⟩
    have s2 : Same H' (upd H' p (.lst [])) := same_upd hp
    have d2 : Dp K (upd H' p (.lst [])) (.ref a2) (.list (pdN Rw)) := .lst (SqL.of (s2 _ _ e2)) (DpN K _ Rw)
    by_cases hR : Rw = []
    · subst hR
      refine ⟨_, _, d2, .lst (SqL.of upd_same) .nil, shaped_lst _, rfl, false, rfl, iteF ?_⟩
      have hall := ring_all R L.bd (fun x hx y hy => L.cl x hx (by simp) (Nat.ne_of_lt (L.bd x hx)) y hy) L.pl
      refine ⟨_, rfl, a1, F.map (fun (x : Nat) => (x : Int)), rfl, ?_, by rw [List.length_map]; have := L.len; omega, fun ns' r hperm hsort hrn => ?_⟩
      · rw [List.map_map]
        exact SqL.of (s2 _ _ e1)
      · have s3 := sm.trans s2
        refine q r _ (s3.trans (same_upd hrn)) (s3.free hrn) ?_
        rw [upd_same, sorted_range L.nd L.bd hall hperm hsort]
    · obtain ⟨R', hh, rfl⟩ : ∃ R' hh, Rw = R' ++ [hh] := ⟨_, _, (List.dropLast_concat_getLast hR).symm⟩
      have ev : PyData.eqv (.list (pdN (R' ++ [hh]))) (.list []) = false := by
        cases R' <;> rfl
      refine ⟨_, _, d2, .lst (SqL.of upd_same) .nil, shaped_lst _, rfl, true, congrArg V.bl (by rw [ev]; rfl), iteT ?_⟩
      refine ⟨_, fun _ _ z => z, ?_⟩
      have e2' := s2 _ _ e2
      have e1' := s2 _ _ e1
      have hg : ((R' ++ [hh]).map vN)[((R' ++ [hh]).map vN).length - 1]? = some (vN hh) := by
        rw [List.map_append, List.length_append]
        simp
      refine ⟨_, rfl, .inl ⟨rfl, _, SqL.of e2'⟩, a2, _, _, rfl, rfl, e2', hg, ?_⟩
      have edl : ((R' ++ [hh]).map vN).dropLast = R'.map vN := by
        rw [List.map_append]
        simp
      rw [edl]
      have n2p : a2 ≠ p := ne_of_none e2 hp
      have n1p : a1 ≠ p := ne_of_none e1 hp
      have s4 : Same H (upd (upd H' p (.lst [])) a2 (.lst (R'.map vN))) := (sm.trans s2).mut h2
      have hhn : hh < n := L.bd hh (L.sub hh (by simp))
      refine ⟨_, rfl, wv, _, _, _, rfl, rfl, s4.tup hw, atI_nat (j := 1) rfl, b, rfl, ⟨_, s4.tup hb⟩, for_tup (K := K) (a := b) (xs := ts.map V.ref)
        (fun i σ H2 => ∃ (F2 Rw2 : List Nat) (y5 y6 : Option V), σ = [some (.ref wv), some (vN place), some (.ref a1), some (.ref a2), some (vN hh), y5, y6] ∧ Same H H2 ∧ H2 a1 = some (.lst (F2.map vN)) ∧ H2 a2 = some (.lst (Rw2.map vN)) ∧ LF n ar place F2 Rw2 hh ∧
          F2.length + R'.length = F.length + Rw2.length ∧ ∀ j, j < i → ∀ y, ar[j]? = some (hh, y) → y ∈ F2)
        ⟨F, R', _, _, rfl, s4, ?_, upd_same, ?_, rfl, fun j hj => absurd hj (Nat.not_lt_zero _)⟩ (fun i σ H2 _ ⟨_, _, _, _, _, sm2, _⟩ => sm2.tup hb) ?_ ?_⟩
      · rw [upd_ne n12]
        exact e1'
      · exact ⟨L.nd, L.bd, L.pl, fun x hx => L.sub x (List.mem_append_left _ hx), fun x hx hn hne y hy => L.cl x hx (by simp [hn, hne]) (Nat.ne_of_lt (L.bd x hx)) y hy⟩
      · rintro i x σ H2 hx ⟨F2, Rw2, y5, y6, rfl, sm2, f1, f2, L2, hlen, hdone⟩
        rw [List.getElem?_map] at hx
        obtain ⟨t, ht, rfl⟩ := Option.map_eq_some_iff.mp hx
        have hi : i < ar.length := by
          rw [← harr.1]
          exact (List.getElem?_eq_some_iff.mp ht).1
        have har := List.getElem?_eq_getElem hi
        have okp := R.ok _ (List.getElem_mem hi)
        generalize hpe : ar[i] = pr at har okp
        obtain ⟨p1, p2⟩ := pr
        refine ⟨t, _, rfl, sm2.tup (harr.2 i t _ ht har), rfl, _, _, rfl, _, _, rfl, rfl, ?_⟩
        refine ⟨_, rfl, _, rfl, rfl, ?_⟩
        by_cases c1 : p1 = hh
        · subst c1
          refine ⟨true, congrArg V.bl (eq_int rfl), iteT ?_⟩
          refine ⟨_, rfl, _, rfl, a1, _, rfl, .inl (SqL.of f1), rfl, flat_vN F2, ?_⟩
          by_cases c2 : p2 ∈ F2
          · refine ⟨false, congrArg V.bl (by rw [inV_vN]; simp [c2]), iteF ?_⟩
            refine ⟨F2, Rw2, _, _, rfl, sm2, f1, f2, L2, hlen, fun j hj y hy => ?_⟩
            by_cases hji : j = i
            · subst hji
              rw [har] at hy
              have := (Prod.mk.inj (Option.some.inj hy)).2
              rw [← this]
              exact c2
            · exact hdone j (by omega) y hy
          · refine ⟨true, congrArg V.bl (by rw [inV_vN]; simp [c2]), iteT ?_⟩
            have ll : (F2.map vN).length < sizeLine := by
              rw [List.length_map]
              exact small1000 (by have := L2.len; omega)
            have ll2 : (Rw2.map vN).length < sizeLine := by
              rw [List.length_map]
              exact small1000 (by have := L2.len; rw [List.length_append, List.length_singleton] at hle; omega)
            refine ⟨_, rfl, .inl ⟨rfl, _, SqL.of f1⟩, _, rfl, a1, _, _, rfl, rfl, f1, ll, ?_⟩
            have f2' : (upd H2 a1 (.lst (F2.map vN ++ [vN p2]))) a2 = some (.lst (Rw2.map vN)) := by
              rw [upd_ne n12.symm]
              exact f2
            refine ⟨_, rfl, .inl ⟨rfl, _, SqL.of f2'⟩, _, rfl, a2, _, _, rfl, rfl, f2', ll2, ?_⟩
            refine ⟨F2 ++ [p2], Rw2 ++ [p2], _, _, rfl, (sm2.mut h1).mut h2, ?_, ?_, L2.add okp.2.1 c2, ?_, fun j hj y hy => ?_⟩
            · rw [upd_ne n12, upd_same, List.map_append]
              rfl
            · rw [upd_same, List.map_append]
              rfl
            · rw [List.length_append, List.length_append, List.length_singleton]
              omega
            · by_cases hji : j = i
              · subst hji
                rw [har] at hy
                have := (Prod.mk.inj (Option.some.inj hy)).2
                rw [← this]
                simp
              · exact List.mem_append_left _ (hdone j (by omega) y hy)
        · refine ⟨false, congrArg V.bl (eq_intF (by omega)), iteF (iteF ?_)⟩
          refine ⟨F2, Rw2, _, _, rfl, sm2, f1, f2, L2, hlen, fun j hj y hy => ?_⟩
          by_cases hji : j = i
          · subst hji
            rw [har] at hy
            exact absurd (Prod.mk.inj (Option.some.inj hy)).1 c1
          · exact hdone j (by omega) y hy
      · rintro σ H2 ⟨F2, Rw2, y5, y6, rfl, sm2, f1, f2, L2, hlen, hdone⟩
        refine ⟨_, ?_, F2, Rw2, _, y5, y6, rfl, rfl, sm2, f1, f2, ⟨L2.nd, L2.bd, L2.pl, L2.sub, fun x hx hn _ y hy => ?_⟩, ?_⟩
        · have l1 := L.len
          have l2 := L2.len
          rw [List.length_append, List.length_singleton]
          omega
        · by_cases hxh : x = hh
          · subst hxh
            obtain ⟨j, hj⟩ := List.mem_iff_getElem?.mp hy
            refine hdone j ?_ y hj
            rw [List.length_map, harr.1]
            exact (List.getElem?_eq_some_iff.mp hj).1
          · exact L2.cl x hx hn hxh y hy
        · rw [List.length_append, List.length_singleton] at hle
          omega
end
end CK

set_option Elab.async false
set_option linter.all false
set_option maxRecDepth 100000
set_option maxHeartbeats 4000000
namespace CK
open PySem PySem.Spec PyProof.Rows L2

abbrev rN (n : Nat) : List V := (List.range n).map vN
theorem rN_len (n : Nat) : (rN n).length = n := by rw [List.length_map, List.length_range]
theorem rN_get {n i : Nat} {x : V} (h : (rN n)[i]? = some x) : i < n ∧ x = vN i := by
  rw [List.getElem?_map] at h
  obtain ⟨a, ha, rfl⟩ := Option.map_eq_some_iff.mp h
  obtain ⟨h1, h2⟩ := List.getElem?_eq_some_iff.mp ha
  rw [List.length_range] at h1
  rw [List.getElem_range] at h2
  exact ⟨h1, by rw [h2]⟩
theorem rN_at {n i : Nat} (h : i < n) : (rN n)[i]? = some (vN i) := by
  rw [List.getElem?_map, List.getElem?_eq_getElem (by rw [List.length_range]; exact h), List.getElem_range]
  rfl
theorem rN_succ (n : Nat) : rN (n + 1) = rN n ++ [vN n] := by
  unfold rN
  rw [List.range_succ, List.map_append]
  rfl
theorem rN_in {n k : Nat} (h : k < n) : inV (vN k) (rN n) = true := by
  rw [inV_vN]
  exact decide_eq_true (List.mem_range.mpr h)
theorem small7 {n m : Nat} (h : n ≤ m) (hm : m ≤ 1000) : n < sizeLine := small1000 (Nat.le_trans h hm)

section
variable {P : Program} {w : World} {K : PySem.W.Frag} {mg : Str → Option Value} {base : Heap}

theorem eqv_tupN (xs : List Nat) : PyData.eqv (.tuple (pdN xs)) (.tuple (pdN xs)) = true := SeqAt.eqv_refl _ (show PyData.canLayAll0 (pdN xs) = true from lay_ints _)
/-! parts_in -/
theorem shaped_lt (xs : List Nat) : SeqAt.shaped (.list [.tuple (pdN xs)]) = true := shaped_of (by
  show (PyData.canLayAll0 (pdN xs) && true) = true
  rw [show PyData.canLayAll0 (pdN xs) = true from lay_ints _]
  rfl) (by
  show max (PyData.depthAll (pdN xs) + 1) 0 + 1 ≤ 64
  rw [show PyData.depthAll (pdN xs) = 0 from depth_ints _]
  decide)
def spPartsIn (K : PySem.W.Frag) : Sp := fun vs H Q _ => ∃ (wv : Addr) (n : Nat) (ar : List (Nat × Nat)), vs = [.ref wv] ∧ Web K H wv n ar ∧ Ring n ar ∧ ∀ p t H', Same H H' → H p = none → H t = none → H' p = some (.lst [.ref t]) → H' t = some (.tup (rN n)) → Q (.ref p) H'
theorem scPartsIn : FnScope ["web", "k", "leads_to", "found", "part", "j"] ["web"] (defScope sPartsIn) := ⟨rfl, rfl, rfl, by decide +kernel, rfl, by decide +kernel, by decide +kernel⟩
theorem c_parts_in (T : Stands K mg "parts_in" sPartsIn ["web"]) (B : Blt mg) (cLedFrom : Cal P w K mg base 1 "led_from" (spLedFrom K)) : Cal P w K mg base 2 "parts_in" (spPartsIn K) := by
  refine cal_of T scPartsIn (fun vs H Q E h => ?_) (fun f cdv A outer s H vs Q E hr h => ?_)
  · obtain ⟨wv, n, ar, rfl, _⟩ := h
    rfl
  · obtain ⟨wv, n, ar, rfl, W, R, q⟩ := h
    obtain ⟨b, ts, hw, hb, harr⟩ := id W
    have n7 := R.n7
    have n2 := R.n2
    refine ⟨_, pss_cons (ps_set (i := 2) scPartsIn.nd rfl (Or.inr rfl) (pe_lc (own := [("k", 1)]) (g := gName 1) rfl scPartsIn.nd (pi_range1 rfl B.range (pa_cons (pe_ix ix_tup (pv 0) pe_int (fun _ _ => rfl)) pa_nil)) (blkOk_by (N := ["web", "k", "leads_to", "found", "part", "j"]) (sc := defScope sPartsIn) (by decide +kernel)) (fun _ _ _ _ _ => pg_name (i := 1) scPartsIn.nd rfl (Or.inl rfl)) (fun _ _ _ _ _ => pts_nil) (fun _ _ _ _ _ => pe_d cLedFrom hr (by decide) (by rfl) (pa_cons (pv 0) (pa_cons (pv 1) pa_nil)))))
      (pss_cons (ps_set (i := 3) scPartsIn.nd rfl (Or.inl rfl) (pe_lst pa_nil))
      (pss_cons (ps_for PassesOwn.never rfl (pi_range1 rfl B.range (pa_cons (pe_ix ix_tup (pv 0) pe_int (fun _ _ => rfl)) pa_nil)) (pg_name (i := 1) scPartsIn.nd rfl (Or.inr rfl)) (pss_cons (ps_set (i := 4) scPartsIn.nd rfl (Or.inl rfl) (pe_tupleOf (by rfl) B.tuple (pe_lc (own := [("j", 5)]) (g := gName 5) rfl scPartsIn.nd (pi_list (pe_ix ix_list (pv 2) (pv 1) (fun _ _ => rfl))) (blkOk_by (N := ["web", "k", "leads_to", "found", "part", "j"]) (sc := defScope sPartsIn) (by decide +kernel)) (fun _ _ _ _ _ => pg_name (i := 5) scPartsIn.nd rfl (Or.inl rfl)) (fun _ _ _ _ _ => pts_one (pt_cmpR (r := rIn K false) op_in_seq (pv 1) (pe_ix (r := rIxL K) ix_list (pv 2) (pv 5) (fun _ _ => rfl)) (by rfl))) (fun _ _ _ _ _ => pv 5))))
        (pss_one (ps_if (pt_cmpR (op_notInD hr.units65) (pv 4) (pv 3) (by rfl)) (pss_one (ps_expr (pe_bm PySem.F.plainAttrs_list PySem.F.slot_list_append PySem.F.type_list_append mt_append (pv 3) (pa_cons (pv 4) pa_nil)))) pss_nil))))
      (pss_one (ps_ret (pv 3))))), ?_⟩
    refine ⟨_, rfl, wv, _, _, _, rfl, rfl, hw, atI_nat (j := 0) rfl, _, rfl, by omega, by omega, fun D hD => lc_range (lo := 0) (n := n)
      (fun i H' => ∃ ls : List Addr, ls.length = i ∧ H' D = some (.lst (ls.map V.ref)) ∧ (∀ l ∈ ls, H' l = some (.lst (rN n)) ∧ l ≠ D) ∧ Same H H') ⟨[], rfl, upd_same, fun l hl => (nomatch hl), same_upd hD⟩ ?_ ?_⟩
    · rintro i H' hi ⟨ls, hl, eD, hall, sm⟩
      refine ⟨rfl, _, rfl, _, rfl, wv, n, i, ar, (by show [V.ref wv, V.int (0 + (i : Nat))] ++ [] = _; rw [Int.zero_add]; rfl), W.same sm, R, hi, fun p H2 s2 hp e2 => ?_⟩
      have hpD : p ≠ D := (ne_of_none eD hp).symm
      refine ⟨_, s2 _ _ eD, small7 (m := 7) (by rw [List.length_map]; omega) (by decide), ls ++ [p], by rw [List.length_append, hl]; rfl, ?_, fun l hlm => ?_, (sm.trans s2).mut hD⟩
      · rw [upd_same, List.map_append]
        rfl
      · rcases List.mem_append.mp hlm with h | h
        · obtain ⟨g1, g2⟩ := hall l h
          exact ⟨by rw [upd_ne g2]; exact s2 _ _ g1, g2⟩
        · rw [List.mem_singleton.mp h]
          exact ⟨by rw [upd_ne hpD]; exact e2, hpD⟩
    rintro H1 ⟨ls, hl, eD, hall, sm⟩
    refine ⟨Nat.zero_le _, fun aF hF => ?_⟩
    have sF : Same H1 (upd H1 aF (.lst [])) := same_upd hF
    have hF0 : H aF = none := sm.free hF
    refine ⟨_, rfl, wv, _, _, _, rfl, rfl, (sm.trans sF).tup hw, atI_nat (j := 0) rfl, _, rfl, by omega, by omega, for_range (lo := 0) (n := n)
      (fun k σ H' => ∃ y1 y4, σ = [some (.ref wv), y1, some (.ref D), some (.ref aF), y4, none] ∧ Same H1 H' ∧ ((k = 0 ∧ H' aF = some (.lst [])) ∨ (0 < k ∧ ∃ t, H t = none ∧ t ≠ aF ∧ H' aF = some (.lst [.ref t]) ∧ H' t = some (.tup (rN n)))))
      ⟨none, none, rfl, sF, .inl ⟨rfl, upd_same⟩⟩ ?_ ?_⟩
    · rintro k σ H' hk ⟨y1, y4, rfl, s1, hf⟩
      have hkl : k < ls.length := by omega
      have hat : ∀ {j : Nat}, j < n → ∃ l, ls[j]? = some l ∧ H1 l = some (.lst (rN n)) ∧ atI (ls.map V.ref) ((j : Nat) : Int) = some (.ref l) := fun {j} hj => by
        have e := List.getElem?_eq_getElem (show j < ls.length by omega)
        exact ⟨_, e, (hall _ (List.mem_of_getElem? e)).1, atI_nat (by rw [List.getElem?_map, e] <;> rfl)⟩
      obtain ⟨lk, _, hlk, hatk⟩ := hat hk
      refine ⟨_, rfl, _, rfl, D, _, _, _, rfl, rfl, SqL.of (s1 _ _ eD), (by rw [Int.zero_add]; exact hatk), lk, rfl, ⟨_, SqL.of (s1 _ _ hlk)⟩, fun D2 hD2 => lc_list (K := K) (a := lk) (xs := rN n)
        (fun i H2 => Same H' H2 ∧ H2 D2 = some (.lst (rN i))) ⟨same_upd hD2, upd_same⟩ (fun i H2 _ p => SqL.of (p.1 _ _ (s1 _ _ hlk))) ?_ ?_⟩
      · rintro i x H2 hx ⟨s2, e2⟩
        obtain ⟨hi, rfl⟩ := rN_get hx
        obtain ⟨lj, _, hlj, hatj⟩ := hat hi
        have s3 := s1.trans s2
        refine ⟨rfl, _, rfl, _, rfl, _, rfl, D, _, _, _, rfl, rfl, SqL.of (s3 _ _ eD), hatj, lj, _, rfl, .inl (SqL.of (s3 _ _ hlj)), rfl, flat_vN _, true, congrArg V.bl (by rw [Int.zero_add]; exact rN_in hk), iteT ?_⟩
        refine ⟨_, rfl, _, e2, small7 (m := 7) (by rw [rN_len]; omega) (by decide), s2.mut hD2, ?_⟩
        rw [upd_same, rN_succ]
      · rintro H2 ⟨s2, e2⟩
        rw [rN_len] at e2
        refine .inl ⟨D2, _, rfl, SqL.of e2, fun t ht => ?_⟩
        have s3 : Same H2 (upd H2 t (.tup (rN n))) := same_upd ht
        have ht1 : H' t = none := s2.free ht
        have ht0 : H t = none := (sm.trans s1).free ht1
        have dt : Dp K (upd H2 t (.tup (rN n))) (.ref t) (.tuple (pdN (List.range n))) := .tup (SqT.of upd_same) (DpN K _ _)
        rcases hf with ⟨rfl, ef⟩ | ⟨h0, t0, ht00, hne, ef, et⟩
        · have ef2 := s3 _ _ (s2 _ _ ef)
          have hta : t ≠ aF := (ne_of_none (s2 _ _ ef) ht).symm
          refine ⟨_, rfl, _, rfl, _, [], dt, .lst (SqL.of ef2) .nil, shaped_tup _, rfl, true, rfl, iteT ?_⟩
          refine ⟨_, rfl, .inl ⟨rfl, _, SqL.of ef2⟩, _, rfl, aF, _, _, rfl, rfl, ef2, by show 0 < sizeLine; decide, ?_⟩
          refine ⟨_, _, rfl, ?_, .inr ⟨by omega, t, ht0, hta, upd_same, ?_⟩⟩
          · exact ((s1.trans s2).trans s3).mut hF
          · rw [upd_ne hta]
            exact upd_same
        · have ef2 := s3 _ _ (s2 _ _ ef)
          have et2 := s3 _ _ (s2 _ _ et)
          refine ⟨_, rfl, _, rfl, _, [.tuple (pdN (List.range n))], dt, .lst (SqL.of ef2) (.cons (.tup (SqT.of et2) (DpN K _ _)) .nil), shaped_tup _, shaped_lt _, false, congrArg V.bl (by rw [List.any_cons, eqv_tupN]; rfl), iteF ?_⟩
          exact ⟨_, _, rfl, (s1.trans s2).trans s3, .inr ⟨by omega, t0, ht00, hne, ef2, et2⟩⟩
    · rintro σ H' ⟨y1, y4, rfl, s1, hf⟩
      rcases hf with ⟨h0, _⟩ | ⟨_, t, ht, hne, ef, et⟩
      · omega
      · exact ⟨_, rfl, q aF t H' (sm.trans s1) hF0 ht ef et⟩

/-! above_in -/
def spAboveIn (K : PySem.W.Frag) : Sp := fun vs H Q _ => ∃ (wv : Addr) (n place : Nat) (ar : List (Nat × Nat)), vs = [.ref wv, vN place] ∧ Web K H wv n ar ∧ Ring n ar ∧ place < n ∧ ∀ p H', Same H H' → H p = none → H' p = some (.lst []) → Q (.ref p) H'
theorem scAboveIn : FnScope ["web", "place", "here", "k"] ["web", "place"] (defScope sAboveIn) := ⟨rfl, rfl, rfl, by decide +kernel, rfl, by decide +kernel, by decide +kernel⟩
theorem c_above_in (T : Stands K mg "above_in" sAboveIn ["web", "place"]) (B : Blt mg) (cLedFrom : Cal P w K mg base 1 "led_from" (spLedFrom K)) : Cal P w K mg base 2 "above_in" (spAboveIn K) := by
  refine cal_of T scAboveIn (fun vs H Q E h => ?_) (fun f cdv A outer s H vs Q E hr h => ?_)
  · obtain ⟨wv, n, place, ar, rfl, _⟩ := h
    rfl
  · obtain ⟨wv, n, place, ar, rfl, W, R, hpl, q⟩ := h
    obtain ⟨b, ts, hw, hb, harr⟩ := id W
    have n7 := R.n7
    refine ⟨_, pss_cons (ps_set (i := 2) scAboveIn.nd rfl (Or.inr rfl) (pe_d cLedFrom hr (by decide) (by rfl) (pa_cons (pv 0) (pa_cons (pv 1) pa_nil))))
      (pss_one (ps_ret (pe_lc (own := [("k", 3)]) (g := gName 3) rfl scAboveIn.nd (pi_range1 rfl B.range (pa_cons (pe_ix ix_tup (pv 0) pe_int (fun _ _ => rfl)) pa_nil)) (blkOk_by (N := ["web", "place", "here", "k"]) (sc := defScope sAboveIn) (by decide +kernel)) (fun _ _ _ _ _ => pg_name (i := 3) scAboveIn.nd rfl (Or.inl rfl)) (fun _ _ _ _ _ => pts_one (PW.pt (pw_and (pt_cmpR (r := rIn K false) op_in_seq (pv 1) (pe_d cLedFrom hr (by decide) (by rfl) (pa_cons (pv 0) (pa_cons (pv 3) pa_nil))) (by rfl)) (pw_and1 (pt_cmpR (r := rIn K true) op_notIn_seq (pv 3) (pv 2) (by rfl)))))) (fun _ _ _ _ _ => pv 3)))), ?_⟩
    refine ⟨_, rfl, _, rfl, wv, n, place, ar, rfl, W, R, hpl, fun l H1 s1 hl el => ?_⟩
    refine ⟨_, rfl, wv, _, _, _, rfl, rfl, s1.tup hw, atI_nat (j := 0) rfl, _, rfl, by omega, by omega, fun D hD => lc_range (lo := 0) (n := n)
      (fun i H' => Same H1 H' ∧ H' D = some (.lst [])) ⟨same_upd hD, upd_same⟩ ?_ ?_⟩
    · rintro i H' hi ⟨sm, eD⟩
      refine ⟨rfl, _, rfl, _, rfl, _, rfl, wv, n, i, ar, (by show [V.ref wv, V.int (0 + (i : Nat))] ++ [] = _; rw [Int.zero_add]; rfl), W.same (s1.trans sm), R, hi, fun p H2 s2 hp e2 => ?_⟩
      refine ⟨p, _, rfl, .inl (SqL.of e2), rfl, flat_vN _, true, congrArg V.bl (rN_in hpl), iteT ?_⟩
      refine ⟨_, rfl, _, rfl, l, _, rfl, .inl (SqL.of (s2 _ _ (sm _ _ el))), rfl, flat_vN _, false, congrArg V.bl (by rw [Int.zero_add]; show (!inV (vN i) (rN n)) = false; rw [rN_in hi]; rfl), iteF ?_⟩
      exact ⟨sm.trans s2, s2 _ _ eD⟩
    · rintro H' ⟨sm, eD⟩
      exact q D H' (s1.trans sm) (s1.free hD) eD
end
end CK

set_option Elab.async false
set_option linter.all false
set_option maxRecDepth 100000
/-! plain mathematics: greatest common divisors of lists, the totient, the ways -/
namespace CK
def gl (k : Nat) (ds : List Nat) : Nat := ds.foldl Nat.gcd k
theorem gl_cons (k d : Nat) (ds : List Nat) : gl k (d :: ds) = gl (Nat.gcd k d) ds := rfl
theorem gl_snoc (k d : Nat) (ds : List Nat) : gl k (ds ++ [d]) = Nat.gcd (gl k ds) d := by
  unfold gl
  rw [List.foldl_append]
  rfl
theorem gl_dvd : ∀ (ds : List Nat) (k : Nat), gl k ds ∣ k
  | [], k => Nat.dvd_refl k
  | d :: ds, k => Nat.dvd_trans (gl_dvd ds (Nat.gcd k d)) (Nat.gcd_dvd_left k d)
theorem gl_mem : ∀ {ds : List Nat} {k d : Nat}, d ∈ ds → gl k ds ∣ d
  | e :: ds, k, d, h => by
    rcases List.mem_cons.mp h with rfl | h
    · exact Nat.dvd_trans (gl_dvd ds (Nat.gcd k d)) (Nat.gcd_dvd_right k d)
    · exact gl_mem (k := Nat.gcd k e) h
theorem dvd_gl : ∀ {ds : List Nat} {k g : Nat}, g ∣ k → (∀ d ∈ ds, g ∣ d) → g ∣ gl k ds
  | [], _, _, h, _ => h
  | d :: ds, k, g, h, hd => dvd_gl (ds := ds) (Nat.dvd_gcd h (hd d List.mem_cons_self)) fun e he => hd e (List.mem_cons_of_mem _ he)
theorem gl_pos {ds : List Nat} {k : Nat} (h : 0 < k) : 0 < gl k ds := Nat.pos_of_dvd_of_pos (gl_dvd ds k) h
theorem gl_le {ds : List Nat} {k : Nat} (h : 0 < k) : gl k ds ≤ k := Nat.le_of_dvd h (gl_dvd ds k)
theorem gl_take {k i d : Nat} {ds : List Nat} (h : ds[i]? = some d) : gl k (ds.take (i + 1)) = Nat.gcd (gl k (ds.take i)) d := by
  rw [List.take_add_one, h]
  exact gl_snoc _ _ _

/-! how many tuples of m numbers up to num have no divisor in common with it: as the program reckons it -/
def stR (p : Nat) : Nat → Nat → Option Nat
  | 0, l => if l % p = 0 then none else some l
  | n + 1, l => if l % p = 0 then stR p n (l / p) else some l
def ptR (m : Nat) : Nat → Nat → Nat → Nat → Option Nat
  | 0, l, _, f => if 1 < l then none else some f
  | n + 1, l, p, f => if 1 < l then (if l % p = 0 then (stR p 8 l).bind fun l' => ptR m n l' (p + 1) (f / p ^ m * (p ^ m - 1)) else ptR m n l (p + 1) f) else some f
def primeTo (num m : Nat) : Nat := (ptR m 30 num 2 (num ^ m)).getD 0
theorem primeTo_all : ∀ num < 25, ∀ m < 8, (ptR m 30 num 2 (num ^ m)).isSome = true := by decide +kernel
theorem primeTo_eq {num m : Nat} (h : num ≤ 24) (hm : m ≤ 7) : ptR m 30 num 2 (num ^ m) = some (primeTo num m) := by
  have q := primeTo_all num (by omega) m (by omega)
  unfold primeTo
  cases e : ptR m 30 num 2 (num ^ m) with
  | none => rw [e] at q; cases q
  | some z => rfl
theorem primeTo_posA : ∀ num < 25, 0 < num → ∀ m < 8, 0 < m → 0 < primeTo num m := by decide +kernel
theorem primeTo_pos {num m : Nat} (h0 : 0 < num) (h : num ≤ 24) (hm0 : 0 < m) (hm : m ≤ 7) : 0 < primeTo num m := primeTo_posA num (by omega) h0 m (by omega) hm0

/-! in how many ways some hours that are told can be filled up -/
def tl (ts : List (Option Nat)) : List Nat := ts.filterMap id
def ways (k r : Nat) (ts : List (Option Nat)) : Nat :=
  if gl k (tl ts) % r = 0 then (if 0 < ts.length - (tl ts).length then primeTo (gl k (tl ts) / r) (ts.length - (tl ts).length) else if gl k (tl ts) = r then 1 else 0) * (k / gl k (tl ts)) ^ (ts.length - (tl ts).length) else 0
theorem tl_le (ts : List (Option Nat)) : (tl ts).length ≤ ts.length := List.length_filterMap_le _ _
end CK

set_option Elab.async false
set_option linter.all false
set_option maxRecDepth 100000
set_option maxHeartbeats 4000000
namespace CK
open PySem PySem.Spec PyProof.Rows L2
section
variable {P : Program} {w : World} {K : PySem.W.Frag} {mg : Str → Option Value} {base : Heap}

/-! flow_in -/
def spFlowIn (K : PySem.W.Frag) : Sp := fun vs H Q _ => ∃ (wv : Addr) (n place k : Nat) (x : V) (ar : List (Nat × Nat)), vs = [.ref wv, vN k, x, vN place] ∧ Web K H wv n ar ∧ Ring n ar ∧ place < n ∧ ∀ H', Same H H' → Q (vN k) H'
theorem scFlowIn : FnScope ["web", "hours", "dial", "place", "found", "k"] ["web", "hours", "dial", "place"] (defScope sFlowIn) := ⟨rfl, rfl, rfl, by decide +kernel, rfl, by decide +kernel, by decide +kernel⟩
theorem c_flow_in (T : Stands K mg "flow_in" sFlowIn ["web", "hours", "dial", "place"]) (cAboveIn : Cal P w K mg base 2 "above_in" (spAboveIn K)) (cGcd : Cal P w K mg base 1 "gcd" spGcd) : Cal P w K mg base 3 "flow_in" (spFlowIn K) := by
  refine cal_of T scFlowIn (fun vs H Q E h => ?_) (fun f cdv A outer s H vs Q E hr h => ?_)
  · obtain ⟨wv, n, place, k, x, ar, rfl, _⟩ := h
    rfl
  · obtain ⟨wv, n, place, k, x, ar, rfl, W, R, hpl, q⟩ := h
    refine ⟨_, pss_cons (ps_set (i := 4) scFlowIn.nd rfl (Or.inl rfl) (pv 1))
      (pss_cons (ps_for PassesOwn.never rfl (pi_list (pe_d cAboveIn hr (by decide) (by rfl) (pa_cons (pv 0) (pa_cons (pv 3) pa_nil)))) (pg_name (i := 5) scFlowIn.nd rfl (Or.inl rfl)) (pss_one (ps_set (i := 4) scFlowIn.nd rfl (Or.inl rfl) (pe_d cGcd hr (by decide) (by rfl) (pa_cons (pv 4) (pa_cons (pe_ix ix_tup (pv 2) (pv 5) (fun _ _ => rfl)) pa_nil))))))
      (pss_one (ps_ret (pv 4)))), ?_⟩
    refine ⟨_, rfl, _, rfl, _, rfl, wv, n, place, ar, rfl, W, R, hpl, fun p H1 s1 hp e1 => ?_⟩
    refine ⟨p, rfl, ⟨_, SqL.of e1⟩, for_list (K := K) (a := p) (xs := []) (fun i σ H' => H' = H1 ∧ σ[4]? = some (some (vN k))) ⟨rfl, rfl⟩ (fun i σ H' _ ⟨e, _⟩ => by rw [e]; exact SqL.of e1) (fun i x σ H' hx => by simp at hx) ?_⟩
    rintro σ H' ⟨rfl, e⟩
    exact ⟨_, e, q _ s1⟩

/-! mark_of -/
def spMarkOf (K : PySem.W.Frag) : Sp := fun vs H Q _ => ∃ (wv d t : Addr) (n k : Nat) (ar : List (Nat × Nat)) (ds : List Nat), vs = [.ref wv, vN k, .ref d, .ref t] ∧ Web K H wv n ar ∧ Ring n ar ∧ Tn K H d ds ∧ ds.length = n ∧ SqT K H t (rN n) ∧
  ∀ p H', Same H H' → H p = none → H' p = some (.tup [vN k, vN (gl k ds)]) → Q (.ref p) H'
theorem scMarkOf : FnScope ["web", "hours", "dial", "part", "flow", "found", "k"] ["web", "hours", "dial", "part"] (defScope sMarkOf) := ⟨rfl, rfl, rfl, by decide +kernel, rfl, by decide +kernel, by decide +kernel⟩
theorem c_mark_of (T : Stands K mg "mark_of" sMarkOf ["web", "hours", "dial", "part"]) (B : Blt mg) (cFlowIn : Cal P w K mg base 3 "flow_in" (spFlowIn K)) (cGcd : Cal P w K mg base 1 "gcd" spGcd) : Cal P w K mg base 4 "mark_of" (spMarkOf K) := by
  refine cal_of T scMarkOf (fun vs H Q E h => ?_) (fun f cdv A outer s H vs Q E hr h => ?_)
  · obtain ⟨wv, d, t, n, k, ar, ds, rfl, _⟩ := h
    rfl
  · obtain ⟨wv, d, t, n, k, ar, ds, rfl, W, R, hd, hl, ht, q⟩ := h
    have n2 := R.n2
    refine ⟨_, pss_cons (ps_set (i := 4) scMarkOf.nd rfl (Or.inl rfl) (pe_d cFlowIn hr (by decide) (by rfl) (pa_cons (pv 0) (pa_cons (pv 1) (pa_cons (pv 2) (pa_cons (pe_ix ix_tup (pv 3) pe_int (fun _ _ => rfl)) pa_nil))))))
      (pss_cons (ps_if (pt_cmpR op_eq (pe_callB call_len_seq (by rfl) B.len PySem.boot_len (pa_cons (pv 3) pa_nil)) pe_int (nomark _)) (pss_one (ps_ret (pe_tup (pa_cons (pv 4) (pa_cons (pe_op op_mod (pe_ix ix_tup (pv 2) (pe_ix ix_tup (pv 3) pe_int (fun _ _ => rfl)) (fun _ _ => rfl)) (pv 4)) pa_nil))))) pss_nil)
      (pss_cons (ps_set (i := 5) scMarkOf.nd rfl (Or.inl rfl) (pv 4))
      (pss_cons (ps_for PassesOwn.never rfl (pi_tup (pv 3)) (pg_name (i := 6) scMarkOf.nd rfl (Or.inl rfl)) (pss_one (ps_set (i := 5) scMarkOf.nd rfl (Or.inl rfl) (pe_d cGcd hr (by decide) (by rfl) (pa_cons (pv 5) (pa_cons (pe_ix ix_tup (pv 2) (pv 6) (fun _ _ => rfl)) pa_nil))))))
      (pss_one (ps_ret (pe_tup (pa_cons (pv 4) (pa_cons (pv 5) pa_nil)))))))), ?_⟩
    refine ⟨_, rfl, _, rfl, _, rfl, _, rfl, t, _, _, _, rfl, rfl, ht, atI_nat (j := 0) (rN_at (by omega)), wv, n, 0, k, _, ar, rfl, W, R, by omega, fun H1 s1 => ?_⟩
    refine ⟨_, rfl, t, _, rfl, .inr (s1.tup ht), rfl, false, congrArg V.bl (eq_intF (by rw [rN_len]; omega)), iteF ?_⟩
    refine ⟨_, rfl, _, rfl, t, rfl, ⟨_, s1.tup ht⟩, for_tup (K := K) (a := t) (xs := rN n)
      (fun i σ H' => H' = H1 ∧ ∃ y, σ = [some (.ref wv), some (vN k), some (.ref d), some (.ref t), some (vN k), some (vN (gl k (ds.take i))), y]) ⟨rfl, none, rfl⟩ (fun i σ H' _ ⟨e, _⟩ => by rw [e]; exact s1.tup ht) ?_ ?_⟩
    · rintro i x σ H' hx ⟨rfl, y, rfl⟩
      obtain ⟨hi, rfl⟩ := rN_get hx
      have hdi : ds[i]? = some ds[i] := List.getElem?_eq_getElem (by omega)
      refine ⟨_, rfl, _, rfl, _, rfl, d, _, _, _, rfl, rfl, s1.tup hd, atI_nat (v := vN ds[i]) (by rw [List.getElem?_map, hdi] <;> rfl), _, _, rfl, ?_⟩
      refine ⟨rfl, some (vN i), ?_⟩
      rw [gl_take hdi]
      rfl
    · rintro σ H' ⟨rfl, y, rfl⟩
      rw [rN_len, List.take_of_length_le (by omega)]
      refine ⟨_, rfl, _, rfl, by show 2 ≤ sizeLine; decide, fun p hp => ?_⟩
      exact q p _ (s1.trans (same_upd hp)) (s1.free hp) upd_same

/-! marks_in, marks, can_come -/
def spMarksIn (K : PySem.W.Frag) : Sp := fun vs H Q _ => ∃ (wv d : Addr) (n k : Nat) (ar : List (Nat × Nat)) (ds : List Nat), vs = [.ref wv, vN k, .ref d] ∧ Web K H wv n ar ∧ Ring n ar ∧ Tn K H d ds ∧ ds.length = n ∧
  ∀ p m H', Same H H' → H p = none → H' p = some (.lst [.ref m]) → H' m = some (.tup [vN k, vN (gl k ds)]) → Q (.ref p) H'
theorem scMarksIn : FnScope ["web", "hours", "dial", "part"] ["web", "hours", "dial"] (defScope sMarksIn) := ⟨rfl, rfl, rfl, by decide +kernel, rfl, by decide +kernel, by decide +kernel⟩
theorem c_marks_in (T : Stands K mg "marks_in" sMarksIn ["web", "hours", "dial"]) (cPartsIn : Cal P w K mg base 2 "parts_in" (spPartsIn K)) (cMarkOf : Cal P w K mg base 4 "mark_of" (spMarkOf K)) : Cal P w K mg base 5 "marks_in" (spMarksIn K) := by
  refine cal_of T scMarksIn (fun vs H Q E h => ?_) (fun f cdv A outer s H vs Q E hr h => ?_)
  · obtain ⟨wv, d, n, k, ar, ds, rfl, _⟩ := h
    rfl
  · obtain ⟨wv, d, n, k, ar, ds, rfl, W, R, hd, hl, q⟩ := h
    refine ⟨_, pss_one (ps_ret (pe_lc (own := [("part", 3)]) (g := gName 3) rfl scMarksIn.nd (pi_list (pe_d cPartsIn hr (by decide) (by rfl) (pa_cons (pv 0) pa_nil))) (blkOk_by (N := ["web", "hours", "dial", "part"]) (sc := defScope sMarksIn) (by decide +kernel)) (fun _ _ _ _ _ => pg_name (i := 3) scMarksIn.nd rfl (Or.inl rfl)) (fun _ _ _ _ _ => pts_nil) (fun _ _ _ _ _ => pe_d cMarkOf hr (by decide) (by rfl) (pa_cons (pv 0) (pa_cons (pv 1) (pa_cons (pv 2) (pa_cons (pv 3) pa_nil))))))), ?_⟩
    refine ⟨_, rfl, wv, n, ar, rfl, W, R, fun a t H1 s1 ha0 ht0 ea et => ?_⟩
    refine ⟨a, rfl, ⟨_, SqL.of ea⟩, fun D hD => lc_list (K := K) (a := a) (xs := [.ref t])
      (fun i H' => Same H1 H' ∧ ((i = 0 ∧ H' D = some (.lst [])) ∨ (i = 1 ∧ ∃ m, m ≠ D ∧ H' D = some (.lst [.ref m]) ∧ H' m = some (.tup [vN k, vN (gl k ds)])))) ⟨same_upd hD, .inl ⟨rfl, upd_same⟩⟩ (fun i H' _ p => SqL.of (p.1 _ _ ea)) ?_ ?_⟩
    · rintro i x H' hx ⟨sm, hh⟩
      have h0 : i = 0 ∧ x = .ref t := by
        match i, hx with
        | 0, hx => exact ⟨rfl, (Option.some.inj hx).symm⟩
        | i + 1, hx => simp at hx
      obtain ⟨rfl, rfl⟩ := h0
      have eD : H' D = some (.lst []) := by
        rcases hh with ⟨_, h⟩ | ⟨h, _⟩
        · exact h
        · cases h
      have s2 := s1.trans sm
      refine ⟨rfl, _, rfl, _, rfl, _, rfl, _, rfl, wv, d, t, n, k, ar, ds, rfl, W.same s2, R, s2.tup hd, hl, SqT.of (sm _ _ et), fun m H2 s3 hm em => ?_⟩
      have hmD : m ≠ D := (ne_of_none eD hm).symm
      refine ⟨_, s3 _ _ eD, by show 0 < sizeLine; decide, (sm.trans s3).mut hD, .inr ⟨rfl, m, hmD, upd_same, ?_⟩⟩
      rw [upd_ne hmD]
      exact em
    · rintro H' ⟨sm, hh⟩
      rcases hh with ⟨h, _⟩ | ⟨_, m, _, eD, em⟩
      · cases h
      · exact q D m H' (s1.trans sm) (s1.free hD) eD em
def spMarks (K : PySem.W.Frag) : Sp := fun vs H Q _ => ∃ (wv d : Addr) (n k : Nat) (ar : List (Nat × Nat)) (ds : List Nat), vs = [.ref wv, vN k, .ref d] ∧ Web K H wv n ar ∧ Ring n ar ∧ 2 ≤ k ∧ k ≤ 24 ∧ Tn K H d ds ∧ ds.length = n ∧ (∀ c ∈ ds, c < k) ∧
  ∀ p m H', Same H H' → H p = none → H' p = some (.tup [.ref m]) → H' m = some (.tup [vN k, vN (gl k ds)]) → Q (.ref p) H'
theorem scMarks : FnScope ["web", "hours", "dial"] ["web", "hours", "dial"] (defScope sMarks) := ⟨rfl, rfl, rfl, by decide +kernel, rfl, by decide +kernel, by decide +kernel⟩
theorem c_marks (T : Stands K mg "marks" sMarks ["web", "hours", "dial"]) (B : Blt mg) (cNeedAll : Cal P w K mg base 4 "need_all" (spNeedAll K)) (cMarksIn : Cal P w K mg base 5 "marks_in" (spMarksIn K)) : Cal P w K mg base 6 "marks" (spMarks K) := by
  refine cal_of T scMarks (fun vs H Q E h => ?_) (fun f cdv A outer s H vs Q E hr h => ?_)
  · obtain ⟨wv, d, n, k, ar, ds, rfl, _⟩ := h
    rfl
  · obtain ⟨wv, d, n, k, ar, ds, rfl, W, R, h2, h24, hd, hl, hk, q⟩ := h
    refine ⟨_, pss_cons (ps_expr (pe_d cNeedAll hr (by decide) (by rfl) (pa_cons (pv 0) (pa_cons (pv 1) (pa_cons (pv 2) pa_nil)))))
      (pss_one (ps_ret (pe_tupleOf (by rfl) B.tuple (pe_d cMarksIn hr (by decide) (by rfl) (pa_cons (pv 0) (pa_cons (pv 1) (pa_cons (pv 2) pa_nil))))))), ?_⟩
    refine ⟨_, rfl, _, rfl, _, rfl, wv, d, n, k, ar, ds, rfl, W, R, h2, h24, hd, hl, hk, fun H1 s1 => ?_⟩
    refine ⟨_, rfl, _, rfl, _, rfl, wv, d, n, k, ar, ds, rfl, W.same s1, R, s1.tup hd, hl, fun p m H2 s2 hp ep em => ?_⟩
    refine .inl ⟨p, _, rfl, SqL.of ep, fun t ht => ?_⟩
    have s3 := s1.trans s2
    refine q t m _ (s3.trans (same_upd ht)) (s3.free ht) upd_same (same_upd ht _ _ em)
theorem eqv_marks (k a b : Nat) : PyData.eqv (.list [.tuple [.int (k : Int), .int (a : Int)]]) (.list [.tuple [.int (k : Int), .int (b : Int)]]) = decide (a = b) := by
  simp only [PyData.eqv, PyData.eqvAll, Bool.and_true, beq_self_eq_true, Bool.true_and]
  by_cases h : a = b
  · subst h
    simp
  · have h' : ¬ (a : Int) = (b : Int) := by omega
    simp [h, h']
def spCanCome (K : PySem.W.Frag) : Sp := fun vs H Q _ => ∃ (wv d d2 : Addr) (n k : Nat) (ar : List (Nat × Nat)) (ds ds2 : List Nat), vs = [.ref wv, vN k, .ref d, .ref d2] ∧ Web K H wv n ar ∧ Ring n ar ∧ 2 ≤ k ∧ k ≤ 24 ∧ Tn K H d ds ∧ ds.length = n ∧ (∀ c ∈ ds, c < k) ∧ Tn K H d2 ds2 ∧ ds2.length = n ∧ (∀ c ∈ ds2, c < k) ∧
  ∀ H', Same H H' → Q (.bl (decide (gl k ds = gl k ds2))) H'
theorem scCanCome : FnScope ["web", "hours", "one", "other"] ["web", "hours", "one", "other"] (defScope sCanCome) := ⟨rfl, rfl, rfl, by decide +kernel, rfl, by decide +kernel, by decide +kernel⟩
theorem c_can_come (T : Stands K mg "can_come" sCanCome ["web", "hours", "one", "other"]) (cNeedAll : Cal P w K mg base 4 "need_all" (spNeedAll K)) (cNeedDial : Cal P w K mg base 2 "need_dial" (spNeedDial K)) (cMarksIn : Cal P w K mg base 5 "marks_in" (spMarksIn K)) : Cal P w K mg base 6 "can_come" (spCanCome K) := by
  refine cal_of T scCanCome (fun vs H Q E h => ?_) (fun f cdv A outer s H vs Q E hr h => ?_)
  · obtain ⟨wv, d, d2, n, k, ar, ds, ds2, rfl, _⟩ := h
    rfl
  · obtain ⟨wv, d, d2, n, k, ar, ds, ds2, rfl, W, R, h2, h24, hd, hl, hk, hd2, hl2, hk2, q⟩ := h
    refine ⟨_, pss_cons (ps_expr (pe_d cNeedAll hr (by decide) (by rfl) (pa_cons (pv 0) (pa_cons (pv 1) (pa_cons (pv 2) pa_nil)))))
      (pss_cons (ps_expr (pe_d cNeedDial hr (by decide) (by rfl) (pa_cons (pv 0) (pa_cons (pv 1) (pa_cons (pv 3) pa_nil)))))
      (pss_one (ps_ret (pe_cmpR (op_eqD hr.units) (pe_d cMarksIn hr (by decide) (by rfl) (pa_cons (pv 0) (pa_cons (pv 1) (pa_cons (pv 2) pa_nil)))) (pe_d cMarksIn hr (by decide) (by rfl) (pa_cons (pv 0) (pa_cons (pv 1) (pa_cons (pv 3) pa_nil)))) (nomark _))))), ?_⟩
    refine ⟨_, rfl, _, rfl, _, rfl, wv, d, n, k, ar, ds, rfl, W, R, h2, h24, hd, hl, hk, fun H1 s1 => ?_⟩
    obtain ⟨b, ts, hw, _⟩ := id W
    refine ⟨_, rfl, _, rfl, _, rfl, wv, d2, n, k, _, ds2, rfl, s1.tup hw, s1.tup hd2, hl2, hk2, fun H2 s2 => ?_⟩
    have s12 := s1.trans s2
    refine ⟨_, rfl, _, rfl, _, rfl, wv, d, n, k, ar, ds, rfl, W.same s12, R, s12.tup hd, hl, fun p m H3 s3 hp ep em => ?_⟩
    have s13 := s12.trans s3
    refine ⟨_, rfl, _, rfl, _, rfl, wv, d2, n, k, ar, ds2, rfl, W.same s13, R, s13.tup hd2, hl2, fun p' m' H4 s4 hp' ep' em' => ?_⟩
    refine ⟨_, _, .lst (SqL.of (s4 _ _ ep)) (.cons (.tup (SqT.of (s4 _ _ em)) (.cons (.int _) (.cons (.int _) .nil))) .nil), .lst (SqL.of ep') (.cons (.tup (SqT.of em') (.cons (.int _) (.cons (.int _) .nil))) .nil), rfl, rfl, ?_⟩
    rw [eqv_marks]
    exact q _ (s13.trans s4)

/-! prime_to -/
def spPrimeTo : Sp := fun vs H Q _ => ∃ (num m : Nat), vs = [vN num, vN m] ∧ 0 < num ∧ num ≤ 24 ∧ m ≤ 7 ∧ Q (vN (primeTo num m)) H
theorem scPrimeTo : FnScope ["number", "many", "found", "k", "left", "prime", "size"] ["number", "many"] (defScope sPrimeTo) := ⟨rfl, rfl, rfl, by decide +kernel, rfl, by decide +kernel, by decide +kernel⟩
theorem pow_bd {p m : Nat} (hp : p ≤ 32) (hm : m ≤ 7) : p ^ m ≤ 2 ^ 35 := by
  have h1 : p ^ m ≤ 32 ^ m := Nat.pow_le_pow_left hp m
  have h2 : (32 : Nat) ^ m ≤ 32 ^ 7 := Nat.pow_le_pow_right (by decide) hm
  have h3 : (32 : Nat) ^ 7 = 2 ^ 35 := by decide
  omega
theorem c_prime_to (T : Stands K mg "prime_to" sPrimeTo ["number", "many"]) (B : Blt mg) : Cal P w K mg base 1 "prime_to" spPrimeTo := by
  refine cal_of T scPrimeTo (fun vs H Q E h => ?_) (fun f cdv A outer s H vs Q E hr h => ?_)
  · obtain ⟨num, m, rfl, _⟩ := h
    rfl
  · obtain ⟨num, m, rfl, h0, h24, h7, q⟩ := h
    refine ⟨_, pss_cons (ps_set (i := 2) scPrimeTo.nd rfl (Or.inl rfl) pe_int)
      (pss_cons (ps_for PassesOwn.never rfl (pi_range1 rfl B.range (pa_cons (pv 1) pa_nil)) (pg_name (i := 3) scPrimeTo.nd rfl (Or.inl rfl)) (pss_one (ps_aug (i := 2) scPrimeTo.nd rfl (Or.inl rfl) (pv 0) iop_mul)))
      (pss_cons (ps_par (i := 4) (j := 5) rfl scPrimeTo.nd rfl rfl (by decide) rfl rfl (pa_cons (pv 0) (pa_cons pe_int pa_nil)) (by rfl))
      (pss_cons (ps_while PassesOwn.never (pt_cmpR op_gt (pv 4) pe_int (nomark _)) (pss_cons (ps_if (pt_cmpR op_eq (pe_op op_mod (pv 4) (pv 5)) pe_int (nomark _)) (pss_cons (ps_while PassesOwn.never (pt_cmpR op_eq (pe_op op_mod (pv 4) (pv 5)) pe_int (nomark _)) (pss_one (ps_aug (i := 4) scPrimeTo.nd rfl (Or.inl rfl) (pv 5) iop_fdiv)))
          (pss_cons (ps_set (i := 6) scPrimeTo.nd rfl (Or.inl rfl) pe_int)
          (pss_cons (ps_for PassesOwn.never rfl (pi_range1 rfl B.range (pa_cons (pv 1) pa_nil)) (pg_name (i := 3) scPrimeTo.nd rfl (Or.inl rfl)) (pss_one (ps_aug (i := 6) scPrimeTo.nd rfl (Or.inl rfl) (pv 5) iop_mul)))
          (pss_one (ps_set (i := 2) scPrimeTo.nd rfl (Or.inl rfl) (pe_op op_mul (pe_op op_fdivW (pv 2) (pv 6)) (pe_op op_sub (pv 6) pe_int))))))) pss_nil)
        (pss_one (ps_aug (i := 5) scPrimeTo.nd rfl (Or.inl rfl) pe_int ip_add))))
      (pss_one (ps_ret (pv 2)))))), ?_⟩
    refine ⟨_, rfl, m, rfl, by omega, by omega, for_range (lo := 0) (n := m) (fun i σ H' => H' = H ∧ ∃ y, σ = [some (vN num), some (vN m), some (vN (num ^ i)), y, none, none, none]) ⟨rfl, none, rfl⟩ ?_ ?_⟩
    · rintro i σ H' hi ⟨rfl, y, rfl⟩
      refine ⟨_, rfl, _, rfl, _, _, rfl, rfl, .inr ⟨by omega, by omega⟩, rfl, some (.int (0 + (i : Nat))), ?_⟩
      rw [Nat.pow_succ, show vN (num ^ i * num) = V.int ((num ^ i : Nat) * (num : Int)) from congrArg V.int (Int.natCast_mul _ _)]
      rfl
    · rintro σ H' ⟨rfl, y, rfl⟩
      refine ⟨_, rfl, _, _, rfl, ?_⟩
      refine ⟨fun fu σ H2 => H2 = H' ∧ ∃ (l p f : Nat) (y3 y6 : Option V), σ = [some (vN num), some (vN m), some (vN f), y3, some (vN l), some (vN p), y6] ∧ ptR m fu l p f = some (primeTo num m) ∧ 0 < l ∧ l ≤ 24 ∧ 2 ≤ p ∧ p + fu = 32 ∧ f ≤ 2 ^ 35,
        ⟨30, rfl, num, 2, num ^ m, y, none, rfl, primeTo_eq h24 h7, h0, h24, by decide, rfl, pow_bd (by omega) h7⟩, ?_⟩
      rintro fu σ H2 ⟨rfl, l, p, f, y3, y6, rfl, e, hl0, hl24, hp2, hpf, hf⟩
      by_cases hl : 1 < l
      · refine ⟨_, rfl, _, _, rfl, rfl, true, congrArg V.bl (decide_eq_true (by omega)), iteT ?_⟩
        cases fu with
        | zero =>
          unfold ptR at e
          rw [if_pos hl] at e
          cases e
        | succ fu =>
          unfold ptR at e
          rw [if_pos hl] at e
          refine ⟨_, fun σ' H'' z => z, ?_⟩
          refine ⟨_, rfl, _, rfl, _, _, rfl, rfl, by omega, rfl, ?_⟩
          by_cases hd : l % p = 0
          · rw [if_pos hd] at e
            obtain ⟨l', e1, e2⟩ := Option.bind_eq_some_iff.mp e
            refine ⟨true, congrArg V.bl (eq_int (by omega)), iteT ?_⟩
            refine ⟨fun fu2 σ H3 => H3 = H2 ∧ ∃ l2 : Nat, σ = [some (vN num), some (vN m), some (vN f), y3, some (vN l2), some (vN p), y6] ∧ stR p fu2 l2 = some l' ∧ 0 < l2 ∧ l2 ≤ 24, ⟨8, rfl, l, rfl, e1, hl0, hl24⟩, ?_⟩
            rintro fu2 σ H3 ⟨rfl, l2, rfl, e3, hl20, hl224⟩
            refine ⟨_, rfl, _, rfl, _, _, rfl, rfl, by omega, rfl, ?_⟩
            by_cases hd2 : l2 % p = 0
            · refine ⟨true, congrArg V.bl (eq_int (by omega)), iteT ?_⟩
              cases fu2 with
              | zero =>
                unfold stR at e3
                rw [if_pos hd2] at e3
                cases e3
              | succ fu2 =>
                unfold stR at e3
                rw [if_pos hd2] at e3
                refine ⟨_, fun σ' H'' z => z, ?_⟩
                have hp0 : 0 < p := by omega
                have hple : p ≤ l2 := Nat.le_of_dvd hl20 (Nat.dvd_of_mod_eq_zero hd2)
                refine ⟨_, rfl, _, rfl, _, _, rfl, rfl, ⟨by omega, by omega⟩, fu2, Nat.lt_succ_self _, rfl, l2 / p, rfl, e3, Nat.div_pos hple hp0, Nat.le_trans (Nat.div_le_self _ _) hl224⟩
            · have el : l' = l2 := by
                cases fu2 with
                | zero =>
                  unfold stR at e3
                  rw [if_neg hd2] at e3
                  exact (Option.some.inj e3).symm
                | succ fu2 =>
                  unfold stR at e3
                  rw [if_neg hd2] at e3
                  exact (Option.some.inj e3).symm
              subst el
              refine ⟨false, congrArg V.bl (eq_intF (by omega)), iteF ?_⟩
              refine ⟨_, rfl, m, rfl, by omega, by omega, for_range (lo := 0) (n := m) (fun i σ H4 => H4 = H3 ∧ ∃ y, σ = [some (vN num), some (vN m), some (vN f), y, some (vN l'), some (vN p), some (vN (p ^ i))]) ⟨rfl, y3, rfl⟩ ?_ ?_⟩
              · rintro i σ H4 hi ⟨rfl, y, rfl⟩
                refine ⟨_, rfl, _, rfl, _, _, rfl, rfl, .inr ⟨by omega, by omega⟩, rfl, some (.int (0 + (i : Nat))), ?_⟩
                rw [Nat.pow_succ, show vN (p ^ i * p) = V.int ((p ^ i : Nat) * (p : Int)) from congrArg V.int (Int.natCast_mul _ _)]
                rfl
              · rintro σ H4 ⟨rfl, y, rfl⟩
                have hs0 : 0 < p ^ m := Nat.pow_pos (by omega)
                have hsb := pow_bd (p := p) (by omega) h7
                have hq1 : f / p ^ m ≤ f := Nat.div_le_self _ _
                have hq2 : f / p ^ m * (p ^ m - 1) ≤ f := Nat.le_trans (Nat.mul_le_mul_left _ (Nat.sub_le _ _)) (Nat.div_mul_le_self _ _)
                have ecast : (f : Int) / ((p ^ m : Nat) : Int) * (((p ^ m : Nat) : Int) - 1) = ((f / p ^ m * (p ^ m - 1) : Nat) : Int) := by
                  rw [Int.natCast_mul, Int.natCast_ediv, Int.natCast_sub (show 1 ≤ p ^ m from hs0)]
                  rfl
                refine ⟨_, rfl, _, rfl, _, _, rfl, rfl, wide_div (b := 64) (by omega) (by omega) (by decide) (by decide), _, rfl, _, _, rfl, rfl, _, _, rfl, rfl, .inl ⟨?_, ?_⟩, ?_⟩
                · have : 0 ≤ (f : Int) / ((p ^ m : Nat) : Int) := Int.ediv_nonneg (by omega) (by omega)
                  omega
                · have : (f : Int) / ((p ^ m : Nat) : Int) = ((f / p ^ m : Nat) : Int) := (Int.natCast_ediv _ _).symm
                  omega
                refine ⟨_, rfl, _, _, rfl, rfl, fu, Nat.lt_succ_self _, rfl, l', p + 1, f / p ^ m * (p ^ m - 1), y, some (vN (p ^ m)), ?_, e2, hl20, hl224, by omega, by omega, by omega⟩
                show [some (vN num), some (vN m), some (V.int ((f : Int) / ((p ^ m : Nat) : Int) * (((p ^ m : Nat) : Int) - 1))), y, some (vN l'), some (V.int ((p : Int) + 1)), some (vN (p ^ m))] = _
                rw [ecast]
                rfl
          · rw [if_neg hd] at e
            refine ⟨false, congrArg V.bl (eq_intF (by omega)), iteF ?_⟩
            exact ⟨_, rfl, _, _, rfl, rfl, fu, Nat.lt_succ_self _, rfl, l, p + 1, f, y3, y6, rfl, e, hl0, hl24, by omega, by omega, hf⟩
      · refine ⟨_, rfl, _, _, rfl, rfl, false, congrArg V.bl (decide_eq_false (by omega)), iteF ?_⟩
        have ef : f = primeTo num m := by
          cases fu with
          | zero =>
            unfold ptR at e
            rw [if_neg hl] at e
            exact Option.some.inj e
          | succ fu =>
            unfold ptR at e
            rw [if_neg hl] at e
            exact Option.some.inj e
        subst ef
        exact ⟨_, rfl, q⟩
end
end CK

set_option Elab.async false
set_option linter.all false
set_option maxRecDepth 100000
set_option maxHeartbeats 4000000
namespace CK
open PySem PySem.Spec PyProof.Rows L2

/-- an hour that is told, or None -/
def vO : Option Nat → V
  | none => .non
  | some x => vN x
/-- a list or a tuple -/
def Sq (K : PySem.W.Frag) (H : Hp) (a : Addr) (xs : List V) : Prop := SqL K H a xs ∨ SqT K H a xs
theorem Sq.same {K : PySem.W.Frag} {H H' : Hp} {a : Addr} {xs : List V} (e : Same H H') (h : Sq K H a xs) : Sq K H' a xs := h.elim (fun z => .inl (e.seq z)) fun z => .inr (e.tup z)
theorem rIx_of {K : PySem.W.Frag} {H : Hp} {d : Addr} {xs : List V} {i : Int} {v : V} {Q : VK} (h : Sq K H d xs) (ha : atI xs i = some v) (q : Q v H) : rIx K (.ref d) (.int i) H Q := by
  rcases h with h | h
  · exact .inl ⟨d, xs, i, v, rfl, rfl, h, ha, q⟩
  · exact .inr (.inl ⟨d, xs, i, v, rfl, rfl, h, ha, q⟩)
theorem tl_snoc (ts : List (Option Nat)) (o : Option Nat) : tl (ts ++ [o]) = tl ts ++ o.toList := by
  unfold tl
  rw [List.filterMap_append]
  cases o <;> rfl
theorem tl_take {ts : List (Option Nat)} {i : Nat} {o : Option Nat} (h : ts[i]? = some o) : tl (ts.take (i + 1)) = tl (ts.take i) ++ o.toList := by
  rw [List.take_add_one, h]
  exact tl_snoc _ _
section
variable {P : Program} {w : World} {K : PySem.W.Frag} {mg : Str → Option Value} {base : Heap}

/-! ways_of -/
def spWaysOf (K : PySem.W.Frag) : Sp := fun vs H Q _ => ∃ (m t d : Addr) (n k r : Nat) (ts : List (Option Nat)), vs = [vN k, .ref m, .ref t, .ref d] ∧ SqT K H m [vN k, vN r] ∧ SqT K H t (rN n) ∧ Sq K H d (ts.map vO) ∧ ts.length = n ∧ 2 ≤ n ∧ n ≤ 7 ∧ 0 < k ∧ k ≤ 24 ∧ 0 < r ∧ r ≤ 24 ∧
  ∀ H', Same H H' → Q (vN (ways k r ts)) H'
theorem scWaysOf : FnScope ["hours", "mark", "part", "dial", "flow", "rest", "k", "told", "common", "one", "free", "found"] ["hours", "mark", "part", "dial"] (defScope sWaysOf) := ⟨rfl, rfl, rfl, by decide +kernel, rfl, by decide +kernel, by decide +kernel⟩
theorem c_ways_of (T : Stands K mg "ways_of" sWaysOf ["hours", "mark", "part", "dial"]) (B : Blt mg) (cGcd : Cal P w K mg base 1 "gcd" spGcd) (cPrimeTo : Cal P w K mg base 1 "prime_to" spPrimeTo) : Cal P w K mg base 2 "ways_of" (spWaysOf K) := by
  refine cal_of T scWaysOf (fun vs H Q E h => ?_) (fun f cdv A outer s H vs Q E hr h => ?_)
  · obtain ⟨m, t, d, n, k, r, ts, rfl, _⟩ := h
    rfl
  · obtain ⟨m, t, d, n, k, r, ts, rfl, hm, ht, hd, hl, n2, n7, hk0, hk, hr0, hrk, q⟩ := h
    refine ⟨_, pss_cons (ps_asg (pv 1) (pg_tup rfl (pgs_cons (pg_name (i := 4) scWaysOf.nd rfl (Or.inl rfl)) (pgs_cons (pg_name (i := 5) scWaysOf.nd rfl (Or.inl rfl)) pgs_nil))))
      (pss_cons (ps_setLc (i := 7) (own := [("k", 6)]) (g := gName 6) rfl scWaysOf.nd rfl rfl (sw_true rfl rfl rfl (by decide +kernel)) (pi_tup (pv 2)) (blkOk_by (N := ["hours", "mark", "part", "dial", "flow", "rest", "k", "told", "common", "one", "free", "found"]) (sc := defScope sWaysOf) (by decide +kernel)) (fun _ _ _ _ _ => pg_name (i := 6) scWaysOf.nd rfl (Or.inl rfl)) (fun _ _ _ _ _ => pts_one (pt_cmpR op_notN (pe_ix (r := rIx K) ix_seq (pv 3) (pv 6) (fun _ _ => rfl)) pe_non (nomark _))) (fun _ _ _ _ _ => pe_ix (r := rIx K) ix_seq (pv 3) (pv 6) (fun _ _ => rfl)))
      (pss_cons (ps_if (pt_cmpR op_eq (pe_callB call_len_seq (by rfl) B.len PySem.boot_len (pa_cons (pv 2) pa_nil)) pe_int (nomark _)) (pss_cons (ps_if (pt_cmpR (op_eqD hr.units) (pv 7) (pe_lst pa_nil) (nomark _)) (pss_one (ps_ret (pe_op op_fdiv (pv 0) (pv 4)))) pss_nil)
        (pss_one (ps_ret (pe_callTy call_int1 (by rfl) B.int b_int (pa_cons (pe_cmpR op_eq (pe_op op_mod (pe_ix ix_list (pv 7) pe_int (fun _ _ => rfl)) (pv 4)) (pv 5) (nomark _)) pa_nil))))) pss_nil)
      (pss_cons (ps_set (i := 8) scWaysOf.nd rfl (Or.inl rfl) (pv 4))
      (pss_cons (ps_for PassesOwn.never rfl (pi_list (pv 7)) (pg_name (i := 9) scWaysOf.nd rfl (Or.inl rfl)) (pss_one (ps_set (i := 8) scWaysOf.nd rfl (Or.inl rfl) (pe_d cGcd hr (by decide) (by rfl) (pa_cons (pv 8) (pa_cons (pv 9) pa_nil))))))
      (pss_cons (ps_if (pt_cmpR op_ne (pe_op op_mod (pv 8) (pv 5)) pe_int (nomark _)) (pss_one (ps_ret pe_int)) pss_nil)
      (pss_cons (ps_set (i := 10) scWaysOf.nd rfl (Or.inl rfl) (pe_op op_sub (pe_callB call_len_seq (by rfl) B.len PySem.boot_len (pa_cons (pv 2) pa_nil)) (pe_callB call_len_seq (by rfl) B.len PySem.boot_len (pa_cons (pv 7) pa_nil))))
      (C8.pss_cut (ps_set (i := 11) scWaysOf.nd rfl (Or.inl rfl) (pe_ifExp (pt_cmpR op_gt (pv 10) pe_int (nomark _)) (pe_d cPrimeTo hr (by decide) (by rfl) (pa_cons (pe_op op_fdiv (pv 8) (pv 5)) (pa_cons (pv 10) pa_nil))) (pe_callTy call_int1 (by rfl) B.int b_int (pa_cons (pe_cmpR op_eq (pv 8) (pv 5) (nomark _)) pa_nil))))
      (pss_cons (ps_for PassesOwn.never rfl (pi_range1 rfl B.range (pa_cons (pv 10) pa_nil)) (pg_name (i := 6) scWaysOf.nd rfl (Or.inl rfl)) (pss_one (ps_aug (i := 11) scWaysOf.nd rfl (Or.inl rfl) (pe_op op_fdiv (pv 0) (pv 8)) iop_mul)))
      (pss_one (ps_ret (pv 11))))))))))), ?_⟩
    refine ⟨_, rfl, m, _, rfl, hm, rfl, _, _, rfl, _, _, rfl, rfl, ?_⟩
    refine ⟨_, rfl, t, rfl, ⟨_, ht⟩, fun D hD => lc_tup (K := K) (a := t) (xs := rN n) (fun i H' => Same H H' ∧ H' D = some (.lst ((tl (ts.take i)).map vN))) ⟨same_upd hD, upd_same⟩ (fun i H' _ p => p.1.tup ht) ?_ ?_⟩
    · rintro i x H' hx ⟨sm, eD⟩
      obtain ⟨hi, rfl⟩ := rN_get hx
      have hti : ts[i]? = some ts[i] := List.getElem?_eq_getElem (by omega)
      have hat : atI (ts.map vO) ((i : Nat) : Int) = some (vO ts[i]) := atI_nat (by rw [List.getElem?_map, hti] <;> rfl)
      have hll : ((tl (ts.take i)).map vN).length < sizeLine := by
        rw [List.length_map]
        have := tl_le (ts.take i)
        rw [List.length_take] at this
        exact small1000 (by omega)
      refine ⟨rfl, _, rfl, _, rfl, rIx_of (hd.same sm) hat ⟨rfl, ?_⟩⟩
      cases eo : ts[i] with
      | none =>
        refine ⟨false, rfl, iteF ⟨sm, ?_⟩⟩
        rw [tl_take hti, eo]
        simpa using eD
      | some x =>
        refine ⟨true, rfl, iteT ?_⟩
        refine ⟨_, rfl, _, rfl, rIx_of (hd.same sm) hat ⟨_, eD, hll, sm.mut hD, ?_⟩⟩
        rw [upd_same, tl_take hti, eo, List.map_append]
        rfl
    rintro H1 ⟨s1, eD⟩
    rw [rN_len, List.take_of_length_le (by omega)] at eD
    have hle := tl_le ts
    refine ⟨_, rfl, t, _, rfl, .inr (s1.tup ht), rfl, false, congrArg V.bl (eq_intF (by rw [rN_len]; omega)), iteF ?_⟩
    refine ⟨_, rfl, ?_⟩
    refine ⟨_, rfl, D, rfl, ⟨_, SqL.of eD⟩, for_list (K := K) (a := D) (xs := (tl ts).map vN)
      (fun i σ H' => H' = H1 ∧ ∃ y, σ = [some (vN k), some (.ref m), some (.ref t), some (.ref d), some (vN k), some (vN r), none, some (.ref D), some (vN (gl k ((tl ts).take i))), y, none, none]) ⟨rfl, none, rfl⟩ (fun i σ H' _ ⟨e, _⟩ => by rw [e]; exact SqL.of eD) ?_ ?_⟩
    · rintro i x σ H' hx ⟨rfl, y, rfl⟩
      rw [List.getElem?_map] at hx
      obtain ⟨c, hc, rfl⟩ := Option.map_eq_some_iff.mp hx
      refine ⟨_, rfl, _, rfl, _, _, rfl, rfl, some (vN c), ?_⟩
      rw [gl_take hc]
      rfl
    rintro σ H' ⟨rfl, y, rfl⟩
    rw [List.length_map, List.take_length]
    have hc0 : 0 < gl k (tl ts) := gl_pos hk0
    have hck : gl k (tl ts) ≤ k := gl_le hk0
    by_cases hm0 : gl k (tl ts) % r = 0
    · refine ⟨_, rfl, _, rfl, _, _, rfl, rfl, by omega, rfl, false, congrArg V.bl (ne_intF (by omega)), iteF ?_⟩
      refine ⟨_, rfl, t, _, rfl, .inr (s1.tup ht), _, rfl, D, _, rfl, .inl (SqL.of eD), _, _, rfl, rfl, ?_⟩
      have hfr : ((rN n).length : Int) - (((tl ts).map vN).length : Int) = ((ts.length - (tl ts).length : Nat) : Int) := by
        rw [rN_len, List.length_map, hl, Int.natCast_sub (by omega)]
      refine ⟨fun σ H2 => H2 = H' ∧ σ = [some (vN k), some (.ref m), some (.ref t), some (.ref d), some (vN k), some (vN r), none, some (.ref D), some (vN (gl k (tl ts))), y, some (vN (ts.length - (tl ts).length)),
        some (vN (if 0 < ts.length - (tl ts).length then primeTo (gl k (tl ts) / r) (ts.length - (tl ts).length) else if gl k (tl ts) = r then 1 else 0))], ?_, ?_⟩
      · by_cases h0 : 0 < ts.length - (tl ts).length
        · refine ⟨_, rfl, _, _, rfl, rfl, true, congrArg V.bl (decide_eq_true (by omega)), iteT ?_⟩
          have hrc : r ≤ gl k (tl ts) := Nat.le_of_dvd hc0 (Nat.dvd_of_mod_eq_zero hm0)
          have hq : gl k (tl ts) / r ≤ gl k (tl ts) := Nat.div_le_self _ _
          refine ⟨_, rfl, _, rfl, _, _, rfl, rfl, ⟨by omega, by omega⟩, _, rfl, gl k (tl ts) / r, ts.length - (tl ts).length, ?_, Nat.div_pos hrc hr0, by omega, by omega, rfl, ?_⟩
          · show [V.int ((gl k (tl ts) : Int) / (r : Int)), V.int (((rN n).length : Int) - (((tl ts).map vN).length : Int))] = _
            rw [hfr]
            rfl
          · rw [if_pos h0]
            show [_, _, _, _, _, _, _, _, _, _, some (V.int (((rN n).length : Int) - (((tl ts).map vN).length : Int))), _] = _
            rw [hfr]
        · refine ⟨_, rfl, _, _, rfl, rfl, false, congrArg V.bl (decide_eq_false (by omega)), iteF ?_⟩
          refine ⟨_, rfl, _, rfl, rfl, .inr ⟨_, rfl, rfl, ?_⟩⟩
          rw [if_neg h0]
          show [_, _, _, _, _, _, _, _, _, _, some (V.int (((rN n).length : Int) - (((tl ts).map vN).length : Int))), some (V.int (if decide (vN (gl k (tl ts)) = vN r) = true then 1 else 0))] = _
          rw [hfr]
          by_cases hcr : gl k (tl ts) = r
          · rw [if_pos hcr, if_pos (by rw [hcr]; exact decide_eq_true rfl)]
            rfl
          · rw [if_neg hcr, if_neg (by rw [eq_intF (by omega)]; exact Bool.false_ne_true)]
            rfl
      · rintro σ H2 ⟨rfl, rfl⟩
        generalize hf0 : (if 0 < ts.length - (tl ts).length then primeTo (gl k (tl ts) / r) (ts.length - (tl ts).length) else if gl k (tl ts) = r then 1 else 0) = f0
        refine ⟨_, rfl, _, rfl, by omega, by omega, for_range (lo := 0) (n := ts.length - (tl ts).length) (fun i σ H' => H' = H2 ∧ ∃ y6, σ = [some (vN k), some (.ref m), some (.ref t), some (.ref d), some (vN k), some (vN r), y6, some (.ref D), some (vN (gl k (tl ts))), y, some (vN (ts.length - (tl ts).length)), some (vN (f0 * (k / gl k (tl ts)) ^ i))]) ⟨rfl, none, ?_⟩ ?_ ?_⟩
        · rw [Nat.pow_zero, Nat.mul_one]
        · rintro i σ H' hi ⟨rfl, y6, rfl⟩
          have hq : k / gl k (tl ts) ≤ k := Nat.div_le_self _ _
          have hq2 : (k : Int) / (gl k (tl ts) : Int) = ((k / gl k (tl ts) : Nat) : Int) := (Int.natCast_ediv _ _).symm
          refine ⟨_, rfl, _, rfl, _, rfl, _, _, rfl, rfl, ⟨by omega, by omega⟩, _, _, rfl, rfl, .inr ⟨?_, ?_⟩, rfl, some (.int (0 + (i : Nat))), ?_⟩
          · have : 0 ≤ (k : Int) / (gl k (tl ts) : Int) := Int.ediv_nonneg (by omega) (by omega)
            omega
          · omega
          · rw [Nat.pow_succ, ← Nat.mul_assoc, show vN (f0 * (k / gl k (tl ts)) ^ i * (k / gl k (tl ts))) = V.int (((f0 * (k / gl k (tl ts)) ^ i : Nat) : Int) * ((k : Int) / (gl k (tl ts) : Int))) from congrArg V.int (by rw [hq2]; exact Int.natCast_mul _ _)]
            rfl
        · rintro σ H' ⟨rfl, y6, rfl⟩
          refine ⟨_, rfl, ?_⟩
          have e : ways k r ts = f0 * (k / gl k (tl ts)) ^ (ts.length - (tl ts).length) := by
            unfold ways
            rw [if_pos hm0, hf0]
          rw [← e]
          exact q _ s1
    · refine ⟨_, rfl, _, rfl, _, _, rfl, rfl, by omega, rfl, true, congrArg V.bl (ne_int (by omega)), iteT ?_⟩
      have e : ways k r ts = 0 := by
        unfold ways
        rw [if_neg hm0]
      rw [e] at q
      exact q _ s1

/-! count_with, come_count -/
/-- a dial of n clocks, what it is called with -/
structure Dl (K : PySem.W.Frag) (H : Hp) (wv d : Addr) (n k : Nat) (ar : List (Nat × Nat)) (ds : List Nat) : Prop where
  web : Web K H wv n ar
  ring : Ring n ar
  k2 : 2 ≤ k
  k24 : k ≤ 24
  dial : Tn K H d ds
  len : ds.length = n
  lt : ∀ c ∈ ds, c < k
theorem Dl.same {K : PySem.W.Frag} {H H' : Hp} {wv d : Addr} {n k : Nat} {ar : List (Nat × Nat)} {ds : List Nat} (e : Same H H') (h : Dl K H wv d n k ar ds) : Dl K H' wv d n k ar ds := ⟨h.web.same e, h.ring, h.k2, h.k24, e.tup h.dial, h.len, h.lt⟩
def spCountWith (K : PySem.W.Frag) : Sp := fun vs H Q _ => ∃ (wv d a : Addr) (n k : Nat) (ar : List (Nat × Nat)) (ds : List Nat) (ts : List (Option Nat)), vs = [.ref wv, vN k, .ref d, .ref a] ∧ Dl K H wv d n k ar ds ∧ Sq K H a (ts.map vO) ∧ ts.length = n ∧
  ∀ H', Same H H' → Q (vN (ways k (gl k ds) ts)) H'
theorem scCountWith : FnScope ["web", "hours", "dial", "told", "found", "part"] ["web", "hours", "dial", "told"] (defScope sCountWith) := ⟨rfl, rfl, rfl, by decide +kernel, rfl, by decide +kernel, by decide +kernel⟩
theorem c_count_with (T : Stands K mg "count_with" sCountWith ["web", "hours", "dial", "told"]) (cPartsIn : Cal P w K mg base 2 "parts_in" (spPartsIn K)) (cMarkOf : Cal P w K mg base 4 "mark_of" (spMarkOf K)) (cWaysOf : Cal P w K mg base 2 "ways_of" (spWaysOf K)) : Cal P w K mg base 5 "count_with" (spCountWith K) := by
  refine cal_of T scCountWith (fun vs H Q E h => ?_) (fun f cdv A outer s H vs Q E hr h => ?_)
  · obtain ⟨wv, d, a, n, k, ar, ds, ts, rfl, _⟩ := h
    rfl
  · obtain ⟨wv, d, a, n, k, ar, ds, ts, rfl, D, ha, hl, q⟩ := h
    have k2 := D.k2
    have hg0 := gl_pos (ds := ds) (k := k) (by omega)
    have hgk := gl_le (ds := ds) (k := k) (by omega)
    refine ⟨_, pss_cons (ps_set (i := 4) scCountWith.nd rfl (Or.inl rfl) pe_int)
      (pss_cons (ps_for PassesOwn.never rfl (pi_list (pe_d cPartsIn hr (by decide) (by rfl) (pa_cons (pv 0) pa_nil))) (pg_name (i := 5) scCountWith.nd rfl (Or.inl rfl)) (pss_one (ps_aug (i := 4) scCountWith.nd rfl (Or.inl rfl) (pe_d cWaysOf hr (by decide) (by rfl) (pa_cons (pv 1) (pa_cons (pe_d cMarkOf hr (by decide) (by rfl) (pa_cons (pv 0) (pa_cons (pv 1) (pa_cons (pv 2) (pa_cons (pv 5) pa_nil))))) (pa_cons (pv 5) (pa_cons (pv 3) pa_nil))))) iop_mul)))
      (pss_one (ps_ret (pv 4)))), ?_⟩
    refine ⟨_, rfl, wv, n, ar, rfl, D.web, D.ring, fun p t H1 s1 hp ht0 ep et => ?_⟩
    refine ⟨p, rfl, ⟨_, SqL.of ep⟩, for_list (K := K) (a := p) (xs := [.ref t])
      (fun i σ H' => Same H1 H' ∧ ∃ y, σ = [some (.ref wv), some (vN k), some (.ref d), some (.ref a), some (vN (if i = 0 then 1 else ways k (gl k ds) ts)), y]) ⟨Same.refl _, none, rfl⟩ (fun i σ H' _ ⟨sm, _⟩ => SqL.of (sm _ _ ep)) ?_ ?_⟩
    · rintro i x σ H' hx ⟨sm, y, rfl⟩
      have h0 : i = 0 ∧ x = .ref t := by
        match i, hx with
        | 0, hx => exact ⟨rfl, (Option.some.inj hx).symm⟩
        | i + 1, hx => simp at hx
      obtain ⟨rfl, rfl⟩ := h0
      have s2 := s1.trans sm
      refine ⟨_, rfl, _, rfl, _, rfl, _, rfl, _, rfl, _, rfl, wv, d, t, n, k, ar, ds, rfl, D.web.same s2, D.ring, s2.tup D.dial, D.len, SqT.of (sm _ _ et), fun m H2 s3 hm em => ?_⟩
      refine ⟨_, rfl, _, rfl, m, t, a, n, k, gl k ds, ts, rfl, SqT.of em, SqT.of (s3 _ _ (sm _ _ et)), ha.same (s2.trans s3), hl, D.ring.n2, D.ring.n7, by omega, D.k24, hg0, by have := D.k24; omega, fun H3 s4 => ?_⟩
      refine ⟨_, _, rfl, rfl, .inl ⟨by rw [if_pos rfl]; decide, by rw [if_pos rfl]; decide⟩, (sm.trans s3).trans s4, some (.ref t), ?_⟩
      show [_, _, _, _, some (V.int (1 * ((ways k (gl k ds) ts : Nat) : Int))), _] = _
      rw [Int.one_mul]
      rfl
    · rintro σ H' ⟨sm, y, rfl⟩
      exact ⟨_, rfl, q _ (s1.trans sm)⟩
theorem rep_none (n : Nat) : (List.replicate n [V.non]).flatten = (List.replicate n (none : Option Nat)).map vO := by
  induction n with
  | zero => rfl
  | succ n ih =>
    rw [List.replicate_succ, List.replicate_succ, List.flatten_cons, List.map_cons, ih]
    rfl
def spComeCount (K : PySem.W.Frag) : Sp := fun vs H Q _ => ∃ (wv d : Addr) (n k : Nat) (ar : List (Nat × Nat)) (ds : List Nat), vs = [.ref wv, vN k, .ref d] ∧ Dl K H wv d n k ar ds ∧ ∀ H', Same H H' → Q (vN (ways k (gl k ds) (List.replicate n none))) H'
theorem scComeCount : FnScope ["web", "hours", "dial"] ["web", "hours", "dial"] (defScope sComeCount) := ⟨rfl, rfl, rfl, by decide +kernel, rfl, by decide +kernel, by decide +kernel⟩
theorem c_come_count (T : Stands K mg "come_count" sComeCount ["web", "hours", "dial"]) (cNeedAll : Cal P w K mg base 4 "need_all" (spNeedAll K)) (cCountWith : Cal P w K mg base 5 "count_with" (spCountWith K)) : Cal P w K mg base 6 "come_count" (spComeCount K) := by
  refine cal_of T scComeCount (fun vs H Q E h => ?_) (fun f cdv A outer s H vs Q E hr h => ?_)
  · obtain ⟨wv, d, n, k, ar, ds, rfl, _⟩ := h
    rfl
  · obtain ⟨wv, d, n, k, ar, ds, rfl, D, q⟩ := h
    have n7 := D.ring.n7
    refine ⟨_, pss_cons (ps_expr (pe_d cNeedAll hr (by decide) (by rfl) (pa_cons (pv 0) (pa_cons (pv 1) (pa_cons (pv 2) pa_nil)))))
      (pss_one (ps_ret (pe_d cCountWith hr (by decide) (by rfl) (pa_cons (pv 0) (pa_cons (pv 1) (pa_cons (pv 2) (pa_cons (pe_op op_rep (pe_lst (pa_cons pe_non pa_nil)) (pe_ix ix_tup (pv 0) pe_int (fun _ _ => rfl))) pa_nil))))))), ?_⟩
    refine ⟨_, rfl, _, rfl, _, rfl, wv, d, n, k, ar, ds, rfl, D.web, D.ring, D.k2, D.k24, D.dial, D.len, D.lt, fun H1 s1 => ?_⟩
    obtain ⟨b, ts, hw, _⟩ := id D.web
    refine ⟨_, rfl, _, rfl, _, rfl, by show 1 ≤ sizeLine; decide, fun l hl => ?_⟩
    have s2 := s1.trans (same_upd (o := .lst [V.non]) hl)
    refine ⟨_, rfl, wv, _, _, _, rfl, rfl, s2.tup hw, atI_nat (j := 0) rfl, l, n, _, rfl, rfl, upd_same, by omega, by omega, ?_, fun p hp => ?_⟩
    · show 1 * ((n : Int)).toNat ≤ sizeLine
      rw [sizeLine_eq]
      omega
    have s3 := s2.trans (same_upd (o := .lst (List.replicate ((n : Int)).toNat [V.non]).flatten) hp)
    refine ⟨wv, d, p, n, k, ar, ds, List.replicate n none, rfl, D.same s3, .inl (SqL.of ?_), List.length_replicate, fun H4 s4 => q _ (s3.trans s4)⟩
    rw [upd_same, Int.toNat_natCast, rep_none]

/-! at_in, least_come -/
/-- the hours told so far: those of ms below a place, an hour there, None behind it -/
def at1 (n : Nat) (ms : List Nat) (i : Nat) (z : Option Nat) : List (Option Nat) := (ms.take i).map some ++ z :: List.replicate (n - i - 1) none
theorem at1_len {n i : Nat} {ms : List Nat} {z : Option Nat} (hm : ms.length = n) (hi : i < n) : (at1 n ms i z).length = n := by
  unfold at1
  rw [List.length_append, List.length_map, List.length_take, List.length_cons, List.length_replicate]
  omega
theorem at1_set {n i : Nat} {ms : List Nat} {z : Option Nat} (hm : ms.length = n) (hi : i < n) (j : Nat) : ((at1 n ms i z).map vO).set i (vN j) = (at1 n ms i (some j)).map vO := by
  unfold at1
  have h1 : ((ms.take i).map some).length = i := by rw [List.length_map, List.length_take]; omega
  rw [List.map_append, List.map_append, List.set_append_right _ _ (by rw [List.length_map, h1]; exact Nat.le_refl _), List.length_map, h1, Nat.sub_self]
  rfl
/-- behind place i: the list at the next place, or all of ms -/
theorem at1_next {n i m : Nat} {ms : List Nat} (hm : ms.length = n) (hi : i < n) (h : ms[i]? = some m) : at1 n ms i (some m) = (if i + 1 < n then at1 n ms (i + 1) none else ms.map some) := by
  have e : ms.take (i + 1) = ms.take i ++ [m] := by rw [List.take_add_one, h]; rfl
  by_cases hn : i + 1 < n
  · rw [if_pos hn]
    unfold at1
    rw [e, List.map_append, List.append_assoc, show n - i - 1 = (n - (i + 1) - 1) + 1 by omega, List.replicate_succ]
    rfl
  · rw [if_neg hn]
    unfold at1
    have e2 : ms.take (i + 1) = ms := List.take_of_length_le (by omega)
    rw [show n - i - 1 = 0 by omega, List.replicate_zero]
    rw [← e2, e, List.map_append, List.take_append_of_le_length (by rw [List.length_take]; omega), List.take_take, Nat.min_self]
    rfl
/-- ms is the least dial: its hours are the first ones at which some way is left -/
structure Lst (k g n : Nat) (ms : List Nat) : Prop where
  len : ms.length = n
  no : ∀ i m, ms[i]? = some m → ∀ j, j < m → ways k g (at1 n ms i (some j)) = 0
  yes : ∀ i m, ms[i]? = some m → m < k ∧ 0 < ways k g (at1 n ms i (some m))
def spAtIn (K : PySem.W.Frag) : Sp := fun vs H Q _ => ∃ (wv d : Addr) (n k : Nat) (ar : List (Nat × Nat)) (ds ms : List Nat), vs = [.ref wv, vN k, .ref d, .int 0] ∧ Dl K H wv d n k ar ds ∧ Lst k (gl k ds) n ms ∧ ∀ p H', Same H H' → H p = none → H' p = some (.tup (ms.map vN)) → Q (.ref p) H'
theorem scAtIn : FnScope ["web", "hours", "dial", "index", "told", "left", "place", "hour", "ways"] ["web", "hours", "dial", "index"] (defScope sAtIn) := ⟨rfl, rfl, rfl, by decide +kernel, rfl, by decide +kernel, by decide +kernel⟩
theorem c_at_in (T : Stands K mg "at_in" sAtIn ["web", "hours", "dial", "index"]) (B : Blt mg) (cCountWith : Cal P w K mg base 5 "count_with" (spCountWith K)) : Cal P w K mg base 6 "at_in" (spAtIn K) := by
  refine cal_of T scAtIn (fun vs H Q E h => ?_) (fun f cdv A outer s H vs Q E hr h => ?_)
  · obtain ⟨wv, d, n, k, ar, ds, ms, rfl, _⟩ := h
    rfl
  · obtain ⟨wv, d, n, k, ar, ds, ms, rfl, D, L, q⟩ := h
    have n7 := D.ring.n7
    have n2 := D.ring.n2
    have k24 := D.k24
    obtain ⟨b, ts, hw, _⟩ := id D.web
    refine ⟨_, pss_cons (ps_par (i := 4) (j := 5) rfl scAtIn.nd rfl rfl (by decide) rfl rfl (pa_cons (pe_op op_rep (pe_lst (pa_cons pe_non pa_nil)) (pe_ix ix_tup (pv 0) pe_int (fun _ _ => rfl))) (pa_cons (pv 3) pa_nil)) (by rfl))
      (pss_cons (ps_for PassesOwn.never rfl (pi_range1 rfl B.range (pa_cons (pe_ix ix_tup (pv 0) pe_int (fun _ _ => rfl)) pa_nil)) (pg_name (i := 6) scAtIn.nd rfl (Or.inl rfl)) (pss_one (ps_for PassesOwn.never rfl (pi_range1 rfl B.range (pa_cons (pv 1) pa_nil)) (pg_name (i := 7) scAtIn.nd rfl (Or.inl rfl)) (pss_cons (ps_asg (pv 7) (pg_sub (pv 4) (pv 6) set_list))
          (pss_cons (ps_set (i := 8) scAtIn.nd rfl (Or.inl rfl) (pe_d cCountWith hr (by decide) (by rfl) (pa_cons (pv 0) (pa_cons (pv 1) (pa_cons (pv 2) (pa_cons (pv 4) pa_nil))))))
          (pss_cons (ps_if (pt_cmpR op_lt (pv 5) (pv 8) (nomark _)) (pss_one (ps_break)) pss_nil)
          (pss_one (ps_aug (i := 5) scAtIn.nd rfl (Or.inl rfl) (pv 8) ip_sub))))))))
      (pss_one (ps_ret (pe_tupleOf (by rfl) B.tuple (pv 4))))), ?_⟩
    refine ⟨by show 1 ≤ sizeLine; decide, fun l hl => ?_⟩
    have s2 : Same H (upd H l (.lst [V.non])) := same_upd hl
    refine ⟨_, rfl, wv, _, _, _, rfl, rfl, s2.tup hw, atI_nat (j := 0) rfl, l, n, _, rfl, rfl, upd_same, by omega, by omega, ?_, fun a ha => ?_⟩
    · show 1 * ((n : Int)).toNat ≤ sizeLine
      rw [sizeLine_eq]
      omega
    have s3 := s2.trans (same_upd (o := .lst (List.replicate ((n : Int)).toNat [V.non]).flatten) ha)
    have ha0 : H a = none := s2.free ha
    have hstart : List.replicate n (none : Option Nat) = at1 n ms 0 none := by
      unfold at1
      rw [List.take_zero, List.map_nil, List.nil_append, ← List.replicate_succ]
      congr 1
      omega
    refine ⟨_, rfl, _, _, rfl, ?_⟩
    refine ⟨_, rfl, wv, _, _, _, rfl, rfl, s3.tup hw, atI_nat (j := 0) rfl, n, rfl, by omega, by omega, for_range (lo := 0) (n := n)
      (fun i σ H' => ∃ y6 y7 y8, σ = [some (.ref wv), some (vN k), some (.ref d), some (.int 0), some (.ref a), some (.int 0), y6, y7, y8] ∧ Same H H' ∧ H' a = some (.lst ((if i < n then at1 n ms i none else ms.map some).map vO))) ⟨none, none, none, rfl, s3, ?_⟩ ?_ ?_⟩
    · rw [upd_same, Int.toNat_natCast, rep_none, if_pos (show 0 < n by omega), hstart]
    · rintro i σ H' hi ⟨y6, y7, y8, rfl, sm, ea⟩
      rw [if_pos hi] at ea
      obtain ⟨mi, hmi⟩ : ∃ mi, ms[i]? = some mi := ⟨_, List.getElem?_eq_getElem (by rw [L.len]; exact hi)⟩
      obtain ⟨hmk, hpos⟩ := L.yes i _ hmi
      refine ⟨_, rfl, k, rfl, by omega, by omega, for_range (lo := 0) (n := k)
        (fun j σ H2 => ∃ y7 y8 z, σ = [some (.ref wv), some (vN k), some (.ref d), some (.int 0), some (.ref a), some (.int 0), some (.int (0 + (i : Nat))), y7, y8] ∧ Same H H2 ∧ H2 a = some (.lst ((at1 n ms i z).map vO)) ∧ j ≤ mi) ⟨_, _, none, rfl, sm, ea, Nat.zero_le _⟩ ?_ ?_⟩
      · rintro j σ H2 hj ⟨y7, y8, z, rfl, sm2, ea2, hji⟩
        have hlen : ((at1 n ms i z).map vO).length = n := by rw [List.length_map, at1_len L.len hi]
        have hix : ixN ((at1 n ms i z).map vO).length (0 + (i : Int)) = some i := by
          rw [hlen, Int.zero_add]
          unfold ixN
          rw [if_pos (by omega), if_pos (by omega), Int.toNat_natCast]
        refine ⟨_, rfl, _, rfl, _, rfl, a, _, _, i, rfl, rfl, ea2, hix, ?_⟩
        have eset : ((at1 n ms i z).map vO).set i (V.int (0 + (j : Int))) = (at1 n ms i (some j)).map vO := by
          rw [Int.zero_add]
          exact at1_set L.len hi j
        rw [eset]
        have sm3 : Same H (upd H2 a (.lst ((at1 n ms i (some j)).map vO))) := sm2.mut ha0
        refine ⟨_, rfl, _, rfl, _, rfl, _, rfl, wv, d, a, n, k, ar, ds, at1 n ms i (some j), rfl, D.same sm3, .inl (SqL.of upd_same), at1_len L.len hi, fun H4 s4 => ?_⟩
        have ea4 := s4 _ _ upd_same
        have sm4 := sm3.trans s4
        by_cases hjm : j = mi
        · subst hjm
          refine ⟨_, rfl, _, rfl, _, _, rfl, rfl, true, congrArg V.bl (decide_eq_true (by omega)), iteT ?_⟩
          refine ⟨_, _, _, rfl, sm4, ?_⟩
          rw [← at1_next L.len hi hmi]
          exact ea4
        · have hz := L.no i _ hmi j (by omega)
          refine ⟨_, rfl, _, rfl, _, _, rfl, rfl, false, congrArg V.bl (decide_eq_false (by omega)), iteF ?_⟩
          refine ⟨_, rfl, _, rfl, _, _, rfl, rfl, some (.int (0 + (j : Nat))), some (vN (ways k (gl k ds) (at1 n ms i (some j)))), some j, ?_, sm4, ea4, by omega⟩
          rw [hz]
          rfl
      · rintro σ H2 ⟨y7, y8, z, rfl, sm2, ea2, hji⟩
        omega
    · rintro σ H' ⟨y6, y7, y8, rfl, sm, ea⟩
      rw [if_neg (Nat.lt_irrefl _), List.map_map] at ea
      refine ⟨_, rfl, .inl ⟨a, _, rfl, SqL.of ea, fun p hp => ?_⟩⟩
      exact q p _ (sm.trans (same_upd hp)) (sm.free hp) upd_same
def spLeastCome (K : PySem.W.Frag) : Sp := fun vs H Q _ => ∃ (wv d : Addr) (n k : Nat) (ar : List (Nat × Nat)) (ds ms : List Nat), vs = [.ref wv, vN k, .ref d] ∧ Dl K H wv d n k ar ds ∧ Lst k (gl k ds) n ms ∧ ∀ p H', Same H H' → H p = none → H' p = some (.tup (ms.map vN)) → Q (.ref p) H'
theorem scLeastCome : FnScope ["web", "hours", "dial"] ["web", "hours", "dial"] (defScope sLeastCome) := ⟨rfl, rfl, rfl, by decide +kernel, rfl, by decide +kernel, by decide +kernel⟩
theorem c_least_come (T : Stands K mg "least_come" sLeastCome ["web", "hours", "dial"]) (cNeedAll : Cal P w K mg base 4 "need_all" (spNeedAll K)) (cAtIn : Cal P w K mg base 6 "at_in" (spAtIn K)) : Cal P w K mg base 7 "least_come" (spLeastCome K) := by
  refine cal_of T scLeastCome (fun vs H Q E h => ?_) (fun f cdv A outer s H vs Q E hr h => ?_)
  · obtain ⟨wv, d, n, k, ar, ds, ms, rfl, _⟩ := h
    rfl
  · obtain ⟨wv, d, n, k, ar, ds, ms, rfl, D, L, q⟩ := h
    refine ⟨_, pss_cons (ps_expr (pe_d cNeedAll hr (by decide) (by rfl) (pa_cons (pv 0) (pa_cons (pv 1) (pa_cons (pv 2) pa_nil)))))
      (pss_one (ps_ret (pe_d cAtIn hr (by decide) (by rfl) (pa_cons (pv 0) (pa_cons (pv 1) (pa_cons (pv 2) (pa_cons pe_int pa_nil))))))), ?_⟩
    refine ⟨_, rfl, _, rfl, _, rfl, wv, d, n, k, ar, ds, rfl, D.web, D.ring, D.k2, D.k24, D.dial, D.len, D.lt, fun H1 s1 => ?_⟩
    exact ⟨_, rfl, _, rfl, _, rfl, wv, d, n, k, ar, ds, ms, rfl, D.same s1, L, fun p H2 s2 hp ep => q p _ (s1.trans s2) (s1.free hp) ep⟩

/-! gathered_in, gathered -/
theorem rep_zero (n : Nat) : (List.replicate n [V.int 0]).flatten = (List.replicate n 0).map vN := by
  induction n with
  | zero => rfl
  | succ n ih =>
    rw [List.replicate_succ, List.replicate_succ, List.flatten_cons, List.map_cons, ih]
    rfl
def spGatheredIn (K : PySem.W.Frag) : Sp := fun vs H Q _ => ∃ (wv d : Addr) (n k : Nat) (ar : List (Nat × Nat)) (ds : List Nat), vs = [.ref wv, vN k, .ref d] ∧ Dl K H wv d n k ar ds ∧ ∀ p H', Same H H' → H p = none → H' p = some (.tup ((gl k ds % k :: List.replicate (n - 1) 0).map vN)) → Q (.ref p) H'
theorem scGatheredIn : FnScope ["web", "hours", "dial", "found", "part", "flow", "rest"] ["web", "hours", "dial"] (defScope sGatheredIn) := ⟨rfl, rfl, rfl, by decide +kernel, rfl, by decide +kernel, by decide +kernel⟩
theorem c_gathered_in (T : Stands K mg "gathered_in" sGatheredIn ["web", "hours", "dial"]) (B : Blt mg) (cPartsIn : Cal P w K mg base 2 "parts_in" (spPartsIn K)) (cMarkOf : Cal P w K mg base 4 "mark_of" (spMarkOf K)) : Cal P w K mg base 5 "gathered_in" (spGatheredIn K) := by
  refine cal_of T scGatheredIn (fun vs H Q E h => ?_) (fun f cdv A outer s H vs Q E hr h => ?_)
  · obtain ⟨wv, d, n, k, ar, ds, rfl, _⟩ := h
    rfl
  · obtain ⟨wv, d, n, k, ar, ds, rfl, D, q⟩ := h
    have n7 := D.ring.n7
    have n2 := D.ring.n2
    have k2 := D.k2
    obtain ⟨b, ts, hw, _⟩ := id D.web
    refine ⟨_, pss_cons (ps_set (i := 3) scGatheredIn.nd rfl (Or.inl rfl) (pe_op op_rep (pe_lst (pa_cons pe_int pa_nil)) (pe_ix ix_tup (pv 0) pe_int (fun _ _ => rfl))))
      (pss_cons (ps_for PassesOwn.never rfl (pi_list (pe_d cPartsIn hr (by decide) (by rfl) (pa_cons (pv 0) pa_nil))) (pg_name (i := 4) scGatheredIn.nd rfl (Or.inl rfl)) (pss_cons (ps_asg (pe_d cMarkOf hr (by decide) (by rfl) (pa_cons (pv 0) (pa_cons (pv 1) (pa_cons (pv 2) (pa_cons (pv 4) pa_nil))))) (pg_tup rfl (pgs_cons (pg_name (i := 5) scGatheredIn.nd rfl (Or.inl rfl)) (pgs_cons (pg_name (i := 6) scGatheredIn.nd rfl (Or.inl rfl)) pgs_nil))))
        (pss_one (ps_asg (pe_op op_mod (pv 6) (pv 1)) (pg_sub (pv 3) (pe_ix ix_tup (pv 4) pe_int (fun _ _ => rfl)) set_list)))))
      (pss_one (ps_ret (pe_tupleOf (by rfl) B.tuple (pv 3))))), ?_⟩
    refine ⟨by show 1 ≤ sizeLine; decide, fun l hl => ?_⟩
    have s2 : Same H (upd H l (.lst [V.int 0])) := same_upd hl
    refine ⟨_, rfl, wv, _, _, _, rfl, rfl, s2.tup hw, atI_nat (j := 0) rfl, l, n, _, rfl, rfl, upd_same, by omega, by omega, ?_, fun a ha => ?_⟩
    · show 1 * ((n : Int)).toNat ≤ sizeLine
      rw [sizeLine_eq]
      omega
    have s3 := s2.trans (same_upd (o := .lst (List.replicate ((n : Int)).toNat [V.int 0]).flatten) ha)
    have ha0 : H a = none := s2.free ha
    refine ⟨_, rfl, wv, n, ar, rfl, D.web.same s3, D.ring, fun p t H1 s4 hp ht0 ep et => ?_⟩
    have s5 := s3.trans s4
    have ea1 : H1 a = some (.lst ((List.replicate n 0).map vN)) := by
      rw [← rep_zero]
      have := s4 _ _ (upd_same (H := upd H l (.lst [V.int 0])) (a := a) (o := .lst (List.replicate ((n : Int)).toNat [V.int 0]).flatten))
      rw [Int.toNat_natCast] at this
      exact this
    have hp0 : H p = none := s3.free hp
    have npa : p ≠ a := fun e => by
      rw [e] at hp
      rw [upd_same] at hp
      cases hp
    have hp1 : (upd (upd H l (.lst [V.int 0])) a (.lst (List.replicate ((n : Int)).toNat [V.int 0]).flatten)) p = none := hp
    refine ⟨p, rfl, ⟨_, SqL.of ep⟩, for_list (K := K) (a := p) (xs := [.ref t])
      (fun i σ H' => Same H H' ∧ H' p = some (.lst [.ref t]) ∧ H' t = some (.tup (rN n)) ∧ ∃ y5 y6 y7, σ = [some (.ref wv), some (vN k), some (.ref d), some (.ref a), y5, y6, y7] ∧ H' a = some (.lst ((if i = 0 then List.replicate n 0 else gl k ds % k :: List.replicate (n - 1) 0).map vN))) ⟨s5, ep, et, none, none, none, rfl, ea1⟩ (fun i σ H' _ ⟨_, e, _⟩ => SqL.of e) ?_ ?_⟩
    · rintro i x σ H' hx ⟨sm, ep', et', y5, y6, y7, rfl, ea⟩
      have h0 : i = 0 ∧ x = .ref t := by
        match i, hx with
        | 0, hx => exact ⟨rfl, (Option.some.inj hx).symm⟩
        | i + 1, hx => simp at hx
      obtain ⟨rfl, rfl⟩ := h0
      rw [if_pos rfl] at ea
      refine ⟨_, rfl, _, rfl, _, rfl, _, rfl, wv, d, t, n, k, ar, ds, rfl, D.web.same sm, D.ring, sm.tup D.dial, D.len, SqT.of et', fun m H2 s6 hm em => ?_⟩
      refine ⟨m, _, rfl, SqT.of em, rfl, _, _, rfl, _, _, rfl, rfl, ?_⟩
      have ea2 := s6 _ _ ea
      have hix : ixN ((List.replicate n 0).map vN).length 0 = some 0 := by
        rw [List.length_map, List.length_replicate]
        unfold ixN
        rw [if_pos (by omega), if_pos (by omega)]
        rfl
      refine ⟨_, rfl, _, rfl, _, _, rfl, rfl, by omega, _, rfl, _, rfl, t, _, _, _, rfl, rfl, SqT.of (s6 _ _ et'), atI_nat (j := 0) (rN_at (by omega)), a, _, _, 0, rfl, rfl, ea2, hix, ?_⟩
      have npt : t ≠ a := ne_of et' ea (by intro z; cases z)
      refine ⟨(sm.trans s6).mut ha0, ?_, ?_, _, _, _, rfl, ?_⟩
      · rw [upd_ne npa]
        exact s6 _ _ ep'
      · rw [upd_ne npt]
        exact s6 _ _ et'
      · rw [upd_same, if_neg (by decide)]
        obtain ⟨n', rfl⟩ : ∃ n', n = n' + 1 := ⟨n - 1, by omega⟩
        rw [List.replicate_succ]
        rfl
    · rintro σ H' ⟨sm, ep', et', y5, y6, y7, rfl, ea⟩
      rw [if_neg (by intro z; cases z)] at ea
      refine ⟨_, rfl, .inl ⟨a, _, rfl, SqL.of ea, fun r hr2 => ?_⟩⟩
      exact q r _ (sm.trans (same_upd hr2)) (sm.free hr2) upd_same
def spGathered (K : PySem.W.Frag) : Sp := spGatheredIn K
theorem scGathered : FnScope ["web", "hours", "dial"] ["web", "hours", "dial"] (defScope sGathered) := ⟨rfl, rfl, rfl, by decide +kernel, rfl, by decide +kernel, by decide +kernel⟩
theorem c_gathered (T : Stands K mg "gathered" sGathered ["web", "hours", "dial"]) (cNeedAll : Cal P w K mg base 4 "need_all" (spNeedAll K)) (cGatheredIn : Cal P w K mg base 5 "gathered_in" (spGatheredIn K)) : Cal P w K mg base 6 "gathered" (spGathered K) := by
  refine cal_of T scGathered (fun vs H Q E h => ?_) (fun f cdv A outer s H vs Q E hr h => ?_)
  · obtain ⟨wv, d, n, k, ar, ds, rfl, _⟩ := h
    rfl
  · obtain ⟨wv, d, n, k, ar, ds, rfl, D, q⟩ := h
    refine ⟨_, pss_cons (ps_expr (pe_d cNeedAll hr (by decide) (by rfl) (pa_cons (pv 0) (pa_cons (pv 1) (pa_cons (pv 2) pa_nil)))))
      (pss_one (ps_ret (pe_d cGatheredIn hr (by decide) (by rfl) (pa_cons (pv 0) (pa_cons (pv 1) (pa_cons (pv 2) pa_nil)))))), ?_⟩
    refine ⟨_, rfl, _, rfl, _, rfl, wv, d, n, k, ar, ds, rfl, D.web, D.ring, D.k2, D.k24, D.dial, D.len, D.lt, fun H1 s1 => ?_⟩
    exact ⟨_, rfl, _, rfl, _, rfl, wv, d, n, k, ar, ds, rfl, D.same s1, fun p H2 s2 hp ep => q p _ (s1.trans s2) (s1.free hp) ep⟩
end
end CK

set_option Elab.async false
set_option linter.all false
set_option maxRecDepth 100000
set_option maxHeartbeats 4000000
namespace CK
open PySem PySem.Spec PyProof.Rows L2
section
variable {P : Program} {w : World} {K : PySem.W.Frag} {mg : Str → Option Value} {base : Heap}

/-! counts_of -/
/-- one hour told -/
def only (n place : Nat) (h : Nat) : List (Option Nat) := (List.replicate n none).set place (some h)
theorem only_len (n place h : Nat) : (only n place h).length = n := by
  unfold only
  rw [List.length_set, List.length_replicate]
theorem ixN_in {α : Type} {xs : List α} {n i : Nat} (hl : xs.length = n) (h : i < n) : ixN xs.length ((i : Nat) : Int) = some i := by
  rw [hl]
  unfold ixN
  rw [if_pos (by omega), if_pos (by omega), Int.toNat_natCast]
def spCountsOf (K : PySem.W.Frag) : Sp := fun vs H Q _ => ∃ (wv d l : Addr) (n k place : Nat) (ar : List (Nat × Nat)) (ds : List Nat), vs = [.ref wv, vN k, .ref d, vN place, .ref l] ∧ Dl K H wv d n k ar ds ∧ SqL K H l ((List.replicate n none).map vO) ∧ place < n ∧
  ∀ p H', Same H H' → H p = none → H' p = some (.lst ((List.range k).map fun h => vN (ways k (gl k ds) (only n place h)))) → Q (.ref p) H'
theorem scCountsOf : FnScope ["web", "hours", "dial", "place", "told", "found", "hour", "there"] ["web", "hours", "dial", "place", "told"] (defScope sCountsOf) := ⟨rfl, rfl, rfl, by decide +kernel, rfl, by decide +kernel, by decide +kernel⟩
theorem c_counts_of (T : Stands K mg "counts_of" sCountsOf ["web", "hours", "dial", "place", "told"]) (B : Blt mg) (cCountWith : Cal P w K mg base 5 "count_with" (spCountWith K)) : Cal P w K mg base 6 "counts_of" (spCountsOf K) := by
  refine cal_of T scCountsOf (fun vs H Q E h => ?_) (fun f cdv A outer s H vs Q E hr h => ?_)
  · obtain ⟨wv, d, l, n, k, place, ar, ds, rfl, _⟩ := h
    rfl
  · obtain ⟨wv, d, l, n, k, place, ar, ds, rfl, D, hl, hp, q⟩ := h
    have k24 := D.k24
    have n7 := D.ring.n7
    refine ⟨_, pss_cons (ps_set (i := 5) scCountsOf.nd rfl (Or.inl rfl) (pe_lst pa_nil))
      (pss_cons (ps_for PassesOwn.never rfl (pi_range1 rfl B.range (pa_cons (pv 1) pa_nil)) (pg_name (i := 6) scCountsOf.nd rfl (Or.inl rfl)) (pss_cons (ps_set (i := 7) scCountsOf.nd rfl (Or.inl rfl) (pe_callTy call_list_of (by rfl) B.list b_list (pa_cons (pv 4) pa_nil)))
        (pss_cons (ps_asg (pv 6) (pg_sub (pv 7) (pv 3) set_list))
        (pss_one (ps_expr (pe_bm PySem.F.plainAttrs_list PySem.F.slot_list_append PySem.F.type_list_append mt_append (pv 5) (pa_cons (pe_d cCountWith hr (by decide) (by rfl) (pa_cons (pv 0) (pa_cons (pv 1) (pa_cons (pv 2) (pa_cons (pv 7) pa_nil))))) pa_nil)))))))
      (pss_one (ps_ret (pv 5)))), ?_⟩
    refine ⟨Nat.zero_le _, fun a ha => ?_⟩
    refine ⟨_, rfl, k, rfl, by omega, by omega, for_range (lo := 0) (n := k)
      (fun i σ H' => ∃ y6 y7, σ = [some (.ref wv), some (vN k), some (.ref d), some (vN place), some (.ref l), some (.ref a), y6, y7] ∧ Same H H' ∧ H' a = some (.lst ((List.range i).map fun h => vN (ways k (gl k ds) (only n place h))))) ⟨none, none, rfl, same_upd ha, upd_same⟩ ?_ ?_⟩
    · rintro i σ H' hi ⟨y6, y7, rfl, sm, ea⟩
      refine ⟨_, rfl, l, _, rfl, .inl (sm.seq hl), fun b hb => ?_⟩
      have s1 : Same H' (upd H' b (.lst ((List.replicate n none).map vO))) := same_upd hb
      have hb0 : H b = none := sm.free hb
      have hba : a ≠ b := ne_of_none ea hb
      refine ⟨_, rfl, _, rfl, _, rfl, b, _, _, place, rfl, rfl, upd_same, ixN_in (by rw [List.length_map, List.length_replicate]) hp, ?_⟩
      have eset : ((List.replicate n (none : Option Nat)).map vO).set place (V.int (0 + (i : Int))) = (only n place i).map vO := by
        unfold only
        rw [List.map_set, Int.zero_add]
        rfl
      rw [eset]
      have s2 : Same H (upd (upd H' b (.lst ((List.replicate n none).map vO))) b (.lst ((only n place i).map vO))) := (sm.trans s1).mut hb0
      have ea2 : (upd (upd H' b (.lst ((List.replicate n none).map vO))) b (.lst ((only n place i).map vO))) a = some (.lst ((List.range i).map fun h => vN (ways k (gl k ds) (only n place h)))) := by
        rw [upd_ne hba, upd_ne hba]
        exact ea
      refine ⟨_, rfl, .inl ⟨rfl, _, SqL.of ea2⟩, _, rfl, _, rfl, _, rfl, _, rfl, wv, d, b, n, k, ar, ds, only n place i, rfl, D.same s2, .inl (SqL.of upd_same), only_len _ _ _, fun H4 s4 => ?_⟩
      have ea4 := s4 _ _ ea2
      refine ⟨a, _, _, rfl, rfl, ea4, small7 (m := 24) (by rw [List.length_map, List.length_range]; omega) (by decide), ?_⟩
      refine ⟨_, _, rfl, (s2.trans s4).mut ha, ?_⟩
      rw [upd_same, List.range_succ, List.map_append]
      rfl
    · rintro σ H' ⟨y6, y7, rfl, sm, ea⟩
      exact ⟨_, rfl, q a H' sm ha ea⟩

/-! need_place, shown -/
def spNeedPlace (K : PySem.W.Frag) : Sp := fun vs H Q _ => ∃ (wv d : Addr) (n k place : Nat) (ar : List (Nat × Nat)) (ds : List Nat), vs = [.ref wv, vN k, .ref d, vN place] ∧ Dl K H wv d n k ar ds ∧ place < n ∧ ∀ H', Same H H' → Q .non H'
theorem scNeedPlace : FnScope ["web", "hours", "dial", "place"] ["web", "hours", "dial", "place"] (defScope sNeedPlace) := ⟨rfl, rfl, rfl, by decide +kernel, rfl, by decide +kernel, by decide +kernel⟩
theorem c_need_place (T : Stands K mg "need_place" sNeedPlace ["web", "hours", "dial", "place"]) (cNeedAll : Cal P w K mg base 4 "need_all" (spNeedAll K)) (cNeedClock : Cal P w K mg base 2 "need_clock" (spNeedClock K)) : Cal P w K mg base 5 "need_place" (spNeedPlace K) := by
  refine cal_of T scNeedPlace (fun vs H Q E h => ?_) (fun f cdv A outer s H vs Q E hr h => ?_)
  · obtain ⟨wv, d, n, k, place, ar, ds, rfl, _⟩ := h
    rfl
  · obtain ⟨wv, d, n, k, place, ar, ds, rfl, D, hp, q⟩ := h
    refine ⟨_, pss_cons (ps_expr (pe_d cNeedAll hr (by decide) (by rfl) (pa_cons (pv 0) (pa_cons (pv 1) (pa_cons (pv 2) pa_nil)))))
      (pss_one (ps_expr (pe_d cNeedClock hr (by decide) (by rfl) (pa_cons (pv 0) (pa_cons (pv 3) pa_nil))))), ?_⟩
    refine ⟨_, rfl, _, rfl, _, rfl, wv, d, n, k, ar, ds, rfl, D.web, D.ring, D.k2, D.k24, D.dial, D.len, D.lt, fun H1 s1 => ?_⟩
    obtain ⟨b, ts, hw, _⟩ := id D.web
    exact ⟨_, rfl, _, rfl, wv, n, place, _, rfl, s1.tup hw, hp, q _ s1⟩
def spShown (K : PySem.W.Frag) : Sp := fun vs H Q _ => ∃ (wv d : Addr) (n k place : Nat) (ar : List (Nat × Nat)) (ds : List Nat), vs = [.ref wv, vN k, .ref d, vN place] ∧ Dl K H wv d n k ar ds ∧ place < n ∧
  ∀ p H', Same H H' → H p = none → H' p = some (.tup (((List.range k).filter fun h => decide (0 < ways k (gl k ds) (only n place h))).map vN)) → Q (.ref p) H'
theorem scShown : FnScope ["web", "hours", "dial", "place", "counts", "hour", "count"] ["web", "hours", "dial", "place"] (defScope sShown) := ⟨rfl, rfl, rfl, by decide +kernel, rfl, by decide +kernel, by decide +kernel⟩
theorem c_shown (T : Stands K mg "shown" sShown ["web", "hours", "dial", "place"]) (B : Blt mg) (cNeedPlace : Cal P w K mg base 5 "need_place" (spNeedPlace K)) (cCountsOf : Cal P w K mg base 6 "counts_of" (spCountsOf K)) : Cal P w K mg base 7 "shown" (spShown K) := by
  refine cal_of T scShown (fun vs H Q E h => ?_) (fun f cdv A outer s H vs Q E hr h => ?_)
  · obtain ⟨wv, d, n, k, place, ar, ds, rfl, _⟩ := h
    rfl
  · obtain ⟨wv, d, n, k, place, ar, ds, rfl, D, hp, q⟩ := h
    have n7 := D.ring.n7
    have k24 := D.k24
    refine ⟨_, pss_cons (ps_expr (pe_d cNeedPlace hr (by decide) (by rfl) (pa_cons (pv 0) (pa_cons (pv 1) (pa_cons (pv 2) (pa_cons (pv 3) pa_nil))))))
      (pss_cons (ps_set (i := 4) scShown.nd rfl (Or.inl rfl) (pe_d cCountsOf hr (by decide) (by rfl) (pa_cons (pv 0) (pa_cons (pv 1) (pa_cons (pv 2) (pa_cons (pv 3) (pa_cons (pe_op op_rep (pe_lst (pa_cons pe_non pa_nil)) (pe_ix ix_tup (pv 0) pe_int (fun _ _ => rfl))) pa_nil)))))))
      (pss_one (ps_ret (pe_tupleOf (by rfl) B.tuple (pe_lc (own := [("hour", 5), ("count", 6)]) (g := gTup K 2 (gCons (gName 5) (gCons (gName 6) gNil))) rfl scShown.nd (pi_enum (by rfl) B.enumerate (pa_cons (pv 4) pa_nil)) (blkOk_by (N := ["web", "hours", "dial", "place", "counts", "hour", "count"]) (sc := defScope sShown) (by decide +kernel)) (fun _ _ _ _ _ => pg_tup rfl (pgs_cons (pg_name (i := 5) scShown.nd rfl (Or.inl rfl)) (pgs_cons (pg_name (i := 6) scShown.nd rfl (Or.inl rfl)) pgs_nil))) (fun _ _ _ _ _ => pts_one (pt_cmpR op_gt (pv 6) pe_int (nomark _))) (fun _ _ _ _ _ => pv 5)))))), ?_⟩
    refine ⟨_, rfl, _, rfl, _, rfl, _, rfl, wv, d, n, k, place, ar, ds, rfl, D, hp, fun H1 s1 => ?_⟩
    obtain ⟨b, ts, hw, _⟩ := id D.web
    refine ⟨_, rfl, _, rfl, _, rfl, _, rfl, by show 1 ≤ sizeLine; decide, fun l hl => ?_⟩
    have s2 := s1.trans (same_upd (o := .lst [V.non]) hl)
    refine ⟨_, rfl, wv, _, _, _, rfl, rfl, s2.tup hw, atI_nat (j := 0) rfl, l, n, _, rfl, rfl, upd_same, by omega, by omega, ?_, fun a ha => ?_⟩
    · show 1 * ((n : Int)).toNat ≤ sizeLine
      rw [sizeLine_eq]
      omega
    have s3 := s2.trans (same_upd (o := .lst (List.replicate ((n : Int)).toNat [V.non]).flatten) ha)
    refine ⟨wv, d, a, n, k, place, ar, ds, rfl, D.same s3, SqL.of ?_, hp, fun c H4 s4 hc ec => ?_⟩
    · rw [upd_same, Int.toNat_natCast, rep_none]
    have s5 := s3.trans s4
    refine ⟨_, rfl, c, _, rfl, SqL.of ec, fun L hL => lc_it (n := k) (by
        have := walk_enum (K := K) (a := c) (xs := (List.range k).map fun h => vN (ways k (gl k ds) (only n place h)))
        rw [List.length_map, List.length_range] at this
        exact this)
      (fun i H' => Same H4 H' ∧ H' L = some (.lst (((List.range i).filter fun h => decide (0 < ways k (gl k ds) (only n place h))).map vN))) ⟨same_upd hL, upd_same⟩ (fun i H' _ p => SqL.of (p.1 _ _ ec)) ?_ ?_⟩
    · rintro i x H' H'' hi ⟨sm, eL⟩ ⟨Ta, x1, x2, rfl, hT, rfl, e1, e2⟩
      have e1' : x1 = vN i := (Option.some.inj e1).symm
      have e2' : x2 = vN (ways k (gl k ds) (only n place i)) := by
        have e3 : ((List.range k).map fun h => vN (ways k (gl k ds) (only n place h)))[i]? = some x2 := e2
        rw [List.getElem?_map, List.getElem?_eq_getElem (by rw [List.length_range]; exact hi), List.getElem_range] at e3
        exact (Option.some.inj e3).symm
      subst e1' e2'
      have s6 : Same H' (upd H' Ta (.tup [vN i, vN (ways k (gl k ds) (only n place i))])) := same_upd hT
      refine ⟨Ta, _, rfl, SqT.of upd_same, rfl, _, _, rfl, _, _, rfl, rfl, rfl, ?_⟩
      by_cases hw0 : 0 < ways k (gl k ds) (only n place i)
      · refine ⟨_, rfl, _, _, rfl, rfl, true, congrArg V.bl (decide_eq_true (by omega)), iteT ?_⟩
        refine ⟨_, rfl, _, s6 _ _ eL, small7 (m := 24) ?_ (by decide), (sm.trans s6).mut hL, ?_⟩
        · rw [List.length_map]
          have := List.length_filter_le (fun h => decide (0 < ways k (gl k ds) (only n place h))) (List.range i)
          rw [List.length_range] at this
          omega
        · rw [upd_same, List.range_succ, List.filter_append, List.map_append]
          simp [hw0]
      · refine ⟨_, rfl, _, _, rfl, rfl, false, congrArg V.bl (decide_eq_false (by omega)), iteF ⟨sm.trans s6, ?_⟩⟩
        rw [List.range_succ, List.filter_append, List.map_append]
        simpa [hw0] using s6 _ _ eL
    · rintro H' ⟨sm, eL⟩
      refine .inl ⟨L, _, rfl, SqL.of eL, fun p hp2 => ?_⟩
      exact q p _ ((s5.trans sm).trans (same_upd hp2)) ((s5.trans sm).free hp2) upd_same

/-! need_wish, can_meet -/
structure Wsh (n k : Nat) (ts : List (Option Nat)) : Prop where
  len : ts.length = n
  lt : ∀ x, some x ∈ ts → x < k
def spNeedWish (K : PySem.W.Frag) : Sp := fun vs H Q _ => ∃ (wv d a : Addr) (n k : Nat) (ar : List (Nat × Nat)) (ds : List Nat) (ts : List (Option Nat)), vs = [.ref wv, vN k, .ref d, .ref a] ∧ Dl K H wv d n k ar ds ∧ SqT K H a (ts.map vO) ∧ Wsh n k ts ∧ ∀ H', Same H H' → Q .non H'
theorem scNeedWish : FnScope ["web", "hours", "dial", "wish", "one"] ["web", "hours", "dial", "wish"] (defScope sNeedWish) := ⟨rfl, rfl, rfl, by decide +kernel, rfl, by decide +kernel, by decide +kernel⟩
theorem c_need_wish (T : Stands K mg "need_wish" sNeedWish ["web", "hours", "dial", "wish"]) (B : Blt mg) (cIsIn : Cal P w K mg base 1 "is_in" spIsIn) (cNeedAll : Cal P w K mg base 4 "need_all" (spNeedAll K)) : Cal P w K mg base 5 "need_wish" (spNeedWish K) := by
  refine cal_of T scNeedWish (fun vs H Q E h => ?_) (fun f cdv A outer s H vs Q E hr h => ?_)
  · obtain ⟨wv, d, a, n, k, ar, ds, ts, rfl, _⟩ := h
    rfl
  · obtain ⟨wv, d, a, n, k, ar, ds, ts, rfl, D, ha, hw, q⟩ := h
    refine ⟨_, pss_cons (ps_expr (pe_d cNeedAll hr (by decide) (by rfl) (pa_cons (pv 0) (pa_cons (pv 1) (pa_cons (pv 2) pa_nil)))))
      (pss_cons (ps_if (PW.pt (pw_or (pt_not (pt_val (pe_callB call_isi (by rfl) B.isinstance b_isinstance (pa_cons (pv 3) (pa_cons (pe_bltn (v := .ty "tuple") (by rfl) B.tuple b_tuple rfl) pa_nil))))) (pw_or1 (pt_cmpR op_ne (pe_callB call_len_seq (by rfl) B.len PySem.boot_len (pa_cons (pv 3) pa_nil)) (pe_ix ix_tup (pv 0) pe_int (fun _ _ => rfl)) (nomark _))))) (pss_one (ps_never)) pss_nil)
      (pss_one (ps_if (pt_cmpR (op_neD hr.units) (pe_lc (own := [("one", 4)]) (g := gName 4) rfl scNeedWish.nd (pi_tup (pv 3)) (blkOk_by (N := ["web", "hours", "dial", "wish", "one"]) (sc := defScope sNeedWish) (by decide +kernel)) (fun _ _ _ _ _ => pg_name (i := 4) scNeedWish.nd rfl (Or.inl rfl)) (fun _ _ _ _ _ => pts_one (PW.pt (pw_and (pt_cmpR op_notN (pv 4) pe_non (nomark _)) (pw_and1 (pt_not (pt_val (pe_d cIsIn hr (by decide) (by rfl) (pa_cons (pv 4) (pa_cons pe_int (pa_cons (pe_op op_sub (pv 1) pe_int) pa_nil)))))))))) (fun _ _ _ _ _ => pv 4)) (pe_lst pa_nil) (nomark _)) (pss_one (ps_never)) pss_nil))), ?_⟩
    refine ⟨_, rfl, _, rfl, _, rfl, wv, d, n, k, ar, ds, rfl, D.web, D.ring, D.k2, D.k24, D.dial, D.len, D.lt, fun H1 s1 => ?_⟩
    obtain ⟨b, tt, hwv, _⟩ := id D.web
    have ha1 := s1.tup ha
    refine ⟨_, rfl, _, _, _, _, true, rfl, .ty _, TyX.tupq ha1, kit_ty (by decide +kernel), true, rfl, iteF ?_⟩
    refine ⟨_, rfl, a, _, rfl, .inr ha1, _, rfl, wv, _, _, _, rfl, rfl, s1.tup hwv, atI_nat (j := 0) rfl, rfl, false, congrArg V.bl (ne_intF (by rw [List.length_map, hw.len])), iteF ?_⟩
    refine ⟨_, rfl, a, rfl, ⟨_, ha1⟩, fun L hL => lc_tup (K := K) (a := a) (xs := ts.map vO) (fun _ H' => Same H1 H' ∧ H' L = some (.lst [])) ⟨same_upd hL, upd_same⟩ (fun _ _ _ p => p.1.tup ha1) ?_ ?_⟩
    · rintro i x H' hx ⟨sm, eL⟩
      rw [List.getElem?_map] at hx
      obtain ⟨o, ho, rfl⟩ := Option.map_eq_some_iff.mp hx
      cases o with
      | none => exact ⟨rfl, _, rfl, rfl, false, rfl, iteF (iteF ⟨sm, eL⟩)⟩
      | some x =>
        have hxk := hw.lt x (List.mem_of_getElem? ho)
        exact ⟨rfl, _, rfl, rfl, true, rfl, iteT ⟨_, rfl, _, rfl, _, _, rfl, rfl, (x : Int), 0, (k : Int) - 1, rfl, true, congrArg V.bl (decide_eq_true ⟨by omega, by omega⟩), iteF ⟨sm, eL⟩⟩⟩
    · rintro H' ⟨sm, eL⟩
      refine ⟨Nat.zero_le _, fun p hp => ?_⟩
      have s2 : Same H' (upd H' p (.lst [])) := same_upd hp
      refine ⟨_, _, .lst (SqL.of (s2 _ _ eL)) .nil, .lst (SqL.of upd_same) .nil, rfl, rfl, false, rfl, iteF ?_⟩
      exact q _ ((s1.trans sm).trans s2)
def spCanMeet (K : PySem.W.Frag) : Sp := fun vs H Q _ => ∃ (wv d a : Addr) (n k : Nat) (ar : List (Nat × Nat)) (ds : List Nat) (ts : List (Option Nat)), vs = [.ref wv, vN k, .ref d, .ref a] ∧ Dl K H wv d n k ar ds ∧ SqT K H a (ts.map vO) ∧ Wsh n k ts ∧
  ∀ H', Same H H' → Q (.bl (decide (0 < ways k (gl k ds) ts))) H'
theorem scCanMeet : FnScope ["web", "hours", "dial", "wish"] ["web", "hours", "dial", "wish"] (defScope sCanMeet) := ⟨rfl, rfl, rfl, by decide +kernel, rfl, by decide +kernel, by decide +kernel⟩
theorem c_can_meet (T : Stands K mg "can_meet" sCanMeet ["web", "hours", "dial", "wish"]) (cNeedWish : Cal P w K mg base 5 "need_wish" (spNeedWish K)) (cCountWith : Cal P w K mg base 5 "count_with" (spCountWith K)) : Cal P w K mg base 6 "can_meet" (spCanMeet K) := by
  refine cal_of T scCanMeet (fun vs H Q E h => ?_) (fun f cdv A outer s H vs Q E hr h => ?_)
  · obtain ⟨wv, d, a, n, k, ar, ds, ts, rfl, _⟩ := h
    rfl
  · obtain ⟨wv, d, a, n, k, ar, ds, ts, rfl, D, ha, hw, q⟩ := h
    refine ⟨_, pss_cons (ps_expr (pe_d cNeedWish hr (by decide) (by rfl) (pa_cons (pv 0) (pa_cons (pv 1) (pa_cons (pv 2) (pa_cons (pv 3) pa_nil))))))
      (pss_one (ps_ret (pe_cmpR op_gt (pe_d cCountWith hr (by decide) (by rfl) (pa_cons (pv 0) (pa_cons (pv 1) (pa_cons (pv 2) (pa_cons (pv 3) pa_nil))))) pe_int (nomark _)))), ?_⟩
    refine ⟨_, rfl, _, rfl, _, rfl, _, rfl, wv, d, a, n, k, ar, ds, ts, rfl, D, ha, hw, fun H1 s1 => ?_⟩
    refine ⟨_, rfl, _, rfl, _, rfl, _, rfl, wv, d, a, n, k, ar, ds, ts, rfl, D.same s1, .inr (s1.tup ha), hw.len, fun H2 s2 => ?_⟩
    refine ⟨_, _, rfl, rfl, ?_⟩
    have e : decide ((0 : Int) < ((ways k (gl k ds) ts : Nat) : Int)) = decide (0 < ways k (gl k ds) ts) := by
      by_cases h0 : 0 < ways k (gl k ds) ts
      · rw [decide_eq_true h0, decide_eq_true (by omega)]
      · rw [decide_eq_false h0, decide_eq_false (by omega)]
    show Q (V.bl (decide ((0 : Int) < ((ways k (gl k ds) ts : Nat) : Int)))) H2
    rw [e]
    exact q _ (s1.trans s2)
end
end CK

set_option Elab.async false
set_option linter.all false
set_option maxRecDepth 100000
/-! plain lists of sizes and counts -/
namespace CK
open PySem PySem.Spec PyProof.Rows L2
abbrev SC := List (Nat × Nat)
def cG : SC → Nat → Option Nat
  | [], _ => none
  | c :: t, s => if c.1 = s then some c.2 else cG t s
def cP : SC → Nat → Nat → SC
  | [], s, v => [(s, v)]
  | c :: t, s, v => if c.1 = s then (s, v) :: t else c :: cP t s v
def cAdd (cs : SC) (s m : Nat) : SC := cP cs s ((cG cs s).getD 0 + m)
def wsum (g : Nat → Nat) (cs : SC) : Nat := (cs.map fun c => g c.1 * c.2).sum
theorem cP_keys : ∀ (cs : SC) (s v x : Nat), x ∈ (cP cs s v).map (·.1) ↔ x = s ∨ x ∈ cs.map (·.1)
  | [], s, v, x => by simp [cP]
  | c :: t, s, v, x => by
    unfold cP
    by_cases e : c.1 = s
    · rw [if_pos e]
      simp [e]
    · rw [if_neg e]
      rw [List.map_cons, List.mem_cons, cP_keys t s v x, List.map_cons, List.mem_cons]
      constructor
      · rintro (h | h | h)
        · exact .inr (.inl h)
        · exact .inl h
        · exact .inr (.inr h)
      · rintro (h | h | h)
        · exact .inr (.inl h)
        · exact .inl h
        · exact .inr (.inr h)
theorem cP_nd : ∀ {cs : SC} (s v : Nat), (cs.map (·.1)).Nodup → ((cP cs s v).map (·.1)).Nodup
  | [], s, v, _ => by simp [cP]
  | c :: t, s, v, h => by
    rw [List.map_cons, List.nodup_cons] at h
    unfold cP
    by_cases e : c.1 = s
    · rw [if_pos e, List.map_cons, List.nodup_cons]
      rw [e] at h
      exact h
    · rw [if_neg e, List.map_cons, List.nodup_cons]
      refine ⟨fun z => ?_, cP_nd s v h.2⟩
      rcases (cP_keys t s v c.1).mp z with z | z
      · exact e z
      · exact h.1 z
theorem cP_len : ∀ (cs : SC) (s v : Nat), (cP cs s v).length ≤ cs.length + 1
  | [], s, v => by simp [cP]
  | c :: t, s, v => by
    unfold cP
    have := cP_len t s v
    by_cases e : c.1 = s
    · rw [if_pos e]
      simp
    · rw [if_neg e]
      simp
      omega
theorem cG_out : ∀ {cs : SC} {s : Nat}, s ∉ cs.map (·.1) → cG cs s = none
  | [], s, _ => rfl
  | c :: t, s, h => by
    rw [List.map_cons, List.mem_cons, not_or] at h
    unfold cG
    rw [if_neg (fun e => h.1 e.symm)]
    exact cG_out h.2
theorem cG_at : ∀ {cs : SC} {j : Nat} {c : Nat × Nat}, (cs.map (·.1)).Nodup → cs[j]? = some c → cG cs c.1 = some c.2
  | [], j, c, _, h => by simp at h
  | d :: t, j, c, nd, h => by
    rw [List.map_cons, List.nodup_cons] at nd
    unfold cG
    match j, h with
    | 0, h =>
      have e : d = c := Option.some.inj h
      rw [e, if_pos rfl]
    | j + 1, h =>
      have hm : t[j]? = some c := h
      rw [if_neg (fun e : d.1 = c.1 => nd.1 (by rw [e]; exact List.mem_map_of_mem (List.mem_of_getElem? hm)))]
      exact cG_at nd.2 hm
theorem wsum_add (g : Nat → Nat) : ∀ {cs : SC} (s m : Nat), (cs.map (·.1)).Nodup → wsum g (cAdd cs s m) = wsum g cs + g s * m
  | [], s, m, _ => by simp [cAdd, cP, cG, wsum]
  | c :: t, s, m, h => by
    rw [List.map_cons, List.nodup_cons] at h
    have ih := wsum_add g s m h.2
    unfold cAdd at ih ⊢
    unfold cP cG
    by_cases e : c.1 = s
    · rw [if_pos e, if_pos e]
      simp only [wsum, List.map_cons, List.sum_cons, Option.getD_some, e]
      rw [Nat.mul_add]
      omega
    · rw [if_neg e, if_neg e]
      simp only [wsum, List.map_cons, List.sum_cons] at ih ⊢
      omega
theorem cAdd_len (cs : SC) (s m : Nat) : (cAdd cs s m).length ≤ cs.length + 1 := cP_len _ _ _
theorem cAdd_nd {cs : SC} (s m : Nat) (h : (cs.map (·.1)).Nodup) : ((cAdd cs s m).map (·.1)).Nodup := cP_nd _ _ h

/-! such a list as rows of the table: keys ((0,), size) -/
def RowsC (kvs : List NE) (cs : SC) : Prop := kvs.map (fun e => (e.1, e.2.2)) = cs.map fun c => (((0 : Int), (c.1 : Int)), V.int (c.2 : Int))
theorem RowsC.cons {kvs : List NE} {cs : SC} {e : NE} {c : Nat × Nat} (h1 : e.1 = ((0 : Int), (c.1 : Int))) (h2 : e.2.2 = V.int (c.2 : Int)) (h : RowsC kvs cs) : RowsC (e :: kvs) (c :: cs) := by
  unfold RowsC at *
  rw [List.map_cons, List.map_cons, h, h1, h2]
theorem RowsC.inv {kvs : List NE} {cs : SC} {e : NE} (h : RowsC (e :: kvs) cs) : ∃ c t, cs = c :: t ∧ e.1 = ((0 : Int), (c.1 : Int)) ∧ e.2.2 = V.int (c.2 : Int) ∧ RowsC kvs t := by
  unfold RowsC at h
  cases cs with
  | nil => simp at h
  | cons c t =>
    rw [List.map_cons, List.map_cons] at h
    have h2 := (List.cons.inj h)
    exact ⟨c, t, rfl, congrArg Prod.fst h2.1, congrArg Prod.snd h2.1, h2.2⟩
theorem key_eq {a b : Nat} : (((0 : Int), (a : Int)) : NK) = ((0 : Int), (b : Int)) ↔ a = b := by
  constructor
  · intro h
    have := congrArg Prod.snd h
    simp at this
    omega
  · rintro rfl
    rfl
theorem RowsC.get : ∀ {kvs : List NE} {cs : SC} (s : Nat), RowsC kvs cs → ngL kvs ((0 : Int), (s : Int)) = (cG cs s).map fun (c : Nat) => V.int (c : Int)
  | [], cs, s, h => by
    cases cs with
    | nil => rfl
    | cons c t => simp [RowsC] at h
  | e :: kvs, cs, s, h => by
    obtain ⟨c, t, rfl, h1, h2, h3⟩ := h.inv
    unfold ngL cG
    rw [List.find?_cons]
    by_cases z : c.1 = s
    · rw [decide_eq_true (by rw [h1]; exact key_eq.mpr z), if_pos z]
      show some e.2.2 = _
      rw [h2]
      rfl
    · rw [decide_eq_false (by rw [h1]; exact fun y => z (key_eq.mp y)), if_neg z]
      exact RowsC.get s h3
theorem npL_pos {e : NE} {kvs : List NE} {k : NK} {q : Addr} {v : V} (h : e.1 = k) : npL (e :: kvs) k q v = (e.1, e.2.1, v) :: kvs.map fun e => if e.1 = k then (e.1, e.2.1, v) else e := by
  unfold npL ngL
  rw [List.find?_cons, decide_eq_true h]
  show (if true = true then _ else _) = _
  rw [if_pos rfl, List.map_cons, if_pos h]
theorem npL_neg {e : NE} {kvs : List NE} {k : NK} {q : Addr} {v : V} (h : ¬ e.1 = k) : npL (e :: kvs) k q v = e :: npL kvs k q v := by
  unfold npL ngL
  rw [List.find?_cons, decide_eq_false h]
  simp only []
  split
  · rw [List.map_cons, if_neg h]
  · rfl
theorem RowsC.put : ∀ {kvs : List NE} {cs : SC} (s : Nat) (q : Addr) (v : Nat), (cs.map (·.1)).Nodup → RowsC kvs cs → RowsC (npL kvs ((0 : Int), (s : Int)) q (V.int (v : Int))) (cP cs s v)
  | [], cs, s, q, v, nd, h => by
    cases cs with
    | nil => rfl
    | cons c t => simp [RowsC] at h
  | e :: kvs, cs, s, q, v, nd, h => by
    obtain ⟨c, t, rfl, h1, h2, h3⟩ := h.inv
    rw [List.map_cons, List.nodup_cons] at nd
    unfold cP
    by_cases z : c.1 = s
    · rw [if_pos z, npL_pos (by rw [h1]; exact key_eq.mpr z)]
      refine .cons (by rw [← z]; exact h1) rfl ?_
      have e2 : (kvs.map fun e => if e.1 = ((0 : Int), (s : Int)) then (e.1, e.2.1, V.int (v : Int)) else e) = kvs := by
        rw [← z]
        clear h
        revert h3 nd
        revert t
        induction kvs with
        | nil => intros; rfl
        | cons d ds ih =>
          intro t nd h3
          obtain ⟨c', t', rfl, g1, g2, g3⟩ := h3.inv
          rw [List.map_cons, List.mem_cons, not_or] at nd
          rw [List.map_cons, if_neg (by rw [g1]; exact fun y => nd.1.1 (key_eq.mp y).symm), ih t' ⟨nd.1.2, (List.nodup_cons.mp nd.2).2⟩ g3]
      rw [e2]
      exact h3
    · rw [if_neg z, npL_neg (by rw [h1]; exact fun y => z (key_eq.mp y))]
      exact .cons h1 h2 (RowsC.put s q v nd.2 h3)
theorem RowsC.len {kvs : List NE} {cs : SC} (h : RowsC kvs cs) : kvs.length = cs.length := by
  have := congrArg List.length h
  rw [List.length_map, List.length_map] at this
  exact this
theorem RowsC.at {kvs : List NE} {cs : SC} (h : RowsC kvs cs) {j : Nat} {e : NE} (he : kvs[j]? = some e) : ∃ c, cs[j]? = some c ∧ e.1 = ((0 : Int), (c.1 : Int)) := by
  have h2 := congrArg (fun l => l[j]?) h
  simp only [List.getElem?_map, he] at h2
  cases hc : cs[j]? with
  | none => rw [hc] at h2; cases h2
  | some c =>
    rw [hc] at h2
    exact ⟨c, rfl, congrArg Prod.fst (Option.some.inj h2)⟩

/-! and as a dict of ints -/
def kvC (cs : SC) : List (Key × V) := cs.map fun c => (Sum.inl (c.1 : Int), V.int (c.2 : Int))
theorem key_eq2 {a b : Nat} : ((Sum.inl (a : Int)) : Key) = Sum.inl (b : Int) ↔ a = b := by
  constructor
  · intro h
    have := Sum.inl.inj h
    omega
  · rintro rfl
    rfl
theorem kvC_get : ∀ (cs : SC) (s : Nat), valV (kvC cs) (Sum.inl (s : Int) : Key) = (cG cs s).map fun (c : Nat) => V.int (c : Int)
  | [], s => rfl
  | c :: t, s => by
    unfold valV kvC cG
    rw [List.map_cons, List.find?_cons]
    by_cases z : c.1 = s
    · rw [decide_eq_true (key_eq2.mpr z), if_pos z]
      rfl
    · rw [decide_eq_false (fun y => z (key_eq2.mp y)), if_neg z]
      exact kvC_get t s
theorem putK_pos {kv : Key × V} {kvs : List (Key × V)} {k : Key} {v : V} (h : kv.1 = k) : putK (kv :: kvs) k v = (kv.1, v) :: kvs.map fun kv => if kv.1 = k then (kv.1, v) else kv := by
  unfold putK
  rw [List.any_cons, decide_eq_true h, Bool.true_or, if_pos rfl, List.map_cons, if_pos h]
theorem putK_neg {kv : Key × V} {kvs : List (Key × V)} {k : Key} {v : V} (h : ¬ kv.1 = k) : putK (kv :: kvs) k v = kv :: putK kvs k v := by
  unfold putK
  rw [List.any_cons, decide_eq_false h, Bool.false_or]
  split
  · rw [List.map_cons, if_neg h]
  · rfl
theorem kvC_put : ∀ {cs : SC} (s v : Nat), (cs.map (·.1)).Nodup → putK (kvC cs) (Sum.inl (s : Int) : Key) (V.int (v : Int)) = kvC (cP cs s v)
  | [], s, v, _ => rfl
  | c :: t, s, v, nd => by
    rw [List.map_cons, List.nodup_cons] at nd
    unfold cP
    by_cases z : c.1 = s
    · rw [if_pos z]
      show putK ((Sum.inl (c.1 : Int), V.int (c.2 : Int)) :: kvC t) _ _ = _
      rw [putK_pos (key_eq2.mpr z)]
      have e2 : ((kvC t).map fun (kv : Key × V) => if kv.1 = Sum.inl (s : Int) then (kv.1, V.int (v : Int)) else kv) = kvC t := by
        rw [← z]
        clear z
        induction t with
        | nil => rfl
        | cons d ds ih =>
          rw [List.map_cons, List.mem_cons, not_or] at nd
          show (if (Sum.inl (d.1 : Int) : Key) = _ then _ else _) :: _ = _
          rw [if_neg (fun y => nd.1.1 (key_eq2.mp y).symm), show List.map _ (List.map _ ds) = kvC ds from ih ⟨nd.1.2, (List.nodup_cons.mp nd.2).2⟩]
          rfl
      rw [e2, z]
      rfl
    · rw [if_neg z]
      show putK ((Sum.inl (c.1 : Int), V.int (c.2 : Int)) :: kvC t) _ _ = _
      rw [putK_neg (fun y => z (key_eq2.mp y)), kvC_put s v nd.2]
      rfl
theorem kvC_len (cs : SC) : (kvC cs).length = cs.length := List.length_map _

/-! divisors -/
def divs (k : Nat) : List Nat := ((List.range k).map fun i => i + 1).filter fun d => decide (k % d = 0)
theorem divs_in {k d : Nat} (h : d ∈ divs k) : 0 < d ∧ d ≤ k ∧ d ∣ k := by
  obtain ⟨h1, h2⟩ := List.mem_filter.mp h
  obtain ⟨i, hi, rfl⟩ := List.mem_map.mp h1
  have := List.mem_range.mp hi
  exact ⟨by omega, by omega, Nat.dvd_of_mod_eq_zero (of_decide_eq_true h2)⟩
theorem divs_len (k : Nat) : (divs k).length ≤ k := by
  have := List.length_filter_le (fun d => decide (k % d = 0)) ((List.range k).map fun i => i + 1)
  rw [List.length_map, List.length_range] at this
  exact this
/-- a table of classes as the law asks for it -/
structure Cls (k n : Nat) (fs : SC) : Prop where
  nd : (fs.map (·.1)).Nodup
  one : wsum (fun _ => 1) fs = (divs k).length
  all : wsum (fun s => s) fs = ((divs k).map fun d => primeTo (k / d) n).sum
  len : fs.length ≤ 24
theorem wsum_perm {fs : SC} (nd : (fs.map (·.1)).Nodup) {ys : List Nat} (hp : ys.Perm (fs.map (·.1))) : wsum (fun s => s) (ys.map fun y => (y, (cG fs y).getD 0)) = wsum (fun s => s) fs := by
  unfold wsum
  rw [List.map_map]
  have e : ((fun c : Nat × Nat => c.1 * c.2) ∘ fun y => (y, (cG fs y).getD 0)) = fun y => y * (cG fs y).getD 0 := rfl
  rw [e, (hp.map _).sum_nat, List.map_map]
  congr 1
  refine List.map_congr_left fun c hc => ?_
  obtain ⟨j, hj⟩ := List.getElem?_of_mem hc
  show c.1 * (cG fs c.1).getD 0 = _
  rw [cG_at nd hj]
  rfl
end CK

set_option Elab.async false
set_option linter.all false
set_option maxRecDepth 100000
set_option maxHeartbeats 4000000
namespace CK
open PySem PySem.Spec PyProof.Rows L2
section
variable {P : Program} {w : World} {K : PySem.W.Frag} {mg : Str → Option Value} {base : Heap}

/-! in_order -/
def spInOrder (K : PySem.W.Frag) : Sp := spPartsIn K
theorem scInOrder : FnScope ["web", "left", "found", "part", "placed", "k", "one"] ["web"] (defScope sInOrder) := ⟨rfl, rfl, rfl, by decide +kernel, rfl, by decide +kernel, by decide +kernel⟩
theorem c_in_order (T : Stands K mg "in_order" sInOrder ["web"]) (B : Blt mg) (cPartsIn : Cal P w K mg base 2 "parts_in" (spPartsIn K)) (cAboveIn : Cal P w K mg base 2 "above_in" (spAboveIn K)) : Cal P w K mg base 3 "in_order" (spInOrder K) := by
  refine cal_of T scInOrder (fun vs H Q E h => ?_) (fun f cdv A outer s H vs Q E hr h => ?_)
  · obtain ⟨wv, n, ar, rfl, _⟩ := h
    rfl
  · obtain ⟨wv, n, ar, rfl, W, R, q⟩ := h
    have n7 := R.n7
    have n2 := R.n2
    refine ⟨_, pss_cons (ps_par (i := 1) (j := 2) rfl scInOrder.nd rfl rfl (by decide) rfl rfl (pa_cons (pe_d cPartsIn hr (by decide) (by rfl) (pa_cons (pv 0) pa_nil)) (pa_cons (pe_lst pa_nil) pa_nil)) (by rfl))
      (pss_cons (ps_while PassesOwn.never (pt_cmpR (op_neD hr.units) (pv 1) (pe_lst pa_nil) (nomark _)) (pss_cons (ps_set (i := 4) scInOrder.nd rfl (Or.inr rfl) (pe_lc2 (own := [("part", 3), ("k", 5)]) (vs1 := [5]) (g := gName 3) (g1 := gName 5) (wi1 := iTup K (tVar 3)) rfl scInOrder.nd (pi_list (pv 2)) (blkOk_by (N := ["web", "left", "found", "part", "placed", "k", "one"]) (sc := defScope sInOrder) (by decide +kernel)) (by decide) (fun _ _ _ _ _ => pg_name (i := 3) scInOrder.nd rfl (Or.inl rfl)) (fun _ _ _ _ _ => pts_nil) (fun _ _ _ _ _ => pi_tup (pv 3)) (fun _ _ _ _ _ => pg_name (i := 5) scInOrder.nd rfl (Or.inl rfl)) (fun _ _ _ _ _ => pts_nil) (fun _ _ _ _ _ => pv 5)))
        (pss_one (ps_for PassesOwn.never rfl (pi_list (pv 1)) (pg_name (i := 3) scInOrder.nd rfl (Or.inr rfl)) (pss_one (ps_if (pt_cmpR (op_eqD hr.units) (pe_lc (own := [("k", 5)]) (g := gName 5) rfl scInOrder.nd (pi_list (pe_d cAboveIn hr (by decide) (by rfl) (pa_cons (pv 0) (pa_cons (pe_ix ix_tup (pv 3) pe_int (fun _ _ => rfl)) pa_nil)))) (blkOk_by (N := ["web", "left", "found", "part", "placed", "k", "one"]) (sc := defScope sInOrder) (by decide +kernel)) (fun _ _ _ _ _ => pg_name (i := 5) scInOrder.nd rfl (Or.inl rfl)) (fun _ _ _ _ _ => pts_one (pt_cmpR (r := rIn K true) op_notIn_seq (pv 5) (pv 4) (by rfl))) (fun _ _ _ _ _ => pv 5)) (pe_lst pa_nil) (nomark _)) (pss_cons (ps_expr (pe_bm PySem.F.plainAttrs_list PySem.F.slot_list_append PySem.F.type_list_append mt_append (pv 2) (pa_cons (pv 3) pa_nil)))
            (pss_cons (ps_setLc (i := 1) (own := [("one", 6)]) (g := gName 6) rfl scInOrder.nd rfl rfl (sw_true rfl rfl rfl (by decide +kernel)) (pi_list (pv 1)) (blkOk_by (N := ["web", "left", "found", "part", "placed", "k", "one"]) (sc := defScope sInOrder) (by decide +kernel)) (fun _ _ _ _ _ => pg_name (i := 6) scInOrder.nd rfl (Or.inl rfl)) (fun _ _ _ _ _ => pts_one (pt_cmpR (r := rNeD K) (op_neD hr.units) (pv 6) (pv 3) (nomark _))) (fun _ _ _ _ _ => pv 6))
            (pss_one (ps_break)))) pss_nil))))))
      (pss_one (ps_ret (pv 2)))), ?_⟩
    refine ⟨_, rfl, wv, n, ar, rfl, W, R, fun p t H1 s1 hp ht ep et => ⟨Nat.zero_le _, fun a ha => ⟨_, _, rfl, ?_⟩⟩⟩
    have s2 : Same H1 (upd H1 a (.lst [])) := same_upd ha
    have ha0 : H a = none := s1.free ha
    have hta : t ≠ a := ne_of_none et ha
    have hpa : p ≠ a := ne_of_none ep ha
    refine ⟨fun m σ H' => ∃ l y3 y4 y5 y6, σ = [some (.ref wv), some (.ref l), some (.ref a), y3, y4, y5, y6] ∧ Same H H' ∧ H' t = some (.tup (rN n)) ∧ l ≠ a ∧ ((m = 1 ∧ H' l = some (.lst [.ref t]) ∧ H' a = some (.lst [])) ∨ (m = 0 ∧ H' l = some (.lst []) ∧ H' a = some (.lst [.ref t]))),
      ⟨1, p, none, none, none, none, rfl, s1.trans s2, s2 _ _ et, hpa, .inl ⟨rfl, s2 _ _ ep, upd_same⟩⟩, ?_⟩
    rintro m σ H' ⟨l, y3, y4, y5, y6, rfl, sm, et', hla, hc⟩
    refine ⟨_, rfl, Nat.zero_le _, fun z hz => ?_⟩
    have s3 : Same H' (upd H' z (.lst [])) := same_upd hz
    rcases hc with ⟨rfl, el, ea⟩ | ⟨rfl, el, ea⟩
    · have dt : ∀ {H2 : Hp}, Same H' H2 → Dp K H2 (.ref t) (.tuple (pdN (List.range n))) := fun s => .tup (SqT.of (s _ _ et')) (DpN K _ _)
      refine ⟨_, _, .lst (SqL.of (s3 _ _ el)) (.cons (dt s3) .nil), .lst (SqL.of upd_same) .nil, shaped_lt _, rfl, true, rfl, iteT ?_⟩
      refine ⟨_, fun _ _ z => z, ?_⟩
      have ea3 := s3 _ _ ea
      refine ⟨_, rfl, a, rfl, ⟨_, SqL.of ea3⟩, fun D hD => ⟨fun i m H2 => Same (upd H' z (.lst [])) H2 ∧ H2 D = some (.lst []), ⟨0, same_upd hD, upd_same⟩, fun i m H2 ⟨s4, eD⟩ => .inl ⟨⟨[], SqL.of (s4 _ _ ea3), Nat.zero_le _⟩, ?_⟩⟩⟩
      have s5 := s3.trans s4
      have el5 := s5 _ _ el
      refine ⟨_, rfl, ?_⟩
      refine ⟨l, rfl, ⟨_, SqL.of el5⟩, for_list (K := K) (a := l) (xs := [.ref t])
        (fun i σ H3 => i = 0 ∧ σ = [some (.ref wv), some (.ref l), some (.ref a), y3, some (.ref D), y5, y6] ∧ H3 = H2) ⟨rfl, rfl, rfl⟩ (fun i σ H3 _ ⟨_, _, e⟩ => by rw [e]; exact SqL.of el5) ?_ ?_⟩
      · rintro i x σ H3 hx ⟨rfl, rfl, rfl⟩
        obtain rfl : V.ref t = x := Option.some.inj hx
        have et5 := s5 _ _ et'
        refine ⟨_, rfl, _, rfl, t, _, _, _, rfl, rfl, SqT.of et5, atI_nat (j := 0) (rN_at (by omega)), wv, n, 0, ar, rfl, W.same (sm.trans s5), R, by omega, fun b H4 s6 hb eb => ?_⟩
        refine ⟨b, rfl, ⟨_, SqL.of eb⟩, fun D2 hD2 => lc_list (K := K) (a := b) (xs := []) (fun i H5 => Same H4 H5 ∧ H5 D2 = some (.lst [])) ⟨same_upd hD2, upd_same⟩ (fun i H5 _ p => SqL.of (p.1 _ _ eb)) (fun i x H5 hx => by simp at hx) ?_⟩
        rintro H5 ⟨s7, e7⟩
        refine ⟨Nat.zero_le _, fun e he => ?_⟩
        have s8 : Same H5 (upd H5 e (.lst [])) := same_upd he
        refine ⟨_, _, .lst (SqL.of (s8 _ _ e7)) .nil, .lst (SqL.of upd_same) .nil, rfl, rfl, true, rfl, iteT ?_⟩
        have s9 := ((s5.trans s6).trans s7).trans s8
        have ea9 := s9 _ _ ea
        refine ⟨_, rfl, .inl ⟨rfl, _, SqL.of ea9⟩, _, rfl, a, _, _, rfl, rfl, ea9, by show 0 < sizeLine; decide, ?_⟩
        have et9 := s9 _ _ et'
        have el9 := s9 _ _ el
        generalize upd H5 e (.lst []) = H9 at *
        have el10 : (upd H9 a (.lst [.ref t])) l = some (.lst [.ref t]) := by rw [upd_ne hla]; exact el9
        have et10 : (upd H9 a (.lst [.ref t])) t = some (.tup (rN n)) := by rw [upd_ne hta]; exact et9
        refine ⟨_, rfl, l, rfl, ⟨_, SqL.of el10⟩, fun D3 hD3 => lc_list (K := K) (a := l) (xs := [.ref t]) (fun i H10 => Same (upd H9 a (.lst [.ref t])) H10 ∧ H10 D3 = some (.lst [])) ⟨same_upd hD3, upd_same⟩ (fun i H10 _ p => SqL.of (p.1 _ _ el10)) ?_ ?_⟩
        · rintro i x H10 hx ⟨s10, e10⟩
          have hx' : x = .ref t := by
            match i, hx with
            | 0, hx => exact (Option.some.inj hx).symm
            | i + 1, hx => simp at hx
          subst hx'
          have et11 := s10 _ _ et10
          have dt2 : Dp K H10 (.ref t) (.tuple (pdN (List.range n))) := .tup (SqT.of et11) (DpN K _ _)
          refine ⟨rfl, _, rfl, _, rfl, _, _, dt2, dt2, shaped_tup _, shaped_tup _, false, congrArg V.bl (by rw [eqv_tupN]; rfl), iteF ⟨s10, e10⟩⟩
        · rintro H10 ⟨s10, e10⟩
          refine ⟨0, by omega, D3, _, _, _, _, rfl, ?_, s10 _ _ et10, ?_, .inr ⟨rfl, e10, s10 _ _ upd_same⟩⟩
          · exact ((sm.trans s9).mut ha0).trans s10
          · exact fun z => by rw [z, upd_same] at hD3; cases hD3
      · rintro σ H3 ⟨h0, _⟩
        cases h0
    · refine ⟨_, _, .lst (SqL.of (s3 _ _ el)) .nil, .lst (SqL.of upd_same) .nil, rfl, rfl, false, rfl, iteF ?_⟩
      exact ⟨_, rfl, q a t _ (sm.trans s3) ha0 ht (s3 _ _ ea) (s3 _ _ et')⟩

/-! divisors -/
def spDivisors : Sp := fun vs H Q _ => ∃ (k : Nat), vs = [vN k] ∧ k ≤ 24 ∧ ∀ p H', Same H H' → H p = none → H' p = some (.lst ((divs k).map vN)) → Q (.ref p) H'
/-- the divisors of k among the first i numbers -/
def divsTo (k i : Nat) : List Nat := ((List.range i).map fun i => i + 1).filter fun d => decide (k % d = 0)
theorem divsTo_len (k i : Nat) : (divsTo k i).length ≤ i := by
  have := List.length_filter_le (fun d => decide (k % d = 0)) ((List.range i).map fun i => i + 1)
  rw [List.length_map, List.length_range] at this
  exact this
theorem divsTo_pos {k i : Nat} (h : k % (i + 1) = 0) : divsTo k (i + 1) = divsTo k i ++ [i + 1] := by
  unfold divsTo
  rw [List.range_succ, List.map_append, List.filter_append]
  simp [h]
theorem divsTo_neg {k i : Nat} (h : ¬ k % (i + 1) = 0) : divsTo k (i + 1) = divsTo k i := by
  unfold divsTo
  rw [List.range_succ, List.map_append, List.filter_append]
  simp [h]
theorem scDivisors : FnScope ["number", "one"] ["number"] (defScope sDivisors) := ⟨rfl, rfl, rfl, by decide +kernel, rfl, by decide +kernel, by decide +kernel⟩
theorem c_divisors (T : Stands K mg "divisors" sDivisors ["number"]) (B : Blt mg) : Cal P w K mg base 1 "divisors" spDivisors := by
  refine cal_of T scDivisors (fun vs H Q E h => ?_) (fun f cdv A outer s H vs Q E hr h => ?_)
  · obtain ⟨k, rfl, _⟩ := h
    rfl
  · obtain ⟨k, rfl, hk, q⟩ := h
    refine ⟨_, pss_one (ps_ret (pe_lc (own := [("one", 1)]) (g := gName 1) rfl scDivisors.nd (pi_range2 rfl B.range (pa_cons pe_int (pa_cons (pe_op op_add (pv 0) pe_int) pa_nil))) (blkOk_by (N := ["number", "one"]) (sc := defScope sDivisors) (by decide +kernel)) (fun _ _ _ _ _ => pg_name (i := 1) scDivisors.nd rfl (Or.inl rfl)) (fun _ _ _ _ _ => pts_one (pt_cmpR op_eq (pe_op op_mod (pv 0) (pv 1)) pe_int (nomark _))) (fun _ _ _ _ _ => pv 1))), ?_⟩
    refine ⟨_, rfl, _, _, rfl, rfl, 1, (k : Int) + 1, rfl, ⟨by omega, by omega, by omega, by omega⟩, fun D hD => lc_range (lo := 1) (n := ((k : Int) + 1 - 1).toNat)
      (fun i H' => Same H H' ∧ H' D = some (.lst ((divsTo k i).map vN))) ⟨same_upd hD, upd_same⟩ ?_ ?_⟩
    · rintro i H' hi ⟨sm, eD⟩
      have hik : i < k := by omega
      have hm : (k : Int) % (1 + (i : Nat)) = ((k % (i + 1) : Nat) : Int) := by rw [Int.natCast_emod, Int.add_comm]; rfl
      by_cases h0 : k % (i + 1) = 0
      · refine ⟨rfl, _, rfl, _, rfl, _, _, rfl, rfl, by omega, rfl, true, congrArg V.bl (eq_int (by rw [hm, h0]; rfl)), iteT ?_⟩
        refine ⟨_, rfl, _, eD, small7 (m := 24) ?_ (by decide), sm.mut hD, ?_⟩
        · rw [List.length_map]
          have := divsTo_len k i
          omega
        · rw [upd_same, divsTo_pos h0, List.map_append, Int.add_comm]
          rfl
      · refine ⟨rfl, _, rfl, _, rfl, _, _, rfl, rfl, by omega, rfl, false, congrArg V.bl (eq_intF (by rw [hm]; omega)), iteF ⟨sm, ?_⟩⟩
        rw [divsTo_neg h0]
        exact eD
    · rintro H' ⟨sm, eD⟩
      rw [show ((k : Int) + 1 - 1).toNat = k by omega] at eD
      exact q D H' sm hD eD
end
end CK

set_option Elab.async false
set_option linter.all false
set_option maxRecDepth 100000
set_option maxHeartbeats 4000000
namespace CK
open PySem PySem.Spec PyProof.Rows L2
section
variable {P : Program} {w : World} {K : PySem.W.Frag} {mg : Str → Option Value} {base : Heap}

/-! choices -/
/-- tuples of a divisor, 1 and a size -/
def Chs (H : Hp) (k n : Nat) (ts : List Addr) (ds : List Nat) : Prop := ts.length = ds.length ∧ ∀ (i : Nat) (t : Addr) (d : Nat), ts[i]? = some t → ds[i]? = some d → H t = some (.tup [vN d, vN 1, vN (primeTo (k / d) n)])
theorem Chs.same {H H' : Hp} {k n : Nat} {ts : List Addr} {ds : List Nat} (e : Same H H') (h : Chs H k n ts ds) : Chs H' k n ts ds := ⟨h.1, fun i t d a b => e _ _ (h.2 i t d a b)⟩
def spChoices (K : PySem.W.Frag) : Sp := fun vs H Q _ => ∃ (t : Addr) (n k : Nat), vs = [vN k, .ref t, vN k] ∧ SqT K H t (rN n) ∧ 2 ≤ n ∧ n ≤ 7 ∧ 0 < k ∧ k ≤ 24 ∧
  ∀ (p : Addr) (ts : List Addr) H', Same H H' → H p = none → H' p = some (.lst (ts.map V.ref)) → Chs H' k n ts (divs k) → Q (.ref p) H'
theorem scChoices : FnScope ["hours", "part", "flow", "found", "one", "size", "k"] ["hours", "part", "flow"] (defScope sChoices) := ⟨rfl, rfl, rfl, by decide +kernel, rfl, by decide +kernel, by decide +kernel⟩
theorem c_choices (T : Stands K mg "choices" sChoices ["hours", "part", "flow"]) (B : Blt mg) (cDivisors : Cal P w K mg base 1 "divisors" spDivisors) (cPrimeTo : Cal P w K mg base 1 "prime_to" spPrimeTo) : Cal P w K mg base 2 "choices" (spChoices K) := by
  refine cal_of T scChoices (fun vs H Q E h => ?_) (fun f cdv A outer s H vs Q E hr h => ?_)
  · obtain ⟨t, n, k, rfl, _⟩ := h
    rfl
  · obtain ⟨t, n, k, rfl, ht, n2, n7, k0, k24, q⟩ := h
    refine ⟨_, pss_cons (ps_set (i := 3) scChoices.nd rfl (Or.inl rfl) (pe_lst pa_nil))
      (pss_cons (ps_for PassesOwn.never rfl (pi_list (pe_d cDivisors hr (by decide) (by rfl) (pa_cons (pv 2) pa_nil))) (pg_name (i := 4) scChoices.nd rfl (Or.inl rfl)) (pss_one (ps_if (pt_cmpR op_eq (pe_callB call_len_seq (by rfl) B.len PySem.boot_len (pa_cons (pv 1) pa_nil)) pe_int (nomark _)) (pss_one (ps_expr (pe_bm PySem.F.plainAttrs_list PySem.F.slot_list_append PySem.F.type_list_append mt_append (pv 3) (pa_cons (pe_tup (pa_cons (pv 4) (pa_cons (pe_d cPrimeTo hr (by decide) (by rfl) (pa_cons (pe_op op_fdiv (pv 2) (pv 4)) (pa_cons pe_int pa_nil))) (pa_cons (pe_op op_fdiv (pv 0) (pv 2)) pa_nil)))) pa_nil)))) (pss_cons (ps_set (i := 5) scChoices.nd rfl (Or.inl rfl) (pe_d cPrimeTo hr (by decide) (by rfl) (pa_cons (pe_op op_fdiv (pv 2) (pv 4)) (pa_cons (pe_callB call_len_seq (by rfl) B.len PySem.boot_len (pa_cons (pv 1) pa_nil)) pa_nil))))
          (pss_cons (ps_for PassesOwn.never rfl (pi_tup (pv 1)) (pg_name (i := 6) scChoices.nd rfl (Or.inl rfl)) (pss_one (ps_aug (i := 5) scChoices.nd rfl (Or.inl rfl) (pe_op op_fdiv (pv 0) (pv 2)) iop_mul)))
          (pss_one (ps_expr (pe_bm PySem.F.plainAttrs_list PySem.F.slot_list_append PySem.F.type_list_append mt_append (pv 3) (pa_cons (pe_tup (pa_cons (pv 4) (pa_cons pe_int (pa_cons (pv 5) pa_nil)))) pa_nil)))))))))
      (pss_one (ps_ret (pv 3)))), ?_⟩
    refine ⟨Nat.zero_le _, fun a ha => ?_⟩
    have s1 : Same H (upd H a (.lst [])) := same_upd ha
    refine ⟨_, rfl, k, rfl, k24, fun p H1 s2 hp ep => ?_⟩
    have hap : p ≠ a := fun z => by rw [z, upd_same] at hp; cases hp
    have hp0 := s1.free hp
    refine ⟨p, rfl, ⟨_, SqL.of ep⟩, for_list (K := K) (a := p) (xs := (divs k).map vN)
      (fun i σ H' => ∃ y4 y5 y6 ts, σ = [some (vN k), some (.ref t), some (vN k), some (.ref a), y4, y5, y6] ∧ Same H H' ∧ H' p = some (.lst ((divs k).map vN)) ∧ H' a = some (.lst (ts.map V.ref)) ∧ Chs H' k n ts ((divs k).take i) ∧ a ∉ ts)
      ⟨none, none, none, [], rfl, s1.trans s2, ep, s2 _ _ upd_same, ⟨rfl, fun i t d h => by simp at h⟩, by simp⟩ (fun i σ H' _ ⟨_, _, _, _, _, _, e, _⟩ => SqL.of e) ?_ ?_⟩
    · rintro i x σ H' hx ⟨y4, y5, y6, ts, rfl, sm, ep', ea, hc, hat⟩
      rw [List.getElem?_map] at hx
      obtain ⟨d, hd, rfl⟩ := Option.map_eq_some_iff.mp hx
      obtain ⟨d0, dk, dd⟩ := divs_in (List.mem_of_getElem? hd)
      have hil : i < (divs k).length := (List.getElem?_eq_some_iff.mp hd).1
      have htl : ts.length = i := by rw [hc.1, List.length_take]; omega
      have hdl := divs_len k
      refine ⟨_, rfl, t, _, rfl, .inr (sm.tup ht), rfl, false, congrArg V.bl (eq_intF (by rw [rN_len]; omega)), iteF ?_⟩
      have hq0 : 0 < k / d := Nat.div_pos dk d0
      have hqk : k / d ≤ k := Nat.div_le_self _ _
      refine ⟨_, rfl, _, rfl, _, _, rfl, rfl, ⟨by omega, by omega⟩, _, rfl, t, _, rfl, .inr (sm.tup ht), k / d, n, ?_, hq0, by omega, n7, ?_⟩
      · rw [rN_len]
        rfl
      refine ⟨_, rfl, t, rfl, ⟨_, sm.tup ht⟩, for_tup (K := K) (a := t) (xs := rN n)
        (fun j σ H2 => H2 = H' ∧ ∃ y6, σ = [some (vN k), some (.ref t), some (vN k), some (.ref a), some (vN d), some (vN (primeTo (k / d) n)), y6]) ⟨rfl, _, rfl⟩ (fun j σ H2 _ ⟨e, _⟩ => by rw [e]; exact sm.tup ht) ?_ ?_⟩
      · rintro j x σ H2 hx ⟨rfl, y6, rfl⟩
        have hkk : (k : Int) / (k : Int) = 1 := Int.ediv_self (by omega)
        refine ⟨_, rfl, _, rfl, _, rfl, _, _, rfl, rfl, ⟨by omega, by omega⟩, _, _, rfl, rfl, .inr ⟨by rw [hkk]; decide, by rw [hkk]; decide⟩, rfl, some x, ?_⟩
        show [_, _, _, _, _, some (V.int (((primeTo (k / d) n : Nat) : Int) * ((k : Int) / (k : Int)))), _] = _
        rw [hkk, Int.mul_one]
      · rintro σ H2 ⟨rfl, y6, rfl⟩
        refine ⟨_, rfl, .inl ⟨rfl, _, SqL.of ea⟩, _, rfl, _, rfl, by show 3 ≤ sizeLine; decide, fun c hc0 => ?_⟩
        have s3 : Same H2 (upd H2 c (.tup [vN d, vN 1, vN (primeTo (k / d) n)])) := same_upd hc0
        have hca : c ≠ a := fun z => by rw [z, ea] at hc0; cases hc0
        refine ⟨a, _, _, rfl, rfl, s3 _ _ ea, small7 (m := 24) (by rw [List.length_map]; omega) (by decide), ?_⟩
        refine ⟨_, _, _, ts ++ [c], rfl, (sm.trans s3).mut ha, ?_, ?_, ⟨?_, fun j u e hj he => ?_⟩, ?_⟩
        · rw [upd_ne hap]
          exact s3 _ _ ep'
        · rw [upd_same, List.map_append]
          rfl
        · rw [List.length_append, htl, List.length_take]
          simp
          omega
        · by_cases hji : j < i
          · rw [List.getElem?_append_left (by omega)] at hj
            rw [List.getElem?_take_of_lt (by omega)] at he
            have hu : u ≠ a := fun z => hat (z ▸ List.mem_of_getElem? hj)
            rw [upd_ne hu]
            exact s3 _ _ (hc.2 j u e hj (by rw [List.getElem?_take_of_lt hji]; exact he))
          · have hj2 := (List.getElem?_eq_some_iff.mp hj).1
            rw [List.length_append, htl] at hj2
            have e1 : j = i := by simp at hj2; omega
            subst e1
            rw [List.getElem?_append_right (by omega), htl, Nat.sub_self] at hj
            obtain rfl : c = u := Option.some.inj hj
            rw [List.getElem?_take_of_lt (by omega), hd] at he
            obtain rfl : d = e := Option.some.inj he
            rw [upd_ne hca]
            exact upd_same
        · intro z
          rcases List.mem_append.mp z with z | z
          · exact hat z
          · exact hca (List.mem_singleton.mp z).symm
    · rintro σ H' ⟨y4, y5, y6, ts, rfl, sm, ep', ea, hc, hat⟩
      rw [List.length_map, List.take_length] at hc
      exact ⟨_, rfl, q a ts H' sm ha ea hc⟩
end
end CK

set_option Elab.async false
set_option linter.all false
set_option maxRecDepth 100000
set_option maxHeartbeats 4000000
namespace CK
open PySem PySem.Spec PyProof.Rows L2
section
variable {P : Program} {w : World} {K : PySem.W.Frag} {mg : Str → Option Value} {base : Heap}

/-- the same but for one place -/
def SX (m : Addr) (H H' : Hp) : Prop := ∀ b o, b ≠ m → H b = some o → H' b = some o
theorem SX.of {m : Addr} {H H' : Hp} (e : Same H H') : SX m H H' := fun b o _ h => e b o h
theorem SX.trans {m : Addr} {H H1 H2 : Hp} (a : SX m H H1) (b : SX m H1 H2) : SX m H H2 := fun c o n h => b c o n (a c o n h)
theorem SX.upd {m : Addr} {H H' : Hp} {o : HO} (e : SX m H H') : SX m H (L2.upd H' m o) := fun b u n h => by rw [upd_ne n]; exact e b u n h
theorem SX.same {m : Addr} {H H' : Hp} (e : SX m H H') (h : H m = none) : Same H H' := fun b o q => e b o (fun z => by rw [z, h] at q; cases q) q
theorem SX.nk {m : Addr} {H H' : Hp} {k : NK} {q : Addr} (e : SX m H H') (h : ∀ xs, H m ≠ some (.tup xs)) (x : NKAt H k q) : NKAt H' k q := by
  obtain ⟨r, e1, e2⟩ := x
  exact ⟨r, e q _ (fun z => h _ (z ▸ e1)) e1, e r _ (fun z => h _ (z ▸ e2)) e2⟩
theorem SX.nks {m : Addr} {H H' : Hp} {kvs : List NE} (e : SX m H H') (h : ∀ xs, H m ≠ some (.tup xs)) (x : NKs H kvs) : NKs H' kvs := fun p hp => e.nk h (x p hp)
theorem SX.tup {m : Addr} {H H' : Hp} {a : Addr} {xs : List V} (e : SX m H H') (h : H a = some (.tup xs)) (hm : ∀ ys, H m ≠ some (.tup ys)) : H' a = some (.tup xs) := e a _ (fun z => hm _ (z ▸ h)) h
theorem walk_nkeys {d : Addr} {o : Obj} {kvs : List NE} : Walk (Itn P w d o kvs) kvs.length (fun H => H d = some (.frz o (ND P w d kvs))) (fun i H x H' => H' = H ∧ ∃ e, kvs[i]? = some e ∧ x = .ref e.2.1) :=
  ⟨fun _ _ hi q => ⟨q, hi⟩, fun _ q => ⟨q, Nat.le_refl _⟩, fun _ _ _ _ _ _ y => y⟩
/-- the table behind i of the divisors -/
structure Tab (k n i : Nat) (cs : SC) : Prop where
  nd : (cs.map (·.1)).Nodup
  one : wsum (fun _ => 1) cs = i
  all : wsum (fun s => s) cs = (((divs k).take i).map fun d => primeTo (k / d) n).sum
  len : cs.length ≤ i
theorem Tab.step {k n i d : Nat} {cs : SC} (h : Tab k n i cs) (hd : (divs k)[i]? = some d) : Tab k n (i + 1) (cAdd cs (primeTo (k / d) n) 1) where
  nd := cAdd_nd _ _ h.nd
  one := by rw [wsum_add _ _ _ h.nd, h.one]
  all := by
    rw [wsum_add _ _ _ h.nd, h.all, List.take_add_one, hd, Nat.mul_one]
    simp
  len := by
    have := cAdd_len cs (primeTo (k / d) n) 1
    have := h.len
    omega
/-- what was found behind j of the rows -/
structure Fnd (cs : SC) (j : Nat) (fs : SC) : Prop where
  nd : (fs.map (·.1)).Nodup
  all : ∀ g, wsum g fs = wsum g (cs.take j)
  len : fs.length ≤ j
theorem Fnd.step {cs : SC} {j : Nat} {fs : SC} {c : Nat × Nat} (h : Fnd cs j fs) (hc : cs[j]? = some c) : Fnd cs (j + 1) (cAdd fs c.1 c.2) where
  nd := cAdd_nd _ _ h.nd
  all := fun g => by
    rw [wsum_add _ _ _ h.nd, h.all, List.take_add_one, hc]
    unfold wsum
    simp
  len := by
    have := cAdd_len fs c.1 c.2
    have := h.len
    omega

/-! class_table -/
def spClassTable (K : PySem.W.Frag) : Sp := fun vs H Q _ => ∃ (wv : Addr) (n k : Nat) (ar : List (Nat × Nat)), vs = [.ref wv, vN k] ∧ Web K H wv n ar ∧ Ring n ar ∧ 2 ≤ k ∧ k ≤ 24 ∧
  ∀ (f : Addr) (fs : SC) H', Same H H' → H f = none → H' f = some (.dK (kvC fs)) → Cls k n fs → Q (.ref f) H'
theorem scClassTable : FnScope ["web", "hours", "order", "rows", "at", "part", "k", "below", "more", "flows", "size", "one", "marks", "dials", "fresh", "key", "found"] ["web", "hours"] (defScope sClassTable) := ⟨rfl, rfl, rfl, by decide +kernel, rfl, by decide +kernel, by decide +kernel⟩
theorem c_class_table (T : Stands K mg "class_table" sClassTable ["web", "hours"]) (B : Blt mg) (cInOrder : Cal P w K mg base 3 "in_order" (spInOrder K)) (cAboveIn : Cal P w K mg base 2 "above_in" (spAboveIn K)) (cChoices : Cal P w K mg base 2 "choices" (spChoices K)) (cGcd : Cal P w K mg base 1 "gcd" spGcd) : Cal P w K mg base 4 "class_table" (spClassTable K) := by
  refine cal_of T scClassTable (fun vs H Q E h => ?_) (fun f cdv A outer s H vs Q E hr h => ?_)
  · obtain ⟨wv, n, k, ar, rfl, _⟩ := h
    rfl
  · obtain ⟨wv, n, k, ar, rfl, W, R, k2, k24, q⟩ := h
    have n7 := R.n7
    have n2 := R.n2
    refine ⟨_, pss_cons (ps_set (i := 2) scClassTable.nd rfl (Or.inr rfl) (pe_d cInOrder hr (by decide) (by rfl) (pa_cons (pv 0) pa_nil)))
      (C8.pss_cut (ps_set (i := 3) scClassTable.nd rfl (Or.inl rfl) (pe_ndisp hr (pe_tup (pa_cons (pe_op op_rep1 (pe_tup (pa_cons (pv 1) pa_nil)) (pe_callB call_len_seq (by rfl) B.len PySem.boot_len (pa_cons (pv 2) pa_nil))) (pa_cons pe_int pa_nil))) pe_int))
      (C8.pss_cut (ps_for PassesOwn.never rfl (pi_enum (by rfl) B.enumerate (pa_cons (pv 2) pa_nil)) (pg_tup rfl (pgs_cons (pg_name (i := 4) scClassTable.nd rfl (Or.inl rfl)) (pgs_cons (pg_name (i := 5) scClassTable.nd rfl (Or.inr rfl)) pgs_nil))) (pss_cons (ps_setLc (i := 7) (own := [("k", 6)]) (g := gName 6) rfl scClassTable.nd rfl rfl (sw_true rfl rfl rfl (by decide +kernel)) (pi_range2 rfl B.range (pa_cons (pe_op op_add (pv 4) pe_int) (pa_cons (pe_callB call_len_seq (by rfl) B.len PySem.boot_len (pa_cons (pv 2) pa_nil)) pa_nil))) (blkOk_by (N := ["web", "hours", "order", "rows", "at", "part", "k", "below", "more", "flows", "size", "one", "marks", "dials", "fresh", "key", "found"]) (sc := defScope sClassTable) (by decide +kernel)) (fun _ _ _ _ _ => pg_name (i := 6) scClassTable.nd rfl (Or.inl rfl)) (fun _ _ _ _ _ => pts_one (pt_cmpR (r := rIn K false) op_in_seq (pe_ix (r := rIxT K) ix_tup (pv 5) pe_int (fun _ _ => rfl)) (pe_d cAboveIn hr (by decide) (by rfl) (pa_cons (pv 0) (pa_cons (pe_ix (r := rIxT K) ix_tup (pe_ix (r := rIxL K) ix_list (pv 2) (pv 6) (fun _ _ => rfl)) pe_int (fun _ _ => rfl)) pa_nil))) (by rfl))) (fun _ _ _ _ _ => pv 6))
        (C8.pss_cut (ps_set (i := 8) scClassTable.nd rfl (Or.inl rfl) pe_nnew)
        (pss_cons (ps_lock (ps_for PassesOwn.never rfl (pi_nkeys (pv 3)) (pg_tup rfl (pgs_cons (pg_name (i := 9) scClassTable.nd rfl (Or.inl rfl)) (pgs_cons (pg_name (i := 10) scClassTable.nd rfl (Or.inl rfl)) pgs_nil))) (pss_one (ps_for PassesOwn.never rfl (pi_list (pe_d cChoices hr (by decide) (by rfl) (pa_cons (pv 1) (pa_cons (pv 5) (pa_cons (pe_ix ix_tup (pv 9) (pv 4) (fun _ _ => rfl)) pa_nil))))) (pg_tup rfl (pgs_cons (pg_name (i := 11) scClassTable.nd rfl (Or.inl rfl)) (pgs_cons (pg_name (i := 12) scClassTable.nd rfl (Or.inl rfl)) (pgs_cons (pg_name (i := 13) scClassTable.nd rfl (Or.inl rfl)) pgs_nil)))) (pss_cons (ps_set (i := 14) scClassTable.nd rfl (Or.inl rfl) (pe_callTy call_list_of (by rfl) B.list b_list (pa_cons (pv 9) pa_nil)))
            (pss_cons (ps_asg pe_int (pg_sub (pv 14) (pv 4) set_list))
            (pss_cons (ps_for PassesOwn.never rfl (pi_list (pv 7)) (pg_name (i := 6) scClassTable.nd rfl (Or.inl rfl)) (pss_one (ps_asg (pe_d cGcd hr (by decide) (by rfl) (pa_cons (pe_ix ix_list (pv 14) (pv 6) (fun _ _ => rfl)) (pa_cons (pv 11) pa_nil))) (pg_sub (pv 14) (pv 6) set_list))))
            (pss_cons (ps_set (i := 15) scClassTable.nd rfl (Or.inl rfl) (pe_tup (pa_cons (pe_tupleOf (by rfl) B.tuple (pv 14)) (pa_cons (pe_op op_mul (pv 10) (pv 13)) pa_nil))))
            (pss_one (ps_nput hr (pv 8) (pv 15) (pe_op op_add (pe_nget2 hr (pv 8) (pv 15) pe_int ⟨rfl, rfl, rfl, rfl⟩) (pe_op op_mul (pe_nget hr (pv 3) (pe_tup (pa_cons (pv 9) (pa_cons (pv 10) pa_nil))) (fun _ _ => rfl)) (pv 12))) rfl))))))))))
        (pss_one (ps_set (i := 3) scClassTable.nd rfl (Or.inl rfl) (pv 8)))))))
      (pss_cons (ps_set (i := 16) scClassTable.nd rfl (Or.inl rfl) pe_dnewK)
      (pss_cons (ps_lock (ps_for PassesOwn.never rfl (pi_nkeys (pv 3)) (pg_tup rfl (pgs_cons (pg_name (i := 9) scClassTable.nd rfl (Or.inl rfl)) (pgs_cons (pg_name (i := 10) scClassTable.nd rfl (Or.inl rfl)) pgs_nil))) (pss_one (ps_dput (hu_of hr) (pv 16) (pv 10) (pe_op op_add (pe_dget2 (hu_of hr) (pv 16) (pv 10) pe_int ⟨rfl, rfl, rfl, rfl⟩) (pe_nget hr (pv 3) (pe_tup (pa_cons (pv 9) (pa_cons (pv 10) pa_nil))) (fun _ _ => rfl))) rfl))))
      (pss_one (ps_ret (pv 16))))))), ?_⟩
    refine ⟨_, rfl, wv, n, ar, rfl, W, R, fun p t H1 s1 hp ht ep et => ?_⟩
    refine ⟨fun σ H' => ∃ r c q0, σ = [some (.ref wv), some (vN k), some (.ref p), some (.ref r), none, none, none, none, none, none, none, none, none, none, none, none, none] ∧
      Same H H' ∧ H r = none ∧ H' p = some (.lst [.ref t]) ∧ H' t = some (.tup (rN n)) ∧ H' c = some (.tup [vN k]) ∧ H' q0 = some (.tup [.ref c, vN 1]) ∧ H' r = some (ND P w r [(((k : Int), 1), q0, V.int 1)]), ?_, ?_⟩
    · refine fun r hr0 => ?_
      have sa : Same H1 (upd H1 r (ND P w r [])) := same_upd hr0
      refine ⟨_, rfl, by show 1 ≤ sizeLine; decide, fun c hc0 => ?_⟩
      have sb : Same (upd H1 r (ND P w r [])) (upd (upd H1 r (ND P w r [])) c (.tup [vN k])) := same_upd hc0
      have hcr : r ≠ c := ne_of_none upd_same hc0
      refine ⟨_, rfl, p, _, rfl, .inl (SqL.of (sb _ _ (sa _ _ ep))), c, _, rfl, rfl, SqT.of upd_same, ?_⟩
      refine ⟨by show 2 ≤ sizeLine; decide, fun q0 hq0 => ?_⟩
      have sc : Same (upd (upd H1 r (ND P w r [])) c (.tup [vN k])) (upd (upd (upd H1 r (ND P w r [])) c (.tup [vN k])) q0 (.tup [.ref c, vN 1])) := same_upd hq0
      have ec : (upd (upd (upd H1 r (ND P w r [])) c (.tup [vN k])) q0 (.tup [.ref c, vN 1])) c = some (.tup [vN k]) := sc _ _ upd_same
      have er : (upd (upd (upd H1 r (ND P w r [])) c (.tup [vN k])) q0 (.tup [.ref c, vN 1])) r = some (ND P w r []) := sc _ _ (sb _ _ upd_same)
      refine ⟨er, ((k : Int), 1), q0, rfl, ⟨c, upd_same, ec⟩, ?_⟩
      have hH1 : Same H1 (upd (upd (upd H1 r (ND P w r [])) c (.tup [vN k])) q0 (.tup [.ref c, vN 1])) := (sa.trans sb).trans sc
      have eq0 : (upd (upd (upd H1 r (ND P w r [])) c (.tup [vN k])) q0 (.tup [.ref c, vN 1])) q0 = some (.tup [.ref c, vN 1]) := upd_same
      have hqr : q0 ≠ r := ne_of eq0 er (by intro z; cases z)
      refine ⟨r, c, q0, rfl, s1.trans (hH1.mut hr0), s1.free hr0, (hH1.mut hr0) _ _ ep, (hH1.mut hr0) _ _ et, ?_, ?_, upd_same⟩
      · rw [upd_ne hcr.symm]; exact ec
      · rw [upd_ne hqr]; exact eq0
    rintro σ H3 ⟨r, c, q0, rfl, s3, hr0, ep3, et3, ec3, eq3, er3⟩
    refine ⟨fun σ H' => ∃ m kvs cs y4 y5 y6 y7 y8 y9 y10 y11 y12 y13 y14 y15, σ = [some (.ref wv), some (vN k), some (.ref p), some (.ref m), y4, y5, y6, y7, y8, y9, y10, y11, y12, y13, y14, y15, none] ∧
          Same H H' ∧ H m = none ∧ H' m = some (ND P w m kvs) ∧ NKs H' kvs ∧ RowsC kvs cs ∧ Tab k n (divs k).length cs, ?_, ?_⟩
    · refine ⟨_, rfl, p, _, rfl, SqL.of ep3, for_it (n := 1) (walk_enum (K := K) (a := p) (xs := [.ref t]))
        (fun i σ H' => SqL K H' p [.ref t] ∧ ((i = 0 ∧ H' = H3 ∧ σ = [some (.ref wv), some (vN k), some (.ref p), some (.ref r), none, none, none, none, none, none, none, none, none, none, none, none, none]) ∨
          (i = 1 ∧ ∃ m kvs cs y4 y5 y6 y7 y8 y9 y10 y11 y12 y13 y14 y15, σ = [some (.ref wv), some (vN k), some (.ref p), some (.ref m), y4, y5, y6, y7, y8, y9, y10, y11, y12, y13, y14, y15, none] ∧
            Same H H' ∧ H m = none ∧ H' m = some (ND P w m kvs) ∧ NKs H' kvs ∧ RowsC kvs cs ∧ Tab k n (divs k).length cs)))
        ⟨SqL.of ep3, .inl ⟨rfl, rfl, rfl⟩⟩ (fun i σ H' _ p => p.1) ?_ ?_⟩
      · rintro i x σ H' H4 hi ⟨_, ⟨rfl, hH', rfl⟩ | ⟨h1, _⟩⟩ ⟨Ta, x1, x2, rfl, hT, rfl, e1, e2⟩
        · obtain rfl : H3 = H' := hH'.symm
          obtain rfl : V.int 0 = x1 := Option.some.inj e1
          obtain rfl : V.ref t = x2 := Option.some.inj e2
          refine ⟨Ta, _, rfl, SqT.of upd_same, rfl, _, _, rfl, _, _, rfl, rfl, ?_⟩
          have s5 : Same H3 (upd H3 Ta (.tup [.int (0 : Nat), .ref t])) := same_upd hT
          refine ⟨_, rfl, _, _, rfl, rfl, _, rfl, p, _, rfl, .inl (SqL.of (s5 _ _ ep3)), 1, 1, rfl, ⟨by decide, by decide, by decide, by decide⟩, fun D hD => lc_range (lo := 1) (n := 0)
            (fun i H' => Same H3 H' ∧ H' D = some (.lst [])) ⟨s5.trans (same_upd hD), upd_same⟩ (fun i H' hi _ => absurd hi (Nat.not_lt_zero i)) ?_⟩
          rintro H6' ⟨s6', e6⟩
          refine ⟨fun σ H6 => ∃ m D, σ = [some (.ref wv), some (vN k), some (.ref p), some (.ref r), some (.int 0), some (.ref t), none, some (.ref D), some (.ref m), none, none, none, none, none, none, none, none] ∧
            Same H3 H6 ∧ H3 m = none ∧ H6 D = some (.lst []) ∧ H6 m = some (ND P w m []), fun m hm => ⟨m, D, rfl, s6'.trans (same_upd hm), s6'.free hm, (same_upd hm) _ _ e6, upd_same⟩, ?_⟩
          clear s6' e6 H6' hD D
          rintro σ H6 ⟨m, D, rfl, s6, hm3, eD, em⟩
          have hm0 : H m = none := s3.free hm3
          have hrm : r ≠ m := ne_of_none er3 hm3
          have hrD : D ≠ r := ne_of eD (s6 _ _ er3) (by intro z; cases z)
          have er6 := s6 _ _ er3
          refine ⟨r, ND P w r [(((k : Int), 1), q0, V.int 1)], er6, True.intro, fun od => ?_⟩
          have sxr : SX r H6 (upd H6 r (.frz od (ND P w r [(((k : Int), 1), q0, V.int 1)]))) := (SX.of (Same.refl _)).upd
          have htr : ∀ xs, H6 r ≠ some (.tup xs) := fun xs z => by rw [er6] at z; cases z
          have erL : (upd H6 r (.frz od (ND P w r [(((k : Int), 1), q0, V.int 1)]))) r = some (.frz od (ND P w r [(((k : Int), 1), q0, V.int 1)])) := upd_same
          refine ⟨_, rfl, r, od, _, rfl, erL, for_it (n := 1) walk_nkeys
            (fun j σ H7 => H7 r = some (.frz od (ND P w r [(((k : Int), 1), q0, V.int 1)])) ∧ ((j = 0 ∧ H7 = upd H6 r (.frz od (ND P w r [(((k : Int), 1), q0, V.int 1)])) ∧ σ = [some (.ref wv), some (vN k), some (.ref p), some (.ref r), some (.int 0), some (.ref t), none, some (.ref D), some (.ref m), none, none, none, none, none, none, none, none]) ∨
              (j = 1 ∧ ∃ kvs cs y9 y10 y11 y12 y13 y14 y15, σ = [some (.ref wv), some (vN k), some (.ref p), some (.ref r), some (.int 0), some (.ref t), none, some (.ref D), some (.ref m), y9, y10, y11, y12, y13, y14, y15, none] ∧
                SX m (upd H6 r (.frz od (ND P w r [(((k : Int), 1), q0, V.int 1)]))) H7 ∧ H7 m = some (ND P w m kvs) ∧ NKs H7 kvs ∧ RowsC kvs cs ∧ Tab k n (divs k).length cs)))
            ⟨erL, .inl ⟨rfl, rfl, rfl⟩⟩ (fun i σ H' _ p => p.1) ?_ ?_⟩
          · rintro j x σ H7 H7' hj ⟨er7, ⟨rfl, rfl, rfl⟩ | ⟨h1, _⟩⟩ ⟨rfl, e, he, rfl⟩
            · obtain rfl : (((k : Int), 1), q0, V.int 1) = e := Option.some.inj he
              have eq7 := sxr.tup (s6 _ _ eq3) htr
              have ec7 := sxr.tup (s6 _ _ ec3) htr
              have et7 := sxr.tup (s6 _ _ et3) htr
              have eD7 := sxr D _ hrD eD
              have em7 := sxr m _ hrm.symm em
              generalize upd H6 r (.frz od (ND P w r [(((k : Int), 1), q0, V.int 1)])) = HL at *
              refine ⟨q0, _, rfl, SqT.of eq7, rfl, _, _, rfl, _, _, rfl, rfl, ?_⟩
              refine ⟨_, rfl, _, rfl, _, rfl, _, rfl, c, _, _, _, rfl, rfl, SqT.of ec7, atI_nat (j := 0) rfl, t, n, k, rfl, SqT.of et7, n2, n7, by omega, k24, fun b ts H8 s8 hb eb hch => ?_⟩
              have em8 := s8 _ _ em7
              have htm8 : ∀ xs, H8 m ≠ some (.tup xs) := fun xs z => by rw [em8] at z; cases z
              have hbm : b ≠ m := ne_of eb em8 (by intro z; cases z)
              refine ⟨b, rfl, ⟨_, SqL.of eb⟩, for_list (K := K) (a := b) (xs := ts.map V.ref)
                (fun i σ H9 => ∃ y11 y12 y13 y14 y15 kvs cs, σ = [some (.ref wv), some (vN k), some (.ref p), some (.ref r), some (.int 0), some (.ref t), none, some (.ref D), some (.ref m), some (.ref c), some (vN 1), y11, y12, y13, y14, y15, none] ∧
                  SX m H8 H9 ∧ H9 m = some (ND P w m kvs) ∧ NKs H9 kvs ∧ RowsC kvs cs ∧ Tab k n i cs)
                ⟨_, _, _, _, _, [], [], rfl, SX.of (Same.refl _), em8, (fun p hp => nomatch hp), rfl, ⟨by simp, by simp [wsum], by simp [wsum], Nat.le_refl _⟩⟩ (fun i σ H9 _ ⟨_, _, _, _, _, _, _, _, sx, _⟩ => SqL.of (sx b _ hbm eb)) ?_ ?_⟩
              · rintro i x σ H9 hx ⟨y11, y12, y13, y14, y15, kvs, cs, rfl, sx, em9, hk9, hrc, tab⟩
                rw [List.getElem?_map] at hx
                obtain ⟨ti, hti, rfl⟩ := Option.map_eq_some_iff.mp hx
                have hi : i < (divs k).length := by
                  rw [← hch.1]
                  exact (List.getElem?_eq_some_iff.mp hti).1
                have hd := List.getElem?_eq_getElem hi
                generalize (divs k)[i] = d at hd
                have eti := sx.tup (hch.2 i ti d hti hd) htm8
                have ec9 := sx.tup (s8 _ _ ec7) htm8
                refine ⟨ti, _, rfl, SqT.of eti, rfl, _, _, rfl, _, _, rfl, _, _, rfl, rfl, ?_⟩
                refine ⟨_, rfl, c, _, rfl, .inr (SqT.of ec9), fun F hF => ?_⟩
                have t1 : Same H9 (upd H9 F (.lst [vN k])) := same_upd hF
                refine ⟨_, rfl, _, rfl, F, _, _, 0, rfl, rfl, upd_same, rfl, ?_⟩
                have t2 : Same H9 (upd (upd H9 F (.lst [vN k])) F (.lst [.int 0])) := t1.mut hF
                have eF : (upd (upd H9 F (.lst [vN k])) F (.lst [.int 0])) F = some (.lst [.int 0]) := upd_same
                have eD10 := t2 _ _ (sx D _ (ne_of eD7 em7 (by intro z; cases z)) (s8 _ _ eD7))
                refine ⟨_, rfl, D, rfl, ⟨_, SqL.of eD10⟩, for_list (K := K) (a := D) (xs := [])
                  (fun i σ H10 => H10 = upd (upd H9 F (.lst [vN k])) F (.lst [.int 0]) ∧ σ = [some (.ref wv), some (vN k), some (.ref p), some (.ref r), some (.int 0), some (.ref t), none, some (.ref D), some (.ref m), some (.ref c), some (vN 1), some (vN d), some (vN 1), some (vN (primeTo (k / d) n)), some (.ref F), y15, none])
                  ⟨rfl, rfl⟩ (fun i σ H10 _ ⟨e, _⟩ => by rw [e]; exact SqL.of eD10) (fun i x σ H10 hx => by simp at hx) ?_⟩
                rintro σ H10 ⟨rfl, rfl⟩
                refine ⟨_, rfl, .inl ⟨F, _, rfl, SqL.of eF, fun r2 hr2 => ?_⟩⟩
                have t3 : Same H9 (upd (upd (upd H9 F (.lst [vN k])) F (.lst [.int 0])) r2 (.tup [.int 0])) := t2.trans (same_upd hr2)
                have eR2 : (upd (upd (upd H9 F (.lst [vN k])) F (.lst [.int 0])) r2 (.tup [.int 0])) r2 = some (.tup [.int 0]) := upd_same
                clear hr2 t1 t2 eF eD10
                generalize upd (upd (upd H9 F (.lst [vN k])) F (.lst [.int 0])) r2 (.tup [.int 0]) = HA at t3 eR2 ⊢
                refine ⟨_, rfl, _, rfl, _, _, rfl, rfl, .inl ⟨by decide, by decide⟩, ?_⟩
                dsimp only
                rw [show ((1 : Nat) : Int) * ((primeTo (k / d) n : Nat) : Int) = ((primeTo (k / d) n : Nat) : Int) from Int.one_mul _]
                refine ⟨by show 2 ≤ sizeLine; decide, fun kq hkq => ?_⟩
                have t4 : Same H9 (upd HA kq (.tup [.ref r2, vN (primeTo (k / d) n)])) := t3.trans (same_upd hkq)
                have eR2' := (same_upd (o := .tup [.ref r2, vN (primeTo (k / d) n)]) hkq) _ _ eR2
                have eKq : (upd HA kq (.tup [.ref r2, vN (primeTo (k / d) n)])) kq = some (.tup [.ref r2, vN (primeTo (k / d) n)]) := upd_same
                clear hkq
                generalize upd HA kq (.tup [.ref r2, vN (primeTo (k / d) n)]) = HB at t4 eR2' eKq ⊢
                refine ⟨_, rfl, m, kvs, rfl, .inl (t4 _ _ em9), _, rfl, kq, ((0 : Int), ((primeTo (k / d) n : Nat) : Int)), rfl, .inl (t4 _ _ em9), hk9.same t4, ⟨r2, eKq, eR2'⟩, ?_⟩
                refine ⟨_, rfl, _, rfl, _, rfl, by show 2 ≤ sizeLine; decide, fun kr hkr => ?_⟩
                have t5 : Same H9 (upd HB kr (.tup [.ref c, vN 1])) := t4.trans (same_upd hkr)
                have eR3 := (same_upd (o := .tup [.ref c, vN 1]) hkr) _ _ eR2'
                have eKq3 := (same_upd (o := .tup [.ref c, vN 1]) hkr) _ _ eKq
                have eKr : (upd HB kr (.tup [.ref c, vN 1])) kr = some (.tup [.ref c, vN 1]) := upd_same
                clear hkr
                generalize upd HB kr (.tup [.ref c, vN 1]) = HC at t5 eR3 eKq3 eKr ⊢
                have ecC := t5 _ _ ec9
                have eqC := t5 _ _ (sx.tup (s8 _ _ eq7) htm8)
                have erC := t5 _ _ (sx r _ hrm (s8 _ _ er7))
                have emC := t5 _ _ em9
                have hkC := hk9.same t5
                have hNK0 : NKs HC [(((k : Int), 1), q0, V.int 1)] := fun p hp => by
                  rw [List.mem_singleton.mp hp]
                  exact ⟨c, eqC, ecC⟩
                have hget0 : ngL [(((k : Int), (1 : Int)), q0, V.int 1)] ((k : Int), (1 : Int)) = some (V.int 1) := by simp [ngL]
                refine ⟨r, kr, _, ((k : Int), 1), _, rfl, rfl, .inr ⟨od, erC⟩, hNK0, ⟨c, eKr, ecC⟩, hget0, ?_⟩
                refine ⟨_, rfl, _, _, rfl, rfl, .inl ⟨by decide, by decide⟩, ?_⟩
                have hx : (Option.getD (ngL kvs ((0 : Int), ((primeTo (k / d) n : Nat) : Int))) (V.int 0)) = V.int (((cG cs (primeTo (k / d) n)).getD 0 : Nat) : Int) := by
                  rw [hrc.get]
                  cases cG cs (primeTo (k / d) n) <;> rfl
                refine ⟨(((cG cs (primeTo (k / d) n)).getD 0 : Nat) : Int), _, hx, rfl, ?_⟩
                have hkl := hrc.len
                have hcl := tab.len
                have hdl := divs_len k
                refine ⟨_, rfl, _, rfl, m, kq, kvs, ((0 : Int), ((primeTo (k / d) n : Nat) : Int)), rfl, rfl, emC, hkC, ⟨r2, eKq3, eR3⟩, by omega, ?_⟩
                have htmC : ∀ xs, HC m ≠ some (.tup xs) := fun xs z => by rw [emC] at z; cases z
                have hNKq : NKAt HC ((0 : Int), ((primeTo (k / d) n : Nat) : Int)) kq := ⟨r2, eKq3, eR3⟩
                refine ⟨_, _, _, _, _, npL kvs ((0 : Int), ((primeTo (k / d) n : Nat) : Int)) kq (V.int (((cG cs (primeTo (k / d) n)).getD 0 + 1 : Nat) : Int)), cAdd cs (primeTo (k / d) n) 1, rfl, (sx.trans (SX.of t5)).upd, ?_, (hkC.put hNKq _).upd htmC, hrc.put _ _ _ tab.nd, tab.step hd⟩
                rw [upd_same]
                rfl
              · rintro σ H9 ⟨y11, y12, y13, y14, y15, kvs, cs, rfl, sx, em9, hk9, hrc, tab⟩
                rw [List.length_map, hch.1] at tab
                refine ⟨?_, .inr ⟨rfl, kvs, cs, _, _, _, _, _, _, _, rfl, (SX.of s8).trans sx, em9, hk9, hrc, tab⟩⟩
                exact sx r _ hrm (s8 _ _ er7)
            · omega
          · rintro σ H7 ⟨er7, ⟨h0, _⟩ | ⟨_, kvs, cs, y9, y10, y11, y12, y13, y14, y15, rfl, sx, em7, hk7, hrc, tab⟩⟩
            · cases h0
            refine ⟨er7, ?_⟩
            have sxr7 : SX r H7 (upd H7 r (ND P w r [(((k : Int), 1), q0, V.int 1)])) := (SX.of (Same.refl _)).upd
            have htr7 : ∀ xs, H7 r ≠ some (.tup xs) := fun xs z => by rw [er7] at z; cases z
            have back : ∀ b o, H3 b = some o → (upd H7 r (ND P w r [(((k : Int), 1), q0, V.int 1)])) b = some o := fun b o hb => by
              by_cases hbr : b = r
              · rw [hbr, er3] at hb
                rw [hbr, upd_same]
                exact hb
              · have hbm : b ≠ m := ne_of_none hb hm3
                exact sxr7 b _ hbr (sx b _ hbm (sxr b _ hbr (s6 _ _ hb)))
            refine ⟨_, rfl, SqL.of (back _ _ ep3), .inr ⟨rfl, m, kvs, cs, _, _, _, _, _, _, _, _, _, _, _, _, rfl, s3.trans back, hm0, sxr7 m _ hrm.symm em7, sxr7.nks htr7 hk7, hrc, tab⟩⟩
        · omega
      · rintro σ H' ⟨_, ⟨h0, _⟩ | ⟨_, h⟩⟩
        · cases h0
        · exact h
    rintro σ H' ⟨m, kvs, cs, y4, y5, y6, y7, y8, y9, y10, y11, y12, y13, y14, y15, rfl, sm, hm0, em, hk, hrc, tab⟩
    refine fun f hf => ?_
    have s4 : Same H' (upd H' f (.dK [])) := same_upd hf
    have hmf : m ≠ f := ne_of_none em hf
    have hdl := divs_len k
    have hcl := tab.len
    have hkl := hrc.len
    have em4 : (upd H' f (.dK [])) m = some (ND P w m kvs) := s4 _ _ em
    refine ⟨m, ND P w m kvs, em4, True.intro, fun od => ?_⟩
    have htup : ∀ xs, (upd H' f (.dK [])) m ≠ some (.tup xs) := fun xs z => by rw [em4] at z; cases z
    refine ⟨_, rfl, m, od, kvs, rfl, upd_same, for_it (n := kvs.length) walk_nkeys
      (fun j σ H5 => ∃ y9 y10 fs, σ = [some (.ref wv), some (vN k), some (.ref p), some (.ref m), y4, y5, y6, y7, y8, y9, y10, y11, y12, y13, y14, y15, some (.ref f)] ∧
        H5 m = some (.frz od (ND P w m kvs)) ∧ SX m H' H5 ∧ H5 f = some (.dK (kvC fs)) ∧ Fnd cs j fs) ⟨_, _, [], rfl, upd_same, (SX.of s4).upd, ?_, ⟨by simp, fun g => by simp [wsum], Nat.le_refl _⟩⟩ (fun i σ H' _ ⟨_, _, _, _, e, _⟩ => e) ?_ ?_⟩
    · rw [upd_ne hmf.symm]
      exact upd_same
    · rintro j x σ H5 H6 hj ⟨y9, y10, fs, rfl, em5, sx, ef, F⟩ ⟨rfl, e, he, rfl⟩
      obtain ⟨c, hc, hce⟩ := hrc.at he
      have htm : ∀ xs, H' m ≠ some (.tup xs) := fun xs z => by rw [em] at z; cases z
      have hk5 : NKs H6 kvs := sx.nks htm hk
      obtain ⟨rr, k1, k2'⟩ := hk5 e (List.mem_of_getElem? he)
      rw [hce] at k1 k2'
      refine ⟨e.2.1, _, rfl, SqT.of k1, rfl, _, _, rfl, _, _, rfl, rfl, ?_⟩
      refine ⟨_, rfl, f, rfl, .inl ⟨_, .inl ef⟩, _, rfl, _, DGet.k (k := Sum.inl (c.1 : Int)) ef, ?_⟩
      refine ⟨_, rfl, _, rfl, _, rfl, by show 2 ≤ sizeLine; decide, fun kq hkq => ?_⟩
      have s6 : Same H6 (upd H6 kq (.tup [.ref rr, .int (c.1 : Int)])) := same_upd hkq
      have hmk : m ≠ kq := ne_of_none em5 hkq
      have hget : ngL kvs ((0 : Int), (c.1 : Int)) = some (vN c.2) := by
        rw [hrc.get, cG_at tab.nd hc]
        rfl
      refine ⟨m, kq, kvs, ((0 : Int), (c.1 : Int)), _, rfl, rfl, .inr ⟨od, s6 _ _ em5⟩, hk5.same s6, ⟨rr, upd_same, s6 _ _ k2'⟩, hget, ?_⟩
      have hx : (Option.getD (valV (kvC fs) (Sum.inl (c.1 : Int) : Key)) (V.int 0)) = V.int (((cG fs c.1).getD 0 : Nat) : Int) := by
        rw [kvC_get]
        cases cG fs c.1 <;> rfl
      refine ⟨(((cG fs c.1).getD 0 : Nat) : Int), (c.2 : Int), hx, rfl, ?_⟩
      have hfk : f ≠ kq := ne_of_none ef hkq
      have hfl := F.len
      refine ⟨_, rfl, _, rfl, f, _, rfl, DPut.k (k := Sum.inl (c.1 : Int)) (s6 _ _ ef) (small7 (m := 24) (by rw [kvC_len]; omega) (by decide)), ?_⟩
      have hput : putK (kvC fs) (Sum.inl (c.1 : Int) : Key) (V.int ((((cG fs c.1).getD 0 : Nat) : Int) + (c.2 : Int))) = kvC (cAdd fs c.1 c.2) := by
        have := kvC_put c.1 ((cG fs c.1).getD 0 + c.2) F.nd
        rw [Int.natCast_add] at this
        exact this
      refine ⟨_, _, cAdd fs c.1 c.2, rfl, ?_, ?_, ?_, F.step hc⟩
      · rw [upd_ne hmf]
        exact s6 _ _ em5
      · intro b o hbm hb
        rw [upd_ne (ne_of_none hb hf)]
        exact s6 _ _ (sx b _ hbm hb)
      · rw [upd_same]
        exact congrArg some (congrArg HO.dK hput)
    · rintro σ H5 ⟨y9, y10, fs, rfl, em5, sx, ef, F⟩
      refine ⟨em5, _, rfl, q f fs _ (((SX.of sm).trans sx).upd.same hm0) (sm.free hf) ?_ ⟨F.nd, ?_, ?_, ?_⟩⟩
      · rw [upd_ne hmf.symm]
        exact ef
      · rw [F.all, List.take_of_length_le (by omega), tab.one]
      · rw [F.all, List.take_of_length_le (by omega), tab.all, List.take_length]
      · have := F.len
        omega
end
end CK

set_option Elab.async false
set_option linter.all false
set_option maxRecDepth 100000
set_option maxHeartbeats 4000000
namespace CK
open PySem PySem.Spec PyProof.Rows L2
section
variable {P : Program} {w : World} {K : PySem.W.Frag} {mg : Str → Option Value} {base : Heap}

/-! class_count -/
theorem wsum_one (fs : SC) : ((fs.map fun c => (c.2 : Int)).sum) = ((wsum (fun _ => 1) fs : Nat) : Int) := by
  induction fs with
  | nil => rfl
  | cons c t ih =>
    unfold wsum at ih ⊢
    rw [List.map_cons, List.sum_cons, ih, List.map_cons, List.sum_cons, Int.natCast_add, Nat.one_mul]
def spClassCount (K : PySem.W.Frag) : Sp := fun vs H Q _ => ∃ (wv : Addr) (n k : Nat) (ar : List (Nat × Nat)), vs = [.ref wv, vN k] ∧ Web K H wv n ar ∧ Ring n ar ∧ 2 ≤ k ∧ k ≤ 24 ∧ ∀ H', Same H H' → Q (vN (divs k).length) H'
theorem scClassCount : FnScope ["web", "hours"] ["web", "hours"] (defScope sClassCount) := ⟨rfl, rfl, rfl, by decide +kernel, rfl, by decide +kernel, by decide +kernel⟩
theorem c_class_count (T : Stands K mg "class_count" sClassCount ["web", "hours"]) (B : Blt mg) (cNeedWeb : Cal P w K mg base 3 "need_web" (spNeedWeb K)) (cNeedHours : Cal P w K mg base 2 "need_hours" spNeedHours) (cClassTable : Cal P w K mg base 4 "class_table" (spClassTable K)) : Cal P w K mg base 5 "class_count" (spClassCount K) := by
  refine cal_of T scClassCount (fun vs H Q E h => ?_) (fun f cdv A outer s H vs Q E hr h => ?_)
  · obtain ⟨wv, n, k, ar, rfl, _⟩ := h
    rfl
  · obtain ⟨wv, n, k, ar, rfl, W, R, k2, k24, q⟩ := h
    refine ⟨_, pss_cons (ps_expr (pe_d cNeedWeb hr (by decide) (by rfl) (pa_cons (pv 0) pa_nil)))
      (pss_cons (ps_expr (pe_d cNeedHours hr (by decide) (by rfl) (pa_cons (pv 1) pa_nil)))
      (pss_one (ps_ret (pe_callB (cr_sumV rfl) (by rfl) B.sum b_sum (pa_cons (pe_bm0 PySem.F.plainAttrs_dict PySem.F.slot_dict_values PySem.F.type_dict_values mt_values (pe_d cClassTable hr (by decide) (by rfl) (pa_cons (pv 0) (pa_cons (pv 1) pa_nil)))) pa_nil))))), ?_⟩
    refine ⟨_, rfl, wv, n, ar, rfl, W, R, fun H1 s1 => ?_⟩
    refine ⟨_, rfl, k, rfl, k2, k24, ?_⟩
    refine ⟨_, rfl, _, rfl, wv, n, k, ar, rfl, W.same s1, R, k2, k24, fun f fs H2 s2 hf ef C => ?_⟩
    refine ⟨.inr (.inr (.inl ⟨rfl, .inl ⟨_, ef⟩⟩)), f, _, rfl, rfl, ef, fun v hv => ?_⟩
    have s3 : Same H2 (upd H2 v (viewO "dict_values" v f)) := same_upd hv
    refine ⟨v, f, _, fs.map (fun c => (c.2 : Int)), rfl, upd_same, s3 _ _ ef, ?_, ?_⟩
    · unfold kvC
      rw [List.map_map, List.map_map]
      rfl
    · rw [wsum_one, C.one]
      exact q _ ((s1.trans s2).trans s3)

/-! class_sizes -/
def spClassSizes (K : PySem.W.Frag) : Sp := fun vs H Q _ => ∃ (wv : Addr) (n k : Nat) (ar : List (Nat × Nat)), vs = [.ref wv, vN k] ∧ Web K H wv n ar ∧ Ring n ar ∧ 2 ≤ k ∧ k ≤ 24 ∧
  ∀ (p : Addr) (ts : List Addr) (rs : SC) H', Same H H' → H p = none → H' p = some (.tup (ts.map V.ref)) → Arr K H' ts rs → wsum (fun s => s) rs = ((divs k).map fun d => primeTo (k / d) n).sum → rs.length ≤ 24 → (∀ r ∈ rs, r.2 ≤ 24) → Q (.ref p) H'
theorem cG_le {fs : SC} {s c : Nat} (h : cG fs s = some c) : c ≤ wsum (fun _ => 1) fs := by
  induction fs with
  | nil => cases h
  | cons d t ih =>
    have e : wsum (fun _ => 1) (d :: t) = d.2 + wsum (fun _ => 1) t := by
      unfold wsum
      rw [List.map_cons, List.sum_cons, Nat.one_mul]
    rw [e]
    unfold cG at h
    split at h
    · have := Option.some.inj h
      omega
    · have := ih h
      omega
theorem scClassSizes : FnScope ["web", "hours", "found", "size"] ["web", "hours"] (defScope sClassSizes) := ⟨rfl, rfl, rfl, by decide +kernel, rfl, by decide +kernel, by decide +kernel⟩
theorem c_class_sizes (T : Stands K mg "class_sizes" sClassSizes ["web", "hours"]) (B : Blt mg) (cNeedWeb : Cal P w K mg base 3 "need_web" (spNeedWeb K)) (cNeedHours : Cal P w K mg base 2 "need_hours" spNeedHours) (cClassTable : Cal P w K mg base 4 "class_table" (spClassTable K)) : Cal P w K mg base 5 "class_sizes" (spClassSizes K) := by
  refine cal_of T scClassSizes (fun vs H Q E h => ?_) (fun f cdv A outer s H vs Q E hr h => ?_)
  · obtain ⟨wv, n, k, ar, rfl, _⟩ := h
    rfl
  · obtain ⟨wv, n, k, ar, rfl, W, R, k2, k24, q⟩ := h
    refine ⟨_, pss_cons (ps_expr (pe_d cNeedWeb hr (by decide) (by rfl) (pa_cons (pv 0) pa_nil)))
      (pss_cons (ps_expr (pe_d cNeedHours hr (by decide) (by rfl) (pa_cons (pv 1) pa_nil)))
      (pss_cons (ps_set (i := 2) scClassSizes.nd rfl (Or.inr rfl) (pe_d cClassTable hr (by decide) (by rfl) (pa_cons (pv 0) (pa_cons (pv 1) pa_nil))))
      (pss_one (ps_ret (pe_tupleOf (by rfl) B.tuple (pe_lc (own := [("size", 3)]) (g := gName 3) rfl scClassSizes.nd (pi_list (pe_callB (cr_sortK rfl) (by rfl) B.sorted b_sorted (pa_cons (pe_bm0 PySem.F.plainAttrs_dict PySem.F.slot_dict_keys PySem.F.type_dict_keys mt_keys (pv 2)) pa_nil))) (blkOk_by (N := ["web", "hours", "found", "size"]) (sc := defScope sClassSizes) (by decide +kernel)) (fun _ _ _ _ _ => pg_name (i := 3) scClassSizes.nd rfl (Or.inl rfl)) (fun _ _ _ _ _ => pts_nil) (fun _ _ _ _ _ => pe_tup (pa_cons (pv 3) (pa_cons (pe_dget (hu_of hr) (pv 2) (pv 3) (fun _ _ => rfl)) pa_nil))))))))), ?_⟩
    refine ⟨_, rfl, wv, n, ar, rfl, W, R, fun H1 s1 => ?_⟩
    refine ⟨_, rfl, k, rfl, k2, k24, ?_⟩
    refine ⟨_, rfl, _, rfl, wv, n, k, ar, rfl, W.same s1, R, k2, k24, fun f fs H2 s2 hf ef C => ?_⟩
    have hlen := C.len
    refine ⟨_, rfl, .inr (.inr (.inl ⟨rfl, .inl ⟨_, ef⟩⟩)), f, _, rfl, rfl, ef, fun v hv => ?_⟩
    have s3 : Same H2 (upd H2 v (viewO "dict_keys" v f)) := same_upd hv
    refine ⟨v, f, _, fs.map (fun c => (c.1 : Int)), rfl, upd_same, s3 _ _ ef, ?_, by rw [List.length_map]; omega, fun ys l hperm hsort hl => ?_⟩
    · unfold kvC
      rw [List.map_map, List.map_map]
      rfl
    have s4 := s3.trans (same_upd (o := .lst (ys.map V.int)) hl)
    have el : (upd (upd H2 v (viewO "dict_keys" v f)) l (.lst (ys.map V.int))) l = some (.lst (ys.map V.int)) := upd_same
    have s5 := (s1.trans s2).trans s4
    have ef4 := s4 _ _ ef
    clear hl s3 hv
    generalize upd (upd H2 v (viewO "dict_keys" v f)) l (.lst (ys.map V.int)) = H4 at *
    have hmem : ∀ y ∈ ys, ∃ c ∈ fs, y = (c.1 : Int) := fun y hy => by
      obtain ⟨c, hc, e⟩ := List.mem_map.mp (hperm.mem_iff.mp hy)
      exact ⟨c, hc, e.symm⟩
    have hylen : ys.length ≤ 24 := by
      rw [hperm.length_eq, List.length_map]
      exact hlen
    refine ⟨l, rfl, ⟨_, SqL.of el⟩, fun D hD => lc_list (K := K) (a := l) (xs := ys.map V.int)
      (fun i H' => ∃ ts : List Addr, Same H4 H' ∧ H' D = some (.lst (ts.map V.ref)) ∧ D ∉ ts ∧ ts.length = i ∧ ∀ (j : Nat) (t : Addr) (p : Nat × Nat), ts[j]? = some t → (ys.map fun y => (y.toNat, (cG fs y.toNat).getD 0))[j]? = some p → H' t = some (.tup [vN p.1, vN p.2]))
      ⟨[], same_upd hD, upd_same, by simp, rfl, fun j t p h => by simp at h⟩ (fun i H' _ ⟨_, sm, _⟩ => SqL.of (sm _ _ el)) ?_ ?_⟩
    · rintro i x H' hx ⟨ts, sm, eD, hDt, hl, hall⟩
      rw [List.getElem?_map] at hx
      obtain ⟨y, hy, rfl⟩ := Option.map_eq_some_iff.mp hx
      have hil : i < ys.length := (List.getElem?_eq_some_iff.mp hy).1
      obtain ⟨c, hc, rfl⟩ := hmem y (List.mem_of_getElem? hy)
      obtain ⟨jc, hjc⟩ := List.getElem?_of_mem hc
      have hcg := cG_at C.nd hjc
      have hval : valV (kvC fs) (Sum.inl (c.1 : Int) : Key) = some (vN c.2) := by
        rw [kvC_get, hcg]
        rfl
      have hdg : DGet H' f (kV (Sum.inl (c.1 : Int))) (some (vN c.2)) := by
        rw [← hval]
        exact DGet.k (sm _ _ ef4)
      refine ⟨rfl, _, rfl, _, rfl, _, rfl, f, vN c.2, rfl, hdg, by show 2 ≤ sizeLine; decide, fun t ht => ?_⟩
      have st : Same H' (upd H' t (.tup [.int (c.1 : Int), vN c.2])) := same_upd ht
      have htD : t ≠ D := fun z => by rw [z, eD] at ht; cases ht
      refine ⟨_, st _ _ eD, small7 (m := 24) (by rw [List.length_map]; omega) (by decide), ts ++ [t], (sm.trans st).mut hD, ?_, ?_, by rw [List.length_append, hl]; rfl, fun j u p hj hp => ?_⟩
      · rw [upd_same, List.map_append]
        rfl
      · intro z
        rcases List.mem_append.mp z with z | z
        · exact hDt z
        · exact htD (List.mem_singleton.mp z).symm
      · by_cases hji : j < i
        · rw [List.getElem?_append_left (by omega)] at hj
          have hu : u ≠ D := fun z => hDt (z ▸ List.mem_of_getElem? hj)
          rw [upd_ne hu]
          exact st _ _ (hall j u p hj hp)
        · have hj2 := (List.getElem?_eq_some_iff.mp hj).1
          rw [List.length_append, hl] at hj2
          have e1 : j = i := by simp at hj2; omega
          subst e1
          rw [List.getElem?_append_right (by omega), hl, Nat.sub_self] at hj
          obtain rfl : t = u := Option.some.inj hj
          rw [List.getElem?_map, hy] at hp
          obtain rfl := Option.some.inj hp
          rw [upd_ne htD, upd_same]
          show some (HO.tup [vN c.1, vN c.2]) = some (HO.tup [vN ((c.1 : Int)).toNat, vN ((cG fs ((c.1 : Int)).toNat).getD 0)])
          rw [Int.toNat_natCast, hcg]
          rfl
    · rintro H' ⟨ts, sm, eD, hDt, hl, hall⟩
      refine .inl ⟨D, _, rfl, SqL.of eD, fun p hp => ?_⟩
      have s6 : Same H' (upd H' p (.tup (ts.map V.ref))) := same_upd hp
      have s7 := (s5.trans sm).trans s6
      refine q p ts (ys.map fun y => (y.toNat, (cG fs y.toNat).getD 0)) _ s7 ((s5.trans sm).free hp) upd_same ⟨?_, fun j t pr hj hpj => SqT.of (s6 _ _ (hall j t pr hj hpj))⟩ ?_ (by rw [List.length_map]; exact hylen) ?_
      · rw [hl, List.length_map, List.length_map]
      · have hp2 : (ys.map Int.toNat).Perm (fs.map (·.1)) := by
          have := hperm.map Int.toNat
          rw [List.map_map] at this
          exact this
        have := wsum_perm C.nd hp2
        rw [List.map_map] at this
        rw [← C.all, ← this]
        rfl
      · intro r hr2
        obtain ⟨y, hy, rfl⟩ := List.mem_map.mp hr2
        obtain ⟨c, hc, rfl⟩ := hmem y hy
        obtain ⟨jc, hjc⟩ := List.getElem?_of_mem hc
        have hcg := cG_at C.nd hjc
        show (cG fs ((c.1 : Int)).toNat).getD 0 ≤ 24
        rw [Int.toNat_natCast, hcg]
        have h1 := cG_le hcg
        rw [C.one] at h1
        have := divs_len k
        show c.2 ≤ 24
        omega
end
end CK

set_option Elab.async false
set_option linter.all false
set_option maxRecDepth 100000
set_option maxHeartbeats 4000000
namespace CK
open PySem PySem.Spec PyProof.Rows L2
section
variable {P : Program} {w : World} {K : PySem.W.Frag} {mg : Str → Option Value} {base : Heap}

/-! the law's row of draws -/
structure Row (K : PySem.W.Frag) (H : Hp) (row sc : Addr) (xs : List Int) : Prop where
  at' : ∃ (i s c : Int), H row = some (.lst [.ref sc, .int i, .int s, .int c]) ∧ 0 ≤ i
  ne : sc ≠ row ∨ ∀ H2, SqL K H2 sc (xs.map V.int)
  sq : SqL K H sc (xs.map V.int)
theorem Row.same {H H' : Hp} {row sc : Addr} {xs : List Int} (e : Same H H') (h : Row K H row sc xs) : Row K H' row sc xs := by
  obtain ⟨⟨i, s, c, h1, h2⟩, h3, h4⟩ := h
  exact ⟨⟨i, s, c, e _ _ h1, h2⟩, h3, e.seq h4⟩
theorem SX.seq {m a : Addr} {H H' : Hp} {xs : List V} (e : SX m H H') (n : a ≠ m ∨ ∀ H2, SqL K H2 a xs) (h : SqL K H a xs) : SqL K H' a xs := by
  rcases n with n | n
  · rcases h with (h | ⟨o, h⟩) | h
    · exact .inl (.inl (e _ _ n h))
    · exact .inl (.inr ⟨o, e _ _ n h⟩)
    · exact .inr h
  · exact n H'
/-- a tuple stands apart from a list -/
theorem SX.tupL {m a : Addr} {H H' : Hp} {xs ys : List V} (e : SX m H H') (hm : H m = some (.lst ys)) (h : SqT K H a xs) : SqT K H' a xs := by
  rcases h with (h | ⟨o, h⟩) | h
  · exact .inl (.inl (e _ _ (fun z => by rw [z, hm] at h; cases h) h))
  · exact .inl (.inr ⟨o, e _ _ (fun z => by rw [z, hm] at h; cases h) h⟩)
  · exact .inr h
theorem SX.seqT {m a : Addr} {H H' : Hp} {xs : List V} (e : SX m H H') (n : a ≠ m) (h : SqT K H a xs) : SqT K H' a xs := by
  rcases h with (h | ⟨o, h⟩) | h
  · exact .inl (.inl (e _ _ n h))
  · exact .inl (.inr ⟨o, e _ _ n h⟩)
  · exact .inr h
theorem Row.upd {H : Hp} {row sc : Addr} {i s c : Int} {xs : List Int} (h : SqL K H sc (xs.map V.int)) (n : sc ≠ row ∨ ∀ H2, SqL K H2 sc (xs.map V.int)) (hi : 0 ≤ i) : Row K (L2.upd H row (.lst [.ref sc, .int i, .int s, .int c])) row sc xs :=
  ⟨⟨i, s, c, upd_same, hi⟩, n, (SX.of (Same.refl H)).upd.seq n h⟩
def spTaken (K : PySem.W.Frag) : Sp := fun vs H Q _ => ∃ (row sc : Addr) (xs : List Int) (many : Nat), vs = [.ref row, vN many] ∧ Row K H row sc xs ∧ 1 ≤ many ∧ many ≤ 24 ∧ ∀ (v : Nat) H', v < many → SX row H H' → Row K H' row sc xs → Q (vN v) H'
theorem mod_out {Q : VK} {H' : Hp} {x : Int} {many : Nat} (hm : 1 ≤ many) (h : ∀ v : Nat, v < many → Q (vN v) H') : Q (.int (x % (many : Int))) H' := by
  have h1 : 0 ≤ x % (many : Int) := Int.emod_nonneg _ (by omega)
  have h2 : x % (many : Int) < (many : Int) := Int.emod_lt_of_pos _ (by omega)
  have := h (x % (many : Int)).toNat (by omega)
  rw [show vN (x % (many : Int)).toNat = V.int (x % (many : Int)) from congrArg V.int (Int.toNat_of_nonneg h1)] at this
  exact this
theorem scTaken : FnScope ["_law_row", "_law_many", "_law_found", "_law_cell"] ["_law_row", "_law_many"] (defScope sTaken) := ⟨rfl, rfl, rfl, by decide +kernel, rfl, by decide +kernel, by decide +kernel⟩
theorem c_taken (T : Stands K mg "_law_taken" sTaken ["_law_row", "_law_many"]) (B : Blt mg) : Cal P w K mg base 1 "_law_taken" (spTaken K) := by
  refine cal_of T scTaken (fun vs H Q E h => ?_) (fun f cdv A outer s H vs Q E hr h => ?_)
  · obtain ⟨row, sc, xs, many, rfl, _⟩ := h
    rfl
  · obtain ⟨row, sc, xs, many, rfl, ⟨⟨i, sd, c, er, hi⟩, hn, hsc⟩, h1, h24, q⟩ := h
    refine ⟨_, pss_cons (ps_if (pt_cmpR op_gt (pe_ix ix_list (pv 0) pe_int (fun _ _ => rfl)) pe_int (nomark _)) (pss_cons (ps_set (i := 2) scTaken.nd rfl (Or.inl rfl) (pe_op op_mod (pe_callTy call_int1 (by rfl) B.int b_int (pa_cons (pe_ix ix_list (pv 0) pe_int (fun _ _ => rfl)) pa_nil)) (pv 1)))
        (pss_cons (ps_asg (pe_op op_fdivW (pe_ix ix_list (pv 0) pe_int (fun _ _ => rfl)) (pv 1)) (pg_sub (pv 0) pe_int set_list))
        (pss_one (ps_ret (pv 2))))) pss_nil)
      (pss_cons (ps_asg (pe_op op_add (pe_ix ix_list (pv 0) pe_int (fun _ _ => rfl)) pe_int) (pg_sub (pv 0) pe_int set_list))
      (pss_cons (ps_if (pt_cmpR op_gt (pe_ix ix_list (pv 0) pe_int (fun _ _ => rfl)) (pe_callB call_len_seq (by rfl) B.len PySem.boot_len (pa_cons (pe_ix ix_list (pv 0) pe_int (fun _ _ => rfl)) pa_nil)) (nomark _)) (pss_cons (ps_asg (pe_op op_mod (pe_callTy call_int1 (by rfl) B.int b_int (pa_cons (pe_op op_add (pe_op op_mul (pe_ix ix_list (pv 0) pe_int (fun _ _ => rfl)) pe_int) pe_int) pa_nil)) pe_int) (pg_sub (pv 0) pe_int set_list))
        (pss_one (ps_ret (pe_op op_mod (pe_callTy call_int1 (by rfl) B.int b_int (pa_cons (pe_op op_fdivW (pe_ix ix_list (pv 0) pe_int (fun _ _ => rfl)) pe_int) pa_nil)) (pv 1))))) pss_nil)
      (pss_cons (ps_set (i := 3) scTaken.nd rfl (Or.inl rfl) (pe_ix ix_list (pe_ix ix_list (pv 0) pe_int (fun _ _ => rfl)) (pe_op op_sub (pe_ix ix_list (pv 0) pe_int (fun _ _ => rfl)) pe_int) (fun _ _ => rfl)))
      (pss_cons (ps_asg (pe_op op_mod (pe_callTy call_int1 (by rfl) B.int b_int (pa_cons (pe_op op_add (pe_op op_add (pe_op op_mul (pe_ix ix_list (pv 0) pe_int (fun _ _ => rfl)) pe_int) (pv 3)) pe_int) pa_nil)) pe_int) (pg_sub (pv 0) pe_int set_list))
      (pss_cons (ps_if (pt_cmpR op_ge (pv 3) (pe_op op_pow pe_int pe_int) (nomark _)) (pss_one (ps_asg (pe_op op_fdivW (pv 3) (pv 1)) (pg_sub (pv 0) pe_int set_list))) pss_nil)
      (pss_one (ps_ret (pe_op op_mod (pe_callTy call_int1 (by rfl) B.int b_int (pa_cons (pv 3) pa_nil)) (pv 1))))))))), ?_⟩
    obtain ⟨i', rfl⟩ := Int.eq_ofNat_of_zero_le hi
    refine ⟨_, rfl, row, _, _, _, rfl, rfl, SqL.of er, atI_nat (j := 3) rfl, _, _, rfl, rfl, ?_⟩
    by_cases hc : 0 < c
    · refine ⟨true, congrArg V.bl (decide_eq_true hc), iteT ?_⟩
      refine ⟨_, rfl, row, _, _, _, rfl, rfl, SqL.of er, atI_nat (j := 3) rfl, .inl ⟨c, rfl, _, rfl, _, _, rfl, rfl, by omega, ?_⟩⟩
      refine ⟨_, rfl, row, _, _, _, rfl, rfl, SqL.of er, atI_nat (j := 3) rfl, _, rfl, _, _, rfl, rfl, wide_div (b := 5) (by omega) (by omega) (by decide) (by decide), _, rfl, row, _, _, 3, rfl, rfl, er, rfl, ?_⟩
      exact ⟨_, rfl, mod_out h1 fun v hv => q v _ hv (SX.of (Same.refl H)).upd (Row.upd hsc hn hi)⟩
    · refine ⟨false, congrArg V.bl (decide_eq_false hc), iteF ?_⟩
      refine ⟨_, rfl, row, _, _, _, rfl, rfl, SqL.of er, atI_nat (j := 1) rfl, _, _, rfl, rfl, _, rfl, row, _, _, 1, rfl, rfl, er, rfl, ?_⟩
      have hi1 : (0 : Int) ≤ ((i' : Nat) : Int) + 1 := by omega
      have sx1 : SX row H (upd H row (.lst [.ref sc, .int ((i' : Int) + 1), .int sd, .int c])) := (SX.of (Same.refl H)).upd
      have er1 : (upd H row (.lst [.ref sc, .int ((i' : Int) + 1), .int sd, .int c])) row = some (.lst [.ref sc, .int ((i' : Int) + 1), .int sd, .int c]) := upd_same
      have hsc1 := sx1.seq hn hsc
      refine ⟨_, rfl, row, _, _, _, rfl, rfl, SqL.of er1, atI_nat (j := 1) rfl, _, rfl, row, _, _, _, rfl, rfl, SqL.of er1, atI_nat (j := 0) rfl, sc, _, rfl, .inl hsc1, _, _, rfl, rfl, ?_⟩
      rw [List.length_map]
      by_cases hl : ((xs.length : Nat) : Int) < (i' : Int) + 1
      · refine ⟨true, congrArg V.bl (decide_eq_true hl), iteT ?_⟩
        refine ⟨_, rfl, row, _, _, _, rfl, rfl, SqL.of er1, atI_nat (j := 2) rfl, _, _, rfl, rfl, .inr ⟨by decide, by decide⟩, _, _, rfl, rfl, .inl ⟨_, rfl, _, _, rfl, rfl, (by decide : (0 : Int) < 2147483647), _, rfl, row, _, _, 2, rfl, rfl, er1, rfl, ?_⟩⟩
        refine ⟨_, rfl, row, _, _, _, rfl, rfl, SqL.of upd_same, atI_nat (j := 2) rfl, _, _, rfl, rfl, wide_div (b := 3) (by decide) (by decide) (by decide) (by decide), .inl ⟨_, rfl, _, rfl, _, _, rfl, rfl, by omega, ?_⟩⟩
        exact mod_out h1 fun v hv => q v _ hv sx1.upd (Row.upd hsc1 hn hi1)
      · refine ⟨false, congrArg V.bl (decide_eq_false hl), iteF ?_⟩
        have hlt : i' < xs.length := by omega
        have hat : atI (xs.map V.int) ((i' : Int) + 1 - 1) = some (V.int xs[i']) := by
          rw [show ((i' : Int) + 1 - 1) = (i' : Int) by omega]
          exact atI_nat (by rw [List.getElem?_map, List.getElem?_eq_getElem hlt] <;> rfl)
        generalize xs[i'] = cell at hat
        refine ⟨_, rfl, row, _, _, _, rfl, rfl, SqL.of er1, atI_nat (j := 0) rfl, _, rfl, row, _, _, _, rfl, rfl, SqL.of er1, atI_nat (j := 1) rfl, _, _, rfl, rfl, sc, _, _, _, rfl, rfl, hsc1, hat, ?_⟩
        refine ⟨_, rfl, row, _, _, _, rfl, rfl, SqL.of er1, atI_nat (j := 2) rfl, _, _, rfl, rfl, .inr ⟨by decide, by decide⟩, _, rfl, _, _, rfl, rfl, _, _, rfl, rfl, .inl ⟨_, rfl, _, _, rfl, rfl, (by decide : (0 : Int) < 2147483647), _, rfl, row, _, _, 2, rfl, rfl, er1, rfl, ?_⟩⟩
        refine ⟨_, rfl, _, _, rfl, rfl, ⟨by decide, by decide, by decide⟩, _, _, rfl, rfl, ?_⟩
        have sx2 : SX row H (upd (upd H row (.lst [.ref sc, .int ((i' : Int) + 1), .int sd, .int c])) row (.lst [.ref sc, .int ((i' : Int) + 1), .int ((sd * 48271 + cell + 11) % 2147483647), .int c])) := sx1.upd
        have hsc2 := sx2.seq hn hsc
        by_cases hb : (10 : Int) ^ (18 : Int).toNat ≤ cell
        · refine ⟨true, congrArg V.bl (decide_eq_true hb), iteT ?_⟩
          refine ⟨_, rfl, _, rfl, _, _, rfl, rfl, wide_div (b := 5) (by omega) (by omega) (by decide) (by decide), _, rfl, row, _, _, 3, rfl, rfl, upd_same, rfl, ?_⟩
          exact ⟨_, rfl, .inl ⟨_, rfl, _, rfl, _, _, rfl, rfl, by omega, mod_out h1 fun v hv => q v _ hv sx2.upd (Row.upd hsc2 hn hi1)⟩⟩
        · refine ⟨false, congrArg V.bl (decide_eq_false hb), iteF ?_⟩
          exact ⟨_, rfl, .inl ⟨_, rfl, _, rfl, _, _, rfl, rfl, by omega, mod_out h1 fun v hv => q v _ hv sx2 (Row.upd hsc1 hn hi1)⟩⟩

/-! pick, dial -/
def spPick (K : PySem.W.Frag) : Sp := fun vs H Q _ => ∃ (row sc th : Addr) (xs : List Int) (ds : List Nat), vs = [.ref row, .ref th] ∧ Row K H row sc xs ∧ H th = some (.lst (ds.map vN)) ∧ ds ≠ [] ∧ ds.length ≤ 24 ∧ ∀ (d : Nat) H', d ∈ ds → SX row H H' → Row K H' row sc xs → Q (vN d) H'
theorem row_ne {H : Hp} {row th sc : Addr} {xs : List Int} {ds : List Nat} (R : Row K H row sc xs) (h : H th = some (.lst (ds.map vN))) : th ≠ row := by
  obtain ⟨⟨i, s, c, er, _⟩, _, _⟩ := R
  refine ne_of h er fun z => ?_
  have z2 := HO.lst.inj z
  cases ds with
  | nil => cases z2
  | cons d t => exact nomatch (List.cons.inj z2).1
theorem scPick : FnScope ["_law_row", "_law_things"] ["_law_row", "_law_things"] (defScope sPick) := ⟨rfl, rfl, rfl, by decide +kernel, rfl, by decide +kernel, by decide +kernel⟩
theorem c_pick (T : Stands K mg "_law_pick" sPick ["_law_row", "_law_things"]) (B : Blt mg) (cTaken : Cal P w K mg base 1 "_law_taken" (spTaken K)) : Cal P w K mg base 2 "_law_pick" (spPick K) := by
  refine cal_of T scPick (fun vs H Q E h => ?_) (fun f cdv A outer s H vs Q E hr h => ?_)
  · obtain ⟨row, sc, th, xs, ds, rfl, _⟩ := h
    rfl
  · obtain ⟨row, sc, th, xs, ds, rfl, R, hth, hne, h24, q⟩ := h
    refine ⟨_, pss_one (ps_ret (pe_ix ix_list (pv 1) (pe_d cTaken hr (by decide) (by rfl) (pa_cons (pv 0) (pa_cons (pe_callB call_len_seq (by rfl) B.len PySem.boot_len (pa_cons (pv 1) pa_nil)) pa_nil))) (fun _ _ => rfl))), ?_⟩
    have h0 : 0 < ds.length := List.length_pos_iff.mpr hne
    refine ⟨_, rfl, _, rfl, _, rfl, th, _, rfl, .inl (SqL.of hth), row, sc, xs, (ds.map vN).length, rfl, R, by rw [List.length_map]; omega, by rw [List.length_map]; omega, fun v H' hv sx R' => ?_⟩
    rw [List.length_map] at hv
    refine ⟨th, _, _, _, rfl, rfl, SqL.of (sx _ _ (row_ne R hth) hth), atI_nat (j := v) (v := vN ds[v]) (by rw [List.getElem?_map, List.getElem?_eq_getElem hv] <;> rfl), q _ _ (List.getElem_mem hv) sx R'⟩
def spLDial (K : PySem.W.Frag) : Sp := fun vs H Q _ => ∃ (row sc wv : Addr) (xs : List Int) (n k : Nat) (x : V), vs = [.ref row, .ref wv, vN k] ∧ Row K H row sc xs ∧ SqT K H wv [vN n, x] ∧ wv ≠ row ∧ n ≤ 7 ∧ 2 ≤ k ∧ k ≤ 24 ∧
  ∀ (p : Addr) (ds : List Nat) H', ds.length = n → (∀ c ∈ ds, c < k) → SX row H H' → Row K H' row sc xs → H p = none → H' p = some (.tup (ds.map vN)) → Q (.ref p) H'
theorem SX.mut {m D : Addr} {H H' : Hp} {o : HO} (e : SX m H H') (h : H D = none) : SX m H (L2.upd H' D o) := fun b u n q => by
  rw [upd_ne (ne_of_none q h)]
  exact e b u n q
theorem SX.free {m p : Addr} {H H' : Hp} (e : SX m H H') (n : p ≠ m) (h : H' p = none) : H p = none := by
  cases q : H p with
  | none => rfl
  | some o => rw [e p o n q] at h; cases h
theorem Row.out {H : Hp} {row p sc : Addr} {xs : List Int} (R : Row K H row sc xs) (h : H p = none) : p ≠ row := fun z => by
  obtain ⟨⟨_, _, _, e, _⟩, _, _⟩ := R
  rw [z, e] at h
  cases h
theorem Row.mut {H H' : Hp} {row sc p : Addr} {xs : List Int} {o : HO} (R : Row K H row sc xs) (sx : SX row H H') (h : H p = none) (R' : Row K H' row sc xs) : Row K (L2.upd H' p o) row sc xs := by
  obtain ⟨⟨i, s, c, e, hi⟩, _, _⟩ := R'
  exact ⟨⟨i, s, c, by rw [upd_ne (R.out h).symm]; exact e, hi⟩, R.ne, (sx.mut h).seq R.ne R.sq⟩
theorem scDial : FnScope ["_law_row", "_law_web", "_law_hours", "_law_part", "_law_one", "_law_k"] ["_law_row", "_law_web", "_law_hours"] (defScope sDial) := ⟨rfl, rfl, rfl, by decide +kernel, rfl, by decide +kernel, by decide +kernel⟩
theorem c_dial (T : Stands K mg "_law_dial" sDial ["_law_row", "_law_web", "_law_hours"]) (B : Blt mg) (cTaken : Cal P w K mg base 1 "_law_taken" (spTaken K)) (cPick : Cal P w K mg base 2 "_law_pick" (spPick K)) : Cal P w K mg base 3 "_law_dial" (spLDial K) := by
  refine cal_of T scDial (fun vs H Q E h => ?_) (fun f cdv A outer s H vs Q E hr h => ?_)
  · obtain ⟨row, sc, wv, xs, n, k, x, rfl, _⟩ := h
    rfl
  · obtain ⟨row, sc, wv, xs, n, k, x, rfl, R, hw, hwr, n7, k2, k24, q⟩ := h
    refine ⟨_, pss_cons (ps_set (i := 3) scDial.nd rfl (Or.inr rfl) (pe_d cPick hr (by decide) (by rfl) (pa_cons (pv 0) (pa_cons (pe_lc (own := [("_law_one", 4)]) (g := gName 4) rfl scDial.nd (pi_range2 rfl B.range (pa_cons pe_int (pa_cons (pe_op op_add (pv 2) pe_int) pa_nil))) (blkOk_by (N := ["_law_row", "_law_web", "_law_hours", "_law_part", "_law_one", "_law_k"]) (sc := defScope sDial) (by decide +kernel)) (fun _ _ _ _ _ => pg_name (i := 4) scDial.nd rfl (Or.inl rfl)) (fun _ _ _ _ _ => pts_one (pt_cmpR op_eq (pe_op op_mod (pe_callTy call_int1 (by rfl) B.int b_int (pa_cons (pv 2) pa_nil)) (pv 4)) pe_int (nomark _))) (fun _ _ _ _ _ => pv 4)) pa_nil))))
      (C8.pss_cut (ps_set (i := 3) scDial.nd rfl (Or.inr rfl) (pe_ifExp (pt_cmpR op_eq (pe_d cTaken hr (by decide) (by rfl) (pa_cons (pv 0) (pa_cons pe_int pa_nil))) pe_int (nomark _)) (pv 3) pe_int))
      (pss_one (ps_ret (pe_tupleOf (by rfl) B.tuple (pe_lc (own := [("_law_k", 5)]) (g := gName 5) rfl scDial.nd (pi_range1 rfl B.range (pa_cons (pe_ix ix_tup (pv 1) pe_int (fun _ _ => rfl)) pa_nil)) (blkOk_by (N := ["_law_row", "_law_web", "_law_hours", "_law_part", "_law_one", "_law_k"]) (sc := defScope sDial) (by decide +kernel)) (fun _ _ _ _ _ => pg_name (i := 5) scDial.nd rfl (Or.inl rfl)) (fun _ _ _ _ _ => pts_nil) (fun _ _ _ _ _ => pe_op op_mod (pe_callTy call_int1 (by rfl) B.int b_int (pa_cons (pe_op op_mul (pv 3) (pe_d cTaken hr (by decide) (by rfl) (pa_cons (pv 0) (pa_cons (pv 2) pa_nil)))) pa_nil)) (pv 2))))))), ?_⟩
    refine ⟨_, rfl, _, rfl, _, _, rfl, rfl, 1, (k : Int) + 1, rfl, ⟨by omega, by omega, by omega, by omega⟩, fun D hD => lc_range (lo := 1) (n := ((k : Int) + 1 - 1).toNat)
      (fun i H' => Same H H' ∧ H' D = some (.lst ((divsTo k i).map vN))) ⟨same_upd hD, upd_same⟩ ?_ ?_⟩
    · rintro i H' hi ⟨sm, eD⟩
      have hik : i < k := by omega
      have hm : (k : Int) % (1 + (i : Nat)) = ((k % (i + 1) : Nat) : Int) := by rw [Int.natCast_emod, Int.add_comm]; rfl
      by_cases h0 : k % (i + 1) = 0
      · refine ⟨rfl, _, rfl, .inl ⟨_, rfl, _, rfl, _, _, rfl, rfl, by omega, rfl, true, congrArg V.bl (eq_int (by rw [hm, h0]; rfl)), iteT ?_⟩⟩
        refine ⟨_, rfl, _, eD, small7 (m := 24) ?_ (by decide), sm.mut hD, ?_⟩
        · rw [List.length_map]
          have := divsTo_len k i
          omega
        · rw [upd_same, divsTo_pos h0, List.map_append, Int.add_comm]
          rfl
      · refine ⟨rfl, _, rfl, .inl ⟨_, rfl, _, rfl, _, _, rfl, rfl, by omega, rfl, false, congrArg V.bl (eq_intF (by rw [hm]; omega)), iteF ⟨sm, ?_⟩⟩⟩
        rw [divsTo_neg h0]
        exact eD
    rintro H1 ⟨s1, eD⟩
    rw [show ((k : Int) + 1 - 1).toNat = k by omega] at eD
    have hdn : divs k ≠ [] := List.ne_nil_of_mem (a := 1) (List.mem_filter.mpr ⟨List.mem_map.mpr ⟨0, List.mem_range.mpr (by omega), rfl⟩, by simp [Nat.mod_one]⟩)
    refine ⟨row, sc, D, xs, divs k, rfl, R.same s1, eD, hdn, by have := divs_len k; omega, fun d H2 hd sx R2 => ?_⟩
    obtain ⟨_, hdk, _⟩ := divs_in hd
    have sx2 := (SX.of s1).trans sx
    refine ⟨fun σ H' => ∃ part : Nat, part ≤ 24 ∧ σ = [some (.ref row), some (.ref wv), some (vN k), some (vN part), none, none] ∧ SX row H H' ∧ Row K H' row sc xs, ?_, ?_⟩
    · refine ⟨_, rfl, row, sc, xs, 2, rfl, R2, by decide, by decide, fun v H3 hv sx3 R3 => ?_⟩
      by_cases h0 : v = 0
      · exact ⟨rfl, true, congrArg V.bl (eq_int (by omega)), iteT ⟨_, rfl, d, by omega, rfl, sx2.trans sx3, R3⟩⟩
      · exact ⟨rfl, false, congrArg V.bl (eq_intF (by omega)), iteF ⟨1, by omega, rfl, sx2.trans sx3, R3⟩⟩
    rintro σ H3 ⟨part, hp24, rfl, sx3, R3⟩
    have hw3 := sx3.seqT hwr hw
    refine ⟨_, rfl, wv, _, _, _, rfl, rfl, hw3, atI_nat (j := 0) rfl, n, rfl, by omega, by omega, fun E2 hE => lc_range (lo := 0) (n := n)
      (fun i H' => ∃ ds : List Nat, ds.length = i ∧ (∀ c ∈ ds, c < k) ∧ SX row H3 H' ∧ Row K H' row sc xs ∧ H' E2 = some (.lst (ds.map vN))) ⟨[], rfl, by simp, SX.of (same_upd hE), R3.same (same_upd hE), upd_same⟩ ?_ ?_⟩
    · rintro i H' hi ⟨ds, hl, hk, sx4, R4, eE⟩
      refine ⟨rfl, _, rfl, _, rfl, _, rfl, row, sc, xs, k, rfl, R4, by omega, k24, fun v H5 hv sx5 R5 => ?_⟩
      refine ⟨_, _, rfl, rfl, .inl ⟨by omega, by omega⟩, .inl ⟨_, rfl, _, rfl, _, _, rfl, rfl, by omega, ?_⟩⟩
      have hEr := R3.out hE
      have eE5 := sx5 _ _ hEr eE
      refine ⟨_, eE5, small7 (m := 7) (by rw [List.length_map]; omega) (by decide), ds ++ [(part * v) % k], by rw [List.length_append, hl]; rfl, fun c hc => ?_, (sx4.trans sx5).mut hE, ?_, ?_⟩
      · rcases List.mem_append.mp hc with h | h
        · exact hk c h
        · rw [List.mem_singleton.mp h]
          exact Nat.mod_lt _ (by omega)
      · exact R3.mut (sx4.trans sx5) hE R5
      · rw [upd_same, List.map_append]
        rfl
    · rintro H' ⟨ds, hl, hk, sx4, R4, eE⟩
      refine .inl ⟨E2, _, rfl, SqL.of eE, fun p hp => ?_⟩
      have s6 : Same H' (upd H' p (.tup (ds.map vN))) := same_upd hp
      have sx6 := (sx3.trans sx4).trans (SX.of s6)
      exact q p ds _ hl hk sx6 (R4.same s6) ((sx3.trans sx4).free (R4.out hp) hp) upd_same

/-! gcd of the law -/
theorem scLGcd : FnScope ["_law_one", "_law_other"] ["_law_one", "_law_other"] (defScope sLGcd) := ⟨rfl, rfl, rfl, by decide +kernel, rfl, by decide +kernel, by decide +kernel⟩
theorem c_lgcd (T : Stands K mg "_law_gcd" sLGcd ["_law_one", "_law_other"]) (B : Blt mg) : Cal P w K mg base 1 "_law_gcd" spGcd := by
  refine cal_of T scLGcd (fun vs H Q E h => ?_) (fun f cdv A outer s H vs Q E hr h => ?_)
  · obtain ⟨a, b, rfl, _⟩ := h
    rfl
  · obtain ⟨a, b, rfl, q⟩ := h
    refine ⟨_, pss_cons (ps_par (i := 0) (j := 1) rfl scLGcd.nd rfl rfl (by decide) rfl rfl (pa_cons (pe_callB call_abs (by rfl) B.abs b_abs (pa_cons (pv 0) pa_nil)) (pa_cons (pe_callB call_abs (by rfl) B.abs b_abs (pa_cons (pv 1) pa_nil)) pa_nil)) (by rfl))
      (pss_cons (ps_while PassesOwn.never (pt_cmpR op_ne (pv 1) pe_int (nomark _)) (pss_one (ps_par (i := 0) (j := 1) rfl scLGcd.nd rfl rfl (by decide) rfl rfl (pa_cons (pv 1) (pa_cons (pe_op op_mod (pe_callTy call_int1 (by rfl) B.int b_int (pa_cons (pv 0) pa_nil)) (pv 1)) pa_nil)) (by rfl))))
      (pss_one (ps_ret (pv 0)))), ?_⟩
    have ea : (if (a : Int) < 0 then -(a : Int) else (a : Int)) = (a : Int) := if_neg (by omega)
    have eb : (if (b : Int) < 0 then -(b : Int) else (b : Int)) = (b : Int) := if_neg (by omega)
    refine ⟨_, rfl, _, rfl, _, rfl, _, rfl, _, _, rfl, ?_⟩
    refine while_by (fun σ H' => H' = H ∧ ∃ x y : Nat, σ = [some (vN x), some (vN y)] ∧ Nat.gcd x y = Nat.gcd a b) (fun σ _ => match σ with | [_, some (.int y)] => y.toNat | _ => 0) ⟨rfl, a, b, ?_, rfl⟩ ?_ (fun σ H Q Q' m ⟨v, e, s, k, ek, q⟩ => ⟨v, e, s, k, ek, m _ _ q⟩)
    · show [some (V.int (if (a : Int) < 0 then -(a : Int) else (a : Int))), some (V.int (if (b : Int) < 0 then -(b : Int) else (b : Int)))] = _
      rw [ea, eb]
    · rintro σ H' ⟨rfl, x, y, rfl, e⟩
      by_cases hy : y = 0
      · subst hy
        refine ⟨_, rfl, rfl, false, rfl, iteF ?_⟩
        refine ⟨_, rfl, ?_⟩
        rw [Nat.gcd_zero_right] at e
        rw [e]
        exact q
      · refine ⟨_, rfl, rfl, true, congrArg V.bl (ne_int (by omega)), iteT ?_⟩
        refine ⟨_, rfl, _, rfl, .inl ⟨_, rfl, _, rfl, _, _, rfl, rfl, by omega, _, _, rfl, ?_⟩⟩
        refine ⟨⟨rfl, y, x % y, rfl, ?_⟩, ?_⟩
        · rw [← e, Nat.gcd_comm x y, Nat.gcd_rec y x, Nat.gcd_comm]
        · show (((x : Int) % (y : Int)).toNat) < ((y : Int)).toNat
          have := Nat.mod_lt x (Nat.pos_of_ne_zero hy)
          omega
end
end CK

set_option Elab.async false
set_option linter.all false
set_option maxRecDepth 100000
/-! plain mathematics of the law -/
namespace CK
open PySem PySem.Spec PyProof.Rows L2
theorem gl_zeros (k : Nat) : ∀ m, gl k (List.replicate m 0) = k
  | 0 => rfl
  | m + 1 => by
    rw [List.replicate_succ, gl_cons, Nat.gcd_zero_right]
    exact gl_zeros k m
theorem gl_append (k : Nat) (a b : List Nat) : gl k (a ++ b) = gl (gl k a) b := List.foldl_append
def thereL (k n d : Nat) : List Nat := List.replicate (n - 1) 0 ++ [d % k]
theorem thereL_len {k n d : Nat} (hn : 0 < n) : (thereL k n d).length = n := by
  unfold thereL
  rw [List.length_append, List.length_replicate, List.length_singleton]
  omega
theorem gcd_there {k d : Nat} (h : d ∣ k) : Nat.gcd k (d % k) = d := by
  rw [Nat.gcd_comm, ← Nat.gcd_rec]
  exact Nat.gcd_eq_right h
theorem gl_there {k n d : Nat} (h : d ∣ k) : gl k (thereL k n d) = d := by
  unfold thereL
  rw [gl_append, gl_zeros]
  exact gcd_there h
theorem tl_somes (ds : List Nat) : tl (ds.map some) = ds := by
  unfold tl
  rw [List.filterMap_map]
  exact List.filterMap_some
theorem tl_nones (n : Nat) : tl (List.replicate n none) = [] := by
  induction n with
  | zero => rfl
  | succ n ih => rw [List.replicate_succ]; exact ih
theorem tl_app (a b : List (Option Nat)) : tl (a ++ b) = tl a ++ tl b := List.filterMap_append
theorem ways_pos {k g : Nat} {ts : List (Option Nat)} (k0 : 0 < k) (k24 : k ≤ 24) (g0 : 0 < g) (h : g ∣ gl k (tl ts)) (hl : (tl ts).length < ts.length) (h7 : ts.length ≤ 7) : 0 < ways k g ts := by
  have c0 : 0 < gl k (tl ts) := gl_pos k0
  have ck : gl k (tl ts) ≤ k := gl_le k0
  unfold ways
  rw [if_pos (Nat.mod_eq_zero_of_dvd h), if_pos (by omega)]
  refine Nat.mul_pos (primeTo_pos (Nat.div_pos (Nat.le_of_dvd c0 h) g0) ?_ (by omega) (by omega)) (Nat.pow_pos (Nat.div_pos ck c0))
  have := Nat.div_le_self (gl k (tl ts)) g
  omega
theorem ways_full {k g : Nat} {ts : List (Option Nat)} (hl : (tl ts).length = ts.length) : ways k g ts = if gl k (tl ts) = g then (if g % g = 0 then 1 else 0) else 0 := by
  unfold ways
  rw [hl, Nat.sub_self, if_neg (Nat.lt_irrefl 0), Nat.pow_zero, Nat.mul_one]
  by_cases e : gl k (tl ts) = g
  · rw [if_pos e, if_pos e, e]
  · rw [if_neg e, if_neg e]
    split <;> rfl
theorem ways_none {k d n : Nat} (k0 : 0 < k) (h : d ∣ k) (hn : 0 < n) : ways k d (List.replicate n none) = primeTo (k / d) n := by
  have e : gl k ([] : List Nat) = k := rfl
  unfold ways
  rw [tl_nones, e, if_pos (Nat.mod_eq_zero_of_dvd h), List.length_nil, List.length_replicate, Nat.sub_zero, if_pos hn, Nat.div_self k0, Nat.one_pow, Nat.mul_one]
theorem thereL_at {k n d i m : Nat} (h : (thereL k n d)[i]? = some m) : (i < n - 1 ∧ m = 0) ∨ (i = n - 1 ∧ m = d % k) := by
  have hi := (List.getElem?_eq_some_iff.mp h).1
  have hl : (thereL k n d).length = n - 1 + 1 := by
    unfold thereL
    rw [List.length_append, List.length_replicate, List.length_singleton]
  rw [hl] at hi
  unfold thereL at h
  by_cases c : i < n - 1
  · rw [List.getElem?_append_left (by rw [List.length_replicate]; exact c), List.getElem?_replicate, if_pos c] at h
    exact .inl ⟨c, (Option.some.inj h).symm⟩
  · have e : i = n - 1 := by omega
    subst e
    rw [List.getElem?_append_right (by rw [List.length_replicate]; exact Nat.le_refl _), List.length_replicate, Nat.sub_self] at h
    exact .inr ⟨rfl, (Option.some.inj h).symm⟩
theorem thereL_take {k n d i : Nat} (h : i ≤ n - 1) : (thereL k n d).take i = List.replicate i 0 := by
  unfold thereL
  rw [List.take_append_of_le_length (by rw [List.length_replicate]; exact h), List.take_replicate, Nat.min_eq_left h]
theorem tl_at1 {n i : Nat} {ms : List Nat} {j : Nat} : tl (at1 n ms i (some j)) = ms.take i ++ [j] := by
  unfold at1
  rw [tl_app, tl_somes]
  congr 1
  show j :: tl (List.replicate (n - i - 1) none) = [j]
  rw [tl_nones]
theorem lst_there {k n d : Nat} (n2 : 2 ≤ n) (n7 : n ≤ 7) (k0 : 0 < k) (k24 : k ≤ 24) (d0 : 0 < d) (h : d ∣ k) : Lst k d n (thereL k n d) where
  len := thereL_len (by omega)
  no := fun i m hm j hj => by
    rcases thereL_at hm with ⟨_, e⟩ | ⟨e, em⟩
    · omega
    · subst e
      have hl : (tl (at1 n (thereL k n d) (n - 1) (some j))).length = (at1 n (thereL k n d) (n - 1) (some j)).length := by
        rw [at1_len (thereL_len (by omega)) (by omega), tl_at1, thereL_take (Nat.le_refl _), List.length_append, List.length_replicate, List.length_singleton]
        omega
      rw [ways_full hl, tl_at1, thereL_take (Nat.le_refl _), gl_append, gl_zeros]
      refine if_neg fun e2 => ?_
      have e3 : Nat.gcd k j = d := e2
      have hdk := Nat.le_of_dvd k0 h
      by_cases hd : d = k
      · subst hd
        rw [Nat.mod_self] at em
        omega
      · rw [Nat.mod_eq_of_lt (by omega)] at em
        have hdj : d ∣ j := by rw [← e3]; exact Nat.gcd_dvd_right k j
        have hj0 : j = 0 := Nat.eq_zero_of_dvd_of_lt hdj (by omega)
        rw [hj0, Nat.gcd_zero_right] at e3
        exact hd e3.symm
  yes := fun i m hm => by
    rcases thereL_at hm with ⟨hi, rfl⟩ | ⟨rfl, rfl⟩
    · refine ⟨k0, ways_pos k0 k24 d0 ?_ ?_ ?_⟩
      · rw [tl_at1, thereL_take (by omega), gl_append, gl_zeros]
        show d ∣ Nat.gcd k 0
        rw [Nat.gcd_zero_right]
        exact h
      · rw [tl_at1, at1_len (thereL_len (by omega)) (by omega), thereL_take (by omega), List.length_append, List.length_replicate, List.length_singleton]
        omega
      · rw [at1_len (thereL_len (by omega)) (by omega)]
        exact n7
    · refine ⟨Nat.mod_lt _ k0, ?_⟩
      have hl : (tl (at1 n (thereL k n d) (n - 1) (some (d % k)))).length = (at1 n (thereL k n d) (n - 1) (some (d % k))).length := by
        rw [at1_len (thereL_len (by omega)) (by omega), tl_at1, thereL_take (Nat.le_refl _), List.length_append, List.length_replicate, List.length_singleton]
        omega
      rw [ways_full hl, tl_at1, thereL_take (Nat.le_refl _), gl_append, gl_zeros]
      rw [if_pos (show gl k [d % k] = d from gcd_there h), Nat.mod_self]
      decide
/-- the hours shown: the multiples of g -/
theorem shown_eq {k g n place : Nat} (n2 : 2 ≤ n) (n7 : n ≤ 7) (k0 : 0 < k) (k24 : k ≤ 24) (g0 : 0 < g) (h : g ∣ k) (hp : place < n) : (List.range k).filter (fun h => decide (0 < ways k g (only n place h))) = (List.range (k / g)).map fun i => i * g := by
  have e1 : ∀ x, tl (only n place x) = [x] := fun x => by
    unfold only
    have : (List.replicate n (none : Option Nat)).set place (some x) = List.replicate place none ++ some x :: List.replicate (n - place - 1) none := by
      rw [List.set_eq_take_append_cons_drop, if_pos (by rw [List.length_replicate]; exact hp), List.take_replicate, List.drop_replicate, Nat.min_eq_left (by omega), Nat.sub_add_eq]
    rw [this, tl_app, tl_nones]
    show x :: tl (List.replicate (n - place - 1) none) = [x]
    rw [tl_nones]
  have e2 : ∀ x, decide (0 < ways k g (only n place x)) = decide (g ∣ x) := fun x => by
    by_cases c : g ∣ x
    · rw [decide_eq_true c, decide_eq_true]
      refine ways_pos k0 k24 g0 ?_ ?_ ?_
      · rw [e1]
        exact Nat.dvd_gcd h c
      · rw [e1, only_len, List.length_singleton]
        omega
      · rw [only_len]
        exact n7
    · rw [decide_eq_false c, decide_eq_false]
      intro w
      unfold ways at w
      rw [e1] at w
      rw [if_neg] at w
      · exact absurd w (Nat.lt_irrefl 0)
      · intro z
        exact c (Nat.dvd_trans (Nat.dvd_of_mod_eq_zero z) (Nat.gcd_dvd_right k x))
  have e3 : (fun x => decide (0 < ways k g (only n place x))) = fun x => decide (g ∣ x) := funext e2
  rw [e3]
  have all : ∀ k < 25, ∀ g < 25, 0 < g → g ∣ k → (List.range k).filter (fun x => decide (g ∣ x)) = (List.range (k / g)).map fun i => i * g := by decide +kernel
  exact all k (by omega) g (by have := Nat.le_of_dvd k0 h; omega) g0 h
theorem rgC_mult {k g : Nat} (k0 : 0 < k) (k24 : k ≤ 24) (g0 : 0 < g) (h : g ∣ k) : RgC 0 (k : Int) (g : Int) (k / g) := by
  have hg := Nat.le_of_dvd k0 h
  have all : ∀ k < 25, ∀ g < 25, 0 < g → g ∣ k → Builtin.Range.small 0 ((k : Nat) : Int) ((g : Nat) : Int) = true ∧ Builtin.Range.rangeSize 0 ((k : Nat) : Int) ((g : Nat) : Int) = k / g := by decide +kernel
  obtain ⟨a, b⟩ := all k (by omega) g (by omega) g0 h
  exact ⟨by omega, by omega, a, b⟩
/-- a wish of multiples, one of them left open, can be met -/
theorem wish_pos {k g n place : Nat} {vs : List Nat} (n2 : 2 ≤ n) (n7 : n ≤ 7) (k0 : 0 < k) (k24 : k ≤ 24) (g0 : 0 < g) (h : g ∣ k) (hv : ∀ v ∈ vs, g ∣ v) (hl : vs.length = n) (hp : place < n) : 0 < ways k g ((vs.map some).set place none) := by
  have e1 : tl ((vs.map some).set place none) = vs.take place ++ vs.drop (place + 1) := by
    rw [List.set_eq_take_append_cons_drop, if_pos (by rw [List.length_map, hl]; exact hp), tl_app]
    rw [← List.map_take, tl_somes]
    congr 1
    show tl (List.drop (place + 1) (vs.map some)) = _
    rw [← List.map_drop, tl_somes]
  refine ways_pos k0 k24 g0 ?_ ?_ ?_
  · refine dvd_gl h fun d hd => ?_
    rw [e1] at hd
    rcases List.mem_append.mp hd with z | z
    · exact hv d (List.mem_of_mem_take z)
    · exact hv d (List.mem_of_mem_drop z)
  · rw [e1, List.length_append, List.length_take, List.length_drop, List.length_set, List.length_map]
    omega
  · rw [List.length_set, List.length_map, hl]
    exact n7
end CK

set_option Elab.async false
set_option linter.all false
set_option maxRecDepth 100000
/-! pairs in the heap, and the ring that is sorted out of them -/
namespace CK
open PySem PySem.Spec PyProof.Rows L2
abbrev KP := List (Addr × (Nat × Nat))
def fI (p : Addr × (Nat × Nat)) : Addr × List Int := (p.1, [(p.2.1 : Int), (p.2.2 : Int)])
def kpV (kp : KP) : List V := kp.map fun p => V.ref p.1
def Prs (H : Hp) (kp : KP) : Prop := ∀ p ∈ kp, H p.1 = some (.tup [vN p.2.1, vN p.2.2])
theorem Prs.same {H H' : Hp} {kp : KP} (e : Same H H') (h : Prs H kp) : Prs H' kp := fun p hp => e _ _ (h p hp)
theorem Prs.mut {H : Hp} {kp : KP} {D : Addr} {xs : List V} {o : HO} (h : Prs H kp) (hD : H D = some (.lst xs)) : Prs (upd H D o) kp := fun p hp => by
  rw [upd_ne (ne_of (h p hp) hD (by intro z; cases z))]
  exact h p hp
theorem Prs.app {H : Hp} {a b : KP} (h1 : Prs H a) (h2 : Prs H b) : Prs H (a ++ b) := fun p hp => (List.mem_append.mp hp).elim (h1 p) (h2 p)
theorem Prs.snoc {H : Hp} {a : KP} {t : Addr} {x y : Nat} (h1 : Prs H a) (h2 : H t = some (.tup [vN x, vN y])) : Prs H (a ++ [(t, (x, y))]) := h1.app fun p hp => by rw [List.mem_singleton.mp hp]; exact h2
theorem unmap {kp : KP} : ∀ {L' : List (Addr × List Int)}, (∀ p ∈ L', p ∈ kp.map fI) → ∃ lp : KP, L' = lp.map fI ∧ ∀ p ∈ lp, p ∈ kp
  | [], _ => ⟨[], rfl, fun p hp => nomatch hp⟩
  | q :: t, h => by
    obtain ⟨lp, e, hl⟩ := unmap (L' := t) fun p hp => h p (List.mem_cons_of_mem _ hp)
    obtain ⟨p, hp, rfl⟩ := List.mem_map.mp (h q List.mem_cons_self)
    refine ⟨p :: lp, by rw [e]; rfl, fun r hr => ?_⟩
    rcases List.mem_cons.mp hr with rfl | hr
    · exact hp
    · exact hl r hr
theorem fI_inj {p q : Addr × (Nat × Nat)} (h : (fI p).2 = (fI q).2) : p.2 = q.2 := by
  have h1 := (List.cons.inj h).1
  have h2 := (List.cons.inj (List.cons.inj h).2).1
  exact Prod.ext (by omega) (by omega)
theorem ring_of {n : Nat} {kp : KP} {L L' : List (Addr × List Int)} (n2 : 2 ≤ n) (n7 : n ≤ 7) (hring : ∀ k, k < n → (k, (k + 1) % n) ∈ kp.map (·.2)) (hok : ∀ p ∈ kp, p.2.1 < n ∧ p.2.2 < n ∧ p.2.1 ≠ p.2.2)
    (h1 : ∀ p ∈ L, p ∈ kp.map fI) (h2 : ∀ p ∈ kp.map fI, p.2 ∈ L.map (·.2)) (hp : L'.Perm L) (nd : (L'.map (·.2)).Nodup) (h64 : L'.length < 64) (pw : L'.Pairwise fun q r => TS.code 64 q.2 ≤ TS.code 64 r.2) :
    ∃ lp : KP, L' = lp.map fI ∧ (∀ p ∈ lp, p ∈ kp) ∧ Ring n (lp.map (·.2)) := by
  obtain ⟨lp, rfl, hl⟩ := unmap (kp := kp) (L' := L') fun p hp2 => h1 p (hp.mem_iff.mp hp2)
  refine ⟨lp, rfl, hl, n2, n7, fun k hk => ?_, fun p hp2 => ?_, ?_, ?_⟩
  · obtain ⟨p, hpk, e⟩ := List.mem_map.mp (hring k hk)
    obtain ⟨q, hq, eq⟩ := List.mem_map.mp (h2 (fI p) (List.mem_map.mpr ⟨p, hpk, rfl⟩))
    obtain ⟨p', hp', rfl⟩ := List.mem_map.mp (hp.mem_iff.mpr hq)
    refine List.mem_map.mpr ⟨p', hp', ?_⟩
    rw [← e]
    exact fI_inj eq
  · obtain ⟨q, hq, rfl⟩ := List.mem_map.mp hp2
    exact hok q (hl q hq)
  · rw [List.pairwise_map] at pw
    rw [List.map_map] at nd
    have nd2 := List.pairwise_map.mp nd
    rw [List.pairwise_map]
    refine List.Pairwise.imp_of_mem ?_ (pw.and nd2)
    intro a b ha hb hab
    obtain ⟨a1, a2, _⟩ := hok a (hl a ha)
    obtain ⟨b1, b2, _⟩ := hok b (hl b hb)
    have := pair_lt hab.1 hab.2 ⟨by omega, by omega⟩ ⟨by omega, by omega⟩ ⟨by omega, by omega⟩ ⟨by omega, by omega⟩
    unfold lex
    omega
  · rw [List.length_map] at h64 ⊢
    exact h64
end CK

set_option Elab.async false
set_option linter.all false
set_option maxRecDepth 100000
set_option maxHeartbeats 8000000
namespace CK
open PySem PySem.Spec PyProof.Rows L2
section
variable {P : Program} {w : World} {K : PySem.W.Frag} {mg : Str → Option Value} {base : Heap}

theorem Arr.sx {row : Addr} {H H' : Hp} {ys : List V} {ts : List Addr} {ar : List (Nat × Nat)} (e : SX row H H') (hm : H row = some (.lst ys)) (h : Arr K H ts ar) : Arr K H' ts ar := ⟨h.1, fun i t p a b => e.tupL hm (h.2 i t p a b)⟩
theorem Web.sx {row wv : Addr} {H H' : Hp} {ys : List V} {n : Nat} {ar : List (Nat × Nat)} (e : SX row H H') (hm : H row = some (.lst ys)) (h : Web K H wv n ar) : Web K H' wv n ar :=
  let ⟨b, ts, h1, h2, h3⟩ := h; ⟨b, ts, e.tupL hm h1, e.tupL hm h2, h3.sx e hm⟩
theorem Prs.sx {row : Addr} {H H' : Hp} {ys : List V} {kp : KP} (e : SX row H H') (hm : H row = some (.lst ys)) (h : Prs H kp) : Prs H' kp := fun p hp => e _ _ (ne_of (h p hp) hm (by intro z; cases z)) (h p hp)
theorem Row.lst {H : Hp} {row sc : Addr} {xs : List Int} (R : Row K H row sc xs) : ∃ ys, H row = some (.lst ys) := let ⟨⟨_, _, _, e, _⟩, _, _⟩ := R; ⟨_, e⟩
/-- the numbers drawn, the web -/
structure LA (K : PySem.W.Frag) (H : Hp) (row sc : Addr) (xs : List Int) (wv : Addr) (n k : Nat) (ar : List (Nat × Nat)) : Prop where
  rr : Row K H row sc xs
  web : Web K H wv n ar
  out : wv ≠ row
  ring : Ring n ar
  k2 : 2 ≤ k
  k24 : k ≤ 24
theorem LA.same {H H' : Hp} {row sc wv : Addr} {xs : List Int} {n k : Nat} {ar : List (Nat × Nat)} (e : Same H H') (h : LA K H row sc xs wv n k ar) : LA K H' row sc xs wv n k ar := ⟨h.rr.same e, h.web.same e, h.out, h.ring, h.k2, h.k24⟩
theorem LA.sx {H H' : Hp} {row sc wv : Addr} {xs : List Int} {n k : Nat} {ar : List (Nat × Nat)} (e : SX row H H') (R : Row K H' row sc xs) (h : LA K H row sc xs wv n k ar) : LA K H' row sc xs wv n k ar :=
  let ⟨_, hm⟩ := h.rr.lst; ⟨R, h.web.sx e hm, h.out, h.ring, h.k2, h.k24⟩
/-- and the dials, with what is common to each -/
structure LS (K : PySem.W.Frag) (H : Hp) (row sc : Addr) (xs : List Int) (wv d1 d2 pa : Addr) (n k : Nat) (ar : List (Nat × Nat)) (ds1 ds2 : List Nat) : Prop where
  la : LA K H row sc xs wv n k ar
  t1 : Tn K H d1 ds1
  l1 : ds1.length = n
  lt1 : ∀ c ∈ ds1, c < k
  t2 : Tn K H d2 ds2
  l2 : ds2.length = n
  lt2 : ∀ c ∈ ds2, c < k
  pp : H pa = some (.lst [vN (gl k ds1), vN (gl k ds2)])
  pr : pa ≠ row
section
variable {H H' : Hp} {row sc wv d1 d2 pa : Addr} {xs : List Int} {n k : Nat} {ar : List (Nat × Nat)} {ds1 ds2 : List Nat}
theorem LS.same (e : Same H H') (h : LS K H row sc xs wv d1 d2 pa n k ar ds1 ds2) : LS K H' row sc xs wv d1 d2 pa n k ar ds1 ds2 := ⟨h.la.same e, e.tup h.t1, h.l1, h.lt1, e.tup h.t2, h.l2, h.lt2, e _ _ h.pp, h.pr⟩
theorem LS.sx (e : SX row H H') (R : Row K H' row sc xs) (h : LS K H row sc xs wv d1 d2 pa n k ar ds1 ds2) : LS K H' row sc xs wv d1 d2 pa n k ar ds1 ds2 :=
  let ⟨_, hm⟩ := h.la.rr.lst; ⟨h.la.sx e R, e.tupL hm h.t1, h.l1, h.lt1, e.tupL hm h.t2, h.l2, h.lt2, e _ _ h.pr h.pp, h.pr⟩
theorem LS.dl (h : LS K H row sc xs wv d1 d2 pa n k ar ds1 ds2) : Dl K H wv d1 n k ar ds1 := ⟨h.la.web, h.la.ring, h.la.k2, h.la.k24, h.t1, h.l1, h.lt1⟩
end
def spLaw (K : PySem.W.Frag) : Sp := fun vs H Q _ => ∃ (a : Addr) (ns : List Int), vs = [.ref a] ∧ SqL K H a (ns.map V.int) ∧ ∀ H', Q (.bl true) H'
theorem scLaw : FnScope ["_law_script", "_law_row", "_law_many", "_law_hours", "_law_k", "_law_ring", "_law_more", "_law_web", "_law_dial_here", "_law_other", "_law_parts", "_law_one", "_law_part", "_law_hour", "_law_divisors", "_law_whole", "_law_there", "_law_place", "_law_wish", "_law_j", "_law_size", "_law_count"] ["_law_script"] (defScope sLaw) := ⟨rfl, rfl, rfl, by decide +kernel, rfl, by decide +kernel, by decide +kernel⟩
theorem c_law {f : Addr} {fd : FuncData} (F : Fun K "law" "law" sLaw f fd) (B : Blt mg) (cTaken : Cal P w K mg base 1 "_law_taken" (spTaken K)) (cDial : Cal P w K mg base 3 "_law_dial" (spLDial K)) (cLGcd : Cal P w K mg base 1 "_law_gcd" spGcd)
    (cCanCome : Cal P w K mg base 6 "can_come" (spCanCome K)) (cMarks : Cal P w K mg base 6 "marks" (spMarks K)) (cClassCount : Cal P w K mg base 5 "class_count" (spClassCount K)) (cClassSizes : Cal P w K mg base 5 "class_sizes" (spClassSizes K))
    (cComeCount : Cal P w K mg base 6 "come_count" (spComeCount K)) (cLeastCome : Cal P w K mg base 7 "least_come" (spLeastCome K)) (cGathered : Cal P w K mg base 6 "gathered" (spGathered K)) (cShown : Cal P w K mg base 7 "shown" (spShown K)) (cCanMeet : Cal P w K mg base 6 "can_meet" (spCanMeet K)) :
    FnOk P w K mg base CX0 8 f fd ["_law_script"] (spLaw K) := by
  refine F.ok scLaw (fun vs H Q E h => ?_) (fun cdv A outer s H vs Q E hr h => ?_)
  · obtain ⟨a, ns, rfl, _⟩ := h
    rfl
  · obtain ⟨a, ns, rfl, ha, q⟩ := h
    refine ⟨_, pss_cons (ps_set (i := 1) scLaw.nd rfl (Or.inr rfl) (pe_lst (pa_cons (pv 0) (pa_cons pe_int (pa_cons pe_int (pa_cons pe_int pa_nil))))))
      (C8.pss_cut (ps_asg (pe_tup (pa_cons (pe_op op_add pe_int (pe_d cTaken hr (by decide) (by rfl) (pa_cons (pv 1) (pa_cons pe_int pa_nil)))) (pa_cons (pe_op op_add pe_int (pe_d cTaken hr (by decide) (by rfl) (pa_cons (pv 1) (pa_cons pe_int pa_nil)))) pa_nil))) (pg_tup rfl (pgs_cons (pg_name (i := 2) scLaw.nd rfl (Or.inr rfl)) (pgs_cons (pg_name (i := 3) scLaw.nd rfl (Or.inr rfl)) pgs_nil))))
      (pss_cons (ps_par (i := 5) (j := 6) rfl scLaw.nd rfl rfl (by decide) rfl rfl (pa_cons (pe_lc (own := [("_law_k", 4)]) (g := gName 4) rfl scLaw.nd (pi_range1 rfl B.range (pa_cons (pv 2) pa_nil)) (blkOk_by (N := ["_law_script", "_law_row", "_law_many", "_law_hours", "_law_k", "_law_ring", "_law_more", "_law_web", "_law_dial_here", "_law_other", "_law_parts", "_law_one", "_law_part", "_law_hour", "_law_divisors", "_law_whole", "_law_there", "_law_place", "_law_wish", "_law_j", "_law_size", "_law_count"]) (sc := defScope sLaw) (by decide +kernel)) (fun _ _ _ _ _ => pg_name (i := 4) scLaw.nd rfl (Or.inl rfl)) (fun _ _ _ _ _ => pts_nil) (fun _ _ _ _ _ => pe_tup (pa_cons (pv 4) (pa_cons (pe_op op_mod (pe_callTy call_int1 (by rfl) B.int b_int (pa_cons (pe_op op_add (pv 4) pe_int) pa_nil)) (pv 2)) pa_nil)))) (pa_cons (pe_lst pa_nil) pa_nil)) (by rfl))
      (C8.pss_cut (ps_for PassesOwn.never rfl (pi_range1 rfl B.range (pa_cons (pv 2) pa_nil)) (pg_name (i := 4) scLaw.nd rfl (Or.inr rfl)) (pss_one (ps_set (i := 6) scLaw.nd rfl (Or.inl rfl) (pe_op op_cat (pv 6) (pe_lc (own := [("_law_j", 19)]) (g := gName 19) rfl scLaw.nd (pi_range1 rfl B.range (pa_cons (pv 2) pa_nil)) (blkOk_by (N := ["_law_script", "_law_row", "_law_many", "_law_hours", "_law_k", "_law_ring", "_law_more", "_law_web", "_law_dial_here", "_law_other", "_law_parts", "_law_one", "_law_part", "_law_hour", "_law_divisors", "_law_whole", "_law_there", "_law_place", "_law_wish", "_law_j", "_law_size", "_law_count"]) (sc := defScope sLaw) (by decide +kernel)) (fun _ _ _ _ _ => pg_name (i := 19) scLaw.nd rfl (Or.inl rfl)) (fun _ _ _ _ _ => pts_one (PW.pt (pw_and (pt_cmpR op_ne (pv 19) (pv 4) (nomark _)) (pw_and1 (pt_cmpR op_eq (pe_d cTaken hr (by decide) (by rfl) (pa_cons (pv 1) (pa_cons pe_int pa_nil))) pe_int (nomark _)))))) (fun _ _ _ _ _ => pe_tup (pa_cons (pv 4) (pa_cons (pv 19) pa_nil))))))))
      (C8.pss_cut (ps_set (i := 7) scLaw.nd rfl (Or.inl rfl) (pe_tup (pa_cons (pv 2) (pa_cons (pe_tupleOf (by rfl) B.tuple (pe_callB (cr_sortedT rfl) (by rfl) B.sorted b_sorted (pa_cons (pe_callTy (cr_setOfT rfl hr.units) (by rfl) B.set b_set (pa_cons (pe_op op_cat (pv 5) (pv 6)) pa_nil)) pa_nil))) pa_nil))))
      (pss_cons (ps_par (i := 8) (j := 9) rfl scLaw.nd rfl rfl (by decide) rfl rfl (pa_cons (pe_d cDial hr (by decide) (by rfl) (pa_cons (pv 1) (pa_cons (pv 7) (pa_cons (pv 3) pa_nil)))) (pa_cons (pe_d cDial hr (by decide) (by rfl) (pa_cons (pv 1) (pa_cons (pv 7) (pa_cons (pv 3) pa_nil)))) pa_nil)) (by rfl))
      (pss_cons (ps_set (i := 10) scLaw.nd rfl (Or.inr rfl) (pe_lst pa_nil))
      (C8.pss_cut (ps_for PassesOwn.never rfl (pi_list (pe_lst (pa_cons (pv 8) (pa_cons (pv 9) pa_nil)))) (pg_name (i := 11) scLaw.nd rfl (Or.inl rfl)) (pss_cons (ps_set (i := 12) scLaw.nd rfl (Or.inl rfl) (pv 3))
        (pss_cons (ps_for PassesOwn.never rfl (pi_tup (pv 11)) (pg_name (i := 13) scLaw.nd rfl (Or.inl rfl)) (pss_one (ps_set (i := 12) scLaw.nd rfl (Or.inl rfl) (pe_d cLGcd hr (by decide) (by rfl) (pa_cons (pv 12) (pa_cons (pv 13) pa_nil))))))
        (pss_one (ps_expr (pe_bm PySem.F.plainAttrs_list PySem.F.slot_list_append PySem.F.type_list_append mt_append (pv 10) (pa_cons (pv 12) pa_nil)))))))
      (pss_cons (ps_if (pt_cmpR op_ne (pe_d cCanCome hr (by decide) (by rfl) (pa_cons (pv 7) (pa_cons (pv 3) (pa_cons (pv 8) (pa_cons (pv 9) pa_nil))))) (pe_cmpR op_eq (pe_ix ix_list (pv 10) pe_int (fun _ _ => rfl)) (pe_ix ix_list (pv 10) pe_int (fun _ _ => rfl)) (nomark _)) (nomark _)) (pss_one (ps_ret pe_bl)) pss_nil)
      (C8.pss_cut (ps_if (pt_cmpR (op_neD hr.units) (pe_d cMarks hr (by decide) (by rfl) (pa_cons (pv 7) (pa_cons (pv 3) (pa_cons (pv 8) pa_nil)))) (pe_tup (pa_cons (pe_tup (pa_cons (pv 3) (pa_cons (pe_ix ix_list (pv 10) pe_int (fun _ _ => rfl)) pa_nil))) pa_nil)) (nomark _)) (pss_one (ps_ret pe_bl)) pss_nil)
      (pss_cons (ps_setLc (i := 14) (own := [("_law_one", 11)]) (g := gName 11) rfl scLaw.nd rfl rfl (sw_true rfl rfl rfl (by decide +kernel)) (pi_range2 rfl B.range (pa_cons pe_int (pa_cons (pe_op op_add (pv 3) pe_int) pa_nil))) (blkOk_by (N := ["_law_script", "_law_row", "_law_many", "_law_hours", "_law_k", "_law_ring", "_law_more", "_law_web", "_law_dial_here", "_law_other", "_law_parts", "_law_one", "_law_part", "_law_hour", "_law_divisors", "_law_whole", "_law_there", "_law_place", "_law_wish", "_law_j", "_law_size", "_law_count"]) (sc := defScope sLaw) (by decide +kernel)) (fun _ _ _ _ _ => pg_name (i := 11) scLaw.nd rfl (Or.inl rfl)) (fun _ _ _ _ _ => pts_one (pt_cmpR op_eq (pe_op op_mod (pe_callTy call_int1 (by rfl) B.int b_int (pa_cons (pv 3) pa_nil)) (pv 11)) pe_int (nomark _))) (fun _ _ _ _ _ => pv 11))
      (C8.pss_cut (ps_if (pt_cmpR op_ne (pe_d cClassCount hr (by decide) (by rfl) (pa_cons (pv 7) (pa_cons (pv 3) pa_nil))) (pe_callB call_len_seq (by rfl) B.len PySem.boot_len (pa_cons (pv 14) pa_nil)) (nomark _)) (pss_one (ps_ret pe_bl)) pss_nil)
      (pss_cons (ps_set (i := 15) scLaw.nd rfl (Or.inl rfl) pe_int)
      (C8.pss_cut (ps_for PassesOwn.never rfl (pi_list (pv 14)) (pg_name (i := 11) scLaw.nd rfl (Or.inl rfl)) (C8.pss_cut (ps_set (i := 16) scLaw.nd rfl (Or.inl rfl) (pe_op op_catA (pe_op op_repA (pe_tup (pa_cons pe_int pa_nil)) (pe_op op_sub (pv 2) pe_int)) (pe_tup (pa_cons (pe_op op_mod (pe_callTy call_int1 (by rfl) B.int b_int (pa_cons (pv 11) pa_nil)) (pv 3)) pa_nil))))
        (pss_cons (ps_set (i := 15) scLaw.nd rfl (Or.inl rfl) (pe_op op_add (pv 15) (pe_d cComeCount hr (by decide) (by rfl) (pa_cons (pv 7) (pa_cons (pv 3) (pa_cons (pv 16) pa_nil))))))
        (pss_one (ps_if (PW.pt (pw_or (pt_cmpR (op_neD hr.units) (pe_d cLeastCome hr (by decide) (by rfl) (pa_cons (pv 7) (pa_cons (pv 3) (pa_cons (pv 16) pa_nil)))) (pv 16) (nomark _)) (pw_or1 (pt_cmpR (op_neD hr.units) (pe_d cGathered hr (by decide) (by rfl) (pa_cons (pv 7) (pa_cons (pv 3) (pa_cons (pv 16) pa_nil)))) (pe_revT (pv 16)) (nomark _))))) (pss_one (ps_ret pe_bl)) pss_nil)))))
      (C8.pss_cut (ps_if (pt_cmpR op_ne (pv 15) (pe_callB (cr_sum rfl) (by rfl) B.sum b_sum (pa_cons (pe_lc (own := [("_law_size", 20), ("_law_count", 21)]) (g := gTup K 2 (gCons (gName 20) (gCons (gName 21) gNil))) rfl scLaw.nd (pi_tup (pe_d cClassSizes hr (by decide) (by rfl) (pa_cons (pv 7) (pa_cons (pv 3) pa_nil)))) (blkOk_by (N := ["_law_script", "_law_row", "_law_many", "_law_hours", "_law_k", "_law_ring", "_law_more", "_law_web", "_law_dial_here", "_law_other", "_law_parts", "_law_one", "_law_part", "_law_hour", "_law_divisors", "_law_whole", "_law_there", "_law_place", "_law_wish", "_law_j", "_law_size", "_law_count"]) (sc := defScope sLaw) (by decide +kernel)) (fun _ _ _ _ _ => pg_tup rfl (pgs_cons (pg_name (i := 20) scLaw.nd rfl (Or.inl rfl)) (pgs_cons (pg_name (i := 21) scLaw.nd rfl (Or.inl rfl)) pgs_nil))) (fun _ _ _ _ _ => pts_nil) (fun _ _ _ _ _ => pe_op op_mul (pv 20) (pv 21))) pa_nil)) (nomark _)) (pss_one (ps_ret pe_bl)) pss_nil)
      (C8.pss_cut (ps_set (i := 17) scLaw.nd rfl (Or.inl rfl) (pe_d cTaken hr (by decide) (by rfl) (pa_cons (pv 1) (pa_cons (pv 2) pa_nil))))
      (C8.pss_cut (ps_if (pt_cmpR (op_neD hr.units) (pe_d cShown hr (by decide) (by rfl) (pa_cons (pv 7) (pa_cons (pv 3) (pa_cons (pv 8) (pa_cons (pv 17) pa_nil))))) (pe_tupRg3 rfl (by rfl) B.tuple (by rfl) B.range (pa_cons pe_int (pa_cons (pv 3) (pa_cons (pe_ix ix_list (pv 10) pe_int (fun _ _ => rfl)) pa_nil)))) (nomark _)) (pss_one (ps_ret pe_bl)) pss_nil)
      (pss_cons (ps_setLc (i := 18) (own := [("_law_k", 4)]) (g := gName 4) rfl scLaw.nd rfl rfl (sw_true rfl rfl rfl (by decide +kernel)) (pi_range1 rfl B.range (pa_cons (pv 2) pa_nil)) (blkOk_by (N := ["_law_script", "_law_row", "_law_many", "_law_hours", "_law_k", "_law_ring", "_law_more", "_law_web", "_law_dial_here", "_law_other", "_law_parts", "_law_one", "_law_part", "_law_hour", "_law_divisors", "_law_whole", "_law_there", "_law_place", "_law_wish", "_law_j", "_law_size", "_law_count"]) (sc := defScope sLaw) (by decide +kernel)) (fun _ _ _ _ _ => pg_name (i := 4) scLaw.nd rfl (Or.inl rfl)) (fun _ _ _ _ _ => pts_nil) (fun _ _ _ _ _ => pe_op op_mod (pe_callTy call_int1 (by rfl) B.int b_int (pa_cons (pe_op op_mul (pe_ix (r := rIxL K) ix_list (pv 10) pe_int (fun _ _ => rfl)) (pe_d cTaken hr (by decide) (by rfl) (pa_cons (pv 1) (pa_cons (pv 3) pa_nil)))) pa_nil)) (pv 3)))
      (pss_cons (ps_asg pe_non (pg_sub (pv 18) (pv 17) set_list))
      (pss_one (ps_ret (pe_cmpR op_is_bl (pe_d cCanMeet hr (by decide) (by rfl) (pa_cons (pv 7) (pa_cons (pv 3) (pa_cons (pv 8) (pa_cons (pe_tupleOf (by rfl) B.tuple (pv 18)) pa_nil))))) pe_bl (nomark _)))))))))))))))))))))), ?_⟩
    -- 0, 1
    refine ⟨_, rfl, by show 4 ≤ sizeLine; decide, fun row hrow => ?_⟩
    have s1 : Same H (upd H row (.lst [.ref a, .int 0, .int 9973, .int 0])) := same_upd hrow
    have R1 : Row K (upd H row (.lst [.ref a, .int 0, .int 9973, .int 0])) row a ns := by
      refine ⟨⟨0, 9973, 0, upd_same, by decide⟩, ?_, s1.seq ha⟩
      rcases ha with (h | ⟨o, h⟩) | h
      · exact .inl (ne_of_none h hrow)
      · exact .inl (ne_of_none h hrow)
      · exact .inr fun H2 => .inr h
    refine ⟨fun σ H' => ∃ n k, σ = [some (.ref a), some (.ref row), some (vN n), some (vN k), none, none, none, none, none, none, none, none, none, none, none, none, none, none, none, none, none, none] ∧ 2 ≤ n ∧ n ≤ 7 ∧ 2 ≤ k ∧ k ≤ 24 ∧ Row K H' row a ns, ?_, ?_⟩
    · refine ⟨_, rfl, row, a, ns, 6, rfl, R1, by decide, by decide, fun v H2 hv sx2 R2 => ⟨_, _, rfl, rfl, _, rfl, row, a, ns, 23, rfl, R2, by decide, by decide, fun u H3 hu sx3 R3 => ⟨_, _, rfl, rfl, by show 2 ≤ sizeLine; decide, fun t ht => ?_⟩⟩⟩
      refine ⟨t, _, rfl, SqT.of upd_same, rfl, _, _, rfl, _, _, rfl, rfl, ?_⟩
      exact ⟨2 + v, 2 + u, rfl, by omega, by omega, by omega, by omega, R3.same (same_upd ht)⟩
    clear R1 s1
    rintro σ H1 ⟨n, k, rfl, n2, n7, k2, k24, R⟩
    -- 2, 3
    refine ⟨_, rfl, n, rfl, by omega, by omega, fun rg hrg => lc_range (lo := 0) (n := n)
      (fun i H' => ∃ kp : KP, Same H1 H' ∧ H' rg = some (.lst (kpV kp)) ∧ Prs H' kp ∧ kp.map (·.2) = (List.range i).map fun k => (k, (k + 1) % n)) ⟨[], same_upd hrg, upd_same, (fun p hp => nomatch hp), rfl⟩ ?_ ?_⟩
    · rintro i H' hi ⟨kp, sm, eg, pr, ek⟩
      refine ⟨rfl, _, rfl, _, rfl, _, _, rfl, rfl, .inl ⟨_, rfl, _, rfl, _, _, rfl, rfl, by omega, by show 2 ≤ sizeLine; decide, fun t ht => ?_⟩⟩
      have st : Same H' (upd H' t (.tup [.int (0 + (i : Nat)), .int ((0 + (i : Nat) + 1) % (n : Int))])) := same_upd ht
      have hkl : kp.length = i := by
        have := congrArg List.length ek
        rw [List.length_map, List.length_map, List.length_range] at this
        exact this
      have e1 : (.int (0 + (i : Nat)) : V) = vN i := congrArg V.int (Int.zero_add _)
      have e2 : (.int ((0 + (i : Nat) + 1) % (n : Int)) : V) = vN ((i + 1) % n) := congrArg V.int (by rw [Int.zero_add, Int.natCast_emod]; rfl)
      have et : (upd H' t (.tup [.int (0 + (i : Nat)), .int ((0 + (i : Nat) + 1) % (n : Int))])) t = some (.tup [vN i, vN ((i + 1) % n)]) := by rw [upd_same, e1, e2]
      refine ⟨_, st _ _ eg, small7 (m := 7) (by unfold kpV; rw [List.length_map]; omega) (by decide), kp ++ [(t, (i, (i + 1) % n))], (sm.trans st).mut hrg, ?_, ((pr.same st).snoc et).mut (st _ _ eg), ?_⟩
      · rw [upd_same]
        unfold kpV
        rw [List.map_append]
        rfl
      · rw [List.map_append, ek, List.range_succ, List.map_append]
        rfl
    rintro H2 ⟨kp, s2, eg, pr, ek⟩
    refine ⟨Nat.zero_le _, fun mo hmo => ⟨_, _, rfl, ?_⟩⟩
    have s3 : Same H2 (upd H2 mo (.lst [])) := same_upd hmo
    have R2 := R.same (s2.trans s3)
    have hgr : rg ≠ row := R.out hrg
    have hmr : mo ≠ row := (R.same s2).out hmo
    refine ⟨fun σ H' => ∃ y4 mo kp2, σ = [some (.ref a), some (.ref row), some (vN n), some (vN k), y4, some (.ref rg), some (.ref mo), none, none, none, none, none, none, none, none, none, none, none, none, none, none, none] ∧
      Row K H' row a ns ∧ H' rg = some (.lst (kpV kp)) ∧ H' mo = some (.lst (kpV kp2)) ∧ Prs H' kp ∧ Prs H' kp2 ∧ (∀ p ∈ kp2, p.2.1 < n ∧ p.2.2 < n ∧ p.2.1 ≠ p.2.2) ∧ kp2.length ≤ n * n, ?_, ?_⟩
    · refine ⟨_, rfl, n, rfl, by omega, by omega, for_range (lo := 0) (n := n)
        (fun i σ H' => ∃ y4 mo kp2, σ = [some (.ref a), some (.ref row), some (vN n), some (vN k), y4, some (.ref rg), some (.ref mo), none, none, none, none, none, none, none, none, none, none, none, none, none, none, none] ∧
          Row K H' row a ns ∧ H' rg = some (.lst (kpV kp)) ∧ H' mo = some (.lst (kpV kp2)) ∧ mo ≠ row ∧ Prs H' kp ∧ Prs H' kp2 ∧ (∀ p ∈ kp2, p.2.1 < n ∧ p.2.2 < n ∧ p.2.1 ≠ p.2.2) ∧ kp2.length ≤ i * n)
        ⟨none, mo, [], rfl, R2, s3 _ _ eg, upd_same, hmr, pr.same s3, (fun p hp => nomatch hp), (fun p hp => nomatch hp), Nat.zero_le _⟩ ?_ ?_⟩
      · rintro i σ H' hi ⟨y4, mo, kp2, rfl, R4, eg4, em4, hmr, pr4, pr42, ok4, hl4⟩
        refine ⟨_, rfl, _, rfl, n, rfl, by omega, by omega, fun D hD => lc_range (lo := 0) (n := n)
          (fun j H5 => ∃ kp3 : KP, SX row H' H5 ∧ Row K H5 row a ns ∧ H5 D = some (.lst (kpV kp3)) ∧ Prs H5 kp3 ∧ (∀ p ∈ kp3, p.2.1 < n ∧ p.2.2 < n ∧ p.2.1 ≠ p.2.2) ∧ kp3.length ≤ j)
          ⟨[], SX.of (same_upd hD), R4.same (same_upd hD), upd_same, (fun p hp => nomatch hp), (fun p hp => nomatch hp), Nat.le_refl _⟩ ?_ ?_⟩
        · rintro j H5 hj ⟨kp3, sx5, R5, eD5, pr5, ok5, hl5⟩
          have hDr := R4.out hD
          by_cases hji : j = i
          · refine ⟨rfl, _, rfl, _, rfl, rfl, false, congrArg V.bl (ne_intF (by omega)), iteF (iteF ⟨kp3, sx5, R5, eD5, pr5, ok5, by omega⟩)⟩
          · refine ⟨rfl, _, rfl, _, rfl, rfl, true, congrArg V.bl (ne_int (by omega)), iteT ?_⟩
            refine ⟨_, rfl, row, a, ns, 4, rfl, R5, by decide, by decide, fun v H6 hv sx6 R6 => ?_⟩
            obtain ⟨ys, ery⟩ := R5.lst
            have pr6 := pr5.sx sx6 ery
            have eD6 := sx6 _ _ hDr eD5
            by_cases hv0 : v = 0
            · refine ⟨rfl, true, congrArg V.bl (eq_int (by omega)), iteT ?_⟩
              refine ⟨_, rfl, _, rfl, by show 2 ≤ sizeLine; decide, fun t ht => ?_⟩
              have st : Same H6 (upd H6 t (.tup [.int (0 + (i : Nat)), .int (0 + (j : Nat))])) := same_upd ht
              have et : (upd H6 t (.tup [.int (0 + (i : Nat)), .int (0 + (j : Nat))])) t = some (.tup [vN i, vN j]) := by rw [upd_same, Int.zero_add, Int.zero_add]
              refine ⟨_, st _ _ eD6, small7 (m := 7) (by unfold kpV; rw [List.length_map]; omega) (by decide), kp3 ++ [(t, (i, j))], ((sx5.trans sx6).trans (SX.of st)).mut hD, R4.mut ((sx5.trans sx6).trans (SX.of st)) hD (R6.same st), ?_, ((pr6.same st).snoc et).mut (st _ _ eD6), fun p hp => ?_, ?_⟩
              · rw [upd_same]
                unfold kpV
                rw [List.map_append]
                rfl
              · rcases List.mem_append.mp hp with h | h
                · exact ok5 p h
                · rw [List.mem_singleton.mp h]
                  exact ⟨hi, hj, fun z => hji z.symm⟩
              · rw [List.length_append, List.length_singleton]
                omega
            · exact ⟨rfl, false, congrArg V.bl (eq_intF (by omega)), iteF ⟨kp3, sx5.trans sx6, R6, eD6, pr6, ok5, by omega⟩⟩
        · rintro H5 ⟨kp3, sx5, R5, eD5, pr5, ok5, hl5⟩
          obtain ⟨ys, ery⟩ := R4.lst
          have hin : i * n ≤ 6 * 7 := Nat.mul_le_mul (by omega) n7
          refine ⟨mo, D, _, _, rfl, rfl, sx5 _ _ hmr em4, eD5, ?_, fun m2 hm2 => ?_⟩
          · unfold kpV
            rw [List.length_map, List.length_map, sizeLine_eq]
            omega
          have st : Same H5 (upd H5 m2 (.lst (kpV kp2 ++ kpV kp3))) := same_upd hm2
          refine ⟨_, m2, kp2 ++ kp3, rfl, R5.same st, st _ _ (sx5 _ _ hgr eg4), ?_, R5.out hm2, (pr4.sx sx5 ery).same st, ((pr42.sx sx5 ery).app pr5).same st, fun p hp => (List.mem_append.mp hp).elim (ok4 p) (ok5 p), ?_⟩
          · rw [upd_same]
            unfold kpV
            rw [List.map_append]
          · rw [List.length_append, Nat.succ_mul]
            omega
      · rintro σ H' ⟨y4, mo, kp2, rfl, R4, eg4, em4, hmr, pr4, pr42, ok4, hl4⟩
        exact ⟨y4, mo, kp2, rfl, R4, eg4, em4, pr4, pr42, ok4, hl4⟩
    clear R2 s3 hmr hmo mo pr eg s2 H2
    rintro σ H2 ⟨y4, mo, kp2, rfl, R2, eg, em, pr, pr2, ok2, hl2⟩
    -- 4
    refine ⟨fun σ H' => ∃ y4 y5 y6 wv ar, σ = [some (.ref a), some (.ref row), some (vN n), some (vN k), y4, y5, y6, some (.ref wv), none, none, none, none, none, none, none, none, none, none, none, none, none, none] ∧ LA K H' row a ns wv n k ar, ?_, ?_⟩
    · have hn1 : kp.length = n := by
        have := congrArg List.length ek
        rw [List.length_map, List.length_map, List.length_range] at this
        exact this
      have hnn : n * n ≤ 7 * 7 := Nat.mul_le_mul n7 n7
      refine ⟨_, rfl, _, rfl, _, rfl, rg, mo, _, _, rfl, rfl, eg, em, ?_, fun l hl => ?_⟩
      · unfold kpV
        rw [List.length_map, List.length_map, sizeLine_eq]
        omega
      have s3 : Same H2 (upd H2 l (.lst (kpV kp ++ kpV kp2))) := same_upd hl
      have pra : Prs (upd H2 l (.lst (kpV kp ++ kpV kp2))) (kp ++ kp2) := (pr.app pr2).same s3
      refine ⟨l, (kp ++ kp2).map fI, rfl, SqL.of ?_, fun p hp => ?_, ?_, fun s L hs hL1 hL2 => ?_⟩
      · rw [upd_same, List.map_map, List.map_append]
        rfl
      · obtain ⟨p', hp', rfl⟩ := List.mem_map.mp hp
        exact SqT.of (pra p' hp')
      · rw [List.length_map, List.length_append]
        omega
      have hok : ∀ p ∈ kp ++ kp2, p.2.1 < n ∧ p.2.2 < n ∧ p.2.1 ≠ p.2.2 := fun p hp => by
        rcases List.mem_append.mp hp with h | h
        · have hm : p.2 ∈ kp.map (·.2) := List.mem_map_of_mem h
          rw [ek] at hm
          obtain ⟨i, hi, e⟩ := List.mem_map.mp hm
          have hi' := List.mem_range.mp hi
          rw [← e]
          refine ⟨hi', Nat.mod_lt _ (by omega), ?_⟩
          show i ≠ (i + 1) % n
          by_cases c : i + 1 < n
          · rw [Nat.mod_eq_of_lt c]
            omega
          · rw [show i + 1 = n by omega, Nat.mod_self]
            omega
        · exact ok2 p h
      refine ⟨s, L, 2, 64, rfl, upd_same, fun p hp => ?_, by decide, fun p hp => ?_, fun L' z hperm hnd h64 hpw hz => ?_⟩
      · obtain ⟨p', hp', rfl⟩ := List.mem_map.mp (hL1 p hp)
        exact (same_upd hs).tup (SqT.of (pra p' hp'))
      · obtain ⟨p', hp', rfl⟩ := List.mem_map.mp (hL1 p hp)
        obtain ⟨a1, a2, _⟩ := hok p' hp'
        refine ⟨rfl, fun m hm => ?_⟩
        rcases List.mem_cons.mp hm with e | hm
        · rw [e]
          exact ⟨by omega, by omega⟩
        · rw [List.mem_singleton.mp hm]
          exact ⟨by omega, by omega⟩
      obtain ⟨lp, rfl, hlp, hring⟩ := ring_of (n := n) (kp := kp ++ kp2) n2 n7 (fun k hk => by
        rw [List.map_append, ek]
        exact List.mem_append_left _ (List.mem_map.mpr ⟨k, List.mem_range.mpr hk, rfl⟩)) hok hL1 hL2 hperm hnd h64 hpw
      refine .inl ⟨z, _, rfl, SqL.of upd_same, fun b hb => ⟨by show 2 ≤ sizeLine; decide, fun wv hwv => ?_⟩⟩
      have sAll := ((((s3.trans (same_upd hs)).trans (same_upd hz)).trans (same_upd (o := .tup ((lp.map fI).map fun q => V.ref q.1)) hb)))
      refine ⟨_, _, _, wv, lp.map (·.2), rfl, (R2.same (sAll.trans (same_upd hwv))), ⟨b, lp.map (·.1), SqT.of upd_same, ?_, ?_, fun i t p ht hp => ?_⟩, ?_, hring, k2, k24⟩
      · have e : (lp.map fI).map (fun q => V.ref q.1) = (lp.map (·.1)).map V.ref := by
          rw [List.map_map, List.map_map]
          rfl
        rw [← e]
        exact (same_upd hwv).tup (SqT.of upd_same)
      · rw [List.length_map, List.length_map]
      · rw [List.getElem?_map] at ht hp
        cases hq : lp[i]? with
        | none => rw [hq] at ht; cases ht
        | some q' =>
          rw [hq] at ht hp
          obtain rfl := Option.some.inj ht
          obtain rfl := Option.some.inj hp
          exact SqT.of ((sAll.trans (same_upd hwv)) _ _ ((pr.app pr2) q' (hlp q' (List.mem_of_getElem? hq))))
      · exact (R2.same sAll).out hwv
    clear eg em pr pr2 ok2 hl2 ek R2 hrg hgr R
    rintro σ H3 ⟨y4, y5, y6, wv, ar, rfl, L⟩
    -- 5
    obtain ⟨b, ts, hw, _⟩ := id L.web
    refine ⟨_, rfl, _, rfl, _, rfl, row, a, wv, ns, n, k, .ref b, rfl, L.rr, hw, L.out, n7, k2, k24, fun d1 ds1 H4 l1 lt1 sx4 R4 hd1 ed1 => ?_⟩
    have L4 := L.sx sx4 R4
    obtain ⟨b4, ts4, hw4, _⟩ := id L4.web
    refine ⟨_, rfl, _, rfl, _, rfl, row, a, wv, ns, n, k, .ref b4, rfl, L4.rr, hw4, L.out, n7, k2, k24, fun d2 ds2 H5 l2 lt2 sx5 R5 hd2 ed2 => ⟨_, _, rfl, ?_⟩⟩
    have L5 := L4.sx sx5 R5
    obtain ⟨ys4, er4⟩ := R4.lst
    have t1 : Tn K H5 d1 ds1 := sx5.tupL er4 (SqT.of ed1)
    have t2 : Tn K H5 d2 ds2 := SqT.of ed2
    clear sx5 sx4 R4 hw hw4 L4 hd1 hd2 ed1 ed2 er4 L
    -- 6, 7
    refine ⟨Nat.zero_le _, fun pa hpa => ?_⟩
    have s6 : Same H5 (upd H5 pa (.lst [])) := same_upd hpa
    refine ⟨fun σ H' => ∃ y11 y12 y13, σ = [some (.ref a), some (.ref row), some (vN n), some (vN k), y4, y5, y6, some (.ref wv), some (.ref d1), some (.ref d2), some (.ref pa), y11, y12, y13, none, none, none, none, none, none, none, none] ∧ LS K H' row a ns wv d1 d2 pa n k ar ds1 ds2, ?_, ?_⟩
    · refine ⟨_, rfl, _, rfl, by show 2 ≤ sizeLine; decide, fun l hl => ?_⟩
      have s7 := s6.trans (same_upd (o := .lst [.ref d1, .ref d2]) hl)
      have hpr : pa ≠ row := R5.out hpa
      have hlp : pa ≠ l := ne_of_none upd_same hl
      refine ⟨l, rfl, ⟨_, SqL.of upd_same⟩, for_list (K := K) (a := l) (xs := [.ref d1, .ref d2])
        (fun i σ H' => ∃ y11 y12 y13, σ = [some (.ref a), some (.ref row), some (vN n), some (vN k), y4, y5, y6, some (.ref wv), some (.ref d1), some (.ref d2), some (.ref pa), y11, y12, y13, none, none, none, none, none, none, none, none] ∧
          Same H5 H' ∧ H' l = some (.lst [.ref d1, .ref d2]) ∧ H' pa = some (.lst (([gl k ds1, gl k ds2].take i).map vN)))
        ⟨none, none, none, rfl, s7, upd_same, by rw [upd_ne hlp]; exact upd_same⟩ (fun i σ H' _ ⟨_, _, _, _, _, e, _⟩ => SqL.of e) ?_ ?_⟩
      · rintro i x σ H' hx ⟨y11, y12, y13, rfl, sm, el, ep⟩
        obtain ⟨d, ds, rfl, td, hg⟩ : ∃ d ds, x = V.ref d ∧ Tn K H5 d ds ∧ [gl k ds1, gl k ds2][i]? = some (gl k ds) := by
          match i, hx with
          | 0, hx => exact ⟨d1, ds1, (Option.some.inj hx).symm, t1, rfl⟩
          | 1, hx => exact ⟨d2, ds2, (Option.some.inj hx).symm, t2, rfl⟩
          | i + 2, hx => simp at hx
        have td' : SqT K H' d (ds.map vN) := sm.tup td
        refine ⟨_, rfl, ?_⟩
        refine ⟨_, rfl, d, rfl, ⟨_, td'⟩, for_tup (K := K) (a := d) (xs := ds.map vN)
          (fun j σ H2 => H2 = H' ∧ ∃ y13, σ = [some (.ref a), some (.ref row), some (vN n), some (vN k), y4, y5, y6, some (.ref wv), some (.ref d1), some (.ref d2), some (.ref pa), some (.ref d), some (vN (gl k (ds.take j))), y13, none, none, none, none, none, none, none, none]) ⟨rfl, _, rfl⟩ (fun j σ H2 _ ⟨e, _⟩ => by rw [e]; exact td') ?_ ?_⟩
        · rintro j x σ H2 hx ⟨rfl, y13, rfl⟩
          rw [List.getElem?_map] at hx
          obtain ⟨c, hc, rfl⟩ := Option.map_eq_some_iff.mp hx
          refine ⟨_, rfl, _, rfl, _, _, rfl, rfl, some (vN c), ?_⟩
          rw [gl_take hc]
          rfl
        · rintro σ H2 ⟨rfl, y13, rfl⟩
          rw [List.length_map, List.take_length]
          refine ⟨_, rfl, .inl ⟨rfl, _, SqL.of ep⟩, _, rfl, pa, _, _, rfl, rfl, ep, small7 (m := 2) ?_ (by decide), ?_⟩
          · rw [List.length_map, List.length_take]
            exact Nat.min_le_right _ _
          · refine ⟨_, _, _, rfl, sm.mut hpa, ?_, ?_⟩
            · rw [upd_ne hlp.symm]
              exact el
            · rw [upd_same, List.take_add_one, hg, List.map_append]
              rfl
      · rintro σ H' ⟨y11, y12, y13, rfl, sm, el, ep⟩
        exact ⟨_, _, _, rfl, L5.same sm, sm.tup t1, l1, lt1, sm.tup t2, l2, lt2, ep, hpr⟩
    clear s6 hpa L5 t1 t2 R5 H5
    rintro σ H6 ⟨y11, y12, y13, rfl, L⟩
    have R := L.la.ring
    have hg0 : 0 < gl k ds1 := gl_pos (by omega)
    have hgk : gl k ds1 ≤ k := gl_le (by omega)
    -- 8, 9
    refine ⟨_, rfl, _, rfl, _, rfl, _, rfl, wv, d1, d2, n, k, ar, ds1, ds2, rfl, L.la.web, R, k2, k24, L.t1, L.l1, L.lt1, L.t2, L.l2, L.lt2, fun H7 s7 => ?_⟩
    have L7 := L.same s7
    have ev : (!decide (V.bl (decide (gl k ds1 = gl k ds2)) = V.bl (decide (vN (gl k ds1) = vN (gl k ds2))))) = false := by
      have e2 : decide (vN (gl k ds1) = vN (gl k ds2)) = decide (gl k ds1 = gl k ds2) := by
        by_cases c : gl k ds1 = gl k ds2
        · rw [decide_eq_true c, eq_int (by omega)]
        · rw [decide_eq_false c, eq_intF (by omega)]
      rw [e2]
      simp
    refine ⟨_, rfl, pa, _, _, _, rfl, rfl, SqL.of L7.pp, atI_nat (j := 0) rfl, _, rfl, pa, _, _, _, rfl, rfl, SqL.of L7.pp, atI_nat (j := 1) rfl, rfl, rfl, false, congrArg V.bl ev, iteF ?_⟩
    refine ⟨fun σ H' => σ = [some (.ref a), some (.ref row), some (vN n), some (vN k), y4, y5, y6, some (.ref wv), some (.ref d1), some (.ref d2), some (.ref pa), y11, y12, y13, none, none, none, none, none, none, none, none] ∧ LS K H' row a ns wv d1 d2 pa n k ar ds1 ds2, ?_, ?_⟩
    · refine ⟨_, rfl, _, rfl, _, rfl, wv, d1, n, k, ar, ds1, rfl, L7.la.web, R, k2, k24, L7.t1, L.l1, L.lt1, fun p m H8 s8 hp ep em => ?_⟩
      have L8 := L7.same s8
      refine ⟨_, rfl, _, rfl, pa, _, _, _, rfl, rfl, SqL.of L8.pp, atI_nat (j := 0) rfl, by show 2 ≤ sizeLine; decide, fun c hc => ⟨by show 1 ≤ sizeLine; decide, fun e he => ?_⟩⟩
      have s9 : Same H8 (upd (upd H8 c (.tup [vN k, vN (gl k ds1)])) e (.tup [.ref c])) := (same_upd hc).trans (same_upd he)
      refine ⟨.tuple [.tuple (pdN [k, gl k ds1])], .tuple [.tuple (pdN [k, gl k ds1])], .tup (SqT.of (s9 _ _ ep)) (.cons (.tup (SqT.of (s9 _ _ em)) (DpN K _ [k, gl k ds1])) .nil), .tup (SqT.of upd_same) (.cons (.tup (SqT.of ((same_upd he) _ _ upd_same)) (DpN K _ [k, gl k ds1])) .nil), rfl, rfl, false, congrArg V.bl ?_, iteF ?_⟩
      · rw [show PyData.eqv (.tuple [.tuple (pdN [k, gl k ds1])]) (.tuple [.tuple (pdN [k, gl k ds1])]) = true from SeqAt.eqv_refl _ rfl]
        rfl
      · exact ⟨rfl, L8.same s9⟩
    clear L7 s7 H7 ev
    clear L H6
    rintro σ H7 ⟨rfl, L⟩
    -- 10, 11
    refine ⟨_, rfl, _, _, rfl, rfl, 1, (k : Int) + 1, rfl, ⟨by omega, by omega, by omega, by omega⟩, fun D hD => lc_range (lo := 1) (n := ((k : Int) + 1 - 1).toNat)
      (fun i H' => Same H7 H' ∧ H' D = some (.lst ((divsTo k i).map vN))) ⟨same_upd hD, upd_same⟩ ?_ ?_⟩
    · rintro i H' hi ⟨sm, eD⟩
      have hik : i < k := by omega
      have hm : (k : Int) % (1 + (i : Nat)) = ((k % (i + 1) : Nat) : Int) := by rw [Int.natCast_emod, Int.add_comm]; rfl
      by_cases h0 : k % (i + 1) = 0
      · refine ⟨rfl, _, rfl, .inl ⟨_, rfl, _, rfl, _, _, rfl, rfl, by omega, rfl, true, congrArg V.bl (eq_int (by rw [hm, h0]; rfl)), iteT ?_⟩⟩
        refine ⟨_, rfl, _, eD, small7 (m := 24) ?_ (by decide), sm.mut hD, ?_⟩
        · rw [List.length_map]
          have := divsTo_len k i
          omega
        · rw [upd_same, divsTo_pos h0, List.map_append, Int.add_comm]
          rfl
      · refine ⟨rfl, _, rfl, .inl ⟨_, rfl, _, rfl, _, _, rfl, rfl, by omega, rfl, false, congrArg V.bl (eq_intF (by rw [hm]; omega)), iteF ⟨sm, ?_⟩⟩⟩
        rw [divsTo_neg h0]
        exact eD
    rintro H8 ⟨s8, eD⟩
    rw [show ((k : Int) + 1 - 1).toNat = k by omega] at eD
    have eD : H8 D = some (.lst ((divs k).map vN)) := eD
    refine ⟨fun σ H' => σ = [some (.ref a), some (.ref row), some (vN n), some (vN k), y4, y5, y6, some (.ref wv), some (.ref d1), some (.ref d2), some (.ref pa), y11, y12, y13, some (.ref D), none, none, none, none, none, none, none] ∧ LS K H' row a ns wv d1 d2 pa n k ar ds1 ds2 ∧ H' D = some (.lst ((divs k).map vN)), ?_, ?_⟩
    · have L8 := L.same s8
      refine ⟨_, rfl, _, rfl, wv, n, k, ar, rfl, L8.la.web, R, k2, k24, fun H9 s9 => ⟨_, rfl, D, _, rfl, .inl (SqL.of (s9 _ _ eD)), rfl, false, congrArg V.bl (ne_intF (by rw [List.length_map])), iteF ?_⟩⟩
      exact ⟨rfl, L8.same s9, s9 _ _ eD⟩
    clear L
    rintro σ H7 ⟨rfl, L, eD⟩
    -- 12, 13
    refine ⟨fun σ H' => ∃ y11 y16, σ = [some (.ref a), some (.ref row), some (vN n), some (vN k), y4, y5, y6, some (.ref wv), some (.ref d1), some (.ref d2), some (.ref pa), y11, y12, y13, some (.ref D), some (vN ((divs k).map fun d => primeTo (k / d) n).sum), y16, none, none, none, none, none] ∧ LS K H' row a ns wv d1 d2 pa n k ar ds1 ds2, ?_, ?_⟩
    · refine ⟨_, rfl, D, rfl, ⟨_, SqL.of eD⟩, for_list (K := K) (a := D) (xs := (divs k).map vN)
        (fun i σ H' => ∃ y11 y16, σ = [some (.ref a), some (.ref row), some (vN n), some (vN k), y4, y5, y6, some (.ref wv), some (.ref d1), some (.ref d2), some (.ref pa), y11, y12, y13, some (.ref D), some (vN (((divs k).take i).map fun d => primeTo (k / d) n).sum), y16, none, none, none, none, none] ∧ LS K H' row a ns wv d1 d2 pa n k ar ds1 ds2 ∧ H' D = some (.lst ((divs k).map vN)))
        ⟨_, _, rfl, L, eD⟩ (fun i σ H' _ ⟨_, _, _, _, e⟩ => SqL.of e) ?_ ?_⟩
      · rintro i x σ H8 hx ⟨y11, y16, rfl, L8, eD8⟩
        rw [List.getElem?_map] at hx
        obtain ⟨d, hd, rfl⟩ := Option.map_eq_some_iff.mp hx
        obtain ⟨dd0, ddk, ddv⟩ := divs_in (List.mem_of_getElem? hd)
        refine ⟨fun σ H' => ∃ th, σ = [some (.ref a), some (.ref row), some (vN n), some (vN k), y4, y5, y6, some (.ref wv), some (.ref d1), some (.ref d2), some (.ref pa), some (vN d), y12, y13, some (.ref D), some (vN (((divs k).take i).map fun d => primeTo (k / d) n).sum), some (.ref th), none, none, none, none, none] ∧ LS K H' row a ns wv d1 d2 pa n k ar ds1 ds2 ∧ H' D = some (.lst ((divs k).map vN)) ∧ H' th = some (.tup ((thereL k n d).map vN)), ?_, ?_⟩
        · have eTh : List.replicate (n - 1) (V.int 0) ++ [V.int ((d : Int) % (k : Int))] = (thereL k n d).map vN := by
            unfold thereL
            rw [List.map_append, List.map_replicate]
            rfl
          have rep1 : ∀ m, (List.replicate m [V.int 0]).flatten = List.replicate m (V.int 0) := fun m => by
            induction m with
            | zero => rfl
            | succ m ih => rw [List.replicate_succ, List.replicate_succ, List.flatten_cons, ih]; rfl
          have hne : List.replicate (n - 1) (V.int 0) ≠ [] := fun z => by
            have := congrArg List.length z
            rw [List.length_replicate, List.length_nil] at this
            omega
          have hnt : ((n : Int) - 1).toNat = n - 1 := by omega
          refine ⟨by show 1 ≤ sizeLine; decide, fun z hz => ?_⟩
          have sz : Same H8 (upd H8 z (.tup [.int 0])) := same_upd hz
          refine ⟨_, rfl, _, _, rfl, rfl, z, (n : Int) - 1, _, rfl, rfl, SqT.of upd_same, by simp, by omega, by omega, by decide, fun hk1 => ?_, fun p hp => ?_⟩
          · have hn1 : n - 1 = 1 := by omega
            refine ⟨_, rfl, .inl ⟨_, rfl, _, rfl, _, _, rfl, rfl, by omega, by show 1 ≤ sizeLine; decide, fun y hy => ?_⟩⟩
            have sy := sz.trans (same_upd (o := .tup [.int ((d : Int) % (k : Int))]) hy)
            refine ⟨z, y, List.replicate (n - 1) (V.int 0), _, rfl, rfl, SqT.of ?_, SqT.of upd_same, ?_, fun h => absurd h hne, fun _ h => (nomatch h), fun _ _ r hr => ?_⟩
            · rw [hn1]
              exact (same_upd hy) _ _ upd_same
            · rw [List.length_replicate, sizeLine_eq]
              show n - 1 + 1 ≤ _
              omega
            · have sr := sy.trans (same_upd (o := .tup (List.replicate (n - 1) (V.int 0) ++ [V.int ((d : Int) % (k : Int))])) hr)
              refine ⟨r, rfl, L8.same sr, sr _ _ eD8, ?_⟩
              rw [upd_same, eTh]
          · rw [hnt, rep1] at *
            have sp := sz.trans (same_upd (o := .tup (List.replicate (n - 1) (V.int 0))) hp)
            refine ⟨_, rfl, .inl ⟨_, rfl, _, rfl, _, _, rfl, rfl, by omega, by show 1 ≤ sizeLine; decide, fun y hy => ?_⟩⟩
            have sy := sp.trans (same_upd (o := .tup [.int ((d : Int) % (k : Int))]) hy)
            refine ⟨p, y, List.replicate (n - 1) (V.int 0), _, rfl, rfl, SqT.of ((same_upd hy) _ _ upd_same), SqT.of upd_same, ?_, fun h => absurd h hne, fun _ h => (nomatch h), fun _ _ r hr => ?_⟩
            · rw [List.length_replicate, sizeLine_eq]
              show n - 1 + 1 ≤ _
              omega
            · have sr := sy.trans (same_upd (o := .tup (List.replicate (n - 1) (V.int 0) ++ [V.int ((d : Int) % (k : Int))])) hr)
              refine ⟨r, rfl, L8.same sr, sr _ _ eD8, ?_⟩
              rw [upd_same, eTh]
        clear L8 eD8
        rintro σ H8 ⟨th, rfl, L8, eD8, eth⟩
        have hgd : gl k (thereL k n d) = d := gl_there ddv
        have hlt : ∀ c ∈ thereL k n d, c < k := fun c hc => by
          rcases List.mem_append.mp hc with h | h
          · rw [(List.mem_replicate.mp h).2]
            omega
          · rw [List.mem_singleton.mp h]
            exact Nat.mod_lt _ (by omega)
        have DL : ∀ {H' : Hp}, Same H8 H' → Dl K H' wv th n k ar (thereL k n d) := fun {H'} e => ⟨(L8.same e).la.web, R, k2, k24, SqT.of (e _ _ eth), thereL_len (by omega), hlt⟩
        refine ⟨_, rfl, _, rfl, _, rfl, _, rfl, wv, th, n, k, ar, thereL k n d, rfl, DL (Same.refl _), fun H9 s9 => ?_⟩
        rw [hgd, ways_none (by omega) ddv (by omega)]
        refine ⟨_, _, rfl, rfl, ?_⟩
        refine ⟨_, rfl, _, rfl, _, rfl, wv, th, n, k, ar, thereL k n d, thereL k n d, rfl, DL s9, ?_, fun p H10 s10 hp ep => ?_⟩
        · rw [hgd]
          exact lst_there n2 n7 (by omega) k24 dd0 ddv
        have s10' := s9.trans s10
        refine ⟨_, rfl, _, _, .tup (SqT.of ep) (DpN K _ _), .tup (SqT.of (s10' _ _ eth)) (DpN K _ _), shaped_tup _, shaped_tup _, false, congrArg V.bl (by rw [eqv_tupN]; rfl), iteF ?_⟩
        refine ⟨_, rfl, _, rfl, _, rfl, wv, th, n, k, ar, thereL k n d, rfl, DL s10', fun p2 H11 s11 hp2 ep2 => ?_⟩
        have s11' := s10'.trans s11
        refine ⟨_, rfl, th, _, rfl, SqT.of (s11' _ _ eth), fun r hr => ?_⟩
        have s12 : Same H11 (upd H11 r (.tup ((thereL k n d).map vN).reverse)) := same_upd hr
        have erev : ((thereL k n d).map vN).reverse = (gl k (thereL k n d) % k :: List.replicate (n - 1) 0).map vN := by
          rw [hgd, ← List.map_reverse]
          congr 1
          unfold thereL
          rw [List.reverse_append, List.reverse_replicate]
          rfl
        refine ⟨_, _, .tup (SqT.of (s12 _ _ ep2)) (DpN K _ _), .tup (SqT.of (by rw [upd_same, erev])) (DpN K _ _), shaped_tup _, shaped_tup _, false, congrArg V.bl (by rw [eqv_tupN]; rfl), iteF ?_⟩
        refine ⟨some (vN d), some (.ref th), ?_, L8.same (s11'.trans s12), (s11'.trans s12) _ _ eD8⟩
        have es : (((divs k).take (i + 1)).map fun d => primeTo (k / d) n).sum = (((divs k).take i).map fun d => primeTo (k / d) n).sum + primeTo (k / d) n := by
          rw [List.take_add_one, hd, List.map_append, List.sum_append]
          simp
        rw [es]
        rfl
      · rintro σ H8 ⟨y11, y16, rfl, L8, eD8⟩
        rw [List.length_map, List.take_length]
        exact ⟨_, _, rfl, L8⟩
    clear L
    rintro σ H7 ⟨y11, y16, rfl, L⟩
    -- 14
    refine ⟨fun σ H' => σ = [some (.ref a), some (.ref row), some (vN n), some (vN k), y4, y5, y6, some (.ref wv), some (.ref d1), some (.ref d2), some (.ref pa), y11, y12, y13, some (.ref D), some (vN ((divs k).map fun d => primeTo (k / d) n).sum), y16, none, none, none, none, none] ∧ LS K H' row a ns wv d1 d2 pa n k ar ds1 ds2, ?_, ?_⟩
    · refine ⟨_, rfl, _, rfl, _, rfl, wv, n, k, ar, rfl, L.la.web, R, k2, k24, fun p ts rs H8 s8 hp ep harr hsum hlen hle => ?_⟩
      refine ⟨p, rfl, ⟨_, SqT.of ep⟩, fun D2 hD2 => lc_tup (K := K) (a := p) (xs := ts.map V.ref)
        (fun i H' => Same H8 H' ∧ H' D2 = some (.lst ((rs.take i).map fun r => V.int ((r.1 : Int) * (r.2 : Int))))) ⟨same_upd hD2, upd_same⟩ (fun i H' _ e => SqT.of (e.1 _ _ ep)) ?_ ?_⟩
      · rintro i x H9 hx ⟨sm, eD2⟩
        rw [List.getElem?_map] at hx
        obtain ⟨t, ht, rfl⟩ := Option.map_eq_some_iff.mp hx
        have hir : i < rs.length := by
          rw [← harr.1]
          exact (List.getElem?_eq_some_iff.mp ht).1
        have hr' := List.getElem?_eq_getElem hir
        generalize rs[i] = r at hr'
        refine ⟨t, _, rfl, sm.tup (harr.2 i t r ht hr'), rfl, _, _, rfl, _, _, rfl, rfl, rfl, ?_⟩
        have hr24 := hle r (List.mem_of_getElem? hr')
        refine ⟨_, rfl, _, rfl, _, _, rfl, rfl, .inr ⟨by omega, by omega⟩, _, eD2, small7 (m := 24) ?_ (by decide), sm.mut hD2, ?_⟩
        · rw [List.length_map, List.length_take]
          omega
        · rw [upd_same, List.take_add_one, hr', List.map_append]
          rfl
      · rintro H9 ⟨sm, eD2⟩
        have hal : (ts.map V.ref).length = rs.length := by rw [List.length_map]; exact harr.1
        rw [hal, List.take_length] at eD2
        have esum : ∀ l : SC, (l.map fun r => (r.1 : Int) * (r.2 : Int)).sum = ((wsum (fun s => s) l : Nat) : Int) := fun l => by
          induction l with
          | nil => rfl
          | cons c t ih =>
            unfold wsum at ih ⊢
            rw [List.map_cons, List.sum_cons, ih, List.map_cons, List.sum_cons, Int.natCast_add, Int.natCast_mul]
        refine ⟨D2, rs.map fun r => (r.1 : Int) * (r.2 : Int), rfl, SqL.of (by rw [eD2, List.map_map]; rfl), rfl, false, congrArg V.bl (ne_intF (by rw [esum, hsum])), iteF ?_⟩
        exact ⟨rfl, L.same (s8.trans sm)⟩
    clear L H7
    rintro σ H7 ⟨rfl, L⟩
    generalize some (vN ((divs k).map fun d => primeTo (k / d) n).sum) = y15
    -- 15
    refine ⟨fun σ H' => ∃ pl, σ = [some (.ref a), some (.ref row), some (vN n), some (vN k), y4, y5, y6, some (.ref wv), some (.ref d1), some (.ref d2), some (.ref pa), y11, y12, y13, some (.ref D), y15, y16, some (vN pl), none, none, none, none] ∧ pl < n ∧ LS K H' row a ns wv d1 d2 pa n k ar ds1 ds2, ?_, ?_⟩
    · exact ⟨_, rfl, _, rfl, row, a, ns, n, rfl, L.la.rr, by omega, by omega, fun v H8 hv sx R8 => ⟨v, rfl, hv, L.sx sx R8⟩⟩
    clear L H7
    rintro σ H7 ⟨pl, rfl, hpl, L⟩
    -- 16
    refine ⟨fun σ H' => σ = [some (.ref a), some (.ref row), some (vN n), some (vN k), y4, y5, y6, some (.ref wv), some (.ref d1), some (.ref d2), some (.ref pa), y11, y12, y13, some (.ref D), y15, y16, some (vN pl), none, none, none, none] ∧ LS K H' row a ns wv d1 d2 pa n k ar ds1 ds2, ?_, ?_⟩
    · refine ⟨_, rfl, _, rfl, _, rfl, _, rfl, wv, d1, n, k, pl, ar, ds1, rfl, L.dl, hpl, fun p H8 s8 hp ep => ?_⟩
      have L8 := L.same s8
      have hdv : gl k ds1 ∣ k := gl_dvd ds1 k
      have hq24 : k / gl k ds1 ≤ k := Nat.div_le_self _ _
      refine ⟨_, rfl, _, rfl, pa, _, _, _, rfl, rfl, SqL.of L8.pp, atI_nat (j := 0) rfl, 0, (k : Int), (gl k ds1 : Int), k / gl k ds1, rfl, rgC_mult (by omega) k24 hg0 hdv, by omega, fun z hz => ?_⟩
      have s9 : Same H8 (upd H8 z (.tup ((List.range (k / gl k ds1)).map fun i => V.int (0 + (i : Nat) * (gl k ds1 : Int))))) := same_upd hz
      have e1 : ((List.range (k / gl k ds1)).map fun i => V.int (0 + (i : Nat) * (gl k ds1 : Int))) = ((List.range (k / gl k ds1)).map fun i => i * gl k ds1).map vN := by
        rw [List.map_map]
        refine List.map_congr_left fun i _ => ?_
        show V.int (0 + (i : Int) * (gl k ds1 : Int)) = V.int ((i * gl k ds1 : Nat) : Int)
        rw [Int.zero_add, Int.natCast_mul]
      rw [shown_eq n2 n7 (by omega) k24 hg0 hdv hpl] at ep
      refine ⟨_, _, .tup (SqT.of (s9 _ _ ep)) (DpN K _ _), .tup (SqT.of (by rw [upd_same, e1])) (DpN K _ _), shaped_tup _, shaped_tup _, false, congrArg V.bl (by rw [eqv_tupN]; rfl), iteF ?_⟩
      exact ⟨rfl, L8.same s9⟩
    clear L H7
    rintro σ H7 ⟨rfl, L⟩
    -- 17, 18, 19
    have hdv : gl k ds1 ∣ k := gl_dvd ds1 k
    refine ⟨_, rfl, n, rfl, by omega, by omega, fun wi hwi => lc_range (lo := 0) (n := n)
      (fun i H' => ∃ vs : List Nat, vs.length = i ∧ (∀ c ∈ vs, c < k ∧ gl k ds1 ∣ c) ∧ SX row H7 H' ∧ Row K H' row a ns ∧ H' wi = some (.lst (vs.map vN))) ⟨[], rfl, (fun c hc => nomatch hc), SX.of (same_upd hwi), L.la.rr.same (same_upd hwi), upd_same⟩ ?_ ?_⟩
    · rintro i H' hi ⟨vs, hl, hk, sx, R8, ew⟩
      have L8 := L.sx sx R8
      refine ⟨rfl, _, rfl, pa, _, _, _, rfl, rfl, SqL.of L8.pp, atI_nat (j := 0) rfl, _, rfl, _, rfl, row, a, ns, k, rfl, R8, by omega, k24, fun v H9 hv sx9 R9 => ?_⟩
      refine ⟨_, _, rfl, rfl, .inl ⟨by omega, by omega⟩, .inl ⟨_, rfl, _, rfl, _, _, rfl, rfl, by omega, ?_⟩⟩
      have hwr := L.la.rr.out hwi
      refine ⟨_, sx9 _ _ hwr ew, small7 (m := 7) (by rw [List.length_map]; omega) (by decide), vs ++ [(gl k ds1 * v) % k], by rw [List.length_append, hl]; rfl, fun c hc => ?_, (sx.trans sx9).mut hwi, L.la.rr.mut (sx.trans sx9) hwi R9, ?_⟩
      · rcases List.mem_append.mp hc with h | h
        · exact hk c h
        · rw [List.mem_singleton.mp h]
          exact ⟨Nat.mod_lt _ (by omega), (Nat.dvd_mod_iff hdv).mpr (Nat.dvd_mul_right _ _)⟩
      · rw [upd_same, List.map_append]
        rfl
    rintro H8 ⟨vs, hl, hk, sx, R8, ew⟩
    have L8 := L.sx sx R8
    have hwr := L.la.rr.out hwi
    refine ⟨_, rfl, _, rfl, wi, _, _, pl, rfl, rfl, ew, ixN_in (by rw [List.length_map, hl]) hpl, ?_⟩
    have ets : (vs.map vN).set pl V.non = ((vs.map some).set pl none).map vO := by
      rw [List.map_set, List.map_map]
      rfl
    rw [ets]
    have wne : ∀ {b : Addr} {ys : List V}, SqT K H8 b ys → SqT K (upd H8 wi (.lst (((vs.map some).set pl none).map vO))) b ys := fun {b ys} h => ((SX.of (Same.refl H8)).upd).tupL ew h
    have D9 : Dl K (upd H8 wi (.lst (((vs.map some).set pl none).map vO))) wv d1 n k ar ds1 := ⟨L8.la.web.sx ((SX.of (Same.refl H8)).upd) ew, R, k2, k24, wne L8.t1, L8.l1, L8.lt1⟩
    have W9 : Wsh n k ((vs.map some).set pl none) := by
      refine ⟨by rw [List.length_set, List.length_map, hl], fun x hx => ?_⟩
      rcases List.mem_or_eq_of_mem_set hx with h | h
      · obtain ⟨y, hy, e⟩ := List.mem_map.mp h
        rw [← Option.some.inj e]
        exact (hk y hy).1
      · cases h
    refine ⟨_, rfl, _, rfl, _, rfl, _, rfl, .inl ⟨wi, _, rfl, SqL.of upd_same, fun t ht => ?_⟩⟩
    have st := same_upd (o := .tup (((vs.map some).set pl none).map vO)) ht
    refine ⟨wv, d1, t, n, k, ar, ds1, (vs.map some).set pl none, rfl, D9.same st, SqT.of upd_same, W9, fun H10 s10 => ⟨_, _, rfl, rfl, ?_⟩⟩
    rw [decide_eq_true (wish_pos n2 n7 (by omega) k24 hg0 hdv (fun v hv => (hk v hv).2) hl hpl)]
    exact q _
end
end CK

set_option Elab.async false
set_option linter.all false
set_option maxRecDepth 100000
set_option maxHeartbeats 8000000
namespace CK
open PySem PySem.Spec PyProof.Rows L2

theorem stand {K : PySem.W.Frag} {h : Heap} {mg : Str → Option Value} {x : Str} {st : Stmt} {ps : List Str} {f : Addr} {fd : FuncData} (F : Fun K x x st f fd) (b : Binds K fd ps []) (m : mg x = some (.ref f)) : Stands K mg x st ps := ⟨f, fd, F, b, m⟩
theorem all_mk {l : PySem.W.OpenLaw} {w : World} {K : PySem.W.Frag} {h : Heap} {mg : Str → Option Value} {fa f1 f2 f3 f4 f5 f6 f7 f8 f9 f10 f11 f12 f13 f14 f15 f16 f17 f18 f19 f20 f21 f22 f23 f24 f25 f26 f27 f28 f29 f30 f31 f32 f33 f34 f35 f36 f37 f38 f39 f40 : Addr} (X : K.In h) (G : h.Ns mainGlobals mg) (hfa : mg "law" = some (.ref fa))
    {od1 an1 od2 an2 od3 an3 od4 an4 od5 an5 od6 an6 od7 an7 od8 an8 od9 an9 od10 an10 od11 an11 od12 an12 od13 an13 od14 an14 od15 an15 od16 an16 od17 an17 od18 an18 od19 an19 od20 an20 od21 an21 od22 an22 od23 an23 od24 an24 od25 an25 od26 an26 od27 an27 od28 an28 od29 an29 od30 an30 od31 an31 od32 an32 od33 an33 od34 an34 od35 an35 od36 an36 od37 an37 od38 an38 od39 an39 od40 an40 : Option Addr} {sl1 sl2 sl3 sl4 sl5 sl6 sl7 sl8 sl9 sl10 sl11 sl12 sl13 sl14 sl15 sl16 sl17 sl18 sl19 sl20 sl21 sl22 sl23 sl24 sl25 sl26 sl27 sl28 sl29 sl30 sl31 sl32 sl33 sl34 sl35 sl36 sl37 sl38 sl39 sl40 : Array (Option Value)} {oc1 kV1 dc1 pm1 cd1 ct1 oc2 kV2 dc2 pm2 cd2 ct2 oc3 kV3 dc3 pm3 cd3 ct3 oc4 kV4 dc4 pm4 cd4 ct4 oc5 kV5 dc5 pm5 cd5 ct5 oc6 kV6 dc6 pm6 cd6 ct6 oc7 kV7 dc7 pm7 cd7 ct7 oc8 kV8 dc8 pm8 cd8 ct8 oc9 kV9 dc9 pm9 cd9 ct9 oc10 kV10 dc10 pm10 cd10 ct10 oc11 kV11 dc11 pm11 cd11 ct11 oc12 kV12 dc12 pm12 cd12 ct12 oc13 kV13 dc13 pm13 cd13 ct13 oc14 kV14 dc14 pm14 cd14 ct14 oc15 kV15 dc15 pm15 cd15 ct15 oc16 kV16 dc16 pm16 cd16 ct16 oc17 kV17 dc17 pm17 cd17 ct17 oc18 kV18 dc18 pm18 cd18 ct18 oc19 kV19 dc19 pm19 cd19 ct19 oc20 kV20 dc20 pm20 cd20 ct20 oc21 kV21 dc21 pm21 cd21 ct21 oc22 kV22 dc22 pm22 cd22 ct22 oc23 kV23 dc23 pm23 cd23 ct23 oc24 kV24 dc24 pm24 cd24 ct24 oc25 kV25 dc25 pm25 cd25 ct25 oc26 kV26 dc26 pm26 cd26 ct26 oc27 kV27 dc27 pm27 cd27 ct27 oc28 kV28 dc28 pm28 cd28 ct28 oc29 kV29 dc29 pm29 cd29 ct29 oc30 kV30 dc30 pm30 cd30 ct30 oc31 kV31 dc31 pm31 cd31 ct31 oc32 kV32 dc32 pm32 cd32 ct32 oc33 kV33 dc33 pm33 cd33 ct33 oc34 kV34 dc34 pm34 cd34 ct34 oc35 kV35 dc35 pm35 cd35 ct35 oc36 kV36 dc36 pm36 cd36 ct36 oc37 kV37 dc37 pm37 cd37 ct37 oc38 kV38 dc38 pm38 cd38 ct38 oc39 kV39 dc39 pm39 cd39 ct39 oc40 kV40 dc40 pm40 cd40 ct40 : Value}
    {tk1 tk2 tk3 : Tok}
    (a1 : PySem.W.nsIn K mainGlobals "is_in" = some (some (.ref f1))) (l1 : K.lookup f1 = some ⟨oc1, od1, .func (PySem.W.fnOf "is_in" "is_in" (defArgs sIsIn) (defBody sIsIn) (defScope sIsIn) .none kV1 dc1 pm1 an1 cd1 ct1), sl1⟩) (c1 : PySem.W.codeIn K cd1 "is_in" = true) (k1 : PySem.W.keepIn K (.ref f1) = true)
    (a2 : PySem.W.nsIn K mainGlobals "gcd" = some (some (.ref f2))) (l2 : K.lookup f2 = some ⟨oc2, od2, .func (PySem.W.fnOf "gcd" "gcd" (defArgs sGcd) (defBody sGcd) (defScope sGcd) .none kV2 dc2 pm2 an2 cd2 ct2), sl2⟩) (c2 : PySem.W.codeIn K cd2 "gcd" = true) (k2 : PySem.W.keepIn K (.ref f2) = true)
    (a3 : PySem.W.nsIn K mainGlobals "is_arrow" = some (some (.ref f3))) (l3 : K.lookup f3 = some ⟨oc3, od3, .func (PySem.W.fnOf "is_arrow" "is_arrow" (defArgs sIsArrow) (defBody sIsArrow) (defScope sIsArrow) .none kV3 dc3 pm3 an3 cd3 ct3), sl3⟩) (c3 : PySem.W.codeIn K cd3 "is_arrow" = true) (k3 : PySem.W.keepIn K (.ref f3) = true)
    (a4 : PySem.W.nsIn K mainGlobals "need_web" = some (some (.ref f4))) (l4 : K.lookup f4 = some ⟨oc4, od4, .func (PySem.W.fnOf "need_web" "need_web" (defArgs sNeedWeb) (defBody sNeedWeb) (defScope sNeedWeb) .none kV4 dc4 pm4 an4 cd4 ct4), sl4⟩) (c4 : PySem.W.codeIn K cd4 "need_web" = true) (k4 : PySem.W.keepIn K (.ref f4) = true)
    (a5 : PySem.W.nsIn K mainGlobals "need_hours" = some (some (.ref f5))) (l5 : K.lookup f5 = some ⟨oc5, od5, .func (PySem.W.fnOf "need_hours" "need_hours" (defArgs sNeedHours) (defBody sNeedHours) (defScope sNeedHours) .none kV5 dc5 pm5 an5 cd5 ct5), sl5⟩) (c5 : PySem.W.codeIn K cd5 "need_hours" = true) (k5 : PySem.W.keepIn K (.ref f5) = true)
    (a6 : PySem.W.nsIn K mainGlobals "need_dial" = some (some (.ref f6))) (l6 : K.lookup f6 = some ⟨oc6, od6, .func (PySem.W.fnOf "need_dial" "need_dial" (defArgs sNeedDial) (defBody sNeedDial) (defScope sNeedDial) .none kV6 dc6 pm6 an6 cd6 ct6), sl6⟩) (c6 : PySem.W.codeIn K cd6 "need_dial" = true) (k6 : PySem.W.keepIn K (.ref f6) = true)
    (a7 : PySem.W.nsIn K mainGlobals "need_all" = some (some (.ref f7))) (l7 : K.lookup f7 = some ⟨oc7, od7, .func (PySem.W.fnOf "need_all" "need_all" (defArgs sNeedAll) (defBody sNeedAll) (defScope sNeedAll) .none kV7 dc7 pm7 an7 cd7 ct7), sl7⟩) (c7 : PySem.W.codeIn K cd7 "need_all" = true) (k7 : PySem.W.keepIn K (.ref f7) = true)
    (a8 : PySem.W.nsIn K mainGlobals "need_clock" = some (some (.ref f8))) (l8 : K.lookup f8 = some ⟨oc8, od8, .func (PySem.W.fnOf "need_clock" "need_clock" (defArgs sNeedClock) (defBody sNeedClock) (defScope sNeedClock) .none kV8 dc8 pm8 an8 cd8 ct8), sl8⟩) (c8 : PySem.W.codeIn K cd8 "need_clock" = true) (k8 : PySem.W.keepIn K (.ref f8) = true)
    (a9 : PySem.W.nsIn K mainGlobals "led_from" = some (some (.ref f9))) (l9 : K.lookup f9 = some ⟨oc9, od9, .func (PySem.W.fnOf "led_from" "led_from" (defArgs sLedFrom) (defBody sLedFrom) (defScope sLedFrom) .none kV9 dc9 pm9 an9 cd9 ct9), sl9⟩) (c9 : PySem.W.codeIn K cd9 "led_from" = true) (k9 : PySem.W.keepIn K (.ref f9) = true)
    (a10 : PySem.W.nsIn K mainGlobals "parts_in" = some (some (.ref f10))) (l10 : K.lookup f10 = some ⟨oc10, od10, .func (PySem.W.fnOf "parts_in" "parts_in" (defArgs sPartsIn) (defBody sPartsIn) (defScope sPartsIn) .none kV10 dc10 pm10 an10 cd10 ct10), sl10⟩) (c10 : PySem.W.codeIn K cd10 "parts_in" = true) (k10 : PySem.W.keepIn K (.ref f10) = true)
    (a11 : PySem.W.nsIn K mainGlobals "above_in" = some (some (.ref f11))) (l11 : K.lookup f11 = some ⟨oc11, od11, .func (PySem.W.fnOf "above_in" "above_in" (defArgs sAboveIn) (defBody sAboveIn) (defScope sAboveIn) .none kV11 dc11 pm11 an11 cd11 ct11), sl11⟩) (c11 : PySem.W.codeIn K cd11 "above_in" = true) (k11 : PySem.W.keepIn K (.ref f11) = true)
    (a12 : PySem.W.nsIn K mainGlobals "flow_in" = some (some (.ref f12))) (l12 : K.lookup f12 = some ⟨oc12, od12, .func (PySem.W.fnOf "flow_in" "flow_in" (defArgs sFlowIn) (defBody sFlowIn) (defScope sFlowIn) .none kV12 dc12 pm12 an12 cd12 ct12), sl12⟩) (c12 : PySem.W.codeIn K cd12 "flow_in" = true) (k12 : PySem.W.keepIn K (.ref f12) = true)
    (a13 : PySem.W.nsIn K mainGlobals "mark_of" = some (some (.ref f13))) (l13 : K.lookup f13 = some ⟨oc13, od13, .func (PySem.W.fnOf "mark_of" "mark_of" (defArgs sMarkOf) (defBody sMarkOf) (defScope sMarkOf) .none kV13 dc13 pm13 an13 cd13 ct13), sl13⟩) (c13 : PySem.W.codeIn K cd13 "mark_of" = true) (k13 : PySem.W.keepIn K (.ref f13) = true)
    (a14 : PySem.W.nsIn K mainGlobals "marks_in" = some (some (.ref f14))) (l14 : K.lookup f14 = some ⟨oc14, od14, .func (PySem.W.fnOf "marks_in" "marks_in" (defArgs sMarksIn) (defBody sMarksIn) (defScope sMarksIn) .none kV14 dc14 pm14 an14 cd14 ct14), sl14⟩) (c14 : PySem.W.codeIn K cd14 "marks_in" = true) (k14 : PySem.W.keepIn K (.ref f14) = true)
    (a15 : PySem.W.nsIn K mainGlobals "marks" = some (some (.ref f15))) (l15 : K.lookup f15 = some ⟨oc15, od15, .func (PySem.W.fnOf "marks" "marks" (defArgs sMarks) (defBody sMarks) (defScope sMarks) .none kV15 dc15 pm15 an15 cd15 ct15), sl15⟩) (c15 : PySem.W.codeIn K cd15 "marks" = true) (k15 : PySem.W.keepIn K (.ref f15) = true)
    (a16 : PySem.W.nsIn K mainGlobals "can_come" = some (some (.ref f16))) (l16 : K.lookup f16 = some ⟨oc16, od16, .func (PySem.W.fnOf "can_come" "can_come" (defArgs sCanCome) (defBody sCanCome) (defScope sCanCome) .none kV16 dc16 pm16 an16 cd16 ct16), sl16⟩) (c16 : PySem.W.codeIn K cd16 "can_come" = true) (k16 : PySem.W.keepIn K (.ref f16) = true)
    (a17 : PySem.W.nsIn K mainGlobals "prime_to" = some (some (.ref f17))) (l17 : K.lookup f17 = some ⟨oc17, od17, .func (PySem.W.fnOf "prime_to" "prime_to" (defArgs sPrimeTo) (defBody sPrimeTo) (defScope sPrimeTo) .none kV17 dc17 pm17 an17 cd17 ct17), sl17⟩) (c17 : PySem.W.codeIn K cd17 "prime_to" = true) (k17 : PySem.W.keepIn K (.ref f17) = true)
    (a18 : PySem.W.nsIn K mainGlobals "ways_of" = some (some (.ref f18))) (l18 : K.lookup f18 = some ⟨oc18, od18, .func (PySem.W.fnOf "ways_of" "ways_of" (defArgs sWaysOf) (defBody sWaysOf) (defScope sWaysOf) .none kV18 dc18 pm18 an18 cd18 ct18), sl18⟩) (c18 : PySem.W.codeIn K cd18 "ways_of" = true) (k18 : PySem.W.keepIn K (.ref f18) = true)
    (a19 : PySem.W.nsIn K mainGlobals "count_with" = some (some (.ref f19))) (l19 : K.lookup f19 = some ⟨oc19, od19, .func (PySem.W.fnOf "count_with" "count_with" (defArgs sCountWith) (defBody sCountWith) (defScope sCountWith) .none kV19 dc19 pm19 an19 cd19 ct19), sl19⟩) (c19 : PySem.W.codeIn K cd19 "count_with" = true) (k19 : PySem.W.keepIn K (.ref f19) = true)
    (a20 : PySem.W.nsIn K mainGlobals "come_count" = some (some (.ref f20))) (l20 : K.lookup f20 = some ⟨oc20, od20, .func (PySem.W.fnOf "come_count" "come_count" (defArgs sComeCount) (defBody sComeCount) (defScope sComeCount) .none kV20 dc20 pm20 an20 cd20 ct20), sl20⟩) (c20 : PySem.W.codeIn K cd20 "come_count" = true) (k20 : PySem.W.keepIn K (.ref f20) = true)
    (a21 : PySem.W.nsIn K mainGlobals "at_in" = some (some (.ref f21))) (l21 : K.lookup f21 = some ⟨oc21, od21, .func (PySem.W.fnOf "at_in" "at_in" (defArgs sAtIn) (defBody sAtIn) (defScope sAtIn) .none kV21 dc21 pm21 an21 cd21 ct21), sl21⟩) (c21 : PySem.W.codeIn K cd21 "at_in" = true) (k21 : PySem.W.keepIn K (.ref f21) = true)
    (a22 : PySem.W.nsIn K mainGlobals "least_come" = some (some (.ref f22))) (l22 : K.lookup f22 = some ⟨oc22, od22, .func (PySem.W.fnOf "least_come" "least_come" (defArgs sLeastCome) (defBody sLeastCome) (defScope sLeastCome) .none kV22 dc22 pm22 an22 cd22 ct22), sl22⟩) (c22 : PySem.W.codeIn K cd22 "least_come" = true) (k22 : PySem.W.keepIn K (.ref f22) = true)
    (a23 : PySem.W.nsIn K mainGlobals "gathered_in" = some (some (.ref f23))) (l23 : K.lookup f23 = some ⟨oc23, od23, .func (PySem.W.fnOf "gathered_in" "gathered_in" (defArgs sGatheredIn) (defBody sGatheredIn) (defScope sGatheredIn) .none kV23 dc23 pm23 an23 cd23 ct23), sl23⟩) (c23 : PySem.W.codeIn K cd23 "gathered_in" = true) (k23 : PySem.W.keepIn K (.ref f23) = true)
    (a24 : PySem.W.nsIn K mainGlobals "gathered" = some (some (.ref f24))) (l24 : K.lookup f24 = some ⟨oc24, od24, .func (PySem.W.fnOf "gathered" "gathered" (defArgs sGathered) (defBody sGathered) (defScope sGathered) .none kV24 dc24 pm24 an24 cd24 ct24), sl24⟩) (c24 : PySem.W.codeIn K cd24 "gathered" = true) (k24 : PySem.W.keepIn K (.ref f24) = true)
    (a25 : PySem.W.nsIn K mainGlobals "counts_of" = some (some (.ref f25))) (l25 : K.lookup f25 = some ⟨oc25, od25, .func (PySem.W.fnOf "counts_of" "counts_of" (defArgs sCountsOf) (defBody sCountsOf) (defScope sCountsOf) .none kV25 dc25 pm25 an25 cd25 ct25), sl25⟩) (c25 : PySem.W.codeIn K cd25 "counts_of" = true) (k25 : PySem.W.keepIn K (.ref f25) = true)
    (a26 : PySem.W.nsIn K mainGlobals "need_place" = some (some (.ref f26))) (l26 : K.lookup f26 = some ⟨oc26, od26, .func (PySem.W.fnOf "need_place" "need_place" (defArgs sNeedPlace) (defBody sNeedPlace) (defScope sNeedPlace) .none kV26 dc26 pm26 an26 cd26 ct26), sl26⟩) (c26 : PySem.W.codeIn K cd26 "need_place" = true) (k26 : PySem.W.keepIn K (.ref f26) = true)
    (a27 : PySem.W.nsIn K mainGlobals "shown" = some (some (.ref f27))) (l27 : K.lookup f27 = some ⟨oc27, od27, .func (PySem.W.fnOf "shown" "shown" (defArgs sShown) (defBody sShown) (defScope sShown) .none kV27 dc27 pm27 an27 cd27 ct27), sl27⟩) (c27 : PySem.W.codeIn K cd27 "shown" = true) (k27 : PySem.W.keepIn K (.ref f27) = true)
    (a28 : PySem.W.nsIn K mainGlobals "need_wish" = some (some (.ref f28))) (l28 : K.lookup f28 = some ⟨oc28, od28, .func (PySem.W.fnOf "need_wish" "need_wish" (defArgs sNeedWish) (defBody sNeedWish) (defScope sNeedWish) .none kV28 dc28 pm28 an28 cd28 ct28), sl28⟩) (c28 : PySem.W.codeIn K cd28 "need_wish" = true) (k28 : PySem.W.keepIn K (.ref f28) = true)
    (a29 : PySem.W.nsIn K mainGlobals "can_meet" = some (some (.ref f29))) (l29 : K.lookup f29 = some ⟨oc29, od29, .func (PySem.W.fnOf "can_meet" "can_meet" (defArgs sCanMeet) (defBody sCanMeet) (defScope sCanMeet) .none kV29 dc29 pm29 an29 cd29 ct29), sl29⟩) (c29 : PySem.W.codeIn K cd29 "can_meet" = true) (k29 : PySem.W.keepIn K (.ref f29) = true)
    (a30 : PySem.W.nsIn K mainGlobals "in_order" = some (some (.ref f30))) (l30 : K.lookup f30 = some ⟨oc30, od30, .func (PySem.W.fnOf "in_order" "in_order" (defArgs sInOrder) (defBody sInOrder) (defScope sInOrder) .none kV30 dc30 pm30 an30 cd30 ct30), sl30⟩) (c30 : PySem.W.codeIn K cd30 "in_order" = true) (k30 : PySem.W.keepIn K (.ref f30) = true)
    (a31 : PySem.W.nsIn K mainGlobals "divisors" = some (some (.ref f31))) (l31 : K.lookup f31 = some ⟨oc31, od31, .func (PySem.W.fnOf "divisors" "divisors" (defArgs sDivisors) (defBody sDivisors) (defScope sDivisors) .none kV31 dc31 pm31 an31 cd31 ct31), sl31⟩) (c31 : PySem.W.codeIn K cd31 "divisors" = true) (k31 : PySem.W.keepIn K (.ref f31) = true)
    (a32 : PySem.W.nsIn K mainGlobals "choices" = some (some (.ref f32))) (l32 : K.lookup f32 = some ⟨oc32, od32, .func (PySem.W.fnOf "choices" "choices" (defArgs sChoices) (defBody sChoices) (defScope sChoices) .none kV32 dc32 pm32 an32 cd32 ct32), sl32⟩) (c32 : PySem.W.codeIn K cd32 "choices" = true) (k32 : PySem.W.keepIn K (.ref f32) = true)
    (a33 : PySem.W.nsIn K mainGlobals "class_table" = some (some (.ref f33))) (l33 : K.lookup f33 = some ⟨oc33, od33, .func (PySem.W.fnOf "class_table" "class_table" (defArgs sClassTable) (defBody sClassTable) (defScope sClassTable) .none kV33 dc33 pm33 an33 cd33 ct33), sl33⟩) (c33 : PySem.W.codeIn K cd33 "class_table" = true) (k33 : PySem.W.keepIn K (.ref f33) = true)
    (a34 : PySem.W.nsIn K mainGlobals "class_count" = some (some (.ref f34))) (l34 : K.lookup f34 = some ⟨oc34, od34, .func (PySem.W.fnOf "class_count" "class_count" (defArgs sClassCount) (defBody sClassCount) (defScope sClassCount) .none kV34 dc34 pm34 an34 cd34 ct34), sl34⟩) (c34 : PySem.W.codeIn K cd34 "class_count" = true) (k34 : PySem.W.keepIn K (.ref f34) = true)
    (a35 : PySem.W.nsIn K mainGlobals "class_sizes" = some (some (.ref f35))) (l35 : K.lookup f35 = some ⟨oc35, od35, .func (PySem.W.fnOf "class_sizes" "class_sizes" (defArgs sClassSizes) (defBody sClassSizes) (defScope sClassSizes) .none kV35 dc35 pm35 an35 cd35 ct35), sl35⟩) (c35 : PySem.W.codeIn K cd35 "class_sizes" = true) (k35 : PySem.W.keepIn K (.ref f35) = true)
    (a36 : PySem.W.nsIn K mainGlobals "_law_taken" = some (some (.ref f36))) (l36 : K.lookup f36 = some ⟨oc36, od36, .func (PySem.W.fnOf "_law_taken" "_law_taken" (defArgs sTaken) (defBody sTaken) (defScope sTaken) .none kV36 dc36 pm36 an36 cd36 ct36), sl36⟩) (c36 : PySem.W.codeIn K cd36 "_law_taken" = true) (k36 : PySem.W.keepIn K (.ref f36) = true)
    (a37 : PySem.W.nsIn K mainGlobals "_law_pick" = some (some (.ref f37))) (l37 : K.lookup f37 = some ⟨oc37, od37, .func (PySem.W.fnOf "_law_pick" "_law_pick" (defArgs sPick) (defBody sPick) (defScope sPick) .none kV37 dc37 pm37 an37 cd37 ct37), sl37⟩) (c37 : PySem.W.codeIn K cd37 "_law_pick" = true) (k37 : PySem.W.keepIn K (.ref f37) = true)
    (a38 : PySem.W.nsIn K mainGlobals "_law_dial" = some (some (.ref f38))) (l38 : K.lookup f38 = some ⟨oc38, od38, .func (PySem.W.fnOf "_law_dial" "_law_dial" (defArgs sDial) (defBody sDial) (defScope sDial) .none kV38 dc38 pm38 an38 cd38 ct38), sl38⟩) (c38 : PySem.W.codeIn K cd38 "_law_dial" = true) (k38 : PySem.W.keepIn K (.ref f38) = true)
    (a39 : PySem.W.nsIn K mainGlobals "_law_gcd" = some (some (.ref f39))) (l39 : K.lookup f39 = some ⟨oc39, od39, .func (PySem.W.fnOf "_law_gcd" "_law_gcd" (defArgs sLGcd) (defBody sLGcd) (defScope sLGcd) .none kV39 dc39 pm39 an39 cd39 ct39), sl39⟩) (c39 : PySem.W.codeIn K cd39 "_law_gcd" = true) (k39 : PySem.W.keepIn K (.ref f39) = true)
    (a40 : PySem.W.nsIn K mainGlobals "law" = some (some (.ref f40))) (l40 : K.lookup f40 = some ⟨oc40, od40, .func (PySem.W.fnOf "law" "law" (defArgs sLaw) (defBody sLaw) (defScope sLaw) .none kV40 dc40 pm40 an40 cd40 ct40), sl40⟩) (c40 : PySem.W.codeIn K cd40 "law" = true) (k40 : PySem.W.keepIn K (.ref f40) = true)
    (z1 : PySem.W.nsIn K mainGlobals "isinstance" = some none) (z2 : PySem.W.nsIn K mainGlobals "int" = some none) (z3 : PySem.W.nsIn K mainGlobals "bool" = some none) (z4 : PySem.W.nsIn K mainGlobals "abs" = some none) (z5 : PySem.W.nsIn K mainGlobals "tuple" = some none) (z6 : PySem.W.nsIn K mainGlobals "len" = some none) (z7 : PySem.W.nsIn K mainGlobals "enumerate" = some none) (z8 : PySem.W.nsIn K mainGlobals "sorted" = some none) (z9 : PySem.W.nsIn K mainGlobals "range" = some none) (z10 : PySem.W.nsIn K mainGlobals "list" = some none) (z11 : PySem.W.nsIn K mainGlobals "sum" = some none) (z12 : PySem.W.nsIn K mainGlobals "set" = some none)
    (m1 : PySem.W.nsIn K mainGlobals "MOST_CLOCKS" = some (some (.int 7 tk1))) (m2 : PySem.W.nsIn K mainGlobals "LEAST_HOURS" = some (some (.int 2 tk2))) (m3 : PySem.W.nsIn K mainGlobals "MOST_HOURS" = some (some (.int 24 tk3))) :
    ∃ fd : FuncData, (∀ (s : Shared) (v : Value), BindsTo s fd ⟨[v], []⟩ [("_law_script", v)]) ∧ ∀ base : Heap, K.In base → base.Ns mainGlobals mg → FnOk l.prog w K mg base CX0 8 fa fd ["_law_script"] (spLaw K) := by
  have e := hfa.symm.trans (PySem.W.mg_of X G a40)
  cases e
  have B : Blt mg := ⟨PySem.W.mg_none_of X G z1, PySem.W.mg_none_of X G z2, PySem.W.mg_none_of X G z3, PySem.W.mg_none_of X G z4, PySem.W.mg_none_of X G z5, PySem.W.mg_none_of X G z6, PySem.W.mg_none_of X G z7, PySem.W.mg_none_of X G z8, PySem.W.mg_none_of X G z9, PySem.W.mg_none_of X G z10, PySem.W.mg_none_of X G z11, PySem.W.mg_none_of X G z12⟩
  have C : Cns mg := ⟨⟨tk1, PySem.W.mg_of X G m1⟩, ⟨tk2, PySem.W.mg_of X G m2⟩, ⟨tk3, PySem.W.mg_of X G m3⟩⟩
  have F1 := fun_mk (st := sIsIn) l1 c1 k1
  have T1 : Stands K mg "is_in" sIsIn ["value", "least", "most"] := ⟨f1, _, F1, F1.binds (ps := ["value", "least", "most"]) (fun _ _ _ _ _ _ us hl => match us, hl with | [_, _, _], _ => rfl), PySem.W.mg_of X G a1⟩
  have F2 := fun_mk (st := sGcd) l2 c2 k2
  have T2 : Stands K mg "gcd" sGcd ["one", "other"] := ⟨f2, _, F2, F2.binds (ps := ["one", "other"]) (fun _ _ _ _ _ _ us hl => match us, hl with | [_, _], _ => rfl), PySem.W.mg_of X G a2⟩
  have F3 := fun_mk (st := sIsArrow) l3 c3 k3
  have T3 : Stands K mg "is_arrow" sIsArrow ["value", "many"] := ⟨f3, _, F3, F3.binds (ps := ["value", "many"]) (fun _ _ _ _ _ _ us hl => match us, hl with | [_, _], _ => rfl), PySem.W.mg_of X G a3⟩
  have F4 := fun_mk (st := sNeedWeb) l4 c4 k4
  have T4 : Stands K mg "need_web" sNeedWeb ["web"] := ⟨f4, _, F4, F4.binds (ps := ["web"]) (fun _ _ _ _ _ _ us hl => match us, hl with | [_], _ => rfl), PySem.W.mg_of X G a4⟩
  have F5 := fun_mk (st := sNeedHours) l5 c5 k5
  have T5 : Stands K mg "need_hours" sNeedHours ["hours"] := ⟨f5, _, F5, F5.binds (ps := ["hours"]) (fun _ _ _ _ _ _ us hl => match us, hl with | [_], _ => rfl), PySem.W.mg_of X G a5⟩
  have F6 := fun_mk (st := sNeedDial) l6 c6 k6
  have T6 : Stands K mg "need_dial" sNeedDial ["web", "hours", "dial"] := ⟨f6, _, F6, F6.binds (ps := ["web", "hours", "dial"]) (fun _ _ _ _ _ _ us hl => match us, hl with | [_, _, _], _ => rfl), PySem.W.mg_of X G a6⟩
  have F7 := fun_mk (st := sNeedAll) l7 c7 k7
  have T7 : Stands K mg "need_all" sNeedAll ["web", "hours", "dial"] := ⟨f7, _, F7, F7.binds (ps := ["web", "hours", "dial"]) (fun _ _ _ _ _ _ us hl => match us, hl with | [_, _, _], _ => rfl), PySem.W.mg_of X G a7⟩
  have F8 := fun_mk (st := sNeedClock) l8 c8 k8
  have T8 : Stands K mg "need_clock" sNeedClock ["web", "place"] := ⟨f8, _, F8, F8.binds (ps := ["web", "place"]) (fun _ _ _ _ _ _ us hl => match us, hl with | [_, _], _ => rfl), PySem.W.mg_of X G a8⟩
  have F9 := fun_mk (st := sLedFrom) l9 c9 k9
  have T9 : Stands K mg "led_from" sLedFrom ["web", "place"] := ⟨f9, _, F9, F9.binds (ps := ["web", "place"]) (fun _ _ _ _ _ _ us hl => match us, hl with | [_, _], _ => rfl), PySem.W.mg_of X G a9⟩
  have F10 := fun_mk (st := sPartsIn) l10 c10 k10
  have T10 : Stands K mg "parts_in" sPartsIn ["web"] := ⟨f10, _, F10, F10.binds (ps := ["web"]) (fun _ _ _ _ _ _ us hl => match us, hl with | [_], _ => rfl), PySem.W.mg_of X G a10⟩
  have F11 := fun_mk (st := sAboveIn) l11 c11 k11
  have T11 : Stands K mg "above_in" sAboveIn ["web", "place"] := ⟨f11, _, F11, F11.binds (ps := ["web", "place"]) (fun _ _ _ _ _ _ us hl => match us, hl with | [_, _], _ => rfl), PySem.W.mg_of X G a11⟩
  have F12 := fun_mk (st := sFlowIn) l12 c12 k12
  have T12 : Stands K mg "flow_in" sFlowIn ["web", "hours", "dial", "place"] := ⟨f12, _, F12, F12.binds (ps := ["web", "hours", "dial", "place"]) (fun _ _ _ _ _ _ us hl => match us, hl with | [_, _, _, _], _ => rfl), PySem.W.mg_of X G a12⟩
  have F13 := fun_mk (st := sMarkOf) l13 c13 k13
  have T13 : Stands K mg "mark_of" sMarkOf ["web", "hours", "dial", "part"] := ⟨f13, _, F13, F13.binds (ps := ["web", "hours", "dial", "part"]) (fun _ _ _ _ _ _ us hl => match us, hl with | [_, _, _, _], _ => rfl), PySem.W.mg_of X G a13⟩
  have F14 := fun_mk (st := sMarksIn) l14 c14 k14
  have T14 : Stands K mg "marks_in" sMarksIn ["web", "hours", "dial"] := ⟨f14, _, F14, F14.binds (ps := ["web", "hours", "dial"]) (fun _ _ _ _ _ _ us hl => match us, hl with | [_, _, _], _ => rfl), PySem.W.mg_of X G a14⟩
  have F15 := fun_mk (st := sMarks) l15 c15 k15
  have T15 : Stands K mg "marks" sMarks ["web", "hours", "dial"] := ⟨f15, _, F15, F15.binds (ps := ["web", "hours", "dial"]) (fun _ _ _ _ _ _ us hl => match us, hl with | [_, _, _], _ => rfl), PySem.W.mg_of X G a15⟩
  have F16 := fun_mk (st := sCanCome) l16 c16 k16
  have T16 : Stands K mg "can_come" sCanCome ["web", "hours", "one", "other"] := ⟨f16, _, F16, F16.binds (ps := ["web", "hours", "one", "other"]) (fun _ _ _ _ _ _ us hl => match us, hl with | [_, _, _, _], _ => rfl), PySem.W.mg_of X G a16⟩
  have F17 := fun_mk (st := sPrimeTo) l17 c17 k17
  have T17 : Stands K mg "prime_to" sPrimeTo ["number", "many"] := ⟨f17, _, F17, F17.binds (ps := ["number", "many"]) (fun _ _ _ _ _ _ us hl => match us, hl with | [_, _], _ => rfl), PySem.W.mg_of X G a17⟩
  have F18 := fun_mk (st := sWaysOf) l18 c18 k18
  have T18 : Stands K mg "ways_of" sWaysOf ["hours", "mark", "part", "dial"] := ⟨f18, _, F18, F18.binds (ps := ["hours", "mark", "part", "dial"]) (fun _ _ _ _ _ _ us hl => match us, hl with | [_, _, _, _], _ => rfl), PySem.W.mg_of X G a18⟩
  have F19 := fun_mk (st := sCountWith) l19 c19 k19
  have T19 : Stands K mg "count_with" sCountWith ["web", "hours", "dial", "told"] := ⟨f19, _, F19, F19.binds (ps := ["web", "hours", "dial", "told"]) (fun _ _ _ _ _ _ us hl => match us, hl with | [_, _, _, _], _ => rfl), PySem.W.mg_of X G a19⟩
  have F20 := fun_mk (st := sComeCount) l20 c20 k20
  have T20 : Stands K mg "come_count" sComeCount ["web", "hours", "dial"] := ⟨f20, _, F20, F20.binds (ps := ["web", "hours", "dial"]) (fun _ _ _ _ _ _ us hl => match us, hl with | [_, _, _], _ => rfl), PySem.W.mg_of X G a20⟩
  have F21 := fun_mk (st := sAtIn) l21 c21 k21
  have T21 : Stands K mg "at_in" sAtIn ["web", "hours", "dial", "index"] := ⟨f21, _, F21, F21.binds (ps := ["web", "hours", "dial", "index"]) (fun _ _ _ _ _ _ us hl => match us, hl with | [_, _, _, _], _ => rfl), PySem.W.mg_of X G a21⟩
  have F22 := fun_mk (st := sLeastCome) l22 c22 k22
  have T22 : Stands K mg "least_come" sLeastCome ["web", "hours", "dial"] := ⟨f22, _, F22, F22.binds (ps := ["web", "hours", "dial"]) (fun _ _ _ _ _ _ us hl => match us, hl with | [_, _, _], _ => rfl), PySem.W.mg_of X G a22⟩
  have F23 := fun_mk (st := sGatheredIn) l23 c23 k23
  have T23 : Stands K mg "gathered_in" sGatheredIn ["web", "hours", "dial"] := ⟨f23, _, F23, F23.binds (ps := ["web", "hours", "dial"]) (fun _ _ _ _ _ _ us hl => match us, hl with | [_, _, _], _ => rfl), PySem.W.mg_of X G a23⟩
  have F24 := fun_mk (st := sGathered) l24 c24 k24
  have T24 : Stands K mg "gathered" sGathered ["web", "hours", "dial"] := ⟨f24, _, F24, F24.binds (ps := ["web", "hours", "dial"]) (fun _ _ _ _ _ _ us hl => match us, hl with | [_, _, _], _ => rfl), PySem.W.mg_of X G a24⟩
  have F25 := fun_mk (st := sCountsOf) l25 c25 k25
  have T25 : Stands K mg "counts_of" sCountsOf ["web", "hours", "dial", "place", "told"] := ⟨f25, _, F25, F25.binds (ps := ["web", "hours", "dial", "place", "told"]) (fun _ _ _ _ _ _ us hl => match us, hl with | [_, _, _, _, _], _ => rfl), PySem.W.mg_of X G a25⟩
  have F26 := fun_mk (st := sNeedPlace) l26 c26 k26
  have T26 : Stands K mg "need_place" sNeedPlace ["web", "hours", "dial", "place"] := ⟨f26, _, F26, F26.binds (ps := ["web", "hours", "dial", "place"]) (fun _ _ _ _ _ _ us hl => match us, hl with | [_, _, _, _], _ => rfl), PySem.W.mg_of X G a26⟩
  have F27 := fun_mk (st := sShown) l27 c27 k27
  have T27 : Stands K mg "shown" sShown ["web", "hours", "dial", "place"] := ⟨f27, _, F27, F27.binds (ps := ["web", "hours", "dial", "place"]) (fun _ _ _ _ _ _ us hl => match us, hl with | [_, _, _, _], _ => rfl), PySem.W.mg_of X G a27⟩
  have F28 := fun_mk (st := sNeedWish) l28 c28 k28
  have T28 : Stands K mg "need_wish" sNeedWish ["web", "hours", "dial", "wish"] := ⟨f28, _, F28, F28.binds (ps := ["web", "hours", "dial", "wish"]) (fun _ _ _ _ _ _ us hl => match us, hl with | [_, _, _, _], _ => rfl), PySem.W.mg_of X G a28⟩
  have F29 := fun_mk (st := sCanMeet) l29 c29 k29
  have T29 : Stands K mg "can_meet" sCanMeet ["web", "hours", "dial", "wish"] := ⟨f29, _, F29, F29.binds (ps := ["web", "hours", "dial", "wish"]) (fun _ _ _ _ _ _ us hl => match us, hl with | [_, _, _, _], _ => rfl), PySem.W.mg_of X G a29⟩
  have F30 := fun_mk (st := sInOrder) l30 c30 k30
  have T30 : Stands K mg "in_order" sInOrder ["web"] := ⟨f30, _, F30, F30.binds (ps := ["web"]) (fun _ _ _ _ _ _ us hl => match us, hl with | [_], _ => rfl), PySem.W.mg_of X G a30⟩
  have F31 := fun_mk (st := sDivisors) l31 c31 k31
  have T31 : Stands K mg "divisors" sDivisors ["number"] := ⟨f31, _, F31, F31.binds (ps := ["number"]) (fun _ _ _ _ _ _ us hl => match us, hl with | [_], _ => rfl), PySem.W.mg_of X G a31⟩
  have F32 := fun_mk (st := sChoices) l32 c32 k32
  have T32 : Stands K mg "choices" sChoices ["hours", "part", "flow"] := ⟨f32, _, F32, F32.binds (ps := ["hours", "part", "flow"]) (fun _ _ _ _ _ _ us hl => match us, hl with | [_, _, _], _ => rfl), PySem.W.mg_of X G a32⟩
  have F33 := fun_mk (st := sClassTable) l33 c33 k33
  have T33 : Stands K mg "class_table" sClassTable ["web", "hours"] := ⟨f33, _, F33, F33.binds (ps := ["web", "hours"]) (fun _ _ _ _ _ _ us hl => match us, hl with | [_, _], _ => rfl), PySem.W.mg_of X G a33⟩
  have F34 := fun_mk (st := sClassCount) l34 c34 k34
  have T34 : Stands K mg "class_count" sClassCount ["web", "hours"] := ⟨f34, _, F34, F34.binds (ps := ["web", "hours"]) (fun _ _ _ _ _ _ us hl => match us, hl with | [_, _], _ => rfl), PySem.W.mg_of X G a34⟩
  have F35 := fun_mk (st := sClassSizes) l35 c35 k35
  have T35 : Stands K mg "class_sizes" sClassSizes ["web", "hours"] := ⟨f35, _, F35, F35.binds (ps := ["web", "hours"]) (fun _ _ _ _ _ _ us hl => match us, hl with | [_, _], _ => rfl), PySem.W.mg_of X G a35⟩
  have F36 := fun_mk (st := sTaken) l36 c36 k36
  have T36 : Stands K mg "_law_taken" sTaken ["_law_row", "_law_many"] := ⟨f36, _, F36, F36.binds (ps := ["_law_row", "_law_many"]) (fun _ _ _ _ _ _ us hl => match us, hl with | [_, _], _ => rfl), PySem.W.mg_of X G a36⟩
  have F37 := fun_mk (st := sPick) l37 c37 k37
  have T37 : Stands K mg "_law_pick" sPick ["_law_row", "_law_things"] := ⟨f37, _, F37, F37.binds (ps := ["_law_row", "_law_things"]) (fun _ _ _ _ _ _ us hl => match us, hl with | [_, _], _ => rfl), PySem.W.mg_of X G a37⟩
  have F38 := fun_mk (st := sDial) l38 c38 k38
  have T38 : Stands K mg "_law_dial" sDial ["_law_row", "_law_web", "_law_hours"] := ⟨f38, _, F38, F38.binds (ps := ["_law_row", "_law_web", "_law_hours"]) (fun _ _ _ _ _ _ us hl => match us, hl with | [_, _, _], _ => rfl), PySem.W.mg_of X G a38⟩
  have F39 := fun_mk (st := sLGcd) l39 c39 k39
  have T39 : Stands K mg "_law_gcd" sLGcd ["_law_one", "_law_other"] := ⟨f39, _, F39, F39.binds (ps := ["_law_one", "_law_other"]) (fun _ _ _ _ _ _ us hl => match us, hl with | [_, _], _ => rfl), PySem.W.mg_of X G a39⟩
  have F40 := fun_mk (st := sLaw) l40 c40 k40
  refine ⟨PySem.W.fnOf "law" "law" (defArgs sLaw) (defBody sLaw) (defScope sLaw) .none kV40 dc40 pm40 an40 cd40 ct40, fun s v => .of_eq rfl, fun base _ _ => ?_⟩
  have cIsIn := c_is_in (P := l.prog) (w := w) (base := base) T1 B
  have cGcd := c_gcd (P := l.prog) (w := w) (base := base) T2 B
  have cIsArrow := c_is_arrow (P := l.prog) (w := w) (base := base) T3 B cIsIn
  have cNeedWeb := c_need_web (P := l.prog) (w := w) (base := base) T4 B C cIsIn cIsArrow
  have cNeedHours := c_need_hours (P := l.prog) (w := w) (base := base) T5 C cIsIn
  have cNeedDial := c_need_dial (P := l.prog) (w := w) (base := base) T6 B cIsIn
  have cNeedAll := c_need_all (P := l.prog) (w := w) (base := base) T7 cNeedWeb cNeedHours cNeedDial
  have cNeedClock := c_need_clock (P := l.prog) (w := w) (base := base) T8 cIsIn
  have cLedFrom := c_led_from (P := l.prog) (w := w) (base := base) T9 B
  have cPartsIn := c_parts_in (P := l.prog) (w := w) (base := base) T10 B cLedFrom
  have cAboveIn := c_above_in (P := l.prog) (w := w) (base := base) T11 B cLedFrom
  have cFlowIn := c_flow_in (P := l.prog) (w := w) (base := base) T12 cAboveIn cGcd
  have cMarkOf := c_mark_of (P := l.prog) (w := w) (base := base) T13 B cFlowIn cGcd
  have cMarksIn := c_marks_in (P := l.prog) (w := w) (base := base) T14 cPartsIn cMarkOf
  have cMarks := c_marks (P := l.prog) (w := w) (base := base) T15 B cNeedAll cMarksIn
  have cCanCome := c_can_come (P := l.prog) (w := w) (base := base) T16 cNeedAll cNeedDial cMarksIn
  have cPrimeTo := c_prime_to (P := l.prog) (w := w) (base := base) T17 B
  have cWaysOf := c_ways_of (P := l.prog) (w := w) (base := base) T18 B cGcd cPrimeTo
  have cCountWith := c_count_with (P := l.prog) (w := w) (base := base) T19 cPartsIn cMarkOf cWaysOf
  have cComeCount := c_come_count (P := l.prog) (w := w) (base := base) T20 cNeedAll cCountWith
  have cAtIn := c_at_in (P := l.prog) (w := w) (base := base) T21 B cCountWith
  have cLeastCome := c_least_come (P := l.prog) (w := w) (base := base) T22 cNeedAll cAtIn
  have cGatheredIn := c_gathered_in (P := l.prog) (w := w) (base := base) T23 B cPartsIn cMarkOf
  have cGathered := c_gathered (P := l.prog) (w := w) (base := base) T24 cNeedAll cGatheredIn
  have cCountsOf := c_counts_of (P := l.prog) (w := w) (base := base) T25 B cCountWith
  have cNeedPlace := c_need_place (P := l.prog) (w := w) (base := base) T26 cNeedAll cNeedClock
  have cShown := c_shown (P := l.prog) (w := w) (base := base) T27 B cNeedPlace cCountsOf
  have cNeedWish := c_need_wish (P := l.prog) (w := w) (base := base) T28 B cIsIn cNeedAll
  have cCanMeet := c_can_meet (P := l.prog) (w := w) (base := base) T29 cNeedWish cCountWith
  have cInOrder := c_in_order (P := l.prog) (w := w) (base := base) T30 B cPartsIn cAboveIn
  have cDivisors := c_divisors (P := l.prog) (w := w) (base := base) T31 B
  have cChoices := c_choices (P := l.prog) (w := w) (base := base) T32 B cDivisors cPrimeTo
  have cClassTable := c_class_table (P := l.prog) (w := w) (base := base) T33 B cInOrder cAboveIn cChoices cGcd
  have cClassCount := c_class_count (P := l.prog) (w := w) (base := base) T34 B cNeedWeb cNeedHours cClassTable
  have cClassSizes := c_class_sizes (P := l.prog) (w := w) (base := base) T35 B cNeedWeb cNeedHours cClassTable
  have cTaken := c_taken (P := l.prog) (w := w) (base := base) T36 B
  have cPick := c_pick (P := l.prog) (w := w) (base := base) T37 B cTaken
  have cDial := c_dial (P := l.prog) (w := w) (base := base) T38 B cTaken cPick
  have cLGcd := c_lgcd (P := l.prog) (w := w) (base := base) T39 B
  exact c_law F40 B cTaken cDial cLGcd cCanCome cMarks cClassCount cClassSizes cComeCount cLeastCome cGathered cShown cCanMeet
theorem walk {l : PySem.W.OpenLaw} {q : Program} {loose : List Str} {XP : (Str → Option Value) → Heap → Prop} {YP : World → Heap → Prop} {d : DefRec} {K : Params → PySem.W.Frag} (hn : l.most = some 63) (hdf : d.params.defaults = [])
    (hY : ∀ (w : World) (h : Heap), YP w h → (K w.params).In h)
    (F : ∀ (w : World) (mg : Str → Option Value) (fa : Addr) (h : Heap), (K w.params).In h → h.Ns mainGlobals mg → mg d.name = some (.ref fa) →
      ∃ fd : FuncData, (∀ (s : Shared) (u : Value), BindsTo s fd ⟨[u], []⟩ [("_law_script", u)]) ∧ ∀ base : Heap, (K w.params).In base → base.Ns mainGlobals mg → FnOk l.prog w (K w.params) mg base CX0 8 fa fd ["_law_script"] (spLaw (K w.params))) :
    PySem.W.WalkO q loose XP YP l.row.toRowW d [] (fun f vs => PySem.call f vs) :=
  L2.walk_of (n := 63) (k := 8) (x := "_law_script") (CX := fun _ => CX0) (sp := fun w => spLaw (K w.params)) hn (by decide) hdf ⟨rfl, by decide, by decide⟩ hY F (fun _ _ a ns _ _ hS => ⟨a, ns, rfl, hS, fun _ => rfl⟩) fun _ _ _ _ _ z => z
end CK

open PySem PySem.W PyProof.Rows in
set_option maxRecDepth 100000 in
set_option maxHeartbeats 0 in
theorem PySem.Challenge.cw_clockadds_k73_across_one_part_holds : PySem.Challenge.rw_clockadds_k73_across_one_part.Holds := by
  w_on; o_law; k_head; (case hw => w_witness2)
  k_fill
  refine CK.walk (l := PySem.Challenge.rw_clockadds_k73_across_one_part) rfl rfl (fun w h Y => PySem.W.kIn_of Y) ?F
  case F =>
    intro w mg fa h KX G hmg
    refine' CK.all_mk KX G hmg ?a1 ?l1 ?c1 ?k1 ?a2 ?l2 ?c2 ?k2 ?a3 ?l3 ?c3 ?k3 ?a4 ?l4 ?c4 ?k4 ?a5 ?l5 ?c5 ?k5 ?a6 ?l6 ?c6 ?k6 ?a7 ?l7 ?c7 ?k7 ?a8 ?l8 ?c8 ?k8 ?a9 ?l9 ?c9 ?k9 ?a10 ?l10 ?c10 ?k10 ?a11 ?l11 ?c11 ?k11 ?a12 ?l12 ?c12 ?k12 ?a13 ?l13 ?c13 ?k13 ?a14 ?l14 ?c14 ?k14 ?a15 ?l15 ?c15 ?k15 ?a16 ?l16 ?c16 ?k16 ?a17 ?l17 ?c17 ?k17 ?a18 ?l18 ?c18 ?k18 ?a19 ?l19 ?c19 ?k19 ?a20 ?l20 ?c20 ?k20 ?a21 ?l21 ?c21 ?k21 ?a22 ?l22 ?c22 ?k22 ?a23 ?l23 ?c23 ?k23 ?a24 ?l24 ?c24 ?k24 ?a25 ?l25 ?c25 ?k25 ?a26 ?l26 ?c26 ?k26 ?a27 ?l27 ?c27 ?k27 ?a28 ?l28 ?c28 ?k28 ?a29 ?l29 ?c29 ?k29 ?a30 ?l30 ?c30 ?k30 ?a31 ?l31 ?c31 ?k31 ?a32 ?l32 ?c32 ?k32 ?a33 ?l33 ?c33 ?k33 ?a34 ?l34 ?c34 ?k34 ?a35 ?l35 ?c35 ?k35 ?a36 ?l36 ?c36 ?k36 ?a37 ?l37 ?c37 ?k37 ?a38 ?l38 ?c38 ?k38 ?a39 ?l39 ?c39 ?k39 ?a40 ?l40 ?c40 ?k40 ?z1 ?z2 ?z3 ?z4 ?z5 ?z6 ?z7 ?z8 ?z9 ?z10 ?z11 ?z12 ?m1 ?m2 ?m3
    (case a1 => k_is)
    (case l1 => k_is)
    (case c1 => k_is)
    (case k1 => k_is)
    (case a2 => k_is)
    (case l2 => k_is)
    (case c2 => k_is)
    (case k2 => k_is)
    (case a3 => k_is)
    (case l3 => k_is)
    (case c3 => k_is)
    (case k3 => k_is)
    (case a4 => k_is)
    (case l4 => k_is)
    (case c4 => k_is)
    (case k4 => k_is)
    (case a5 => k_is)
    (case l5 => k_is)
    (case c5 => k_is)
    (case k5 => k_is)
    (case a6 => k_is)
    (case l6 => k_is)
    (case c6 => k_is)
    (case k6 => k_is)
    (case a7 => k_is)
    (case l7 => k_is)
    (case c7 => k_is)
    (case k7 => k_is)
    (case a8 => k_is)
    (case l8 => k_is)
    (case c8 => k_is)
    (case k8 => k_is)
    (case a9 => k_is)
    (case l9 => k_is)
    (case c9 => k_is)
    (case k9 => k_is)
    (case a10 => k_is)
    (case l10 => k_is)
    (case c10 => k_is)
    (case k10 => k_is)
    (case a11 => k_is)
    (case l11 => k_is)
    (case c11 => k_is)
    (case k11 => k_is)
    (case a12 => k_is)
    (case l12 => k_is)
    (case c12 => k_is)
    (case k12 => k_is)
    (case a13 => k_is)
    (case l13 => k_is)
    (case c13 => k_is)
    (case k13 => k_is)
    (case a14 => k_is)
    (case l14 => k_is)
    (case c14 => k_is)
    (case k14 => k_is)
    (case a15 => k_is)
    (case l15 => k_is)
    (case c15 => k_is)
    (case k15 => k_is)
    (case a16 => k_is)
    (case l16 => k_is)
    (case c16 => k_is)
    (case k16 => k_is)
    (case a17 => k_is)
    (case l17 => k_is)
    (case c17 => k_is)
    (case k17 => k_is)
    (case a18 => k_is)
    (case l18 => k_is)
    (case c18 => k_is)
    (case k18 => k_is)
    (case a19 => k_is)
    (case l19 => k_is)
    (case c19 => k_is)
    (case k19 => k_is)
    (case a20 => k_is)
    (case l20 => k_is)
    (case c20 => k_is)
    (case k20 => k_is)
    (case a21 => k_is)
    (case l21 => k_is)
    (case c21 => k_is)
    (case k21 => k_is)
    (case a22 => k_is)
    (case l22 => k_is)
    (case c22 => k_is)
    (case k22 => k_is)
    (case a23 => k_is)
    (case l23 => k_is)
    (case c23 => k_is)
    (case k23 => k_is)
    (case a24 => k_is)
    (case l24 => k_is)
    (case c24 => k_is)
    (case k24 => k_is)
    (case a25 => k_is)
    (case l25 => k_is)
    (case c25 => k_is)
    (case k25 => k_is)
    (case a26 => k_is)
    (case l26 => k_is)
    (case c26 => k_is)
    (case k26 => k_is)
    (case a27 => k_is)
    (case l27 => k_is)
    (case c27 => k_is)
    (case k27 => k_is)
    (case a28 => k_is)
    (case l28 => k_is)
    (case c28 => k_is)
    (case k28 => k_is)
    (case a29 => k_is)
    (case l29 => k_is)
    (case c29 => k_is)
    (case k29 => k_is)
    (case a30 => k_is)
    (case l30 => k_is)
    (case c30 => k_is)
    (case k30 => k_is)
    (case a31 => k_is)
    (case l31 => k_is)
    (case c31 => k_is)
    (case k31 => k_is)
    (case a32 => k_is)
    (case l32 => k_is)
    (case c32 => k_is)
    (case k32 => k_is)
    (case a33 => k_is)
    (case l33 => k_is)
    (case c33 => k_is)
    (case k33 => k_is)
    (case a34 => k_is)
    (case l34 => k_is)
    (case c34 => k_is)
    (case k34 => k_is)
    (case a35 => k_is)
    (case l35 => k_is)
    (case c35 => k_is)
    (case k35 => k_is)
    (case a36 => k_is)
    (case l36 => k_is)
    (case c36 => k_is)
    (case k36 => k_is)
    (case a37 => k_is)
    (case l37 => k_is)
    (case c37 => k_is)
    (case k37 => k_is)
    (case a38 => k_is)
    (case l38 => k_is)
    (case c38 => k_is)
    (case k38 => k_is)
    (case a39 => k_is)
    (case l39 => k_is)
    (case c39 => k_is)
    (case k39 => k_is)
    (case a40 => k_is)
    (case l40 => k_is)
    (case c40 => k_is)
    (case k40 => k_is)
    (case z1 => k_is)
    (case z2 => k_is)
    (case z3 => k_is)
    (case z4 => k_is)
    (case z5 => k_is)
    (case z6 => k_is)
    (case z7 => k_is)
    (case z8 => k_is)
    (case z9 => k_is)
    (case z10 => k_is)
    (case z11 => k_is)
    (case z12 => k_is)
    (case m1 => k_is)
    (case m2 => k_is)
    (case m3 => k_is)
