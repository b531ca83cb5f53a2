import PyProof.Rows.All
import Wide.All
import OpenK.KMeth
import OpenK.KCell
import OpenK.AllK
import KE.KEqDict
import KE.KDictLaws
import KE.KItem
import KE.KUnpack
import Wide.FinOn
import PySem.Challenge.RW_rg0212_01
set_option Elab.async false
set_option maxRecDepth 100000
set_option maxHeartbeats 32000000
set_option linter.unusedVariables false
set_option linter.unusedSectionVars false
set_option linter.all false
namespace Mine
open PySem PySem.Calls PyProof.Rows PySem.W

/-! part MA0 -/
abbrev tupObj (vs : List Value) (n : Nat) : Obj := { cls := .type "tuple", data := .seq vs.toArray n }
abbrev BK := Str × Int × Int
/-- a key of Bank.make: (op, (), sort, data) -/
def IsBK (h : Heap) (k : BK) (a : Addr) : Prop :=
  ∃ t b u v n n', h.get? a = some (tupObj [.str k.1 t, .ref b, .int k.2.1 u, .int k.2.2 v] n) ∧ h.get? b = some (tupObj [] n')

theorem IsBK.typeIs {s : Shared} {k : BK} {a : Addr} (x : IsBK s.heap k a) : s.TypeIs (.ref a) "tuple" := let ⟨_, _, _, _, _, _, h, _⟩ := x; ⟨_, h, rfl⟩
theorem IsBK.inj {h : Heap} {a : Addr} {x y : BK} (hx : IsBK h x a) (hy : IsBK h y a) : x = y := by
  obtain ⟨t, b, u, v, n, n', e, _⟩ := hx
  obtain ⟨t', b', u', v', m, m', e', _⟩ := hy
  rw [e] at e'
  injection e' with e'
  injection e' with _ _ e3
  injection e3 with e4
  injection e4 with e5
  injection e5 with a1 e6
  injection e6 with a2 e7
  injection e7 with a3 e8
  injection e8 with a4 _
  injection a1 with a1
  injection a3 with a3
  injection a4 with a4
  exact Prod.ext a1 (Prod.ext a3 a4)
theorem IsBK.mono {h h' : Heap} {k : BK} {a : Addr} (x : IsBK h k a) (kp : ∀ a vs n, h.get? a = some (tupObj vs n) → h'.get? a = some (tupObj vs n)) : IsBK h' k a := by
  obtain ⟨t, b, u, v, n, n', e, e'⟩ := x
  exact ⟨t, b, u, v, n, n', kp _ _ _ e, kp _ _ _ e'⟩

section
variable {prog : Program} {w : World} {A : Around} {E : Value → Shared → Prop} {s : Shared}
theorem empty_key {h : Heap} {b : Addr} {n : Nat} (e : h.get? b = some (tupObj [] n)) : IsTupleKey (intKind prog w) h [] b := ⟨_, _, n, e, rfl, rfl, .nil⟩
def hash0 (prog : Program) (w : World) : Int := tupleKeyHash (intKind prog w) []
def hashBK (prog : Program) (w : World) (k : BK) : Int := reduceHash (Builtin.Tuple.tupleHashOf [hashStr w k.1, hash0 prog w, hashInt k.2.1, hashInt k.2.2])
theorem pyHash_BK {k : BK} {a : Addr} {Q : Int → Shared → Prop} (hu : A.units + 20 < cLine) (hk : IsBK s.heap k a) (h : Q (hashBK prog w k) { s with toks := s.toks + 5 }) : wpAny (model prog w) A (PySem.pyHash (.ref a)) Q E s := by
  have hT := hk.typeIs
  obtain ⟨t, b, u, v, n, n', ho, hb⟩ := hk
  unfold pyHash
  unfold pyHashByItsType
  refine wpAny_bind (wpAny_cRoomFor_or (.inr (by omega)) ?_)
  refine wpAny_bind (wpAny_specialOf hT F.slot_tuple_hash.lookup ?_)
  show wpAny _ _ (if (some (Value.builtin "tuple.__hash__") == some Value.none) = true then _ else _) Q E s
  rw [if_neg (by rw [beq_builtin_none]; exact Bool.false_ne_true)]
  refine wpAny_bind (wpAny_specialOf hT F.slot_tuple_hash.lookup ?_)
  show wpAny _ _ (callSpecialIfBoundUnlessNone? (.ref a) "__hash__" _ >>= _) Q E s
  refine wpAny_bind (wpAny_callSpecialIfBoundUnlessNone?_slot hT F.slot_tuple_hash (wpAny_call_entry F.slot_tuple_hash hT F.entry_tuple_hash ?_ (F.args_tuple_hash_1 _)))
  show wpAny _ _ (Builtin.Tuple.tupleItemsOf (.ref a) >>= _) _ _ s
  refine wpAny_bind (wpAny_tupleItemsOf ho rfl ?_)
  refine wpAny_bind ?_
  rw [← Array.forIn_toList]
  show wpAny _ _ (forIn [Value.str k.1 t, .ref b, .int k.2.1 u, .int k.2.2 v] _ _) _ _ _
  rw [List.forIn_cons]
  refine wpAny_bind (wpAny_bind (wpAny_pyHash_str (wpAny_pure ?_)))
  dsimp only
  rw [List.forIn_cons]
  refine wpAny_bind (wpAny_bind (wpAny_pyHash_tuple (knd := intKind prog w) (ks := []) (s := { s with toks := s.toks + 1 }) ?_ (empty_key hb) (wpAny_pure ?_)))
  · show A.units + 1 < cLine; omega
  dsimp only
  rw [List.forIn_cons]
  refine wpAny_bind (wpAny_bind (wpAny_pyHash_int (wpAny_pure ?_)))
  dsimp only
  rw [List.forIn_cons]
  refine wpAny_bind (wpAny_bind (wpAny_pyHash_int (wpAny_pure ?_)))
  dsimp only
  rw [List.forIn_nil]
  refine wpAny_pure ?_
  show wpAny _ _ (retInt (Builtin.Tuple.tupleHashOf [hashStr w k.1, hash0 prog w, hashInt k.2.1, hashInt k.2.2])) _ _ _
  refine wpAny_ret_mkInt ?_
  unfold hashBK reduceHash at h
  generalize Builtin.Tuple.tupleHashOf [hashStr w k.1, hash0 prog w, hashInt k.2.1, hashInt k.2.2] = z at h ⊢
  show wpAny _ _ (if (decide (-(2 : Int) ^ 63 ≤ z) && decide (z < 2 ^ 63)) = true then _ else _) Q E _
  by_cases hr : (decide (-(2 : Int) ^ 63 ≤ z) && decide (z < 2 ^ 63)) = true
  · rw [if_pos hr]
    rw [if_pos hr] at h
    exact wpAny_pure h
  · rw [if_neg hr]
    rw [if_neg hr] at h
    exact wpAny_bind (wpAny_rule (wpAny_pure h))
theorem eqBool_BK {x y : BK} {a b : Addr} {Q : Bool → Shared → Prop} (hu : A.units + 20 < cLine) (hx : IsBK s.heap x a) (hy : IsBK s.heap y b) (h : Q (decide (x = y)) s) : wpAny (model prog w) A (PySem.eqBool (.ref a) (.ref b)) Q E s := by
  by_cases hab : a = b
  · subst hab
    obtain rfl := hx.inj hy
    exact SeqAt.EqAt.same (A := A) (s := s) (.ref a) prog w E Q (by simpa using h)
  obtain ⟨t, c, u, v, n, n', ho, hc⟩ := hx
  obtain ⟨t', c', u', v', m, m', ho', hc'⟩ := hy
  have e0 : SeqAt.EqAt A.in1 s (.ref c) (.ref c') true := by
    by_cases hcc : c = c'
    · subst hcc; exact SeqAt.EqAt.same _
    · refine SeqAt.EqAt.of_refs hcc ?_
      have := SeqAt.RcAt.tuples (A := A.in1) (s := s) (e := fun _ => true) ⟨_, hc, rfl, n', rfl⟩ ⟨_, hc', rfl, m', rfl⟩ (by show A.units + 1 < _; omega) (fun j h1 h2 => by simp at h1)
      exact this
  have e1 := (SeqRoads2.EqGives.str x.1 y.1 t t').at A.in1 s
  have e2 := (MeetsSeq.EqGives.int x.2.1 y.2.1 u u').at A.in1 s
  have e3 := (MeetsSeq.EqGives.int x.2.2 y.2.2 v v').at A.in1 s
  refine SeqAt.EqAt.of_refs hab (k := decide (x = y)) ?_ prog w E Q h
  have := SeqAt.RcAt.tuples (A := A) (s := s) (e := fun j => match j with | 0 => x.1.cps.toList == y.1.cps.toList | 1 => true | 2 => x.2.1 == y.2.1 | _ => x.2.2 == y.2.2) ⟨_, ho, rfl, n, rfl⟩ ⟨_, ho', rfl, m, rfl⟩ (by omega) (fun j h1 h2 => by
    match j, h1 with
    | 0, _ => exact e1
    | 1, _ => exact e0
    | 2, _ => exact e2
    | 3, _ => exact e3
    | j + 4, h1 => simp at h1; omega)
  refine Eq.mp ?_ this
  congr 1
  have er : (List.range (min [Value.str x.1 t, .ref c, .int x.2.1 u, .int x.2.2 v].toArray.size [Value.str y.1 t', .ref c', .int y.2.1 u', .int y.2.2 v'].toArray.size)) = [0, 1, 2, 3] := rfl
  rw [er]
  obtain ⟨⟨x1⟩, x2, x3⟩ := x
  obtain ⟨⟨y1⟩, y2, y3⟩ := y
  simp only [List.all_cons, List.all_nil, Bool.and_true, Bool.true_and]
  show ((x1.toList == y1.toList) && ((x2 == y2) && (x3 == y3)) && true) = _
  rw [Bool.and_true, Bool.eq_iff_iff]
  simp only [Bool.and_eq_true, beq_iff_eq, decide_eq_true_eq, Prod.mk.injEq, Str.mk.injEq]
  constructor
  · rintro ⟨p, q, r⟩
    exact ⟨by cases x1; cases y1; simpa using p, q, r⟩
  · rintro ⟨p, q, r⟩
    exact ⟨by rw [p], q, r⟩
theorem quiet0 {b : Addr} {n' : Nat} {Q : Bool → Shared → Prop} (hb : s.heap.get? b = some (tupObj [] n')) (h : Q true s) : wpAny (model prog w) A (eqIsQuiet 7 (.ref b)) Q E s := by
  have hTb : s.TypeIs (.ref b) "tuple" := ⟨_, hb, rfl⟩
  unfold eqIsQuiet
  refine wpAny_bind (wpAny_specialOf hTb F.slot_tuple_eq.lookup ?_)
  show wpAny _ _ (isInstance (.ref b) (.type "tuple") >>= _) _ _ s
  refine wpAny_bind (wpAny_isInstance hTb isSubtype_tuple_tuple ?_)
  simp only [Bool.not_true, Bool.false_eq_true, if_false]
  refine wpAny_bind (wpAny_seqItems hb rfl ?_)
  refine wpAny_bind ?_
  show wpAny _ _ (forIn ([] : List Value).toArray _ _) _ _ s
  rw [← Array.forIn_toList]
  show wpAny _ _ (forIn ([] : List Value) _ _) _ _ _
  rw [List.forIn_nil]
  exact wpAny_pure (wpAny_pure h)
theorem quiet_BK {k : BK} {a : Addr} {Q : Bool → Shared → Prop} (hk : IsBK s.heap k a) (h : Q true s) : wpAny (model prog w) A (eqIsQuiet 8 (.ref a)) Q E s := by
  have hT := hk.typeIs
  obtain ⟨t, b, u, v, n, n', ho, hb⟩ := hk
  unfold eqIsQuiet
  refine wpAny_bind (wpAny_specialOf hT F.slot_tuple_eq.lookup ?_)
  show wpAny _ _ (isInstance (.ref a) (.type "tuple") >>= _) _ _ s
  refine wpAny_bind (wpAny_isInstance hT isSubtype_tuple_tuple ?_)
  simp only [Bool.not_true, Bool.false_eq_true, if_false]
  refine wpAny_bind (wpAny_seqItems ho rfl ?_)
  refine wpAny_bind ?_
  show wpAny _ _ (forIn [Value.str k.1 t, .ref b, .int k.2.1 u, .int k.2.2 v].toArray _ _) _ _ s
  rw [← Array.forIn_toList]
  show wpAny _ _ (forIn [Value.str k.1 t, .ref b, .int k.2.1 u, .int k.2.2 v] _ _) _ _ _
  rw [List.forIn_cons, eqIsQuiet_byValue _ rfl]
  refine wpAny_bind (wpAny_bind (wpAny_pure ?_))
  simp only [Bool.not_true, Bool.false_eq_true, if_false]
  refine wpAny_pure ?_
  dsimp only
  rw [List.forIn_cons]
  refine wpAny_bind (wpAny_bind ?_)
  refine quiet0 hb ?_
  simp only [Bool.not_true, Bool.false_eq_true, if_false]
  refine wpAny_pure ?_
  dsimp only
  rw [List.forIn_cons, eqIsQuiet_byValue _ rfl]
  refine wpAny_bind (wpAny_bind (wpAny_pure ?_))
  simp only [Bool.not_true, Bool.false_eq_true, if_false]
  refine wpAny_pure ?_
  dsimp only
  rw [List.forIn_cons, eqIsQuiet_byValue _ rfl]
  refine wpAny_bind (wpAny_bind (wpAny_pure ?_))
  simp only [Bool.not_true, Bool.false_eq_true, if_false]
  refine wpAny_pure ?_
  dsimp only
  rw [List.forIn_nil]
  exact wpAny_pure (wpAny_pure h)
end
def bankKind (prog : Program) (w : World) : HeapKind prog w BK where
  is := IsBK
  hash := hashBK prog w
  draws := fun _ => 5
  room := fun A => A.units + 20 < cLine
  inj := fun hx hy => hx.inj hy
  keeps := fun x ho hd hs => x.mono fun a vs n e => hs.extBut a _ (fun q => by subst q; rw [ho] at e; injection e with e; subst e; cases hd) e
  pyHash := fun hu hk h => pyHash_BK hu hk h
  eqBool := fun hu hx hy h => eqBool_BK hu hx hy h
  quiet := fun hk h => quiet_BK hk h

/-! part MA -/
inductive AV where
  | none | bool (b : Bool) | int (i : Int) | str (s : Str) | ref (a : Addr) | tup (l : List AV) | con (v : Value)

abbrev listObj (vs : List Value) (n : Nat) : Obj := { cls := .type "list", data := .seq vs.toArray n }

def notRef : Value → Bool
  | .ref _ => false
  | _ => true

mutual
inductive Rep (h : Heap) : Value → AV → Prop
  | none : Rep h .none .none
  | bool (b : Bool) : Rep h (.bool b) (.bool b)
  | int (i : Int) (t : Tok) : Rep h (.int i t) (.int i)
  | str (x : Str) (t : Tok) : Rep h (.str x t) (.str x)
  | ref (a : Addr) : Rep h (.ref a) (.ref a)
  | con (v : Value) (e : notRef v = true) : Rep h v (.con v)
  | tup {a : Addr} {n : Nat} {vs : List Value} {l : List AV} : h.get? a = some (tupObj vs n) → Reps h vs l → Rep h (.ref a) (.tup l)
inductive Reps (h : Heap) : List Value → List AV → Prop
  | nil : Reps h [] []
  | cons {v : Value} {x : AV} {vs : List Value} {l : List AV} : Rep h v x → Reps h vs l → Reps h (v :: vs) (x :: l)
end

def TupKeep (h h' : Heap) : Prop := ∀ a vs n, h.get? a = some (tupObj vs n) → h'.get? a = some (tupObj vs n)
theorem TupKeep.refl (h : Heap) : TupKeep h h := fun _ _ _ e => e
theorem TupKeep.trans {a b c : Heap} (x : TupKeep a b) (y : TupKeep b c) : TupKeep a c := fun _ _ _ e => y _ _ _ (x _ _ _ e)
theorem TupKeep.push (h : Heap) (o : Obj) : TupKeep h (h.push o) := fun _ _ _ e => Heap.get?_push_of_some _ e

mutual
theorem Rep.mono {h h' : Heap} (k : TupKeep h h') : ∀ {v : Value} {x : AV}, Rep h v x → Rep h' v x
  | _, _, .none => .none
  | _, _, .bool b => .bool b
  | _, _, .int i t => .int i t
  | _, _, .str x t => .str x t
  | _, _, .ref a => .ref a
  | _, _, .con v e => .con v e
  | _, _, .tup e r => .tup (k _ _ _ e) (Reps.mono k r)
theorem Reps.mono {h h' : Heap} (k : TupKeep h h') : ∀ {vs : List Value} {l : List AV}, Reps h vs l → Reps h' vs l
  | _, _, .nil => .nil
  | _, _, .cons a b => .cons (Rep.mono k a) (Reps.mono k b)
end

theorem Reps.length {h : Heap} : ∀ {vs : List Value} {l : List AV}, Reps h vs l → vs.length = l.length
  | _, _, .nil => rfl
  | _, _, .cons _ b => by simp only [List.length_cons, Reps.length b]
theorem Reps.get {h : Heap} : ∀ {vs : List Value} {l : List AV}, Reps h vs l → ∀ {i : Nat} {x : AV}, l[i]? = some x → ∃ v, vs[i]? = some v ∧ Rep h v x
  | _, _, .nil, i, x, e => by simp at e
  | _, _, .cons a b, 0, x, e => by simp at e; subst e; exact ⟨_, rfl, a⟩
  | _, _, .cons a b, i + 1, x, e => by simp only [List.getElem?_cons_succ] at e ⊢; exact Reps.get b e
theorem Reps.append {h : Heap} : ∀ {vs : List Value} {l : List AV} {ws : List Value} {m : List AV}, Reps h vs l → Reps h ws m → Reps h (vs ++ ws) (l ++ m)
  | _, _, _, _, .nil, y => y
  | _, _, _, _, .cons a b, y => .cons a (Reps.append b y)
theorem Reps.take {h : Heap} : ∀ {vs : List Value} {l : List AV}, Reps h vs l → ∀ n, Reps h (vs.take n) (l.take n)
  | _, _, .nil, n => by simp; exact .nil
  | _, _, .cons a b, 0 => by simp; exact .nil
  | _, _, .cons a b, n + 1 => by simp only [List.take_succ_cons]; exact .cons a (Reps.take b n)
theorem Reps.drop {h : Heap} : ∀ {vs : List Value} {l : List AV}, Reps h vs l → ∀ n, Reps h (vs.drop n) (l.drop n)
  | _, _, .nil, n => by simp; exact .nil
  | _, _, .cons a b, 0 => by simp; exact .cons a b
  | _, _, .cons a b, n + 1 => by simp only [List.drop_succ_cons]; exact Reps.drop b n
theorem Reps.set {h : Heap} : ∀ {vs : List Value} {l : List AV}, Reps h vs l → ∀ n {v : Value} {x : AV}, Rep h v x → Reps h (vs.set n v) (l.set n x)
  | _, _, .nil, n, _, _, _ => by simp; exact .nil
  | _, _, .cons a b, 0, _, _, r => by simp; exact .cons r b
  | _, _, .cons a b, n + 1, _, _, r => by simp only [List.set_cons_succ]; exact .cons a (Reps.set b n r)
theorem Reps.eraseIdx {h : Heap} : ∀ {vs : List Value} {l : List AV}, Reps h vs l → ∀ n, Reps h (vs.eraseIdx n) (l.eraseIdx n)
  | _, _, .nil, n => by simp; exact .nil
  | _, _, .cons a b, 0 => by simp; exact b
  | _, _, .cons a b, n + 1 => by simp only [List.eraseIdx_cons_succ]; exact .cons a (Reps.eraseIdx b n)

/-- pairs with keys of a kind -/
inductive RepsK {K : Type} (h : Heap) : List (K × Value) → List (K × AV) → Prop
  | nil : RepsK h [] []
  | cons {k : K} {v : Value} {x : AV} {vs : List (K × Value)} {l : List (K × AV)} : Rep h v x → RepsK h vs l → RepsK h ((k, v) :: vs) ((k, x) :: l)
theorem RepsK.mono {K : Type} {h h' : Heap} (k : TupKeep h h') {vs : List (K × Value)} {l : List (K × AV)} (x : RepsK h vs l) : RepsK h' vs l := by
  induction x with
  | nil => exact .nil
  | cons a _ ih => exact .cons (a.mono k) ih

inductive AO where
  | list (l : List AV)
  | dictI (l : List (Int × AV))
  | dictS (l : List (Str × AV))
  | dictT (l : List BK)
  | cell (v : Option AV)
  | ns (m : Str → Option AV)
  | inst (m : Str → Option AV) (k : Nat)
  | iter (l : Addr) (i : Nat)
  | riter (x left step : Int)
  | raw (o : Obj)

abbrev Cells := List (Addr × AO)

inductive OptRep (h : Heap) : Option Value → Option AV → Prop
  | none : OptRep h .none .none
  | some {v : Value} {x : AV} : Rep h v x → OptRep h (.some v) (.some x)
theorem OptRep.mono {h h' : Heap} (k : TupKeep h h') {v : Option Value} {x : Option AV} (r : OptRep h v x) : OptRep h' v x := by
  cases r with
  | none => exact .none
  | some r => exact .some (r.mono k)

section
variable {prog : Program} {w : World}

def At (prog : Program) (w : World) (h : Heap) (a : Addr) : AO → Prop
  | .list l => ∃ vs n, h.get? a = some (listObj vs n) ∧ Reps h vs l
  | .dictI l => ∃ kvs, h.DictOf (intKind prog w) a kvs ∧ RepsK h kvs l
  | .dictS l => ∃ kvs, h.DictOf (strKind prog w) a kvs ∧ RepsK h kvs l
  | .dictT l => ∃ xs, h.DictOfH (bankKind prog w) a xs ∧ xs.map (·.1) = l
  | .cell v => ∃ o x, h.get? a = some o ∧ o.data = .cell x ∧ (∀ y, v = some y → ∃ z, x = some z ∧ Rep h z y)
  | .ns m => ∃ mc, h.Ns a mc ∧ ∀ x, OptRep h (mc x) (m x)
  | .inst m k => ∃ (mc : Str → Option Value) (o : Obj) (es : Array DictEntry) (ep : Nat), h.get? a = some o ∧ o.data = .dict es ep ∧ StrKeys es ∧ (∀ x, nsFind es x = mc x) ∧ (∀ x, OptRep h (mc x) (m x)) ∧ es.size ≤ k
  | .iter l i => h.IsListIter a l i
  | .riter x left step => IsRangeIter h a x left step
  | .raw o => h.get? a = some o

theorem At.lt {h : Heap} {a : Addr} {x : AO} (c : At prog w h a x) : a < h.objs.size := by
  cases x with
  | list l => obtain ⟨vs, n, e, _⟩ := c; exact Heap.lt_size e
  | dictI l => obtain ⟨_, ⟨o, es, ep, e, _⟩, _⟩ := c; exact Heap.lt_size e
  | dictS l => obtain ⟨_, ⟨o, es, ep, e, _⟩, _⟩ := c; exact Heap.lt_size e
  | dictT l => obtain ⟨xs, ⟨o, es, ep, e, _⟩, _⟩ := c; exact Heap.lt_size e
  | cell v => obtain ⟨o, x, e, _⟩ := c; exact Heap.lt_size e
  | ns m => obtain ⟨mc, e, _⟩ := c; exact e.lt
  | inst m k => obtain ⟨mc, o, es, ep, e, _⟩ := c; exact Heap.lt_size e
  | iter l i => obtain ⟨o, e, _⟩ := c; exact Heap.lt_size e
  | riter x left step => exact Heap.lt_size c
  | raw o => exact Heap.lt_size c

theorem Heap.DictOf.at' {K : Type} [DecidableEq K] {knd : KeyKind prog w K} {h h' : Heap} {a : Addr} {kvs : List (K × Value)} (x : h.DictOf knd a kvs) (k : ∀ o, h.get? a = some o → h'.get? a = some o) : h'.DictOf knd a kvs :=
  let ⟨o, es, ep, ho, r⟩ := x; ⟨o, es, ep, k o ho, r⟩

theorem At.mono {h h' : Heap} {a : Addr} {x : AO} (c : At prog w h a x) (k : ∀ o, h.get? a = some o → h'.get? a = some o) (tk : TupKeep h h') : At prog w h' a x := by
  cases x with
  | list l => obtain ⟨vs, n, e, r⟩ := c; exact ⟨vs, n, k _ e, r.mono tk⟩
  | dictI l => obtain ⟨kvs, e, r⟩ := c; exact ⟨kvs, Heap.DictOf.at' e k, r.mono tk⟩
  | dictS l => obtain ⟨kvs, e, r⟩ := c; exact ⟨kvs, Heap.DictOf.at' e k, r.mono tk⟩
  | dictT l => obtain ⟨xs, ⟨o, es, ep, e, r1, r2, r3, r4, r5⟩, r⟩ := c; exact ⟨xs, ⟨o, es, ep, k _ e, r1, r2, r3, fun x hx => IsBK.mono (r4 x hx) tk, r5⟩, r⟩
  | cell v => obtain ⟨o, x, e, r1, r2⟩ := c; exact ⟨o, x, k _ e, r1, fun y hy => let ⟨z, e, r⟩ := r2 y hy; ⟨z, e, r.mono tk⟩⟩
  | ns m => obtain ⟨mc, ⟨o, es, ep, e, q⟩, r⟩ := c; exact ⟨mc, ⟨o, es, ep, k _ e, q⟩, fun x => (r x).mono tk⟩
  | inst m k' => obtain ⟨mc, o, es, ep, e, q1, q2, q3, r, q4⟩ := c; exact ⟨mc, o, es, ep, k _ e, q1, q2, q3, fun x => (r x).mono tk, q4⟩
  | iter l i => obtain ⟨o, e, r⟩ := c; exact ⟨o, k _ e, r⟩
  | riter x left step => exact k _ c
  | raw o => exact k _ c

def AO.isRaw : AO → Bool
  | .raw _ => true
  | _ => false

theorem At.notTup {h : Heap} {a : Addr} {x : AO} (c : At prog w h a x) (hr : x.isRaw = false) : ∀ vs n, h.get? a ≠ some (tupObj vs n) := by
  intro vs n e
  cases x with
  | list l => obtain ⟨vs', n', e', _⟩ := c; rw [e'] at e; injection e with e; injection e with e1; injection e1 with e2; revert e2; decide
  | dictI l => obtain ⟨_, ⟨o, es, ep, e', _, hd, _⟩, _⟩ := c; rw [e'] at e; injection e with e; subst e; cases hd
  | dictS l => obtain ⟨_, ⟨o, es, ep, e', _, hd, _⟩, _⟩ := c; rw [e'] at e; injection e with e; subst e; cases hd
  | dictT l => obtain ⟨xs, ⟨o, es, ep, e', _, hd, _⟩, _⟩ := c; rw [e'] at e; injection e with e; subst e; cases hd
  | cell v => obtain ⟨o, x, e', hd, _⟩ := c; rw [e'] at e; injection e with e; subst e; cases hd
  | ns m => obtain ⟨mc, ⟨o, es, ep, e', hd, _⟩, _⟩ := c; rw [e'] at e; injection e with e; subst e; cases hd
  | inst m k => obtain ⟨mc, o, es, ep, e', hd, _⟩ := c; rw [e'] at e; injection e with e; subst e; cases hd
  | iter l i => obtain ⟨o, e', hc, hd⟩ := c; rw [e'] at e; injection e with e; subst e; cases hd
  | riter x left step => have c' : h.get? a = _ := c; rw [c'] at e; injection e with e; injection e with e1 e2 e3; cases e3
  | raw o => cases hr

structure Sat (prog : Program) (w : World) (base : Heap) (s₀ : Shared) (H : Cells) (s : Shared) : Prop where
  keep : ∀ b o, base.get? b = some o → s.heap.get? b = some o
  nd : (H.map (·.1)).Nodup
  at_ : ∀ c ∈ H, At prog w s.heap c.1 c.2 ∧ base.get? c.1 = none
  gens : s.gens = s₀.gens
  drawn : s.drawn = s₀.drawn
  os : s.os = s₀.os

variable {base : Heap} {s₀ s : Shared} {H H' : Cells}

theorem Sat.toks (x : Sat prog w base s₀ H s) (t : Nat) : Sat prog w base s₀ H { s with toks := t } := ⟨x.keep, x.nd, x.at_, x.gens, x.drawn, x.os⟩
theorem Sat.fresh (x : Sat prog w base s₀ H s) : s.heap.objs.size ∉ H.map (·.1) := fun m => by
  obtain ⟨c, hc, e⟩ := List.mem_map.mp m
  exact Nat.lt_irrefl _ (e ▸ (x.at_ c hc).1.lt)
theorem Sat.baseFresh (x : Sat prog w base s₀ H s) : base.get? s.heap.objs.size = none := by
  cases e : base.get? s.heap.objs.size with
  | none => rfl
  | some o => exact absurd (Heap.lt_size (x.keep _ _ e)) (Nat.lt_irrefl _)
/-- an object made, not a cell -/
theorem Sat.push (x : Sat prog w base s₀ H s) (o : Obj) (t : Nat) : Sat prog w base s₀ H { s with heap := s.heap.push o, toks := t } where
  keep := fun b o e => Heap.get?_push_of_some _ (x.keep b o e)
  nd := x.nd
  at_ := fun c hc => ⟨(x.at_ c hc).1.mono (fun _ e => Heap.get?_push_of_some _ e) (TupKeep.push _ _), (x.at_ c hc).2⟩
  gens := x.gens
  drawn := x.drawn
  os := x.os
/-- an object made that is a cell -/
theorem Sat.new (x : Sat prog w base s₀ H s) (o : Obj) (t : Nat) {y : AO} (hy : At prog w (s.heap.push o) s.heap.objs.size y) : Sat prog w base s₀ ((s.heap.objs.size, y) :: H) { s with heap := s.heap.push o, toks := t } where
  keep := (x.push o t).keep
  nd := List.nodup_cons.mpr ⟨x.fresh, x.nd⟩
  at_ := fun c hc => by
    rcases List.mem_cons.mp hc with rfl | hc
    · exact ⟨hy, x.baseFresh⟩
    · exact (x.push o t).at_ c hc
  gens := x.gens
  drawn := x.drawn
  os := x.os
/-- all but one object stand (it is no cell) -/
theorem Sat.ext (x : Sat prog w base s₀ H s) {a : Addr} {h' : Heap} (t : Nat) (hs : Heap.ExtBut a s.heap h') (ha : a ∉ H.map (·.1)) (hb : base.get? a = none) (ht : ∀ vs n, s.heap.get? a ≠ some (tupObj vs n)) :
    Sat prog w base s₀ H { s with heap := h', toks := t } ∧ TupKeep s.heap h' := by
  have tk : TupKeep s.heap h' := fun b vs n e => hs b _ (fun q => ht vs n (q ▸ e)) e
  refine ⟨⟨fun b o e => hs b o (fun q => ?_) (x.keep b o e), x.nd, fun c hc => ⟨(x.at_ c hc).1.mono (fun o e => hs _ o (fun q => ha (q ▸ List.mem_map_of_mem hc)) e) tk, (x.at_ c hc).2⟩, x.gens, x.drawn, x.os⟩, tk⟩
  rw [q, hb] at e; cases e

inductive Put (a : Addr) (x y : AO) : Cells → Cells → Prop
  | head {r : Cells} : Put a x y ((a, x) :: r) ((a, y) :: r)
  | tail {p : Addr × AO} {r r' : Cells} : Put a x y r r' → Put a x y (p :: r) (p :: r')
theorem Put.mem {a : Addr} {x y : AO} (p : Put a x y H H') : (a, x) ∈ H := by
  induction p with
  | head => exact .head _
  | tail _ ih => exact .tail _ ih
theorem Put.keys {a : Addr} {x y : AO} (p : Put a x y H H') : H'.map (·.1) = H.map (·.1) := by
  induction p with
  | head => rfl
  | tail _ ih => simp only [List.map_cons, ih]
theorem Put.back {a : Addr} {x y : AO} (p : Put a x y H H') (nd : (H.map (·.1)).Nodup) : ∀ c ∈ H', c = (a, y) ∨ (c ∈ H ∧ c.1 ≠ a) := by
  induction p with
  | head =>
    intro c hc
    rcases List.mem_cons.mp hc with rfl | hc
    · exact .inl rfl
    · refine .inr ⟨.tail _ hc, fun e => ?_⟩
      simp only [List.map_cons, List.nodup_cons] at nd
      exact nd.1 (e ▸ List.mem_map_of_mem hc)
  | tail q ih =>
    rename_i p r r'
    intro c hc
    simp only [List.map_cons, List.nodup_cons] at nd
    rcases List.mem_cons.mp hc with rfl | hc
    · refine .inr ⟨.head _, fun e => nd.1 ?_⟩
      rw [e]
      exact List.mem_map_of_mem q.mem
    · rcases ih nd.2 c hc with e | ⟨m, n⟩
      · exact .inl e
      · exact .inr ⟨.tail _ m, n⟩

/-- one cell turned -/
theorem Sat.put (X : Sat prog w base s₀ H s) {a : Addr} {x y : AO} (p : Put a x y H H') {h' : Heap} (t : Nat) (hs : Heap.ExtBut a s.heap h') (hr : x.isRaw = false)
    (hy : TupKeep s.heap h' → At prog w h' a y) : Sat prog w base s₀ H' { s with heap := h', toks := t } ∧ TupKeep s.heap h' := by
  have hx := X.at_ _ p.mem
  have tk : TupKeep s.heap h' := fun b vs n e => hs b _ (fun q => hx.1.notTup hr vs n (q ▸ e)) e
  refine ⟨⟨fun b o e => hs b o (fun q => ?_) (X.keep b o e), p.keys ▸ X.nd, fun c hc => ?_, X.gens, X.drawn, X.os⟩, tk⟩
  · have h2 := hx.2; rw [q] at e; dsimp only at h2; rw [h2] at e; cases e
  · rcases p.back X.nd c hc with rfl | ⟨m, n⟩
    · exact ⟨hy tk, hx.2⟩
    · exact ⟨(X.at_ c m).1.mono (fun o e => hs _ o n e) tk, (X.at_ c m).2⟩

/-- cells dropped, and in another order -/
def Less (H H' : Cells) : Prop := ∃ r, H.Perm (H' ++ r)
theorem Less.refl (H : Cells) : Less H H := ⟨[], by simp⟩
theorem Less.drop {c : Addr × AO} (x : Less H H') : Less (c :: H) H' := let ⟨r, p⟩ := x; ⟨c :: r, (List.Perm.cons c p).trans List.perm_middle.symm⟩
inductive Pick (c : Addr × AO) : Cells → Cells → Prop
  | head {r : Cells} : Pick c (c :: r) r
  | tail {p : Addr × AO} {r r' : Cells} : Pick c r r' → Pick c (p :: r) (p :: r')
theorem Pick.perm {c : Addr × AO} (p : Pick c H H') : H.Perm (c :: H') := by
  induction p with
  | head => exact .refl _
  | tail _ ih => exact (List.Perm.cons _ ih).trans (.swap _ _ _)
theorem Less.pick {c : Addr × AO} {H₁ : Cells} (p : Pick c H H₁) (x : Less H₁ H') : Less H (c :: H') := let ⟨r, q⟩ := x; ⟨r, p.perm.trans (.cons c q)⟩
theorem Less.trans {H'' : Cells} (x : Less H H') (y : Less H' H'') : Less H H'' := by
  obtain ⟨r, p⟩ := x
  obtain ⟨r', q⟩ := y
  exact ⟨r' ++ r, p.trans ((q.append_right r).trans (by rw [List.append_assoc]))⟩
theorem Sat.less (X : Sat prog w base s₀ H s) (x : Less H H') : Sat prog w base s₀ H' s := by
  obtain ⟨r, p⟩ := x
  refine ⟨X.keep, ?_, fun c hc => X.at_ c (p.mem_iff.mpr (List.mem_append_left _ hc)), X.gens, X.drawn, X.os⟩
  have := (p.map (·.1)).nodup_iff.mp X.nd
  rw [List.map_append] at this
  exact (List.nodup_append.mp this).1
end

/-! part MB -/
structure Gx where
  prog : Program
  w : World
  K : Frag
  base : Heap
  s₀ : Shared
abbrev St (G : Gx) (H : Cells) (s : Shared) : Prop := Sat G.prog G.w G.base G.s₀ H s
structure Ok (G : Gx) : Prop where
  X : G.K.In G.base
  T : ∃ p loose mg mb, TopRead p loose mg mb G.base
  M : ∃ o, G.base.get? sysModules = some o

structure Room (A : Around) (n : Nat) : Prop where
  handled : A.handled = none
  depth : A.depth + n < 900
  units : A.units + 100 * n + 100 < cLine
theorem Room.lt {A : Around} {n : Nat} (r : Room A n) : A.depth < recursionLimit := by have := r.depth; unfold recursionLimit; omega
theorem Room.u {A : Around} {n : Nat} (r : Room A n) : A.units + 50 < cLine := by have := r.units; omega
theorem Room.deeper {A : Around} {n : Nat} (r : Room A (n + 1)) (env : Env) : Room (A.deeper env) n :=
  ⟨r.handled, by have := r.depth; show A.depth + 1 + n < 900; omega, by have := r.units; show A.units + 3 + 100 * n + 100 < cLine; omega⟩
theorem Room.le {A : Around} {n m : Nat} (r : Room A n) (h : m ≤ n) : Room A m := ⟨r.handled, by have := r.depth; omega, by have := r.units; omega⟩

abbrev No : Value → Shared → Prop := fun _ _ => False

section
variable {α β : Type} {G : Gx} {A : Around} {env : Env} {m : Str → Option AV} {R : Cells}

abbrev Pst (G : Gx) (env : Env) (m : Str → Option AV) (Rl : Heap → α → β → Prop) (Q : β → Cells → Prop) (s : Shared) : α → Shared → Prop :=
  fun a s' => ∃ b R', Rl s'.heap a b ∧ St G ((env.locals, .ns m) :: R') s' ∧ TupKeep s.heap s'.heap ∧ Q b R'
def RunE (G : Gx) (A : Around) (env : Env) (m : Str → Option AV) (R : Cells) (Rl : Heap → α → β → Prop) (t : Sem α) (Q : β → Cells → Prop) : Prop :=
  ∀ s, St G ((env.locals, .ns m) :: R) s → wpAny (model G.prog G.w) A t (Pst G env m Rl Q s) No s
abbrev Ev (G : Gx) (A : Around) (env : Env) (m : Str → Option AV) (R : Cells) (e : Expr) (Q : AV → Cells → Prop) : Prop := RunE G A env m R Rep (eval e env) Q
abbrev Evs (G : Gx) (A : Around) (env : Env) (m : Str → Option AV) (R : Cells) (t : Sem (List Value)) (Q : List AV → Cells → Prop) : Prop := RunE G A env m R Reps t Q
def BoolRel : Heap → Bool → Bool → Prop := fun _ a b => a = b
abbrev Tr (G : Gx) (A : Around) (env : Env) (m : Str → Option AV) (R : Cells) (e : Expr) (Q : Bool → Cells → Prop) : Prop := RunE G A env m R BoolRel (isTrue e env (eval e env)) Q

theorem lift {Rl : Heap → α → β → Prop} {Q : β → Cells → Prop} {t : Sem α} {s s₁ : Shared} (tk : TupKeep s.heap s₁.heap) (h : wpAny (model G.prog G.w) A t (Pst G env m Rl Q s₁) No s₁) :
    wpAny (model G.prog G.w) A t (Pst G env m Rl Q s) No s₁ :=
  wpAny_mono h (fun _ _ ⟨b, R', r, st, tk', q⟩ => ⟨b, R', r, st, tk.trans tk', q⟩) fun _ _ x => x
theorem pst {Rl : Heap → α → β → Prop} {Q : β → Cells → Prop} {s s' : Shared} {a : α} {b : β} {R' : Cells} (r : Rl s'.heap a b) (st : St G ((env.locals, .ns m) :: R') s') (tk : TupKeep s.heap s'.heap) (q : Q b R') :
    Pst G env m Rl Q s a s' := ⟨b, R', r, st, tk, q⟩
theorem RunE.mono {Rl : Heap → α → β → Prop} {Q Q' : β → Cells → Prop} {t : Sem α} (h : RunE G A env m R Rl t Q) (hq : ∀ b R', Q b R' → Q' b R') : RunE G A env m R Rl t Q' :=
  fun s st => wpAny_mono (h s st) (fun _ _ ⟨b, R', r, st, tk, q⟩ => ⟨b, R', r, st, tk, hq b R' q⟩) fun _ _ x => x

/-- an operation of one value, of two: over all the cells -/
def Op1 (G : Gx) (A : Around) (H : Cells) (Rl : Heap → α → β → Prop) (f : Value → Sem α) (a : AV) (Q : β → Cells → Prop) : Prop :=
  ∀ s v, St G H s → Rep s.heap v a → wpAny (model G.prog G.w) A (f v) (fun x s' => ∃ b H', Rl s'.heap x b ∧ St G H' s' ∧ TupKeep s.heap s'.heap ∧ Q b H') No s
def Op2 (G : Gx) (A : Around) (H : Cells) (Rl : Heap → α → β → Prop) (f : Value → Value → Sem α) (a b : AV) (Q : β → Cells → Prop) : Prop :=
  ∀ s u v, St G H s → Rep s.heap u a → Rep s.heap v b → wpAny (model G.prog G.w) A (f u v) (fun x s' => ∃ b H', Rl s'.heap x b ∧ St G H' s' ∧ TupKeep s.heap s'.heap ∧ Q b H') No s
def Lc (env : Env) (m : Str → Option AV) (Q : β → Cells → Prop) : β → Cells → Prop := fun b H' => ∃ R', Less H' ((env.locals, .ns m) :: R') ∧ Q b R'
theorem Lc.same {Q : β → Cells → Prop} {b : β} (h : Q b R) : Lc env m Q b ((env.locals, .ns m) :: R) := ⟨R, Less.refl _, h⟩
theorem lc {Rl : Heap → α → β → Prop} {Q : β → Cells → Prop} {t : Sem α} {s s₁ : Shared} (tk : TupKeep s.heap s₁.heap)
    (h : wpAny (model G.prog G.w) A t (fun x s' => ∃ b H', Rl s'.heap x b ∧ St G H' s' ∧ TupKeep s₁.heap s'.heap ∧ Lc env m Q b H') No s₁) : wpAny (model G.prog G.w) A t (Pst G env m Rl Q s) No s₁ :=
  wpAny_mono h (fun _ _ ⟨b, _, r, st, tk', R', l, q⟩ => ⟨b, R', r, st.less l, tk.trans tk', q⟩) fun _ _ x => x

variable {Q : AV → Cells → Prop}

theorem Ev.cint {i : Int} {k : Nat} {pos : Pos} (h : Q (.int i) R) : Ev G A env m R (.Constant (.int i) k pos) Q :=
  fun _ st => wpAny_Constant_int (pst (.int _ _) (st.toks _) (TupKeep.refl _) h)
theorem Ev.cstr {x : Str} {k : Nat} {pos : Pos} (h : Q (.str x) R) : Ev G A env m R (.Constant (.str x) k pos) Q :=
  fun _ st => wpAny_Constant_str (pst (.str _ _) (st.toks _) (TupKeep.refl _) h)
theorem Ev.cnone {k : Nat} {pos : Pos} (h : Q .none R) : Ev G A env m R (.Constant .none k pos) Q :=
  fun _ st => wpAny_Constant_none (pst .none st (TupKeep.refl _) h)
theorem Ev.cbool {b : Bool} {k : Nat} {pos : Pos} (h : Q (.bool b) R) : Ev G A env m R (.Constant (.bool b) k pos) Q :=
  fun _ st => wpAny_Constant_bool (pst (.bool _) st (TupKeep.refl _) h)

theorem Sat.head {L : Addr} {x : AO} {s : Shared} (st : St G ((L, x) :: R) s) : At G.prog G.w s.heap L x := (st.at_ _ (.head _)).1

theorem Ev.loc {x : Str} {pos : Pos} {v : AV} (hv : m x = some v) (h : Q v R) (hk : env.scope.kind = .function := by rfl) (hx : env.kindOf x = some .local := by rfl)
    (hd : (x == ("__debug__" : Str)) = false := by decide) : Ev G A env m R (.Name x pos) Q := fun s st => by
  obtain ⟨mc, hn, hr⟩ := Sat.head st
  have := hr x
  rw [hv] at this
  generalize e : mc x = y at this
  cases this with
  | some r => exact wpAny_Name (wpAny_loadName_local hk hx hn e (pst r st (TupKeep.refl _) h)) hd

theorem Ev.glob (ok : Ok G) {x : Str} {pos : Pos} {v : Value} {a : AV} (e : nsIn G.K mainGlobals x = some (some v)) (r : ∀ h, Rep h v a) (h : Q a R) (hk : env.scope.kind = .function := by rfl)
    (hx : env.kindOf x = some .globalImplicit := by rfl) (hg : env.globals = mainGlobals := by rfl) (hd : (x == ("__debug__" : Str)) = false := by decide) : Ev G A env m R (.Name x pos) Q := fun s st => by
  obtain ⟨p, loose, mg, mb, T⟩ := ok.T
  exact Name_function_global hk hx (loadGlobal_global (by rw [hg]; exact T.g.keeps st.keep) (mg_of ok.X T.g e) (pst (r _) st (TupKeep.refl _) h)) hd
theorem Ev.blt (ok : Ok G) {x : Str} {pos : Pos} {v : Value} (e : nsIn G.K mainGlobals x = some none) (hv : bootBuiltins x = some v) (hn : x ≠ "__name__") (h : Q (.con v) R) (hr : notRef v = true := by rfl)
    (hk : env.scope.kind = .function := by rfl) (hx : env.kindOf x = some .globalImplicit := by rfl) (hg : env.globals = mainGlobals := by rfl) (hb : env.builtins = builtinsNs := by rfl)
    (hd : (x == ("__debug__" : Str)) = false := by decide) : Ev G A env m R (.Name x pos) Q := fun s st => by
  obtain ⟨p, loose, mg, mb, T⟩ := ok.T
  exact Name_function_global hk hx (loadGlobal_builtin (by rw [hg]; exact T.g.keeps st.keep) (mg_none_of ok.X T.g e) (by rw [hb]; exact T.b.keeps st.keep) ((T.builtins x hn).trans hv) (pst (.con _ hr) st (TupKeep.refl _) h)) hd
theorem Ev.cel {x : Str} {pos : Pos} {c : Addr} {v : AV} (hc : env.cells.lookup x = some c) (hm : (c, AO.cell (some v)) ∈ R) (h : Q v R) (hk : env.scope.kind = .function := by rfl)
    (hx : env.kindOf x = some .cell := by rfl) (hd : (x == ("__debug__" : Str)) = false := by decide) : Ev G A env m R (.Name x pos) Q := fun s st => by
  obtain ⟨o, y, ho, hdat, hr⟩ := (st.at_ _ (.tail _ hm)).1
  obtain ⟨z, rfl, r⟩ := hr v rfl
  exact wpAny_Name (wpAny_loadName_cell hk hx hc ⟨o, ho, hdat⟩ (pst r st (TupKeep.refl _) h)) hd
theorem Ev.fre {x : Str} {pos : Pos} {c : Addr} {v : AV} (hc : env.cells.lookup x = some c) (hm : (c, AO.cell (some v)) ∈ R) (h : Q v R) (hk : env.scope.kind = .function := by rfl)
    (hx : env.kindOf x = some .free := by rfl) (hd : (x == ("__debug__" : Str)) = false := by decide) (hn : (x == ("__classdict__" : Str)) = false := by decide) : Ev G A env m R (.Name x pos) Q := fun s st => by
  obtain ⟨o, y, ho, hdat, hr⟩ := (st.at_ _ (.tail _ hm)).1
  obtain ⟨z, rfl, r⟩ := hr v rfl
  exact wpAny_Name (wpAny_loadName_free hk hx hc ⟨o, ho, hdat⟩ (pst r st (TupKeep.refl _) h) hn) hd

theorem Ev.bin {l r : Expr} {op : Operator} {pos : Pos}
    (h : Ev G A env m R l fun a R₁ => Ev G A env m R₁ r fun b R₂ => Op2 G A ((env.locals, .ns m) :: R₂) Rep (binaryOp op) a b (Lc env m Q)) : Ev G A env m R (.BinOp l op r pos) Q := fun s st => by
  refine wpAny_BinOp (wpAny_mono (h s st) ?_ fun _ _ x => x)
  rintro u s₁ ⟨a, R₁, ra, st₁, tk₁, h₁⟩
  refine wpAny_mono (h₁ s₁ st₁) ?_ fun _ _ x => x
  rintro v s₂ ⟨b, R₂, rb, st₂, tk₂, h₂⟩
  exact lc (tk₁.trans tk₂) (h₂ s₂ u v st₂ (ra.mono tk₂) rb)
theorem Ev.cmp {l r : Expr} {op : CmpOp} {pos : Pos}
    (h : Ev G A env m R l fun a R₁ => Ev G A env m R₁ r fun b R₂ => Op2 G A ((env.locals, .ns m) :: R₂) Rep (compareOp op) a b (Lc env m Q))
    (hm : behindInMarks op r = false := by with_unfolding_all rfl) : Ev G A env m R (.Compare l [op] [r] pos) Q := fun s st => by
  refine wpAny_Compare1 (hm := hm) (wpAny_mono (h s st) ?_ fun _ _ x => x)
  rintro u s₁ ⟨a, R₁, ra, st₁, tk₁, h₁⟩
  refine wpAny_mono (h₁ s₁ st₁) ?_ fun _ _ x => x
  rintro v s₂ ⟨b, R₂, rb, st₂, tk₂, h₂⟩
  exact lc (tk₁.trans tk₂) (h₂ s₂ u v st₂ (ra.mono tk₂) rb)
/-- a comparison as a test: it gives a bool -/
theorem Tr.cmp {l r : Expr} {op : CmpOp} {pos : Pos} {Q : Bool → Cells → Prop}
    (h : Ev G A env m R l fun a R₁ => Ev G A env m R₁ r fun b R₂ => Op2 G A ((env.locals, .ns m) :: R₂) Rep (compareOp op) a b (Lc env m fun v R₃ => ∃ c, v = .bool c ∧ Q c R₃))
    (hm : behindInMarks op r = false := by with_unfolding_all rfl) : Tr G A env m R (.Compare l [op] [r] pos) Q := fun s st => by
  refine wpAny_isTrue_Compare1 (hm := hm) (wpAny_mono (h s st) ?_ fun _ _ x => x)
  rintro u s₁ ⟨a, R₁, ra, st₁, tk₁, h₁⟩
  refine wpAny_mono (h₁ s₁ st₁) ?_ fun _ _ x => x
  rintro v s₂ ⟨b, R₂, rb, st₂, tk₂, h₂⟩
  refine wpAny_mono (h₂ s₂ u v st₂ (ra.mono tk₂) rb) ?_ fun _ _ x => x
  rintro x s₃ ⟨y, H', r, st₃, tk₃, R₃, l, c, e, q⟩
  subst e
  cases r with
  | bool c => exact wpAny_truthy_bool (pst rfl (st₃.less l) ((tk₁.trans tk₂).trans tk₃) q)
theorem Tr.not {x : Expr} {pos : Pos} {Q : Bool → Cells → Prop} (h : Tr G A env m R x fun b R₁ => Q (!b) R₁) : Tr G A env m R (.UnaryOp .Not x pos) Q := fun s st => by
  refine wpAny_isTrue_Not (wpAny_mono (h s st) ?_ fun _ _ x => x)
  rintro b s₁ ⟨a, R₁, ra, st₁, tk₁, h₁⟩
  have e : b = a := ra
  subst e
  exact pst rfl st₁ tk₁ h₁
/-- a test by a call that gives a bool -/
theorem Tr.val {e : Expr} {Q : Bool → Cells → Prop} (h : Ev G A env m R e fun v R₁ => ∃ c, v = .bool c ∧ Q c R₁)
    (he : isTrue e env (eval e env) = (do let v ← eval e env; standAt e.pos; holding [v] (truthy v)) := by rfl) : Tr G A env m R e Q := fun s st => by
  refine wpAny_isTrue_value (he := he) (wpAny_mono (h s st) ?_ fun _ _ x => x)
  rintro u s₁ ⟨a, R₁, ra, st₁, tk₁, c, e, q⟩
  subst e
  cases ra with
  | bool c => exact wpAny_truthy_bool (pst rfl st₁ tk₁ q)
def TrAll (G : Gx) (A : Around) (env : Env) (m : Str → Option AV) (R : Cells) (l : List Expr) (Q : Bool → Cells → Prop) : Prop := RunE G A env m R BoolRel (allTrue .And l env) Q
theorem Tr.and {values : List Expr} {pos : Pos} {Q : Bool → Cells → Prop} (h : TrAll G A env m R values Q) : Tr G A env m R (.BoolOp .And values pos) Q := fun s st => wpAny_isTrue_BoolOp (h s st)
theorem TrAll.nil {Q : Bool → Cells → Prop} (h : Q true R) : TrAll G A env m R [] Q := fun _ st => wpAny_allTrue_And_nil (pst rfl st (TupKeep.refl _) h)
theorem TrAll.cons {x : Expr} {l : List Expr} {Q : Bool → Cells → Prop} (h : Tr G A env m R x fun b R₁ => if b then TrAll G A env m R₁ l Q else Q false R₁) : TrAll G A env m R (x :: l) Q := fun s st => by
  refine wpAny_allTrue_And_cons (wpAny_mono (h s st) ?_ fun _ _ x => x)
  rintro b s₁ ⟨a, R₁, ra, st₁, tk₁, h₁⟩
  have e : b = a := ra
  subst e
  cases b with
  | true => exact lift tk₁ (h₁ s₁ st₁)
  | false => exact pst rfl st₁ tk₁ h₁
/-- the value of «a and b and ..», all bools -/
def EvAnd (G : Gx) (A : Around) (env : Env) (m : Str → Option AV) (R : Cells) (pos : Pos) (l : List Expr) (Q : AV → Cells → Prop) : Prop := RunE G A env m R Rep (boolOp pos .And (evalEach l env)) Q
theorem Ev.and {values : List Expr} {pos : Pos} (h : EvAnd G A env m R pos values Q) : Ev G A env m R (.BoolOp .And values pos) Q := h
theorem EvAnd.one {x : Expr} {pos : Pos} (h : Ev G A env m R x Q) : EvAnd G A env m R pos [x] Q := h
theorem EvAnd.cons {x y : Expr} {l : List Expr} {pos : Pos} (h : Ev G A env m R x fun v R₁ => ∃ c, v = .bool c ∧ if c then EvAnd G A env m R₁ pos (y :: l) Q else Q (.bool false) R₁) : EvAnd G A env m R pos (x :: y :: l) Q := fun s st => by
  show wpAny _ _ (do
    let v ← eval x env
    standAt pos
    let t ← holding [v] (truthy v)
    match BoolOp.And, t with
    | .And, false | .Or, true => pure v
    | _, _ => boolOp pos .And (evalEach (y :: l) env)) _ _ s
  refine wpAny_bind (wpAny_mono (h s st) ?_ fun _ _ x => x)
  rintro u s₁ ⟨a, R₁, ra, st₁, tk₁, c, e, q⟩
  subst e
  cases ra with
  | bool c =>
    refine wpAny_bind (wpAny_standAt (wpAny_bind (wpAny_holding (wpAny_truthy_bool ?_))))
    cases c with
    | true => exact lift tk₁ (q s₁ st₁)
    | false => exact wpAny_pure (pst (.bool _) st₁ tk₁ q)
theorem Ev.ite {test body orelse : Expr} {pos : Pos} (h : Tr G A env m R test fun b R₁ => if b then Ev G A env m R₁ body Q else Ev G A env m R₁ orelse Q) : Ev G A env m R (.IfExp test body orelse pos) Q := fun s st => by
  refine wpAny_IfExp (wpAny_mono (h s st) ?_ fun _ _ x => x)
  rintro b s₁ ⟨a, R₁, ra, st₁, tk₁, h₁⟩
  have e : b = a := ra
  subst e
  cases b with
  | true => exact lift tk₁ (h₁ s₁ st₁)
  | false => exact lift tk₁ (h₁ s₁ st₁)

/-- the items of a display, of a call -/
theorem Evs.nil {pos : Pos} {Q : List AV → Cells → Prop} (h : Q [] R) : Evs G A env m R (spliced (backTo pos (starEach [] env))) Q := fun _ st => wpAny_items_nil (pst .nil st (TupKeep.refl _) h)
theorem Evs.cons {pos : Pos} {e : Expr} {rest : List Expr} {Q : List AV → Cells → Prop} (h : Ev G A env m R e fun v R₁ => Evs G A env m R₁ (spliced (backTo pos (starEach rest env))) fun vs R₂ => Q (v :: vs) R₂)
    (he : starEach (e :: rest) env = (false, eval e env) :: starEach rest env := by rfl) : Evs G A env m R (spliced (backTo pos (starEach (e :: rest) env))) Q := fun s st => by
  refine wpAny_items_cons (he := he) (wpAny_mono (h s st) ?_ fun _ _ x => x)
  rintro u s₁ ⟨a, R₁, ra, st₁, tk₁, h₁⟩
  exact wpAny_mono (h₁ s₁ st₁) (fun vs s₂ ⟨b, R₂, rb, st₂, tk₂, h₂⟩ => pst (.cons (ra.mono tk₂) rb) st₂ (tk₁.trans tk₂) h₂) fun _ _ x => x

theorem Ev.tuple {elts : List Expr} {k : Nat} {pos : Pos} (h : Evs G A env m R (spliced (backTo pos (starEach elts env))) fun vs R₁ => vs.length ≤ sizeLine ∧ Q (.tup vs) R₁) : Ev G A env m R (.Tuple elts k pos) Q := fun s st => by
  refine wpAny_Tuple (wpAny_mono (h s st) (fun us s₁ ⟨vs, R₁, ra, st₁, tk₁, hl, h₁⟩ => ⟨by rw [ra.length]; exact hl, ?_⟩) fun _ _ x => x)
  have tk₂ : TupKeep s₁.heap (s₁.heap.push (tupObj us 0)) := TupKeep.push _ _
  exact pst (.tup (Heap.get?_push_size _ rfl) (ra.mono tk₂)) (st₁.push _ _) (tk₁.trans tk₂) h₁
theorem Sat.newL {H : Cells} {s : Shared} (st : St G H s) {us : List Value} {vs : List AV} (r : Reps s.heap us vs) (t : Nat) : St G ((s.heap.objs.size, .list vs) :: H) { s with heap := s.heap.push (listObj us 0), toks := t } :=
  Sat.new st _ t ⟨us, 0, Heap.get?_push_size _ rfl, r.mono (TupKeep.push _ _)⟩
theorem less_swap {a b : Addr × AO} : Less (a :: b :: R) (b :: a :: R) := ⟨[], by simpa using List.Perm.swap b a R⟩
theorem Ev.list {elts : List Expr} {pos : Pos} (h : Evs G A env m R (spliced (backTo pos (starEach elts env))) fun vs R₁ => vs.length ≤ sizeLine ∧ ∀ a, Q (.ref a) ((a, .list vs) :: R₁)) : Ev G A env m R (.List elts pos) Q := fun s st => by
  refine wpAny_List (wpAny_mono (h s st) (fun us s₁ ⟨vs, R₁, ra, st₁, tk₁, hl, h₁⟩ => ⟨by rw [ra.length]; exact hl, ?_⟩) fun _ _ x => x)
  exact pst (.ref _) ((Sat.newL st₁ ra _).less less_swap) (tk₁.trans (TupKeep.push _ _)) (h₁ _)
end

/-! part MC -/
def upd (m : Str → Option AV) (x : Str) (v : AV) : Str → Option AV := fun y => if y = x then some v else m y
theorem upd_same (m : Str → Option AV) (x : Str) (v : AV) : upd m x v x = some v := by simp [upd]
theorem upd_ne {m : Str → Option AV} {x y : Str} {v : AV} (h : y ≠ x) : upd m x v y = m y := by simp [upd, h]
def updL (m : Str → Option AV) : List Str → List AV → Str → Option AV
  | n :: ns, v :: vs => updL (upd m n v) ns vs
  | _, _ => m

inductive Fl where
  | next
  | ret (v : AV)
inductive FlRep (h : Heap) : Flow → Fl → Prop
  | next : FlRep h .next .next
  | ret {v : Value} {x : AV} : Rep h v x → FlRep h (.ret v) (.ret x)

section
variable {α β : Type} {G : Gx} {A : Around} {env : Env} {m : Str → Option AV} {R R' : Cells} {Q : AV → Cells → Prop}

/-! calls -/
def OpL (G : Gx) (A : Around) (H : Cells) (f : List Value → Sem Value) (as : List AV) (Q : AV → Cells → Prop) : Prop :=
  ∀ s us, St G H s → Reps s.heap us as → wpAny (model G.prog G.w) A (f us) (fun x s' => ∃ b H', Rep s'.heap x b ∧ St G H' s' ∧ TupKeep s.heap s'.heap ∧ Q b H') No s
/-- a call of a value -/
def OpC (G : Gx) (A : Around) (H : Cells) (fv : AV) (as : List AV) (Q : AV → Cells → Prop) : Prop :=
  ∀ s f us, St G H s → Rep s.heap f fv → Reps s.heap us as → wpAny (model G.prog G.w) A (call f us) (fun x s' => ∃ b H', Rep s'.heap x b ∧ St G H' s' ∧ TupKeep s.heap s'.heap ∧ Q b H') No s

theorem evalArgs_all {M : Model} {A : Around} {E : Value → Shared → Prop} {s : Shared} {f : Value} {trees : List (Bool × Sem Value)} {Q : Args → Shared → Prop} (hany : trees.any (·.1) = false)
    (h : wpAny M A (spliced trees) (fun vs s' => Q ⟨vs, []⟩ s') E s) : wpAny M A (evalArgs f true trees []) Q E s := by
  cases trees with
  | nil =>
    unfold evalArgs
    show wpAny M A (spliced [] >>= _) Q E s
    refine wpAny_bind (wpAny_mono h (fun vs s' h' => ?_) fun _ _ x => x)
    exact wpAny_holding (wpAny_bind (wpAny_pure (wpAny_bind (wpAny_pure (wpAny_pure h')))))
  | cons t r =>
    obtain ⟨b, x⟩ := t
    cases b with
    | true => simp at hany
    | false => exact evalArgs_plain h

/-- what the frame keeps of a callee -/
def Kept (G : Gx) (fv : AV) : Prop := ∀ h f, G.K.In h → Rep h f fv → ∃ k, (k = Keeper.frame ∨ k = Keeper.machine ∨ k = Keeper.boundFrame) ∧ Looks (model G.prog G.w) h (keeperOf f) k
theorem Kept.con {v : Value} : Kept G (.con v) := fun h f _ r => by
  cases r with
  | con _ e => exact ⟨.machine, .inr (.inl rfl), Looks.of_pure (by cases v <;> first | rfl | cases e)⟩
theorem Kept.ref {a : Addr} (e : keepIn G.K (.ref a) = true) : Kept G (.ref a) := fun h f X r => by
  cases r with
  | ref a => exact keeps_K e h X

theorem callWith_op (ok : Ok G) {pos : Pos} {fv : AV} {first : List AV} {args : List Expr} {f : Value} {fs : List Value} {s : Shared} (k : Kept G fv) (hany : (backTo pos (starEach args env)).any (·.1) = false)
    (st : St G ((env.locals, .ns m) :: R) s) (rf : Rep s.heap f fv) (rs : Reps s.heap fs first)
    (h : Evs G A env m R (spliced (backTo pos (starEach args env))) fun vs R₁ => OpC G A ((env.locals, .ns m) :: R₁) fv (first ++ vs) (Lc env m Q)) :
    wpAny (model G.prog G.w) A (callWith pos f fs (backTo pos (starEach args env)) []) (Pst G env m Rep Q s) No s := by
  refine callWith_of (P := fun h => G.K.In h ∧ Rep h f fv) (by rw [hany]; rfl) (fun h p => k h f p.1 p.2) (evalArgs_all hany (wpAny_mono (h s st) (fun vs s₁ ⟨as, R₁, ra, st₁, tk₁, h₁⟩ => ⟨⟨ok.X.keeps st₁.keep, rf.mono tk₁⟩, ?_⟩) fun _ _ x => x))
  exact lc tk₁ (h₁ s₁ f (fs ++ vs) st₁ (rf.mono tk₁) ((rs.mono tk₁).append ra))

theorem Ev.call (ok : Ok G) {id : Str} {p pos : Pos} {args : List Expr} (h : Ev G A env m R (.Name id p) fun fv R₁ => Kept G fv ∧ Evs G A env m R₁ (spliced (backTo pos (starEach args env))) fun vs R₂ => OpC G A ((env.locals, .ns m) :: R₂) fv vs (Lc env m Q))
    (hany : (backTo pos (starEach args env)).any (·.1) = false := by rfl) : Ev G A env m R (.Call (.Name id p) args [] pos) Q := fun s st => by
  rw [arm_eval_Call_Name']
  refine wpAny_bind (wpAny_mono (h s st) ?_ fun _ _ x => x)
  rintro f s₁ ⟨fv, R₁, rf, st₁, tk₁, k, h₁⟩
  exact lift tk₁ (callWith_op ok k hany st₁ rf .nil h₁)

/-- the receiver of a built-in method -/
def Recv (G : Gx) (H : Cells) (ov : AV) (T : String) : Prop := ∀ s v, St G H s → Rep s.heap v ov → s.TypeIs v T ∧ ∀ a, v = .ref a → ∃ ob, s.heap.get? a = some ob ∧ ob.dict = none
theorem Recv.list {H : Cells} {a : Addr} {l : List AV} (hm : (a, AO.list l) ∈ H) : Recv G H (.ref a) "list" := fun s v st r => by
  cases r with
  | ref a =>
    obtain ⟨vs, n, e, _⟩ := (st.at_ _ hm).1
    exact ⟨⟨_, e, rfl⟩, fun b q => by injection q with q; subst q; exact ⟨_, e, rfl⟩⟩
theorem Recv.dictI {H : Cells} {a : Addr} {l : List (Int × AV)} (hm : (a, AO.dictI l) ∈ H) : Recv G H (.ref a) "dict" := fun s v st r => by
  cases r with
  | ref a =>
    obtain ⟨_, ⟨o, es, ep, e, c, _⟩, _⟩ := (st.at_ _ hm).1
    exact ⟨⟨_, e, c.1⟩, fun b q => by injection q with q; subst q; exact ⟨_, e, c.2.1⟩⟩
theorem Recv.dictT {H : Cells} {a : Addr} {l : List BK} (hm : (a, AO.dictT l) ∈ H) : Recv G H (.ref a) "dict" := fun s v st r => by
  cases r with
  | ref a =>
    obtain ⟨xs, ⟨o, es, ep, e, c, _⟩, _⟩ := (st.at_ _ hm).1
    exact ⟨⟨_, e, c.1⟩, fun b q => by injection q with q; subst q; exact ⟨_, e, c.2.1⟩⟩

theorem Ev.meth (ok : Ok G) {o : Expr} {name : Str} {apos pos : Pos} {args : List Expr} {T id : String} (pa : PlainAttrs T) (slot : Slot T name id) (hty : typeOf (.builtin id) = pure (.type "method_descriptor"))
    (h : Ev G A env m R o fun ov R₁ => Recv G ((env.locals, .ns m) :: R₁) ov T ∧ Evs G A env m R₁ (spliced (backTo pos (starEach args env))) fun vs R₂ => OpL G A ((env.locals, .ns m) :: R₂) (fun us => PySem.call (.builtin id) us) (ov :: vs) (Lc env m Q))
    (hbase : attributeBase o name env (eval o env) = eval o env := by rfl)
    (hfew : methodCallForm (args.length + ([] : List Keyword).length) (backTo pos (starEach args env)) (backToKw pos (keywordEach [] env)) = true := by rfl)
    (hline : (apos.endLine == pos.line) = true := by rfl) (hany : (backTo pos (starEach args env)).any (·.1) = false := by rfl) : Ev G A env m R (.Call (.Attribute o name apos) args [] pos) Q := fun s st => by
  rw [arm_eval_Call, hbase]
  refine wpAny_bind (wpAny_mono (h s st) ?_ fun _ _ x => x)
  rintro ov s₁ ⟨a, R₁, ra, st₁, tk₁, rc, h₁⟩
  refine wpAny_bind (wpAny_standAt ?_)
  have hpos : methodCallPos true o env apos pos = pure pos := by unfold methodCallPos; simp [hline]
  unfold methodCall
  rw [hfew]
  obtain ⟨hT, hd⟩ := rc s₁ ov st₁ ra
  refine wpAny_bind (wpAny_holding (getMethod_builtin hT pa slot hty hd ?_))
  refine wpAny_bind (wpAny_of_eq hpos (lift tk₁ (callWith_op ok (fv := .con (.builtin id)) (first := [a]) Kept.con hany st₁ (.con _ rfl) (.cons ra .nil) (h₁.mono fun vs R₂ op => ?_))))
  intro s₂ f us st₂ rf rs
  cases rf with
  | con _ _ => exact op s₂ us st₂ rs

/-- a method of an own class, over an object that is at hand -/
theorem Ev.own (ok : Ok G) {o : Expr} {name : Str} {apos pos : Pos} {args : List Expr}
    (h : Ev G A env m R o fun ov R₁ => ∃ x C dx mm k f, ov = .ref x ∧ (x, AO.raw (instObj C dx)) ∈ R₁ ∧ (dx, AO.inst mm k) ∈ R₁ ∧ mm name = none ∧ plainGet G.K C name = true ∧ findIn G.K (.ref C) name = some (some (.ref f)) ∧ isFn G.K (.ref f) = true ∧ keepIn G.K (.ref f) = true ∧
      Evs G A env m R₁ (spliced (backTo pos (starEach args env))) fun vs R₂ => OpC G A ((env.locals, .ns m) :: R₂) (.ref f) (.ref x :: vs) (Lc env m Q))
    (hbase : attributeBase o name env (eval o env) = eval o env := by rfl)
    (hfew : methodCallForm (args.length + ([] : List Keyword).length) (backTo pos (starEach args env)) (backToKw pos (keywordEach [] env)) = true := by rfl)
    (hline : (apos.endLine == pos.line) = true := by rfl) (hany : (backTo pos (starEach args env)).any (·.1) = false := by rfl) : Ev G A env m R (.Call (.Attribute o name apos) args [] pos) Q := fun s st => by
  rw [arm_eval_Call, hbase]
  refine wpAny_bind (wpAny_mono (h s st) ?_ fun _ _ x => x)
  rintro ov s₁ ⟨a, R₁, ra, st₁, tk₁, x, C, dx, mm, kk, f, e, m1, m2, m3, g1, g2, g3, g4, h₁⟩
  subst e
  cases ra with
  | ref x =>
    refine wpAny_bind (wpAny_standAt ?_)
    have hpos : methodCallPos true o env apos pos = pure pos := by unfold methodCallPos; simp [hline]
    unfold methodCall
    rw [hfew]
    have hx : s₁.heap.get? x = some (instObj C dx) := (st₁.at_ _ (.tail _ m1)).1
    obtain ⟨mc, od, es, ep, hod, hdat, hk, hf, hr, _⟩ := (st₁.at_ _ (.tail _ m2)).1
    have hnone : mc name = none := by
      have := hr name
      rw [m3] at this
      generalize e : mc name = y at this
      cases this with
      | none => rfl
    have hlook : shadowIn (some od) name = some false := by
      have e1 : lookIn name od = some none := by
        unfold lookIn
        rw [hdat]
        dsimp only
        have e2 : es.toList.find? (·.key.isStr name) = none := by
          have := hf name
          rw [hnone] at this
          unfold nsFind findBy at this
          rw [Array.find?_toList]
          cases q : es.find? (fun e => e.key.isStr name) with
          | none => rfl
          | some e => rw [q] at this; cases this
        rw [e2]
        have e3 : es.toList.any (·.refKey) = false := by
          rw [Array.any_toList, Array.any_eq_false']
          intro e he
          obtain ⟨n, t, q⟩ := hk e he
          simp [DictEntry.refKey, q]
        rw [e3]; rfl
      show (lookIn name od).map _ = _
      rw [e1]; rfl
    have I : InstAt s₁.heap x (instObj C dx) C (some od) := ⟨hx, rfl, rfl, hod⟩
    refine wpAny_bind (wpAny_holding (method_fn (ok.X.keeps st₁.keep) I (plainGet_of g1).1 (plainGet_of g1).2 g2 (beq_iff_eq.mp g3) hlook ?_))
    exact wpAny_bind (wpAny_of_eq hpos (lift tk₁ (callWith_op ok (fv := .ref f) (first := [.ref x]) (Kept.ref g4) hany st₁ (.ref _) (.cons (.ref _) .nil) h₁)))

/-- an own attribute of an object -/
theorem Ev.attr (ok : Ok G) {o : Expr} {name : Str} {pos : Pos}
    (h : Ev G A env m R o fun ov R₁ => ∃ x C dx mm k v attr, ov = .ref x ∧ (x, AO.raw (instObj C dx)) ∈ R₁ ∧ (dx, AO.inst mm k) ∈ R₁ ∧ mm name = some v ∧ (∀ b, v ≠ .con b) ∧ plainGet G.K C name = true ∧ hasDictIn G.K C = true ∧ findIn G.K (.ref C) name = some attr ∧ noGet G.K attr = true ∧ Q v R₁)
    (he : eval (.Attribute o name pos) env = (do
      let ov ← eval o env
      standAt pos.atName
      let r ← holding [ov] (getAttr ov name true)
      letTemporaryGo o ov r
      pure r) := by with_unfolding_all rfl) : Ev G A env m R (.Attribute o name pos) Q := fun s st => by
  rw [he]
  refine wpAny_bind (wpAny_mono (h s st) ?_ fun _ _ x => x)
  rintro ov s₁ ⟨a, R₁, ra, st₁, tk₁, x, C, dx, mm, kk, v, attr, e, m1, m2, m3, hnc, g1, g2, g3, g4, h₁⟩
  subst e
  cases ra with
  | ref x =>
    have hx : s₁.heap.get? x = some (instObj C dx) := (st₁.at_ _ (.tail _ m1)).1
    obtain ⟨mc, od, es, ep, hod, hdat, hk, hf, hr, _⟩ := (st₁.at_ _ (.tail _ m2)).1
    have hv := hr name
    rw [m3] at hv
    generalize e : mc name = y at hv
    cases hv with
    | some rv =>
      rename_i u
      have hlook : lookIn name od = some (some u) := by
        unfold lookIn
        rw [hdat]
        dsimp only
        have := hf name
        rw [e] at this
        unfold nsFind findBy at this
        rw [Array.find?_toList]
        cases q : es.find? (fun e => e.key.isStr name) with
        | none => rw [q] at this; cases this
        | some en => rw [q] at this; simp only [Option.map_some, Option.some.injEq] at this; show some (some en.val) = _; rw [this]
      have I : InstAt s₁.heap x (instObj C dx) C (some od) := ⟨hx, rfl, rfl, hod⟩
      have hh : handedIn u = true := by cases rv <;> first | rfl | exact absurd rfl (hnc _)
      refine wpAny_bind (wpAny_standAt (wpAny_bind (wpAny_holding (get_value (ok.X.keeps st₁.keep) I (plainGet_of g1).1 (findObj_own g2 g3 g4 hlook) hh ?_))))
      exact wpAny_bind (wpAny_letTemporaryGo (wpAny_pure (pst rv (st₁.toks _) tk₁ h₁)))

/-- subscripts -/
theorem Ev.sub {o i : Expr} {pos : Pos} (h : Ev G A env m R o fun a R₁ => Ev G A env m R₁ i fun b R₂ => Op2 G A ((env.locals, .ns m) :: R₂) Rep (subscriptTail o i) a b (Lc env m Q)) : Ev G A env m R (.Subscript o i pos) Q := fun s st => by
  refine Subscript_ (wpAny_mono (h s st) ?_ fun _ _ x => x)
  rintro u s₁ ⟨a, R₁, ra, st₁, tk₁, h₁⟩
  refine wpAny_mono (h₁ s₁ st₁) ?_ fun _ _ x => x
  rintro v s₂ ⟨b, R₂, rb, st₂, tk₂, h₂⟩
  exact lc (tk₁.trans tk₂) (h₂ s₂ u v st₂ (ra.mono tk₂) rb)

/-! contracts -/
def CdC (G : Gx) (A : Around) (H : Cells) (f : Addr) (args : List AV) (Q : AV → Cells → Prop) : Prop :=
  ∀ s us, St G H s → Reps s.heap us args → codeAny (model G.prog G.w) A (.call (.ref f) ⟨us, []⟩) (fun r s' => ∃ v, r = .ok (.ret v) ∧ ∃ b H', Rep s'.heap v b ∧ St G H' s' ∧ TupKeep s.heap s'.heap ∧ Q b H') s
def Fn (G : Gx) (n : Nat) (f : Addr) (args : List AV) (FP : Cells) (Qc : AV → Cells → Prop) : Prop :=
  ∀ A F, Room A n → CdC G A (FP ++ F) f args (fun x H' => ∃ FP', Less H' (FP' ++ F) ∧ Qc x FP')
theorem less_front {c : Addr × AO} {FP F₀ : Cells} (l : Less R (FP ++ F₀)) : Less (c :: R) (FP ++ (c :: F₀)) := by
  obtain ⟨r, p⟩ := l
  refine ⟨r, (List.Perm.cons _ p).trans ?_⟩
  rw [List.append_assoc, List.append_assoc, List.cons_append]
  exact List.perm_middle.symm
theorem less_back {c : Addr × AO} {FP F₀ : Cells} : Less (FP ++ (c :: F₀)) (c :: (FP ++ F₀)) := ⟨[], by rw [List.append_nil]; exact List.perm_middle⟩
theorem OpC.fn {n : Nat} {f : Addr} {args : List AV} {FP F₀ : Cells} {Qc : AV → Cells → Prop} (hf : Fn G n f args FP Qc) (rm : Room A n) (l : Less R (FP ++ F₀)) (h : ∀ x FP', Qc x FP' → Q x (FP' ++ F₀)) :
    OpC G A ((env.locals, .ns m) :: R) (.ref f) args (Lc env m Q) := fun s fv us st rf rs => by
  cases rf with
  | ref _ =>
    refine wpAny_call (codeAny_mono (hf A _ rm s us (st.less (less_front l)) rs) ?_)
    rintro r s' ⟨v, e, b, H', rb, st', tk, FP', l', q⟩
    subst e
    exact ⟨b, H', rb, st', tk, FP' ++ F₀, l'.trans less_back, h b FP' q⟩

/-! statements -/
abbrev PstF (G : Gx) (env : Env) (Q : Fl → (Str → Option AV) → Cells → Prop) (s : Shared) : Flow → Shared → Prop :=
  fun f s' => ∃ fl m' R', FlRep s'.heap f fl ∧ St G ((env.locals, .ns m') :: R') s' ∧ TupKeep s.heap s'.heap ∧ Q fl m' R'
def RunF (G : Gx) (A : Around) (env : Env) (m : Str → Option AV) (R : Cells) (t : Sem Flow) (Q : Fl → (Str → Option AV) → Cells → Prop) : Prop :=
  ∀ s, St G ((env.locals, .ns m) :: R) s → wpAny (model G.prog G.w) A t (PstF G env Q s) No s
abbrev Ex (G : Gx) (A : Around) (env : Env) (m : Str → Option AV) (R : Cells) (st : Stmt) (Q : Fl → (Str → Option AV) → Cells → Prop) : Prop := RunF G A env m R (exec st env) Q
abbrev Exs (G : Gx) (A : Around) (env : Env) (m : Str → Option AV) (R : Cells) (l : List Stmt) (Q : Fl → (Str → Option AV) → Cells → Prop) : Prop := RunF G A env m R (execs l env) Q
variable {QF : Fl → (Str → Option AV) → Cells → Prop}

theorem liftF {t : Sem Flow} {s s₁ : Shared} (tk : TupKeep s.heap s₁.heap) (h : wpAny (model G.prog G.w) A t (PstF G env QF s₁) No s₁) : wpAny (model G.prog G.w) A t (PstF G env QF s) No s₁ :=
  wpAny_mono h (fun _ _ ⟨b, m', R', r, st, tk', q⟩ => ⟨b, m', R', r, st, tk.trans tk', q⟩) fun _ _ x => x
theorem RunF.mono {QF' : Fl → (Str → Option AV) → Cells → Prop} {t : Sem Flow} (h : RunF G A env m R t QF) (hq : ∀ b m' R', QF b m' R' → QF' b m' R') : RunF G A env m R t QF' :=
  fun s st => wpAny_mono (h s st) (fun _ _ ⟨b, m', R', r, st, tk, q⟩ => ⟨b, m', R', r, st, tk, hq b m' R' q⟩) fun _ _ x => x
theorem Exs.nil (h : QF .next m R) : Exs G A env m R [] QF := fun _ st => wpAny_execs_nil ⟨_, _, _, .next, st, TupKeep.refl _, h⟩
theorem Exs.cons {st : Stmt} {l : List Stmt} (h : Ex G A env m R st fun fl m' R' => match fl with | .next => Exs G A env m' R' l QF | fl => QF fl m' R') : Exs G A env m R (st :: l) QF := fun s hs => by
  refine wpAny_execs_cons (wpAny_mono (h s hs) ?_ fun _ _ x => x)
  rintro f s₁ ⟨fl, m', R', r, st₁, tk₁, h₁⟩
  cases r with
  | next => exact liftF tk₁ (h₁ s₁ st₁)
  | ret r => exact ⟨_, _, _, .ret r, st₁, tk₁, h₁⟩
theorem Ex.ret {e : Expr} {pos : Pos} (h : Ev G A env m R e fun v R' => QF (.ret v) m R') : Ex G A env m R (.Return (some e) pos) QF := fun s hs =>
  wpAny_Return_some (wpAny_mono (h s hs) (fun _ _ ⟨b, R', r, st, tk, q⟩ => ⟨_, _, _, .ret r, st, tk, q⟩) fun _ _ x => x)
theorem Ex.exp {e : Expr} {pos : Pos} (h : Ev G A env m R e fun _ R' => QF .next m R') (hi : interactive env = false := by rfl) (hs : swapsWith e none pos.line env = pure false := by rfl) : Ex G A env m R (.Expr e pos) QF := fun s st =>
  wpAny_Expr_any (hi := hi) (hs := hs) (wpAny_mono (h s st) (fun _ _ ⟨b, R', r, st, tk, q⟩ => ⟨_, _, _, .next, st, tk, q⟩) fun _ _ x => x)
theorem Ex.ifs {test : Expr} {body orelse : List Stmt} {pos : Pos} (h : Tr G A env m R test fun b R' => if b then Exs G A env m R' body QF else Exs G A env m R' orelse QF) : Ex G A env m R (.If test body orelse pos) QF := fun s st => by
  refine wpAny_If (wpAny_mono (h s st) ?_ fun _ _ x => x)
  rintro b s₁ ⟨a, R₁, ra, st₁, tk₁, h₁⟩
  have e : b = a := ra
  subst e
  cases b with
  | true => exact liftF tk₁ (h₁ s₁ st₁)
  | false => exact liftF tk₁ (h₁ s₁ st₁)

theorem setName {s : Shared} {x : Str} {v : Value} {a : AV} (st : St G ((env.locals, .ns m) :: R) s) (r : Rep s.heap v a) {P : Unit → Shared → Prop} (hx : env.kindOf x = some .local)
    (hp : (env.scope.kind == .class || (env.scope.kind == .module && env.locals != env.globals)) = false)
    (h : ∀ s', St G ((env.locals, .ns (upd m x a)) :: R) s' → TupKeep s.heap s'.heap → P () s') : wpAny (model G.prog G.w) A (storeName env x v) P No s := by
  obtain ⟨mc, hn, hr⟩ := Sat.head st
  refine wpAny_storeName_local hx hn (fun h' hn' hs' => ?_) hp
  obtain ⟨q1, q2⟩ := Sat.put st (a := env.locals) (x := .ns m) (y := .ns (upd m x a)) .head (s.toks + 1) hs'.extBut rfl (fun tk => ⟨_, hn', fun y => by
    unfold upd
    by_cases e : y = x
    · simp only [e, if_true]; exact .some (r.mono tk)
    · simp only [e, if_false]; exact (hr y).mono tk⟩)
  exact h _ q1 q2

theorem Ex.asg {x : Str} {pos' pos : Pos} {value : Expr} (h : Ev G A env m R value fun v R' => QF .next (upd m x v) R') (hs : swapsWith value (some (.Name x pos')) pos.line env = pure false := by rfl) (hx : env.kindOf x = some .local := by rfl)
    (hp : (env.scope.kind == .class || (env.scope.kind == .module && env.locals != env.globals)) = false := by rfl) : Ex G A env m R (.Assign [.Name x pos'] value pos) QF := fun s st =>
  wpAny_Assign_Name (hs := hs) (wpAny_mono (h s st) (fun _ _ ⟨_, _, ra, st₁, tk₁, h₁⟩ => setName st₁ ra hx hp fun _ st₂ tk₂ => ⟨_, _, _, .next, st₂, tk₁.trans tk₂, h₁⟩) fun _ _ x => x)

/-- targets -/
def Asg (G : Gx) (A : Around) (env : Env) (m : Str → Option AV) (R : Cells) (t : Value → Sem Unit) (v : AV) (Q : (Str → Option AV) → Cells → Prop) : Prop :=
  ∀ s u, St G ((env.locals, .ns m) :: R) s → Rep s.heap u v → wpAny (model G.prog G.w) A (t u) (fun _ s' => ∃ m' R', St G ((env.locals, .ns m') :: R') s' ∧ TupKeep s.heap s'.heap ∧ Q m' R') No s
def AsgL (G : Gx) (A : Around) (env : Env) (m : Str → Option AV) (R : Cells) (ts : List (Value → Sem Unit)) (vs : List AV) (Q : (Str → Option AV) → Cells → Prop) : Prop :=
  ∀ s us, St G ((env.locals, .ns m) :: R) s → Reps s.heap us vs → wpAny (model G.prog G.w) A (assignInOrder ts us) (fun _ s' => ∃ m' R', St G ((env.locals, .ns m') :: R') s' ∧ TupKeep s.heap s'.heap ∧ Q m' R') No s
variable {QM : (Str → Option AV) → Cells → Prop}
theorem Asg.bind {x : Str} {v : AV} (h : QM (upd m x v) R) (hx : env.kindOf x = some .local := by rfl)
    (hp : (env.scope.kind == .class || (env.scope.kind == .module && env.locals != env.globals)) = false := by rfl) : Asg G A env m R (bindName env x) v QM := fun _ _ st r =>
  wpAny_bindName (setName st r hx hp fun _ st₂ tk₂ => ⟨_, _, st₂, tk₂, h⟩)
theorem Asg.name {x : Str} {pos : Pos} {v : AV} (h : QM (upd m x v) R) (hx : env.kindOf x = some .local := by rfl)
    (hp : (env.scope.kind == .class || (env.scope.kind == .module && env.locals != env.globals)) = false := by rfl) : Asg G A env m R (assign (.Name x pos) env) v QM := fun _ _ st r =>
  wpAny_assign_Name (setName st r hx hp fun _ st₂ tk₂ => ⟨_, _, st₂, tk₂, h⟩)
theorem Asg.cel {x : Str} {pos : Pos} {v : AV} {c : Addr} {v₀ : Option AV} (hc : env.cells.lookup x = some c) (p : Put c (.cell v₀) (.cell (some v)) R R') (h : QM m R') (hx : env.kindOf x = some .cell := by rfl) (hk : env.scope.kind = .function := by rfl) :
    Asg G A env m R (assign (.Name x pos) env) v QM := fun s u st r => by
  obtain ⟨o, y, ho, hd, _⟩ := (st.at_ _ (.tail _ p.mem)).1
  refine wpAny_assign_Name (wpAny_storeName_cell hk hx hc ⟨o, ho, hd⟩ fun h' hv hs => ?_)
  obtain ⟨q1, q2⟩ := Sat.put st (Put.tail p) s.toks hs.extBut rfl (fun tk => by
    obtain ⟨o', ho', hd'⟩ := hv
    exact ⟨o', _, ho', hd', fun z e => by cases e; exact ⟨_, rfl, r.mono tk⟩⟩)
  exact ⟨_, _, q1, q2, h⟩
theorem AsgL.nil {R : Cells} (h : QM m R) : AsgL G A env m R [] [] QM := fun _ _ st r => by
  cases r with
  | nil => exact wpAny_pure ⟨_, _, st, TupKeep.refl _, h⟩
theorem AsgL.cons {t : Value → Sem Unit} {ts : List (Value → Sem Unit)} {v : AV} {vs : List AV} (h : Asg G A env m R t v fun m' R' => AsgL G A env m' R' ts vs QM) : AsgL G A env m R (t :: ts) (v :: vs) QM := fun s us st r => by
  cases r with
  | cons a b =>
    refine wpAny_bind (wpAny_holding (wpAny_mono (h s _ st a) ?_ fun _ _ x => x))
    rintro _ s₁ ⟨m', R', st₁, tk₁, h₁⟩
    exact wpAny_mono (h₁ s₁ _ st₁ (b.mono tk₁)) (fun _ _ ⟨m', R', st₂, tk₂, q⟩ => ⟨m', R', st₂, tk₁.trans tk₂, q⟩) fun _ _ x => x
theorem size_none (h : Heap) : h.get? h.objs.size = none := by
  cases e : h.get? h.objs.size with
  | none => rfl
  | some o => exact absurd (Heap.lt_size e) (Nat.lt_irrefl _)
theorem Asg.tup {elts : List Expr} {k : Nat} {pos : Pos} {vs : List AV} (hh : A.handled = none) (hn : (assignEach elts env).length = vs.length) (hstar : (assignEach elts env).findIdx? (·.1) = none)
    (h : AsgL G A env m R ((assignEach elts env).map (·.2)) vs QM) : Asg G A env m R (assign (.Tuple elts k pos) env) (.tup vs) QM := fun s u st r => by
  cases r with
  | tup e rs =>
    rename_i a n us
    refine wpAny_assign_Tuple hh (items := us.toArray) ⟨_, e, rfl, n, rfl⟩ (by rw [List.size_toArray, rs.length]; exact hn) hstar fun h' hs' => ?_
    obtain ⟨q1, q2⟩ := Sat.ext st s.toks hs' (Sat.fresh st) (Sat.baseFresh st) (fun vs n e => by rw [size_none] at e; cases e)
    exact wpAny_mono (h _ _ q1 (rs.mono q2)) (fun _ _ ⟨m', R', st₂, tk₂, q⟩ => ⟨m', R', st₂, q2.trans tk₂, q⟩) fun _ _ x => x

/-- «a, b = (x, y)» where the stores are exchanged -/
theorem Ex.swap {targets : List Expr} {value : Expr} {pos : Pos} {names : List Str} (hh : A.handled = none)
    (h : Ev G A env m R value fun v R' => ∃ vs, v = .tup vs ∧ vs.length = names.length ∧ AsgL G A env m R' (names.reverse.map fun n => bindName env n) vs.reverse fun m' R'' => QF .next m' R'')
    (hs : swapsWithSole targets value pos.line env = pure false := by rfl) (hw : swappedStores targets value env = pure (some names) := by rfl) : Ex G A env m R (.Assign targets value pos) QF := fun s st => by
  rw [exec_Assign_arm]
  refine wpAny_bind (wpAny_standAt ?_)
  rw [hs]
  refine wpAny_bind (wpAny_pure ?_)
  rw [if_neg (by decide)]
  refine wpAny_bind (wpAny_mono (h s st) ?_ fun _ _ x => x)
  rintro u s₁ ⟨v, R₁, ra, st₁, tk₁, vs, e, hl, h₁⟩
  rw [hw]
  refine wpAny_bind (wpAny_pure ?_)
  subst e
  cases ra with
  | @tup a n us _ e rs =>
    show wpAny _ _ (do
      rule "assign.swapped-stores"
      let items ← unpackItems (.ref a) names.length none
      assignInOrder (names.reverse.map fun n => bindName env n) items.reverse
      pure Flow.next) _ _ s₁
    refine wpAny_bind (wpAny_rule (wpAny_bind ?_))
    have hsz : names.length = us.toArray.size := by rw [List.size_toArray, rs.length, hl]
    rw [hsz]
    refine wpAny_unpackItems_tuple hh ⟨_, e, rfl, n, rfl⟩ fun h' hs' => ?_
    obtain ⟨q1, q2⟩ := Sat.ext st₁ s₁.toks hs' (Sat.fresh st₁) (Sat.baseFresh st₁) (fun vs n e => by rw [size_none] at e; cases e)
    have rr : ∀ {us : List Value} {vs : List AV}, Reps h' us vs → Reps h' us.reverse vs.reverse := by
      intro us vs r
      induction us generalizing vs with
      | nil => cases r; exact .nil
      | cons u us ih =>
        cases r with
        | cons a b => simp only [List.reverse_cons]; exact (ih b).append (.cons a .nil)
    refine wpAny_bind (wpAny_mono (h₁ _ _ q1 (rr (rs.mono q2))) (fun _ s₂ ⟨m', R', st₂, tk₂, q⟩ => wpAny_pure ⟨_, _, _, .next, st₂, (tk₁.trans q2).trans tk₂, q⟩) fun _ _ x => x)

/-- «a, b = e» by unpacking -/
theorem Ex.unp {elts : List Expr} {k : Nat} {tpos : Pos} {value : Expr} {pos : Pos}
    (h : Ev G A env m R value fun v R' => Asg G A env m R' (assign (.Tuple elts k tpos) env) v fun m' R'' => QF .next m' R'')
    (hs : swapsWithSole [.Tuple elts k tpos] value pos.line env = pure false := by rfl) (hw : swappedStores [.Tuple elts k tpos] value env = pure none := by rfl) : Ex G A env m R (.Assign [.Tuple elts k tpos] value pos) QF := fun s st => by
  refine PyProof.Rows.Assign_Tuple (hs := hs) (hw := hw) (wpAny_mono (h s st) ?_ fun _ _ x => x)
  rintro u s₁ ⟨v, R₁, ra, st₁, tk₁, h₁⟩
  exact wpAny_mono (h₁ s₁ u st₁ ra) (fun _ _ ⟨m', R', st₂, tk₂, q⟩ => ⟨_, _, _, .next, st₂, tk₁.trans tk₂, q⟩) fun _ _ x => x

theorem Ex.while {test : Expr} {body : List Stmt} {pos : Pos} (I : Nat → (Str → Option AV) → Cells → Prop) (n : Nat) (h0 : I n m R)
    (turn : ∀ n m R, I n m R → Tr G A env m R test fun b R₁ => if b then Exs G A env m R₁ body (fun fl m' R₂ => fl = .next ∧ ∃ k R₃, k < n ∧ Less R₂ R₃ ∧ I k m' R₃) else QF .next m R₁) : Ex G A env m R (.While test body [] pos) QF := fun s st => by
  refine wpAny_While (codeAny_whileLoop (fun n s' => ∃ m R, St G ((env.locals, .ns m) :: R) s' ∧ TupKeep s.heap s'.heap ∧ I n m R) ?_ n ⟨m, R, st, TupKeep.refl _, h0⟩)
  rintro n s₁ ⟨m, R, st₁, tk₁, hI⟩
  refine wpAny_mono (turn n m R hI s₁ st₁) ?_ fun _ _ x => x.elim
  rintro b s₂ ⟨c, R₁, rc, st₂, tk₂, h₂⟩
  have e : b = c := rc
  subst e
  cases b with
  | true =>
    simp only [if_true] at h₂ ⊢
    refine wpAny_mono (h₂ s₂ st₂) ?_ fun _ _ x => x.elim
    rintro f s₃ ⟨fl, m', R₂, rf, st₃, tk₃, e, k, R₃, hk, hl, hI'⟩
    subst e
    cases rf with
    | next => exact ⟨k, hk, m', R₃, st₃.less (let ⟨r, p⟩ := hl; ⟨r, List.Perm.cons _ p⟩), (tk₁.trans tk₂).trans tk₃, hI'⟩
  | false =>
    simp only [Bool.false_eq_true, if_false] at h₂ ⊢
    exact wpAny_execs_nil ⟨_, _, _, .next, st₂, tk₁.trans tk₂, h₂⟩
end

/-! part MD -/
theorem forLoopG {prog : Program} {w : World} {A : Around} {R : Result → Shared → Prop} {s : Shared} {target : Expr} {it : Value} {body : List Stmt} {env : Env} (I : Nat → Shared → Prop)
    (turn : ∀ n s, I n s → wpAny (model prog w) A (pyNext it) (fun r s₁ => match r with
      | none => R (.ok .next) s₁
      | some v => wpAny (model prog w) A (letOwnedTupleGo target it v) (fun _ s₂ => wpAny (model prog w) A (assign target env v) (fun _ s₂ => wpAny (model prog w) A (execs body env) (fun f s₃ => match f with
          | .next => ∃ m, m < n ∧ I m s₃
          | .ret v => R (.ok (.ret v)) s₃
          | _ => False) No s₂) No s₂) No s₁) No s)
    (n : Nat) (h : I n s) : codeAny (model prog w) A (.forLoop target it body [] env) R s := by
  refine codeAny_loop' rfl I (fun n s hI => ?_) n h
  show wpAny _ _ ((forTurn target it body [] env).onRaise (fun x => do noteFrame x env; theTreesLotGoes x)) _ _ s
  refine wpAny_noted ?_
  simp only [forTurn]
  refine wpAny_bind (wpAny_standAt (wpAny_bind (wpAny_onRaise (wpAny_mono (turn n s hI) (fun r s₁ h₁ => ?_) fun _ _ h' => h'.elim))))
  cases r with
  | none => exact wpAny_pure (.inr ⟨rfl, codeAny_block (wpAny_execs_nil h₁)⟩)
  | some v =>
    refine wpAny_bind (wpAny_mono h₁ (fun _ s₂ h₂ => ?_) fun _ _ h' => h'.elim)
    refine wpAny_bind (wpAny_mono h₂ (fun _ s₂ h₂ => wpAny_bind (wpAny_mono h₂ (fun f s₃ h₃ => ?_) fun _ _ h' => h'.elim)) fun _ _ h' => h'.elim)
    cases f with
    | next => exact wpAny_pure (.inl ⟨rfl, h₃⟩)
    | cont => exact h₃.elim
    | brk => exact h₃.elim
    | ret v => exact wpAny_pure h₃

section
variable {G : Gx} {A : Around} {env : Env} {m : Str → Option AV} {R R' : Cells} {Q : AV → Cells → Prop} {QF : Fl → (Str → Option AV) → Cells → Prop}

theorem less_under {c d : Addr × AO} {H H' : Cells} (x : Less H H') : Less (c :: H) (c :: H') := let ⟨r, p⟩ := x; ⟨r, List.Perm.cons _ p⟩
theorem less_cons {c : Addr × AO} {H H' : Cells} (x : Less H H') : Less (c :: H) (c :: H') := let ⟨r, p⟩ := x; ⟨r, List.Perm.cons _ p⟩

/-- what the for's own unpacking of a target asks -/
def Lets (target : Expr) : Prop := (∀ it v, letOwnedTupleGo target it v = pure ()) ∨ ∃ elts k pos, target = .Tuple elts k pos

theorem Ex.forL {target iter : Expr} {body : List Stmt} {pos : Pos} (hh : A.handled = none) (hl : Lets target)
    (h : Ev G A env m R iter fun v R₁ => ∃ T l, v = .ref T ∧ ∃ J : Nat → (Str → Option AV) → Cells → Prop, J 0 m R₁ ∧ (∀ i m R, J i m R → (T, AO.list l) ∈ R) ∧
      (∀ i x m R, l[i]? = some x → J i m R → ∀ it, Asg G A env m ((it, .iter T (i + 1)) :: R) (assign target env) x fun m₁ R₁ => Exs G A env m₁ R₁ body fun fl m₂ R₂ => fl = .next ∧ ∃ R₃, Less R₂ ((it, .iter T (i + 1)) :: R₃) ∧ J (i + 1) m₂ R₃) ∧
      (∀ m R, J l.length m R → QF .next m R))
    (hs : ∀ x, foldedSetIterable iter env x = pure x := by intro _; rfl) : Ex G A env m R (.For target iter body [] pos) QF := fun s st => by
  refine wpAny_For (hs := hs) (wpAny_mono (h s st) ?_ fun _ _ x => x)
  rintro u s₁ ⟨v, R₁, ra, st₁, tk₁, T, l, e, J, h0, hT, turn, done⟩
  subst e
  cases ra with
  | ref T =>
    obtain ⟨vs, n, hob, hrs⟩ := (st₁.at_ _ (.tail _ (hT _ _ _ h0))).1
    have hlist : s₁.heap.IsList T vs.toArray := ⟨_, hob, rfl, n, rfl⟩
    refine wpAny_pyIter_list hlist ?_
    have st₂ := Sat.new st₁ (y := .iter T 0) { cls := .type "list_iterator", data := .fields #[.ref T, .int 0 0] } s₁.toks ⟨_, Heap.get?_push_size _ rfl, rfl, rfl⟩
    generalize hI : s₁.heap.objs.size = I at st₂ ⊢
    refine forLoopG (fun n s' => ∃ i m R, St G ((env.locals, .ns m) :: (I, .iter T i) :: R) s' ∧ TupKeep s.heap s'.heap ∧ J i m R ∧ i ≤ l.length ∧ n = l.length + 1 - i) ?_ (l.length + 1) ⟨0, m, R₁, st₂.less less_swap, tk₁.trans (TupKeep.push _ _), h0, Nat.zero_le _, rfl⟩
    rintro n s' ⟨i, m, R, st', tk', hJ, hi, rfl⟩
    obtain ⟨vs, n, hob, hrs⟩ := (st'.at_ _ (.tail _ (.tail _ (hT _ _ _ hJ)))).1
    have hlist : s'.heap.IsList T vs.toArray := ⟨_, hob, rfl, n, rfl⟩
    have hit : s'.heap.IsListIter I T i := (st'.at_ _ (.tail _ (.head _))).1
    cases hx : l[i]? with
    | none =>
      have hil : i = l.length := by have := List.getElem?_eq_none_iff.mp hx; omega
      have hn : vs.toArray[i]? = none := by rw [List.getElem?_toArray, List.getElem?_eq_none_iff, hrs.length]; omega
      refine wpAny_pyNext_list_end hh hit hlist hn fun h' he => ?_
      have := Sat.put st' (a := I) (x := .iter T i) (y := .raw default) (Put.tail .head) s'.toks (h' := s'.heap) (fun _ _ _ e => e) rfl
      have st'' : St G ((env.locals, .ns m) :: R) s' := st'.less (less_cons (Less.drop (Less.refl _)))
      have hnI : I ∉ ((env.locals, AO.ns m) :: R).map (·.1) := by
        have nd := st'.nd
        simp only [List.map_cons, List.nodup_cons, List.mem_cons, not_or] at nd ⊢
        exact ⟨fun e => nd.1.1 e.symm, nd.2.1⟩
      have hbI : G.base.get? I = none := (st'.at_ _ (.tail _ (.head _))).2
      have htI := (st'.at_ (I, .iter T i) (.tail _ (.head _))).1.notTup rfl
      obtain ⟨q1, q2⟩ := Sat.ext st'' s'.toks he hnI hbI htI
      exact ⟨_, _, _, .next, q1, tk'.trans q2, done _ _ (hil ▸ hJ)⟩
    | some x =>
      obtain ⟨u, hu, ru⟩ := hrs.get hx
      refine wpAny_pyNext_list_item hit hlist (x := u) (by rw [List.getElem?_toArray]; exact hu) fun h' hit' hs' => ?_
      obtain ⟨q1, q2⟩ := Sat.put st' (a := I) (x := .iter T i) (y := .iter T (i + 1)) (Put.tail .head) s'.toks hs'.extBut rfl (fun _ => hit')
      have ru' := ru.mono q2
      have fin : wpAny (model G.prog G.w) A (assign target env u) (fun _ s₂ => wpAny (model G.prog G.w) A (execs body env) (fun f s₃ => match f with
          | .next => ∃ k, k < l.length + 1 - i ∧ ∃ i m R, St G ((env.locals, .ns m) :: (I, .iter T i) :: R) s₃ ∧ TupKeep s.heap s₃.heap ∧ J i m R ∧ i ≤ l.length ∧ k = l.length + 1 - i
          | .ret v => PstF G env QF s (.ret v) s₃
          | _ => False) No s₂) No { s' with heap := h', toks := s'.toks } := by
        refine wpAny_mono (turn i x m R hx hJ I _ u q1 ru') ?_ fun _ _ x => x
        rintro _ s₃ ⟨m₁, R₁, st₃, tk₃, h₃⟩
        refine wpAny_mono (h₃ s₃ st₃) ?_ fun _ _ x => x
        rintro f s₄ ⟨fl, m₂, R₂, rf, st₄, tk₄, e, R₃, hl, hJ'⟩
        subst e
        cases rf with
        | next =>
          have hlt : i < l.length := by
            rcases Nat.lt_or_ge i l.length with q | q
            · exact q
            · rw [List.getElem?_eq_none_iff.mpr q] at hx; cases hx
          exact ⟨l.length + 1 - (i + 1), by omega, i + 1, m₂, R₃, st₄.less (less_cons hl), ((tk'.trans q2).trans tk₃).trans tk₄, hJ', hlt, rfl⟩
      show wpAny _ _ (letOwnedTupleGo target (Value.ref I) u) _ _ _
      rcases hl with hl | ⟨elts, k, p, rfl⟩
      · rw [hl]; exact wpAny_pure fin
      · cases u with
        | ref b => exact wpAny_letOwnedTupleGo_listiter hit' fin
        | _ => exact wpAny_pure fin

/-- range(e) -/
theorem evalRange {C : Nat → Cells → Prop} (ok : Ok G) {e : Expr} {p pos : Pos} (hg : nsIn G.K mainGlobals "range" = some none) (h : Ev G A env m R e fun v R₁ => ∃ n : Nat, v = .int n ∧ C n R₁)
    (hx : env.kindOf "range" = some .globalImplicit) (hk : env.scope.kind = .function) (hgl : env.globals = mainGlobals) (hb : env.builtins = builtinsNs)
    (hst : starEach [e] env = [(false, eval e env)]) {P : Value → Shared → Prop} {s : Shared} (st : St G ((env.locals, .ns m) :: R) s)
    (hP : ∀ (r : Addr) (n : Nat) (t u v : Tok) (s' : Shared) (R₁ : Cells), IsRange s'.heap r 0 n 1 t u v → St G ((env.locals, .ns m) :: R₁) s' → TupKeep s.heap s'.heap → C n R₁ → P (.ref r) s') :
    wpAny (model G.prog G.w) A (eval (.Call (.Name "range" p) [e] [] pos) env) P No s := by
  rw [arm_eval_Call_Name']
  have hn : Ev G A env m R (.Name "range" p) fun fv R₁ => fv = .con (.type "range") ∧ R₁ = R := Ev.blt ok hg (v := .type "range") (by decide +kernel) (by decide) ⟨rfl, rfl⟩ (hk := hk) (hx := hx) (hg := hgl) (hb := hb)
  refine wpAny_bind (wpAny_mono (hn s st) ?_ fun _ _ x => x)
  rintro f s₁ ⟨fv, R₁, rf, st₁, tk₁, e1, e2⟩
  subst e1 e2
  cases rf with
  | con _ _ =>
    show wpAny _ _ (callWith pos (.type "range") [] (backTo pos (starEach [e] env)) []) _ _ _
    rw [hst]
    refine callWith_of (P := fun _ => True) rfl (fun h _ => ⟨.machine, .inr (.inl rfl), Looks.of_pure rfl⟩) (evalArgs_plain (spliced_cons (wpAny_mono (h s₁ st₁) (fun u s₂ ⟨v, R₂, ra, st₂, tk₂, n, e, c⟩ => spliced_nil ⟨trivial, ?_⟩) fun _ _ x => x)))
    subst e
    cases ra with
    | int _ t =>
      refine call_range_1 (hP s₂.heap.objs.size n s₂.toks t (s₂.toks + 1) _ R₂ (Heap.get?_push_size _ rfl) (st₂.push _ _) ((tk₁.trans tk₂).trans (TupKeep.push _ _)) c)

/-- for over range(n) -/
theorem Ex.forR {x : Str} {p pp px pos : Pos} {e : Expr} {body : List Stmt} (ok : Ok G) (hh : A.handled = none) (hg : nsIn G.K mainGlobals "range" = some none)
    (h : Ev G A env m R e fun v R₁ => ∃ n : Nat, v = .int n ∧ ((n : Int) < 2 ^ 40 ∧ ∃ J : Nat → (Str → Option AV) → Cells → Prop, J 0 m R₁ ∧
          (∀ i m R, i < n → J i m R → ∀ it, Asg G A env m ((it, .riter (i + 1) ((n : Int) - (i + 1 : Nat)) 1) :: R) (assign (.Name x px) env) (.int i) fun m₁ R₁ => Exs G A env m₁ R₁ body fun fl m₂ R₂ => fl = .next ∧ ∃ R₃, Less R₂ ((it, .riter (i + 1) ((n : Int) - (i + 1 : Nat)) 1) :: R₃) ∧ J (i + 1) m₂ R₃) ∧
          (∀ m R, J n m R → QF .next m R)))
    (hx : env.kindOf "range" = some .globalImplicit := by rfl) (hk : env.scope.kind = .function := by rfl) (hgl : env.globals = mainGlobals := by rfl) (hb : env.builtins = builtinsNs := by rfl)
    (hst : starEach [e] env = [(false, eval e env)] := by rfl) : Ex G A env m R (.For (.Name x px) (.Call (.Name "range" p) [e] [] pp) body [] pos) QF := fun s st => by
  refine wpAny_For (evalRange ok hg h hx hk hgl hb hst st ?_) (by intro _; rfl)
  rintro r n t u v s₁ R₁ hr st₁ tk₁ ⟨hn, J, h0, turn, done⟩
  refine wpAny_pyIter_range hr (small_one (by decide) (by decide) (by omega) (by omega)) ?_
  rw [rangeSize_one]
  have hsz : (if (0 : Int) < (n : Int) then (n : Int) - 0 else 0) = n := by split <;> omega
  rw [hsz]
  have st₂ := Sat.new st₁ (y := .riter 0 n 1) { cls := .type "range_iterator", data := .fields #[rawInt 0, rawInt n, rawInt 1] } s₁.toks (Heap.get?_push_size _ rfl)
  generalize hI : s₁.heap.objs.size = I at st₂ ⊢
  refine forLoopG (fun k s' => ∃ (i : Nat) (m : Str → Option AV) (R : Cells), St G ((env.locals, .ns m) :: (I, .riter i ((n : Int) - (i : Nat)) 1) :: R) s' ∧ TupKeep s.heap s'.heap ∧ J i m R ∧ i ≤ n ∧ k = n + 1 - i) ?_ (n + 1)
    ⟨0, m, R₁, by simpa using st₂.less less_swap, tk₁.trans (TupKeep.push _ _), h0, Nat.zero_le _, rfl⟩
  rintro k s' ⟨i, m, R, st', tk', hJ, hi, rfl⟩
  have hit : IsRangeIter s'.heap I i ((n : Int) - (i : Nat)) 1 := (st'.at_ _ (.tail _ (.head _))).1
  by_cases hlt : i < n
  · refine wpAny_pyNext_range_item hit (by omega) fun h' hit' hs' => ?_
    have e1 : (n : Int) - (i : Nat) - 1 = (n : Int) - ((i + 1 : Nat) : Int) := by omega
    rw [e1] at hit'
    obtain ⟨q1, q2⟩ := Sat.put st' (a := I) (x := .riter i ((n : Int) - (i : Nat)) 1) (y := .riter (i + 1) ((n : Int) - (i + 1 : Nat)) 1) (Put.tail .head) (s'.toks + 1) hs'.extBut rfl (fun _ => hit')
    show wpAny _ _ (pure ()) _ _ _
    refine wpAny_pure ?_
    refine wpAny_mono (turn i m R hlt hJ I _ (.int i s'.toks) q1 (.int _ _)) ?_ fun _ _ x => x
    rintro _ s₃ ⟨m₁, R₁, st₃, tk₃, h₃⟩
    refine wpAny_mono (h₃ s₃ st₃) ?_ fun _ _ x => x
    rintro f s₄ ⟨fl, m₂, R₂, rf, st₄, tk₄, e, R₃, hl, hJ'⟩
    subst e
    cases rf with
    | next =>
      refine ⟨n + 1 - (i + 1), by omega, i + 1, m₂, R₃, ?_, ((tk'.trans q2).trans tk₃).trans tk₄, hJ', hlt, rfl⟩
      exact st₄.less (less_cons hl)
  · have hin : i = n := by omega
    subst hin
    refine wpAny_pyNext_range_end hh hit (by omega) fun h' he => ?_
    have st'' : St G ((env.locals, .ns m) :: R) s' := st'.less (less_cons (Less.drop (Less.refl _)))
    have hnI : I ∉ ((env.locals, AO.ns m) :: R).map (·.1) := by
      have nd := st'.nd
      simp only [List.map_cons, List.nodup_cons, List.mem_cons, not_or] at nd ⊢
      exact ⟨fun e => nd.1.1 e.symm, nd.2.1⟩
    have hbI : G.base.get? I = none := (st'.at_ _ (.tail _ (.head _))).2
    have htI := (st'.at_ (I, _) (.tail _ (.head _))).1.notTup rfl
    obtain ⟨q1, q2⟩ := Sat.ext st'' s'.toks he hnI hbI htI
    exact ⟨_, _, _, .next, q1, tk'.trans q2, done _ _ hJ⟩
end

/-! part ME -/
section
variable {G : Gx} {A : Around} {env : Env} {m : Str → Option AV} {R R' : Cells} {Q : AV → Cells → Prop} {QF : Fl → (Str → Option AV) → Cells → Prop}

theorem Sat.enter {H : Cells} {s : Shared} (x : St G H s) {h : Heap} (t : Nat) (k : ∀ b o, s.heap.get? b = some o → h.get? b = some o) {y : AO} (hy : At G.prog G.w h s.heap.objs.size y) :
    St G ((s.heap.objs.size, y) :: H) { s with heap := h, toks := t } ∧ TupKeep s.heap h := by
  have tk : TupKeep s.heap h := fun a vs n e => k _ _ e
  refine ⟨⟨fun b o e => k b o (x.keep b o e), List.nodup_cons.mpr ⟨Sat.fresh x, x.nd⟩, fun c hc => ?_, x.gens, x.drawn, x.os⟩, tk⟩
  rcases List.mem_cons.mp hc with rfl | hc
  · exact ⟨hy, Sat.baseFresh x⟩
  · exact ⟨(x.at_ c hc).1.mono (fun o e => k _ _ e) tk, (x.at_ c hc).2⟩

theorem lookup_rep {h : Heap} : ∀ {ns : List Str} {us : List Value} {as : List AV}, Reps h us as → ∀ x, OptRep h ((ns.zip us).lookup x) ((ns.zip as).lookup x)
  | [], _, _, _, x => by simp; exact .none
  | _ :: _, _, _, .nil, x => by simp; exact .none
  | n :: ns, _, _, .cons a b, x => by
    simp only [List.zip_cons_cons, List.lookup_cons]
    cases x == n with
    | true => exact .some a
    | false => exact lookup_rep b x
theorem lookup_append' {β : Type} : ∀ (l r : List (Str × β)) (x : Str), (l ++ r).lookup x = (l.lookup x).or (r.lookup x)
  | [], _, _ => by simp
  | (a, b) :: l, r, x => by
    simp only [List.cons_append, List.lookup_cons]
    cases x == a with
    | true => rfl
    | false => exact lookup_append' l r x
theorem lookup_rep_rev {h : Heap} : ∀ {ns : List Str} {us : List Value} {as : List AV}, Reps h us as → ∀ x, OptRep h ((ns.zip us).reverse.lookup x) ((ns.zip as).reverse.lookup x)
  | [], _, _, _, x => by simp; exact .none
  | _ :: _, _, _, .nil, x => by simp; exact .none
  | n :: ns, _, _, .cons (v := v) (x := y) (vs := vs) (l := l) a b, x => by
    simp only [List.zip_cons_cons, List.reverse_cons, lookup_append']
    have ih := lookup_rep_rev (ns := ns) b x
    generalize List.lookup x (ns.zip vs).reverse = p at ih ⊢
    generalize List.lookup x (ns.zip l).reverse = q at ih ⊢
    cases ih with
    | some r => simp only [Option.some_or]; exact .some r
    | none =>
      simp only [Option.none_or, List.lookup_cons, List.lookup_nil]
      cases x == n with
      | true => exact .some a
      | false => exact .none

/-- a def: from its body -/
theorem Fn.intro (ok : Ok G) {n : Nat} {f : Addr} {FP : Cells} {args : List AV} {Qc : AV → Cells → Prop} {name qual : Str} {params : Arguments} {body : List Stmt} {scope : Scope} {dV kV doc pm cdv ct oc : Value} {an od : Option Addr} {osl : Array (Option Value)}
    (ho : G.K.lookup f = some ⟨oc, od, .func (fnOf name qual params body scope dV kV doc pm an cdv ct), osl⟩) (hcd : codeIn G.K cdv qual = true) (names : List Str)
    (hbind : ∀ us : List Value, us.length = args.length → bindArgs (fnOf name qual params body scope dV kV doc pm an cdv ct) ⟨us, []⟩ = pure (names.zip us)) (hloc : ∀ y ∈ names, scope.names.lookup y = some .local)
    (h : ∀ A F L, Room A n → Exs G A (envX qual scope L f cdv []) (fun y => (names.zip args).reverse.lookup y) (FP ++ F) body (fun fl m' R' => ∃ FP', Less R' (FP' ++ F) ∧ Qc (match fl with | .ret v => v | .next => .none) FP'))
    (hcell : ∀ x ∈ scope.names, x.2 ≠ .cell := by decide) (hco : scope.isCoroutine = false := by rfl) (hgen : scope.isGenerator = false := by rfl) (hk : scope.kind = .function := by rfl) : Fn G (n + 1) f args FP Qc := by
  intro A F rm s us st rs
  obtain ⟨p, loose, mg, mb, T⟩ := ok.T
  refine codeAny_call_def (binds := names.zip us) rm.lt (ok.X.keeps st.keep _ _ ho) rfl (T.nolimit.keeps st.keep) (codeRec_of (ok.X.keeps st.keep) hcd) rfl (BindsTo.of_eq (hbind us rs.length)) hcell (fun y hy => hloc _ (List.of_mem_zip hy).1) (fun h₀ hns hk₀ => ?_) hco hgen hk
  have tk₀ : TupKeep s.heap h₀ := fun a vs n e => hk₀ _ _ e
  obtain ⟨q1, q2⟩ := Sat.enter st (s.toks + (names.zip us).length) hk₀ (y := .ns (fun y => (names.zip args).reverse.lookup y)) ⟨_, hns, fun x => (lookup_rep_rev (rs.mono tk₀) x)⟩
  show wpAny _ (A.deeper (envX qual scope s.heap.objs.size f cdv [])) (execs body (envX qual scope s.heap.objs.size f cdv [])) _ _ _
  refine wpAny_mono (h _ F s.heap.objs.size (rm.deeper _) _ q1) ?_ fun _ _ x => x.elim
  rintro fl s' ⟨fl', m', R', rf, st', tk', FP', l, q⟩
  cases rf with
  | next => exact ⟨_, rfl, _, R', .none, st'.less (Less.drop (Less.refl _)), q2.trans tk', FP', l, q⟩
  | ret r => exact ⟨_, rfl, _, R', r, st'.less (Less.drop (Less.refl _)), q2.trans tk', FP', l, q⟩

/-- an object of an own class made -/
theorem OpC.new (ok : Ok G) {n : Nat} {C fI : Addr} {args : List AV} {FP F₀ : Cells} {Qc : Addr → Addr → AV → Cells → Prop} (hm : makesIn G.K C = true) (hi : findIn G.K (.ref C) "__init__" = some (some (.ref fI))) (hf : typeIn G.K (.ref fI) = some (.type "function"))
    (hfn : ∀ x dx, Fn G n fI (.ref x :: args) ((x, .raw (instObj C dx)) :: (dx, .inst (fun _ => none) 0) :: FP) (Qc x dx)) (rm : Room A (n + 1)) (l : Less R (FP ++ F₀)) (h : ∀ x dx v FP', Qc x dx v FP' → v = .none ∧ Q (.ref x) (FP' ++ F₀)) :
    OpC G A ((env.locals, .ns m) :: R) (.ref C) args (Lc env m Q) := fun s fv us st rf rs => by
  cases rf with
  | ref _ =>
    refine wpAny_call ?_
    have st₀ := st.less (less_front l)
    obtain ⟨hh, g, d, t, os⟩ := s
    have X := ok.X.keeps st.keep
    refine make_core (makes_of X hm) (looks_findIn X hi) (fun self => bind_fn X self hf) (.inl rfl) ?_
    have st₁ := Sat.new st₀ (y := .inst (fun _ => none) 0) emptyDict t ⟨fun _ => none, _, #[], 0, Heap.get?_push_size _ rfl, rfl, fun e he => by simp at he, fun _ => rfl, fun _ => .none, Nat.le_refl _⟩
    have st₂ := Sat.new st₁ (y := .raw (instObj C hh.objs.size)) (instObj C hh.objs.size) t (Heap.get?_push_size _ rfl)
    have tk : TupKeep hh ((hh.push emptyDict).push (instObj C hh.objs.size)) := (TupKeep.push _ _).trans (TupKeep.push _ _)
    have hsz : (hh.push emptyDict).objs.size = hh.objs.size + 1 := Heap.size_push _ _
    dsimp only at st₂
    rw [hsz] at st₂
    have rm' : Room (A.under (.builtin "type.__call__" ⟨.ref C :: us, []⟩)) n := ⟨rm.handled, by have := rm.depth; show A.depth + 1 + n < 900; omega, by have := rm.units; show A.units + 1 + 100 * n + 100 < cLine; omega⟩
    refine codeAny_mono (hfn (hh.objs.size + 1) hh.objs.size _ ((env.locals, AO.ns m) :: F₀) rm' _ (.ref (hh.objs.size + 1) :: us) st₂ (.cons (.ref _) (rs.mono tk))) ?_
    rintro r s' ⟨v, e, b, H', rb, st', tk', FP', l', q⟩
    subst e
    obtain ⟨hv, hq⟩ := h _ _ _ _ q
    subst hv
    cases rb with
    | none => exact ⟨rfl, .ref _, H', .ref _, st', tk.trans tk', FP' ++ F₀, l'.trans less_back, hq⟩

/-- what a comprehension goes over -/
inductive Src where
  | list (T : Addr) (l : List AV)
  | range (n : Nat)
def Src.len : Src → Nat
  | .list _ l => l.length
  | .range n => n
def Src.val : Src → Nat → Option AV
  | .list _ l, i => l[i]?
  | .range n, i => if i < n then some (.int i) else none
def Src.ao : Src → Nat → AO
  | .list T _, i => .iter T i
  | .range n, i => .riter i ((n : Int) - (i : Nat)) 1
def Src.In : Src → Cells → Prop
  | .list T l, R => (T, AO.list l) ∈ R
  | .range _, _ => True
theorem Src.lt {src : Src} {i : Nat} {x : AV} (h : src.val i = some x) : i < src.len := by
  cases src with
  | list T l =>
    rcases Nat.lt_or_ge i l.length with q | q
    · exact q
    · simp only [Src.val, List.getElem?_eq_none_iff.mpr q] at h; cases h
  | range n =>
    by_cases q : i < n
    · exact q
    · simp [Src.val, q] at h
theorem Src.at_len (src : Src) : src.val src.len = none := by cases src <;> simp [Src.val, Src.len]

theorem next_item (hh : A.handled = none) {src : Src} {I : Addr} {i : Nat} {x : AV} {H : Cells} {s : Shared} {P : Option Value → Shared → Prop} (hx : src.val i = some x) (st : St G ((I, src.ao i) :: H) s) (hs : src.In H)
    (h : ∀ u s', Rep s'.heap u x → St G ((I, src.ao (i + 1)) :: H) s' → TupKeep s.heap s'.heap → P (some u) s') : wpAny (model G.prog G.w) A (pyNext (.ref I)) P No s := by
  cases src with
  | list T l =>
    obtain ⟨vs, n, hob, hrs⟩ := (st.at_ _ (.tail _ hs)).1
    obtain ⟨u, hu, ru⟩ := hrs.get hx
    refine wpAny_pyNext_list_item (Sat.head st) ⟨_, hob, rfl, n, rfl⟩ (x := u) (by rw [List.getElem?_toArray]; exact hu) fun h' hit' hs' => ?_
    obtain ⟨q1, q2⟩ := Sat.put st (a := I) (x := .iter T i) (y := .iter T (i + 1)) .head s.toks hs'.extBut rfl (fun _ => hit')
    exact h u _ (ru.mono q2) q1 q2
  | range n =>
    have hlt := Src.lt hx
    simp only [Src.len] at hlt
    simp only [Src.val, if_pos hlt, Option.some.injEq] at hx
    subst hx
    have hit : IsRangeIter s.heap I i ((n : Int) - (i : Nat)) 1 := Sat.head st
    refine wpAny_pyNext_range_item hit (by omega) fun h' hit' hs' => ?_
    have e1 : (n : Int) - (i : Nat) - 1 = (n : Int) - ((i + 1 : Nat) : Int) := by omega
    rw [e1] at hit'
    obtain ⟨q1, q2⟩ := Sat.put st (a := I) (x := .riter i ((n : Int) - (i : Nat)) 1) (y := .riter (i + 1 : Nat) ((n : Int) - (i + 1 : Nat)) 1) .head (s.toks + 1) hs'.extBut rfl (fun _ => hit')
    exact h _ _ (.int _ _) q1 q2
theorem next_end (hh : A.handled = none) {src : Src} {I : Addr} {H : Cells} {s : Shared} {P : Option Value → Shared → Prop} (st : St G ((I, src.ao src.len) :: H) s) (hs : src.In H)
    (h : ∀ s', St G H s' → TupKeep s.heap s'.heap → P none s') : wpAny (model G.prog G.w) A (pyNext (.ref I)) P No s := by
  have fin : ∀ h', Heap.ExtBut I s.heap h' → P none { s with heap := h' } := fun h' he => by
    have hraw : (src.ao src.len).isRaw = false := by cases src <;> rfl
    have nd := st.nd
    simp only [List.map_cons, List.nodup_cons] at nd
    obtain ⟨q1, q2⟩ := Sat.ext (st.less (Less.drop (Less.refl _))) s.toks he nd.1 (st.at_ _ (.head _)).2 ((Sat.head st).notTup hraw)
    exact h _ q1 q2
  cases src with
  | list T l =>
    obtain ⟨vs, n, hob, hrs⟩ := (st.at_ _ (.tail _ hs)).1
    exact wpAny_pyNext_list_end hh (Sat.head st) ⟨_, hob, rfl, n, rfl⟩ (by rw [List.getElem?_toArray, List.getElem?_eq_none_iff, hrs.length]; exact Nat.le_refl _) fin
  | range n =>
    have hit : IsRangeIter s.heap I (n : Nat) ((n : Int) - (n : Nat)) 1 := Sat.head st
    exact wpAny_pyNext_range_end hh hit (by omega) fin
theorem iter_again {src : Src} {I : Addr} {i : Nat} {H : Cells} {s : Shared} {P : Value → Shared → Prop} (st : St G ((I, src.ao i) :: H) s) (h : P (.ref I) s) : wpAny (model G.prog G.w) A (pyIter (.ref I)) P No s := by
  cases src with
  | list T l => exact wpAny_pyIter_listiter (Sat.head st) h
  | range n =>
    have hit : IsRangeIter s.heap I i ((n : Int) - (i : Nat)) 1 := Sat.head st
    exact wpAny_pyIter_rangeiter hit h
/-- an iterator laid -/
theorem iter_new {src : Src} {H : Cells} {s : Shared} {P : Value → Shared → Prop} {v : Value} (st : St G H s) (hs : src.In H) (hv : match src with | .list T _ => v = .ref T | .range n => (n : Int) < 2 ^ 40 ∧ ∃ r t u w, v = .ref r ∧ IsRange s.heap r 0 n 1 t u w)
    (h : ∀ I s', St G ((I, src.ao 0) :: H) s' → TupKeep s.heap s'.heap → P (.ref I) s') : wpAny (model G.prog G.w) A (pyIter v) P No s := by
  cases src with
  | list T l =>
    subst hv
    obtain ⟨vs, n, hob, hrs⟩ := (st.at_ _ hs).1
    refine wpAny_pyIter_list ⟨_, hob, rfl, n, rfl⟩ ?_
    exact h _ _ (Sat.new st (y := .iter T 0) _ s.toks ⟨_, Heap.get?_push_size _ rfl, rfl, rfl⟩) (TupKeep.push _ _)
  | range n =>
    obtain ⟨hn, r, t, u, w, rfl, hr⟩ := hv
    refine wpAny_pyIter_range hr (small_one (by decide) (by decide) (by omega) (by omega)) ?_
    rw [rangeSize_one]
    have hsz : (if (0 : Int) < (n : Int) then (n : Int) - 0 else 0) = n := by split <;> omega
    rw [hsz]
    refine h _ _ ?_ (TupKeep.push _ _)
    have := Sat.new st (y := .riter 0 n 1) { cls := .type "range_iterator", data := .fields #[rawInt 0, rawInt n, rawInt 1] } s.toks (Heap.get?_push_size _ rfl)
    simpa [Src.ao] using this

/-- the body of a comprehension; J: the list so far, the cells beside -/
def CompTurn (G : Gx) (A : Around) (cenv : Nat → Env) (x : Str) (elt : Expr) (src : Src) (m : Str → Option AV) (L : Addr) (J : Nat → List AV → Cells → Prop) : Prop :=
  ∀ i y ys R, src.val i = some y → J i ys R → src.In R ∧ ∀ C D I mc, mc x = some y → Ev G A (cenv C) mc ((D, .list ys) :: (I, src.ao (i + 1)) :: (L, .ns m) :: R) elt fun v R' =>
    ∃ R'', Less R' ((D, .list ys) :: (I, src.ao (i + 1)) :: (L, .ns m) :: R'') ∧ J (i + 1) (ys ++ [v]) R''

theorem Src.In.more {src : Src} {H H' : Cells} (h : src.In H) (k : ∀ c ∈ H, c ∈ H') : src.In H' := by
  cases src with
  | list T l => exact k _ h
  | range n => trivial

theorem compBlock (hh : A.handled = none) {elt iter : Expr} {x : Str} {px pos : Pos} {scope : Scope} {cl : List (Str × Addr)} {src : Src} {I L : Addr} {J : Nat → List AV → Cells → Prop} {s : Shared} {RR : Value → Addr → Result → Shared → Prop}
    (hcell : ∀ y ∈ scope.names, y.2 ≠ .cell) (hkind : scope.kind = .function) (hx : scope.names.lookup x = some .local) (hsz : src.len < 2 ^ 20)
    (st : St G ((I, src.ao 0) :: (L, .ns m) :: R) s) (h0 : J 0 [] R) (hin : ∀ i ys R, J i ys R → src.In R) (turn : CompTurn G A (fun C => compEnvC scope cl C env) x elt src m L J)
    (hlen : ∀ i ys R, J i ys R → ys.length = i)
    (done : ∀ D C ys R' s', J src.len ys R' → (∃ mc, s'.heap.Ns C mc) → C ∉ ((D, AO.list ys) :: (L, AO.ns m) :: R').map (·.1) → G.base.get? C = none → (∀ vs n, s'.heap.get? C ≠ some (tupObj vs n)) → St G ((D, .list ys) :: (L, .ns m) :: R') s' → TupKeep s.heap s'.heap → RR (.ref D) C (.ok .next) s') :
    wpAny (model G.prog G.w) A (newList []) (fun acc s₃ => wpAny (model G.prog G.w) A (newFunctionEnv scope env.globals cl [] env.qual none .none (some env)) (fun cenv s₄ =>
      codeAny (model G.prog G.w) A (.compStart (.ListComp elt [⟨.Name x px, iter, [], 0⟩] scope pos) 0 (.ref I) acc { cenv with scope := relabel scope env }) (RR acc cenv.locals) s₄) No s₃) No s := by
  refine wpAny_newList ?_ (by size_fits)
  have st₁ : St G ((s.heap.objs.size, .list []) :: (I, src.ao 0) :: (L, .ns m) :: R) { s with heap := s.heap.push { cls := .type "list", data := .seq ([] : List Value).toArray } } := Sat.newL st .nil s.toks
  generalize hD : s.heap.objs.size = D at st₁ ⊢
  have tk₁ : TupKeep s.heap (s.heap.push { cls := .type "list", data := .seq ([] : List Value).toArray }) := TupKeep.push _ _
  generalize hH1 : s.heap.push { cls := .type "list", data := .seq ([] : List Value).toArray } = H1 at st₁ tk₁ ⊢
  refine wpAny_newFunctionEnv hcell (by intro y hy; simp at hy) (fun h₁ hns₁ hsb₁ => ?_) hkind
  dsimp only at hns₁ hsb₁ ⊢
  obtain ⟨st₂, tk₂⟩ := Sat.enter st₁ (s.toks + ([] : List (Str × Value)).length) (h := h₁) (fun b o e => hsb₁.extBut b o (Nat.ne_of_lt (Heap.lt_size e)) (Heap.get?_push_of_some _ e)) (y := .ns fun _ => none) ⟨_, hns₁, fun _ => .none⟩
  dsimp only at st₂ tk₂
  generalize hC : H1.objs.size = C at st₂ hns₁ ⊢
  have hkx : (compEnvC scope cl C env).kindOf x = some .local := lookup_relabel_local hx
  have hpl : ((compEnvC scope cl C env).scope.kind == .class || ((compEnvC scope cl C env).scope.kind == .module && (compEnvC scope cl C env).locals != (compEnvC scope cl C env).globals)) = false := by
    show (scope.kind == .class || (scope.kind == .module && _)) = false
    rw [hkind]; rfl
  have loop : ∀ s₃, s₃ = { s with heap := h₁, toks := s.toks + ([] : List (Str × Value)).length } → codeAny (model G.prog G.w) A (.compLoop (.ListComp elt [⟨.Name x px, iter, [], 0⟩] scope pos) 0 (.ref I) (.ref D) (compEnvC scope cl C env)) (RR (.ref D) C) s₃ := by
    rintro s₃ rfl
    refine codeAny_compLoop_list (fun k s' => ∃ (i : Nat) (ys : List AV) (mc : Str → Option AV) (R : Cells), St G ((I, src.ao i) :: (C, .ns mc) :: (D, .list ys) :: (L, .ns m) :: R) s' ∧ TupKeep s.heap s'.heap ∧ J i ys R ∧ i ≤ src.len ∧ k = src.len + 1 - i) ?_ (src.len + 1)
      ⟨0, [], _, R, st₂.less ⟨[], by rw [List.append_nil]; exact (List.Perm.cons _ (List.Perm.swap _ _ _)).trans (List.Perm.swap _ _ _)⟩, tk₁.trans tk₂, h0, Nat.zero_le _, rfl⟩
    rintro k s' ⟨i, ys, mc, R, st', tk', hJ, hi, rfl⟩
    have hin' : src.In ((C, .ns mc) :: (D, .list ys) :: (L, .ns m) :: R) := (hin i ys R hJ).more fun c hc => .tail _ (.tail _ (.tail _ hc))
    refine wpAny_mono (E := No) (Q := fun r s₁ => match r with
      | none => RR (.ref D) C (.ok .next) s₁
      | some v => wpAny (model G.prog G.w) A (assign (.Name x px) (compEnvC scope cl C env) v) (fun _ s₂ => wpAny (model G.prog G.w) A (eval elt (compEnvC scope cl C env)) (fun y s₃ =>
          wpAny (model G.prog G.w) A (call (.builtin "list.append") [.ref D, y]) (fun _ s₄ => ∃ k, k < src.len + 1 - i ∧ ∃ (i : Nat) (ys : List AV) (mc : Str → Option AV) (R : Cells), St G ((I, src.ao i) :: (C, .ns mc) :: (D, .list ys) :: (L, .ns m) :: R) s₄ ∧ TupKeep s.heap s₄.heap ∧ J i ys R ∧ i ≤ src.len ∧ k = src.len + 1 - i) No s₃) No s₂) No s₁)
      ?_ (fun r s₁ h => ?_) fun _ _ x => x.elim
    · cases hv : src.val i with
      | none =>
        have hil : i = src.len := by
          rcases Nat.lt_or_ge i src.len with q | q
          · exfalso
            cases src with
            | list T l => simp only [Src.val, Src.len] at hv q; rw [List.getElem?_eq_getElem q] at hv; cases hv
            | range n => simp only [Src.val, Src.len] at hv q; rw [if_pos q] at hv; cases hv
          · omega
        subst hil
        refine next_end hh st' hin' fun s'' st'' tk'' => ?_
        have nd := st''.nd
        simp only [List.map_cons, List.nodup_cons] at nd
        have hat := (st''.at_ _ (.head _)).1
        exact done D C ys R s'' hJ (let ⟨mc', e, _⟩ := hat; ⟨mc', e⟩) (by simpa only [List.map_cons] using nd.1) (st''.at_ _ (.head _)).2 (hat.notTup rfl) (st''.less (Less.drop (Less.refl _))) (tk'.trans tk'')
      | some y =>
        refine next_item hh hv st' hin' fun u s'' ru st'' tk'' => ?_
        have stc : St G (((compEnvC scope cl C env).locals, .ns mc) :: (D, .list ys) :: (I, src.ao (i + 1)) :: (L, .ns m) :: R) s'' := st''.less ⟨[], by rw [List.append_nil]; exact (List.Perm.swap _ _ _).trans (List.Perm.cons _ (List.Perm.swap _ _ _))⟩
        refine wpAny_assign_Name (setName stc ru hkx hpl fun s₃ st₃ tk₃ => ?_)
        refine wpAny_mono ((turn i y ys R hv hJ).2 C D I _ (upd_same _ _ _) s₃ st₃) ?_ fun _ _ x => x
        rintro z s₄ ⟨v, R', rz, st₄, tk₄, R'', l, hJ'⟩
        have st₅ : St G ((D, .list ys) :: (I, src.ao (i + 1)) :: (L, .ns m) :: R'') s₄ := st₄.less (Less.drop l)
        have st₆ : St G ((C, .ns (upd mc x y)) :: (D, .list ys) :: (I, src.ao (i + 1)) :: (L, .ns m) :: R'') s₄ := st₄.less (less_cons l)
        obtain ⟨vs, n, hob, hrs⟩ := (st₆.at_ _ (.tail _ (.head _))).1
        have hlt := Src.lt hv
        have hvl : vs.length = i := by rw [hrs.length]; exact hlen i ys R hJ
        refine wpAny_list_append_plain (items := vs.toArray) ⟨n, hob⟩ (fun h' hp hs' => ?_) (by rw [List.size_toArray, hvl, sizeLine_eq]; omega)
        obtain ⟨n', hob'⟩ := hp
        have e : vs.toArray.push z = (vs ++ [z]).toArray := by simp
        rw [e] at hob'
        obtain ⟨q1, q2⟩ := Sat.put st₆ (a := D) (x := .list ys) (y := .list (ys ++ [v])) (Put.tail .head) s₄.toks hs'.extBut rfl (fun tk => ⟨_, n', hob', (hrs.mono tk).append (.cons (rz.mono tk) .nil)⟩)
        refine ⟨src.len + 1 - (i + 1), by omega, i + 1, ys ++ [v], _, R'', q1.less ⟨[], by rw [List.append_nil]; exact (List.Perm.cons _ (List.Perm.swap _ _ _)).trans (List.Perm.swap _ _ _)⟩, (((tk'.trans tk'').trans tk₃).trans tk₄).trans q2, hJ', hlt, rfl⟩
    · cases r with
      | none => exact h
      | some v =>
        refine wpAny_mono h (fun _ s₂ h₂ => ?_) fun _ _ x => x.elim
        exact wpAny_mono h₂ (fun _ s₃ h₃ => wpAny_mono h₃ (fun _ _ x => x) fun _ _ x => x.elim) fun _ _ x => x.elim
  refine codeAny_compStart_list (loop _ rfl) ?_
  exact wpAny_mono (iter_again (st₂.less ⟨[], by rw [List.append_nil]; exact (List.Perm.cons _ (List.Perm.swap _ _ _)).trans (List.Perm.swap _ _ _)⟩) (P := fun it s' => it = .ref I ∧ s' = { s with heap := h₁, toks := s.toks + ([] : List (Str × Value)).length }) ⟨rfl, rfl⟩) (fun it s' ⟨e1, e2⟩ => by subst e1; exact loop _ e2) fun _ _ x => x.elim
end

/-! part MF -/
section
variable {G : Gx} {A : Around} {env : Env} {m : Str → Option AV} {R R' : Cells} {Q : AV → Cells → Prop} {QF : Fl → (Str → Option AV) → Cells → Prop}

def Src.Is (src : Src) (h : Heap) (v : Value) : Prop := match src with | .list T _ => v = .ref T | .range n => (n : Int) < 2 ^ 40 ∧ ∃ r t u w, v = .ref r ∧ IsRange h r 0 n 1 t u w
/-- the thing that a comprehension goes over -/
def IterTo (G : Gx) (A : Around) (env : Env) (m : Str → Option AV) (R : Cells) (iter : Expr) (C : Src → Cells → Prop) : Prop :=
  ∀ (s : Shared) (P : Value → Shared → Prop), St G ((env.locals, .ns m) :: R) s →
    (∀ (src : Src) (v : Value) (s' : Shared) (R₁ : Cells), src.Is s'.heap v → St G ((env.locals, .ns m) :: R₁) s' → TupKeep s.heap s'.heap → C src R₁ → P v s') → wpAny (model G.prog G.w) A (eval iter env) P No s
theorem IterTo.list {iter : Expr} {C : Src → Cells → Prop} (h : Ev G A env m R iter fun v R₁ => ∃ T l, v = .ref T ∧ C (.list T l) R₁) : IterTo G A env m R iter C := fun s P st hP =>
  wpAny_mono (h s st) (fun u s₁ ⟨v, R₁, ra, st₁, tk₁, T, l, e, c⟩ => by
    subst e
    cases ra with
    | ref T => exact hP (.list T l) _ _ _ rfl st₁ tk₁ c) fun _ _ x => x
theorem IterTo.range {e : Expr} {p pos : Pos} {C : Src → Cells → Prop} (ok : Ok G) (hg : nsIn G.K mainGlobals "range" = some none) (h : Ev G A env m R e fun v R₁ => ∃ n : Nat, v = .int n ∧ ((n : Int) < 2 ^ 40 ∧ C (.range n) R₁))
    (hx : env.kindOf "range" = some .globalImplicit := by rfl) (hk : env.scope.kind = .function := by rfl) (hgl : env.globals = mainGlobals := by rfl) (hb : env.builtins = builtinsNs := by rfl)
    (hst : starEach [e] env = [(false, eval e env)] := by rfl) : IterTo G A env m R (.Call (.Name "range" p) [e] [] pos) C := fun s P st hP =>
  evalRange ok hg h hx hk hgl hb hst st fun r n t u v s' R₁ hr st₁ tk₁ ⟨hn, c⟩ => hP (.range n) _ _ _ ⟨hn, r, t, u, v, rfl, hr⟩ st₁ tk₁ c

theorem compPut {h' : Heap} {C : Addr} {s : Shared} {H : Cells} (st : St G H s) (hC : C ∉ H.map (·.1)) (hb : G.base.get? C = none) (ht : ∀ vs n, s.heap.get? C ≠ some (tupObj vs n)) (hs : Heap.SameBut C s.heap h') :
    St G H { s with heap := h' } ∧ TupKeep s.heap h' := Sat.ext st s.toks hs.extBut hC hb ht

theorem Ev.lcomp {elt iter : Expr} {x : Str} {px pos : Pos} {scope : Scope} {cl : List (Str × Addr)} (hh : A.handled = none) (hclos : closureFor scope env = pure cl)
    (h : IterTo G A env m R iter fun src R₁ => src.len < 2 ^ 20 ∧ src.In R₁ ∧ ∃ J, J 0 [] R₁ ∧ (∀ i ys R, J i ys R → src.In R) ∧ (∀ i ys R, J i ys R → ys.length = i) ∧ CompTurn G A (fun C => compEnvC scope cl C env) x elt src m env.locals J ∧
      ∀ D ys R', J src.len ys R' → Q (.ref D) ((D, .list ys) :: R'))
    (hcell : ∀ y ∈ scope.names, y.2 ≠ .cell := by decide) (hkind : scope.kind = .function := by rfl) (hnames : ∀ y ∈ scope.names, y.2 = .local → scope.names.lookup y.1 = some .local := by decide) (hx : scope.names.lookup x = some .local := by rfl)
    (hs : ∀ x, foldedSetIterable iter env x = pure x := by intro _; rfl) : Ev G A env m R (.ListComp elt [⟨.Name x px, iter, [], 0⟩] scope pos) Q := fun s st => by
  rw [eval_ListComp]
  refine wpAny_comprehension_free (use := none) rfl hs hclos hkind hnames (h s _ st ?_)
  rintro src v s₁ R₁ hv st₁ tk₁ ⟨hsz, hin, J, h0, hJi, hJl, turn, done⟩
  refine iter_new st₁ (hin.more fun c hc => .tail _ hc) (by cases src <;> exact hv) fun I s₂ st₂ tk₂ => ?_
  refine compBlock (RR := fun acc C => compPost (model G.prog G.w) A No none (Pst G env m Rep Q s) acc C) hh hcell hkind hx hsz st₂ h0 hJi turn hJl ?_
  rintro D C ys R' s' hJ ⟨mc, hn⟩ hC hb ht st' tk'
  refine ⟨mc, hn, fun h' hs' => ?_⟩
  obtain ⟨q1, q2⟩ := compPut st' hC hb ht hs'
  exact pst (.ref _) (q1.less less_swap) (((tk₁.trans tk₂).trans tk').trans q2) (done D ys R' hJ)

theorem Ex.lcomp {elt iter : Expr} {x y : Str} {px py pos spos : Pos} {scope : Scope} {cl : List (Str × Addr)} (hh : A.handled = none) (hclos : closureFor scope env = pure cl)
    (h : IterTo G A env m R iter fun src R₁ => src.len < 2 ^ 20 ∧ src.In R₁ ∧ ∃ J, J 0 [] R₁ ∧ (∀ i ys R, J i ys R → src.In R) ∧ (∀ i ys R, J i ys R → ys.length = i) ∧ CompTurn G A (fun C => compEnvC scope cl C env) x elt src m env.locals J ∧
      ∀ D ys R', J src.len ys R' → QF .next (upd m y (.ref D)) ((D, .list ys) :: R'))
    (hsw : swapsWith (.ListComp elt [⟨.Name x px, iter, [], 0⟩] scope pos) (some (.Name y py)) spos.line env = pure true := by rfl)
    (hcell : ∀ y ∈ scope.names, y.2 ≠ .cell := by decide) (hkind : scope.kind = .function := by rfl) (hnames : ∀ y ∈ scope.names, y.2 = .local → scope.names.lookup y.1 = some .local := by decide) (hx : scope.names.lookup x = some .local := by rfl)
    (hs : ∀ x, foldedSetIterable iter env x = pure x := by intro _; rfl) (hy : env.kindOf y = some .local := by rfl)
    (hp : (env.scope.kind == .class || (env.scope.kind == .module && env.locals != env.globals)) = false := by rfl) : Ex G A env m R (.Assign [.Name y py] (.ListComp elt [⟨.Name x px, iter, [], 0⟩] scope pos) spos) QF := fun s st => by
  rw [exec_Assign_Name_used _ _ _ _ hsw]
  refine wpAny_bind (wpAny_standAt (wpAny_bind ?_))
  show wpAny _ A (do let _ ← comprehension (.ListComp elt [⟨.Name x px, iter, [], 0⟩] scope pos) scope env _ (newList []) false (eval iter env) (some (assign (.Name y py) env))) _ _ s
  refine wpAny_bind (wpAny_mono (wpAny_comprehension_free (use := some (assign (.Name y py) env)) (Q := fun _ s' => PstF G env QF s .next s') rfl hs hclos hkind hnames
    (h s _ st fun src v s₁ R₁ hv st₁ tk₁ ⟨hsz, hin, J, h0, hJi, hJl, turn, done⟩ => ?_)) (fun _ s' hq => wpAny_pure (wpAny_pure hq)) fun _ _ e => e)
  refine iter_new st₁ (hin.more fun c hc => .tail _ hc) (by cases src <;> exact hv) fun I s₂ st₂ tk₂ => ?_
  refine compBlock (RR := fun acc C => compPost (model G.prog G.w) A No (some (assign (.Name y py) env)) (fun _ s' => PstF G env QF s .next s') acc C) hh hcell hkind hx hsz st₂ h0 hJi turn hJl ?_
  rintro D C ys R' s' hJ ⟨mc, hn⟩ hC hb ht st' tk'
  show wpAny _ A (assign (.Name y py) env (.ref D)) _ _ _
  have hLC : env.locals ≠ C := by
    rintro rfl
    simp at hC
  obtain ⟨ml, hnl, hrl⟩ := (st'.at_ (env.locals, .ns m) (.tail _ (.head _))).1
  refine wpAny_assign_Name (wpAny_storeName_local hy hnl (fun h₂ hn₂ hs₂ => ?_) hp)
  have st'' : St G ((env.locals, .ns m) :: (D, .list ys) :: R') s' := st'.less less_swap
  obtain ⟨q1, q2⟩ := Sat.put st'' (a := env.locals) (x := .ns m) (y := .ns (upd m y (.ref D))) .head (s'.toks + 1) hs₂.extBut rfl (fun tk => ⟨_, hn₂, fun z => by
    unfold upd
    by_cases e : z = y
    · simp only [e, if_true]; exact .some (.ref _)
    · simp only [e, if_false]; exact (hrl z).mono tk⟩)
  refine ⟨mc, hn.sameBut hs₂ (Ne.symm hLC), fun h₃ hs₃ => ?_⟩
  obtain ⟨w1, w2⟩ := Sat.ext q1 (s'.toks + 1) (a := C) (h' := h₃) hs₃.extBut (by simp only [List.map_cons, List.mem_cons, not_or] at hC ⊢; exact ⟨hC.2.1, hC.1, hC.2.2⟩) hb (fun vs n e => by
    cases ec : s'.heap.get? C with
    | none =>
      obtain ⟨o, _, _, ho, _⟩ := hn
      rw [ec] at ho; cases ho
    | some o =>
      have := hs₂.extBut C o (Ne.symm hLC) ec
      rw [this] at e
      injection e with e
      exact ht vs n (by rw [ec, e]))
  exact ⟨.next, _, _, .next, w1, (((tk₁.trans tk₂).trans tk').trans q2).trans w2, done D ys R' hJ⟩
end

/-! part MG -/
def bindLA (kindOf : Str → Option NameKind) : List (Str × AV) → (Str → Option AV) → Str → Option AV
  | [], m => m
  | (n, v) :: r, m => bindLA kindOf r (if kindOf n = some .local then fun y => if y = n then some v else m y else m)
def bindCA (kindOf : Str → Option NameKind) : List (Str × AV) → (Str → Option AV) → Str → Option AV
  | [], m => m
  | (n, v) :: r, m => bindCA kindOf r (if kindOf n = some .local then m else fun y => if y = n then some v else m y)
theorem bindL_rep {h : Heap} (k : Str → Option NameKind) : ∀ {ns : List Str} {us : List Value} {as : List AV}, Reps h us as → ∀ {mv : Str → Option Value} {ma : Str → Option AV}, (∀ x, OptRep h (mv x) (ma x)) → ∀ x, OptRep h (bindL k (ns.zip us) mv x) (bindLA k (ns.zip as) ma x)
  | [], _, _, _, _, _, r, x => by simpa [bindL, bindLA] using r x
  | _ :: _, _, _, .nil, _, _, r, x => by simpa [bindL, bindLA] using r x
  | n :: ns, _, _, .cons a b, mv, ma, r, x => by
    simp only [List.zip_cons_cons, bindL, bindLA]
    refine bindL_rep k b (fun y => ?_) x
    split
    · dsimp only; split
      · exact .some a
      · exact r y
    · exact r y
theorem bindC_rep {h : Heap} (k : Str → Option NameKind) : ∀ {ns : List Str} {us : List Value} {as : List AV}, Reps h us as → ∀ {mv : Str → Option Value} {ma : Str → Option AV}, (∀ x, OptRep h (mv x) (ma x)) → ∀ x, OptRep h (bindC k (ns.zip us) mv x) (bindCA k (ns.zip as) ma x)
  | [], _, _, _, _, _, r, x => by simpa [bindC, bindCA] using r x
  | _ :: _, _, _, .nil, _, _, r, x => by simpa [bindC, bindCA] using r x
  | n :: ns, _, _, .cons a b, mv, ma, r, x => by
    simp only [List.zip_cons_cons, bindC, bindCA]
    refine bindC_rep k b (fun y => ?_) x
    split
    · exact r y
    · dsimp only; split
      · exact .some a
      · exact r y

theorem lenS {us : List Value} {n : Nat} (h : us.length = n + 1) : ∃ a t, us = a :: t ∧ t.length = n := by
  cases us with
  | nil => exact absurd h (Nat.succ_ne_zero n).symm
  | cons a t => exact ⟨a, t, rfl, Nat.succ.inj h⟩
theorem len1 {us : List Value} (h : us.length = 1) : ∃ a, us = [a] := by
  obtain ⟨a, t, rfl, q⟩ := lenS (n := 0) h
  exact ⟨a, by rw [List.eq_nil_of_length_eq_zero q]⟩
theorem len2 {us : List Value} (h : us.length = 2) : ∃ a b, us = [a, b] := by
  obtain ⟨a, t, rfl, q⟩ := lenS (n := 1) h
  obtain ⟨b, rfl⟩ := len1 q
  exact ⟨_, _, rfl⟩
theorem len3 {us : List Value} (h : us.length = 3) : ∃ a b c, us = [a, b, c] := by
  obtain ⟨a, t, rfl, q⟩ := lenS (n := 2) h
  obtain ⟨b, c, rfl⟩ := len2 q
  exact ⟨_, _, _, rfl⟩
theorem len4 {us : List Value} (h : us.length = 4) : ∃ a b c d, us = [a, b, c, d] := by
  obtain ⟨a, t, rfl, q⟩ := lenS (n := 3) h
  obtain ⟨b, c, d, rfl⟩ := len3 q
  exact ⟨_, _, _, _, rfl⟩
theorem len5 {us : List Value} (h : us.length = 5) : ∃ a b c d e, us = [a, b, c, d, e] := by
  obtain ⟨a, t, rfl, q⟩ := lenS (n := 4) h
  obtain ⟨b, c, d, e, rfl⟩ := len4 q
  exact ⟨_, _, _, _, _, rfl⟩

section
variable {G : Gx} {A : Around} {env : Env} {m : Str → Option AV} {R R' : Cells} {Q : AV → Cells → Prop} {QF : Fl → (Str → Option AV) → Cells → Prop}

/-- a def with cell variables: from its body -/
theorem Fn.introC (ok : Ok G) {n : Nat} {f : Addr} {FP : Cells} {args : List AV} {Qc : AV → Cells → Prop} {name qual : Str} {params : Arguments} {body : List Stmt} {scope : Scope} {dV kV doc pm cdv ct oc : Value} {an od : Option Addr} {osl : Array (Option Value)}
    (ho : G.K.lookup f = some ⟨oc, od, .func (fnOf name qual params body scope dV kV doc pm an cdv ct), osl⟩) (hcd : codeIn G.K cdv qual = true) (names : List Str)
    (hbind : ∀ us : List Value, us.length = args.length → bindArgs (fnOf name qual params body scope dV kV doc pm an cdv ct) ⟨us, []⟩ = pure (names.zip us))
    (hkind : ∀ n, ∀ y ∈ names, scope.names.lookup y = some .local ∨ (scope.names.lookup y = some .cell ∧ ((cellsFrom n scope.names []).lookup y).isSome = true))
    (hnd : ((cellsFrom 0 scope.names []).map (·.1)).Nodup)
    (h : ∀ A F L, Room A n → Exs G A (envOfC qual scope L f cdv) (bindLA (envOfC qual scope L f cdv).kindOf (names.zip args) fun _ => none)
      (((cellsFrom (L + 1) scope.names []).map fun p => (p.2, AO.cell (bindCA (envOfC qual scope L f cdv).kindOf (names.zip args) (fun _ => none) p.1))) ++ (FP ++ F)) body
      (fun fl m' R' => ∃ FP', Less R' (FP' ++ F) ∧ Qc (match fl with | .ret v => v | .next => .none) FP'))
    (hco : scope.isCoroutine = false := by rfl) (hgen : scope.isGenerator = false := by rfl) (hk : scope.kind = .function := by rfl) : Fn G (n + 1) f args FP Qc := by
  intro A F rm s us st rs
  obtain ⟨p, loose, mg, mb, T⟩ := ok.T
  have X := ok.X.keeps st.keep
  refine codeAny_call_function rm.lt (X _ _ ho) rfl hco hgen rfl (codeRec_of X hcd) ?_
  refine wpAny_of_eq (hbind us rs.length) ?_
  refine wpAny_newFunctionEnv_cells hk (fun y hy => hkind _ _ (List.of_mem_zip hy).1) fun env' he s' x => ?_
  subst he
  refine ⟨(T.nolimit.keeps st.keep).keeps x.toInCall.keep, codeAny_func ?_⟩
  obtain ⟨h₁, tk, rfl, _⟩ := x.done
  have hk₁ := x.toInCall.keep
  have tk₀ : TupKeep s.heap h₁ := fun a vs n e => hk₁ _ _ e
  have hns := x.toInCall.ns
  dsimp only at hns hk₁
  have hL : (envOfC qual scope s.heap.objs.size f cdv).locals = s.heap.objs.size := rfl
  obtain ⟨q1, q2⟩ := Sat.enter st tk (h := h₁) hk₁ (y := .ns (bindLA (envOfC qual scope s.heap.objs.size f cdv).kindOf (names.zip args) fun _ => none)) ⟨_, hns, bindL_rep _ (rs.mono tk₀) fun _ => .none⟩
  have hnd' : ((cellsFrom (s.heap.objs.size + 1) scope.names []).map (·.1)).Nodup := cellsFrom_names scope.names 0 (s.heap.objs.size + 1) [] [] rfl ▸ hnd
  have hcl : ∀ n c, (n, c) ∈ cellsFrom (s.heap.objs.size + 1) scope.names [] → h₁.IsCell c (bindC (envOfC qual scope s.heap.objs.size f cdv).kindOf (names.zip us) (fun _ => none) n) ∧ s.heap.objs.size < c := fun n c hm => ⟨x.cell n c (lookup_of_mem_nodup hnd' hm), x.above n c hm⟩
  have hap := x.apart
  change List.Pairwise _ (cellsFrom (s.heap.objs.size + 1) scope.names []) at hap
  have st' : St G ((s.heap.objs.size, .ns (bindLA (envOfC qual scope s.heap.objs.size f cdv).kindOf (names.zip args) fun _ => none)) ::
      (((cellsFrom (s.heap.objs.size + 1) scope.names []).map fun p => (p.2, AO.cell (bindCA (envOfC qual scope s.heap.objs.size f cdv).kindOf (names.zip args) (fun _ => none) p.1))) ++ (FP ++ F))) { s with heap := h₁, toks := tk } := by
    refine ⟨q1.keep, ?_, fun c hc => ?_, q1.gens, q1.drawn, q1.os⟩
    · have old : ∀ c ∈ FP ++ F, c.1 < s.heap.objs.size := fun c hc => (st.at_ c hc).1.lt
      simp only [List.map_cons, List.map_append, List.map_map, List.nodup_cons]
      have hmem : ∀ {c : Addr}, c ∈ (cellsFrom (s.heap.objs.size + 1) scope.names []).map ((fun p : Addr × AO => p.1) ∘ fun p => (p.2, AO.cell (bindCA (envOfC qual scope s.heap.objs.size f cdv).kindOf (names.zip args) (fun _ => none) p.1))) → s.heap.objs.size < c := fun hm => by
        obtain ⟨p, hp, rfl⟩ := List.mem_map.mp hm
        exact (hcl p.1 p.2 hp).2
      have nd := st.nd
      simp only [List.map_append] at nd
      refine ⟨fun hm => ?_, List.nodup_append.mpr ⟨?_, nd, fun a ha b hb e => ?_⟩⟩
      · rcases List.mem_append.mp hm with hm | hm
        · exact absurd (hmem hm) (Nat.lt_irrefl _)
        · rw [← List.map_append] at hm
          obtain ⟨c, hc, e⟩ := List.mem_map.mp hm
          exact absurd (old c hc) (by rw [e]; exact Nat.lt_irrefl _)
      · exact List.pairwise_map.mpr (hap.imp fun h => h)
      · rw [← List.map_append] at hb
        obtain ⟨c, hc, e'⟩ := List.mem_map.mp hb
        have h1 := old c hc
        have h2 := hmem ha
        exact Nat.lt_asymm h1 (by rw [show c.1 = a from e'.trans e.symm]; exact h2)
    · rcases List.mem_cons.mp hc with rfl | hc
      · exact q1.at_ _ (.head _)
      rcases List.mem_append.mp hc with hc | hc
      · obtain ⟨⟨n, c⟩, hm, rfl⟩ := List.mem_map.mp hc
        obtain ⟨⟨o, ho, hd⟩, hlt⟩ := hcl n c hm
        refine ⟨⟨o, _, ho, hd, fun y hy => ?_⟩, ?_⟩
        · have hr := bindC_rep (envOfC qual scope s.heap.objs.size f cdv).kindOf (ns := names) (rs.mono tk₀) (mv := fun _ => none) (ma := fun _ => none) (fun _ => .none) n
          dsimp only at hy
          rw [hy] at hr
          generalize bindC (envOfC qual scope s.heap.objs.size f cdv).kindOf (names.zip us) (fun _ => none) n = z at hr ⊢
          cases hr with
          | some r => exact ⟨_, rfl, r⟩
        · dsimp only
          cases e : G.base.get? c with
          | none => rfl
          | some o => exact absurd (Heap.lt_size (st.keep _ _ e)) (Nat.lt_asymm hlt)
      · exact q1.at_ _ (.tail _ hc)
  show wpAny _ (A.deeper (envOfC qual scope s.heap.objs.size f cdv)) (execs body (envOfC qual scope s.heap.objs.size f cdv)) _ _ _
  refine wpAny_mono (h _ F s.heap.objs.size (rm.deeper _) _ st') ?_ fun _ _ x => x.elim
  rintro fl s' ⟨fl', m', R', rf, st', tk', FP', l, q⟩
  cases rf with
  | next => exact ⟨_, rfl, _, R', .none, st'.less (Less.drop (Less.refl _)), q2.trans tk', FP', l, q⟩
  | ret r => exact ⟨_, rfl, _, R', r, st'.less (Less.drop (Less.refl _)), q2.trans tk', FP', l, q⟩
end

/-! part MH -/
section
variable {K α β : Type} [DecidableEq K]
def dget (l : List (K × α)) (k : K) : Option α := (l.find? fun p => p.1 = k).map (·.2)
def dset (l : List (K × α)) (k : K) (v : α) : List (K × α) := if l.any (fun p => p.1 = k) then l.map (fun p => if p.1 = k then (p.1, v) else p) else l ++ [(k, v)]
def ddel (l : List (K × α)) (k : K) : List (K × α) := l.filter fun p => decide (p.1 ≠ k)
def denc (f : α → β) (l : List (K × α)) : List (K × β) := l.map fun p => (p.1, f p.2)
theorem dget_enc (f : α → β) (l : List (K × α)) (k : K) : dget (denc f l) k = (dget l k).map f := by
  unfold dget denc
  induction l with
  | nil => rfl
  | cons p l ih =>
    simp only [List.map_cons, List.find?_cons]
    by_cases e : p.1 = k
    · simp [e]
    · simp only [e, decide_false]; exact ih
theorem dset_enc (f : α → β) (l : List (K × α)) (k : K) (v : α) : dset (denc f l) k (f v) = denc f (dset l k v) := by
  unfold dset denc
  simp only [List.any_map]
  have e : (l.any fun p => decide (p.1 = k)) = l.any ((fun p => decide (p.1 = k)) ∘ fun p : K × α => ((p.1, f p.2) : K × β)) := rfl
  rw [← e]
  split
  · simp only [List.map_map]
    apply List.map_congr_left
    intro p _
    simp only [Function.comp]
    split <;> rfl
  · simp
theorem ddel_enc (f : α → β) (l : List (K × α)) (k : K) : ddel (denc f l) k = denc f (ddel l k) := by
  unfold ddel denc
  rw [List.filter_map]
  rfl
theorem denc_length (f : α → β) (l : List (K × α)) : (denc f l).length = l.length := List.length_map ..
theorem dget_nil (k : K) : dget ([] : List (K × α)) k = none := rfl
theorem dget_cons (p : K × α) (l : List (K × α)) (k : K) : dget (p :: l) k = if p.1 = k then some p.2 else dget l k := by
  unfold dget
  simp only [List.find?_cons]
  by_cases e : p.1 = k
  · simp [e]
  · simp [e]
theorem dget_none {l : List (K × α)} {k : K} : dget l k = none ↔ k ∉ l.map (·.1) := by
  induction l with
  | nil => simp [dget_nil]
  | cons p l ih =>
    rw [dget_cons]
    simp only [List.map_cons, List.mem_cons, not_or]
    by_cases e : p.1 = k
    · simp [e]
    · simp only [e, if_false, ih]
      constructor
      · intro h; exact ⟨fun q => e q.symm, h⟩
      · intro h; exact h.2
theorem dget_isSome {l : List (K × α)} {k : K} : (dget l k).isSome = true ↔ k ∈ l.map (·.1) := by
  cases h : dget l k with
  | none => simp [dget_none.mp h]
  | some v =>
    simp only [Option.isSome_some, true_iff]
    refine Decidable.byContradiction fun q => ?_
    rw [dget_none.mpr q] at h; cases h
theorem dget_mem {l : List (K × α)} {k : K} {v : α} (h : dget l k = some v) : (k, v) ∈ l := by
  induction l with
  | nil => cases h
  | cons p l ih =>
    rw [dget_cons] at h
    split at h
    · next e => cases h; subst e; exact .head _
    · exact .tail _ (ih h)
theorem dget_of_mem {l : List (K × α)} {k : K} {v : α} (nd : (l.map (·.1)).Nodup) (h : (k, v) ∈ l) : dget l k = some v := by
  induction l with
  | nil => cases h
  | cons p l ih =>
    simp only [List.map_cons, List.nodup_cons] at nd
    rw [dget_cons]
    rcases List.mem_cons.mp h with rfl | h
    · simp
    · rw [if_neg (fun e => nd.1 (by rw [e]; exact List.mem_map_of_mem (f := fun p : K × α => p.1) h))]
      exact ih nd.2 h
theorem dset_new {l : List (K × α)} {k : K} {v : α} (h : dget l k = none) : dset l k v = l ++ [(k, v)] := by
  unfold dset
  rw [if_neg]
  intro q
  obtain ⟨p, hp, e⟩ := List.any_eq_true.mp q
  exact dget_none.mp h (by rw [← of_decide_eq_true e]; exact List.mem_map_of_mem hp)
theorem dget_dset (l : List (K × α)) (k : K) (v : α) (x : K) : dget (dset l k v) x = if x = k then some v else dget l x := by
  unfold dset
  split
  · next h =>
    induction l with
    | nil => simp at h
    | cons p l ih =>
      simp only [List.map_cons]
      rw [dget_cons, dget_cons]
      by_cases e : p.1 = k
      · simp only [e, if_true]
        by_cases q : k = x
        · simp [q]
        · simp only [q, if_false]
          have : ∀ l : List (K × α), dget (l.map fun p => if p.1 = k then (p.1, v) else p) x = dget l x := by
            intro l
            induction l with
            | nil => rfl
            | cons p l ih =>
              simp only [List.map_cons]
              rw [dget_cons, dget_cons, ih]
              by_cases e : p.1 = k
              · simp [e, q]
              · simp [e]
          rw [this l, if_neg (fun z => q z.symm)]
      · simp only [e, if_false]
        by_cases q : p.1 = x
        · simp only [q, if_true]; rw [if_neg (fun z => e (q.trans z))]
        · simp only [q, if_false]
          exact ih (by simpa [e] using h)
  · next h =>
    have hk : ∀ p ∈ l, p.1 ≠ k := fun p hp e => h (List.any_eq_true.mpr ⟨p, hp, by simp [e]⟩)
    induction l with
    | nil => simp [dget]; by_cases e : k = x <;> simp [e, eq_comm]
    | cons p l ih =>
      simp only [List.cons_append]
      rw [dget_cons, dget_cons]
      by_cases q : p.1 = x
      · simp only [q, if_true]; rw [if_neg (fun z => hk p (.head _) (q.trans z))]
      · simp only [q, if_false]
        exact ih (by simp only [List.any_cons, Bool.or_eq_true, not_or] at h; exact h.2) (fun p hp => hk p (.tail _ hp))
theorem dget_ddel (l : List (K × α)) (k : K) (x : K) : dget (ddel l k) x = if x = k then none else dget l x := by
  unfold ddel
  induction l with
  | nil => simp [dget]
  | cons p l ih =>
    simp only [List.filter_cons]
    by_cases e : p.1 = k
    · rw [if_neg (by simp [e]), ih, dget_cons]
      by_cases q : x = k
      · simp [q]
      · simp only [q, e, if_false]; rw [if_neg (fun z => q z.symm)]
    · rw [if_pos (by simp [e]), dget_cons, ih, dget_cons]
      by_cases q : x = k
      · simp [q, e]
      · simp [q]
theorem dset_keys (l : List (K × α)) (k : K) (v : α) : (dset l k v).map (·.1) = if k ∈ l.map (·.1) then l.map (·.1) else l.map (·.1) ++ [k] := by
  unfold dset
  have : (l.any fun p => decide (p.1 = k)) = true ↔ k ∈ l.map (·.1) := by
    simp only [List.any_eq_true, decide_eq_true_eq, List.mem_map]
  by_cases h : k ∈ l.map (·.1)
  · rw [if_pos (this.mpr h), if_pos h, List.map_map]
    apply List.map_congr_left
    intro p _
    simp only [Function.comp]
    split <;> rfl
  · rw [if_neg (fun q => h (this.mp q)), if_neg h, List.map_append]
    rfl
theorem dset_nodup {l : List (K × α)} (nd : (l.map (·.1)).Nodup) (k : K) (v : α) : ((dset l k v).map (·.1)).Nodup := by
  rw [dset_keys]
  split
  · exact nd
  · next h => exact List.nodup_append.mpr ⟨nd, by simp, fun a ha b hb e => h (by simp at hb; rw [← hb, ← e]; exact ha)⟩
theorem ddel_nodup {l : List (K × α)} (nd : (l.map (·.1)).Nodup) (k : K) : ((ddel l k).map (·.1)).Nodup := nd.sublist (List.filter_sublist.map _)
end

section
variable {K : Type} [DecidableEq K] {h : Heap}
theorem valueAt_rep {vs : List (K × Value)} {l : List (K × AV)} (r : RepsK h vs l) (k : K) : OptRep h (valueAt vs k) (dget l k) := by
  induction r with
  | nil => exact .none
  | @cons k' v x vs l a _ ih =>
    unfold valueAt dget at *
    simp only [List.find?_cons]
    by_cases e : k' = k
    · simp only [e, decide_true, Option.map_some]; exact .some a
    · simp only [e, decide_false]; exact ih
theorem keys_rep {vs : List (K × Value)} {l : List (K × AV)} (r : RepsK h vs l) : vs.map (·.1) = l.map (·.1) := by
  induction r with
  | nil => rfl
  | cons _ _ ih => simp only [List.map_cons, ih]
theorem RepsK.len {vs : List (K × Value)} {l : List (K × AV)} (r : RepsK h vs l) : vs.length = l.length := by
  have := congrArg List.length (keys_rep r)
  simpa using this
theorem RepsK.app {vs ws : List (K × Value)} {l m : List (K × AV)} (r : RepsK h vs l) (q : RepsK h ws m) : RepsK h (vs ++ ws) (l ++ m) := by
  induction r with
  | nil => exact q
  | cons a _ ih => exact .cons a ih
theorem stored_rep {vs : List (K × Value)} {l : List (K × AV)} (r : RepsK h vs l) (k : K) {v : Value} {x : AV} (rv : Rep h v x) : RepsK h (stored vs k v) (dset l k x) := by
  unfold stored dset
  have e : (vs.any fun p => decide (p.1 = k)) = l.any fun p => decide (p.1 = k) := by
    have := congrArg (fun z => z.any fun p => decide (p = k)) (keys_rep r)
    simpa [List.any_map, Function.comp_def] using this
  rw [e]
  split
  · next hq =>
    clear e hq
    induction r with
    | nil => exact .nil
    | @cons k' v' x' vs l a _ ih =>
      simp only [List.map_cons]
      by_cases q : k' = k
      · simp only [q, if_true]; exact .cons rv ih
      · simp only [q, if_false]; exact .cons a ih
  · exact r.app (.cons rv .nil)
theorem without_rep {vs : List (K × Value)} {l : List (K × AV)} (r : RepsK h vs l) (k : K) : RepsK h (without vs k) (ddel l k) := by
  unfold without ddel
  induction r with
  | nil => exact .nil
  | @cons k' v' x' vs l a _ ih =>
    simp only [List.filter_cons]
    by_cases q : k' = k
    · simp only [q, ne_eq, not_true_eq_false, decide_false, Bool.false_eq_true, if_false]; exact ih
    · simp only [q, ne_eq, not_false_eq_true, decide_true, if_true]; exact .cons a ih
theorem ints_of {h : Heap} : ∀ {vs : List Value} {l : List Int}, Reps h vs (l.map .int) → IntsAre vs l
  | _, [], r => by cases r; exact .nil
  | _, n :: l, r => by
    cases r with
    | cons a b =>
      cases a with
      | int _ t => exact .cons n t (ints_of b)
theorem of_ints {h : Heap} : ∀ {vs : List Value} {l : List Int}, IntsAre vs l → Reps h vs (l.map .int)
  | _, _, .nil => .nil
  | _, _, .cons n t r => .cons (.int n t) (of_ints r)
end

/-! part MI -/
section
variable {G : Gx} {A : Around} {env : Env} {m : Str → Option AV} {R R' : Cells} {Q : AV → Cells → Prop} {QF : Fl → (Str → Option AV) → Cells → Prop} {a b : Int}

theorem Lc.new {β : Type} {c : Addr × AO} {Q : β → Cells → Prop} {x : β} (h : Q x (c :: R)) : Lc env m Q x (c :: (env.locals, .ns m) :: R) := ⟨_, less_swap, h⟩
theorem atL {H : Cells} {s : Shared} (st : St G H s) {T : Addr} {l : List AV} (hm : (T, AO.list l) ∈ H) : ∃ vs n, s.heap.get? T = some (listObj vs n) ∧ s.heap.IsList T vs.toArray ∧ Reps s.heap vs l := by
  obtain ⟨vs, n, e, r⟩ := (st.at_ _ hm).1
  exact ⟨vs, n, e, ⟨_, e, rfl, n, rfl⟩, r⟩
theorem notMods {H : Cells} {s : Shared} (ok : Ok G) (st : St G H s) {d : Addr} {x : AO} (hm : (d, x) ∈ H) : (d == sysModules) = false := by
  have := (st.at_ _ hm).2
  obtain ⟨o, e⟩ := ok.M
  rw [beq_eq_false_iff_ne]
  rintro rfl
  dsimp only at this
  rw [this] at e; cases e

theorem Op2.add (h : Q (.int (a + b)) R) : Op2 G A ((env.locals, .ns m) :: R) Rep (binaryOp .Add) (.int a) (.int b) (Lc env m Q) := fun s u v st ra rb => by
  cases ra; cases rb
  exact AutoIntOps.add_0 ⟨_, _, .int _ _, st.toks _, TupKeep.refl _, Lc.same h⟩
theorem Op2.sub (h : Q (.int (a - b)) R) : Op2 G A ((env.locals, .ns m) :: R) Rep (binaryOp .Sub) (.int a) (.int b) (Lc env m Q) := fun s u v st ra rb => by
  cases ra; cases rb
  exact AutoIntOps.sub_0 ⟨_, _, .int _ _, st.toks _, TupKeep.refl _, Lc.same h⟩
theorem Op2.mul (h : Q (.int (a * b)) R) (ha : -(2 ^ 40) ≤ a) (hb : a ≤ 2 ^ 40) : Op2 G A ((env.locals, .ns m) :: R) Rep (binaryOp .Mult) (.int a) (.int b) (Lc env m Q) := fun s u v st ra rb => by
  cases ra; cases rb
  exact AutoIntOps.mul_0 ⟨_, _, .int _ _, st.toks _, TupKeep.refl _, Lc.same h⟩ (IntMulOk.of_left (intBits_le_64 (by omega) (by omega)))
theorem Op2.mod (h : Q (.int (a.fmod b)) R) (hb : b ≠ 0) : Op2 G A ((env.locals, .ns m) :: R) Rep (binaryOp .Mod) (.int a) (.int b) (Lc env m Q) := fun s u v st ra rb => by
  cases ra; cases rb
  exact AutoIntOps.mod_1 (by simpa using hb) ⟨_, _, .int _ _, st.toks _, TupKeep.refl _, Lc.same h⟩
theorem Op2.lt (h : Q (.bool (decide (a < b))) R) : Op2 G A ((env.locals, .ns m) :: R) Rep (compareOp .Lt) (.int a) (.int b) (Lc env m Q) := fun s u v st ra rb => by
  cases ra; cases rb
  exact P.lt_int ⟨_, _, .bool _, st, TupKeep.refl _, Lc.same h⟩
theorem Op2.eq (h : Q (.bool (a == b)) R) : Op2 G A ((env.locals, .ns m) :: R) Rep (compareOp .Eq) (.int a) (.int b) (Lc env m Q) := fun s u v st ra rb => by
  cases ra; cases rb
  exact P.eq_int ⟨_, _, .bool _, st, TupKeep.refl _, Lc.same h⟩
theorem Op2.ne (h : Q (.bool (a != b)) R) : Op2 G A ((env.locals, .ns m) :: R) Rep (compareOp .NotEq) (.int a) (.int b) (Lc env m Q) := fun s u v st ra rb => by
  cases ra; cases rb
  exact P.ne_int ⟨_, _, .bool _, st, TupKeep.refl _, Lc.same h⟩
theorem Op2.eqS {x y : Str} (h : Q (.bool (x == y)) R) : Op2 G A ((env.locals, .ns m) :: R) Rep (compareOp .Eq) (.str x) (.str y) (Lc env m Q) := fun s u v st ra rb => by
  cases ra; cases rb
  exact PyProof.Rows.eq_str ⟨_, _, .bool _, st, TupKeep.refl _, Lc.same h⟩
theorem Op2.addS {x y : Str} (h : Q (.str (x ++ y)) R) (hz : x.length + y.length ≤ sizeLine) : Op2 G A ((env.locals, .ns m) :: R) Rep (binaryOp .Add) (.str x) (.str y) (Lc env m Q) := fun s u v st ra rb => by
  cases ra; cases rb
  exact PyProof.Rows.add_str (fun t k => ⟨_, _, .str _ _, st.toks _, TupKeep.refl _, Lc.same h⟩) hz
theorem Op2.inI (ok : Ok G) {d : Addr} {l : List (Int × AV)} {k : Int} (hm : (d, AO.dictI l) ∈ R) (h : Q (.bool (dget l k).isSome) R) : Op2 G A ((env.locals, .ns m) :: R) Rep (compareOp .In) (.int k) (.ref d) (Lc env m Q) := fun s u v st ra rb => by
  cases ra; cases rb
  obtain ⟨kvs, hD, r⟩ := (st.at_ _ (.tail _ hm)).1
  refine wpAny_in_of (knd := intKind G.prog G.w) (k := k) (by simp [intKind, Value.isInt]) (notMods ok st (.tail _ hm)) hD.mapOf ⟨_, _, .bool _, st.toks _, TupKeep.refl _, ?_⟩
  have := valueAt_rep r k
  have e : (valueAt kvs k).isSome = (dget l k).isSome := by
    generalize valueAt kvs k = x at this; generalize dget l k = y at this
    cases this <;> rfl
  rw [e]; exact Lc.same h
theorem Op2.notInI (ok : Ok G) {d : Addr} {l : List (Int × AV)} {k : Int} (hm : (d, AO.dictI l) ∈ R) (h : Q (.bool (!(dget l k).isSome)) R) : Op2 G A ((env.locals, .ns m) :: R) Rep (compareOp .NotIn) (.int k) (.ref d) (Lc env m Q) := fun s u v st ra rb => by
  cases ra; cases rb
  obtain ⟨kvs, hD, r⟩ := (st.at_ _ (.tail _ hm)).1
  refine wpAny_notIn_of (knd := intKind G.prog G.w) (k := k) (by simp [intKind, Value.isInt]) (notMods ok st (.tail _ hm)) hD.mapOf ⟨_, _, .bool _, st.toks _, TupKeep.refl _, ?_⟩
  have := valueAt_rep r k
  have e : (valueAt kvs k).isSome = (dget l k).isSome := by
    generalize valueAt kvs k = x at this; generalize dget l k = y at this
    cases this <;> rfl
  rw [e]; exact Lc.same h
theorem Op2.notInL {d : Addr} {l : List Int} {k : Int} (hm : (d, AO.list (l.map .int)) ∈ R) (h : Q (.bool (!l.contains k)) R) : Op2 G A ((env.locals, .ns m) :: R) Rep (compareOp .NotIn) (.int k) (.ref d) (Lc env m Q) := fun s u v st ra rb => by
  cases ra with
  | int _ t =>
  cases rb
  obtain ⟨vs, n, e, hl, r⟩ := atL st (.tail _ hm)
  have hi := ints_of r
  refine SeqAt.notIn_listAt (isInt k) hl (fun y hy => (eq_isInt k t hi y (by simpa using hy)).at _ _) ⟨_, _, .bool _, st, TupKeep.refl _, ?_⟩
  have e : vs.toArray.any (isInt k) = l.contains k := by
    rw [List.any_toArray, any_isInt k hi, List.contains_eq_any_beq]
    congr 1
    funext x
    exact Bool.beq_comm
  rw [e]; exact Lc.same h

theorem Op2.subL {o i : Expr} {T : Addr} {l : List AV} {k : Int} {x : AV} (hm : (T, AO.list l) ∈ R) (h0 : 0 ≤ k) (h1 : k < 2 ^ 40) (hx : l[k.toNat]? = some x) (h : Q x R) (hs : ∀ o' i', subscripted i false o' i' = operate [o', i'] (getItem o' i') := by intro _ _; rfl) :
    Op2 G A ((env.locals, .ns m) :: R) Rep (subscriptTail o i) (.ref T) (.int k) (Lc env m Q) := fun s u v st ra rb => by
  cases ra; cases rb
  obtain ⟨vs, n, e, hl, r⟩ := atL st (.tail _ hm)
  obtain ⟨u, hu, ru⟩ := r.get hx
  exact tail_any hl.typeIs slot_list_getitem.lookup (wpAny_getItem_list hl h0 (by omega) (by rw [List.getElem?_toArray]; exact hu) ⟨_, _, ru, st, TupKeep.refl _, Lc.same h⟩) (hs _ _)
theorem Op2.subT {o i : Expr} {l : List AV} {k : Nat} {x : AV} (hk : k < 2 ^ 20) (hx : l[k]? = some x) (h : Q x R) (hs : ∀ o' i', subscripted i false o' i' = operate [o', i'] (getItem o' i') := by intro _ _; rfl) :
    Op2 G A ((env.locals, .ns m) :: R) Rep (subscriptTail o i) (.tup l) (.int k) (Lc env m Q) := fun s u v st ra rb => by
  cases rb
  cases ra with
  | tup e r =>
  rename_i a n vs
  obtain ⟨u, hu, ru⟩ := r.get hx
  have hlt : k < vs.length := by
    rcases Nat.lt_or_ge k vs.length with q | q
    · exact q
    · rw [List.getElem?_eq_none_iff.mpr q] at hu; cases hu
  have ht : IsTup s.heap a vs.toArray := ⟨_, e, rfl, n, rfl⟩
  exact tail_any ht.typeIs slot_tuple_getitem.lookup (PyProof.Rows.getItem_tuple ht (by omega) (by omega) (j := k) (by simp [seqIndex?]; omega) (by rw [List.getElem?_toArray]; exact hu) ⟨_, _, ru, st, TupKeep.refl _, Lc.same h⟩) (hs _ _)
theorem Op2.subI {o i : Expr} {d : Addr} {l : List (Int × AV)} {k : Int} {x : AV} (hm : (d, AO.dictI l) ∈ R) (hx : dget l k = some x) (h : Q x R) (hs : ∀ o' i', subscripted i false o' i' = operate [o', i'] (getItem o' i') := by intro _ _; rfl) :
    Op2 G A ((env.locals, .ns m) :: R) Rep (subscriptTail o i) (.ref d) (.int k) (Lc env m Q) := fun s u v st ra rb => by
  cases ra; cases rb
  obtain ⟨kvs, hD, r⟩ := (st.at_ _ (.tail _ hm)).1
  have := valueAt_rep r k
  rw [hx] at this
  generalize e : valueAt kvs k = y at this
  cases this with
  | some rv => exact tail_any hD.typeIs slot_dict_getitem.lookup (wpAny_getItem_of (knd := intKind G.prog G.w) (k := k) (by simp [intKind, Value.isInt]) hD.mapOf e ⟨_, _, rv, st.toks _, TupKeep.refl _, Lc.same h⟩) (hs _ _)
theorem Op2.subS {o i : Expr} {d : Addr} {l : List (Str × AV)} {k : Str} {x : AV} (hm : (d, AO.dictS l) ∈ R) (hx : dget l k = some x) (h : Q x R) (hs : ∀ o' i', subscripted i false o' i' = operate [o', i'] (getItem o' i') := by intro _ _; rfl) :
    Op2 G A ((env.locals, .ns m) :: R) Rep (subscriptTail o i) (.ref d) (.str k) (Lc env m Q) := fun s u v st ra rb => by
  cases ra; cases rb
  obtain ⟨kvs, hD, r⟩ := (st.at_ _ (.tail _ hm)).1
  have := valueAt_rep r k
  rw [hx] at this
  generalize e : valueAt kvs k = y at this
  cases this with
  | some rv => exact tail_any hD.typeIs slot_dict_getitem.lookup (wpAny_getItem_of (knd := PySem.strKind G.prog G.w) (k := k) (by simp [PySem.strKind, Value.isStrOf]) hD.mapOf e ⟨_, _, rv, st.toks _, TupKeep.refl _, Lc.same h⟩) (hs _ _)

theorem slice_new {H : Cells} {s : Shared} (st : St G H s) {T : Addr} {l : List AV} (hm : (T, AO.list l) ∈ H) {vl vu : Value} {lo hi : Option Int} (pl : IsPart vl lo) (pu : IsPart vu hi) {l' : List AV} {value : Expr} {lower upper : Option Expr} {p : Pos} {P : Value → Shared → Prop}
    (hpick : ∀ vs : List Value, Reps s.heap vs l → ∃ ws, slicePick vs.toArray lo hi none = ws.toArray ∧ Reps s.heap ws l') (hsz : l.length ≤ sizeLine)
    (h : ∀ D s', St G ((D, .list l') :: H) s' → TupKeep s.heap s'.heap → P (.ref D) s') :
    wpAny (model G.prog G.w) A (subscriptTail value (.Slice lower upper none p) (.ref T) (.ref s.heap.objs.size)) P No { s with heap := s.heap.push { cls := .type "slice", data := .fields #[vl, vu, .none] } } := by
  have st₁ := st.push { cls := .type "slice", data := .fields #[vl, vu, .none] } s.toks
  have tk : TupKeep s.heap (s.heap.push { cls := .type "slice", data := .fields #[vl, vu, .none] }) := TupKeep.push _ _
  obtain ⟨vs, n, e, hl, r⟩ := atL st hm
  obtain ⟨ws, hw, rw'⟩ := hpick vs r
  have hl₁ : (s.heap.push { cls := .type "slice", data := .fields #[vl, vu, .none] }).IsList T vs.toArray := ⟨_, Heap.get?_push_of_some _ e, rfl, n, rfl⟩
  refine tail_any hl₁.typeIs slot_list_getitem.lookup (wpAny_getItem_list_slice hl₁ (Heap.IsSliceOf.new ..) pl pu .none (by simp) ?_ (by rw [List.size_toArray, r.length]; exact hsz)) (ops := [.ref s.heap.objs.size, .ref T]) rfl
  rw [hw]
  have st₂ := Sat.newL st₁ (rw'.mono tk) s.toks
  exact h _ _ st₂ (tk.trans (TupKeep.push _ _))

theorem Ev.sliceTo {value upper : Expr} {p pos : Pos} (h : Ev G A env m R value fun v R₁ => ∃ T l, v = .ref T ∧ Ev G A env m R₁ upper fun w R₂ => ∃ k : Nat, w = .int k ∧ (T, AO.list l) ∈ R₂ ∧ l.length ≤ sizeLine ∧ ∀ D, Q (.ref D) ((D, .list (l.take k)) :: R₂)) :
    Ev G A env m R (.Subscript value (.Slice none (some upper) none p) pos) Q := fun s st => by
  refine Subscript_ (wpAny_mono (h s st) ?_ fun _ _ x => x)
  rintro u s₁ ⟨v, R₁, ra, st₁, tk₁, T, l, e, h₁⟩
  subst e
  refine wpAny_Slice ?_
  rw [evalPart_none, evalPart_some]
  refine wpAny_pure (wpAny_mono (h₁ s₁ st₁) ?_ fun _ _ x => x)
  rintro u' s₂ ⟨w, R₂, rb, st₂, tk₂, k, e, hm, hsz, h₂⟩
  refine wpAny_pure ?_
  subst e
  cases rb; cases ra
  refine slice_new st₂ (.tail _ hm) .none (.int _ _) (l' := l.take k) (fun vs r => ⟨vs.take k, by rw [slicePick_upto'], r.take k⟩) hsz fun D s' st' tk' => ?_
  exact pst (.ref _) (st'.less less_swap) ((tk₁.trans tk₂).trans tk') (h₂ D)
theorem Ev.sliceFrom {value lower : Expr} {p pos : Pos} (h : Ev G A env m R value fun v R₁ => ∃ T l, v = .ref T ∧ Ev G A env m R₁ lower fun w R₂ => ∃ k : Nat, w = .int k ∧ (T, AO.list l) ∈ R₂ ∧ l.length ≤ sizeLine ∧ ∀ D, Q (.ref D) ((D, .list (l.drop k)) :: R₂)) :
    Ev G A env m R (.Subscript value (.Slice (some lower) none none p) pos) Q := fun s st => by
  refine Subscript_ (wpAny_mono (h s st) ?_ fun _ _ x => x)
  rintro u s₁ ⟨v, R₁, ra, st₁, tk₁, T, l, e, h₁⟩
  subst e
  refine wpAny_Slice ?_
  rw [evalPart_none, evalPart_some]
  refine wpAny_mono (h₁ s₁ st₁) ?_ fun _ _ x => x
  rintro u' s₂ ⟨w, R₂, rb, st₂, tk₂, k, e, hm, hsz, h₂⟩
  refine wpAny_pure (wpAny_pure ?_)
  subst e
  cases rb; cases ra
  refine slice_new st₂ (.tail _ hm) (.int _ _) .none (l' := l.drop k) (fun vs r => ⟨vs.drop k, by rw [slicePick_from'], r.drop k⟩) hsz fun D s' st' tk' => ?_
  exact pst (.ref _) (st'.less less_swap) ((tk₁.trans tk₂).trans tk') (h₂ D)

/-! equality that holds -/
def AV.sc : AV → Bool
  | .int _ => true
  | .str _ => true
  | _ => false
def AV.flat : AV → Bool
  | .int _ => true
  | .str _ => true
  | .tup l => l.all AV.sc
  | _ => false
theorem Reps.two {h : Heap} : ∀ {us vs : List Value} {l : List AV}, Reps h us l → Reps h vs l → us.length = vs.length := fun a b => a.length.trans b.length.symm
theorem eqSc {x : AV} {A : Around} {s : Shared} {u v : Value} (hf : x.sc = true) (ra : Rep s.heap u x) (rb : Rep s.heap v x) : SeqAt.EqAt A s u v true := by
  cases ra with
  | int i t =>
    cases rb with
    | int _ t' =>
    have := (MeetsSeq.EqGives.int i i t t').at A s
    rw [beq_self_eq_true] at this
    exact this
  | str i t =>
    cases rb with
    | str _ t' =>
    have := (SeqRoads2.EqGives.str i i t t').at A s
    rw [beq_self_eq_true] at this
    exact this
  | _ => cases hf
theorem eqScs {l : List AV} {A : Around} {s : Shared} : ∀ {us vs : List Value} {l : List AV}, l.all AV.sc = true → Reps s.heap us l → Reps s.heap vs l →
    ∀ j (h1 : j < us.length) (h2 : j < vs.length), SeqAt.EqAt A s us[j] vs[j] true
  | _, _, [], hf, ra, rb, j, h1, h2 => by cases ra; simp at h1
  | _, _, x :: l, hf, ra, rb, j, h1, h2 => by
    simp only [List.all_cons, Bool.and_eq_true] at hf
    cases ra with
    | cons a r =>
    cases rb with
    | cons b r' =>
    cases j with
    | zero => exact eqSc hf.1 a b
    | succ j => exact eqScs (l := l) hf.2 r r' j (Nat.lt_of_succ_lt_succ h1) (Nat.lt_of_succ_lt_succ h2)
theorem eqAt {x : AV} {A : Around} {s : Shared} {u v : Value} (hf : x.flat = true) (hu : A.units < cLine) (ra : Rep s.heap u x) (rb : Rep s.heap v x) : SeqAt.EqAt A s u v true := by
  cases x with
  | int i => exact eqSc rfl ra rb
  | str i => exact eqSc rfl ra rb
  | tup l =>
    cases ra with
    | tup e r =>
    rename_i a n us
    cases rb with
    | tup e' r' =>
    rename_i a' n' vs
    by_cases hne : a = a'
    · subst hne; exact SeqAt.EqAt.same _
    refine SeqAt.EqAt.of_refs hne ?_
    have := SeqAt.RcAt.tuples (e := fun _ => true) (A := A) ⟨_, e, rfl, n, rfl⟩ ⟨_, e', rfl, n', rfl⟩ hu (fun j h1 h2 => by simpa using eqScs (l := l) hf r r' j (by simpa using h1) (by simpa using h2))
    have hl : us.length = vs.length := r.two r'
    have e1 : ((List.range (min us.toArray.size vs.toArray.size)).all fun _ => true) = true := List.all_eq_true.mpr fun _ _ => rfl
    rw [e1, Bool.true_and, show (us.toArray.size == vs.toArray.size) = true by simp [hl]] at this
    exact this
  | _ => cases hf
theorem eqAts {A : Around} {s : Shared} : ∀ {us vs : List Value} {l : List AV}, l.all AV.flat = true → A.units < cLine → Reps s.heap us l → Reps s.heap vs l →
    ∀ j (h1 : j < us.length) (h2 : j < vs.length), SeqAt.EqAt A s us[j] vs[j] true
  | _, _, [], hf, _, ra, rb, j, h1, h2 => by cases ra; simp at h1
  | _, _, x :: l, hf, hu, ra, rb, j, h1, h2 => by
    simp only [List.all_cons, Bool.and_eq_true] at hf
    cases ra with
    | cons a r =>
    cases rb with
    | cons b r' =>
    cases j with
    | zero => exact eqAt hf.1 hu a b
    | succ j => exact eqAts (l := l) hf.2 hu r r' j (Nat.lt_of_succ_lt_succ h1) (Nat.lt_of_succ_lt_succ h2)
/-- two lists of the same plain items are equal -/
theorem Op2.eqL {S T : Addr} {l : List AV} (hS : (S, AO.list l) ∈ R) (hT : (T, AO.list l) ∈ R) (hf : l.all AV.flat = true) (hu : A.units + 50 < cLine) (h : Q (.bool true) R) : Op2 G A ((env.locals, .ns m) :: R) Rep (compareOp .Eq) (.ref S) (.ref T) (Lc env m Q) := fun s u v st ra rb => by
  cases ra; cases rb
  obtain ⟨vs, n, e, hl, r⟩ := atL st (.tail _ hS)
  obtain ⟨vs', n', e', hl', r'⟩ := atL st (.tail _ hT)
  refine SeqAt.eq_listAt (e := fun _ => true) hl hl' (by simpa using r.two r') (by omega) (fun j h1 h2 => by simpa using eqAts (l := l) (A := A.in1) hf (by show A.units + 1 < _; omega) r r' j (by simpa using h1) (by simpa using h2)) ?_
  rw [show ((List.range vs.toArray.size).all fun _ => true) = true from List.all_eq_true.mpr fun _ _ => rfl]
  exact ⟨_, _, .bool true, st, TupKeep.refl _, Lc.same h⟩
theorem Op2.neL0 {S T : Addr} {l : List AV} (hS : (S, AO.list l) ∈ R) (hT : (T, AO.list []) ∈ R) (hu : A.units + 50 < cLine) (h : Q (.bool (!l.isEmpty)) R) : Op2 G A ((env.locals, .ns m) :: R) Rep (compareOp .NotEq) (.ref S) (.ref T) (Lc env m Q) := fun s u v st ra rb => by
  cases ra; cases rb
  obtain ⟨vs, n, e, hl, r⟩ := atL st (.tail _ hS)
  obtain ⟨vs', n', e', hl', r'⟩ := atL st (.tail _ hT)
  cases r'
  cases l with
  | nil =>
    cases r
    have := SeqAt.RcNeAt.lists (A := A) (e := fun _ => true) hl hl' rfl (by omega) (fun j h1 h2 => by simp at h1)
    exact this _ _ _ _ ⟨_, _, .bool _, st, TupKeep.refl _, Lc.same h⟩
  | cons x l =>
    have := SeqAt.RcNeAt.lists_lengths (A := A) hl hl' (by simp [r.length]) (by omega)
    exact this _ _ _ _ ⟨_, _, .bool _, st, TupKeep.refl _, Lc.same h⟩
/-- two dicts: equal as maps -/
theorem dictHits {A : Around} {s : Shared} {ka kb : List (Int × Value)} {lb : List (Int × AV)} (hu : A.units < cLine) (rb : RepsK s.heap kb lb) : ∀ {ka : List (Int × Value)} {la : List (Int × AV)}, RepsK s.heap ka la → (∀ p ∈ la, p.2.flat = true ∧ dget lb p.1 = some p.2) → KeqHits A s kb ka true := by
  intro ka la r
  induction r with
  | nil => intro _; exact .nil
  | @cons k v x vs l a _ ih =>
    intro h
    have h1 := h _ (.head _)
    have h2 := valueAt_rep rb k
    rw [h1.2] at h2
    generalize e : valueAt kb k = y at h2
    cases h2 with
    | some rv => exact .hit (e := true) (b := true) e (eqAt h1.1 hu a rv) (ih fun p hp => h p (.tail _ hp))
theorem Op2.eqD (ok : Ok G) {S T : Addr} {la lb : List (Int × AV)} (hS : (S, AO.dictI la) ∈ R) (hT : (T, AO.dictI lb) ∈ R) (hu : A.units + 50 < cLine) (hlen : la.length = lb.length) (hall : ∀ p ∈ la, p.2.flat = true ∧ dget lb p.1 = some p.2)
    (h : Q (.bool true) R) : Op2 G A ((env.locals, .ns m) :: R) Rep (compareOp .Eq) (.ref S) (.ref T) (Lc env m Q) := fun s u v st ra rb => by
  cases ra; cases rb
  obtain ⟨ka, hA, r⟩ := (st.at_ _ (.tail _ hS)).1
  obtain ⟨kb, hB, r'⟩ := (st.at_ _ (.tail _ hT)).1
  refine keq_eq (r := true) (notMods ok st (.tail _ hS)) (notMods ok st (.tail _ hT)) hA hB (by omega) (fun _ => dictHits (A := A.in1) (ka := ka) (by show A.units + 1 < _; omega) r' r hall) ?_
  rw [r.len, r'.len, hlen, beq_self_eq_true]
  exact ⟨_, _, .bool _, st, TupKeep.refl _, Lc.same h⟩
theorem Op2.neD (ok : Ok G) {S T : Addr} {la lb : List (Int × AV)} (hS : (S, AO.dictI la) ∈ R) (hT : (T, AO.dictI lb) ∈ R) (hu : A.units + 50 < cLine) (hlen : la.length = lb.length) (hall : ∀ p ∈ la, p.2.flat = true ∧ dget lb p.1 = some p.2)
    (h : Q (.bool false) R) : Op2 G A ((env.locals, .ns m) :: R) Rep (compareOp .NotEq) (.ref S) (.ref T) (Lc env m Q) := fun s u v st ra rb => by
  cases ra; cases rb
  obtain ⟨ka, hA, r⟩ := (st.at_ _ (.tail _ hS)).1
  obtain ⟨kb, hB, r'⟩ := (st.at_ _ (.tail _ hT)).1
  refine keq_ne (r := true) (notMods ok st (.tail _ hS)) (notMods ok st (.tail _ hT)) hA hB (by omega) (fun _ => dictHits (A := A.in1) (ka := ka) (by show A.units + 1 < _; omega) r' r hall) ?_
  rw [r.len, r'.len, hlen, beq_self_eq_true]
  exact ⟨_, _, .bool _, st, TupKeep.refl _, Lc.same h⟩
end

/-! part MJ -/
section
variable {G : Gx} {A : Around} {env : Env} {m : Str → Option AV} {R R' : Cells} {Q : AV → Cells → Prop} {QF : Fl → (Str → Option AV) → Cells → Prop} {a b : Int}

abbrev OpB (G : Gx) (A : Around) (env : Env) (m : Str → Option AV) (R : Cells) (v : Value) (as : List AV) (Q : AV → Cells → Prop) : Prop :=
  OpL G A ((env.locals, .ns m) :: R) (fun us => PySem.call v us) as (Lc env m Q)
theorem OpC.con {H : Cells} {v : Value} {as : List AV} {Q : AV → Cells → Prop} (h : OpL G A H (fun us => PySem.call v us) as Q) : OpC G A H (.con v) as Q := fun s f us st rf rs => by
  cases rf with
  | con _ _ => exact h s us st rs

theorem put_cell {H H' : Cells} {s : Shared} {a : Addr} {x y : AO} (st : St G H s) (p : Put a x y H H') {h' : Heap} (t : Nat) (hs : Heap.SameBut a s.heap h') (hr : x.isRaw = false) (hy : TupKeep s.heap h' → At G.prog G.w h' a y) :
    St G H' { s with heap := h', toks := t } ∧ TupKeep s.heap h' := Sat.put st p t hs.extBut hr hy

/-! built-in functions -/
theorem OpB.len {T : Addr} {l : List AV} (hm : (T, AO.list l) ∈ R) (hz : l.length < 2 ^ 40) (h : Q (.int l.length) R) : OpB G A env m R (.builtin "len") [.ref T] Q := fun s us st r => by
  cases r with
  | cons r1 r2 =>
  cases r2; cases r1
  obtain ⟨vs, n, e, hl, r⟩ := atL st (.tail _ hm)
  refine call_len_list hl (by rw [List.size_toArray, r.length]; omega) ⟨_, _, ?_, st.toks _, TupKeep.refl _, Lc.same h⟩
  rw [List.size_toArray, r.length]
  exact .int _ _
theorem OpB.list {T : Addr} {l : List AV} (hm : (T, AO.list l) ∈ R) (hz : l.length < 2 ^ 20) (h : ∀ D, Q (.ref D) ((D, .list l) :: R)) : OpB G A env m R (.type "list") [.ref T] Q := fun s us st r => by
  cases r with
  | cons r1 r2 =>
  cases r2; cases r1
  obtain ⟨vs, n, e, hl, r⟩ := atL st (.tail _ hm)
  refine call_list_seq T (.inl rfl) e rfl rfl (fun h' c' hk hn => ?_) (by rw [List.size_toArray, r.length, sizeLine_eq]; omega)
  obtain ⟨q1, q2⟩ := Sat.enter st s.toks hk (y := .list l) ⟨vs, c', hn, r.mono (fun a vs n e => hk _ _ e)⟩
  exact ⟨_, _, .ref _, q1, q2, Lc.new (h _)⟩
/-- a range of two ends -/
theorem OpB.range2 (h : ∀ r t u v, Q (.ref r) ((r, .raw { cls := .type "range", data := .fields #[.int a t, .int b u, .int 1 v] }) :: R)) : OpB G A env m R (.type "range") [.int a, .int b] Q := fun s us st r => by
  cases r with
  | cons r1 r2 =>
  cases r2 with
  | cons r2 r3 =>
  cases r3; cases r1; cases r2
  refine call_range_2 ⟨_, _, .ref _, Sat.new st _ _ (y := .raw _) (Heap.get?_push_size _ rfl), TupKeep.push _ _, Lc.new (h _ _ _ _)⟩
theorem OpB.listRange (hh : A.handled = none) {r : Addr} {t u v : Tok} {lo hi : Nat} (hm : (r, AO.raw { cls := .type "range", data := .fields #[.int lo t, .int hi u, .int 1 v] }) ∈ R) (hlo : lo ≤ hi) (hz : hi < 2 ^ 20)
    (h : ∀ D, Q (.ref D) ((D, .list ((List.range' lo (hi - lo)).map fun i : Nat => .int i)) :: R)) : OpB G A env m R (.type "list") [.ref r] Q := fun s us st rr => by
  cases rr with
  | cons r1 r2 =>
  cases r2; cases r1
  have hr : IsRange s.heap r lo hi 1 t u v := (st.at_ _ (.tail _ hm)).1
  refine call_list_range hh hr (small_one (by omega) (by omega) (by omega) (by omega)) (n := hi - lo) (by rw [rangeSize_one]; split <;> omega) (by omega) fun h' tk acc' c' hk hn hi' => ?_
  obtain ⟨e1, e2⟩ := hi'
  have key : ∀ (n i : Nat) (ws : List Value), ws.length = n → (∀ (j : Nat) (v : Value), ws[j]? = some v → ∃ t, v = .int ((i + j : Nat) : Int) t) → Reps h' ws ((List.range' i n).map fun i : Nat => AV.int i) := by
    intro n
    induction n with
    | zero => intro i ws hw _; cases ws with
      | nil => exact .nil
      | cons _ _ => simp at hw
    | succ n ih =>
      intro i ws hw hx
      cases ws with
      | nil => simp at hw
      | cons w ws =>
        obtain ⟨t, rfl⟩ := hx 0 w rfl
        rw [List.range'_succ, List.map_cons]
        refine .cons (.int _ _) (ih (i + 1) ws (by simpa using hw) fun j v hv => ?_)
        obtain ⟨t, e⟩ := hx (j + 1) v (by simpa using hv)
        exact ⟨t, by rw [e]; congr 1; omega⟩
  have hreps := key (hi - lo) lo acc'.toList (by simpa using e1) fun j v hv => by
    obtain ⟨t, e⟩ := e2 j v (by simpa using hv)
    exact ⟨t, by rw [e]; congr 1; omega⟩
  obtain ⟨q1, q2⟩ := Sat.enter st tk hk (y := .list ((List.range' lo (hi - lo)).map fun i : Nat => .int i)) ⟨acc'.toList, c', by rw [hn], hreps⟩
  exact ⟨_, _, .ref _, q1, q2, Lc.new (h _)⟩
theorem OpB.int {i : Int} (h : Q (.int i) R) : OpB G A env m R (.type "int") [.int i] Q := fun s us st r => by
  cases r with
  | cons r1 r2 =>
  cases r2; cases r1
  exact call_int_int ⟨_, _, .int _ _, st, TupKeep.refl _, Lc.same h⟩
theorem OpB.str {i : Nat} (hi : i < 2 ^ 20) (h : Q (.str (Str.ofString (toString (i : Int)))) R) : OpB G A env m R (.type "str") [.int i] Q := fun s us st r => by
  cases r with
  | cons r1 r2 =>
  cases r2; cases r1
  refine P.str_of_int ?_ ⟨_, _, .str _ _, st.toks _, TupKeep.refl _, Lc.same h⟩
  have : (i : Int).natAbs = i := by omega
  rw [this]
  rcases Nat.eq_zero_or_pos i with q | q
  · subst q; decide
  · exact (Nat.log2_lt (by omega)).mpr (Nat.lt_of_lt_of_le hi (Nat.pow_le_pow_right (by decide) (by decide)))
theorem OpB.tuple {l : List AV} (h : Q (.tup l) R) : OpB G A env m R (.type "tuple") [.tup l] Q := fun s us st r => by
  cases r with
  | cons r1 r2 =>
  cases r2
  cases r1 with
  | tup e r =>
  rename_i a n vs
  exact call_tuple_same ⟨_, e, rfl, n, rfl⟩ ⟨_, _, .tup e r, st, TupKeep.refl _, Lc.same h⟩
theorem OpB.sorted {T : Addr} {l : List Int} (hm : (T, AO.list (l.map .int)) ∈ R) (hz : l.length < 64) (h : ∀ D (l' : List Int), l'.Perm l → l'.Pairwise (· ≤ ·) → Q (.ref D) ((D, .list (l'.map .int)) :: R)) : OpB G A env m R (.builtin "sorted") [.ref T] Q := fun s us st r => by
  cases r with
  | cons r1 r2 =>
  cases r2; cases r1
  obtain ⟨vs, n, e, hl, r⟩ := atL st (.tail _ hm)
  refine sorted_ints hl (ints_of r) (by rw [r.length, List.length_map]; exact hz) fun out ns' a1 a2 a3 => ?_
  obtain ⟨e', he'⟩ := sortedAll_at s.heap vs out
  have hk : ∀ b o, s.heap.get? b = some o → (sortedAll s.heap vs out).get? b = some o := fun b o => sortedAll_old
  have tk : TupKeep s.heap (sortedAll s.heap vs out) := fun a vs n e => hk _ _ e
  have hfresh : s.heap.objs.size + 1 ∉ ((env.locals, AO.ns m) :: R).map (·.1) := fun hm => by
    obtain ⟨c, hc, ec⟩ := List.mem_map.mp hm
    have h1 := (st.at_ c hc).1.lt
    have h2 : c.1 = s.heap.objs.size + 1 := ec
    rw [h2] at h1
    exact Nat.lt_irrefl _ (Nat.lt_trans h1 (Nat.lt_succ_self _))
  refine ⟨.ref _, (s.heap.objs.size + 1, .list (ns'.map .int)) :: (env.locals, .ns m) :: R, .ref _, ⟨fun b o e => hk _ _ (st.keep b o e), List.nodup_cons.mpr ⟨hfresh, st.nd⟩, fun c hc => ?_, st.gens, st.drawn, st.os⟩, tk, Lc.new (h _ ns' a2 a3)⟩
  rcases List.mem_cons.mp hc with rfl | hc
  · refine ⟨⟨out.toList, e', he', of_ints a1⟩, ?_⟩
    cases eb : G.base.get? (s.heap.objs.size + 1) with
    | none => rfl
    | some o => exact absurd (Heap.lt_size (st.keep _ _ eb)) (fun q => Nat.lt_irrefl _ (Nat.lt_trans q (Nat.lt_succ_self _)))
  · exact ⟨(st.at_ c hc).1.mono (fun o e => hk _ _ e) tk, (st.at_ c hc).2⟩
theorem Op2.addL {S T : Addr} {l l' : List AV} (hS : (S, AO.list l) ∈ R) (hT : (T, AO.list l') ∈ R) (hz : l.length + l'.length ≤ sizeLine) (h : ∀ D, Q (.ref D) ((D, .list (l ++ l')) :: R)) : Op2 G A ((env.locals, .ns m) :: R) Rep (binaryOp .Add) (.ref S) (.ref T) (Lc env m Q) := fun s u v st ra rb => by
  cases ra; cases rb
  obtain ⟨vs, n, e, hl, r⟩ := atL st (.tail _ hS)
  obtain ⟨vs', n', e', hl', r'⟩ := atL st (.tail _ hT)
  refine P.add_list e e' ?_ (by rw [List.size_toArray, List.size_toArray, r.length, r'.length]; exact hz)
  have := Sat.newL st (r.append r') s.toks
  have e2 : vs.toArray ++ vs'.toArray = (vs ++ vs').toArray := by simp
  rw [e2]
  exact ⟨_, _, .ref _, this, TupKeep.push _ _, Lc.new (h _)⟩

/-! methods of lists -/
theorem OpB.append {T : Addr} {l : List AV} {x : AV} (p : Put T (.list l) (.list (l ++ [x])) R R') (hz : l.length ≤ sizeLine) (h : Q .none R') : OpB G A env m R (.builtin "list.append") [.ref T, x] Q := fun s us st r => by
  cases r with
  | cons r1 r2 =>
  cases r2 with
  | cons r2 r3 =>
  cases r3; cases r1
  rename_i y
  obtain ⟨vs, n, e, hl, r⟩ := atL st (.tail _ p.mem)
  refine wpAny_list_append_plain (items := vs.toArray) ⟨n, e⟩ (fun h' hp hs' => ?_) (by rw [List.size_toArray, r.length]; exact hz)
  obtain ⟨n', hob'⟩ := hp
  rw [show vs.toArray.push y = (vs ++ [y]).toArray by simp] at hob'
  obtain ⟨q1, q2⟩ := put_cell st (Put.tail p) s.toks hs' rfl (fun tk => ⟨_, n', hob', (r.mono tk).append (.cons (r2.mono tk) .nil)⟩)
  exact ⟨_, _, .none, q1, q2, Lc.same h⟩
theorem OpB.pop {T : Addr} {l : List AV} {x : AV} (p : Put T (.list (l ++ [x])) (.list l) R R') (hz : l.length + 1 ≤ sizeLine) (h : Q x R') : OpB G A env m R (.builtin "list.pop") [.ref T] Q := fun s us st r => by
  cases r with
  | cons r1 r2 =>
  cases r2; cases r1
  obtain ⟨vs, n, e, hl, r⟩ := atL st (.tail _ p.mem)
  have hlen : vs.length = l.length + 1 := by rw [r.length]; simp
  obtain ⟨y, hy, ry⟩ := r.get (i := l.length) (x := x) (by simp)
  have hsz : vs.toArray.size = l.length + 1 := by rw [List.size_toArray, hlen]
  refine call_meets F.slot_list_pop ⟨_, e, rfl⟩ F.entry_list_pop (F.args_list_pop_1 _) (MeetsSeq.list_pop_last T vs.toArray n y (by rw [hsz, Nat.add_sub_cancel, List.getElem?_toArray]; exact hy) (by rw [hsz]; exact hz)) ⟨e, ?_⟩
  have hx := Heap.get?_update_self (Obj.mapSeq fun xs => xs.eraseIdxIfInBounds (vs.toArray.size - 1)) e rfl
  have hd : (vs.toArray.eraseIdxIfInBounds (vs.toArray.size - 1)) = (vs.take l.length).toArray := by
    rw [hsz, Nat.add_sub_cancel]
    simp only [Array.eraseIdxIfInBounds, List.size_toArray]
    rw [dif_pos (by omega), List.eraseIdx_toArray]
    congr 1
    have := List.eraseIdx_eq_take_drop_succ vs l.length
    rw [this, List.drop_of_length_le (by omega), List.append_nil]
  obtain ⟨q1, q2⟩ := put_cell st (Put.tail p) s.toks (Heap.SameBut.update ..) rfl (fun tk => by
    obtain ⟨n', hn⟩ : ∃ n', Obj.mapSeq (fun xs => xs.eraseIdxIfInBounds (vs.toArray.size - 1)) (listObj vs n) = listObj (vs.take l.length) n' := by
      unfold Obj.mapSeq
      dsimp only
      rw [hd]
      split <;> exact ⟨_, rfl⟩
    rw [hn] at hx
    refine ⟨vs.take l.length, n', hx, ?_⟩
    have := (r.take l.length).mono tk
    simpa using this)
  exact ⟨_, _, ry.mono q2, q1, q2, Lc.same h⟩
theorem erase_map {α β : Type} (f : α → β) : ∀ (l : List α) (i : Nat), (l.map f).eraseIdx i = (l.eraseIdx i).map f
  | [], i => by simp
  | a :: l, 0 => by simp
  | a :: l, i + 1 => by simp [erase_map f l i]
theorem OpB.remove {T : Addr} {l : List Int} {k : Int} (p : Put T (.list (l.map .int)) (.list ((l.eraseIdx (l.idxOf k)).map .int)) R R') (hk : k ∈ l) (hz : l.length ≤ sizeLine) (h : Q .none R') : OpB G A env m R (.builtin "list.remove") [.ref T, .int k] Q := fun s us st r => by
  cases r with
  | cons r1 r2 =>
  cases r2 with
  | cons r2 r3 =>
  cases r3; cases r1
  cases r2 with
  | int _ t =>
  obtain ⟨vs, n, e, hl, r⟩ := atL st (.tail _ p.mem)
  have hi := ints_of r
  have hlen : vs.length = l.length := by rw [r.length]; simp
  have hj : l.idxOf k < l.length := List.idxOf_lt_length_iff.mpr hk
  refine call_meets F.slot_list_remove ⟨_, e, rfl⟩ F.entry_list_remove (F.args_list_remove_2 _ _)
    (MeetsSeq.list_remove T vs.toArray n (.int k t) (isInt k) (fun y hy => eq_isInt k t hi y (by simpa using hy)) (l.idxOf k) (by simpa [hlen] using hj) ?_ ?_ (by rw [List.size_toArray, hlen]; exact hz)) ⟨e, ?_⟩
  · show isInt k vs[l.idxOf k] = true
    rw [isInt_at k hi _ (by omega) hj]
    simpa using List.getElem_idxOf hj
  · intro j hjs hlt
    show isInt k vs[j] = false
    rw [isInt_at k hi j (by simpa using hjs) (by omega)]
    exact ne_of_lt_idxOf hlt _
  · have hx := Heap.get?_update_self (Obj.mapSeq fun xs => xs.eraseIdxIfInBounds (l.idxOf k)) e rfl
    have hd : (vs.toArray.eraseIdxIfInBounds (l.idxOf k)) = (vs.eraseIdx (l.idxOf k)).toArray := by
      simp only [Array.eraseIdxIfInBounds, List.size_toArray]
      rw [dif_pos (by omega), List.eraseIdx_toArray]
    obtain ⟨q1, q2⟩ := put_cell st (Put.tail p) s.toks (Heap.SameBut.update ..) rfl (fun tk => by
      obtain ⟨n', hn⟩ : ∃ n', Obj.mapSeq (fun xs => xs.eraseIdxIfInBounds (l.idxOf k)) (listObj vs n) = listObj (vs.eraseIdx (l.idxOf k)) n' := by
        unfold Obj.mapSeq
        dsimp only
        rw [hd]
        split <;> exact ⟨_, rfl⟩
      rw [hn] at hx
      refine ⟨_, n', hx, ?_⟩
      have := (r.eraseIdx (l.idxOf k)).mono tk
      rw [← erase_map]
      exact this)
    exact ⟨_, _, .none, q1, q2, Lc.same h⟩
theorem OpB.index {T : Addr} {l : List Int} {k : Int} (hm : (T, AO.list (l.map .int)) ∈ R) (hk : k ∈ l) (hz : l.length < 2 ^ 20) (h : Q (.int (l.idxOf k : Nat)) R) : OpB G A env m R (.builtin "list.index") [.ref T, .int k] Q := fun s us st r => by
  cases r with
  | cons r1 r2 =>
  cases r2 with
  | cons r2 r3 =>
  cases r3; cases r1
  cases r2 with
  | int _ t =>
  obtain ⟨vs, n, e, hl, r⟩ := atL st (.tail _ hm)
  have hi := ints_of r
  have hlen : vs.length = l.length := by rw [r.length]; simp
  have hj : l.idxOf k < l.length := List.idxOf_lt_length_iff.mpr hk
  refine call_meets F.slot_list_index ⟨_, e, rfl⟩ F.entry_list_index (F.args_list_index_2 _ _)
    (SeqAt.list_indexAt T vs.toArray n none #[] (.int k t) (isInt k) (l.idxOf k) (by simpa [hlen] using hj) (by omega) ?_ ?_) ⟨e, fun y hy => (eq_isInt k t hi y (by simpa using hy)).at _ _, ?_⟩
  · show isInt k vs[l.idxOf k] = true
    rw [isInt_at k hi _ (by omega) hj]
    simpa using List.getElem_idxOf hj
  · intro j hjs hlt
    show isInt k vs[j] = false
    rw [isInt_at k hi j (by simpa using hjs) (by omega)]
    exact ne_of_lt_idxOf hlt _
  · exact ⟨_, _, .int _ _, st.toks _, TupKeep.refl _, Lc.same h⟩
end

/-! part MK -/
section
variable {G : Gx} {A : Around} {env : Env} {m : Str → Option AV} {R R' : Cells} {Q : AV → Cells → Prop} {QF : Fl → (Str → Option AV) → Cells → Prop}

theorem optCase {h : Heap} {x : Option Value} {y : Option AV} (r : OptRep h x y) : (x = none ∧ y = none) ∨ ∃ v a, x = some v ∧ y = some a ∧ Rep h v a := by
  cases r with
  | none => exact .inl ⟨rfl, rfl⟩
  | some r => exact .inr ⟨_, _, rfl, rfl, r⟩

/-! methods of dicts -/
theorem OpB.get (ok : Ok G) {d : Addr} {l : List (Int × AV)} {k : Int} {x : AV} (hm : (d, AO.dictI l) ∈ R) (h : Q ((dget l k).getD x) R) : OpB G A env m R (.builtin "dict.get") [.ref d, .int k, x] Q := fun s us st r => by
  cases r with
  | cons r1 r2 =>
  cases r2 with
  | cons r2 r3 =>
  cases r3 with
  | cons r3 r4 =>
  cases r4; cases r1; cases r2
  obtain ⟨kvs, hD, r⟩ := (st.at_ _ (.tail _ hm)).1
  refine call_meetsIn F.slot_dict_get hD.typeIs F.entry_dict_get (F.args_dict_get_3 _ _ _) (meets_dict_get_default (intKind G.prog G.w) d (k := k) (by simp [intKind, Value.isInt]) (notMods ok st (.tail _ hm)) _) ⟨_, hD.mapOf, ?_⟩
  rcases optCase (valueAt_rep r k) with ⟨e1, e2⟩ | ⟨v, a, e1, e2, rv⟩
  · rw [e1]; rw [e2] at h
    exact ⟨_, _, r3, st.toks _, TupKeep.refl _, Lc.same h⟩
  · rw [e1]; rw [e2] at h
    exact ⟨_, _, rv, st.toks _, TupKeep.refl _, Lc.same h⟩
theorem OpB.setdefault (ok : Ok G) {d : Addr} {l : List (Int × AV)} {k : Int} {x : AV} (hm : (d, AO.dictI l) ∈ R) (hz : l.length ≤ sizeLine)
    (h : match dget l k with | some y => Q y R | none => ∃ R', Put d (.dictI l) (.dictI (l ++ [(k, x)])) R R' ∧ Q x R') : OpB G A env m R (.builtin "dict.setdefault") [.ref d, .int k, x] Q := fun s us st r => by
  cases r with
  | cons r1 r2 =>
  cases r2 with
  | cons r2 r3 =>
  cases r3 with
  | cons r3 r4 =>
  cases r4; cases r1; cases r2
  obtain ⟨kvs, hD, r⟩ := (st.at_ _ (.tail _ hm)).1
  refine call_meetsIn F.slot_dict_setdefault hD.typeIs F.entry_dict_setdefault (F.args_dict_setdefault_3 _ _ _) (kt_meets_setdefault (intKind G.prog G.w) d (k := k) (by simp [intKind, Value.isInt]) (notMods ok st (.tail _ hm)) _) ⟨kvs, hD, (by rw [r.len]; exact hz), ?_, ?_⟩
  · intro v hv
    rcases optCase (valueAt_rep r k) with ⟨e1, e2⟩ | ⟨v', a, e1, e2, rv⟩
    · rw [e1] at hv; cases hv
    · rw [e1] at hv; cases hv
      rw [e2] at h
      exact ⟨_, _, rv, st.toks _, TupKeep.refl _, Lc.same h⟩
  · intro hv h' hm' hs'
    rcases optCase (valueAt_rep r k) with ⟨e1, e2⟩ | ⟨v', a, e1, e2, rv⟩
    · have e3 := e2
      rw [e2] at h
      obtain ⟨R', p, hq⟩ := h
      obtain ⟨q1, q2⟩ := put_cell st (Put.tail p) (s.toks + 1) hs' rfl (fun tk => ⟨_, hm', by
        rw [← dset_new e3]
        exact stored_rep (r.mono tk) k (r3.mono tk)⟩)
      exact ⟨_, _, r3.mono q2, q1, q2, Lc.same hq⟩
    · rw [e1] at hv; cases hv
theorem bk_of {h : Heap} {v : Value} {op : Str} {so da : Int} (r : Rep h v (.tup [.str op, .tup [], .int so, .int da])) : ∃ a, v = .ref a ∧ IsBK h (op, so, da) a := by
  cases r with
  | tup e r =>
  rename_i a n vs
  cases r with
  | cons r1 r =>
  cases r with
  | cons r2 r =>
  cases r with
  | cons r3 r =>
  cases r with
  | cons r4 r =>
  cases r
  cases r1; cases r3; cases r4
  cases r2 with
  | tup e' r' =>
  cases r'
  exact ⟨a, rfl, _, _, _, _, _, _, e, e'⟩
theorem atKey_none {xs : List (BK × Addr × Value)} {k : BK} (h : k ∉ xs.map (·.1)) : atKey xs k = none := by
  unfold atKey
  rw [Option.map_eq_none_iff, List.find?_eq_none]
  intro x hx
  simp only [decide_eq_true_eq]
  intro e
  exact h (e ▸ List.mem_map_of_mem hx)
theorem OpB.getT (ok : Ok G) {d : Addr} {l : List BK} {op : Str} {so da : Int} {x : AV} (hm : (d, AO.dictT l) ∈ R) (hu : A.units + 50 < cLine) (hk : (op, so, da) ∉ l) (h : Q x R) :
    OpB G A env m R (.builtin "dict.get") [.ref d, .tup [.str op, .tup [], .int so, .int da], x] Q := fun s us st r => by
  cases r with
  | cons r1 r2 =>
  cases r2 with
  | cons r2 r3 =>
  cases r3 with
  | cons r3 r4 =>
  cases r4; cases r1
  obtain ⟨a, rfl, hb⟩ := bk_of r2
  obtain ⟨xs, hD, hl⟩ := (st.at_ _ (.tail _ hm)).1
  refine call_meetsIn F.slot_dict_get hD.typeIs F.entry_dict_get (F.args_dict_get_3 _ _ _) (meetsH_dict_get_default (bankKind G.prog G.w) d a (notMods ok st (.tail _ hm)) _) ⟨?_, _, xs, hb, hD, ?_⟩
  · show A.units + 1 + 20 < cLine; omega
  · rw [atKey_none (by rw [hl]; exact hk)]
    exact ⟨_, _, r3, st.toks _, TupKeep.refl _, Lc.same h⟩

/-! stores into -/
def OpSet (G : Gx) (A : Around) (env : Env) (m : Str → Option AV) (R : Cells) (o i v : AV) (Q : Cells → Prop) : Prop :=
  ∀ s ov iv vv, St G ((env.locals, .ns m) :: R) s → Rep s.heap ov o → Rep s.heap iv i → Rep s.heap vv v → wpAny (model G.prog G.w) A (setItem ov iv vv) (fun _ s' => ∃ R', St G ((env.locals, .ns m) :: R') s' ∧ TupKeep s.heap s'.heap ∧ Q R') No s
theorem Ex.setItem {o i value : Expr} {pos' pos : Pos} (h : Ev G A env m R value fun v R₁ => Ev G A env m R₁ o fun ov R₂ => Ev G A env m R₂ i fun iv R₃ => OpSet G A env m R₃ ov iv v fun R₄ => QF .next m R₄)
    (hs : swapsWith value (some (.Subscript o i pos')) pos.line env = pure false := by rfl) : Ex G A env m R (.Assign [.Subscript o i pos'] value pos) QF := fun s st =>
  wpAny_Assign_Subscript (hs := hs) (wpAny_mono (h s st) (fun u s₁ ⟨v, R₁, r1, st₁, tk₁, h₁⟩ => wpAny_mono (h₁ s₁ st₁) (fun u₂ s₂ ⟨ov, R₂, r2, st₂, tk₂, h₂⟩ => wpAny_mono (h₂ s₂ st₂) (fun u₃ s₃ ⟨iv, R₃, r3, st₃, tk₃, h₃⟩ =>
    wpAny_mono (h₃ s₃ _ _ _ st₃ (r2.mono tk₃) r3 (r1.mono (tk₂.trans tk₃))) (fun _ s₄ ⟨R₄, st₄, tk₄, q⟩ => ⟨.next, _, _, .next, st₄, ((tk₁.trans tk₂).trans tk₃).trans tk₄, q⟩) fun _ _ x => x) fun _ _ x => x) fun _ _ x => x) fun _ _ x => x)
variable {QC : Cells → Prop}
theorem OpSet.dictI {d : Addr} {l : List (Int × AV)} {k : Int} {x : AV} (p : Put d (.dictI l) (.dictI (dset l k x)) R R') (hz : l.length ≤ sizeLine) (h : QC R') : OpSet G A env m R (.ref d) (.int k) x QC := fun s ov iv vv st r1 r2 r3 => by
  cases r1; cases r2
  obtain ⟨kvs, hD, r⟩ := (st.at_ _ (.tail _ p.mem)).1
  refine wpAny_setItem_pairs (knd := intKind G.prog G.w) (k := k) (by simp [intKind, Value.isInt]) hD (fun h' hm' hs' => ?_) (by rw [r.len]; exact hz)
  obtain ⟨q1, q2⟩ := put_cell st (Put.tail p) (s.toks + 1) hs' rfl (fun tk => ⟨_, hm', stored_rep (r.mono tk) k (r3.mono tk)⟩)
  exact ⟨_, q1, q2, h⟩
theorem OpSet.dictS {d : Addr} {l : List (Str × AV)} {k : Str} {x : AV} (p : Put d (.dictS l) (.dictS (dset l k x)) R R') (hz : l.length ≤ sizeLine) (h : QC R') : OpSet G A env m R (.ref d) (.str k) x QC := fun s ov iv vv st r1 r2 r3 => by
  cases r1; cases r2
  obtain ⟨kvs, hD, r⟩ := (st.at_ _ (.tail _ p.mem)).1
  refine wpAny_setItem_pairs (knd := PySem.strKind G.prog G.w) (k := k) (by simp [PySem.strKind, Value.isStrOf]) hD (fun h' hm' hs' => ?_) (by rw [r.len]; exact hz)
  obtain ⟨q1, q2⟩ := put_cell st (Put.tail p) (s.toks + 1) hs' rfl (fun tk => ⟨_, hm', stored_rep (r.mono tk) k (r3.mono tk)⟩)
  exact ⟨_, q1, q2, h⟩
theorem OpSet.list {T : Addr} {l : List AV} {k : Nat} {x : AV} (p : Put T (.list l) (.list (l.set k x)) R R') (hk : k < l.length) (hz : l.length ≤ 2 ^ 40) (h : QC R') : OpSet G A env m R (.ref T) (.int k) x QC := fun s ov iv vv st r1 r2 r3 => by
  cases r1; cases r2
  obtain ⟨vs, n, e, hl, r⟩ := atL st (.tail _ p.mem)
  have hlen := r.length
  refine ki_setAt (items := vs.toArray) (n := n) e (by omega) (by omega) (by rw [List.size_toArray, r.length]; omega) ?_
  have hx := Heap.get?_update_self (Obj.mapSeq (·.setIfInBounds ((k : Int)).toNat vv)) e rfl
  obtain ⟨q1, q2⟩ := put_cell st (Put.tail p) s.toks (Heap.SameBut.update ..) rfl (fun tk => by
    refine ⟨vs.set k vv, n, ?_, (r.mono tk).set k (r3.mono tk)⟩
    rw [hx]
    simp [Obj.mapSeq])
  exact ⟨_, q1, q2, h⟩
theorem OpSet.dictT {d : Addr} {l : List BK} {op : Str} {so da : Int} {x : AV} (p : Put d (.dictT l) (.dictT (l ++ [(op, so, da)])) R R') (hu : A.units + 50 < cLine) (hk : (op, so, da) ∉ l) (hz : l.length ≤ sizeLine) (h : QC R') :
    OpSet G A env m R (.ref d) (.tup [.str op, .tup [], .int so, .int da]) x QC := fun s ov iv vv st r1 r2 r3 => by
  cases r1
  obtain ⟨a, rfl, hb⟩ := bk_of r2
  obtain ⟨xs, hD, hl⟩ := (st.at_ _ (.tail _ p.mem)).1
  have hn := atKey_none (xs := xs) (k := (op, so, da)) (by rw [hl]; exact hk)
  refine wpAny_setItem_heap (knd := bankKind G.prog G.w) ?_ hb hD (fun h' hm' hs' => ?_) (by have := congrArg List.length hl; rw [List.length_map] at this; omega)
  · show A.units + 1 + 20 < cLine; omega
  obtain ⟨q1, q2⟩ := put_cell st (Put.tail p) _ hs' rfl (fun tk => ⟨_, hm', by rw [storedH_new hn, List.map_append, hl]; rfl⟩)
  exact ⟨_, q1, q2, h⟩

/-! del d[k] -/
theorem Ex.del {o i : Expr} {p pos : Pos} (h : Ev G A env m R o fun ov R₁ => Ev G A env m R₁ i fun iv R₂ => ∃ d l k x R₃, ov = .ref d ∧ iv = .int k ∧ dget l k = some x ∧ l.length ≤ sizeLine ∧ Put d (.dictI l) (.dictI (ddel l k)) R₂ R₃ ∧ QF .next m R₃) :
    Ex G A env m R (.Delete [.Subscript o i p] pos) QF := fun s st => by
  refine wpAny_Delete (wpAny_deleteEach_cons (wpAny_delete_Subscript (wpAny_mono (h s st) (fun u s₁ ⟨ov, R₁, r1, st₁, tk₁, h₁⟩ => wpAny_mono (h₁ s₁ st₁) ?_ fun _ _ x => x) fun _ _ x => x)))
  rintro u₂ s₂ ⟨iv, R₂, r2, st₂, tk₂, d, l, k, x, R₃, e1, e2, hx, hz, pt, hq⟩
  subst e1 e2
  have r1' := r1.mono tk₂
  cases r1'; cases r2
  obtain ⟨kvs, hD, r⟩ := (st₂.at_ _ (.tail _ pt.mem)).1
  have hsome : (valueAt kvs k).isSome = true := by
    rcases optCase (valueAt_rep r k) with ⟨e1, e2⟩ | ⟨v', a, e1, e2, rv⟩
    · rw [hx] at e2; cases e2
    · rw [e1]; rfl
  refine wpAny_delItem_slot hD.typeIs (by decide) F.slot_dict_delitem (call_meetsIn F.slot_dict_delitem hD.typeIs F.entry_dict_delitem (F.args_dict_delitem_2 _ _) (meets_dict_delitem_pairs (intKind G.prog G.w) d (k := k) (by simp [intKind, Value.isInt]))
    ⟨kvs, hD, (by rw [r.len]; exact hz), hsome, fun h' hm' hs' => ?_⟩)
  obtain ⟨q1, q2⟩ := put_cell st₂ (Put.tail pt) (s₂.toks + 1) hs' rfl (fun tk => ⟨_, hm', without_rep (r.mono tk) k⟩)
  exact wpAny_deleteEach_nil ⟨.next, _, _, .next, q1, (tk₁.trans tk₂).trans q2, hq⟩

/-! dict displays -/
theorem Ev.dict0I {pos : Pos} (h : ∀ D, Q (.ref D) ((D, .dictI []) :: R)) : Ev G A env m R (.Dict [] [] pos) Q := fun s st => by
  refine wpAny_Dict_empty ?_
  have := Sat.new st (y := .dictI []) { cls := .type "dict", data := .dict #[] } s.toks ⟨[], ⟨_, #[], 0, Heap.get?_push_size _ rfl, ⟨rfl, rfl, rfl⟩, rfl, fun e he => by simp at he, .nil, .nil⟩, .nil⟩
  exact pst (.ref _) (this.less less_swap) (TupKeep.push _ _) (h _)
theorem Ev.dict0T {pos : Pos} (h : ∀ D, Q (.ref D) ((D, .dictT []) :: R)) : Ev G A env m R (.Dict [] [] pos) Q := fun s st => by
  refine wpAny_Dict_empty ?_
  have := Sat.new st (y := .dictT []) { cls := .type "dict", data := .dict #[] } s.toks ⟨[], Heap.DictOfH.new _, rfl⟩
  exact pst (.ref _) (this.less less_swap) (TupKeep.push _ _) (h _)
theorem Ev.dictI1 {k v : Expr} {pos : Pos} (h : ∀ D, Ev G A env m ((D, .dictI []) :: R) k fun kv R₁ => ∃ i, kv = .int i ∧ Ev G A env m R₁ v fun x R₂ => ∃ R₃, Put D (.dictI []) (.dictI [(i, x)]) R₂ R₃ ∧ Q (.ref D) R₃) : Ev G A env m R (.Dict [some k] [v] pos) Q := fun s st => by
  have st₀ := Sat.new st (y := .dictI []) { cls := .type "dict", data := .dict #[] } s.toks ⟨[], ⟨_, #[], 0, Heap.get?_push_size _ rfl, ⟨rfl, rfl, rfl⟩, rfl, fun e he => by simp at he, .nil, .nil⟩, .nil⟩
  refine wpAny_Dict_pairs (knd := intKind G.prog G.w) (pairs := [(eval k env, do let x ← eval v env; standAt pos; pure x)]) rfl (by simp) (by simp) ?_
  refine evalPairs_cons (wpAny_mono (h _ _ (st₀.less less_swap)) (fun u₁ s₁ ⟨kv, R₁, r1, st₁, tk₁, i, e, h₁⟩ => wpAny_bind (wpAny_mono (h₁ s₁ st₁) (fun u₂ s₂ ⟨x, R₂, r2, st₂, tk₂, R₃, pt, hq⟩ => wpAny_bind (wpAny_standAt (wpAny_pure (evalPairs_nil ?_)))) fun _ _ x => x)) fun _ _ x => x)
  subst e
  cases r1
  obtain ⟨kvs, hD, r⟩ := (st₂.at_ _ (.tail _ pt.mem)).1
  cases r
  refine ⟨[(i, u₂)], ⟨by simp [intKind, Value.isInt], rfl, trivial⟩, hD, fun h' hm' hs' => ?_⟩
  obtain ⟨q1, q2⟩ := put_cell st₂ (Put.tail pt) _ hs' rfl (fun tk => ⟨_, hm', .cons (r2.mono tk) .nil⟩)
  exact pst (.ref _) q1 (((TupKeep.push _ _).trans (tk₁.trans tk₂)).trans q2) hq
theorem Ev.dictS2 {a b : Str} {ka kb : Nat} {pa pb : Pos} {v₁ v₂ : Expr} {pos : Pos} (hab : a ≠ b)
    (h : ∀ D, Ev G A env m ((D, .dictS []) :: R) v₁ fun x R₁ => Ev G A env m R₁ v₂ fun y R₂ => ∃ R₃, Put D (.dictS []) (.dictS [(a, x), (b, y)]) R₂ R₃ ∧ Q (.ref D) R₃) :
    Ev G A env m R (.Dict [some (.Constant (.str a) ka pa), some (.Constant (.str b) kb pb)] [v₁, v₂] pos) Q := fun s st => by
  have st₀ := Sat.new st (y := .dictS []) { cls := .type "dict", data := .dict #[] } s.toks ⟨[], ⟨_, #[], 0, Heap.get?_push_size _ rfl, ⟨rfl, rfl, rfl⟩, rfl, fun e he => by simp at he, .nil, .nil⟩, .nil⟩
  refine wpAny_Dict_pairs (knd := PySem.strKind G.prog G.w) (pairs := [(eval (.Constant (.str a) ka pa) env, do let x ← eval v₁ env; standAt pos; pure x), (eval (.Constant (.str b) kb pb) env, do let x ← eval v₂ env; standAt pos; pure x)]) rfl (by simp) (by simp) ?_
  refine evalPairs_cons (wpAny_Constant_str (wpAny_bind (wpAny_mono (h _ _ ((st₀.less less_swap).toks _)) (fun u₁ s₁ ⟨x, R₁, r1, st₁, tk₁, h₁⟩ => wpAny_bind (wpAny_standAt (wpAny_pure
    (evalPairs_cons (wpAny_Constant_str (wpAny_bind (wpAny_mono (h₁ _ (st₁.toks _)) (fun u₂ s₂ ⟨y, R₂, r2, st₂, tk₂, R₃, pt, hq⟩ => wpAny_bind (wpAny_standAt (wpAny_pure (evalPairs_nil ?_)))) fun _ _ x => x))))))) fun _ _ x => x)))
  obtain ⟨kvs, hD, r⟩ := (st₂.at_ _ (.tail _ pt.mem)).1
  cases r
  refine ⟨[(a, u₁), (b, u₂)], ⟨by simp [PySem.strKind, Value.isStrOf], rfl, by simp [PySem.strKind, Value.isStrOf], rfl, trivial⟩, hD, fun h' hm' hs' => ?_⟩
  have hmer : merged [] [(a, u₁), (b, u₂)] = [(a, u₁), (b, u₂)] := by simp [merged, stored, hab]
  rw [hmer] at hm'
  obtain ⟨q1, q2⟩ := put_cell st₂ (Put.tail pt) _ hs' rfl (fun tk => ⟨_, hm', .cons (r1.mono (tk₂.trans tk)) (.cons (r2.mono tk) .nil)⟩)
  exact pst (.ref _) q1 (((TupKeep.push _ _).trans (tk₁.trans tk₂)).trans q2) hq
end

/-! part ML -/
section
variable {G : Gx} {A : Around} {env : Env} {m : Str → Option AV} {R R' : Cells} {Q : AV → Cells → Prop} {QF : Fl → (Str → Option AV) → Cells → Prop}

structure AttrOk (K : Frag) (C : Addr) (name : Str) : Prop where
  set_ : findIn K (.ref C) "__setattr__" = some (some (.builtin "object.__setattr__"))
  over : plainOver K C = true
  taker : takerIn K C name = some none
  dict : (clsIn K C).any (·.hasDict) = true
theorem nsSet_inst {A : Around} {s : Shared} {a : Addr} {mc : Str → Option Value} {o : Obj} {es : Array DictEntry} {ep k : Nat} {name : Str} {v : Value} {P : Unit → Shared → Prop} (ho : s.heap.get? a = some o) (hd : o.data = .dict es ep) (hk : StrKeys es) (hm : ∀ x, nsFind es x = mc x) (hz : es.size ≤ k)
    (h : ∀ h' o' es' ep', Heap.SameBut a s.heap h' → h'.get? a = some o' → o'.data = .dict es' ep' → StrKeys es' → (∀ x, nsFind es' x = if x = name then some v else mc x) → es'.size ≤ k + 1 → P () { s with heap := h', toks := s.toks + 1 }) :
    wpAny (model G.prog G.w) A (nsSet a name v) P No s := by
  unfold nsSet
  refine wpAny_bind (wpAny_bind (wpAny_askSetting (wpAny_pure (wpAny_bind (wpAny_mkText (wpAny_bind (wpAny_loadPart ho ?_)))))))
  rw [hd]
  dsimp only
  have hany : es.any (·.refKey) = false := by
    rw [Array.any_eq_false']; intro e he; obtain ⟨n, t, h⟩ := hk e he; simp [DictEntry.refKey, h]
  rw [aRefKeyMayBeTheName_at, hany, Bool.and_false]
  refine wpAny_updatePart ho ?_
  obtain ⟨c, d, dt, sl⟩ := o
  subst hd
  cases hi : es.findIdx? (·.key.isStr name) with
  | some i =>
    refine h _ _ _ _ (Heap.SameBut.update ..) (Heap.get?_update_self _ ho (by simp only [Obj.putName_eq, Obj.putNameByArray, hi]; rfl)) (by simp only [Obj.putName_eq, Obj.putNameByArray, hi]; rfl) (hk.modify _ _) (fun x => ?_) (by rw [Array.size_modify]; omega)
    rw [← hm]; exact findBy_modify (fun n v => v.isStr n) Value.isStr_inj es name x v i hi
  | none =>
    refine h _ _ _ _ (Heap.SameBut.update ..) (Heap.get?_update_self _ ho (by simp only [Obj.putName_eq, Obj.putNameByArray, hi]; rfl)) (by simp only [Obj.putName_eq, Obj.putNameByArray, hi]; rfl) (hk.push _ _ _ _) (fun x => ?_) (by rw [Array.size_push]; omega)
    rw [← hm]
    exact findBy_push (fun n v => v.isStr n) es name x _ _ v (fun y => by
      show (name == y) = decide (y = name)
      by_cases h : y = name
      · subst h; simp
      · have : ¬ name = y := fun e => h e.symm
        simp [h, this]) hi
theorem Ex.setAttr (ok : Ok G) {o value : Expr} {attr : Str} {pos' pos : Pos} (h : Ev G A env m R value fun v R₁ => Ev G A env m R₁ o fun ov R₂ => ∃ x C dx mm k R₃, ov = .ref x ∧ (x, AO.raw (instObj C dx)) ∈ R₂ ∧ k < 2 ^ 20 ∧ Put dx (.inst mm k) (.inst (upd mm attr v) (k + 1)) R₂ R₃ ∧ AttrOk G.K C attr ∧ QF .next m R₃)
    (hs : swapsWith value (some (.Attribute o attr pos')) pos.line env = pure false := by rfl) : Ex G A env m R (.Assign [.Attribute o attr pos'] value pos) QF := fun s st => by
  refine plainObj_wpAny_Assign_Attribute (wpAny_mono (h s st) (fun u s₁ ⟨v, R₁, r1, st₁, tk₁, h₁⟩ => wpAny_mono (h₁ s₁ st₁) ?_ fun _ _ x => x) fun _ _ x => x) hs
  rintro u₂ s₂ ⟨ov, R₂, r2, st₂, tk₂, x, C, dx, mm, k, R₃, e, hx, hk20, pt, ao, hq⟩
  subst e
  cases r2
  have X := ok.X.keeps st₂.keep
  have ho : s₂.heap.get? x = some (instObj C dx) := (st₂.at_ _ (.tail _ hx)).1
  obtain ⟨mc, od, es, ep, hod, hdat, hk, hf, hr, hz⟩ := (st₂.at_ _ (.tail _ pt.mem)).1
  have I : InstAt s₂.heap x (instObj C dx) C (some od) := ⟨ho, rfl, rfl, hod⟩
  refine set_plain X I ao.set_ (osa_open (s := { s₂ with toks := s₂.toks + 1 }) X I ao.over ao.taker fun b => ?_)
  obtain ⟨cd, hc, hd'⟩ := any_some ao.dict
  dsimp only
  refine wpAny_bind (wpAny_pure (wpAny_bind (wpAny_bind (wpAny_loadPart ho (wpAny_bind ((looks_clsIn X hc).here (s := { s₂ with toks := s₂.toks + 1 }) ?_))))))
  rw [hd']
  refine wpAny_pure (a := some dx) (wpAny_bind (wpAny_pure (wpAny_bind ?_)))
  refine nsSet_inst (s := { s₂ with toks := s₂.toks + 1 }) hod hdat hk hf hz fun h' o' es' ep' hs' ho' hd' hk' hf' hz' => ?_
  refine wpAny_bind (wpAny_lookBehind (s := { s₂ with heap := h', toks := s₂.toks + 1 + 1 }) ho' (by rw [hd']; exact pastItsLine_dict (by rw [sizeLine_eq]; omega)) ?_)
  refine wpAny_pure ?_
  obtain ⟨q1, q2⟩ := put_cell st₂ (Put.tail pt) (s₂.toks + 1 + 1) hs' rfl (fun tk => ⟨_, o', es', ep', ho', hd', hk', hf', fun y => by
    unfold upd
    by_cases e : y = attr
    · simp only [e, if_true]; exact .some (r1.mono (tk₂.trans tk))
    · simp only [e, if_false]; exact (hr y).mono tk, hz'⟩)
  exact ⟨.next, _, _, .next, q1, (tk₁.trans tk₂).trans q2, hq⟩
end

/-! part MN -/
def fnParts (l : List Stmt) (k : Nat) : Arguments × List Stmt × Scope := match l[k]? with | some (.FunctionDef _ a b _ _ _ s _ _ _) => (a, b, s) | _ => ({ posonlyargs := [], args := [], vararg := none, kwonlyargs := [], kw_defaults := [], kwarg := none, defaults := [] }, [], { kind := .module, names := [], isGenerator := false, isCoroutine := false })
def clsParts (l : List Stmt) (k : Nat) : List Stmt := match l[k]? with | some (.ClassDef _ _ _ b _ _ _ _ _ _ _) => b | _ => []
def flawdrawn : Arguments × List Stmt × Scope := fnParts PySem.Challenge.pw_rg0212_01.main.body 12
def flawforest : Arguments × List Stmt × Scope := fnParts PySem.Challenge.pw_rg0212_01.main.body 13
def flawtop : Arguments × List Stmt × Scope := fnParts PySem.Challenge.pw_rg0212_01.main.body 14
def flawishung : Arguments × List Stmt × Scope := fnParts PySem.Challenge.pw_rg0212_01.main.body 15
def flawismadetop : Arguments × List Stmt × Scope := fnParts PySem.Challenge.pw_rg0212_01.main.body 16
def flawislineright : Arguments × List Stmt × Scope := fnParts PySem.Challenge.pw_rg0212_01.main.body 17
def flaw : Arguments × List Stmt × Scope := fnParts PySem.Challenge.pw_rg0212_01.main.body 18
def cinit : Arguments × List Stmt × Scope := fnParts (clsParts PySem.Challenge.pw_rg0212_01.main.body 6) 0
def chang : Arguments × List Stmt × Scope := fnParts (clsParts PySem.Challenge.pw_rg0212_01.main.body 6) 22
def cturn : Arguments × List Stmt × Scope := fnParts (clsParts PySem.Challenge.pw_rg0212_01.main.body 6) 23
def cedgesbetween : Arguments × List Stmt × Scope := fnParts (clsParts PySem.Challenge.pw_rg0212_01.main.body 6) 24
def cundo : Arguments × List Stmt × Scope := fnParts (clsParts PySem.Challenge.pw_rg0212_01.main.body 6) 39
def binit : Arguments × List Stmt × Scope := fnParts (clsParts PySem.Challenge.pw_rg0212_01.main.body 10) 0
def bdeclarefun : Arguments × List Stmt × Scope := fnParts (clsParts PySem.Challenge.pw_rg0212_01.main.body 10) 6
def bfreshconst : Arguments × List Stmt × Scope := fnParts (clsParts PySem.Challenge.pw_rg0212_01.main.body 10) 8
def bmake : Arguments × List Stmt × Scope := fnParts (clsParts PySem.Challenge.pw_rg0212_01.main.body 10) 19

def KK (P : Params) : Frag := [
  (3, ⟨(.type "dict"), none, .dict #[⟨PyData.keyHash P (Str.ofString "__name__"), (.str (Str.ofString "__name__") 165), (.str (Str.ofString "law_rg0212_01") 977)⟩, ⟨PyData.keyHash P (Str.ofString "__doc__"), (.str (Str.ofString "__doc__") 166), .none⟩, ⟨PyData.keyHash P (Str.ofString "__package__"), (.str (Str.ofString "__package__") 167), .none⟩, ⟨PyData.keyHash P (Str.ofString "__loader__"), (.str (Str.ofString "__loader__") 168), (.builtin "__main__.__loader__#opaque")⟩, ⟨PyData.keyHash P (Str.ofString "__spec__"), (.str (Str.ofString "__spec__") 169), .none⟩, ⟨PyData.keyHash P (Str.ofString "__annotations__"), (.str (Str.ofString "__annotations__") 170), (.ref 6)⟩, ⟨PyData.keyHash P (Str.ofString "__builtins__"), (.str (Str.ofString "__builtins__") 171), (.ref 4)⟩, ⟨PyData.keyHash P (Str.ofString "__file__"), (.str (Str.ofString "__file__") 173), (.str (Str.ofString "/claim/cut.py") 172)⟩, ⟨PyData.keyHash P (Str.ofString "__cached__"), (.str (Str.ofString "__cached__") 174), .none⟩, ⟨PyData.keyHash P (Str.ofString "_wall"), (.str (Str.ofString "_wall") 193), (.ref 21)⟩, ⟨PyData.keyHash P (Str.ofString "SmtError"), (.str (Str.ofString "SmtError") 233), (.ref 47)⟩, ⟨PyData.keyHash P (Str.ofString "VALUE_OPS"), (.str (Str.ofString "VALUE_OPS") 240), (.ref 51)⟩, ⟨PyData.keyHash P (Str.ofString "BY_ARGUMENTS"), (.str (Str.ofString "BY_ARGUMENTS") 242), (.str (Str.ofString "arguments") 241)⟩, ⟨PyData.keyHash P (Str.ofString "Congruence"), (.str (Str.ofString "Congruence") 693), (.ref 354)⟩, ⟨PyData.keyHash P (Str.ofString "BOOL"), (.str (Str.ofString "BOOL") 697), (.int 0 696)⟩, ⟨PyData.keyHash P (Str.ofString "INT"), (.str (Str.ofString "INT") 699), (.int 1 698)⟩, ⟨PyData.keyHash P (Str.ofString "Bank"), (.str (Str.ofString "Bank") 976), (.ref 571)⟩, ⟨PyData.keyHash P (Str.ofString "_law_drawn"), (.str (Str.ofString "_law_drawn") 987), (.ref 582)⟩, ⟨PyData.keyHash P (Str.ofString "_law_forest"), (.str (Str.ofString "_law_forest") 1002), (.ref 589)⟩, ⟨PyData.keyHash P (Str.ofString "_law_top"), (.str (Str.ofString "_law_top") 1011), (.ref 596)⟩, ⟨PyData.keyHash P (Str.ofString "_law_is_hung"), (.str (Str.ofString "_law_is_hung") 1024), (.ref 603)⟩, ⟨PyData.keyHash P (Str.ofString "_law_is_made_top"), (.str (Str.ofString "_law_is_made_top") 1036), (.ref 610)⟩, ⟨PyData.keyHash P (Str.ofString "_law_is_line_right"), (.str (Str.ofString "_law_is_line_right") 1042), (.ref 615)⟩, ⟨PyData.keyHash P (Str.ofString "law"), (.str (Str.ofString "law") 1048), (.ref 620)⟩] 24, #[]⟩),
  (354, ⟨(.type "type"), none, .cls { name := (Str.ofString "Congruence"), bases := [(.type "object")], mro := [(.ref 354), (.type "object")], ns := 353, qualname := (Str.ofString "Congruence"), hasDict := true, slotNames := [], subclasses := [], abstract := false, collection := none, hasDel := false }, #[none, none, (some (.str (Str.ofString "Congruence") 243)), (some (.str (Str.ofString "Congruence") 251)), (some (.builtin "object.__new__")), (some (.bool true))]⟩),
  (353, ⟨(.type "dict"), none, .dict #[⟨PyData.keyHash P (Str.ofString "__module__"), (.str (Str.ofString "__module__") 250), (.str (Str.ofString "minismt.congruence") 234)⟩, ⟨PyData.keyHash P (Str.ofString "__firstlineno__"), (.str (Str.ofString "__firstlineno__") 254), (.int 16 253)⟩, ⟨PyData.keyHash P (Str.ofString "__init__"), (.str (Str.ofString "__init__") 262), (.ref 65)⟩, ⟨PyData.keyHash P (Str.ofString "find"), (.str (Str.ofString "find") 270), (.ref 72)⟩, ⟨PyData.keyHash P (Str.ofString "knows"), (.str (Str.ofString "knows") 278), (.ref 79)⟩, ⟨PyData.keyHash P (Str.ofString "are_equal"), (.str (Str.ofString "are_equal") 287), (.ref 86)⟩, ⟨PyData.keyHash P (Str.ofString "are_apart"), (.str (Str.ofString "are_apart") 296), (.ref 93)⟩, ⟨PyData.keyHash P (Str.ofString "cause_apart"), (.str (Str.ofString "cause_apart") 307), (.ref 100)⟩, ⟨PyData.keyHash P (Str.ofString "value_in"), (.str (Str.ofString "value_in") 315), (.ref 107)⟩, ⟨PyData.keyHash P (Str.ofString "classes"), (.str (Str.ofString "classes") 324), (.ref 114)⟩, ⟨PyData.keyHash P (Str.ofString "conflict"), (.str (Str.ofString "conflict") 331), (.ref 121)⟩, ⟨PyData.keyHash P (Str.ofString "inner"), (.str (Str.ofString "inner") 339), (.ref 128)⟩, ⟨PyData.keyHash P (Str.ofString "add_term"), (.str (Str.ofString "add_term") 345), (.ref 133)⟩, ⟨PyData.keyHash P (Str.ofString "enter"), (.str (Str.ofString "enter") 351), (.ref 138)⟩, ⟨PyData.keyHash P (Str.ofString "signature"), (.str (Str.ofString "signature") 357), (.ref 143)⟩, ⟨PyData.keyHash P (Str.ofString "look_up"), (.str (Str.ofString "look_up") 367), (.ref 150)⟩, ⟨PyData.keyHash P (Str.ofString "merge"), (.str (Str.ofString "merge") 377), (.ref 157)⟩, ⟨PyData.keyHash P (Str.ofString "close"), (.str (Str.ofString "close") 388), (.ref 164)⟩, ⟨PyData.keyHash P (Str.ofString "join"), (.str (Str.ofString "join") 405), (.ref 171)⟩, ⟨PyData.keyHash P (Str.ofString "note_clash"), (.str (Str.ofString "note_clash") 413), (.ref 178)⟩, ⟨PyData.keyHash P (Str.ofString "lengths"), (.str (Str.ofString "lengths") 421), (.ref 185)⟩, ⟨PyData.keyHash P (Str.ofString "take_off"), (.str (Str.ofString "take_off") 430), (.ref 192)⟩, ⟨PyData.keyHash P (Str.ofString "torn"), (.str (Str.ofString "torn") 441), (.ref 199)⟩, ⟨PyData.keyHash P (Str.ofString "with_reason"), (.str (Str.ofString "with_reason") 450), (.ref 206)⟩, ⟨PyData.keyHash P (Str.ofString "hang"), (.str (Str.ofString "hang") 461), (.ref 213)⟩, ⟨PyData.keyHash P (Str.ofString "turn"), (.str (Str.ofString "turn") 473), (.ref 220)⟩, ⟨PyData.keyHash P (Str.ofString "edges_between"), (.str (Str.ofString "edges_between") 486), (.ref 227)⟩, ⟨PyData.keyHash P (Str.ofString "explain"), (.str (Str.ofString "explain") 503), (.ref 234)⟩, ⟨PyData.keyHash P (Str.ofString "separate"), (.str (Str.ofString "separate") 513), (.ref 241)⟩, ⟨PyData.keyHash P (Str.ofString "parted_by"), (.str (Str.ofString "parted_by") 525), (.ref 248)⟩, ⟨PyData.keyHash P (Str.ofString "explain_apart"), (.str (Str.ofString "explain_apart") 534), (.ref 255)⟩, ⟨PyData.keyHash P (Str.ofString "explain_cause"), (.str (Str.ofString "explain_cause") 544), (.ref 262)⟩, ⟨PyData.keyHash P (Str.ofString "joined"), (.str (Str.ofString "joined") 550), (.ref 267)⟩, ⟨PyData.keyHash P (Str.ofString "watch"), (.str (Str.ofString "watch") 560), (.ref 274)⟩, ⟨PyData.keyHash P (Str.ofString "place_watch"), (.str (Str.ofString "place_watch") 572), (.ref 281)⟩, ⟨PyData.keyHash P (Str.ofString "tell_class"), (.str (Str.ofString "tell_class") 581), (.ref 288)⟩, ⟨PyData.keyHash P (Str.ofString "tell"), (.str (Str.ofString "tell") 592), (.ref 295)⟩, ⟨PyData.keyHash P (Str.ofString "implied"), (.str (Str.ofString "implied") 599), (.ref 302)⟩, ⟨PyData.keyHash P (Str.ofString "explain_told"), (.str (Str.ofString "explain_told") 607), (.ref 309)⟩, ⟨PyData.keyHash P (Str.ofString "push_level"), (.str (Str.ofString "push_level") 614), (.ref 316)⟩, ⟨PyData.keyHash P (Str.ofString "pop_levels"), (.str (Str.ofString "pop_levels") 622), (.ref 323)⟩, ⟨PyData.keyHash P (Str.ofString "undo"), (.str (Str.ofString "undo") 635), (.ref 330)⟩, ⟨PyData.keyHash P (Str.ofString "leave"), (.str (Str.ofString "leave") 646), (.ref 337)⟩, ⟨PyData.keyHash P (Str.ofString "part"), (.str (Str.ofString "part") 658), (.ref 344)⟩, ⟨PyData.keyHash P (Str.ofString "unwatch"), (.str (Str.ofString "unwatch") 668), (.ref 351)⟩, ⟨PyData.keyHash P (Str.ofString "__static_attributes__"), (.str (Str.ofString "__static_attributes__") 686), (.ref 352)⟩, ⟨PyData.keyHash P (Str.ofString "__dict__"), (.str (Str.ofString "__dict__") 688), (.ref 355)⟩, ⟨PyData.keyHash P (Str.ofString "__weakref__"), (.str (Str.ofString "__weakref__") 690), (.ref 356)⟩, ⟨PyData.keyHash P (Str.ofString "__doc__"), (.str (Str.ofString "__doc__") 691), .none⟩] 4, #[]⟩),
  (571, ⟨(.type "type"), none, .cls { name := (Str.ofString "Bank"), bases := [(.type "object")], mro := [(.ref 571), (.type "object")], ns := 570, qualname := (Str.ofString "Bank"), hasDict := true, slotNames := [], subclasses := [], abstract := false, collection := none, hasDel := false }, #[none, none, (some (.str (Str.ofString "Bank") 700)), (some (.str (Str.ofString "Bank") 708)), (some (.builtin "object.__new__")), (some (.bool true))]⟩),
  (570, ⟨(.type "dict"), none, .dict #[⟨PyData.keyHash P (Str.ofString "__module__"), (.str (Str.ofString "__module__") 707), (.str (Str.ofString "minismt.terms") 694)⟩, ⟨PyData.keyHash P (Str.ofString "__firstlineno__"), (.str (Str.ofString "__firstlineno__") 711), (.int 340 710)⟩, ⟨PyData.keyHash P (Str.ofString "__init__"), (.str (Str.ofString "__init__") 718), (.ref 372)⟩, ⟨PyData.keyHash P (Str.ofString "sort_name"), (.str (Str.ofString "sort_name") 726), (.ref 379)⟩, ⟨PyData.keyHash P (Str.ofString "declare_sort"), (.str (Str.ofString "declare_sort") 734), (.ref 386)⟩, ⟨PyData.keyHash P (Str.ofString "width_of"), (.str (Str.ofString "width_of") 742), (.ref 393)⟩, ⟨PyData.keyHash P (Str.ofString "is_number_sort"), (.str (Str.ofString "is_number_sort") 750), (.ref 400)⟩, ⟨PyData.keyHash P (Str.ofString "is_free_sort"), (.str (Str.ofString "is_free_sort") 758), (.ref 407)⟩, ⟨PyData.keyHash P (Str.ofString "declare_fun"), (.str (Str.ofString "declare_fun") 768), (.ref 414)⟩, ⟨PyData.keyHash P (Str.ofString "fresh_fun"), (.str (Str.ofString "fresh_fun") 778), (.ref 421)⟩, ⟨PyData.keyHash P (Str.ofString "fresh_const"), (.str (Str.ofString "fresh_const") 787), (.ref 428)⟩, ⟨PyData.keyHash P (Str.ofString "fun_name"), (.str (Str.ofString "fun_name") 795), (.ref 435)⟩, ⟨PyData.keyHash P (Str.ofString "fun_arg_sorts"), (.str (Str.ofString "fun_arg_sorts") 803), (.ref 442)⟩, ⟨PyData.keyHash P (Str.ofString "fun_result"), (.str (Str.ofString "fun_result") 811), (.ref 449)⟩, ⟨PyData.keyHash P (Str.ofString "fun_count"), (.str (Str.ofString "fun_count") 818), (.ref 456)⟩, ⟨PyData.keyHash P (Str.ofString "op"), (.str (Str.ofString "op") 826), (.ref 463)⟩, ⟨PyData.keyHash P (Str.ofString "args"), (.str (Str.ofString "args") 834), (.ref 470)⟩, ⟨PyData.keyHash P (Str.ofString "sort"), (.str (Str.ofString "sort") 842), (.ref 477)⟩, ⟨PyData.keyHash P (Str.ofString "data"), (.str (Str.ofString "data") 850), (.ref 484)⟩, ⟨PyData.keyHash P (Str.ofString "width"), (.str (Str.ofString "width") 858), (.ref 491)⟩, ⟨PyData.keyHash P (Str.ofString "size"), (.str (Str.ofString "size") 865), (.ref 498)⟩, ⟨PyData.keyHash P (Str.ofString "make"), (.str (Str.ofString "make") 878), (.ref 505)⟩, ⟨PyData.keyHash P (Str.ofString "find_made"), (.str (Str.ofString "find_made") 889), (.ref 512)⟩, ⟨PyData.keyHash P (Str.ofString "is_value"), (.str (Str.ofString "is_value") 897), (.ref 519)⟩, ⟨PyData.keyHash P (Str.ofString "want"), (.str (Str.ofString "want") 907), (.ref 526)⟩, ⟨PyData.keyHash P (Str.ofString "want_all"), (.str (Str.ofString "want_all") 917), (.ref 533)⟩, ⟨PyData.keyHash P (Str.ofString "true_term"), (.str (Str.ofString "true_term") 924), (.ref 540)⟩, ⟨PyData.keyHash P (Str.ofString "false_term"), (.str (Str.ofString "false_term") 931), (.ref 547)⟩, ⟨PyData.keyHash P (Str.ofString "bool_term"), (.str (Str.ofString "bool_term") 939), (.ref 554)⟩, ⟨PyData.keyHash P (Str.ofString "parts"), (.str (Str.ofString "parts") 947), (.ref 561)⟩, ⟨PyData.keyHash P (Str.ofString "parts_of_all"), (.str (Str.ofString "parts_of_all") 955), (.ref 568)⟩, ⟨PyData.keyHash P (Str.ofString "__static_attributes__"), (.str (Str.ofString "__static_attributes__") 969), (.ref 569)⟩, ⟨PyData.keyHash P (Str.ofString "__dict__"), (.str (Str.ofString "__dict__") 971), (.ref 572)⟩, ⟨PyData.keyHash P (Str.ofString "__weakref__"), (.str (Str.ofString "__weakref__") 973), (.ref 573)⟩, ⟨PyData.keyHash P (Str.ofString "__doc__"), (.str (Str.ofString "__doc__") 974), .none⟩] 4, #[]⟩),
  (582, ⟨(.type "function"), none, .func (fnOf (Str.ofString "_law_drawn") (Str.ofString "_law_drawn") flawdrawn.1 flawdrawn.2.1 flawdrawn.2.2 .none .none .none (.str (Str.ofString "law_rg0212_01") 977) none (.ref 581) .none), #[]⟩),
  (589, ⟨(.type "function"), none, .func (fnOf (Str.ofString "_law_forest") (Str.ofString "_law_forest") flawforest.1 flawforest.2.1 flawforest.2.2 .none .none .none (.str (Str.ofString "law_rg0212_01") 977) none (.ref 588) .none), #[]⟩),
  (596, ⟨(.type "function"), none, .func (fnOf (Str.ofString "_law_top") (Str.ofString "_law_top") flawtop.1 flawtop.2.1 flawtop.2.2 .none .none .none (.str (Str.ofString "law_rg0212_01") 977) none (.ref 595) .none), #[]⟩),
  (603, ⟨(.type "function"), none, .func (fnOf (Str.ofString "_law_is_hung") (Str.ofString "_law_is_hung") flawishung.1 flawishung.2.1 flawishung.2.2 .none .none .none (.str (Str.ofString "law_rg0212_01") 977) none (.ref 602) .none), #[]⟩),
  (610, ⟨(.type "function"), none, .func (fnOf (Str.ofString "_law_is_made_top") (Str.ofString "_law_is_made_top") flawismadetop.1 flawismadetop.2.1 flawismadetop.2.2 .none .none .none (.str (Str.ofString "law_rg0212_01") 977) none (.ref 609) .none), #[]⟩),
  (615, ⟨(.type "function"), none, .func (fnOf (Str.ofString "_law_is_line_right") (Str.ofString "_law_is_line_right") flawislineright.1 flawislineright.2.1 flawislineright.2.2 .none .none .none (.str (Str.ofString "law_rg0212_01") 977) none (.ref 614) .none), #[]⟩),
  (620, ⟨(.type "function"), none, .func (fnOf (Str.ofString "law") (Str.ofString "law") flaw.1 flaw.2.1 flaw.2.2 .none .none .none (.str (Str.ofString "law_rg0212_01") 977) none (.ref 619) .none), #[]⟩),
  (65, ⟨(.type "function"), none, .func (fnOf (Str.ofString "__init__") (Str.ofString "Congruence.__init__") cinit.1 cinit.2.1 cinit.2.2 .none .none .none (.str (Str.ofString "minismt.congruence") 234) none (.ref 64) .none), #[]⟩),
  (213, ⟨(.type "function"), none, .func (fnOf (Str.ofString "hang") (Str.ofString "Congruence.hang") chang.1 chang.2.1 chang.2.2 .none .none .none (.str (Str.ofString "minismt.congruence") 234) none (.ref 212) .none), #[]⟩),
  (220, ⟨(.type "function"), none, .func (fnOf (Str.ofString "turn") (Str.ofString "Congruence.turn") cturn.1 cturn.2.1 cturn.2.2 .none .none .none (.str (Str.ofString "minismt.congruence") 234) none (.ref 219) .none), #[]⟩),
  (227, ⟨(.type "function"), none, .func (fnOf (Str.ofString "edges_between") (Str.ofString "Congruence.edges_between") cedgesbetween.1 cedgesbetween.2.1 cedgesbetween.2.2 .none .none .none (.str (Str.ofString "minismt.congruence") 234) none (.ref 226) .none), #[]⟩),
  (330, ⟨(.type "function"), none, .func (fnOf (Str.ofString "undo") (Str.ofString "Congruence.undo") cundo.1 cundo.2.1 cundo.2.2 .none .none .none (.str (Str.ofString "minismt.congruence") 234) none (.ref 329) .none), #[]⟩),
  (372, ⟨(.type "function"), none, .func (fnOf (Str.ofString "__init__") (Str.ofString "Bank.__init__") binit.1 binit.2.1 binit.2.2 .none .none .none (.str (Str.ofString "minismt.terms") 694) none (.ref 371) .none), #[]⟩),
  (414, ⟨(.type "function"), none, .func (fnOf (Str.ofString "declare_fun") (Str.ofString "Bank.declare_fun") bdeclarefun.1 bdeclarefun.2.1 bdeclarefun.2.2 .none .none .none (.str (Str.ofString "minismt.terms") 694) none (.ref 413) .none), #[]⟩),
  (428, ⟨(.type "function"), none, .func (fnOf (Str.ofString "fresh_const") (Str.ofString "Bank.fresh_const") bfreshconst.1 bfreshconst.2.1 bfreshconst.2.2 .none .none .none (.str (Str.ofString "minismt.terms") 694) none (.ref 427) .none), #[]⟩),
  (505, ⟨(.type "function"), none, .func (fnOf (Str.ofString "make") (Str.ofString "Bank.make") bmake.1 bmake.2.1 bmake.2.2 .none .none .none (.str (Str.ofString "minismt.terms") 694) none (.ref 504) .none), #[]⟩),
  (581, ⟨(.type "code"), none, .fields #[(.str (Str.ofString "_law_drawn") 979), (.str (Str.ofString "_law_drawn") 980), (.str (Str.ofString "/claim/cut.py") 981), (.int 453 0), (.int 2 0), (.int 0 0), (.int 0 0), (.int 3 0), (.ref 576), (.bool true), (.int 181 0), (.ref 577), .none, (.ref 578), (.ref 579), (.ref 580), (.int 985 0), (.int 453 0), (.str (Str.ofString "/claim/cut.py") 986)], #[]⟩),
  (588, ⟨(.type "code"), none, .fields #[(.str (Str.ofString "_law_forest") 988), (.str (Str.ofString "_law_forest") 989), (.str (Str.ofString "/claim/cut.py") 990), (.int 457 0), (.int 1 0), (.int 0 0), (.int 0 0), (.int 3 0), (.ref 583), (.bool true), (.int 181 0), (.ref 584), .none, (.ref 585), (.ref 586), (.ref 587), (.int 1000 0), (.int 457 0), (.str (Str.ofString "/claim/cut.py") 1001)], #[]⟩),
  (595, ⟨(.type "code"), none, .fields #[(.str (Str.ofString "_law_top") 1003), (.str (Str.ofString "_law_top") 1004), (.str (Str.ofString "/claim/cut.py") 1005), (.int 469 0), (.int 2 0), (.int 0 0), (.int 0 0), (.int 3 0), (.ref 590), (.bool true), (.int 181 0), (.ref 591), .none, (.ref 592), (.ref 593), (.ref 594), (.int 1009 0), (.int 469 0), (.str (Str.ofString "/claim/cut.py") 1010)], #[]⟩),
  (602, ⟨(.type "code"), none, .fields #[(.str (Str.ofString "_law_is_hung") 1012), (.str (Str.ofString "_law_is_hung") 1013), (.str (Str.ofString "/claim/cut.py") 1014), (.int 474 0), (.int 5 0), (.int 0 0), (.int 0 0), (.int 3 0), (.ref 597), (.bool true), (.int 181 0), (.ref 598), .none, (.ref 599), (.ref 600), (.ref 601), (.int 1022 0), (.int 474 0), (.str (Str.ofString "/claim/cut.py") 1023)], #[]⟩),
  (609, ⟨(.type "code"), none, .fields #[(.str (Str.ofString "_law_is_made_top") 1025), (.str (Str.ofString "_law_is_made_top") 1026), (.str (Str.ofString "/claim/cut.py") 1027), (.int 480 0), (.int 3 0), (.int 0 0), (.int 0 0), (.int 3 0), (.ref 604), (.bool true), (.int 181 0), (.ref 605), .none, (.ref 606), (.ref 607), (.ref 608), (.int 1034 0), (.int 480 0), (.str (Str.ofString "/claim/cut.py") 1035)], #[]⟩),
  (614, ⟨(.type "code"), none, .fields #[(.str (Str.ofString "_law_is_line_right") 1037), (.str (Str.ofString "_law_is_line_right") 1038), (.str (Str.ofString "/claim/cut.py") 1039), (.int 485 0), (.int 2 0), (.int 0 0), (.int 0 0), (.int 3 0), (.ref 611), (.bool true), (.int 181 0), (.ref 612), .none, .none, .none, (.ref 613), (.int 1040 0), (.int 485 0), (.str (Str.ofString "/claim/cut.py") 1041)], #[]⟩),
  (619, ⟨(.type "code"), none, .fields #[(.str (Str.ofString "law") 1043), (.str (Str.ofString "law") 1044), (.str (Str.ofString "/claim/cut.py") 1045), (.int 504 0), (.int 1 0), (.int 0 0), (.int 0 0), (.int 3 0), (.ref 616), (.bool true), (.int 181 0), (.ref 617), .none, .none, .none, (.ref 618), (.int 1046 0), (.int 504 0), (.str (Str.ofString "/claim/cut.py") 1047)], #[]⟩),
  (64, ⟨(.type "code"), none, .fields #[(.str (Str.ofString "__init__") 255), (.str (Str.ofString "Congruence.__init__") 256), (.str (Str.ofString "/claim/cut.py") 257), (.int 18 0), (.int 2 0), (.int 0 0), (.int 0 0), (.int 3 0), (.ref 59), (.bool true), (.int 181 0), (.ref 60), .none, (.ref 61), (.ref 62), (.ref 63), (.int 260 0), (.int 18 0), (.str (Str.ofString "/claim/cut.py") 261)], #[]⟩),
  (212, ⟨(.type "code"), none, .fields #[(.str (Str.ofString "hang") 451), (.str (Str.ofString "Congruence.hang") 452), (.str (Str.ofString "/claim/cut.py") 453), (.int 178 0), (.int 4 0), (.int 0 0), (.int 0 0), (.int 3 0), (.ref 207), (.bool true), (.int 181 0), (.ref 208), .none, (.ref 209), (.ref 210), (.ref 211), (.int 459 0), (.int 178 0), (.str (Str.ofString "/claim/cut.py") 460)], #[]⟩),
  (219, ⟨(.type "code"), none, .fields #[(.str (Str.ofString "turn") 462), (.str (Str.ofString "Congruence.turn") 463), (.str (Str.ofString "/claim/cut.py") 464), (.int 183 0), (.int 2 0), (.int 0 0), (.int 0 0), (.int 3 0), (.ref 214), (.bool true), (.int 181 0), (.ref 215), .none, (.ref 216), (.ref 217), (.ref 218), (.int 471 0), (.int 183 0), (.str (Str.ofString "/claim/cut.py") 472)], #[]⟩),
  (226, ⟨(.type "code"), none, .fields #[(.str (Str.ofString "edges_between") 474), (.str (Str.ofString "Congruence.edges_between") 475), (.str (Str.ofString "/claim/cut.py") 476), (.int 195 0), (.int 3 0), (.int 0 0), (.int 0 0), (.int 3 0), (.ref 221), (.bool true), (.int 181 0), (.ref 222), .none, (.ref 223), (.ref 224), (.ref 225), (.int 484 0), (.int 195 0), (.str (Str.ofString "/claim/cut.py") 485)], #[]⟩),
  (329, ⟨(.type "code"), none, .fields #[(.str (Str.ofString "undo") 623), (.str (Str.ofString "Congruence.undo") 624), (.str (Str.ofString "/claim/cut.py") 625), (.int 292 0), (.int 4 0), (.int 0 0), (.int 0 0), (.int 3 0), (.ref 324), (.bool true), (.int 181 0), (.ref 325), .none, (.ref 326), (.ref 327), (.ref 328), (.int 633 0), (.int 292 0), (.str (Str.ofString "/claim/cut.py") 634)], #[]⟩),
  (371, ⟨(.type "code"), none, .fields #[(.str (Str.ofString "__init__") 712), (.str (Str.ofString "Bank.__init__") 713), (.str (Str.ofString "/claim/cut.py") 714), (.int 342 0), (.int 1 0), (.int 0 0), (.int 0 0), (.int 3 0), (.ref 366), (.bool true), (.int 181 0), (.ref 367), .none, (.ref 368), (.ref 369), (.ref 370), (.int 716 0), (.int 342 0), (.str (Str.ofString "/claim/cut.py") 717)], #[]⟩),
  (413, ⟨(.type "code"), none, .fields #[(.str (Str.ofString "declare_fun") 759), (.str (Str.ofString "Bank.declare_fun") 760), (.str (Str.ofString "/claim/cut.py") 761), (.int 372 0), (.int 4 0), (.int 0 0), (.int 0 0), (.int 3 0), (.ref 408), (.bool true), (.int 181 0), (.ref 409), .none, (.ref 410), (.ref 411), (.ref 412), (.int 766 0), (.int 372 0), (.str (Str.ofString "/claim/cut.py") 767)], #[]⟩),
  (427, ⟨(.type "code"), none, .fields #[(.str (Str.ofString "fresh_const") 779), (.str (Str.ofString "Bank.fresh_const") 780), (.str (Str.ofString "/claim/cut.py") 781), (.int 381 0), (.int 3 0), (.int 0 0), (.int 0 0), (.int 3 0), (.ref 422), (.bool true), (.int 181 0), (.ref 423), .none, (.ref 424), (.ref 425), (.ref 426), (.int 785 0), (.int 381 0), (.str (Str.ofString "/claim/cut.py") 786)], #[]⟩),
  (504, ⟨(.type "code"), none, .fields #[(.str (Str.ofString "make") 866), (.str (Str.ofString "Bank.make") 867), (.str (Str.ofString "/claim/cut.py") 868), (.int 414 0), (.int 5 0), (.int 0 0), (.int 0 0), (.int 3 0), (.ref 499), (.bool true), (.int 181 0), (.ref 500), .none, (.ref 501), (.ref 502), (.ref 503), (.int 876 0), (.int 414 0), (.str (Str.ofString "/claim/cut.py") 877)], #[]⟩)]
def KA : List Addr := [3, 354, 353, 571, 570, 582, 589, 596, 603, 610, 615, 620, 65, 213, 220, 227, 330, 372, 414, 428, 505, 581, 588, 595, 602, 609, 614, 619, 64, 212, 219, 226, 329, 371, 413, 427, 504]

/-! part HH -/
abbrev pw : Program := PySem.Challenge.pw_rg0212_01
/-! the head: the run over a tree, by the library's quick twins of stepT, stepOk, denote, treeTable and openSeen -/
noncomputable abbrev stepQ := @PySem.W.Fast.tw10156331382660048174
noncomputable abbrev stepOkQ := @PySem.W.Fast.tw6613529449190102663
noncomputable abbrev denoteQ := @PySem.W.Fast.tw11892475500146522536
noncomputable abbrev tableQ := @PySem.W.Fast.tw14364793385576792824
noncomputable abbrev seenQ := @PySem.W.Fast.tw4187177175401517315
theorem stepQ_eq : @stepT = stepQ := PySem.W.Fast.te10156331382660048174
theorem stepOkQ_eq : @stepOk = stepOkQ := PySem.W.Fast.te6613529449190102663
theorem denoteQ_eq : @denote = denoteQ := PySem.W.Fast.te11892475500146522536
theorem tableQ_eq : @treeTable = tableQ := PySem.W.Fast.te14364793385576792824
theorem seenQ_eq : @openSeen = seenQ := PySem.W.Fast.te4187177175401517315
def topRunG (ok : Thread → Bool) (st : SharedT → Thread → Option (SharedT × Thread)) : Nat → SharedT → Thread → Option SharedT
  | 0, _, _ => none
  | n + 1, s, t => match through t with
    | true => some s
    | false => match ok t with
      | false => none
      | true => match st s t with
        | some (s', t') => topRunG ok st n s' t'
        | none => none
theorem topRun_of {tb : String → Option Builtin} {p : Program} {w : World} {n₀ : Nat} {ann : Option Value} : ∀ {n : Nat} {s s' : SharedT} {t : Thread}, topRunG (stepOk n₀ ann) (stepT (denote tb) p w) n s t = some s' → topRun tb p w n₀ ann n s.abs t = some s'.abs
  | 0, _, _, _, h => by cases h
  | n + 1, s, s', t, h => by
    unfold topRunG at h
    unfold topRun
    cases he : through t with
    | true => rw [he] at h; cases h; rfl
    | false =>
      rw [he] at h
      cases hk : stepOk n₀ ann t with
      | false => rw [hk] at h; cases h
      | true =>
        rw [hk] at h
        cases hs : stepT (denote tb) p w s t with
        | none => rw [hs] at h; cases h
        | some r => obtain ⟨s₂, t₂⟩ := r; rw [hs] at h; rw [stepT_spec hs]; exact topRun_of h
noncomputable def bootTree (P : Params) : BT := ((boot_heap P).objs.toList.foldl (fun (x : BT × Nat) o => (x.1.ins x.2 o, x.2 + 1)) (BT.nil, 0)).1
theorem bootAbs : ∀ P, absHeap (bootTree P) (boot_heap P).objs.size (boot_heap P).life = boot_heap P := by intro P; kernel_rfl
def qv : Program := { pw with main := { pw.main with body := pw.main.body.drop 18 } }
def lo : List Str := ["_wall", "SmtError", "VALUE_OPS", "BY_ARGUMENTS", "Congruence", "BOOL", "INT", "Bank", "_law_drawn", "_law_forest", "_law_top", "_law_is_hung", "_law_is_made_top", "_law_is_line_right"]
abbrev rr : RowW := PySem.Challenge.rw_rg0212_01.row.toRowW
def Xt (s : Shared) : Bool := xlAt qv [] s && recOk rr.records s
def Yf (s : Shared) : List (Option Obj) × Bool := (KA.map s.heap.get?, (s.heap.get? 1).isSome)
def lookT (s : SharedT) (a : Nat) : Option Obj := match Nat.blt a s.n with
  | true => alive ((s.tree.get a).getD default)
  | false => none
theorem abs_look (s : SharedT) (a : Nat) : s.abs.heap.get? a = lookT s a := by
  unfold SharedT.abs Heap.get? lookT
  rw [absHeap_at]
  have e : Nat.blt a s.n = decide (a < s.n) := by
    unfold Nat.blt
    rw [Bool.eq_iff_iff, decide_eq_true_iff, Nat.ble_eq]
    exact Iff.rfl
  rw [e]
  by_cases h : a < s.n
  · rw [if_pos h, decide_eq_true h]
    generalize (s.tree.get a).getD default = o
    obtain ⟨c, d, dt, sl⟩ := o
    cases dt <;> rfl
  · rw [if_neg h, decide_eq_false h]
def YfT (s : SharedT) : List (Option Obj) × Bool := (KA.map (lookT s), (lookT s 1).isSome)
theorem YfT_eq (s : SharedT) : Yf s.abs = YfT s := by
  unfold Yf YfT
  rw [abs_look]
  congr 1
  exact List.map_congr_left fun a _ => abs_look s a
def Ya (w : World) : List (Option Obj) × Bool := ((KK w.params).map fun p => some p.2, true)
theorem LeftO.of_tree {p q : Program} {loose : List Str} {Xt : Shared → Bool} {α : Type} {Yf : Shared → α} {Ya : World → α} {N : Nat} {g0 : Bool} {H₀ : Params → Heap} {gs₀ : Array GenState} {d₀ : Drawn} {k₀ : Nat} {m₀ : World → Nat} {ann : Option Value} {st : World → OsState → SharedT} {YT : SharedT → α}
    (open_ : ∀ w : World, (fencedOpening treeTable p w N).map (fun s => (s.heap, s.gens, s.drawn, s.toks)) = some (H₀ w.params, gs₀, d₀, k₀))
    (hst : ∀ (w : World) (os : OsState), (st w os).abs = ⟨H₀ w.params, gs₀, d₀, k₀, os⟩)
    (size : ∀ w : World, ((H₀ w.params).isNs mainGlobals && gs₀.size == 0, (H₀ w.params).nsMap mainGlobals "__annotations__") = (true, ann)) (hm : ∀ w : World, (H₀ w.params).objs.size = m₀ w)
    (hYT : ∀ s, Yf s.abs = YT s)
    (run : ∀ (w : World) (os : OsState), (topRunG (stepOk (m₀ w) ann) (stepT (denote treeTable) p w) N (st w os) (topStub p)).map
      (fun sT => (staticsOk (importedModules p.main.body) (H₀ w.params) sT.abs.heap && namesBound p sT.abs.heap && gensDone sT.abs && laidKept (H₀ w.params) sT.abs.heap, openSeen q loose (importedModules p.main.body) Xt g0 sT.abs, YT sT)) = some (true, openGood q loose, Ya w)) :
    LeftO p q loose Xt Yf Ya N g0 := fun w => by
  obtain ⟨⟨h, gs, d, k, os⟩, e, e'⟩ := Option.map_eq_some_iff.mp (open_ w)
  obtain ⟨rfl, rfl, rfl, rfl⟩ : h = H₀ w.params ∧ gs = gs₀ ∧ d = d₀ ∧ k = k₀ := by simpa using e'
  obtain ⟨sT, r1, r2⟩ := Option.map_eq_some_iff.mp (run w os)
  rw [← hYT] at r2
  have r := topRun_of r1
  rw [hst] at r
  obtain ⟨l1, l2⟩ := Prod.mk.inj r2
  obtain ⟨z1, z3⟩ := Prod.mk.inj (size w)
  have t : topFrom treeTable p w N ⟨H₀ w.params, gs, d, k, os⟩ = some sT.abs := by
    unfold topFrom
    dsimp only
    rw [z1, z3, hm, r]
    show (match staticsOk (importedModules p.main.body) (H₀ w.params) sT.abs.heap && namesBound p sT.abs.heap && gensDone sT.abs && laidKept (H₀ w.params) sT.abs.heap with | true => _ | false => _) = _
    rw [l1]
  unfold openEnds
  rw [e]
  show (topFrom treeTable p w N _).map _ = _
  rw [t]
  exact congrArg some l2
theorem bootLooks : ∀ P, ((boot_heap P).isNs mainGlobals && (Array.mk [] : Array GenState).size == 0, (boot_heap P).nsMap mainGlobals "__annotations__") = (true, some (.ref 6)) := by intro P; kernel_rfl
noncomputable def stL (w : World) (os : OsState) : SharedT := ⟨bootTree w.params, (boot_heap w.params).objs.size, (boot_heap w.params).life, Array.mk [], boot_drawn, boot_toks, os⟩
theorem stAbs (w : World) (os : OsState) : (stL w os).abs = ⟨boot_heap w.params, Array.mk [], boot_drawn, boot_toks, os⟩ := by
  unfold stL SharedT.abs
  dsimp only
  rw [bootAbs]
theorem openEq : opening pw = plainProg pw.main.scope.names := rfl
theorem runQ : ∀ (w : World) (os : OsState), (topRunG (stepOkQ (boot_heap w.params).objs.size (some (.ref 6))) (stepQ (denoteQ tableQ) pw w) 6900 (stL w os) (topStub pw)).map
    (fun sT => (staticsOk (importedModules pw.main.body) (boot_heap w.params) sT.abs.heap && namesBound pw sT.abs.heap && gensDone sT.abs && laidKept (boot_heap w.params) sT.abs.heap, seenQ qv lo (importedModules pw.main.body) Xt true sT.abs, YfT sT)) = some (true, openGood qv lo, Ya w) := by
  intro w os; kernel_rfl
theorem runAll : ∀ (w : World) (os : OsState), (topRunG (stepOk (boot_heap w.params).objs.size (some (.ref 6))) (stepT (denote treeTable) pw w) 6900 (stL w os) (topStub pw)).map
    (fun sT => (staticsOk (importedModules pw.main.body) (boot_heap w.params) sT.abs.heap && namesBound pw sT.abs.heap && gensDone sT.abs && laidKept (boot_heap w.params) sT.abs.heap, openSeen qv lo (importedModules pw.main.body) Xt true sT.abs, YfT sT)) = some (true, openGood qv lo, Ya w) := by
  rw [stepOkQ_eq, stepQ_eq, denoteQ_eq, tableQ_eq, seenQ_eq]
  exact runQ
theorem openL : ∀ w : World, (fencedOpening treeTable pw w 6900).map (fun s => (s.heap, s.gens, s.drawn, s.toks)) = some (boot_heap w.params, Array.mk [], boot_drawn, boot_toks) := boot_open (p := pw) (N := 6900) openEq rfl (fun s => rfl)
theorem leftL : LeftO pw qv lo Xt Yf Ya 6900 := LeftO.of_tree (g0 := true) (H₀ := boot_heap) (gs₀ := Array.mk []) (d₀ := boot_drawn) (k₀ := boot_toks) (m₀ := fun w => (boot_heap w.params).objs.size) (ann := some (.ref 6)) (st := stL) openL stAbs (fun w => bootLooks w.params) (fun _ => rfl) YfT_eq runAll

/-! part LK -/
/-! the looks at the text, each by itself, by the library's quick twins -/
theorem look1 : namesResolve pw = true := by rw [PySem.W.Fast.te8377067652309620493]; kernel_rfl
theorem readsV : readsOut pw pw.main.body "vars" = false := by rw [PySem.W.Fast.te13343964577679436407]; kernel_rfl
theorem readsD : readsOut pw pw.main.body "dir" = false := by rw [PySem.W.Fast.te13343964577679436407]; kernel_rfl
theorem readsL : readsOut pw pw.main.body "locals" = false := by rw [PySem.W.Fast.te13343964577679436407]; kernel_rfl
theorem bare0 : (["vars", "dir", "locals"] : List Str).filter (readsOut pw pw.main.body) = [] := by
  rw [List.filter_cons_of_neg (by rw [readsV]; decide), List.filter_cons_of_neg (by rw [readsD]; decide), List.filter_cons_of_neg (by rw [readsL]; decide)]; rfl
theorem strict0 : (!(importedModules pw.main.body).all cThrough.contains) = false := by kernel_rfl
theorem look2 : noRoadLSs { strict := !(importedModules pw.main.body).all cThrough.contains, foot := none, bare := (["vars", "dir", "locals"] : List Str).filter (readsOut pw pw.main.body) } pw.main.body = true := by
  rw [bare0, strict0, PySem.W.Fast.te8326940854005059898]; kernel_rfl
theorem look3 : (namesMeet pw pw.main.body fun _ n => attrL n) = true := by
  rw [PySem.W.Fast.te17119622794617984870, PySem.W.Fast.te17868728402115742887]; kernel_rfl
theorem lookAll : looksOpen PySem.Challenge.rw_rg0212_01.row.prog = true := by
  show looksOpen pw = true
  unfold looksOpen
  rw [look1, look2, look3]
  kernel_rfl
theorem lawRow : PySem.Challenge.rw_rg0212_01.row.wellSaid = true := by
  unfold OpenRow.wellSaid OpenRow.partSaid
  rw [lookAll]
  kernel_rfl
theorem lawOk : PySem.Challenge.rw_rg0212_01.wellSaid = true := by
  unfold OpenLaw.wellSaid
  rw [lawRow, PySem.W.Fast.te8326940854005059898, PySem.W.Fast.te17119622794617984870, PySem.W.Fast.named_eq]
  kernel_rfl
theorem whole0 : PySem.Challenge.rw_rg0212_01.row.prog.tablesWhole = true := by
  show pw.tablesWhole = true
  unfold Program.tablesWhole TablesWhole.wProgram
  rw [PySem.W.Fast.te6116379765354995101]; kernel_rfl

abbrev GG (w : World) (base : Heap) (s₀ : Shared) : Gx := ⟨PySem.Challenge.pw_rg0212_01, w, KK w.params, base, s₀⟩
theorem bLen : bootBuiltins "len" = some (.builtin "len") := by decide +kernel
theorem bSorted : bootBuiltins "sorted" = some (.builtin "sorted") := by decide +kernel
theorem bList : bootBuiltins "list" = some (.type "list") := by decide +kernel
theorem bInt : bootBuiltins "int" = some (.type "int") := by decide +kernel
theorem bStr : bootBuiltins "str" = some (.type "str") := by decide +kernel
theorem bRange : bootBuiltins "range" = some (.type "range") := by decide +kernel
theorem bTuple : bootBuiltins "tuple" = some (.type "tuple") := by decide +kernel

local macro_rules | `(tactic| walk_at "mem") => `(tactic| (repeat (first | exact List.Mem.head _ | apply List.Mem.tail)))
local macro_rules | `(tactic| walk_at "put") => `(tactic| (repeat (first | exact Put.head | apply Put.tail)))
local macro_rules | `(tactic| walk_at "lk") => `(tactic| first | assumption | exact upd_same _ _ _ | ((refine (upd_ne (by decide)).trans ?_); walk_at "lk") | rfl)
local macro_rules | `(tactic| walk_at "at") => `(tactic| (refine ⟨_, _, _, _, _, _, none, rfl, by walk_at "mem", by walk_at "mem", by assumption, (by intro b; nofun), by rfl, by rfl, by rfl, by rfl, ?_⟩))
local macro_rules | `(tactic| walk_at "append") => `(tactic| (refine Ev.meth (by assumption) PySem.F.plainAttrs_list PySem.F.slot_list_append PySem.F.type_list_append ?_))
local macro_rules | `(tactic| walk_at "pop") => `(tactic| (refine Ev.meth (by assumption) PySem.F.plainAttrs_list PySem.F.slot_list_pop PySem.F.type_list_pop ?_))
local macro_rules | `(tactic| walk_at "tgt") => `(tactic| (
  (with_unfolding_all refine Asg.tup (by assumption) (by rfl) (by rfl) ?_);
  repeat (with_unfolding_all first | refine AsgL.nil ?_ | (refine AsgL.cons ?_; refine Asg.name ?_))))
local macro_rules | `(tactic| walk_at "sz") => `(tactic| first | (simp [sizeLine_eq]; done) | (simp [sizeLine_eq]; omega) | (rw [sizeLine_eq]; omega))
local macro_rules | `(tactic| walk_at "setdefault") => `(tactic| (refine Ev.meth (by assumption) PySem.F.plainAttrs_dict PySem.F.slot_dict_setdefault PySem.F.type_dict_setdefault ?_))
local macro_rules | `(tactic| walk_at "get") => `(tactic| (refine Ev.meth (by assumption) PySem.F.plainAttrs_dict PySem.F.slot_dict_get PySem.F.type_dict_get ?_))
local macro_rules | `(tactic| walk_at "remove") => `(tactic| (refine Ev.meth (by assumption) PySem.F.plainAttrs_list PySem.F.slot_list_remove PySem.F.type_list_remove ?_))
local macro_rules | `(tactic| walk_at "index") => `(tactic| (refine Ev.meth (by assumption) PySem.F.plainAttrs_list PySem.F.slot_list_index PySem.F.type_list_index ?_))
local macro_rules | `(tactic| walk_at "set") => `(tactic| ((refine ⟨_, _, _, _, _, _, rfl, by walk_at "mem", ?_, by walk_at "put", ⟨by rfl, by rfl, by rfl, by rfl⟩, ?_⟩); (first | assumption | decide | omega)))
local macro_rules | `(tactic| walk_at "own") => `(tactic| (refine ⟨_, _, _, _, _, _, rfl, by walk_at "mem", by walk_at "mem", by assumption, by rfl, by rfl, by rfl, by rfl, ?_⟩))
local macro_rules | `(tactic| walk_at "less") => `(tactic| (repeat (first | exact Less.refl _ | (refine Less.pick (by walk_at "pick") ?_) | (refine Less.drop ?_)) ))
local macro_rules | `(tactic| walk_at "pick") => `(tactic| (repeat (first | exact Pick.head | apply Pick.tail)))
local macro_rules | `(tactic| walk_at "bnd") => `(tactic| (repeat (with_unfolding_all first | refine AsgL.nil ?_ | (refine AsgL.cons ?_; refine Asg.bind ?_))))
local macro_rules | `(tactic| walk_at "st") => `(tactic| first
  | ((with_reducible show Ev _ _ _ _ _ (Expr.Constant (Const.int _) _ _) _); refine Ev.cint ?_)
  | ((with_reducible show Ev _ _ _ _ _ (Expr.Constant (Const.str _) _ _) _); refine Ev.cstr ?_)
  | ((with_reducible show Ev _ _ _ _ _ (Expr.Constant Const.none _ _) _); refine Ev.cnone ?_)
  | ((with_reducible show Ev _ _ _ _ _ (Expr.Constant (Const.bool _) _ _) _); refine Ev.cbool ?_)
  | ((with_reducible show Ev _ _ _ _ _ (Expr.Name _ _) _); first
      | refine Ev.loc (by walk_at "lk") ?_
      | refine Ev.glob (by assumption) (by rfl) (fun h => Rep.ref _) ?_
      | refine Ev.glob (by assumption) (by rfl) (fun h => Rep.int _ _) ?_
      | refine Ev.blt (by assumption) (by rfl) (by first | exact bLen | exact bSorted | exact bList | exact bInt | exact bStr | exact bRange | exact bTuple) (by decide) ?_
      | refine Ev.cel (by rfl) (by walk_at "mem") ?_
      | refine Ev.fre (by rfl) (by walk_at "mem") ?_)
  | ((with_reducible show Ev _ _ _ _ _ (Expr.BinOp _ _ _ _) _); refine Ev.bin ?_)
  | ((with_reducible show Ev _ _ _ _ _ (Expr.Compare _ _ _ _) _); refine Ev.cmp ?_)
  | ((with_reducible show Ev _ _ _ _ _ (Expr.Tuple _ _ _) _); refine Ev.tuple ?_)
  | ((with_reducible show Ev _ _ _ _ _ (Expr.List _ _) _); refine Ev.list ?_)
  | ((with_reducible show Ev _ _ _ _ _ (Expr.IfExp _ _ _ _) _); refine Ev.ite ?_)
  | ((with_reducible show Ev _ _ _ _ _ (Expr.Subscript _ (Expr.Slice none (some _) none _) _) _); refine Ev.sliceTo ?_)
  | ((with_reducible show Ev _ _ _ _ _ (Expr.Subscript _ (Expr.Slice (some _) none none _) _) _); refine Ev.sliceFrom ?_)
  | ((with_reducible show Ev _ _ _ _ _ (Expr.Subscript _ _ _) _); refine Ev.sub ?_)
  | ((with_reducible show Ev _ _ _ _ _ (Expr.Call (Expr.Name _ _) _ _ _) _); refine Ev.call (by assumption) ?_)
  | ((with_reducible show Ev _ _ _ _ _ (Expr.Attribute _ _ _) _); refine Ev.attr (by assumption) ?_)
  | ((with_reducible show Tr _ _ _ _ _ (Expr.Compare _ _ _ _) _); refine Tr.cmp ?_)
  | ((with_reducible show Tr _ _ _ _ _ (Expr.UnaryOp .Not _ _) _); refine Tr.not ?_)
  | ((with_reducible show Tr _ _ _ _ _ (Expr.BoolOp .And _ _) _); refine Tr.and ?_)
  | ((with_reducible show Tr _ _ _ _ _ (Expr.Call _ _ _ _) _); refine Tr.val ?_)
  | ((with_reducible show Ev _ _ _ _ _ (Expr.BoolOp .And _ _) _); refine Ev.and ?_)
  | ((with_reducible show EvAnd _ _ _ _ _ _ [_] _); refine EvAnd.one ?_)
  | ((with_reducible show EvAnd _ _ _ _ _ _ (_ :: _ :: _) _); refine EvAnd.cons ?_)
  | ((with_reducible show TrAll _ _ _ _ _ (_ :: _) _); refine TrAll.cons ?_)
  | ((with_reducible show TrAll _ _ _ _ _ [] _); refine TrAll.nil ?_)
  | ((with_reducible show Evs _ _ _ _ _ (spliced (backTo _ (starEach (_ :: _) _))) _); refine Evs.cons ?_)
  | ((with_reducible show Evs _ _ _ _ _ (spliced (backTo _ (starEach [] _))) _); refine Evs.nil ?_)
  | ((with_reducible show Exs _ _ _ _ _ (_ :: _) _); refine Exs.cons ?_)
  | ((with_reducible show Exs _ _ _ _ _ [] _); refine Exs.nil ?_)
  | ((with_reducible show Ex _ _ _ _ _ (Stmt.Return (some _) _) _); refine Ex.ret ?_)
  | ((with_reducible show Ex _ _ _ _ _ (Stmt.If _ _ _ _) _); refine Ex.ifs ?_)
  | ((with_reducible show Ex _ _ _ _ _ (Stmt.Assign [Expr.Name _ _] _ _) _); refine Ex.asg ?_)
  | ((with_reducible show Ex _ _ _ _ _ (Stmt.Assign [Expr.Subscript _ _ _] _ _) _); refine Ex.setItem ?_)
  | ((with_reducible show Ex _ _ _ _ _ (Stmt.Assign [Expr.Attribute _ _ _] _ _) _); refine Ex.setAttr (by assumption) ?_)
  | ((with_reducible show Ex _ _ _ _ _ (Stmt.Assign [Expr.Tuple _ _ _] (Expr.Tuple _ _ _) _) _); refine Ex.swap (by assumption) ?_)
  | ((with_reducible show Ex _ _ _ _ _ (Stmt.Delete [Expr.Subscript _ _ _] _) _); refine Ex.del ?_)
  | ((with_reducible show Ex _ _ _ _ _ (Stmt.Expr _ _) _); refine Ex.exp ?_))


/-! part W1 -/
section
variable {w : World} {base : Heap} {s₀ : Shared}
abbrev urnC (U C : Addr) (cells : List Int) (at_ : Nat) : Cells := [(U, .dictS [("cells", .ref C), ("at", .int at_)]), (C, .list (cells.map .int))]
theorem drawn (ok : Ok (GG w base s₀)) {U C : Addr} {cells : List Int} {at_ many : Nat} (ha : at_ < 2 ^ 19) (hc : cells.length ≤ 100) (hm : 0 < many) :
    Fn (GG w base s₀) 1 582 [.ref U, .int many] (urnC U C cells at_) fun r FP => ∃ v : Nat, v < many ∧ r = .int v ∧ FP = urnC U C cells (at_ + 1) := by
  refine Fn.intro ok (by rfl) (by rfl) ["urn", "many"] (fun us h => by obtain ⟨a, b, rfl⟩ := len2 h; rfl) (by decide) ?_
  intro A F L rm
  with_unfolding_all refine Exs.cons ?_
  repeat walk_at "st"
  refine Op2.subS (by walk_at "mem") (by rfl) ?_
  dsimp only
  repeat walk_at "st"
  refine Op2.add ?_
  repeat walk_at "st"
  refine OpSet.dictS (by walk_at "put") (by simp [sizeLine_eq]) ?_
  have e : (at_ : Int) + 1 = ((at_ + 1 : Nat) : Int) := rfl
  dsimp only
  rw [e]
  repeat walk_at "st"
  refine ⟨Kept.con, ?_⟩
  repeat walk_at "st"
  refine Op2.subS (by walk_at "mem") (by rfl) ?_
  repeat walk_at "st"
  refine OpC.con (OpB.len (by walk_at "mem") (by simp; omega) ?_)
  refine Op2.lt ⟨_, rfl, ?_⟩
  have fin : ∀ x : Int, ∃ v : Nat, v < many ∧ (x.fmod 101).fmod many = (v : Int) := fun x => by
    have h1 : 0 ≤ (x.fmod 101).fmod many := Int.fmod_nonneg_of_pos _ (by omega)
    have h2 : (x.fmod 101).fmod many < many := Int.fmod_lt_of_pos _ (by omega)
    exact ⟨((x.fmod 101).fmod many).toNat, by omega, by omega⟩
  by_cases hlt : at_ < cells.length
  · rw [if_pos (by simp; omega)]
    repeat walk_at "st"
    refine Op2.subS (by walk_at "mem") (by rfl) ?_
    repeat walk_at "st"
    refine Op2.subL (x := .int (cells[at_])) (by walk_at "mem") (by omega) (by omega) (by simp [hlt]) ?_
    repeat walk_at "st"
    refine Op2.mod ?_ (by decide)
    repeat walk_at "st"
    refine Op2.mod ?_ (by omega)
    obtain ⟨v, h1, h2⟩ := fin cells[at_]
    exact ⟨_, Less.refl _, v, h1, congrArg AV.int h2, rfl⟩
  · rw [if_neg (by simp; omega)]
    repeat walk_at "st"
    refine Op2.mul ?_ (by decide) (by decide)
    repeat walk_at "st"
    refine Op2.mul ?_ (by omega) (by omega)
    repeat walk_at "st"
    refine Op2.mul ?_ (by decide) (by decide)
    repeat walk_at "st"
    refine Op2.add ?_
    repeat walk_at "st"
    refine Op2.add ?_
    repeat walk_at "st"
    refine Op2.mod ?_ (by decide)
    repeat walk_at "st"
    refine Op2.mod ?_ (by omega)
    obtain ⟨v, h1, h2⟩ := fin (9 * (at_ : Int) * at_ + 4 * at_ + 5)
    exact ⟨_, Less.refl _, v, h1, congrArg AV.int h2, rfl⟩
end

/-! part W2 -/
abbrev Edge := Int × Int
def edV (e : Edge) : AV := .tup [.int e.1, .int e.2]
abbrev Ed3 := Int × Int × Int
def chV (c : Ed3) : AV := .tup [.int c.1, edV c.2]
inductive Path (f : Int → Option Edge) : Int → List Ed3 → Int → Prop
  | nil {r : Int} : f r = none → Path f r [] r
  | cons {t p w : Int} {l : List Ed3} {r : Int} : f t = some (p, w) → Path f p l r → Path f t ((t, p, w) :: l) r
theorem Path.get {f : Int → Option Edge} {t r : Int} {l : List Ed3} (h : Path f t l r) : ∀ {i : Nat} {c : Ed3}, l[i]? = some c → f c.1 = some c.2 := by
  induction h with
  | nil _ => intro i c e; simp at e
  | cons hf _ ih =>
    intro i c e
    cases i with
    | zero => simp at e; subst e; exact hf
    | succ i => exact ih (by simpa using e)
def delAll (chain : List Ed3) (up : List (Int × Edge)) : List (Int × Edge) := chain.foldl (fun u c => ddel u c.1) up
def setAll (chain : List Ed3) (up : List (Int × Edge)) : List (Int × Edge) := chain.foldl (fun u c => dset u c.2.1 (c.1, c.2.2)) up
theorem delAll_snoc (l : List Ed3) (c : Ed3) (up : List (Int × Edge)) : delAll (l ++ [c]) up = ddel (delAll l up) c.1 := by simp [delAll, List.foldl_append]
theorem setAll_snoc (l : List Ed3) (c : Ed3) (up : List (Int × Edge)) : setAll (l ++ [c]) up = dset (setAll l up) c.2.1 (c.1, c.2.2) := by simp [setAll, List.foldl_append]
theorem take_snoc {α : Type} {l : List α} {i : Nat} {c : α} (h : l[i]? = some c) : l.take (i + 1) = l.take i ++ [c] := by simp [List.take_add_one, h]
theorem dget_delAll (l : List Ed3) : ∀ (up : List (Int × Edge)) (x : Int), dget (delAll l up) x = if x ∈ l.map (·.1) then none else dget up x := by
  induction l with
  | nil => intro up x; simp [delAll]
  | cons c l ih =>
    intro up x
    show dget (delAll l (ddel up c.1)) x = _
    rw [ih, dget_ddel]
    simp only [List.map_cons, List.mem_cons]
    by_cases h1 : x ∈ l.map (·.1) <;> by_cases h2 : x = c.1 <;> simp [h1, h2]
theorem ddel_len {α : Type} (l : List (Int × α)) (k : Int) : (ddel l k).length ≤ l.length := List.length_filter_le _ _
theorem delAll_len (l : List Ed3) : ∀ (up : List (Int × Edge)), (delAll l up).length ≤ up.length := by
  induction l with
  | nil => intro up; exact Nat.le_refl _
  | cons c l ih => intro up; exact Nat.le_trans (ih (ddel up c.1)) (ddel_len _ _)
theorem dset_len {α : Type} (l : List (Int × α)) (k : Int) (v : α) : (dset l k v).length ≤ l.length + 1 := by
  unfold dset
  split <;> simp
theorem setAll_len (l : List Ed3) : ∀ (up : List (Int × Edge)), (setAll l up).length ≤ up.length + l.length := by
  induction l with
  | nil => intro up; exact Nat.le_refl _
  | cons c l ih =>
    intro up
    have h1 := ih (dset up c.2.1 (c.1, c.2.2))
    have h2 := dset_len up c.2.1 (c.1, c.2.2)
    simp only [List.length_cons]
    show (setAll l (dset up c.2.1 (c.1, c.2.2))).length ≤ _
    omega
theorem not_mem_take {l : List Ed3} (nd : (l.map (·.1)).Nodup) {i : Nat} {c : Ed3} (h : l[i]? = some c) : c.1 ∉ (l.take i).map (·.1) := by
  intro hm
  rw [List.map_take] at hm
  have hi : (l.map (·.1))[i]? = some c.1 := by rw [List.getElem?_map, h]; rfl
  obtain ⟨j, hj, e⟩ := List.mem_iff_getElem.mp hm
  rw [List.getElem_take] at e
  rw [List.length_take] at hj
  obtain ⟨hi', e'⟩ := List.getElem?_eq_some_iff.mp hi
  have := (List.getElem_inj (h₀ := by omega) (h₁ := hi') nd).mp (e.trans e'.symm)
  omega
abbrev upC (H dx : Addr) (mm : Str → Option AV) (k : Nat) (U : Addr) (up : List (Int × Edge)) : Cells := [(H, .raw (instObj 354 dx)), (dx, .inst mm k), (U, .dictI (denc edV up))]
section
variable {w : World} {base : Heap} {s₀ : Shared}
theorem turnFn (ok : Ok (GG w base s₀)) {H dx U : Addr} {mm : Str → Option AV} {k : Nat} {up : List (Int × Edge)} {t r : Int} {chain : List Ed3} (hup : mm "up" = some (.ref U)) (hp : Path (dget up) t chain r) (hl : up.length < 1000) (hcl : chain.length < 1000)
    (hnd : (chain.map (·.1)).Nodup) :
    Fn (GG w base s₀) 1 220 [.ref H, .int t] (upC H dx mm k U up) fun x FP => x = .int r ∧ FP = upC H dx mm k U (setAll chain (delAll chain up)) := by
  refine Fn.intro ok (by rfl) (by rfl) ["self", "t"] (fun us h => by obtain ⟨a, b, rfl⟩ := len2 h; rfl) (by decide) ?_
  intro A F L rm
  have hh := rm.handled
  with_unfolding_all refine Exs.cons ?_
  repeat walk_at "st"
  refine ⟨by walk_at "sz", fun CH => ?_⟩
  repeat walk_at "st"
  refine ⟨by walk_at "sz", _, rfl, rfl, ?_⟩
  walk_at "bnd"
  dsimp only
  walk_at "st"
  refine Ex.while (fun n m R => ∃ dn rest here, chain = dn ++ rest ∧ Path (dget up) here rest r ∧ n = rest.length ∧ m "chain" = some (.ref CH) ∧ m "here" = some (.int here) ∧ m "self" = some (.ref H) ∧ R = (CH, .list (dn.map chV)) :: (upC H dx mm k U up ++ F))
    chain.length ⟨[], chain, t, rfl, hp, rfl, by walk_at "lk", by walk_at "lk", by walk_at "lk", rfl⟩ ?_
  rintro n m R ⟨dn, rest, here, hch, hpa, rfl, m1, m2, m3, rfl⟩
  repeat walk_at "st"
  walk_at "at"
  refine Op2.inI ok (by walk_at "mem") ?_
  rw [dget_enc]
  refine ⟨_, rfl, ?_⟩
  cases hpa with
  | @cons _ p w' l _ hc hpa =>
    rw [hc]
    simp only [Option.map_some, Option.isSome_some, if_true]
    repeat walk_at "st"
    walk_at "at"
    repeat walk_at "st"
    refine Op2.subI (x := edV (p, w')) (by walk_at "mem") (by rw [dget_enc, hc]; rfl) ?_
    dsimp only
    repeat walk_at "st"
    walk_at "append"
    repeat walk_at "st"
    refine ⟨Recv.list (by walk_at "mem"), ?_⟩
    repeat walk_at "st"
    refine ⟨by walk_at "sz", ?_⟩
    repeat walk_at "st"
    refine OpB.append (by walk_at "put") (by have := congrArg List.length hch; simp [sizeLine_eq] at this ⊢; omega) ?_
    dsimp only
    repeat walk_at "st"
    refine Op2.subT (k := 0) (by decide) rfl ?_
    repeat walk_at "st"
    exact ⟨rfl, l.length, _, by simp, Less.refl _, dn ++ [(here, p, w')], l, p, by simp [hch], hpa, rfl, by walk_at "lk", by walk_at "lk", by walk_at "lk", by simp [chV]⟩
  | nil hr =>
    rw [hr]
    simp only [Option.map_none, Option.isSome_none, Bool.false_eq_true, if_false]
    rw [List.append_nil] at hch
    subst hch
    walk_at "st"
    refine Ex.forL hh (.inr ⟨_, _, _, rfl⟩) ?_
    repeat walk_at "st"
    refine ⟨CH, _, rfl, fun i m R => m "chain" = some (.ref CH) ∧ m "here" = some (.int r) ∧ m "self" = some (.ref H) ∧ R = (CH, .list (chain.map chV)) :: (upC H dx mm k U (delAll (chain.take i) up) ++ F), ⟨m1, m2, m3, rfl⟩,
      fun i m R ⟨_, _, _, e⟩ => by subst e; walk_at "mem", ?_, ?_⟩
    · rintro i x m R hx ⟨m1, m2, m3, rfl⟩ it
      rw [List.getElem?_map] at hx
      obtain ⟨c, hc, rfl⟩ := Option.map_eq_some_iff.mp hx
      walk_at "tgt"
      repeat walk_at "st"
      walk_at "at"
      repeat walk_at "st"
      refine ⟨U, _, c.1, edV c.2, _, rfl, rfl, ?_, ?_, by walk_at "put", ?_⟩
      · rw [dget_enc, dget_delAll, if_neg (not_mem_take hnd hc), hp.get hc]; rfl
      · have := delAll_len (chain.take i) up; rw [denc_length, sizeLine_eq]; omega
      · repeat walk_at "st"
        refine ⟨rfl, _, Less.refl _, by walk_at "lk", by walk_at "lk", by walk_at "lk", ?_⟩
        rw [take_snoc hc, delAll_snoc, ddel_enc]
        rfl
    · rintro m R ⟨m1, m2, m3, rfl⟩
      dsimp only
      rw [List.length_map, List.take_length]
      walk_at "st"
      refine Ex.forL hh (.inr ⟨_, _, _, rfl⟩) ?_
      repeat walk_at "st"
      refine ⟨CH, _, rfl, fun i m R => m "chain" = some (.ref CH) ∧ m "here" = some (.int r) ∧ m "self" = some (.ref H) ∧ R = (CH, .list (chain.map chV)) :: (upC H dx mm k U (setAll (chain.take i) (delAll chain up)) ++ F), ⟨m1, m2, m3, rfl⟩,
        fun i m R ⟨_, _, _, e⟩ => by subst e; walk_at "mem", ?_, ?_⟩
      · rintro i x m R hx ⟨m1, m2, m3, rfl⟩ it
        rw [List.getElem?_map] at hx
        obtain ⟨c, hc, rfl⟩ := Option.map_eq_some_iff.mp hx
        walk_at "tgt"
        repeat walk_at "st"
        refine Op2.subT (k := 1) (by decide) rfl ?_
        repeat walk_at "st"
        refine ⟨by walk_at "sz", ?_⟩
        repeat walk_at "st"
        walk_at "at"
        repeat walk_at "st"
        refine Op2.subT (k := 0) (by decide) rfl ?_
        refine OpSet.dictI (by walk_at "put") ?_ ?_
        · have h1 := setAll_len (chain.take i) (delAll chain up)
          have h2 := delAll_len chain up
          rw [List.length_take] at h1
          rw [denc_length, sizeLine_eq]; omega
        · repeat walk_at "st"
          refine ⟨rfl, _, Less.refl _, by walk_at "lk", by walk_at "lk", by walk_at "lk", ?_⟩
          rw [take_snoc hc, setAll_snoc]
          simp only [upC, ← dset_enc]
          rfl
      · rintro m R ⟨m1, m2, m3, rfl⟩
        dsimp only
        rw [List.length_map, List.take_length]
        repeat walk_at "st"
        exact ⟨_, Less.drop (Less.refl _), rfl, rfl⟩
end

/-! part W3 -/
structure HM (mm : Str → Option AV) (U TR : Addr) : Prop where
  up : mm "up" = some (.ref U)
  trail : mm "trail" = some (.ref TR)
  turn : mm "turn" = none
  hang : mm "hang" = none
  undo : mm "undo" = none
  eb : mm "edges_between" = none
abbrev houseC (H dx : Addr) (mm : Str → Option AV) (k : Nat) (U TR : Addr) (up : List (Int × Edge)) (trl : List AV) : Cells := [(H, .raw (instObj 354 dx)), (dx, .inst mm k), (U, .dictI (denc edV up)), (TR, .list trl)]
section
variable {w : World} {base : Heap} {s₀ : Shared}
theorem hangFn (ok : Ok (GG w base s₀)) {H dx U TR : Addr} {mm : Str → Option AV} {k : Nat} {up : List (Int × Edge)} {t r q why : Int} {chain : List Ed3} {trl : List AV} (hm : HM mm U TR) (hp : Path (dget up) t chain r) (hl : up.length < 1000) (hcl : chain.length < 1000)
    (hnd : (chain.map (·.1)).Nodup) (htl : trl.length < 1000) :
    Fn (GG w base s₀) 2 213 [.ref H, .int t, .int q, .int why] (houseC H dx mm k U TR up trl) fun x FP => x = .none ∧ FP = houseC H dx mm k U TR (dset (setAll chain (delAll chain up)) t (q, why)) (trl ++ [.tup [.str "edge", .int t, .int r]]) := by
  obtain ⟨h1, h2, h3, h4, h5, h6⟩ := hm
  refine Fn.intro ok (by rfl) (by rfl) ["self", "left", "right", "why"] (fun us h => by obtain ⟨a, b, c, d, rfl⟩ := len4 h; rfl) (by decide) ?_
  intro A F L rm
  have hh := rm.handled
  with_unfolding_all refine Exs.cons ?_
  walk_at "st"
  refine Ev.own ok ?_
  repeat walk_at "st"
  walk_at "own"
  repeat walk_at "st"
  refine OpC.fn (turnFn ok h1 hp hl hcl hnd) rm (by walk_at "less") ?_
  rintro _ _ ⟨rfl, rfl⟩
  repeat walk_at "st"
  refine ⟨by walk_at "sz", ?_⟩
  repeat walk_at "st"
  walk_at "at"
  repeat walk_at "st"
  refine OpSet.dictI (by walk_at "put") ?_ ?_
  · have h1 := setAll_len chain (delAll chain up)
    have h2 := delAll_len chain up
    rw [denc_length, sizeLine_eq]; omega
  repeat walk_at "st"
  walk_at "append"
  repeat walk_at "st"
  walk_at "at"
  refine ⟨Recv.list (by walk_at "mem"), ?_⟩
  repeat walk_at "st"
  refine ⟨by walk_at "sz", ?_⟩
  repeat walk_at "st"
  refine OpB.append (by walk_at "put") (by walk_at "sz") ?_
  dsimp only
  repeat walk_at "st"
  refine ⟨houseC H dx mm k U TR (dset (setAll chain (delAll chain up)) t (q, why)) (trl ++ [.tup [.str "edge", .int t, .int r]]), ?_, rfl, rfl⟩
  simp only [houseC, ← dset_enc]
  walk_at "less"

theorem undoFn (ok : Ok (GG w base s₀)) {H dx U TR : Addr} {mm : Str → Option AV} {k : Nat} {up : List (Int × Edge)} {e : Edge} {l t r : Int} {a b : AV} {chain : List Ed3} (hm : HM mm U TR) (hg : dget up l = some e) (hp : Path (dget (ddel up l)) t chain r) (hl : up.length < 1000) (hcl : chain.length < 1000)
    (hnd : (chain.map (·.1)).Nodup) :
    Fn (GG w base s₀) 2 330 [.ref H, .tup [.str "edge", .int l, .int t], a, b] (upC H dx mm k U up) fun x FP => x = .none ∧ FP = upC H dx mm k U (setAll chain (delAll chain (ddel up l))) := by
  obtain ⟨h1, h2, h3, h4, h5, h6⟩ := hm
  refine Fn.intro ok (by rfl) (by rfl) ["self", "entry", "entered", "watched"] (fun us h => by obtain ⟨a, b, c, d, rfl⟩ := len4 h; rfl) (by decide) ?_
  intro A F L rm
  have hh := rm.handled
  with_unfolding_all refine Exs.cons ?_
  repeat walk_at "st"
  refine Op2.subT (k := 0) (by decide) rfl ?_
  dsimp only
  repeat walk_at "st"
  refine Op2.eqS ⟨false, congrArg AV.bool (by decide), ?_⟩
  simp only [Bool.false_eq_true, if_false]
  repeat walk_at "st"
  refine Op2.eqS ⟨false, congrArg AV.bool (by decide), ?_⟩
  simp only [Bool.false_eq_true, if_false]
  repeat walk_at "st"
  refine Op2.eqS ⟨false, congrArg AV.bool (by decide), ?_⟩
  simp only [Bool.false_eq_true, if_false]
  repeat walk_at "st"
  refine Op2.eqS ⟨true, congrArg AV.bool (by decide), ?_⟩
  simp only [if_true]
  repeat walk_at "st"
  walk_at "at"
  repeat walk_at "st"
  refine Op2.subT (k := 1) (by decide) rfl ?_
  refine ⟨U, _, l, edV e, _, rfl, rfl, by rw [dget_enc, hg]; rfl, by rw [denc_length, sizeLine_eq]; omega, by walk_at "put", ?_⟩
  rw [ddel_enc]
  repeat walk_at "st"
  refine Ev.own ok ?_
  repeat walk_at "st"
  walk_at "own"
  repeat walk_at "st"
  refine Op2.subT (k := 2) (by decide) rfl ?_
  repeat walk_at "st"
  refine OpC.fn (turnFn ok h1 hp (by have := ddel_len up l; omega) hcl hnd) rm (by walk_at "less") ?_
  rintro _ _ ⟨rfl, rfl⟩
  dsimp only
  repeat walk_at "st"
  exact ⟨_, Less.refl _, rfl, rfl⟩
end

/-! part W4 -/
/-- the places of a list's items -/
def idx (l : List Int) : List (Int × Nat) := l.zipIdx
theorem idx_keys (l : List Int) : (idx l).map (·.1) = l := by
  have : ∀ (l : List Int) n, (l.zipIdx n).map (·.1) = l := by
    intro l
    induction l with
    | nil => intro n; rfl
    | cons a l ih => intro n; simp [List.zipIdx_cons, ih]
  exact this l 0
theorem idx_snoc {l : List Int} {x : Int} (h : x ∉ l) : dset (idx l) x l.length = idx (l ++ [x]) := by
  rw [dset_new (dget_none.mpr (by rw [idx_keys]; exact h))]
  simp [idx, List.zipIdx_append]
theorem dget_idx {l : List Int} {x : Int} (h : x ∈ l) : dget (idx l) x = some (l.idxOf x) := by
  have : ∀ (l : List Int) n, x ∈ l → dget (l.zipIdx n) x = some (l.idxOf x + n) := by
    intro l
    induction l with
    | nil => intro n h; cases h
    | cons a l ih =>
      intro n h
      rw [List.zipIdx_cons, dget_cons]
      by_cases e : a = x
      · simp [e]
      · rw [if_neg e, ih (n + 1) (by rcases List.mem_cons.mp h with q | q; exact absurd q.symm e; exact q)]
        have e2 : (a == x) = false := by simp [e]
        simp only [List.idxOf_cons, e2, cond_false, Option.some.injEq]
        omega
  exact this l 0 h
def natV (n : Nat) : AV := .int n
inductive Back (f : Int → Option Edge) (N : List Int) : Int → List Int → Int → Prop
  | nil {b : Int} : b ∈ N → Back f N b [] b
  | cons {b p w : Int} {l : List Int} {h : Int} : b ∉ N → f b = some (p, w) → Back f N p l h → Back f N b (b :: l) h
theorem Back.mem {f : Int → Option Edge} {N : List Int} {b h : Int} {l : List Int} (x : Back f N b l h) : h ∈ N := by
  induction x with
  | nil h => exact h
  | cons _ _ _ ih => exact ih
section
variable {w : World} {base : Heap} {s₀ : Shared}
theorem betweenFn (ok : Ok (GG w base s₀)) {H dx U TR : Addr} {mm : Str → Option AV} {k : Nat} {up : List (Int × Edge)} {a b h r : Int} {chain : List Ed3} {N back : List Int} (hm : HM mm U TR) (hp : Path (dget up) a chain r) (hN : N = chain.map (·.1) ++ [r]) (hnd : N.Nodup)
    (hb : Back (dget up) N b back h) (hl : N.length < 1000) (hbl : back.length < 1000) :
    Fn (GG w base s₀) 2 227 [.ref H, .int a, .int b] (upC H dx mm k U up) fun x FP => ∃ D, x = .ref D ∧ FP = (D, .list ((N.take (N.idxOf h) ++ back).map .int)) :: upC H dx mm k U up := by
  obtain ⟨h1, h2, h3, h4, h5, h6⟩ := hm
  refine Fn.intro ok (by rfl) (by rfl) ["self", "a", "b"] (fun us h => by obtain ⟨a, b, c, rfl⟩ := len3 h; rfl) (by decide) ?_
  intro A F L rm
  have hh := rm.handled
  with_unfolding_all refine Exs.cons ?_
  repeat walk_at "st"
  refine ⟨by walk_at "sz", fun LN => ?_⟩
  walk_at "st"
  refine Ev.dictI1 fun SP => ?_
  repeat walk_at "st"
  refine ⟨a, rfl, ?_⟩
  repeat walk_at "st"
  refine ⟨_, by walk_at "put", ?_⟩
  repeat walk_at "st"
  refine ⟨by walk_at "sz", _, rfl, rfl, ?_⟩
  walk_at "bnd"
  dsimp only
  walk_at "st"
  refine Ex.while (fun n m R => ∃ dn rest here, chain = dn ++ rest ∧ Path (dget up) here rest r ∧ n = rest.length ∧ m "line" = some (.ref LN) ∧ m "spots" = some (.ref SP) ∧ m "here" = some (.int here) ∧ m "b" = some (.int b) ∧ m "self" = some (.ref H) ∧
      R = (SP, .dictI (denc natV (idx (dn.map (·.1) ++ [here])))) :: (LN, .list ((dn.map (·.1) ++ [here]).map .int)) :: (upC H dx mm k U up ++ F))
    chain.length ⟨[], chain, a, rfl, hp, rfl, by walk_at "lk", by walk_at "lk", by walk_at "lk", by walk_at "lk", by walk_at "lk", rfl⟩ ?_
  rintro n m R ⟨dn, rest, here, hch, hpa, rfl, m1, m2, m3, m4, m5, rfl⟩
  repeat walk_at "st"
  walk_at "at"
  refine Op2.inI ok (by walk_at "mem") ?_
  rw [dget_enc]
  refine ⟨_, rfl, ?_⟩
  cases hpa with
  | @cons _ p w' l _ hc hpa =>
    rw [hc]
    simp only [Option.map_some, Option.isSome_some, if_true]
    have hlen : (dn.map (·.1) ++ [here]).length < 1000 := by
      have e1 := congrArg List.length hN
      rw [hch] at e1
      simp at e1 ⊢
      omega
    have hnew : p ∉ dn.map (·.1) ++ [here] := by
      have hmem : p ∈ (l.map (·.1) ++ [r]) := by
        cases hpa with
        | nil _ => simp
        | cons _ _ => simp
      have e1 : N = (dn.map (·.1) ++ [here]) ++ (l.map (·.1) ++ [r]) := by rw [hN, hch]; simp
      rw [e1] at hnd
      intro q
      exact (List.nodup_append.mp hnd).2.2 _ q _ hmem rfl
    repeat walk_at "st"
    walk_at "at"
    repeat walk_at "st"
    refine Op2.subI (x := edV (p, w')) (by walk_at "mem") (by rw [dget_enc, hc]; rfl) ?_
    repeat walk_at "st"
    refine Op2.subT (k := 0) (by decide) rfl ?_
    dsimp only
    repeat walk_at "st"
    refine ⟨Kept.con, ?_⟩
    repeat walk_at "st"
    refine OpC.con (OpB.len (by walk_at "mem") (by rw [List.length_map]; omega) ?_)
    repeat walk_at "st"
    refine OpSet.dictI (by walk_at "put") (by rw [denc_length, sizeLine_eq]; simp [idx] at hlen ⊢; omega) ?_
    dsimp only
    repeat walk_at "st"
    walk_at "append"
    repeat walk_at "st"
    refine ⟨Recv.list (by walk_at "mem"), ?_⟩
    repeat walk_at "st"
    refine OpB.append (by walk_at "put") (by rw [List.length_map, sizeLine_eq]; omega) ?_
    dsimp only
    repeat walk_at "st"
    refine ⟨rfl, l.length, _, by simp, Less.refl _, dn ++ [(here, p, w')], l, p, by simp [hch], hpa, rfl, by walk_at "lk", by walk_at "lk", by walk_at "lk", by walk_at "lk", by walk_at "lk", ?_⟩
    have e2 : (dn ++ [(here, p, w')]).map (·.1) ++ [p] = (dn.map (·.1) ++ [here]) ++ [p] := by simp
    rw [e2, ← idx_snoc hnew, ← dset_enc, List.map_append (l₁ := dn.map (·.1) ++ [here])]
    simp [natV]
  | nil hr =>
    rw [hr]
    simp only [Option.map_none, Option.isSome_none, Bool.false_eq_true, if_false]
    rw [List.append_nil] at hch
    subst hch
    rw [← hN]
    repeat walk_at "st"
    refine ⟨by walk_at "sz", fun BK => ?_⟩
    repeat walk_at "st"
    refine ⟨by walk_at "sz", _, rfl, rfl, ?_⟩
    walk_at "bnd"
    dsimp only
    walk_at "st"
    refine Ex.while (fun n m R => ∃ dn rest here, back = dn ++ rest ∧ Back (dget up) N here rest h ∧ n = rest.length ∧ m "line" = some (.ref LN) ∧ m "spots" = some (.ref SP) ∧ m "here" = some (.int here) ∧ m "back" = some (.ref BK) ∧ m "self" = some (.ref H) ∧
      R = (BK, .list (dn.map .int)) :: (SP, .dictI (denc natV (idx N))) :: (LN, .list (N.map .int)) :: (upC H dx mm k U up ++ F))
      back.length ⟨[], back, b, rfl, hb, rfl, by walk_at "lk", by walk_at "lk", by walk_at "lk", by walk_at "lk", by walk_at "lk", rfl⟩ ?_
    rintro n m R ⟨dn, rest, here, hbk, hbb, rfl, m1, m2, m3, m4, m5, rfl⟩
    repeat walk_at "st"
    refine Op2.notInI ok (by walk_at "mem") ?_
    rw [dget_enc]
    refine ⟨_, rfl, ?_⟩
    cases hbb with
    | @cons _ p w' l _ hn hc hpa =>
      rw [dget_none.mpr (by rw [idx_keys]; exact hn)]
      simp only [Option.map_none, Option.isSome_none, Bool.not_false, if_true]
      repeat walk_at "st"
      walk_at "append"
      repeat walk_at "st"
      refine ⟨Recv.list (by walk_at "mem"), ?_⟩
      repeat walk_at "st"
      refine OpB.append (by walk_at "put") (by have e1 := congrArg List.length hbk; rw [List.length_map, sizeLine_eq]; simp at e1; omega) ?_
      dsimp only
      repeat walk_at "st"
      walk_at "at"
      repeat walk_at "st"
      refine Op2.subI (x := edV (p, w')) (by walk_at "mem") (by rw [dget_enc, hc]; rfl) ?_
      repeat walk_at "st"
      refine Op2.subT (k := 0) (by decide) rfl ?_
      dsimp only
      repeat walk_at "st"
      exact ⟨rfl, l.length, _, by simp, Less.refl _, dn ++ [here], l, p, by simp [hbk], hpa, rfl, by walk_at "lk", by walk_at "lk", by walk_at "lk", by walk_at "lk", by walk_at "lk", by simp⟩
    | nil hmem =>
      rw [dget_idx hmem]
      simp only [Option.map_some, Option.isSome_some, Bool.not_true, Bool.false_eq_true, if_false]
      rw [List.append_nil] at hbk
      subst hbk
      walk_at "st"
      walk_at "st"
      walk_at "st"
      walk_at "st"
      repeat walk_at "st"
      refine ⟨LN, N.map .int, rfl, ?_⟩
      repeat walk_at "st"
      refine Op2.subI (x := natV (N.idxOf h)) (by walk_at "mem") (by rw [dget_enc, dget_idx hmem]; rfl) ?_
      refine ⟨N.idxOf h, rfl, by walk_at "mem", by rw [List.length_map, sizeLine_eq]; omega, fun D => ?_⟩
      repeat walk_at "st"
      refine Op2.addL (by walk_at "mem") (by walk_at "mem") (by simp [sizeLine_eq]; omega) fun E => ?_
      dsimp only
      rw [← List.map_take, ← List.map_append]
      exact ⟨(E, .list ((N.take (N.idxOf h) ++ back).map .int)) :: upC H dx mm k U up, by walk_at "less", E, rfl, rfl⟩
end

/-! part PL -/
abbrev Tie := Int × Int × Int

theorem sub_len : ∀ {l m : List Int}, l.Nodup → (∀ x ∈ l, x ∈ m) → l.length ≤ m.length
  | [], m, _, _ => Nat.zero_le _
  | a :: l, m, nd, h => by
    have ha := h a (.head _)
    have nd' := List.nodup_cons.mp nd
    have := sub_len (l := l) (m := m.erase a) nd'.2 (fun x hx => (List.mem_erase_of_ne (fun e => nd'.1 (by rw [← e]; exact hx))).mpr (h x (.tail _ hx)))
    rw [List.length_erase_of_mem ha] at this
    have hpos : 0 < m.length := List.length_pos_of_mem ha
    simp only [List.length_cons]; omega
theorem keys_len {α : Type} {l m : List (Int × α)} (nd : (l.map (·.1)).Nodup) (h : ∀ k v, dget l k = some v → dget m k = some v) : l.length ≤ m.length := by
  have := sub_len (l := l.map (·.1)) (m := m.map (·.1)) nd (fun x hx => by
    have := dget_isSome.mpr hx
    cases e : dget l x with
    | none => rw [e] at this; cases this
    | some v => exact dget_isSome.mp (by rw [h x v e]; rfl))
  simpa using this
theorem keys_len_eq {α : Type} {l m : List (Int × α)} (nd : (l.map (·.1)).Nodup) (nd' : (m.map (·.1)).Nodup) (h : ∀ k, dget l k = dget m k) : l.length = m.length :=
  Nat.le_antisymm (keys_len nd fun k v e => (h k) ▸ e) (keys_len nd' fun k v e => (h k).symm ▸ e)

structure Good (V : Int → Prop) (f : Int → Option Edge) (ties : List Tie) (tops : List Int) : Prop where
  up_tie : ∀ k p w, f k = some (p, w) → (k, p, w) ∈ ties ∨ (p, k, w) ∈ ties
  tie_up : ∀ a b w, (a, b, w) ∈ ties → f a = some (b, w) ∨ f b = some (a, w)
  rank : ∃ rk : Int → Nat, ∀ k p w, f k = some (p, w) → rk p < rk k
  top_none : ∀ t ∈ tops, f t = none
  none_top : ∀ x, V x → f x = none → x ∈ tops
  closed : ∀ k p w, f k = some (p, w) → V k ∧ V p
  topV : ∀ t ∈ tops, V t
  nodup : tops.Nodup

/-! the forest from the tops outward -/
def visit1 (tops : List Int) (here : Int) (fw : List (Int × Edge) × List Int) (e : Edge) : List (Int × Edge) × List Int :=
  if (dget fw.1 e.1).isSome = false ∧ e.1 ∉ tops then (fw.1 ++ [(e.1, (here, e.2))], fw.2 ++ [e.1]) else fw
def visit (tops : List Int) (here : Int) (fw : List (Int × Edge) × List Int) (es : List Edge) : List (Int × Edge) × List Int := es.foldl (visit1 tops here) fw

structure Inv (f : Int → Option Edge) (tops : List Int) (adj : Int → List Edge) (found : List (Int × Edge)) (waiting : List Int) (ex : Int → Prop) : Prop where
  nd : (found.map (·.1)).Nodup
  sub : ∀ k v, dget found k = some v → f k = some v
  par : ∀ k p w, dget found k = some (p, w) → p ∈ tops ∨ (dget found p).isSome = true
  wait : ∀ x ∈ waiting, x ∈ tops ∨ (dget found x).isSome = true
  done : ∀ x, (x ∈ tops ∨ (dget found x).isSome = true) → x ∈ waiting ∨ ex x ∨ ∀ e ∈ adj x, e.1 ∈ tops ∨ (dget found e.1).isSome = true

def AdjOf (ties : List Tie) (adj : Int → List Edge) : Prop := ∀ k b w, (b, w) ∈ adj k ↔ (k, b, w) ∈ ties ∨ (b, k, w) ∈ ties

theorem dget_app {α : Type} (l : List (Int × α)) (k : Int) (v : α) (x : Int) (h : dget l k = none) : dget (l ++ [(k, v)]) x = if x = k then some v else dget l x := by
  rw [← dset_new h, dget_dset]

section
variable {V : Int → Prop} {f : Int → Option Edge} {ties : List Tie} {tops : List Int} {adj : Int → List Edge} {found : List (Int × Edge)} {ws : List Int} {here : Int}
theorem visit1_inv (g : Good V f ties tops) (ha : AdjOf ties adj) {e : Edge} (he : e ∈ adj here) (hh : here ∈ tops ∨ (dget found here).isSome = true) (I : Inv f tops adj found ws (· = here)) :
    Inv f tops adj (visit1 tops here (found, ws) e).1 (visit1 tops here (found, ws) e).2 (· = here) ∧ (here ∈ tops ∨ (dget (visit1 tops here (found, ws) e).1 here).isSome = true) ∧
    (e.1 ∈ tops ∨ (dget (visit1 tops here (found, ws) e).1 e.1).isSome = true) ∧ (∀ x, (dget found x).isSome = true → (dget (visit1 tops here (found, ws) e).1 x).isSome = true) ∧
    (visit1 tops here (found, ws) e).2.length + found.length = ws.length + (visit1 tops here (found, ws) e).1.length ∧ found.length ≤ (visit1 tops here (found, ws) e).1.length := by
  unfold visit1
  dsimp only
  by_cases hc : (dget found e.1).isSome = false ∧ e.1 ∉ tops
  · rw [if_pos hc]
    dsimp only
    have hn : dget found e.1 = none := by
      cases q : dget found e.1 with
      | none => rfl
      | some v => rw [q] at hc; cases hc.1
    have hG : ∀ x, dget (found ++ [(e.1, (here, e.2))]) x = if x = e.1 then some (here, e.2) else dget found x := fun x => dget_app _ _ _ _ hn
    have hmono : ∀ x, (dget found x).isSome = true → (dget (found ++ [(e.1, (here, e.2))]) x).isSome = true := fun x hx => by
      rw [hG]; split
      · rfl
      · exact hx
    have hself : (dget (found ++ [(e.1, (here, e.2))]) e.1).isSome = true := by rw [hG, if_pos rfl]; rfl
    have hup : f e.1 = some (here, e.2) := by
      have ht : (here, e.1, e.2) ∈ ties ∨ (e.1, here, e.2) ∈ ties := (ha here e.1 e.2).mp he
      have : f e.1 = some (here, e.2) ∨ f here = some (e.1, e.2) := by
        rcases ht with q | q
        · exact (g.tie_up _ _ _ q).symm
        · exact g.tie_up _ _ _ q
      rcases this with q | q
      · exact q
      · exfalso
        rcases hh with h1 | h1
        · rw [g.top_none _ h1] at q; cases q
        · cases e1 : dget found here with
          | none => rw [e1] at h1; cases h1
          | some v =>
            have := I.sub _ _ e1
            rw [q] at this
            cases this
            rcases I.par _ _ _ e1 with h2 | h2
            · exact hc.2 h2
            · rw [hn] at h2; cases h2
    refine ⟨⟨?_, fun k v hk => ?_, fun k p w hk => ?_, fun x hx => ?_, fun x hx => ?_⟩, hh.imp id (hmono _), .inr hself, hmono, by simp; omega, by simp⟩
    · rw [List.map_append]
      refine List.nodup_append.mpr ⟨I.nd, by simp, fun a h1 b h2 e' => ?_⟩
      simp only [List.map_cons, List.map_nil, List.mem_singleton] at h2
      exact dget_none.mp hn (by rw [← h2, ← e']; exact h1)
    · rw [hG] at hk
      split at hk
      · next q => subst q; rw [← hk]; exact hup
      · exact I.sub k v hk
    · rw [hG] at hk
      split at hk
      · cases hk; exact hh.imp id (hmono _)
      · exact (I.par k p w hk).imp id (hmono _)
    · rcases List.mem_append.mp hx with q | q
      · exact (I.wait x q).imp id (hmono _)
      · simp only [List.mem_singleton] at q; subst q; exact .inr hself
    · by_cases q : x = e.1
      · subst q; exact .inl (by simp)
      · have : x ∈ tops ∨ (dget found x).isSome = true := hx.imp id (fun h => by rw [hG, if_neg q] at h; exact h)
        rcases I.done x this with h | h | h
        · exact .inl (List.mem_append_left _ h)
        · exact .inr (.inl h)
        · exact .inr (.inr fun e' he' => (h e' he').imp id (hmono _))
  · rw [if_neg hc]
    refine ⟨I, hh, ?_, fun _ h => h, rfl, Nat.le_refl _⟩
    by_cases q : e.1 ∈ tops
    · exact .inl q
    · refine .inr ?_
      cases q' : (dget found e.1).isSome with
      | true => rfl
      | false => exact absurd ⟨q', q⟩ hc

theorem visit_inv (g : Good V f ties tops) (ha : AdjOf ties adj) : ∀ (es : List Edge) {found : List (Int × Edge)} {ws : List Int}, (∀ e ∈ es, e ∈ adj here) → (here ∈ tops ∨ (dget found here).isSome = true) → Inv f tops adj found ws (· = here) →
    Inv f tops adj (visit tops here (found, ws) es).1 (visit tops here (found, ws) es).2 (· = here) ∧ (∀ e ∈ es, e.1 ∈ tops ∨ (dget (visit tops here (found, ws) es).1 e.1).isSome = true) ∧
    (∀ x, (dget found x).isSome = true → (dget (visit tops here (found, ws) es).1 x).isSome = true) ∧
    (visit tops here (found, ws) es).2.length + found.length = ws.length + (visit tops here (found, ws) es).1.length ∧ found.length ≤ (visit tops here (found, ws) es).1.length
  | [], found, ws, _, hh, I => ⟨I, by simp, fun _ h => h, rfl, Nat.le_refl _⟩
  | e :: es, found, ws, hes, hh, I => by
    obtain ⟨i1, i2, i3, i4, i5, i6⟩ := visit1_inv g ha (hes e (.head _)) hh I
    have e0 : visit tops here (found, ws) (e :: es) = visit tops here (visit1 tops here (found, ws) e) es := rfl
    rw [e0]
    generalize visit1 tops here (found, ws) e = z at *
    obtain ⟨fd, w2⟩ := z
    obtain ⟨j1, j2, j3, j4, j5⟩ := visit_inv g ha es (found := fd) (ws := w2) (fun x hx => hes x (.tail _ hx)) i2 i1
    dsimp only at *
    refine ⟨j1, fun x hx => ?_, fun x hx => j3 x (i4 x hx), by omega, by omega⟩
    rcases List.mem_cons.mp hx with rfl | hx
    · exact i3.imp id (j3 _)
    · exact j2 x hx

/-- one turn of the while -/
theorem visit_turn (g : Good V f ties tops) (ha : AdjOf ties adj) (I : Inv f tops adj found (ws ++ [here]) fun _ => False) :
    Inv f tops adj (visit tops here (found, ws) (adj here)).1 (visit tops here (found, ws) (adj here)).2 (fun _ => False) ∧
    (visit tops here (found, ws) (adj here)).2.length + found.length = ws.length + (visit tops here (found, ws) (adj here)).1.length ∧ found.length ≤ (visit tops here (found, ws) (adj here)).1.length := by
  have hh := I.wait here (by simp)
  have I' : Inv f tops adj found ws (· = here) := ⟨I.nd, I.sub, I.par, fun x hx => I.wait x (List.mem_append_left _ hx), fun x hx => by
    rcases I.done x hx with h | h | h
    · rcases List.mem_append.mp h with h | h
      · exact .inl h
      · exact .inr (.inl (by simpa using h))
    · exact h.elim
    · exact .inr (.inr h)⟩
  obtain ⟨j1, j2, j3, j4, j5⟩ := visit_inv g ha (adj here) (fun _ h => h) hh I'
  refine ⟨⟨j1.nd, j1.sub, j1.par, j1.wait, fun x hx => ?_⟩, j4, j5⟩
  rcases j1.done x hx with h | h | h
  · exact .inl h
  · exact .inr (.inr (by rw [h]; exact j2))
  · exact .inr (.inr h)
theorem inv_start (g : Good V f ties tops) : Inv f tops adj [] tops fun _ => False :=
  ⟨List.nodup_nil, (fun k v h => nomatch h), (fun k p w h => nomatch h), (fun x h => Or.inl h), fun x h => Or.inl (h.elim id fun q => nomatch q)⟩
theorem inv_end (g : Good V f ties tops) (ha : AdjOf ties adj) (I : Inv f tops adj found [] fun _ => False) : ∀ k, dget found k = f k := by
  obtain ⟨rk, hrk⟩ := g.rank
  have key : ∀ n k, rk k < n → ∀ p w, f k = some (p, w) → (dget found k).isSome = true := by
    intro n
    induction n with
    | zero => intro k h; omega
    | succ n ih =>
      intro k hk p w hf
      have hp : p ∈ tops ∨ (dget found p).isSome = true := by
        cases q : f p with
        | none => exact .inl (g.none_top _ (g.closed _ _ _ hf).2 q)
        | some v => exact .inr (ih p (by have := hrk _ _ _ hf; omega) v.1 v.2 q)
      rcases I.done p hp with h | h | h
      · simp at h
      · exact h.elim
      · have hmem : (k, w) ∈ adj p := (ha p k w).mpr ((g.up_tie _ _ _ hf).symm)
        rcases h _ hmem with q | q
        · rw [g.top_none _ q] at hf; cases hf
        · exact q
  intro k
  cases q : f k with
  | none =>
    cases e : dget found k with
    | none => rfl
    | some v => rw [I.sub _ _ e] at q; cases q
  | some v =>
    have := key (rk k + 1) k (Nat.lt_succ_self _) v.1 v.2 q
    cases e : dget found k with
    | none => rw [e] at this; cases this
    | some v' => rw [← q, I.sub _ _ e]
theorem inv_len (up : List (Int × Edge)) (hf : ∀ k, f k = dget up k) (I : Inv f tops adj found ws fun _ => False) : found.length ≤ up.length := keys_len I.nd fun k v e => (hf k) ▸ I.sub k v e
end

/-! the neighbours -/
abbrev Near := List (Int × Addr × List Edge)
def adj (nr : Near) (k : Int) : List Edge := ((dget nr k).map (·.2)).getD []
def nadd (nr : Near) (k : Int) (E : Addr) (e : Edge) : Near := match dget nr k with
  | some _ => nr.map fun x => if x.1 = k then (x.1, x.2.1, x.2.2 ++ [e]) else x
  | none => nr ++ [(k, E, [e])]
theorem nadd_keys (nr : Near) (k : Int) (E : Addr) (e : Edge) : (nadd nr k E e).map (·.1) = if k ∈ nr.map (·.1) then nr.map (·.1) else nr.map (·.1) ++ [k] := by
  unfold nadd
  cases h : dget nr k with
  | none => rw [if_neg (dget_none.mp h), List.map_append]; rfl
  | some v =>
    rw [if_pos (dget_isSome.mp (by rw [h]; rfl)), List.map_map]
    apply List.map_congr_left
    intro p _
    simp only [Function.comp]
    split <;> rfl
theorem adj_nadd (nr : Near) (k : Int) (E : Addr) (e : Edge) (x : Int) : adj (nadd nr k E e) x = if x = k then adj nr x ++ [e] else adj nr x := by
  unfold nadd
  cases h : dget nr k with
  | none =>
    unfold adj
    dsimp only
    have : dget (nr ++ [(k, E, [e])]) x = if x = k then some (E, [e]) else dget nr x := by rw [← dset_new h, dget_dset]
    rw [this]
    by_cases q : x = k
    · subst q; rw [if_pos rfl, if_pos rfl, h]; rfl
    · rw [if_neg q, if_neg q]
  | some v =>
    dsimp only
    have key : ∀ nr : Near, dget (nr.map fun x => if x.1 = k then (x.1, x.2.1, x.2.2 ++ [e]) else x) x = (dget nr x).map fun p => if x = k then (p.1, p.2 ++ [e]) else p := by
      intro nr
      induction nr with
      | nil => rfl
      | cons p nr ih =>
        simp only [List.map_cons]
        rw [dget_cons, dget_cons, ih]
        by_cases q : p.1 = k
        · simp only [q, if_true]
          by_cases q' : k = x
          · simp [q']
          · simp [q']
        · simp only [q, if_false]
          by_cases q' : p.1 = x
          · simp only [q', if_true, Option.map_some]
            rw [if_neg (fun z => q (q'.trans z))]
          · simp [q']
    unfold adj
    rw [key]
    by_cases q : x = k
    · subst q; simp [h]
    · simp [q]
theorem nadd_len (nr : Near) (k : Int) (E : Addr) (e : Edge) : (nadd nr k E e).length ≤ nr.length + 1 := by
  unfold nadd; split <;> simp
theorem nadd_nodup {nr : Near} (nd : (nr.map (·.1)).Nodup) (k : Int) (E : Addr) (e : Edge) : ((nadd nr k E e).map (·.1)).Nodup := by
  rw [nadd_keys]
  split
  · exact nd
  · next h => exact List.nodup_append.mpr ⟨nd, by simp, fun a ha b hb e => h (by simp at hb; rw [← hb, ← e]; exact ha)⟩

/-! part W5 -/
theorem RunE.less {α β : Type} {G : Gx} {A : Around} {env : Env} {m : Str → Option AV} {R R' : Cells} {Rl : Heap → α → β → Prop} {t : Sem α} {Q : β → Cells → Prop} (l : Less R R') (h : RunE G A env m R' Rl t Q) : RunE G A env m R Rl t Q := fun s st => h s (st.less (less_cons l))
theorem RunF.less {G : Gx} {A : Around} {env : Env} {m : Str → Option AV} {R R' : Cells} {t : Sem Flow} {Q : Fl → (Str → Option AV) → Cells → Prop} (l : Less R R') (h : RunF G A env m R' t Q) : RunF G A env m R t Q := fun s st => h s (st.less (less_cons l))

def tieV (t : Tie) : AV := .tup [.int t.1, .int t.2.1, .int t.2.2]
abbrev stC (S T P : Addr) (ties : List Tie) (tops : List Int) : Cells := [(S, .dictS [("ties", .ref T), ("tops", .ref P)]), (T, .list (ties.map tieV)), (P, .list (tops.map .int))]
def nrV (p : Addr × List Edge) : AV := .ref p.1
def nearC (nr : Near) : Cells := nr.map fun x => (x.2.1, AO.list (x.2.2.map edV))
def nmid (nr : Near) (k : Int) (E : Addr) : Near := match dget nr k with
  | some _ => nr
  | none => nr ++ [(k, E, [])]
def nput (nr : Near) (k : Int) (e : Edge) : Near := nr.map fun x => if x.1 = k then (x.1, x.2.1, x.2.2 ++ [e]) else x
theorem nput_nmid (nr : Near) (k : Int) (E : Addr) (e : Edge) : nput (nmid nr k E) k e = nadd nr k E e := by
  unfold nmid nadd
  cases h : dget nr k with
  | some v => rfl
  | none =>
    unfold nput
    dsimp only
    rw [List.map_append]
    congr 1
    · have hn := dget_none.mp h
      have : ∀ x ∈ nr, (if x.1 = k then (x.1, x.2.1, x.2.2 ++ [e]) else x) = x := fun x hx => if_neg fun (q : x.1 = k) => hn (by rw [← q]; exact List.mem_map_of_mem (f := fun x : Int × Addr × List Edge => x.1) hx)
      conv => rhs; rw [← List.map_id nr]
      exact List.map_congr_left this
    · simp
theorem nput_enc (nr : Near) (k : Int) (e : Edge) : denc nrV (nput nr k e) = denc nrV nr := by
  unfold denc nput
  rw [List.map_map]
  apply List.map_congr_left
  intro x _
  simp only [Function.comp]
  split <;> rfl
theorem nmid_nodup {nr : Near} (nd : (nr.map (·.1)).Nodup) (k : Int) (E : Addr) : ((nmid nr k E).map (·.1)).Nodup := by
  unfold nmid
  cases h : dget nr k with
  | some v => exact nd
  | none =>
    dsimp only
    rw [List.map_append]
    exact List.nodup_append.mpr ⟨nd, by simp, fun a ha b hb e => dget_none.mp h (by simp at hb; rw [← hb, ← e]; exact ha)⟩
theorem nput_none {nr : Near} {k : Int} (h : k ∉ nr.map (·.1)) (e : Edge) : nput nr k e = nr := by
  unfold nput
  have : ∀ x ∈ nr, (if x.1 = k then (x.1, x.2.1, x.2.2 ++ [e]) else x) = x := fun x hx => if_neg fun (q : x.1 = k) => h (by rw [← q]; exact List.mem_map_of_mem (f := fun x : Int × Addr × List Edge => x.1) hx)
  conv => rhs; rw [← List.map_id nr]
  exact List.map_congr_left this
theorem put_near : ∀ {nr : Near} {k : Int} {a : Addr} {l : List Edge} (nd : (nr.map (·.1)).Nodup) (h : dget nr k = some (a, l)) (e : Edge) (rest : Cells), Put a (.list (l.map edV)) (.list (l.map edV ++ [edV e])) (nearC nr ++ rest) (nearC (nput nr k e) ++ rest)
  | [], k, a, l, _, h, e, rest => nomatch h
  | x :: nr, k, a, l, nd, h, e, rest => by
    rw [dget_cons] at h
    simp only [List.map_cons, List.nodup_cons] at nd
    by_cases q : x.1 = k
    · rw [if_pos q] at h
      injection h with h
      have e1 : nput (x :: nr) k e = (x.1, x.2.1, x.2.2 ++ [e]) :: nr := by
        have := nput_none (nr := nr) (k := k) (by rw [← q]; exact nd.1) e
        unfold nput at this ⊢
        rw [List.map_cons, if_pos q, this]
      rw [e1]
      obtain ⟨x1, x2, x3⟩ := x
      simp only at h
      cases h
      simp only [nearC, List.map_cons, List.cons_append, List.map_append, List.map_nil]
      exact .head
    · rw [if_neg q] at h
      have e1 : nput (x :: nr) k e = x :: nput nr k e := by unfold nput; rw [List.map_cons, if_neg q]
      rw [e1]
      exact .tail (put_near nd.2 h e rest)
theorem mem_near : ∀ {nr : Near} {k : Int} {a : Addr} {l : List Edge} (h : dget nr k = some (a, l)) (rest : Cells), (a, AO.list (l.map edV)) ∈ nearC nr ++ rest
  | [], k, a, l, h, rest => nomatch h
  | x :: nr, k, a, l, h, rest => by
    rw [dget_cons] at h
    split at h
    · injection h with h
      obtain ⟨x1, x2, x3⟩ := x
      simp only at h
      cases h
      exact .head _
    · exact .tail _ (mem_near h rest)
section
variable {G : Gx} {A : Around} {env : Env} {m : Str → Option AV} {Q : AV → Cells → Prop}
theorem OpB.nearSet (ok : Ok G) {ND E : Addr} {nr : Near} {k : Int} {rest : Cells} (hz : nr.length ≤ sizeLine)
    (h : ∀ a, dget (nmid nr k E) k = some (a, adj nr k) → Q (.ref a) ((ND, .dictI (denc nrV (nmid nr k E))) :: (nearC (nmid nr k E) ++ rest))) :
    OpB G A env m ((E, .list []) :: (ND, .dictI (denc nrV nr)) :: (nearC nr ++ rest)) (.builtin "dict.setdefault") [.ref ND, .int k, .ref E] Q := by
  have key : OpB G A env m ((E, .list []) :: (ND, .dictI (denc nrV nr)) :: (nearC nr ++ rest)) (.builtin "dict.setdefault") [.ref ND, .int k, .ref E] fun v R' => ∃ R'', Less R' R'' ∧ Q v R'' := by
    refine OpB.setdefault ok (.tail _ (.head _)) (by rw [denc_length]; exact hz) ?_
    rw [dget_enc]
    cases hd : dget nr k with
    | some v =>
      obtain ⟨a, l⟩ := v
      have e0 : nmid nr k E = nr := by unfold nmid; rw [hd]
      have e1 : adj nr k = l := by unfold adj; rw [hd]; rfl
      have := h a (by rw [e0, e1]; exact hd)
      rw [e0] at this
      exact ⟨_, Less.drop (Less.refl _), this⟩
    | none =>
      have e0 : nmid nr k E = nr ++ [(k, E, [])] := by unfold nmid; rw [hd]
      have e1 : adj nr k = [] := by unfold adj; rw [hd]; rfl
      have := h E (by rw [e0, e1, dget_app _ _ _ _ hd, if_pos rfl])
      rw [e0] at this
      refine ⟨_, .tail .head, _, ⟨[], ?_⟩, this⟩
      rw [List.append_nil]
      simp only [denc, nearC, List.map_append, List.map_cons, List.map_nil, nrV]
      refine (List.Perm.swap _ _ _).trans (List.Perm.cons _ ?_)
      rw [List.append_assoc]
      exact List.perm_middle.symm
  intro s us st r
  exact wpAny_mono (key s us st r) (fun x s' ⟨b, H', rb, st', tk, R', l, R'', l', q⟩ => ⟨b, H', rb, st', tk, R'', l.trans (less_cons l'), q⟩) fun _ _ x => x
theorem near_getD {nr : Near} {k : Int} {E : Addr} {X rest : Cells} : ∃ T, ((dget (denc nrV nr) k).getD (.ref E)) = .ref T ∧ (T, AO.list ((adj nr k).map edV)) ∈ (E, .list []) :: (nearC nr ++ rest) := by
  rw [dget_enc]
  cases hd : dget nr k with
  | some v =>
    obtain ⟨a, l⟩ := v
    have e1 : adj nr k = l := by unfold adj; rw [hd]; rfl
    exact ⟨a, rfl, .tail _ (by rw [e1]; exact mem_near hd rest)⟩
  | none =>
    have e1 : adj nr k = [] := by unfold adj; rw [hd]; rfl
    exact ⟨E, rfl, by rw [e1]; exact .head _⟩
end
section
variable {w : World} {base : Heap} {s₀ : Shared}
structure NearOk (nr : Near) (ties : List Tie) (i : Nat) : Prop where
  nd : (nr.map (·.1)).Nodup
  adj : AdjOf (ties.take i) (adj nr)
  len : nr.length ≤ 2 * i
  lens : ∀ k, (Mine.adj nr k).length ≤ 2 * i
theorem NearOk.step {nr : Near} {ties : List Tie} {i : Nat} {a b w' : Int} {E E' : Addr} (h : NearOk nr ties i) (ht : ties[i]? = some (a, b, w')) : NearOk (nadd (nadd nr a E (b, w')) b E' (a, w')) ties (i + 1) := by
  refine ⟨nadd_nodup (nadd_nodup h.nd _ _ _) _ _ _, fun k x y => ?_, ?_, fun k => ?_⟩
  · rw [adj_nadd, adj_nadd]
    have e1 : ties.take (i + 1) = ties.take i ++ [(a, b, w')] := by simp [List.take_add_one, ht]
    have e2 := h.adj k x y
    rw [e1]
    simp only [List.mem_append, List.mem_singleton, Prod.mk.injEq]
    by_cases q1 : k = b <;> by_cases q2 : k = a <;> simp only [q1, q2, if_true, if_false, List.mem_append, List.mem_singleton, Prod.mk.injEq] <;> (try subst q1) <;> (try subst q2) <;> (try rw [e2]) <;> (try simp_all) <;> grind
  · have h1 := nadd_len nr a E (b, w')
    have h2 := nadd_len (nadd nr a E (b, w')) b E' (a, w')
    have := h.len
    omega
  · rw [adj_nadd, adj_nadd]
    have := h.lens k
    split <;> split <;> simp <;> omega
theorem forestFn (ok : Ok (GG w base s₀)) {V : Int → Prop} {S T P : Addr} {up : List (Int × Edge)} {ties : List Tie} {tops : List Int} (g : Good V (dget up) ties tops) (hnd : (up.map (·.1)).Nodup) (hl : up.length < 1000) (htl : ties.length < 1000) (hpl : tops.length < 1000) :
    Fn (GG w base s₀) 1 589 [.ref S] (stC S T P ties tops) fun x FP => ∃ D found, x = .ref D ∧ FP = (D, .dictI (denc edV found)) :: stC S T P ties tops ∧ (found.map (·.1)).Nodup ∧ ∀ k, dget found k = dget up k := by
  refine Fn.intro ok (by rfl) (by rfl) ["state"] (fun us h => by obtain ⟨a, rfl⟩ := len1 h; rfl) (by decide) ?_
  intro A F L rm
  have hh := rm.handled
  have hu := rm.u
  with_unfolding_all refine Exs.cons ?_
  walk_at "st"
  walk_at "st"
  walk_at "st"
  refine Ev.dict0I fun ND => ?_
  walk_at "st"
  refine Ev.dict0I fun FD => ?_
  repeat walk_at "st"
  refine ⟨Kept.con, ?_⟩
  repeat walk_at "st"
  refine Op2.subS (by walk_at "mem") (by rfl) ?_
  repeat walk_at "st"
  refine OpC.con (OpB.list (by walk_at "mem") (by rw [List.length_map]; omega) fun W => ?_)
  repeat walk_at "st"
  refine ⟨by walk_at "sz", _, rfl, rfl, ?_⟩
  walk_at "bnd"
  dsimp only
  refine RunF.less (R' := (ND, .dictI []) :: (W, .list (tops.map .int)) :: (FD, .dictI []) :: (stC S T P ties tops ++ F)) (by walk_at "less") ?_
  walk_at "st"
  refine Ex.forL hh (.inr ⟨_, _, _, rfl⟩) ?_
  repeat walk_at "st"
  refine Op2.subS (by walk_at "mem") (by rfl) ?_
  refine ⟨T, ties.map tieV, rfl, fun i m R => ∃ nr, NearOk nr ties i ∧ m "near" = some (.ref ND) ∧ m "found" = some (.ref FD) ∧ m "waiting" = some (.ref W) ∧ m "state" = some (.ref S) ∧
      R = (ND, .dictI (denc nrV nr)) :: (nearC nr ++ ((W, .list (tops.map .int)) :: (FD, .dictI []) :: (stC S T P ties tops ++ F))), ?_, ?_, ?_, ?_⟩
  · exact ⟨[], ⟨List.nodup_nil, fun k b w => by simp [adj, dget], Nat.zero_le _, fun k => Nat.zero_le _⟩, by walk_at "lk", by walk_at "lk", by walk_at "lk", by walk_at "lk", rfl⟩
  · rintro i m R ⟨nr, _, _, _, _, _, rfl⟩
    refine .tail _ (List.mem_append_right _ ?_)
    walk_at "mem"
  · rintro i x m R hx ⟨nr, hn, m1, m2, m3, m4, rfl⟩ it
    rw [List.getElem?_map] at hx
    obtain ⟨⟨c1, c2, c3⟩, hc, rfl⟩ := Option.map_eq_some_iff.mp hx
    walk_at "tgt"
    dsimp only
    have hi : i < ties.length := (List.getElem?_eq_some_iff.mp hc).1
    generalize hrest : ((W, AO.list (tops.map AV.int)) :: (FD, .dictI []) :: (stC S T P ties tops ++ F)) = rest
    refine RunF.less (R' := (ND, .dictI (denc nrV nr)) :: (nearC nr ++ ((it, .iter T (i + 1)) :: rest))) ⟨[], ?_⟩ ?_
    · rw [List.append_nil]
      exact (List.Perm.swap _ _ _).trans (List.Perm.cons _ List.perm_middle.symm)
    walk_at "st"
    walk_at "st"
    walk_at "append"
    walk_at "setdefault"
    repeat walk_at "st"
    refine ⟨Recv.dictI (by walk_at "mem"), ?_⟩
    repeat walk_at "st"
    refine ⟨by walk_at "sz", fun E => ?_⟩
    repeat walk_at "st"
    refine OpB.nearSet ok (by have := hn.len; rw [sizeLine_eq]; omega) fun a ha => ?_
    refine ⟨Recv.list (.tail _ (.tail _ (mem_near ha _))), ?_⟩
    repeat walk_at "st"
    refine ⟨by walk_at "sz", ?_⟩
    repeat walk_at "st"
    refine OpB.append (.tail (put_near (nmid_nodup hn.nd _ _) ha (c2, c3) _)) (by have := hn.lens c1; rw [List.length_map, sizeLine_eq]; omega) ?_
    rw [← nput_enc (nmid nr c1 E) c1 (c2, c3), nput_nmid]
    dsimp only
    have hn1 : (nadd nr c1 E (c2, c3)).length ≤ 2 * i + 1 := by have h1 := nadd_len nr c1 E (c2, c3); have := hn.len; omega
    have hn2 : (adj (nadd nr c1 E (c2, c3)) c2).length ≤ 2 * i + 1 := by rw [adj_nadd]; have := hn.lens c2; split <;> simp <;> omega
    walk_at "st"
    walk_at "st"
    walk_at "append"
    walk_at "setdefault"
    repeat walk_at "st"
    refine ⟨Recv.dictI (by walk_at "mem"), ?_⟩
    repeat walk_at "st"
    refine ⟨by walk_at "sz", fun E' => ?_⟩
    repeat walk_at "st"
    refine OpB.nearSet ok (by rw [sizeLine_eq]; omega) fun a' ha' => ?_
    refine ⟨Recv.list (.tail _ (.tail _ (mem_near ha' _))), ?_⟩
    repeat walk_at "st"
    refine ⟨by walk_at "sz", ?_⟩
    repeat walk_at "st"
    refine OpB.append (.tail (put_near (nmid_nodup (nadd_nodup hn.nd _ _ _) _ _) ha' (c1, c3) _)) (by rw [List.length_map, sizeLine_eq]; omega) ?_
    rw [← nput_enc (nmid (nadd nr c1 E (c2, c3)) c2 E') c2 (c1, c3), nput_nmid]
    dsimp only
    repeat walk_at "st"
    refine ⟨rfl, (ND, .dictI (denc nrV (nadd (nadd nr c1 E (c2, c3)) c2 E' (c1, c3)))) :: (nearC (nadd (nadd nr c1 E (c2, c3)) c2 E' (c1, c3)) ++ rest), ⟨[], ?_⟩, _, hn.step hc, by walk_at "lk", by walk_at "lk", by walk_at "lk", by walk_at "lk", rfl⟩
    rw [List.append_nil]
    exact (List.Perm.cons _ List.perm_middle).trans (List.Perm.swap _ _ _)
  · rintro m R ⟨nr, hn, m1, m2, m3, m4, rfl⟩
    dsimp only
    rw [List.length_map] at hn
    have hadj : AdjOf ties (adj nr) := by have := hn.adj; rwa [List.take_length] at this
    generalize hrest : stC S T P ties tops ++ F = rest
    have hS : (S, AO.dictS [("ties", .ref T), ("tops", .ref P)]) ∈ nearC nr ++ rest := List.mem_append_right _ (by rw [← hrest]; walk_at "mem")
    have hP : (P, AO.list (tops.map .int)) ∈ nearC nr ++ rest := List.mem_append_right _ (by rw [← hrest]; walk_at "mem")
    refine RunF.less (R' := (FD, .dictI (denc edV [])) :: (W, .list (tops.map .int)) :: (ND, .dictI (denc nrV nr)) :: (nearC nr ++ rest)) ⟨[], ?_⟩ ?_
    · rw [List.append_nil]
      refine ((List.Perm.cons _ (List.perm_middle.trans (List.Perm.cons _ List.perm_middle))).trans ?_)
      exact (List.Perm.swap _ _ _).trans ((List.Perm.cons _ (List.Perm.swap _ _ _)).trans (List.Perm.swap _ _ _))
    walk_at "st"
    refine Ex.while (fun n m R => ∃ found ws, Inv (dget up) tops (adj nr) found ws (fun _ => False) ∧ ws.length ≤ tops.length + found.length ∧ n = 2 * (up.length - found.length) + ws.length ∧ m "near" = some (.ref ND) ∧ m "found" = some (.ref FD) ∧ m "waiting" = some (.ref W) ∧ m "state" = some (.ref S) ∧
        R = (FD, .dictI (denc edV found)) :: (W, .list (ws.map .int)) :: (ND, .dictI (denc nrV nr)) :: (nearC nr ++ rest))
      _ ⟨[], tops, inv_start g, Nat.le_refl _, rfl, m1, m2, m3, m4, rfl⟩ ?_
    rintro n m R ⟨found, ws, I, hwl, rfl, m1, m2, m3, m4, rfl⟩
    walk_at "st"
    repeat walk_at "st"
    refine ⟨by walk_at "sz", fun Z => ?_⟩
    refine Op2.neL0 (by walk_at "mem") (by walk_at "mem") hu ?_
    refine ⟨_, rfl, ?_⟩
    rw [List.isEmpty_map]
    rcases List.eq_nil_or_concat ws with rfl | ⟨ws', here, rfl⟩
    · simp only [List.isEmpty_nil, Bool.not_true, Bool.false_eq_true, if_false]
      have hfin := inv_end g hadj I
      repeat walk_at "st"
      refine ⟨(FD, .dictI (denc edV found)) :: stC S T P ties tops, ?_, FD, found, rfl, rfl, I.nd, hfin⟩
      show Less _ ((FD, .dictI (denc edV found)) :: (stC S T P ties tops ++ F))
      rw [hrest]
      exact Less.drop (Less.pick .head (Less.drop (Less.drop ⟨nearC nr, List.perm_append_comm⟩)))
    · rw [List.concat_eq_append] at I hwl ⊢
      have hfl : found.length ≤ up.length := inv_len up (fun _ => rfl) I
      rw [show (ws' ++ [here]).isEmpty = false by cases ws' <;> rfl]
      simp only [Bool.not_false, if_true]
      refine RunF.less (R' := (FD, .dictI (denc edV found)) :: (W, .list ((ws' ++ [here]).map .int)) :: (ND, .dictI (denc nrV nr)) :: (nearC nr ++ rest)) (Less.drop (Less.refl _)) ?_
      rw [List.length_append, List.length_singleton] at hwl
      walk_at "st"
      walk_at "st"
      walk_at "pop"
      repeat walk_at "st"
      refine ⟨Recv.list (by walk_at "mem"), ?_⟩
      repeat walk_at "st"
      refine OpB.pop (l := ws'.map .int) (x := .int here) (by rw [List.map_append]; walk_at "put") (by rw [List.length_map, sizeLine_eq]; omega) ?_
      dsimp only
      walk_at "st"
      refine Ex.forL hh (.inr ⟨_, _, _, rfl⟩) ?_
      walk_at "get"
      repeat walk_at "st"
      refine ⟨Recv.dictI (by walk_at "mem"), ?_⟩
      repeat walk_at "st"
      refine ⟨by walk_at "sz", fun E => ?_⟩
      repeat walk_at "st"
      refine OpB.get ok (by walk_at "mem") ?_
      obtain ⟨X, hX, hXm⟩ := near_getD (nr := nr) (k := here) (E := E) (X := []) (rest := rest)
      rw [hX]
      refine ⟨X, (adj nr here).map edV, rfl, fun i m R => ∃ found' ws'', (found', ws'') = visit tops here (found, ws') ((adj nr here).take i) ∧ m "near" = some (.ref ND) ∧ m "found" = some (.ref FD) ∧ m "waiting" = some (.ref W) ∧ m "state" = some (.ref S) ∧ m "here" = some (.int here) ∧
        R = (E, .list []) :: (FD, .dictI (denc edV found')) :: (W, .list (ws''.map .int)) :: (ND, .dictI (denc nrV nr)) :: (nearC nr ++ rest), ⟨found, ws', rfl, by walk_at "lk", by walk_at "lk", by walk_at "lk", by walk_at "lk", by walk_at "lk", rfl⟩, ?_, ?_, ?_⟩
      · rintro i m R ⟨_, _, _, _, _, _, _, _, rfl⟩
        rcases List.mem_cons.mp hXm with q | q
        · rw [q]; exact .head _
        · exact .tail _ (.tail _ (.tail _ (.tail _ q)))
      · rintro i x m R hx ⟨found', ws'', hv, m1, m2, m3, m4, m5, rfl⟩ it
        rw [List.getElem?_map] at hx
        obtain ⟨⟨late, why⟩, hc, rfl⟩ := Option.map_eq_some_iff.mp hx
        have hv' : visit tops here (found, ws') ((adj nr here).take (i + 1)) = visit1 tops here (found', ws'') (late, why) := by
          rw [take_snoc hc]
          unfold visit at hv ⊢
          rw [List.foldl_append, ← hv]
          rfl
        walk_at "tgt"
        dsimp only
        repeat walk_at "st"
        refine Op2.notInI ok (by walk_at "mem") ?_
        refine ⟨_, rfl, ?_⟩
        rw [dget_enc, Option.isSome_map]
        have hI : Inv (dget up) tops (adj nr) found' ws'' (· = here) ∧ found'.length ≤ up.length ∧ ws''.length + found.length = ws'.length + found'.length := by
          have hh' := I.wait here (by simp)
          have I' : Inv (dget up) tops (adj nr) found ws' (· = here) := ⟨I.nd, I.sub, I.par, fun x hx => I.wait x (List.mem_append_left _ hx), fun x hx => by
            rcases I.done x hx with h | h | h
            · rcases List.mem_append.mp h with h | h
              · exact .inl h
              · exact .inr (.inl (by simpa using h))
            · exact h.elim
            · exact .inr (.inr h)⟩
          obtain ⟨j1, j2, j3, j4, j5⟩ := visit_inv g hadj ((adj nr here).take i) (fun _ h => List.mem_of_mem_take h) hh' I'
          rw [← hv] at j1 j4
          exact ⟨j1, keys_len j1.nd j1.sub, j4⟩
        cases hq : (dget found' late).isSome with
        | true =>
          simp only [Bool.not_true, Bool.false_eq_true, if_false]
          repeat walk_at "st"
          refine ⟨rfl, _, Less.refl _, found', ws'', ?_, by walk_at "lk", by walk_at "lk", by walk_at "lk", by walk_at "lk", by walk_at "lk", rfl⟩
          rw [hv']
          unfold visit1
          rw [if_neg (by simp [hq])]
        | false =>
          simp only [Bool.not_false, if_true]
          repeat walk_at "st"
          refine Op2.subS (l := [("ties", .ref T), ("tops", .ref P)]) (.tail _ (.tail _ (.tail _ (.tail _ (.tail _ hS))))) (by rfl) ?_
          refine Op2.notInL (l := tops) (.tail _ (.tail _ (.tail _ (.tail _ (.tail _ hP))))) ?_
          refine ⟨_, rfl, ?_⟩
          by_cases hq2 : late ∈ tops
          · rw [show tops.contains late = true by simpa using hq2]
            simp only [Bool.not_true, Bool.false_eq_true, if_false]
            repeat walk_at "st"
            refine ⟨rfl, _, Less.refl _, found', ws'', ?_, by walk_at "lk", by walk_at "lk", by walk_at "lk", by walk_at "lk", by walk_at "lk", rfl⟩
            rw [hv']
            unfold visit1
            rw [if_neg (by simp [hq2])]
          · rw [show tops.contains late = false by simpa using hq2]
            simp only [Bool.not_false, if_true]
            walk_at "st"
            rw [if_pos rfl]
            repeat walk_at "st"
            refine ⟨by walk_at "sz", ?_⟩
            repeat walk_at "st"
            refine OpSet.dictI (by walk_at "put") (by rw [denc_length, sizeLine_eq]; omega) ?_
            dsimp only
            repeat walk_at "st"
            walk_at "append"
            repeat walk_at "st"
            refine ⟨Recv.list (by walk_at "mem"), ?_⟩
            repeat walk_at "st"
            refine OpB.append (by walk_at "put") (by rw [List.length_map, sizeLine_eq]; omega) ?_
            dsimp only
            repeat walk_at "st"
            have hn' : dget found' late = none := by
              cases q : dget found' late with
              | none => rfl
              | some v => rw [q] at hq; cases hq
            refine ⟨rfl, _, Less.refl _, found' ++ [(late, (here, why))], ws'' ++ [late], ?_, by walk_at "lk", by walk_at "lk", by walk_at "lk", by walk_at "lk", by walk_at "lk", ?_⟩
            · rw [hv']
              unfold visit1
              rw [if_pos ⟨hq, hq2⟩]
            · rw [← dset_new hn', ← dset_enc, List.map_append]
              rfl
      · rintro m R ⟨found', ws'', hv, m1, m2, m3, m4, m5, rfl⟩
        rw [List.length_map, List.take_length] at hv
        obtain ⟨j1, j2, j3⟩ := visit_turn g hadj I
        rw [← hv] at j1 j2 j3
        have hfl' : found'.length ≤ up.length := inv_len up (fun _ => rfl) j1
        dsimp only at j2 j3
        repeat walk_at "st"
        refine ⟨rfl, 2 * (up.length - found'.length) + ws''.length, _, ?_, Less.drop (Less.refl _), found', ws'', j1, by omega, rfl, by walk_at "lk", by walk_at "lk", by walk_at "lk", by walk_at "lk", rfl⟩
        rw [List.length_append, List.length_singleton]
        omega
end

/-! part PL2 -/
section
variable {V : Int → Prop} {f g : Int → Option Edge} {ties : List Tie} {tops : List Int}

theorem Path.det {t r r' : Int} {l l' : List Ed3} (h : Path f t l r) : Path f t l' r' → l = l' ∧ r = r' := by
  induction h generalizing l' with
  | nil h =>
    intro h'
    cases h' with
    | nil _ => exact ⟨rfl, rfl⟩
    | cons e _ => rw [h] at e; cases e
  | cons e _ ih =>
    intro h'
    cases h' with
    | nil h2 => rw [e] at h2; cases h2
    | cons e2 h2 =>
      rw [e] at e2
      cases e2
      obtain ⟨a, b⟩ := ih h2
      exact ⟨by rw [a], b⟩
theorem Path.root {t r : Int} {l : List Ed3} (h : Path f t l r) : f r = none := by
  induction h with
  | nil h => exact h
  | cons _ _ ih => exact ih
/-- nodes of a path: ranks -/
theorem Path.ranks {rk : Int → Nat} (hr : ∀ k p w, f k = some (p, w) → rk p < rk k) {t r : Int} {l : List Ed3} (h : Path f t l r) : rk r ≤ rk t ∧ ∀ c ∈ l, rk c.1 ≤ rk t ∧ rk c.2.1 < rk t := by
  induction h with
  | nil _ => exact ⟨Nat.le_refl _, by simp⟩
  | cons e _ ih =>
    have := hr _ _ _ e
    refine ⟨by omega, fun c hc => ?_⟩
    rcases List.mem_cons.mp hc with rfl | hc
    · exact ⟨Nat.le_refl _, this⟩
    · have := ih.2 c hc; omega
theorem Path.exists (gd : Good V f ties tops) {x : Int} (hx : V x) : ∃ l r, Path f x l r ∧ r ∈ tops := by
  obtain ⟨rk, hr⟩ := gd.rank
  have key : ∀ n x, rk x < n → V x → ∃ l r, Path f x l r ∧ r ∈ tops := by
    intro n
    induction n with
    | zero => intro x h; omega
    | succ n ih =>
      intro x h hx
      cases e : f x with
      | none => exact ⟨[], x, .nil e, gd.none_top _ hx e⟩
      | some v =>
        obtain ⟨p, w⟩ := v
        obtain ⟨l, r, h1, h2⟩ := ih p (by have := hr _ _ _ e; omega) (gd.closed _ _ _ e).2
        exact ⟨_, r, .cons e h1, h2⟩
  exact key _ x (Nat.lt_succ_self _) hx
theorem Path.nodup (gd : Good V f ties tops) {t r : Int} {l : List Ed3} (h : Path f t l r) : (l.map (·.1) ++ [r]).Nodup := by
  obtain ⟨rk, hr⟩ := gd.rank
  induction h with
  | nil _ => simp
  | cons e h ih =>
    simp only [List.map_cons, List.cons_append, List.nodup_cons]
    refine ⟨fun q => ?_, ih⟩
    have h1 := Path.ranks hr h
    have h2 := hr _ _ _ e
    rcases List.mem_append.mp q with q | q
    · obtain ⟨c, hc, e'⟩ := List.mem_map.mp q
      have := (h1.2 c hc).1
      rw [e'] at this; omega
    · simp only [List.mem_singleton] at q
      have := h1.1
      rw [← q] at this; omega
theorem Path.keys (gd : Good V f ties tops) {t r : Int} {l : List Ed3} (h : Path f t l r) : (l.map (·.1)).Nodup := (List.nodup_append.mp (h.nodup gd)).1
theorem Path.len {up : List (Int × Edge)} (gd : Good V (dget up) ties tops) {t r : Int} {l : List Ed3} (h : Path (dget up) t l r) : l.length ≤ up.length := by
  have := sub_len (l := l.map (·.1)) (m := up.map (·.1)) (h.keys gd) (fun x hx => by
    obtain ⟨c, hc, e⟩ := List.mem_map.mp hx
    obtain ⟨i, hi⟩ := List.getElem?_of_mem hc
    have := h.get hi
    exact dget_isSome.mp (by rw [← e, this]; rfl))
  simpa using this
/-- a later node has the same end -/
theorem Path.later {t r : Int} {l : List Ed3} (h : Path f t l r) : ∀ x, (x ∈ l.map (·.1) ∨ x ∈ l.map (·.2.1) ∨ x = r) → ∃ l', Path f x l' r := by
  induction h with
  | nil h =>
    intro x hx
    simp at hx
    subst hx
    exact ⟨_, .nil h⟩
  | cons e h ih =>
    intro x hx
    simp only [List.map_cons, List.mem_cons] at hx
    rcases hx with (rfl | hx) | (rfl | hx) | hx
    · exact ⟨_, .cons e h⟩
    · exact ih x (.inl hx)
    · exact ⟨_, h⟩
    · exact ih x (.inr (.inl hx))
    · exact ih x (.inr (.inr hx))
theorem Path.agree {t r : Int} {l : List Ed3} (h : Path f t l r) : (∀ c ∈ l, g c.1 = f c.1) → g r = f r → Path g t l r := by
  induction h with
  | nil h => intro _ e; exact .nil (e.trans h)
  | cons e h ih => intro hc e'; exact .cons ((hc _ (.head _)).trans e) (ih (fun c hc' => hc c (.tail _ hc')) e')

theorem Good.congr {tops' : List Int} (gd : Good V f ties tops) (nd : tops'.Nodup) (h : ∀ x, x ∈ tops' ↔ x ∈ tops) : Good V f ties tops' :=
  ⟨gd.up_tie, gd.tie_up, gd.rank, fun t ht => gd.top_none t ((h t).mp ht), fun x hx e => (h x).mpr (gd.none_top x hx e), gd.closed, fun t ht => gd.topV t ((h t).mp ht), nd⟩
theorem Good.fcongr (gd : Good V f ties tops) (h : ∀ x, g x = f x) : Good V g ties tops := by
  have : g = f := funext h
  rw [this]; exact gd

def flip (f : Int → Option Edge) (t p w : Int) : Int → Option Edge := fun x => if x = p then some (t, w) else if x = t then none else f x
theorem Good.flip (gd : Good V f ties tops) {t p w : Int} (ht : f t = some (p, w)) (hp : f p = none) {tops' : List Int} (nd : tops'.Nodup) (hm : ∀ x, x ∈ tops' ↔ (x ∈ tops ∧ x ≠ p) ∨ x = t) : Good V (flip f t p w) ties tops' := by
  have htp : t ≠ p := by rintro rfl; rw [ht] at hp; cases hp
  have fp : Mine.flip f t p w p = some (t, w) := by simp [Mine.flip]
  have ft : Mine.flip f t p w t = none := by simp [Mine.flip, htp]
  have fo : ∀ x, x ≠ p → x ≠ t → Mine.flip f t p w x = f x := fun x h1 h2 => by simp [Mine.flip, h1, h2]
  refine ⟨fun k p' w' h => ?_, fun a b w' h => ?_, ?_, fun x hx => ?_, fun x hx h => ?_, fun k p' w' h => ?_, fun x hx => ?_, nd⟩
  · by_cases h1 : k = p
    · subst h1; rw [fp] at h; cases h; exact (gd.up_tie _ _ _ ht).symm
    · by_cases h2 : k = t
      · subst h2; rw [ft] at h; cases h
      · rw [fo _ h1 h2] at h; exact gd.up_tie _ _ _ h
  · have key : ∀ a b, f a = some (b, w') → Mine.flip f t p w a = some (b, w') ∨ Mine.flip f t p w b = some (a, w') := fun a b e => by
      have h1 : a ≠ p := by rintro rfl; rw [hp] at e; cases e
      by_cases h2 : a = t
      · subst h2; rw [ht] at e; cases e; exact .inr fp
      · exact .inl ((fo _ h1 h2).trans e)
    rcases gd.tie_up _ _ _ h with e | e
    · exact key a b e
    · exact (key b a e).symm
  · obtain ⟨rk, hr⟩ := gd.rank
    refine ⟨fun x => if x = t then 0 else rk x + 1, fun k p' w' h => ?_⟩
    by_cases h1 : k = p
    · subst h1; rw [fp] at h; cases h
      simp [Ne.symm htp]
    · by_cases h2 : k = t
      · subst h2; rw [ft] at h; cases h
      · rw [fo _ h1 h2] at h
        have := hr _ _ _ h
        simp only [h2, if_false]
        split <;> omega
  · rcases (hm x).mp hx with ⟨h1, h2⟩ | rfl
    · by_cases h3 : x = t
      · subst h3; exact ft
      · rw [fo _ h2 h3]; exact gd.top_none _ h1
    · exact ft
  · refine (hm x).mpr ?_
    by_cases h1 : x = p
    · subst h1; rw [fp] at h; cases h
    · by_cases h2 : x = t
      · exact .inr h2
      · rw [fo _ h1 h2] at h; exact .inl ⟨gd.none_top _ hx h, h1⟩
  · by_cases h1 : k = p
    · subst h1; rw [fp] at h; cases h; exact (gd.closed _ _ _ ht).symm
    · by_cases h2 : k = t
      · subst h2; rw [ft] at h; cases h
      · rw [fo _ h1 h2] at h; exact gd.closed _ _ _ h
  · rcases (hm x).mp hx with ⟨h1, _⟩ | rfl
    · exact gd.topV _ h1
    · exact (gd.closed _ _ _ ht).1

def tm (f : Int → Option Edge) : List Ed3 → Int → Option Edge
  | [], x => f x
  | (t, p, w) :: rest, x => flip (tm f rest) t p w x
theorem tm_off : ∀ {l : List Ed3} {x : Int}, x ∉ l.map (·.1) → x ∉ l.map (·.2.1) → tm f l x = f x
  | [], _, _, _ => rfl
  | (t, p, w) :: l, x, h1, h2 => by
    simp only [List.map_cons, List.mem_cons, not_or] at h1 h2
    simp only [tm, flip]
    rw [if_neg h2.1, if_neg h1.1]
    exact tm_off h1.2 h2.2
theorem Path.above (gd : Good V f ties tops) {t p w r : Int} {l : List Ed3} (e : f t = some (p, w)) (h : Path f p l r) : t ∉ l.map (·.1) ∧ t ∉ l.map (·.2.1) ∧ t ≠ p ∧ t ≠ r := by
  obtain ⟨rk, hr⟩ := gd.rank
  have h1 := Path.ranks hr h
  have h2 := hr _ _ _ e
  refine ⟨fun q => ?_, fun q => ?_, fun q => ?_, fun q => ?_⟩
  · obtain ⟨c, hc, e'⟩ := List.mem_map.mp q
    have := (h1.2 c hc).1
    rw [e'] at this; omega
  · obtain ⟨c, hc, e'⟩ := List.mem_map.mp q
    have := (h1.2 c hc).2
    rw [e'] at this; omega
  · rw [q] at h2; omega
  · have := h1.1
    rw [q] at h2; omega
theorem tm_head (gd : Good V f ties tops) {t r : Int} {l : List Ed3} (h : Path f t l r) : tm f l t = none := by
  cases h with
  | nil h => exact h
  | cons e h =>
    obtain ⟨_, _, h3, _⟩ := Path.above gd e h
    simp [tm, flip, h3]
theorem Good.turn (gd : Good V f ties tops) {t r : Int} {l : List Ed3} (h : Path f t l r) : V t → ∀ {tops' : List Int}, tops'.Nodup → (∀ x, x ∈ tops' ↔ (x ∈ tops ∧ x ≠ r) ∨ x = t) → Good V (tm f l) ties tops' := by
  induction h with
  | @nil r h =>
    intro hV tops' nd hm
    have hr := gd.none_top _ hV h
    refine Good.congr (f := f) gd nd fun x => ?_
    rw [hm]
    constructor
    · rintro (h | rfl)
      · exact h.1
      · exact hr
    · intro h
      by_cases q : x = r
      · exact .inr q
      · exact .inl ⟨h, q⟩
  | @cons t p w l r e h ih =>
    intro hV tops' nd hm
    have hVp := (gd.closed _ _ _ e).2
    obtain ⟨a1, a2, a3, a4⟩ := Path.above gd e h
    have hpt : p ∈ tops → p = r := fun q => by
      cases h with
      | nil _ => rfl
      | cons e2 _ => rw [gd.top_none _ q] at e2; cases e2
    have nd2 : (p :: tops.filter fun x => decide (x ≠ r)).Nodup := List.nodup_cons.mpr ⟨fun q => by
      simp only [List.mem_filter, decide_eq_true_eq] at q
      exact q.2 (hpt q.1), gd.nodup.filter _⟩
    have g1 := ih hVp nd2 (fun x => by
      simp only [List.mem_cons, List.mem_filter, decide_eq_true_eq]
      constructor
      · rintro (h | h)
        · exact .inr h
        · exact .inl h
      · rintro (h | h)
        · exact .inr h
        · exact .inl h)
    refine Good.flip g1 (t := t) (p := p) (w := w) ((tm_off a1 a2).trans e) (tm_head gd h) nd fun x => ?_
    rw [hm]
    simp only [List.mem_cons, List.mem_filter, decide_eq_true_eq]
    constructor
    · rintro (⟨h1, h2⟩ | h1)
      · by_cases q : x = p
        · subst q; exact absurd (hpt h1) h2
        · exact .inl ⟨.inr ⟨h1, h2⟩, q⟩
      · exact .inr h1
    · rintro (⟨h1 | h1, h2⟩ | h1)
      · exact absurd h1 h2
      · exact .inl h1
      · exact .inr h1
theorem dget_setAll_off : ∀ {l : List Ed3} {u : List (Int × Edge)} {x : Int}, x ∉ l.map (·.2.1) → dget (setAll l u) x = dget u x
  | [], _, _, _ => rfl
  | (t, p, w) :: l, u, x, h => by
    simp only [List.map_cons, List.mem_cons, not_or] at h
    show dget (setAll l (dset u p (t, w))) x = _
    rw [dget_setAll_off h.2, dget_dset, if_neg h.1]
theorem dget_setAll_congr : ∀ {l : List Ed3} {u v : List (Int × Edge)} {x : Int}, dget u x = dget v x → dget (setAll l u) x = dget (setAll l v) x
  | [], _, _, _, h => h
  | (t, p, w) :: l, u, v, x, h => by
    show dget (setAll l (dset u p (t, w))) x = dget (setAll l (dset v p (t, w))) x
    exact dget_setAll_congr (by rw [dget_dset, dget_dset, h])
theorem dget_turn {up : List (Int × Edge)} (gd : Good V (dget up) ties tops) {t r : Int} {l : List Ed3} (h : Path (dget up) t l r) : ∀ x, dget (setAll l (delAll l up)) x = tm (dget up) l x := by
  induction h with
  | nil _ => intro x; rfl
  | @cons t p w l r e h ih =>
    intro x
    obtain ⟨a1, a2, a3, a4⟩ := Path.above gd e h
    obtain ⟨rk, hr⟩ := gd.rank
    have hp : p ∉ l.map (·.2.1) := fun q => by
      obtain ⟨c, hc, e'⟩ := List.mem_map.mp q
      have := ((Path.ranks hr h).2 c hc).2
      rw [e'] at this; omega
    show dget (setAll l (dset (delAll l (ddel up t)) p (t, w))) x = flip (tm (dget up) l) t p w x
    unfold flip
    by_cases h1 : x = p
    · subst h1
      rw [if_pos rfl, dget_setAll_off hp, dget_dset, if_pos rfl]
    · rw [if_neg h1, dget_setAll_congr (v := delAll l (ddel up t)) (by rw [dget_dset, if_neg h1])]
      by_cases h2 : x = t
      · subst h2
        rw [if_pos rfl, dget_setAll_off a2, dget_delAll, if_neg a1, dget_ddel, if_pos rfl]
      · rw [if_neg h2, dget_setAll_congr (v := delAll l up) (by rw [dget_delAll, dget_delAll, dget_ddel, if_neg h2])]
        exact ih x
theorem delAll_nodup : ∀ (l : List Ed3) {u : List (Int × Edge)}, (u.map (·.1)).Nodup → ((delAll l u).map (·.1)).Nodup
  | [], _, h => h
  | c :: l, u, h => delAll_nodup l (ddel_nodup h c.1)
theorem setAll_nodup : ∀ (l : List Ed3) {u : List (Int × Edge)}, (u.map (·.1)).Nodup → ((setAll l u).map (·.1)).Nodup
  | [], _, h => h
  | c :: l, u, h => setAll_nodup l (dset_nodup h c.2.1 (c.1, c.2.2))
theorem up_len {VL : List Int} {up : List (Int × Edge)} (gd : Good (· ∈ VL) (dget up) ties tops) (nd : (up.map (·.1)).Nodup) : up.length ≤ VL.length := by
  have := sub_len (l := up.map (·.1)) (m := VL) nd (fun x hx => by
    have := dget_isSome.mpr hx
    cases e : dget up x with
    | none => rw [e] at this; cases this
    | some v => exact (gd.closed _ v.1 v.2 e).1)
  simpa using this

/-- one tree tied upon another -/
theorem Good.hang (gd : Good V f ties tops) {t q why rq : Int} {cq : List Ed3} (ht : t ∈ tops) (hq : V q) (hpq : Path f q cq rq) (hne : rq ≠ t) {tops' : List Int} (nd : tops'.Nodup) (hm : ∀ x, x ∈ tops' ↔ x ∈ tops ∧ x ≠ t) :
    Good V (fun x => if x = t then some (q, why) else f x) (ties ++ [(t, q, why)]) tops' := by
  classical
  have hft := gd.top_none _ ht
  have nq : ¬ ∃ c, Path f q c t := fun ⟨c, hc⟩ => hne (hpq.det hc).2
  refine ⟨fun k p w h => ?_, fun a b w h => ?_, ?_, fun x hx => ?_, fun x hx h => ?_, fun k p w h => ?_, fun x hx => gd.topV _ ((hm x).mp hx).1, nd⟩
  · try dsimp only at h
    split at h
    · next e => subst e; cases h; exact .inl (by simp)
    · exact (gd.up_tie _ _ _ h).imp (List.mem_append_left _) (List.mem_append_left _)
  · try dsimp only
    rcases List.mem_append.mp h with h | h
    · rcases gd.tie_up _ _ _ h with e | e
      · have : a ≠ t := by rintro rfl; rw [hft] at e; cases e
        exact .inl (by rw [if_neg this]; exact e)
      · have : b ≠ t := by rintro rfl; rw [hft] at e; cases e
        exact .inr (by rw [if_neg this]; exact e)
    · simp only [List.mem_singleton, Prod.mk.injEq] at h
      obtain ⟨rfl, rfl, rfl⟩ := h
      exact .inl (by rw [if_pos rfl])
  · obtain ⟨rk, hr⟩ := gd.rank
    refine ⟨fun x => if ∃ c, Path f x c t then rk x + rk q + 1 else rk x, fun k p w h => ?_⟩
    try dsimp only at h ⊢
    split at h
    · next e =>
      subst e; cases h
      rw [if_neg nq, if_pos ⟨[], .nil hft⟩]
      omega
    · next e =>
      have := hr _ _ _ h
      have iff : (∃ c, Path f k c t) ↔ ∃ c, Path f p c t := by
        constructor
        · rintro ⟨c, hc⟩
          cases hc with
          | nil h2 => rw [h] at h2; cases h2
          | cons e2 h2 => rw [h] at e2; cases e2; exact ⟨_, h2⟩
        · rintro ⟨c, hc⟩
          exact ⟨_, .cons h hc⟩
      by_cases q1 : ∃ c, Path f k c t
      · rw [if_pos q1, if_pos (iff.mp q1)]; omega
      · rw [if_neg q1, if_neg (fun z => q1 (iff.mpr z))]; exact this
  · try dsimp only
    have := (hm x).mp hx
    rw [if_neg this.2]; exact gd.top_none _ this.1
  · try dsimp only at h
    split at h
    · cases h
    · next e => exact (hm x).mpr ⟨gd.none_top _ hx h, e⟩
  · try dsimp only at h
    split at h
    · next e => subst e; cases h; exact ⟨gd.topV _ ht, hq⟩
    · exact gd.closed _ _ _ h
/-- the way from the old top to the new -/
theorem Path.back (gd : Good V f ties tops) {t r : Int} {l : List Ed3} (h : Path f t l r) : ∃ c, Path (tm f l) r c t ∧ ∀ x ∈ c.map (·.1), x ∈ l.map (·.2.1) := by
  induction h with
  | nil h => exact ⟨[], .nil h, by simp⟩
  | @cons t p w l r e h ih =>
    obtain ⟨c, hc, hs⟩ := ih
    obtain ⟨a1, a2, a3, a4⟩ := Path.above gd e h
    have key : ∀ {x : Int} {c : List Ed3}, Path (tm f l) x c p → (∀ x ∈ c.map (·.1), x ∈ l.map (·.2.1)) → Path (tm f ((t, p, w) :: l)) x (c ++ [(p, t, w)]) t := by
      intro x c hc
      have hp0 := tm_head gd h
      have gen : ∀ {x p' : Int} {c : List Ed3}, Path (tm f l) x c p' → p' = p → (∀ x ∈ c.map (·.1), x ∈ l.map (·.2.1)) → Path (tm f ((t, p, w) :: l)) x (c ++ [(p, t, w)]) t := by
        intro x p' c hc
        induction hc with
        | nil h2 =>
          rintro rfl _
          exact .cons (by simp [tm, Mine.flip]) (.nil (by simp [tm, Mine.flip, a3]))
        | @cons x y w' c _ e2 h2 ih2 =>
          rintro rfl hs
          have hx : x ∈ l.map (·.2.1) := hs x (by simp)
          have hx1 : x ≠ t := by rintro rfl; exact a2 hx
          have hx2 : ∀ p', x = p' → tm f l p' = none → False := by rintro _ rfl h; rw [h] at e2; cases e2
          refine .cons ?_ (ih2 rfl fun x hx => hs x (by simp only [List.map_cons, List.mem_cons]; exact .inr hx))
          simp only [tm, Mine.flip]
          rw [if_neg (fun q => hx2 _ q hp0), if_neg hx1]
          exact e2
      exact gen hc rfl
    refine ⟨_, key hc hs, fun x hx => ?_⟩
    simp only [List.map_append, List.mem_append, List.map_cons, List.map_nil, List.mem_singleton, List.mem_cons] at hx ⊢
    rcases hx with hx | hx
    · exact .inr (hs x hx)
    · exact .inl (by simpa using hx)
/-- another tree's way stays -/
theorem Path.other {t r q rq : Int} {l cq : List Ed3} (h : Path f t l r) (hq : Path f q cq rq) (hne : rq ≠ r) : Path (tm f l) q cq rq ∧ rq ≠ t := by
  have off : ∀ x, (∃ c, Path f x c rq) → x ∉ l.map (·.1) ∧ x ∉ l.map (·.2.1) := fun x ⟨c, hc⟩ => by
    refine ⟨fun z => ?_, fun z => ?_⟩
    · obtain ⟨l', hl'⟩ := h.later x (.inl z)
      exact hne (hc.det hl').2
    · obtain ⟨l', hl'⟩ := h.later x (.inr (.inl z))
      exact hne (hc.det hl').2
  refine ⟨hq.agree (fun c hc => ?_) ?_, ?_⟩
  · obtain ⟨z1, z2⟩ := off c.1 (hq.later _ (.inl (List.mem_map_of_mem hc)))
    exact tm_off z1 z2
  · obtain ⟨z1, z2⟩ := off rq (hq.later _ (.inr (.inr rfl)))
    exact tm_off z1 z2
  · rintro rfl
    have h1 : Path f rq [] rq := .nil hq.root
    exact hne (h1.det h).2
end

/-! part W6 -/
structure Game (VL : List Int) (up : List (Int × Edge)) (ties : List Tie) (tops : List Int) : Prop where
  good : Good (· ∈ VL) (dget up) ties tops
  nd : (up.map (·.1)).Nodup
  vl : VL.length < 400
  tl : ties.length < 400
section
variable {VL : List Int} {up : List (Int × Edge)} {ties : List Tie} {tops : List Int}
theorem Game.upl (g : Game VL up ties tops) : up.length < 400 := Nat.lt_of_le_of_lt (up_len g.good g.nd) g.vl
theorem Game.topl (g : Game VL up ties tops) : tops.length < 400 := Nat.lt_of_le_of_lt (sub_len g.good.nodup g.good.topV) g.vl
theorem mem_eraseIdx_idxOf {l : List Int} (nd : l.Nodup) {r : Int} (hr : r ∈ l) (x : Int) : x ∈ l.eraseIdx (l.idxOf r) ↔ x ∈ l ∧ x ≠ r := by
  rw [← List.erase_eq_eraseIdx_of_idxOf]
  · rw [nd.mem_erase_iff]
    exact And.comm
  · rfl
theorem eraseIdx_nodup {l : List Int} (nd : l.Nodup) (i : Nat) : (l.eraseIdx i).Nodup := nd.sublist (List.eraseIdx_sublist l i)
theorem set_idxOf {l : List Int} (nd : l.Nodup) {r t : Int} (hr : r ∈ l) (ht : t ∈ l → t = r) : (l.set (l.idxOf r) t).Nodup ∧ ∀ x, x ∈ l.set (l.idxOf r) t ↔ (x ∈ l ∧ x ≠ r) ∨ x = t := by
  induction l with
  | nil => cases hr
  | cons a l ih =>
    have nd' := List.nodup_cons.mp nd
    by_cases e : a = r
    · subst e
      rw [List.idxOf_cons_self, List.set_cons_zero]
      refine ⟨List.nodup_cons.mpr ⟨fun q => nd'.1 (by rw [← ht (.tail _ q)]; exact q), nd'.2⟩, fun x => ?_⟩
      simp only [List.mem_cons]
      constructor
      · rintro (h | h)
        · exact .inr h
        · exact .inl ⟨.inr h, fun q => nd'.1 (q ▸ h)⟩
      · rintro (⟨h | h, h2⟩ | h)
        · exact absurd h h2
        · exact .inr h
        · exact .inl h
    · have hr' : r ∈ l := by
        rcases List.mem_cons.mp hr with q | q
        · exact absurd q.symm e
        · exact q
      have e0 : (a :: l).idxOf r = l.idxOf r + 1 := by
        have e2 : (a == r) = false := by simp [e]
        rw [List.idxOf_cons, e2]; rfl
      rw [e0, List.set_cons_succ]
      obtain ⟨i1, i2⟩ := ih nd'.2 hr' (fun q => ht (.tail _ q))
      refine ⟨List.nodup_cons.mpr ⟨fun q => ?_, i1⟩, fun x => ?_⟩
      · rcases (i2 a).mp q with h | h
        · exact nd'.1 h.1
        · subst h; exact e (ht (.head _))
      · simp only [List.mem_cons, i2]
        constructor
        · rintro (h | h | h)
          · subst h; exact .inl ⟨.inl rfl, e⟩
          · exact .inl ⟨.inr h.1, h.2⟩
          · exact .inr h
        · rintro (⟨h | h, h2⟩ | h)
          · exact .inl h
          · exact .inr (.inl ⟨h, h2⟩)
          · exact .inr (.inr h)
theorem top_of_path {V : Int → Prop} {f : Int → Option Edge} (gd : Good V f ties tops) {t r : Int} {l : List Ed3} (ht : V t) (h : Path f t l r) : r ∈ tops ∧ (t ∈ tops → t = r) := by
  obtain ⟨l', r', h', hr⟩ := Path.exists gd ht
  obtain ⟨_, e⟩ := h.det h'
  refine ⟨e ▸ hr, fun q => ?_⟩
  have h2 : Path f t [] t := .nil (gd.top_none _ q)
  exact (h2.det h).2
theorem Game.turn (g : Game VL up ties tops) {t r : Int} {l : List Ed3} (ht : t ∈ VL) (h : Path (dget up) t l r) : Game VL (setAll l (delAll l up)) ties (tops.set (tops.idxOf r) t) := by
  obtain ⟨hr, htr⟩ := top_of_path g.good ht h
  obtain ⟨s1, s2⟩ := set_idxOf g.good.nodup hr htr
  exact ⟨(g.good.turn h ht s1 s2).fcongr (dget_turn g.good h), setAll_nodup l (delAll_nodup l g.nd), g.vl, g.tl⟩
theorem Game.hang (g : Game VL up ties tops) {t q why r rq : Int} {l cq : List Ed3} (ht : t ∈ VL) (hq : q ∈ VL) (h : Path (dget up) t l r) (h' : Path (dget up) q cq rq) (hne : rq ≠ r) (htl : ties.length + 1 < 400) :
    Game VL (dset (setAll l (delAll l up)) t (q, why)) (ties ++ [(t, q, why)]) (tops.eraseIdx (tops.idxOf r)) := by
  obtain ⟨hr, htr⟩ := top_of_path g.good ht h
  obtain ⟨s1, s2⟩ := set_idxOf g.good.nodup hr htr
  obtain ⟨o1, o2⟩ := Path.other h h' hne
  have g1 := g.good.turn h ht s1 s2
  refine ⟨Good.fcongr (Good.hang g1 ((s2 t).mpr (.inr rfl)) hq o1 o2 (eraseIdx_nodup g.good.nodup _) fun x => ?_) (fun x => ?_), dset_nodup (setAll_nodup l (delAll_nodup l g.nd)) _ _, g.vl, by simp; omega⟩
  · rw [mem_eraseIdx_idxOf g.good.nodup hr, s2]
    constructor
    · rintro ⟨h1, h2⟩
      exact ⟨.inl ⟨h1, h2⟩, fun q => h2 (q.trans (htr (q ▸ h1)))⟩
    · rintro ⟨h1 | h1, h2⟩
      · exact h1
      · exact absurd h1 h2
  · rw [dget_dset, dget_turn g.good h]
end
section
variable {w : World} {base : Heap} {s₀ : Shared} {VL : List Int} {up : List (Int × Edge)} {ties : List Tie} {tops : List Int}
theorem topFn (ok : Ok (GG w base s₀)) {S T P : Addr} {t r : Int} {l : List Ed3} (g : Game VL up ties tops) (hp : Path (dget up) t l r) :
    Fn (GG w base s₀) 2 596 [.ref S, .int t] (stC S T P ties tops) fun x FP => x = .int r ∧ FP = stC S T P ties tops := by
  have hul := g.upl
  have htl := g.tl
  have hpl := g.topl
  refine Fn.intro ok (by rfl) (by rfl) ["state", "t"] (fun us h => by obtain ⟨a, b, rfl⟩ := len2 h; rfl) (by decide) ?_
  intro A F L rm
  have hh := rm.handled
  have hu := rm.u
  with_unfolding_all refine Exs.cons ?_
  repeat walk_at "st"
  refine ⟨Kept.ref (by rfl), ?_⟩
  repeat walk_at "st"
  refine OpC.fn (forestFn ok g.good g.nd (by omega) (by omega) (by omega)) rm (by walk_at "less") ?_
  rintro _ _ ⟨D, found, rfl, rfl, hfn, hf⟩
  dsimp only
  walk_at "st"
  refine Ex.while (fun n m R => ∃ rest t, Path (dget up) t rest r ∧ n = rest.length ∧ m "forest" = some (.ref D) ∧ m "t" = some (.int t) ∧ R = (D, .dictI (denc edV found)) :: (stC S T P ties tops ++ F))
    l.length ⟨l, t, hp, rfl, by walk_at "lk", by walk_at "lk", rfl⟩ ?_
  rintro n m R ⟨rest, t, hpa, rfl, m1, m2, rfl⟩
  repeat walk_at "st"
  refine Op2.inI ok (by walk_at "mem") ?_
  rw [dget_enc, hf]
  refine ⟨_, rfl, ?_⟩
  cases hpa with
  | @cons _ p w' l _ hc hpa =>
    rw [hc]
    simp only [Option.map_some, Option.isSome_some, if_true]
    repeat walk_at "st"
    refine Op2.subI (x := edV (p, w')) (by walk_at "mem") (by rw [dget_enc, hf, hc]; rfl) ?_
    repeat walk_at "st"
    refine Op2.subT (k := 0) (by decide) rfl ?_
    dsimp only
    repeat walk_at "st"
    exact ⟨rfl, l.length, _, by simp, Less.refl _, l, p, hpa, rfl, by walk_at "lk", by walk_at "lk", rfl⟩
  | nil hr =>
    rw [hr]
    simp only [Option.map_none, Option.isSome_none, Bool.false_eq_true, if_false]
    repeat walk_at "st"
    exact ⟨_, Less.drop (Less.refl _), rfl, rfl⟩

theorem allFlat (found : List (Int × Edge)) : ∀ p ∈ denc edV found, p.2.flat = true := fun p hp => by
  obtain ⟨q, _, rfl⟩ := List.mem_map.mp hp
  rfl
theorem sameAll {found up : List (Int × Edge)} (nd : (up.map (·.1)).Nodup) (h : ∀ k, dget found k = dget up k) : ∀ p ∈ denc edV up, p.2.flat = true ∧ dget (denc edV found) p.1 = some p.2 := fun p hp => by
  refine ⟨allFlat _ p hp, ?_⟩
  obtain ⟨⟨a, b⟩, hq, rfl⟩ := List.mem_map.mp hp
  dsimp only
  rw [dget_enc, h, dget_of_mem nd hq]
  rfl
theorem madeTopFn (ok : Ok (GG w base s₀)) {H dx U TR S T P : Addr} {mm : Str → Option AV} {k : Nat} {trl : List AV} {t r : Int} {l : List Ed3} (hm : HM mm U TR) (g : Game VL up ties tops) (ht : t ∈ VL) (hp : Path (dget up) t l r) (htr : trl.length < 400) :
    Fn (GG w base s₀) 3 610 [.ref H, .ref S, .int t] (houseC H dx mm k U TR up trl ++ stC S T P ties tops) fun x FP => x = .bool true ∧
      FP = houseC H dx mm k U TR (setAll l (delAll l up)) trl ++ stC S T P ties (tops.set (tops.idxOf r) t) := by
  have hul := g.upl
  have htl := g.tl
  have hpl := g.topl
  have hll := hp.len g.good
  have hr := (top_of_path g.good ht hp).1
  have g' := g.turn ht hp
  have hul' := g'.upl
  have hpl' := g'.topl
  have hm' := hm
  obtain ⟨h1, h2, h3, h4, h5, h6⟩ := hm'
  refine Fn.intro ok (by rfl) (by rfl) ["house", "state", "t"] (fun us h => by obtain ⟨a, b, c, rfl⟩ := len3 h; rfl) (by decide) ?_
  intro A F L rm
  have hh := rm.handled
  have hu := rm.u
  with_unfolding_all refine Exs.cons ?_
  repeat walk_at "st"
  refine ⟨Kept.ref (by rfl), ?_⟩
  repeat walk_at "st"
  refine OpC.fn (topFn ok g hp) rm (by walk_at "less") ?_
  rintro _ _ ⟨rfl, rfl⟩
  repeat walk_at "st"
  refine ⟨Kept.con, ?_⟩
  repeat walk_at "st"
  walk_at "at"
  repeat walk_at "st"
  refine OpC.con (OpB.len (by walk_at "mem") (by omega) ?_)
  repeat walk_at "st"
  refine ⟨by walk_at "sz", _, rfl, rfl, ?_⟩
  walk_at "bnd"
  dsimp only
  walk_at "st"
  walk_at "st"
  refine Ev.own ok ?_
  repeat walk_at "st"
  walk_at "own"
  repeat walk_at "st"
  refine OpC.fn (turnFn ok h1 hp (by omega) (by omega) (hp.keys g.good)) (rm.le (by decide)) (by walk_at "less") ?_
  rintro _ _ ⟨rfl, rfl⟩
  dsimp only
  repeat walk_at "st"
  refine Op2.subS (by walk_at "mem") (by rfl) ?_
  walk_at "index"
  repeat walk_at "st"
  refine Op2.subS (by walk_at "mem") (by rfl) ?_
  refine ⟨Recv.list (by walk_at "mem"), ?_⟩
  repeat walk_at "st"
  refine OpB.index (by walk_at "mem") hr (by omega) ?_
  refine OpSet.list (by walk_at "put") (by rw [List.length_map]; exact List.idxOf_lt_length_iff.mpr hr) (by rw [List.length_map]; omega) ?_
  rw [← List.map_set]
  dsimp only
  repeat walk_at "st"
  refine Op2.eq ⟨_, rfl, ?_⟩
  rw [beq_self_eq_true, if_pos rfl]
  repeat walk_at "st"
  refine ⟨Kept.con, ?_⟩
  repeat walk_at "st"
  walk_at "at"
  repeat walk_at "st"
  refine OpC.con (OpB.len (by walk_at "mem") (by omega) ?_)
  repeat walk_at "st"
  refine Op2.eq ⟨_, rfl, ?_⟩
  rw [beq_self_eq_true, if_pos rfl]
  repeat walk_at "st"
  walk_at "at"
  repeat walk_at "st"
  refine ⟨Kept.ref (by rfl), ?_⟩
  repeat walk_at "st"
  refine OpC.fn (forestFn ok g'.good g'.nd (by omega) (by omega) (by omega)) (rm.le (by decide)) (by walk_at "less") ?_
  rintro _ _ ⟨D, found, rfl, rfl, hfn, hf⟩
  refine Op2.eqD ok (by walk_at "mem") (by walk_at "mem") hu (by rw [denc_length, denc_length]; exact (keys_len_eq hfn g'.nd hf).symm) (sameAll g'.nd hf) ?_
  refine ⟨houseC H dx mm k U TR (setAll l (delAll l up)) trl ++ stC S T P ties (tops.set (tops.idxOf r) t), ?_, rfl, rfl⟩
  walk_at "less"
end

/-! part W7 -/
section
variable {w : World} {base : Heap} {s₀ : Shared} {VL : List Int} {up : List (Int × Edge)} {ties : List Tie} {tops : List Int}
abbrev edgeV (t r : Int) : AV := .tup [.str "edge", .int t, .int r]
theorem hungFn (ok : Ok (GG w base s₀)) {H dx U TR S T P : Addr} {mm : Str → Option AV} {k : Nat} {trl : List AV} {t r q why rq : Int} {l cq : List Ed3} (hm : HM mm U TR) (g : Game VL up ties tops) (ht : t ∈ VL) (hq : q ∈ VL) (hp : Path (dget up) t l r)
    (hpq : Path (dget up) q cq rq) (hne : rq ≠ r) (htl : ties.length + 1 < 400) (htr : trl.length < 400) :
    Fn (GG w base s₀) 3 603 [.ref H, .ref S, .int t, .int q, .int why] (houseC H dx mm k U TR up trl ++ stC S T P ties tops) fun x FP => x = .bool true ∧
      FP = houseC H dx mm k U TR (dset (setAll l (delAll l up)) t (q, why)) (trl ++ [edgeV t r]) ++ stC S T P (ties ++ [(t, q, why)]) (tops.eraseIdx (tops.idxOf r)) := by
  have hul := g.upl
  have htl' := g.tl
  have hpl := g.topl
  have hll := hp.len g.good
  have hr := (top_of_path g.good ht hp).1
  have g' := g.hang (why := why) ht hq hp hpq hne htl
  have hul' := g'.upl
  have hpl' := g'.topl
  have hm' := hm
  obtain ⟨h1, h2, h3, h4, h5, h6⟩ := hm'
  refine Fn.intro ok (by rfl) (by rfl) ["house", "state", "one", "other", "why"] (fun us h => by obtain ⟨a, b, c, d, e, rfl⟩ := len5 h; rfl) (by decide) ?_
  intro A F L rm
  have hh := rm.handled
  have hu := rm.u
  with_unfolding_all refine Exs.cons ?_
  repeat walk_at "st"
  refine ⟨Kept.ref (by rfl), ?_⟩
  repeat walk_at "st"
  refine OpC.fn (topFn ok g hp) rm (by walk_at "less") ?_
  rintro _ _ ⟨rfl, rfl⟩
  repeat walk_at "st"
  refine ⟨Kept.con, ?_⟩
  repeat walk_at "st"
  walk_at "at"
  repeat walk_at "st"
  refine OpC.con (OpB.len (by walk_at "mem") (by omega) ?_)
  repeat walk_at "st"
  refine ⟨by walk_at "sz", _, rfl, rfl, ?_⟩
  walk_at "bnd"
  dsimp only
  walk_at "st"
  walk_at "st"
  refine Ev.own ok ?_
  repeat walk_at "st"
  walk_at "own"
  repeat walk_at "st"
  refine OpC.fn (hangFn (q := q) (why := why) (trl := trl) ok hm hp (by omega) (by omega) (hp.keys g.good) (by omega)) rm (by walk_at "less") ?_
  rintro _ _ ⟨rfl, rfl⟩
  dsimp only
  walk_at "st"
  walk_at "st"
  walk_at "append"
  repeat walk_at "st"
  refine Op2.subS (by walk_at "mem") (by rfl) ?_
  refine ⟨Recv.list (by walk_at "mem"), ?_⟩
  repeat walk_at "st"
  refine ⟨by walk_at "sz", ?_⟩
  repeat walk_at "st"
  refine OpB.append (by walk_at "put") (by rw [List.length_map, sizeLine_eq]; omega) ?_
  rw [show ties.map tieV ++ [AV.tup [.int t, .int q, .int why]] = (ties ++ [(t, q, why)]).map tieV by simp [tieV]]
  dsimp only
  walk_at "st"
  walk_at "st"
  walk_at "remove"
  repeat walk_at "st"
  refine Op2.subS (by walk_at "mem") (by rfl) ?_
  refine ⟨Recv.list (by walk_at "mem"), ?_⟩
  repeat walk_at "st"
  refine OpB.remove (by walk_at "put") hr (by rw [sizeLine_eq]; omega) ?_
  dsimp only
  repeat walk_at "st"
  walk_at "at"
  refine ⟨TR, trl ++ [edgeV t r], rfl, ?_⟩
  repeat walk_at "st"
  refine ⟨trl.length, rfl, by walk_at "mem", by simp [sizeLine_eq]; omega, fun D => ?_⟩
  rw [List.drop_left]
  repeat walk_at "st"
  refine ⟨by walk_at "sz", ?_⟩
  repeat walk_at "st"
  refine ⟨by walk_at "sz", fun E => ?_⟩
  refine Op2.eqL (l := [edgeV t r]) (by walk_at "mem") (by walk_at "mem") rfl hu ?_
  refine ⟨_, rfl, ?_⟩
  rw [if_pos rfl]
  repeat walk_at "st"
  walk_at "at"
  repeat walk_at "st"
  refine ⟨Kept.ref (by rfl), ?_⟩
  repeat walk_at "st"
  refine OpC.fn (forestFn (S := S) (T := T) (P := P) ok g'.good g'.nd (by omega) (by simp; omega) (by omega)) (rm.le (by decide)) (by walk_at "less") ?_
  rintro _ _ ⟨D', found, rfl, rfl, hfn, hf⟩
  refine Op2.eqD ok (by walk_at "mem") (by walk_at "mem") hu (by rw [denc_length, denc_length]; exact (keys_len_eq hfn g'.nd hf).symm) (sameAll g'.nd hf) ?_
  refine ⟨houseC H dx mm k U TR (dset (setAll l (delAll l up)) t (q, why)) (trl ++ [edgeV t r]) ++ stC S T P (ties ++ [(t, q, why)]) (tops.eraseIdx (tops.idxOf r)), ?_, rfl, rfl⟩
  walk_at "less"
end

/-! part W8 -/
structure KM (mm : Str → Option AV) (TO TA TS TD NU : Addr) : Prop where
  nu : mm "numbers" = some (.ref NU)
  to : mm "term_ops" = some (.ref TO)
  ta : mm "term_args" = some (.ref TA)
  ts : mm "term_sorts" = some (.ref TS)
  td : mm "term_datas" = some (.ref TD)
structure BM (mm : Str → Option AV) (FN FA FR : Addr) : Prop where
  fn : mm "fun_names" = some (.ref FN)
  fa : mm "fun_args" = some (.ref FA)
  fr : mm "fun_results" = some (.ref FR)
  mke : mm "make" = none
  df : mm "declare_fun" = none
  fc : mm "fresh_const" = none
abbrev mkC (B dB : Addr) (mm : Str → Option AV) (k : Nat) (TO TA TS TD NU : Addr) (ops args sorts datas : List AV) (keys : List BK) : Cells :=
  [(B, .raw (instObj 571 dB)), (dB, .inst mm k), (TO, .list ops), (TA, .list args), (TS, .list sorts), (TD, .list datas), (NU, .dictT keys)]
abbrev dfC (B dB : Addr) (mm : Str → Option AV) (k : Nat) (FN FA FR : Addr) (fns fas frs : List AV) : Cells :=
  [(B, .raw (instObj 571 dB)), (dB, .inst mm k), (FN, .list fns), (FA, .list fas), (FR, .list frs)]
section
variable {w : World} {base : Heap} {s₀ : Shared}
theorem makeFn (ok : Ok (GG w base s₀)) {B dB TO TA TS TD NU : Addr} {mm : Str → Option AV} {k : Nat} {ops args sorts datas : List AV} {keys : List BK} {op : Str} {so da : Int} (hm : KM mm TO TA TS TD NU) (hk : (op, so, da) ∉ keys)
    (l1 : ops.length < 1000) (l2 : args.length < 1000) (l3 : sorts.length < 1000) (l4 : datas.length < 1000) (l5 : keys.length < 1000) :
    Fn (GG w base s₀) 1 505 [.ref B, .str op, .tup [], .int so, .int da] (mkC B dB mm k TO TA TS TD NU ops args sorts datas keys) fun x FP => x = .int ops.length ∧
      FP = mkC B dB mm k TO TA TS TD NU (ops ++ [.str op]) (args ++ [.tup []]) (sorts ++ [.int so]) (datas ++ [.int da]) (keys ++ [(op, so, da)]) := by
  obtain ⟨h1, h2, h3, h4, h5⟩ := hm
  refine Fn.intro ok (by rfl) (by rfl) ["self", "op", "args", "sort", "data"] (fun us h => by obtain ⟨a, b, c, d, e, rfl⟩ := len5 h; rfl) (by decide) ?_
  intro A F L rm
  have hh := rm.handled
  have hu := rm.u
  with_unfolding_all refine Exs.cons ?_
  repeat walk_at "st"
  refine ⟨by walk_at "sz", ?_⟩
  walk_at "st"
  walk_at "st"
  walk_at "get"
  repeat walk_at "st"
  walk_at "at"
  refine ⟨Recv.dictT (by walk_at "mem"), ?_⟩
  repeat walk_at "st"
  refine OpB.getT ok (by walk_at "mem") hu hk ?_
  repeat walk_at "st"
  refine Op2.eq ⟨_, rfl, ?_⟩
  rw [beq_self_eq_true, if_pos rfl]
  repeat walk_at "st"
  refine ⟨Kept.con, ?_⟩
  repeat walk_at "st"
  walk_at "at"
  repeat walk_at "st"
  refine OpC.con (OpB.len (by walk_at "mem") (by omega) ?_)
  walk_at "st"
  walk_at "st"
  walk_at "append"
  repeat walk_at "st"
  walk_at "at"
  refine ⟨Recv.list (by walk_at "mem"), ?_⟩
  repeat walk_at "st"
  refine OpB.append (by walk_at "put") (by rw [sizeLine_eq]; omega) ?_
  dsimp only
  walk_at "st"
  walk_at "st"
  walk_at "append"
  repeat walk_at "st"
  walk_at "at"
  refine ⟨Recv.list (by walk_at "mem"), ?_⟩
  repeat walk_at "st"
  refine OpB.append (by walk_at "put") (by rw [sizeLine_eq]; omega) ?_
  dsimp only
  walk_at "st"
  walk_at "st"
  walk_at "append"
  repeat walk_at "st"
  walk_at "at"
  refine ⟨Recv.list (by walk_at "mem"), ?_⟩
  repeat walk_at "st"
  refine OpB.append (by walk_at "put") (by rw [sizeLine_eq]; omega) ?_
  dsimp only
  walk_at "st"
  walk_at "st"
  walk_at "append"
  repeat walk_at "st"
  walk_at "at"
  refine ⟨Recv.list (by walk_at "mem"), ?_⟩
  repeat walk_at "st"
  refine OpB.append (by walk_at "put") (by rw [sizeLine_eq]; omega) ?_
  dsimp only
  repeat walk_at "st"
  walk_at "at"
  repeat walk_at "st"
  refine OpSet.dictT (by walk_at "put") hu hk (by rw [sizeLine_eq]; omega) ?_
  dsimp only
  repeat walk_at "st"
  exact ⟨_, Less.refl _, rfl, rfl⟩
theorem declFn (ok : Ok (GG w base s₀)) {B dB FN FA FR : Addr} {mm : Str → Option AV} {k : Nat} {fns fas frs : List AV} {nm : Str} {so : Int} (hm : BM mm FN FA FR)
    (l1 : fns.length < 1000) (l2 : fas.length < 1000) (l3 : frs.length < 1000) :
    Fn (GG w base s₀) 1 414 [.ref B, .str nm, .tup [], .int so] (dfC B dB mm k FN FA FR fns fas frs) fun x FP => x = .int fns.length ∧
      FP = dfC B dB mm k FN FA FR (fns ++ [.str nm]) (fas ++ [.tup []]) (frs ++ [.int so]) := by
  obtain ⟨h1, h2, h3, h4, h5, h6⟩ := hm
  refine Fn.intro ok (by rfl) (by rfl) ["self", "name", "arg_sorts", "result"] (fun us h => by obtain ⟨a, b, c, d, rfl⟩ := len4 h; rfl) (by decide) ?_
  intro A F L rm
  have hh := rm.handled
  have hu := rm.u
  with_unfolding_all refine Exs.cons ?_
  walk_at "st"
  walk_at "append"
  repeat walk_at "st"
  walk_at "at"
  refine ⟨Recv.list (by walk_at "mem"), ?_⟩
  repeat walk_at "st"
  refine OpB.append (by walk_at "put") (by rw [sizeLine_eq]; omega) ?_
  dsimp only
  walk_at "st"
  walk_at "st"
  walk_at "append"
  repeat walk_at "st"
  walk_at "at"
  refine ⟨Recv.list (by walk_at "mem"), ?_⟩
  repeat walk_at "st"
  refine ⟨Kept.con, ?_⟩
  repeat walk_at "st"
  refine OpC.con (OpB.tuple ?_)
  repeat walk_at "st"
  refine OpB.append (by walk_at "put") (by rw [sizeLine_eq]; omega) ?_
  dsimp only
  walk_at "st"
  walk_at "st"
  walk_at "append"
  repeat walk_at "st"
  walk_at "at"
  refine ⟨Recv.list (by walk_at "mem"), ?_⟩
  repeat walk_at "st"
  refine OpB.append (by walk_at "put") (by rw [sizeLine_eq]; omega) ?_
  dsimp only
  repeat walk_at "st"
  refine ⟨Kept.con, ?_⟩
  repeat walk_at "st"
  walk_at "at"
  repeat walk_at "st"
  refine OpC.con (OpB.len (by walk_at "mem") (by simp; omega) ?_)
  repeat walk_at "st"
  refine Op2.sub ?_
  refine ⟨_, Less.refl _, ?_, rfl⟩
  simp
def IsBank (B : Addr) (n j : Nat) (FP : Cells) : Prop := ∃ dB mm k FN FA FR TO TA TS TD NU fns fas frs ops args sorts datas keys,
  FP = mkC B dB mm k TO TA TS TD NU ops args sorts datas keys ++ [(FN, .list fns), (FA, .list fas), (FR, .list frs)] ∧ KM mm TO TA TS TD NU ∧ BM mm FN FA FR ∧
  ops.length = n ∧ args.length = n ∧ sorts.length = n ∧ datas.length = n ∧ keys.length ≤ n ∧ fns.length = j ∧ fas.length = j ∧ frs.length = j ∧ ∀ so da, ((("app" : Str), so, da) : BK) ∈ keys → da < (j : Int)
theorem freshFn (ok : Ok (GG w base s₀)) {B : Addr} {n j : Nat} {FP : Cells} {nm : Str} {so : Int} (hb : IsBank B n j FP) (hn : n < 900) (hj : j < 900) :
    Fn (GG w base s₀) 2 428 [.ref B, .str nm, .int so] FP fun x FP' => x = .int n ∧ IsBank B (n + 1) (j + 1) FP' := by
  obtain ⟨dB, mm, k, FN, FA, FR, TO, TA, TS, TD, NU, fns, fas, frs, ops, args, sorts, datas, keys, rfl, km, bm, l1, l2, l3, l4, l5, l6, l7, l8, hkeys⟩ := hb
  have bm' := bm
  obtain ⟨h1, h2, h3, h4, h5, h6⟩ := bm'
  refine Fn.intro ok (by rfl) (by rfl) ["self", "name", "s"] (fun us h => by obtain ⟨a, b, c, rfl⟩ := len3 h; rfl) (by decide) ?_
  intro A F L rm
  have hh := rm.handled
  have hu := rm.u
  with_unfolding_all refine Exs.cons ?_
  walk_at "st"
  refine Ev.own ok ?_
  repeat walk_at "st"
  walk_at "own"
  repeat walk_at "st"
  refine ⟨by walk_at "sz", ?_⟩
  repeat walk_at "st"
  refine Ev.own ok ?_
  repeat walk_at "st"
  walk_at "own"
  repeat walk_at "st"
  refine ⟨by walk_at "sz", ?_⟩
  repeat walk_at "st"
  refine OpC.fn (declFn (k := k) (fns := fns) (fas := fas) (frs := frs) ok bm (by omega) (by omega) (by omega)) rm (by walk_at "less") ?_
  rintro _ _ ⟨rfl, rfl⟩
  repeat walk_at "st"
  have hk : ((("app" : Str), so, (fns.length : Int)) : BK) ∉ keys := fun q => by have := hkeys _ _ q; omega
  refine OpC.fn (makeFn (k := k) (ops := ops) (args := args) (sorts := sorts) (datas := datas) ok km hk (by omega) (by omega) (by omega) (by omega) (by omega)) rm (by walk_at "less") ?_
  rintro _ _ ⟨rfl, rfl⟩
  refine ⟨mkC B dB mm k TO TA TS TD NU (ops ++ [.str "app"]) (args ++ [.tup []]) (sorts ++ [.int so]) (datas ++ [.int fns.length]) (keys ++ [((("app" : Str), so, (fns.length : Int)) : BK)]) ++ [(FN, .list (fns ++ [.str nm])), (FA, .list (fas ++ [.tup []])), (FR, .list (frs ++ [.int so]))], by walk_at "less", by rw [l1],
    dB, mm, k, FN, FA, FR, TO, TA, TS, TD, NU, _, _, _, _, _, _, _, _, rfl, km, bm, by simp [l1], by simp [l2], by simp [l3], by simp [l4], by simp; omega, by simp [l6], by simp [l7], by simp [l8], fun so' da' q => ?_⟩
  rcases List.mem_append.mp q with q | q
  · have := hkeys _ _ q; omega
  · simp only [List.mem_singleton, Prod.mk.injEq] at q
    omega
end

/-! part W9 -/
section
variable {w : World} {base : Heap} {s₀ : Shared}
theorem houseInit (ok : Ok (GG w base s₀)) {H dx : Addr} {b : AV} :
    Fn (GG w base s₀) 1 65 [.ref H, b] [(H, .raw (instObj 354 dx)), (dx, .inst (fun _ => none) 0)] fun x FP => x = .none ∧ ∃ mm k U TR, HM mm U TR ∧ FP = houseC H dx mm k U TR [] [] := by
  refine Fn.intro ok (by rfl) (by rfl) ["self", "bank"] (fun us h => by obtain ⟨a, b, rfl⟩ := len2 h; rfl) (by decide) ?_
  intro A F L rm
  have hh := rm.handled
  have hu := rm.u
  with_unfolding_all refine Exs.cons ?_
  repeat walk_at "st"
  walk_at "set"
  dsimp only
  walk_at "st"
  walk_at "st"
  refine Ev.dict0I fun D1 => ?_
  repeat walk_at "st"
  walk_at "set"
  dsimp only
  walk_at "st"
  walk_at "st"
  refine Ev.dict0I fun D2 => ?_
  repeat walk_at "st"
  walk_at "set"
  dsimp only
  walk_at "st"
  walk_at "st"
  refine Ev.dict0I fun D3 => ?_
  repeat walk_at "st"
  walk_at "set"
  dsimp only
  walk_at "st"
  walk_at "st"
  refine Ev.dict0I fun D4 => ?_
  repeat walk_at "st"
  walk_at "set"
  dsimp only
  walk_at "st"
  walk_at "st"
  refine Ev.dict0I fun D5 => ?_
  repeat walk_at "st"
  walk_at "set"
  dsimp only
  walk_at "st"
  walk_at "st"
  refine Ev.dict0I fun D6 => ?_
  repeat walk_at "st"
  walk_at "set"
  dsimp only
  walk_at "st"
  walk_at "st"
  refine Ev.dict0I fun U => ?_
  repeat walk_at "st"
  walk_at "set"
  dsimp only
  walk_at "st"
  walk_at "st"
  refine Ev.dict0I fun D8 => ?_
  repeat walk_at "st"
  walk_at "set"
  dsimp only
  walk_at "st"
  walk_at "st"
  refine Ev.dict0I fun D9 => ?_
  repeat walk_at "st"
  walk_at "set"
  dsimp only
  walk_at "st"
  walk_at "st"
  refine Ev.dict0I fun D10 => ?_
  repeat walk_at "st"
  walk_at "set"
  dsimp only
  repeat walk_at "st"
  refine ⟨by walk_at "sz", fun L1 => ?_⟩
  repeat walk_at "st"
  walk_at "set"
  dsimp only
  repeat walk_at "st"
  refine ⟨by walk_at "sz", fun L2 => ?_⟩
  repeat walk_at "st"
  walk_at "set"
  dsimp only
  repeat walk_at "st"
  walk_at "set"
  dsimp only
  repeat walk_at "st"
  walk_at "set"
  dsimp only
  repeat walk_at "st"
  refine ⟨by walk_at "sz", fun TR => ?_⟩
  repeat walk_at "st"
  walk_at "set"
  dsimp only
  repeat walk_at "st"
  refine ⟨by walk_at "sz", fun L3 => ?_⟩
  repeat walk_at "st"
  walk_at "set"
  dsimp only
  repeat walk_at "st"
  refine ⟨houseC H dx ?mmx ?kx U TR [] [], ?hless, rfl, ?mmx, ?kx, U, TR, ?hhm, rfl⟩
  case hless => walk_at "less"
  case hhm => exact ⟨by walk_at "lk", by walk_at "lk", by rfl, by rfl, by rfl, by rfl⟩
theorem bankInit (ok : Ok (GG w base s₀)) {B dB : Addr} :
    Fn (GG w base s₀) 2 372 [.ref B] [(B, .raw (instObj 571 dB)), (dB, .inst (fun _ => none) 0)] fun x FP => x = .none ∧ IsBank B 3 0 FP := by
  refine Fn.intro ok (by rfl) (by rfl) ["self"] (fun us h => by obtain ⟨a, rfl⟩ := len1 h; rfl) (by decide) ?_
  intro A F L rm
  have hh := rm.handled
  have hu := rm.u
  with_unfolding_all refine Exs.cons ?_
  repeat walk_at "st"
  refine ⟨by walk_at "sz", fun S1 => ?_⟩
  repeat walk_at "st"
  walk_at "set"
  dsimp only
  repeat walk_at "st"
  refine ⟨by walk_at "sz", fun S2 => ?_⟩
  repeat walk_at "st"
  walk_at "set"
  dsimp only
  repeat walk_at "st"
  refine ⟨by walk_at "sz", fun FN => ?_⟩
  repeat walk_at "st"
  walk_at "set"
  dsimp only
  repeat walk_at "st"
  refine ⟨by walk_at "sz", fun FA => ?_⟩
  repeat walk_at "st"
  walk_at "set"
  dsimp only
  repeat walk_at "st"
  refine ⟨by walk_at "sz", fun FR => ?_⟩
  repeat walk_at "st"
  walk_at "set"
  dsimp only
  repeat walk_at "st"
  walk_at "set"
  dsimp only
  repeat walk_at "st"
  refine ⟨by walk_at "sz", fun TO => ?_⟩
  repeat walk_at "st"
  walk_at "set"
  dsimp only
  walk_at "st"
  walk_at "st"
  walk_at "st"
  repeat walk_at "st"
  refine ⟨by walk_at "sz", ?_⟩
  repeat walk_at "st"
  refine ⟨by walk_at "sz", fun TA => ?_⟩
  repeat walk_at "st"
  walk_at "set"
  dsimp only
  repeat walk_at "st"
  refine ⟨by walk_at "sz", fun TS => ?_⟩
  repeat walk_at "st"
  walk_at "set"
  dsimp only
  repeat walk_at "st"
  refine ⟨by walk_at "sz", fun TD => ?_⟩
  repeat walk_at "st"
  walk_at "set"
  dsimp only
  walk_at "st"
  walk_at "st"
  refine Ev.dict0T fun NU => ?_
  repeat walk_at "st"
  walk_at "set"
  dsimp only
  walk_at "st"
  walk_at "st"
  refine Ev.own ok ?_
  repeat walk_at "st"
  refine ⟨_, _, _, _, _, _, rfl, by walk_at "mem", by walk_at "mem", by rfl, by rfl, by rfl, by rfl, by rfl, ?_⟩
  repeat walk_at "st"
  refine ⟨by walk_at "sz", ?_⟩
  repeat walk_at "st"
  refine OpC.fn (makeFn (B := B) (TO := TO) (TA := TA) (TS := TS) (TD := TD) (NU := NU) (ops := [.str ""]) (args := [.tup []]) (sorts := [.int 0]) (datas := [.int 0]) (keys := []) ok ?hkm (by simp) (by simp) (by simp) (by simp) (by simp) (by simp)) rm (by walk_at "less") ?_
  case hkm => exact ⟨by walk_at "lk", by walk_at "lk", by walk_at "lk", by walk_at "lk", by walk_at "lk"⟩
  rintro _ _ ⟨rfl, rfl⟩
  repeat walk_at "st"
  walk_at "set"
  dsimp only
  walk_at "st"
  walk_at "st"
  refine Ev.own ok ?_
  repeat walk_at "st"
  refine ⟨_, _, _, _, _, _, rfl, by walk_at "mem", by walk_at "mem", by rfl, by rfl, by rfl, by rfl, by rfl, ?_⟩
  repeat walk_at "st"
  refine ⟨by walk_at "sz", ?_⟩
  repeat walk_at "st"
  refine OpC.fn (makeFn (B := B) (TO := TO) (TA := TA) (TS := TS) (TD := TD) (NU := NU) (ops := [.str "", .str "true"]) (args := [.tup [], .tup []]) (sorts := [.int 0, .int 0]) (datas := [.int 0, .int 0]) (keys := [((("true" : Str), 0, 0) : BK)]) ok ?hkm2 (by decide) (by simp) (by simp) (by simp) (by simp) (by simp)) rm (by walk_at "less") ?_
  case hkm2 => exact ⟨by walk_at "lk", by walk_at "lk", by walk_at "lk", by walk_at "lk", by walk_at "lk"⟩
  rintro _ _ ⟨rfl, rfl⟩
  repeat walk_at "st"
  walk_at "set"
  dsimp only
  repeat walk_at "st"
  refine ⟨mkC B dB ?mmx ?kx TO TA TS TD NU ([.str "", .str "true"] ++ [.str "false"]) ([.tup [], .tup []] ++ [.tup []]) ([.int 0, .int 0] ++ [.int 0]) ([.int 0, .int 0] ++ [.int 0]) ([((("true" : Str), 0, 0) : BK)] ++ [((("false" : Str), 0, 0) : BK)]) ++ [(FN, .list []), (FA, .list []), (FR, .list [])], ?hless, rfl, dB, ?mmx, ?kx, FN, FA, FR, TO, TA, TS, TD, NU, [], [], [], _, _, _, _, _, rfl, ?hkm3, ?hbm, rfl, rfl, rfl, rfl, Nat.le_succ _, rfl, rfl, rfl, ?hkeys⟩
  case hless => walk_at "less"
  case hkm3 => exact ⟨by walk_at "lk", by walk_at "lk", by walk_at "lk", by walk_at "lk", by walk_at "lk"⟩
  case hbm => exact ⟨by walk_at "lk", by walk_at "lk", by walk_at "lk", by rfl, by rfl, by rfl⟩
  case hkeys =>
    intro so da q
    simp only [List.cons_append, List.nil_append, List.mem_cons, List.not_mem_nil, Prod.mk.injEq, or_false] at q
    rcases q with q | q
    · exact absurd q.1 (by decide)
    · exact absurd q.1 (by decide)
end

/-! part PL3 -/
def nums (n0 i : Nat) : List Int := (List.range i).map fun j : Nat => ((n0 + j : Nat) : Int)
theorem nums_snoc (n0 i : Nat) : nums n0 (i + 1) = nums n0 i ++ [((n0 + i : Nat) : Int)] := by simp [nums, List.range_succ]
theorem nums_len (n0 i : Nat) : (nums n0 i).length = i := by simp [nums]
theorem mem_nums {n0 i : Nat} {x : Int} : x ∈ nums n0 i ↔ ∃ j < i, x = ((n0 + j : Nat) : Int) := by
  simp only [nums, List.mem_map, List.mem_range]
  constructor
  · rintro ⟨j, h, e⟩; exact ⟨j, h, e.symm⟩
  · rintro ⟨j, h, e⟩; exact ⟨j, h, e.symm⟩
section
variable {VL : List Int} {up : List (Int × Edge)} {ties : List Tie} {tops : List Int}
theorem Game.extend (g : Game VL up ties tops) {x : Int} (hx : x ∉ VL) (hl : VL.length + 1 < 400) : Game (VL ++ [x]) up ties (tops ++ [x]) := by
  have hn : dget up x = none := by
    cases e : dget up x with
    | none => rfl
    | some v => exact absurd (g.good.closed _ v.1 v.2 e).1 hx
  refine ⟨⟨g.good.up_tie, g.good.tie_up, g.good.rank, fun t ht => ?_, fun y hy h => ?_, fun k p w h => ?_, fun t ht => ?_, ?_⟩, g.nd, by simp; omega, g.tl⟩
  · rcases List.mem_append.mp ht with q | q
    · exact g.good.top_none _ q
    · simp only [List.mem_singleton] at q; subst q; exact hn
  · rcases List.mem_append.mp hy with q | q
    · exact List.mem_append_left _ (g.good.none_top _ q h)
    · exact List.mem_append_right _ q
  · exact ⟨List.mem_append_left _ (g.good.closed _ _ _ h).1, List.mem_append_left _ (g.good.closed _ _ _ h).2⟩
  · rcases List.mem_append.mp ht with q | q
    · exact List.mem_append_left _ (g.good.topV _ q)
    · exact List.mem_append_right _ q
  · refine List.nodup_append.mpr ⟨g.good.nodup, by simp, fun a ha b hb e => ?_⟩
    simp only [List.mem_singleton] at hb
    exact hx (by rw [← hb, ← e]; exact g.good.topV _ ha)
end
abbrev Pn (n0 i : Nat) : Int := ((n0 + i : Nat) : Int)
abbrev Wn (i : Nat) : Int := ((100 + i : Nat) : Int)
theorem Pn_inj {n0 i j : Nat} (h : Pn n0 i = Pn n0 j) : i = j := by unfold Pn at h; omega
structure LineGame (n0 k : Nat) (up : List (Int × Edge)) (ties : List Tie) (top : Int) : Prop where
  game : Game (nums n0 (k + 1)) up ties [top]
  len : ties.length = k
  tie : ∀ i < k, ties[i]? = some (Pn n0 i, Pn n0 (i + 1), Wn i) ∨ ties[i]? = some (Pn n0 (i + 1), Pn n0 i, Wn i)
theorem LineGame.start (n0 : Nat) : LineGame n0 0 [] [] (Pn n0 0) := by
  have gd : Good (· ∈ nums n0 (0 + 1)) (dget ([] : List (Int × Edge))) [] [Pn n0 0] :=
    { up_tie := fun k p w h => nomatch h
      tie_up := fun a b w h => nomatch h
      rank := ⟨fun _ => 0, fun k p w h => nomatch h⟩
      top_none := fun t ht => rfl
      none_top := fun x hx _ => by
        obtain ⟨j, hj, e⟩ := mem_nums.mp hx
        have : j = 0 := by omega
        subst this
        simp [e]
      closed := fun k p w h => nomatch h
      topV := fun t ht => by
        simp only [List.mem_singleton] at ht
        exact mem_nums.mpr ⟨0, Nat.lt_succ_self _, ht⟩
      nodup := by simp }
  exact ⟨⟨gd, List.nodup_nil, by rw [nums_len]; omega, by decide⟩, rfl, fun i h => absurd h (Nat.not_lt_zero _)⟩
section
variable {n0 k : Nat} {up : List (Int × Edge)} {ties : List Tie} {top : Int}
theorem new_not {n0 k : Nat} : Pn n0 (k + 1) ∉ nums n0 (k + 1) := by
  rw [mem_nums]
  rintro ⟨j, h, e⟩
  have := Pn_inj (n0 := n0) (i := k + 1) (j := j) e
  omega
theorem tie_snoc (h : LineGame n0 k up ties top) {t : Tie} (ht : t = (Pn n0 k, Pn n0 (k + 1), Wn k) ∨ t = (Pn n0 (k + 1), Pn n0 k, Wn k)) :
    ∀ i < k + 1, (ties ++ [t])[i]? = some (Pn n0 i, Pn n0 (i + 1), Wn i) ∨ (ties ++ [t])[i]? = some (Pn n0 (i + 1), Pn n0 i, Wn i) := by
  intro i hi
  rcases Nat.lt_or_ge i k with q | q
  · rw [List.getElem?_append_left (by rw [h.len]; exact q)]
    exact h.tie i q
  · have : i = k := by omega
    subst this
    rw [List.getElem?_append_right (by rw [h.len]; exact Nat.le_refl _), h.len, Nat.sub_self]
    rcases ht with rfl | rfl
    · exact .inl rfl
    · exact .inr rfl
/-- the next one above -/
theorem LineGame.stepA (h : LineGame n0 k up ties top) (hk : k < 300) : ∃ l, Path (dget up) (Pn n0 k) l top ∧ LineGame n0 (k + 1) (dset (setAll l (delAll l up)) (Pn n0 k) (Pn n0 (k + 1), Wn k)) (ties ++ [(Pn n0 k, Pn n0 (k + 1), Wn k)]) (Pn n0 (k + 1)) := by
  have hV : Pn n0 k ∈ nums n0 (k + 1) := mem_nums.mpr ⟨k, Nat.lt_succ_self _, rfl⟩
  obtain ⟨l, r, hp, hr⟩ := Path.exists h.game.good hV
  simp only [List.mem_singleton] at hr
  subst hr
  refine ⟨l, hp, ?_, by rw [List.length_append, h.len]; rfl, tie_snoc h (.inl rfl)⟩
  have g' := h.game.extend (new_not) (by rw [nums_len]; omega)
  have hn : dget up (Pn n0 (k + 1)) = none := g'.good.top_none _ (by simp)
  have hne : Pn n0 (k + 1) ≠ r := fun e => new_not (n0 := n0) (k := k) (by rw [e]; exact h.game.good.topV _ (by simp))
  have g2 := g'.hang (why := Wn k) (List.mem_append_left _ hV) (List.mem_append_right _ (by simp)) hp (.nil hn) hne (by rw [h.len]; omega)
  rw [← nums_snoc] at g2
  have e0 : ([r] ++ [Pn n0 (k + 1)]).eraseIdx (([r] ++ [Pn n0 (k + 1)]).idxOf r) = [Pn n0 (k + 1)] := by simp
  rw [e0] at g2
  exact g2
/-- the next one below -/
theorem LineGame.stepB (h : LineGame n0 k up ties top) (hk : k < 300) : Path (dget up) (Pn n0 (k + 1)) [] (Pn n0 (k + 1)) ∧ LineGame n0 (k + 1) (dset up (Pn n0 (k + 1)) (Pn n0 k, Wn k)) (ties ++ [(Pn n0 (k + 1), Pn n0 k, Wn k)]) top := by
  have hV : Pn n0 k ∈ nums n0 (k + 1) := mem_nums.mpr ⟨k, Nat.lt_succ_self _, rfl⟩
  obtain ⟨l, r, hp, hr⟩ := Path.exists h.game.good hV
  simp only [List.mem_singleton] at hr
  subst hr
  have g' := h.game.extend (new_not) (by rw [nums_len]; omega)
  have hn : dget up (Pn n0 (k + 1)) = none := g'.good.top_none _ (by simp)
  have hne : r ≠ Pn n0 (k + 1) := fun e => new_not (n0 := n0) (k := k) (by rw [← e]; exact h.game.good.topV _ (by simp))
  refine ⟨.nil hn, ?_, by rw [List.length_append, h.len]; rfl, tie_snoc h (.inr rfl)⟩
  have g2 := g'.hang (why := Wn k) (List.mem_append_right _ (by simp)) (List.mem_append_left _ hV) (.nil hn) hp hne (by rw [h.len]; omega)
  rw [← nums_snoc] at g2
  have e0 : ([r] ++ [Pn n0 (k + 1)]).eraseIdx (([r] ++ [Pn n0 (k + 1)]).idxOf (Pn n0 (k + 1))) = [r] := by
    have : (r == Pn n0 (k + 1)) = false := beq_eq_false_iff_ne.mpr hne
    show ([r, Pn n0 (k + 1)]).eraseIdx (([r, Pn n0 (k + 1)]).idxOf (Pn n0 (k + 1))) = [r]
    rw [List.idxOf_cons, this, List.idxOf_cons_self]
    rfl
  rw [e0] at g2
  exact g2
theorem LineGame.turn (h : LineGame n0 k up ties top) {t : Int} (ht : t ∈ nums n0 (k + 1)) : ∃ l, Path (dget up) t l top ∧ LineGame n0 k (setAll l (delAll l up)) ties t ∧ [top].set ([top].idxOf top) t = [t] := by
  obtain ⟨l, r, hp, hr⟩ := Path.exists h.game.good ht
  simp only [List.mem_singleton] at hr
  subst hr
  have g' := h.game.turn ht hp
  have e0 : [r].set ([r].idxOf r) t = [t] := by simp
  rw [e0] at g'
  exact ⟨l, hp, ⟨g', h.len, h.tie⟩, e0⟩

/-- what stands above each of the line -/
theorem LineGame.cases (h : LineGame n0 k up ties top) {i : Nat} {p w : Int} (e : dget up (Pn n0 i) = some (p, w)) : (i < k ∧ p = Pn n0 (i + 1) ∧ w = Wn i) ∨ (1 ≤ i ∧ i ≤ k ∧ p = Pn n0 (i - 1) ∧ w = Wn (i - 1)) := by
  have key : ∀ a b w', (a, b, w') ∈ ties → ∃ m < k, (a = Pn n0 m ∧ b = Pn n0 (m + 1) ∧ w' = Wn m) ∨ (a = Pn n0 (m + 1) ∧ b = Pn n0 m ∧ w' = Wn m) := by
    intro a b w' hm
    obtain ⟨m, hm⟩ := List.getElem?_of_mem hm
    have hk : m < k := by
      rw [← h.len]
      exact (List.getElem?_eq_some_iff.mp hm).1
    refine ⟨m, hk, ?_⟩
    rcases h.tie m hk with q | q
    · rw [hm] at q; simp only [Option.some.injEq, Prod.mk.injEq] at q; exact .inl q
    · rw [hm] at q; simp only [Option.some.injEq, Prod.mk.injEq] at q; exact .inr q
  rcases h.game.good.up_tie _ _ _ e with q | q
  · obtain ⟨m, hk, ⟨a, b, c⟩ | ⟨a, b, c⟩⟩ := key _ _ _ q
    · have : i = m := Pn_inj ‹_›
      subst this
      exact .inl ⟨hk, b, c⟩
    · have : i = m + 1 := Pn_inj ‹_›
      subst this
      exact .inr ⟨by omega, by omega, b, c⟩
  · obtain ⟨m, hk, ⟨a, b, c⟩ | ⟨a, b, c⟩⟩ := key _ _ _ q
    · have : i = m + 1 := Pn_inj ‹_›
      subst this
      exact .inr ⟨by omega, by omega, a, c⟩
    · have : i = m := Pn_inj ‹_›
      subst this
      exact .inl ⟨hk, a, c⟩
theorem LineGame.shape (h : LineGame n0 k up ties top) : ∃ j ≤ k, top = Pn n0 j ∧ dget up (Pn n0 j) = none ∧ (∀ i < j, dget up (Pn n0 i) = some (Pn n0 (i + 1), Wn i)) ∧ ∀ i, j < i → i ≤ k → dget up (Pn n0 i) = some (Pn n0 (i - 1), Wn (i - 1)) := by
  obtain ⟨j, hj, e⟩ := mem_nums.mp (h.game.good.topV top (by simp))
  obtain ⟨rk, hr⟩ := h.game.good.rank
  have hup : ∀ i ≤ k, i ≠ j → ∃ v, dget up (Pn n0 i) = some v := fun i hi hij => by
    cases q : dget up (Pn n0 i) with
    | some v => exact ⟨v, rfl⟩
    | none =>
      have := h.game.good.none_top _ (mem_nums.mpr ⟨i, by omega, rfl⟩) q
      simp only [List.mem_singleton] at this
      exact absurd (Pn_inj (this.trans e)) hij
  refine ⟨j, by omega, e, h.game.good.top_none _ (by simp [e]), ?_, ?_⟩
  · intro i
    induction i with
    | zero =>
      intro hi
      obtain ⟨⟨p, w⟩, hv⟩ := hup 0 (by omega) (by omega)
      rcases h.cases hv with ⟨_, a, b⟩ | ⟨a, _⟩
      · rw [hv, a, b]
      · omega
    | succ i ih =>
      intro hi
      obtain ⟨⟨p, w⟩, hv⟩ := hup (i + 1) (by omega) (by omega)
      rcases h.cases hv with ⟨_, a, b⟩ | ⟨_, _, a, b⟩
      · rw [hv, a, b]
      · exfalso
        have h1 := hr _ _ _ (ih (by omega))
        rw [a] at hv
        have h2 := hr _ _ _ hv
        have e3 : i + 1 - 1 = i := rfl
        rw [e3] at h2
        omega
  · have key : ∀ d i, i + d = k → j < i → dget up (Pn n0 i) = some (Pn n0 (i - 1), Wn (i - 1)) := by
      intro d
      induction d with
      | zero =>
        intro i hi hji
        obtain ⟨⟨p, w⟩, hv⟩ := hup i (by omega) (by omega)
        rcases h.cases hv with ⟨a, _⟩ | ⟨_, _, a, b⟩
        · omega
        · rw [hv, a, b]
      | succ d ih =>
        intro i hi hji
        obtain ⟨⟨p, w⟩, hv⟩ := hup i (by omega) (by omega)
        rcases h.cases hv with ⟨_, a, b⟩ | ⟨_, _, a, b⟩
        · exfalso
          have h1 := hr _ _ _ (ih (i + 1) (by omega) (by omega))
          rw [a] at hv
          have h2 := hr _ _ _ hv
          have e3 : i + 1 - 1 = i := rfl
          rw [e3] at h1
          omega
        · rw [hv, a, b]
    intro i h1 h2
    exact key (k - i) i (by omega) h1
end
theorem idxOf_app {x : Int} : ∀ {l r : List Int}, x ∉ l → (l ++ x :: r).idxOf x = l.length
  | [], r, _ => by simp
  | a :: l, r, h => by
    simp only [List.mem_cons, not_or] at h
    have e : (a == x) = false := beq_eq_false_iff_ne.mpr (Ne.symm h.1)
    rw [List.cons_append, List.idxOf_cons, e]
    simp only [cond_false, List.length_cons, idxOf_app h.2]
/-! the edges between two of the line -/
def down : Nat → Nat → List Nat
  | _, 0 => []
  | i, m + 1 => i :: down (i - 1) m
theorem mem_down : ∀ {m i x : Nat}, m ≤ i + 1 → (x ∈ down i m ↔ x ≤ i ∧ i < x + m)
  | 0, i, x, _ => by simp [down]
  | m + 1, i, x, h => by
    simp only [down, List.mem_cons]
    cases m with
    | zero => simp [down]; omega
    | succ m => rw [mem_down (by omega)]; omega
theorem down_len : ∀ (m i : Nat), (down i m).length = m
  | 0, _ => rfl
  | m + 1, i => by simp [down, down_len m]
theorem down_perm : ∀ (m i : Nat), m ≤ i + 1 → (down i m).Perm (List.range' (i + 1 - m) m)
  | 0, i, _ => by simp [down]
  | m + 1, i, h => by
    have e1 : List.range' (i + 1 - (m + 1)) (m + 1) = List.range' (i - m) m ++ [i] := by
      rw [show i + 1 - (m + 1) = i - m by omega, List.range'_concat]
      congr 2; omega
    rw [e1]
    simp only [down]
    refine (List.Perm.cons _ ?_).trans (List.perm_append_singleton _ _).symm
    cases m with
    | zero => simp [down]
    | succ m =>
      have := down_perm (m + 1) (i - 1) (by omega)
      rw [show i - 1 + 1 - (m + 1) = i - (m + 1) by omega] at this
      exact this
section
variable {n0 k j : Nat} {f : Int → Option Edge}
structure Shape (f : Int → Option Edge) (n0 k j : Nat) : Prop where
  top : f (Pn n0 j) = none
  fu : ∀ i < j, f (Pn n0 i) = some (Pn n0 (i + 1), Wn i)
  fd : ∀ i, j < i → i ≤ k → f (Pn n0 i) = some (Pn n0 (i - 1), Wn (i - 1))
theorem Shape.pathUp (h : Shape f n0 k j) : ∀ (m a : Nat), a + m = j → Path f (Pn n0 a) ((List.range' a m).map fun i => (Pn n0 i, Pn n0 (i + 1), Wn i)) (Pn n0 j)
  | 0, a, e => by
    have : a = j := by omega
    subst this
    exact .nil h.top
  | m + 1, a, e => by
    rw [List.range'_succ, List.map_cons]
    exact .cons (h.fu a (by omega)) (Shape.pathUp h m (a + 1) (by omega))
theorem Shape.pathDown (h : Shape f n0 k j) : ∀ (m a : Nat), a = j + m → a ≤ k → Path f (Pn n0 a) ((down a m).map fun i => (Pn n0 i, Pn n0 (i - 1), Wn (i - 1))) (Pn n0 j)
  | 0, a, e, _ => by
    have : a = j := by omega
    subst this
    exact .nil h.top
  | m + 1, a, e, hk => by
    simp only [down, List.map_cons]
    exact .cons (h.fd a (by omega) hk) (Shape.pathDown h m (a - 1) (by omega) (by omega))
theorem Shape.back (h : Shape f n0 k j) {N : List Int} {e : Nat} (he : Pn n0 e ∈ N) (hN : ∀ i, e < i → i ≤ k → Pn n0 i ∉ N) (hj : j ≤ e) : ∀ (m b : Nat), b = e + m → b ≤ k → Back f N (Pn n0 b) ((down b m).map (Pn n0)) (Pn n0 e)
  | 0, b, eq, _ => by
    have : b = e := by omega
    subst this
    exact .nil he
  | m + 1, b, eq, hk => by
    simp only [down, List.map_cons]
    exact .cons (hN b (by omega) hk) (h.fd b (by omega) hk) (Shape.back h he hN hj m (b - 1) (by omega) (by omega))
theorem map_perm_reasons {l : List Nat} {a m : Nat} (h : l.Perm (List.range' a m)) : (l.map Wn).Perm ((List.range' (100 + a) m).map fun i : Nat => (i : Int)) := by
  have e : ((List.range' (100 + a) m).map fun i : Nat => (i : Int)) = (List.range' a m).map Wn := by
    rw [← List.map_add_range' (a := 100) a m 1, List.map_map]
    rfl
  rw [e]
  exact h.map _
theorem down_reasons {a b d : Nat} (e : b = a + d) : ((down b d).map fun i => i - 1).Perm (List.range' a d) := by
  subst e
  refine ((down_perm d (a + d) (Nat.le_trans (Nat.le_add_left _ _) (Nat.le_succ _))).map fun i => i - 1).trans ?_
  rw [show a + d + 1 - d = 1 + a by omega, ← List.map_add_range' (a := 1) a d 1, List.map_map]
  have e4 : ((fun i => i - 1) ∘ fun x => 1 + x : Nat → Nat) = id := funext fun i => Nat.add_sub_cancel_left 1 i
  rw [e4, List.map_id]
theorem range_join {a j b : Nat} (h1 : a ≤ j) (h2 : j ≤ b) : List.range' a (b - a) = List.range' a (j - a) ++ List.range' j (b - j) := by
  obtain ⟨d, rfl⟩ := Nat.exists_eq_add_of_le h1
  obtain ⟨c, rfl⟩ := Nat.exists_eq_add_of_le h2
  rw [Nat.add_sub_cancel_left, Nat.add_sub_cancel_left, Nat.add_assoc, Nat.add_sub_cancel_left, ← List.range'_append, Nat.one_mul]
/-- what edges_between gives, and its reasons -/
theorem Shape.between (h : Shape f n0 k j) (hj : j ≤ k) {a b : Nat} (hab : a ≤ b) (hb : b ≤ k) : ∃ (chain : List Ed3) (N back : List Int) (e : Int) (es : List Edge), Path f (Pn n0 a) chain (Pn n0 j) ∧ N = chain.map (·.1) ++ [Pn n0 j] ∧ Back f N (Pn n0 b) back e ∧ N.length ≤ k + 1 ∧ back.length ≤ k + 1 ∧
    (N.take (N.idxOf e) ++ back).map f = es.map some ∧ (es.map (·.2)).Perm ((List.range' (100 + a) (b - a)).map fun i : Nat => (i : Int)) := by
  rcases Nat.lt_or_ge a j with hlt | hge
  · -- the top stands above a
    have hp := h.pathUp (j - a) a (by omega)
    generalize hch : (List.range' a (j - a)).map (fun i => (Pn n0 i, Pn n0 (i + 1), Wn i)) = chain at hp
    have hN : chain.map (·.1) ++ [Pn n0 j] = (List.range' a (j - a + 1)).map (Pn n0) := by
      rw [← hch, List.map_map, List.range'_concat, List.map_append]
      congr 1
      simp only [List.map_cons, List.map_nil]
      congr 2
      omega
    have hmem : ∀ i, Pn n0 i ∈ (List.range' a (j - a + 1)).map (Pn n0) ↔ a ≤ i ∧ i ≤ j := fun i => by
      rw [List.mem_map]
      constructor
      · rintro ⟨i', hi, e⟩
        have := Pn_inj e
        subst this
        rw [List.mem_range'_1] at hi; omega
      · rintro ⟨h1, h2⟩
        exact ⟨i, List.mem_range'_1.mpr (by omega), rfl⟩
    have hidx : ∀ i, a ≤ i → i ≤ j → ((List.range' a (j - a + 1)).map (Pn n0)).take (((List.range' a (j - a + 1)).map (Pn n0)).idxOf (Pn n0 i)) = (List.range' a (i - a)).map (Pn n0) := fun i h1 h2 => by
      have e1 : (List.range' a (j - a + 1)).map (Pn n0) = (List.range' a (i - a)).map (Pn n0) ++ Pn n0 i :: (List.range' (i + 1) (j - i)).map (Pn n0) := by
        have : List.range' a (j - a + 1) = List.range' a (i - a) ++ List.range' i (j - i + 1) := by
          have := List.range'_append (s := a) (m := i - a) (n := j - i + 1) (step := 1)
          rw [Nat.one_mul, show a + (i - a) = i by omega, show i - a + (j - i + 1) = j - a + 1 by omega] at this
          exact this.symm
        rw [this, List.map_append, List.range'_succ, List.map_cons]
      have hnot : Pn n0 i ∉ (List.range' a (i - a)).map (Pn n0) := by
        rw [List.mem_map]
        rintro ⟨i', hi, e⟩
        have := Pn_inj e
        subst this
        rw [List.mem_range'_1] at hi; omega
      rw [e1, idxOf_app hnot, List.take_left]
    rcases Nat.lt_or_ge j b with hjb | hjb
    · refine ⟨chain, _, _, Pn n0 j, (List.range' a (j - a)).map (fun i => (Pn n0 (i + 1), Wn i)) ++ (down b (b - j)).map (fun i => (Pn n0 (i - 1), Wn (i - 1))), hp, rfl, h.back (e := j) (N := chain.map (·.1) ++ [Pn n0 j]) (by simp) (fun i h1 h2 => by rw [hN, hmem]; omega) (Nat.le_refl _) (b - j) b (by omega) hb, ?_, ?_, ?_, ?_⟩
      · rw [hN, List.length_map, List.length_range']; omega
      · rw [List.length_map, down_len]; omega
      · rw [hN, hidx j (by omega) (Nat.le_refl _), List.map_append, List.map_append, List.map_map, List.map_map, List.map_map, List.map_map]
        congr 1
        · apply List.map_congr_left
          intro i hi
          rw [List.mem_range'_1] at hi
          exact h.fu i (by omega)
        · apply List.map_congr_left
          intro i hi
          rw [mem_down (by omega)] at hi
          exact h.fd i (by omega) (by omega)
      · rw [List.map_append, List.map_map, List.map_map]
        have e1 := range_join (a := a) (j := j) (b := b) (Nat.le_of_lt hlt) (Nat.le_of_lt hjb)
        have e2 : (down b (b - j)).map ((fun e : Edge => e.2) ∘ fun i => (Pn n0 (i - 1), Wn (i - 1))) = ((down b (b - j)).map fun i => i - 1).map Wn := by rw [List.map_map]; rfl
        have e3 : (List.range' a (j - a)).map ((fun e : Edge => e.2) ∘ fun i => (Pn n0 (i + 1), Wn i)) = (List.range' a (j - a)).map Wn := rfl
        rw [e2, e3, ← List.map_append]
        refine map_perm_reasons ?_
        rw [e1]
        refine List.Perm.append_left _ ?_
        exact down_reasons (by omega)
    · refine ⟨chain, _, [], Pn n0 b, (List.range' a (b - a)).map (fun i => (Pn n0 (i + 1), Wn i)), hp, rfl, .nil (by rw [hN, hmem]; omega), ?_, by simp, ?_, ?_⟩
      · rw [hN, List.length_map, List.length_range']; omega
      · rw [hN, hidx b (by omega) hjb, List.append_nil, List.map_map, List.map_map]
        apply List.map_congr_left
        intro i hi
        rw [List.mem_range'_1] at hi
        exact h.fu i (by omega)
      · rw [List.map_map]
        exact map_perm_reasons (List.Perm.refl _)
  · -- the top stands at a or below
    have hp := h.pathDown (a - j) a (by omega) (by omega)
    generalize hch : (down a (a - j)).map (fun i => (Pn n0 i, Pn n0 (i - 1), Wn (i - 1))) = chain at hp
    have hN : chain.map (·.1) = (down a (a - j)).map (Pn n0) := by rw [← hch, List.map_map]; rfl
    have hmem : ∀ i, Pn n0 i ∈ chain.map (·.1) ++ [Pn n0 j] ↔ j ≤ i ∧ i ≤ a := fun i => by
      rw [hN, List.mem_append, List.mem_map, List.mem_singleton]
      constructor
      · rintro (⟨i', hi, e⟩ | e)
        · have := Pn_inj e
          subst this
          rw [mem_down (by omega)] at hi; omega
        · have := Pn_inj e
          omega
      · rintro ⟨h1, h2⟩
        rcases Nat.lt_or_ge j i with q | q
        · exact .inl ⟨i, (mem_down (by omega)).mpr (by omega), rfl⟩
        · have : i = j := by omega
          subst this; exact .inr rfl
    have hidx : (chain.map (·.1) ++ [Pn n0 j]).idxOf (Pn n0 a) = 0 := by
      rw [hN]
      cases q : a - j with
      | zero =>
        have : a = j := by omega
        subst this
        simp [down]
      | succ m => simp [down]
    refine ⟨chain, _, _, Pn n0 a, (down b (b - a)).map (fun i => (Pn n0 (i - 1), Wn (i - 1))), hp, rfl, h.back (e := a) (N := chain.map (·.1) ++ [Pn n0 j]) ((hmem a).mpr (by omega)) (fun i h1 h2 => by rw [hmem]; omega) hge (b - a) b (by omega) hb, ?_, ?_, ?_, ?_⟩
    · rw [hN, List.length_append, List.length_map, down_len]; simp; omega
    · rw [List.length_map, down_len]; omega
    · rw [hidx, List.take_zero, List.nil_append, List.map_map, List.map_map]
      apply List.map_congr_left
      intro i hi
      rw [mem_down (by omega)] at hi
      exact h.fd i (by omega) (by omega)
    · rw [List.map_map]
      have e2 : (down b (b - a)).map ((fun e : Edge => e.2) ∘ fun i => (Pn n0 (i - 1), Wn (i - 1))) = ((down b (b - a)).map fun i => i - 1).map Wn := by rw [List.map_map]; rfl
      rw [e2]
      refine map_perm_reasons ?_
      exact down_reasons (by omega)
/-- two rising lists of the same things are one -/
theorem sorted_unique : ∀ {l m : List Int}, l.Perm m → l.Pairwise (· ≤ ·) → m.Pairwise (· ≤ ·) → l = m
  | [], m, h, _, _ => (List.Perm.eq_nil h.symm).symm
  | a :: l, [], h, _, _ => nomatch (List.Perm.eq_nil h)
  | a :: l, b :: m, h, h1, h2 => by
    have e : a = b := by
      have h3 := List.pairwise_cons.mp h1
      have h4 := List.pairwise_cons.mp h2
      have q1 : b ∈ a :: l := h.mem_iff.mpr (.head _)
      have q2 : a ∈ b :: m := h.mem_iff.mp (.head _)
      rcases List.mem_cons.mp q1 with q1 | q1
      · exact q1.symm
      · rcases List.mem_cons.mp q2 with q2 | q2
        · exact q2
        · exact Int.le_antisymm (h3.1 _ q1) (h4.1 _ q2)
    subst e
    rw [sorted_unique (h.cons_inv) (List.pairwise_cons.mp h1).2 (List.pairwise_cons.mp h2).2]
theorem range_rising (a m : Nat) : ((List.range' a m).map fun i : Nat => (i : Int)).Pairwise (· ≤ ·) := by
  rw [List.pairwise_map]
  refine (List.pairwise_lt_range' (s := a) (n := m) (step := 1) (by decide)).imp fun h => ?_
  omega
end

/-! part W10 -/
section
variable {G : Gx} {A : Around} {env : Env} {m : Str → Option AV} {R : Cells} {QM : (Str → Option AV) → Cells → Prop}
theorem Asg.tupL {elts : List Expr} {k : Nat} {pos : Pos} {vs : List AV} {T : Addr} (hh : A.handled = none) (hm : (T, AO.list vs) ∈ R) (hn : (assignEach elts env).length = vs.length) (hstar : (assignEach elts env).findIdx? (·.1) = none)
    (h : AsgL G A env m R ((assignEach elts env).map (·.2)) vs QM) : Asg G A env m R (assign (.Tuple elts k pos) env) (.ref T) QM := fun s u st r => by
  cases r with
  | ref _ =>
    obtain ⟨us, n, e, hl, rs⟩ := atL st (.tail _ hm)
    rw [arm_assign_Tuple]
    refine wpAny_bind (wpAny_standAt ?_)
    unfold unpack
    rw [hstar, hn, ← rs.length]
    refine wpAny_bind (wpAny_holding ?_)
    have hsz : us.length = us.toArray.size := by simp
    rw [hsz]
    refine kun_itemsOf hh hl fun h' hs' => ?_
    obtain ⟨q1, q2⟩ := Sat.ext st s.toks hs' (Sat.fresh st) (Sat.baseFresh st) (fun vs n e => by rw [size_none] at e; cases e)
    exact wpAny_mono (h _ _ q1 (rs.mono q2)) (fun _ _ ⟨m', R', st₂, tk₂, q⟩ => ⟨m', R', st₂, q2.trans tk₂, q⟩) fun _ _ x => x
theorem Op2.lessR {α β : Type} {R R' : Cells} {Rl : Heap → α → β → Prop} {f : Value → Value → Sem α} {a b : AV} {Q : β → Cells → Prop} (l : Less R R') (h : Op2 G A ((env.locals, .ns m) :: R') Rl f a b (Lc env m Q)) : Op2 G A ((env.locals, .ns m) :: R) Rl f a b (Lc env m Q) :=
  fun s u v st ra rb => h s u v (st.less (less_cons l)) ra rb
theorem OpB.lessR {R R' : Cells} {v : Value} {as : List AV} {Q : AV → Cells → Prop} (l : Less R R') (h : OpB G A env m R' v as Q) : OpB G A env m R v as Q := fun s us st r => h s us (st.less (less_cons l)) r
theorem less_comm (X Y Z : Cells) : Less (X ++ (Y ++ Z)) (Y ++ (X ++ Z)) := ⟨[], by rw [List.append_nil, ← List.append_assoc, ← List.append_assoc]; exact List.Perm.append_right _ List.perm_append_comm⟩
theorem less_all (R : Cells) : Less R [] := ⟨R, List.Perm.refl _⟩
end
theorem IsBank.head {B : Addr} {n j : Nat} {FP : Cells} (h : IsBank B n j FP) : ∃ dB mm k, (B, AO.raw (instObj 571 dB)) ∈ FP ∧ (dB, AO.inst mm k) ∈ FP ∧ mm "fresh_const" = none := by
  obtain ⟨dB, mm, k, FN, FA, FR, TO, TA, TS, TD, NU, fns, fas, frs, ops, args, sorts, datas, keys, rfl, km, bm, _⟩ := h
  exact ⟨dB, mm, k, by walk_at "mem", by walk_at "mem", bm.fc⟩
theorem str_len (i : Nat) : (Str.ofString (toString (i : Int))).length ≤ i + 2 := by
  have := PyProof.Rows.len_str_of_int (i : Int)
  omega
section
variable {w : World} {base : Heap} {s₀ : Shared}
theorem freshTurn (ok : Ok (GG w base s₀)) {A : Around} (rm : Room A 2) {cenv : Nat → Env} {m : Str → Option AV} {L B cB : Addr} {n0 j0 N : Nat} {rest : Cells} {pre : Str} {p1 p2 p3 p4 p5 p6 p7 p8 p9 : Pos} {kk : Nat}
    (hN : n0 + N < 800) (hj : j0 + N < 800) (hc : (cB, AO.cell (some (.ref B))) ∈ rest) (hpre : pre.length ≤ 10)
    (e1 : ∀ C, (cenv C).scope.kind = .function) (e2 : ∀ C, (cenv C).kindOf "bank" = some .cell) (e3 : ∀ C, (cenv C).cells.lookup ("bank" : Str) = some cB) (e4 : ∀ C, (cenv C).kindOf "k" = some .local) (e5 : ∀ C, (cenv C).kindOf "str" = some .globalImplicit)
    (e6 : ∀ C, (cenv C).kindOf "INT" = some .globalImplicit) (e7 : ∀ C, (cenv C).globals = mainGlobals) (e8 : ∀ C, (cenv C).builtins = builtinsNs) (hline : (p2.endLine == p9.line) = true) :
    CompTurn (GG w base s₀) A cenv "k" (.Call (.Attribute (.Name "bank" p1) "fresh_const" p2) [.BinOp (.Constant (.str pre) kk p3) .Add (.Call (.Name "str" p4) [.Name "k" p5] [] p6) p7, .Name "INT" p8] [] p9) (.range N) m L
      fun i ys R => ys = (nums n0 i).map .int ∧ ∃ FPb, IsBank B (n0 + i) (j0 + i) FPb ∧ R = FPb ++ rest := by
  rintro i y ys R hv ⟨rfl, FPb, hb, rfl⟩
  have hi := Src.lt hv
  simp only [Src.len] at hi
  simp only [Src.val, if_pos hi, Option.some.injEq] at hv
  subst hv
  refine ⟨trivial, fun C D I mc hmc => ?_⟩
  obtain ⟨dB, mm, k, hB, hdB, hfc⟩ := hb.head
  refine Ev.own ok ?_ (hline := hline)
  refine Ev.cel (e3 C) (.tail _ (.tail _ (.tail _ (List.mem_append_right _ hc)))) ?_ (hk := e1 C) (hx := e2 C)
  refine ⟨_, _, _, _, _, _, rfl, .tail _ (.tail _ (.tail _ (List.mem_append_left _ hB))), .tail _ (.tail _ (.tail _ (List.mem_append_left _ hdB))), hfc, by rfl, by rfl, by rfl, by rfl, ?_⟩
  refine Evs.cons (Ev.bin (Ev.cstr ?_))
  refine Ev.call ok (Ev.blt ok (by rfl) bStr (by decide) ⟨Kept.con, ?_⟩ (hk := e1 C) (hx := e5 C) (hg := e7 C) (hb := e8 C))
  refine Evs.cons (Ev.loc hmc ?_ (hk := e1 C) (hx := e4 C))
  refine Evs.nil ?_
  refine OpC.con (OpB.str (by omega) ?_)
  refine Op2.addS ?_ (by have := str_len i; rw [sizeLine_eq]; omega)
  refine Evs.cons (Ev.glob ok (x := "INT") (by rfl) (fun h => Rep.int _ _) ?_ (hk := e1 C) (hx := e6 C) (hg := e7 C))
  refine Evs.nil ?_
  refine OpC.fn (freshFn ok hb (by omega) (by omega)) rm (F₀ := [(D, .list ((nums n0 i).map .int)), (I, (Src.range N).ao (i + 1)), (L, .ns m)] ++ rest) (less_comm [_, _, _] FPb rest) ?_
  rintro _ FP' ⟨rfl, hb'⟩
  exact ⟨FP' ++ rest, less_comm FP' [_, _, _] rest, by rw [nums_snoc, List.map_append]; rfl, FP', hb', rfl⟩
end

/-! part W11c -/
abbrev lineR (LN L H B U C : Addr) (n0 N : Nat) (cells : List Int) (F : Cells) (at' : Nat) : Cells := (LN, AO.list ((nums n0 N).map .int)) :: (L + 2, AO.cell (some (.ref H))) :: (L + 1, AO.cell (some (.ref B))) :: (urnC U C cells at' ++ F)
theorem take_snoc' {α : Type} {l : List α} {i : Nat} {c : α} (h : l[i]? = some c) : l.take (i + 1) = l.take i ++ [c] := by simp [List.take_add_one, h]
section
variable {w : World} {base : Heap} {s₀ : Shared}
theorem pair_sorted {v1 v2 : Nat} {l : List Int} (hp : l.Perm [(v1 : Int), (v2 : Int)]) (hs : l.Pairwise (· ≤ ·)) : ∃ a b : Nat, l = [(a : Int), (b : Int)] ∧ a ≤ b ∧ (a = v1 ∨ a = v2) ∧ (b = v1 ∨ b = v2) := by
  have hl := hp.length_eq
  match l, hl with
  | [x, y], _ =>
    have hx : x ∈ [(v1 : Int), (v2 : Int)] := hp.mem_iff.mp (by simp)
    have hy : y ∈ [(v1 : Int), (v2 : Int)] := hp.mem_iff.mp (by simp)
    have hxy : x ≤ y := by simpa using hs
    simp only [List.mem_cons, List.not_mem_nil, or_false] at hx hy
    refine ⟨x.toNat, y.toNat, ?_, by omega, by omega, by omega⟩
    congr 1
    · omega
    · congr 1; omega
set_option maxHeartbeats 8000000 in
theorem lineTold (ok : Ok (GG w base s₀)) {A : Around} {L LN H dx UP TR S T P B U C : Addr} {mm m : Str → Option AV} {k n0 N at' a b : Nat} {F : Cells} {cells : List Int} {up : List (Int × Edge)} {trl : List AV} {ties : List Tie} {top : Int} (hm : HM mm UP TR) (lg : LineGame n0 (N - 1) up ties top)
    (hnl : (nums n0 N).length = N) (hN2 : 12 ≤ N ∧ N < 40) (hab : a ≤ b) (hb : b < N) (rm : Room A 3) (m2 : m "line" = some (.ref LN)) (m4 : m "low" = some (.int a)) (m5 : m "high" = some (.int b)) :
    Exs (GG w base s₀) A (envOfC (Str.ofString "_law_is_line_right") flawislineright.2.2 L 615 (.ref 614)) m (houseC H dx mm k UP TR up trl ++ (stC S T P ties [top] ++ lineR LN L H B U C n0 N cells F at')) (flawislineright.2.1.drop 6)
      (fun fl m' R' => ∃ FP', Less R' (FP' ++ F) ∧ (match fl with | .ret v => v | .next => .none) = .bool true) := by
  have hh := rm.handled
  have hu := rm.u
  have hnget : ∀ i, i < N → ((nums n0 N).map AV.int)[i]? = some (.int (Pn n0 i)) := fun i hi => by simp [nums, hi]
  have hm' := hm
  obtain ⟨h1, h2, h3, h4, h5, h6⟩ := hm'
  obtain ⟨j, hj, hjt, hsh1, hsh2, hsh3⟩ := lg.shape
  obtain ⟨chain, NN, back, e, es, q1, q2, q3, q4, q5, q6, q7⟩ := Shape.between (f := dget up) (n0 := n0) (k := N - 1) (j := j) ⟨hsh1, hsh2, hsh3⟩ hj hab (by omega)
  have hnd : NN.Nodup := by rw [q2]; exact q1.nodup lg.game.good
  generalize hch : NN.take (NN.idxOf e) ++ back = children at q6
  have hcl : children.length = es.length := by have := congrArg List.length q6; simpa using this
  have hesl : es.length = b - a := by have := q7.length_eq; simpa using this
  with_unfolding_all refine Exs.cons ?_
  refine Ex.lcomp hh (cl := [("house", L + 2)]) (by rfl) ?_
  refine IterTo.list ?_
  refine Ev.own ok ?_
  repeat walk_at "st"
  walk_at "own"
  repeat walk_at "st"
  refine Op2.subL (x := .int (Pn n0 a)) (by walk_at "mem") (by omega) (by omega) (hnget a (by omega)) ?_
  repeat walk_at "st"
  refine Op2.subL (x := .int (Pn n0 b)) (by walk_at "mem") (by omega) (by omega) (hnget b (by omega)) ?_
  repeat walk_at "st"
  refine OpC.fn (betweenFn ok hm q1 q2 hnd q3 (by omega) (by omega)) (rm.le (by decide)) (by walk_at "less") ?_
  rintro _ _ ⟨E, rfl, rfl⟩
  rw [hch]
  refine ⟨E, _, rfl, by show (children.map AV.int).length < 2 ^ 20; rw [List.length_map]; omega, .head _,
    fun i ys R => ys = ((es.take i).map fun e => AV.int e.2) ∧ i ≤ es.length ∧ R = (E, .list (children.map .int)) :: (houseC H dx mm k UP TR up trl ++ (stC S T P ties [top] ++ lineR LN L H B U C n0 N cells F at')), ?_, ?_, ?_, ?_, ?_⟩
  · exact ⟨rfl, Nat.zero_le _, rfl⟩
  · rintro i ys R ⟨_, _, rfl⟩
    exact .head _
  · rintro i ys R ⟨rfl, hi, _⟩
    rw [List.length_map, List.length_take]; omega
  · rintro i y ys R hv ⟨rfl, hi, rfl⟩
    refine ⟨.head _, fun Cc D I mc hmc => ?_⟩
    have hlt := Src.lt hv
    simp only [Src.len, List.length_map] at hlt
    simp only [Src.val, List.getElem?_map] at hv
    obtain ⟨c, hc, rfl⟩ := Option.map_eq_some_iff.mp hv
    have hes : es[i]? = some es[i] := List.getElem?_eq_getElem (by omega)
    have hup : dget up c = some es[i] := by
      have := congrArg (fun l => l[i]?) q6
      simp only [List.getElem?_map, hc, hes, Option.map_some, Option.some.injEq] at this
      exact this
    refine Ev.sub (Ev.sub (Ev.attr ok ?_))
    refine Ev.cel (c := L + 2) (v := .ref H) (by rfl) (by walk_at "mem") ?_
    walk_at "at"
    refine Ev.loc hmc ?_
    refine Op2.subI (x := edV es[i]) (by walk_at "mem") (by rw [dget_enc, hup]; rfl) ?_
    refine Ev.cint ?_
    refine Op2.subT (k := 1) (by decide) rfl ?_
    refine ⟨_, Less.refl _, ?_, by omega, rfl⟩
    rw [take_snoc' hes, List.map_append]
    rfl
  · rintro D ys R ⟨rfl, hi, rfl⟩
    have e1 : (Src.list E (children.map AV.int)).len = es.length := by show (children.map AV.int).length = _; rw [List.length_map]; exact hcl
    rw [e1, List.take_length]
    have e2 : (es.map fun e => AV.int e.2) = (es.map (·.2)).map AV.int := by rw [List.map_map]; rfl
    rw [e2]
    repeat walk_at "st"
    refine ⟨Kept.con, ?_⟩
    repeat walk_at "st"
    refine OpC.con (OpB.sorted (by walk_at "mem") (by rw [List.length_map]; omega) fun D' l' hp hs => ?_)
    have hl' : l' = (List.range' (100 + a) (b - a)).map fun i : Nat => (i : Int) := sorted_unique (hp.trans q7) hs (range_rising _ _)
    subst hl'
    repeat walk_at "st"
    refine ⟨Kept.con, ?_⟩
    repeat walk_at "st"
    refine ⟨Kept.con, ?_⟩
    repeat walk_at "st"
    refine Op2.add ?_
    repeat walk_at "st"
    refine Op2.add ?_
    repeat walk_at "st"
    refine OpC.con (OpB.range2 fun r t u v => ?_)
    repeat walk_at "st"
    refine OpC.con (OpB.listRange hh (lo := 100 + a) (hi := 100 + b) (by walk_at "mem") (by omega) (by omega) fun D'' => ?_)
    rw [show 100 + b - (100 + a) = b - a by omega]
    refine Op2.eqL (l := (List.range' (100 + a) (b - a)).map fun i : Nat => AV.int i) ?_ (by walk_at "mem") (by simp [AV.flat]) hu ?_
    · rw [List.map_map]; walk_at "mem"
    · exact ⟨[], by show Less _ F; walk_at "less", rfl⟩
end

/-! part W11d -/
section
variable {w : World} {base : Heap} {s₀ : Shared}
set_option maxHeartbeats 8000000 in
theorem lineEnd (ok : Ok (GG w base s₀)) {A : Around} {L LN H dx UP TR S T P B U C : Addr} {mm m : Str → Option AV} {k n0 N at' : Nat} {F : Cells} {cells : List Int} {up : List (Int × Edge)} {trl : List AV} {ties : List Tie} {top : Int} (hm : HM mm UP TR) (lg : LineGame n0 (N - 1) up ties top)
    (hnl : (nums n0 N).length = N) (hN2 : 12 ≤ N ∧ N < 40) (htl : trl.length < 100) (ha : at' < 2 ^ 18 + 100) (hcl : cells.length ≤ 100) (rm : Room A 3) (m1 : m "urn" = some (.ref U)) (m2 : m "line" = some (.ref LN)) (m3 : m "state" = some (.ref S)) :
    Exs (GG w base s₀) A (envOfC (Str.ofString "_law_is_line_right") flawislineright.2.2 L 615 (.ref 614)) m (houseC H dx mm k UP TR up trl ++ (stC S T P ties [top] ++ lineR LN L H B U C n0 N cells F at')) (flawislineright.2.1.drop 3)
      (fun fl m' R' => ∃ FP', Less R' (FP' ++ F) ∧ (match fl with | .ret v => v | .next => .none) = .bool true) := by
  have hh := rm.handled
  have hu := rm.u
  have hnget : ∀ i, i < N → ((nums n0 N).map AV.int)[i]? = some (.int (Pn n0 i)) := fun i hi => by simp [nums, hi]
  have hmemn : ∀ v, v < N → Pn n0 v ∈ nums n0 (N - 1 + 1) := fun v hv => mem_nums.mpr ⟨v, by omega, rfl⟩
  have hm' := hm
  obtain ⟨h1, h2, h3, h4, h5, h6⟩ := hm'
  have g := lg.game
  have hul := g.upl
  have hlen := lg.len
  with_unfolding_all refine Exs.cons ?_
  repeat walk_at "st"
  walk_at "at"
  repeat walk_at "st"
  refine ⟨Kept.ref (by rfl), ?_⟩
  repeat walk_at "st"
  refine OpC.fn (forestFn (S := S) (T := T) (P := P) ok g.good g.nd (by omega) (by omega) (by simp)) (rm.le (by decide)) (by walk_at "less") ?_
  rintro _ _ ⟨D, found, rfl, rfl, hfn, hf⟩
  refine Op2.neD ok (by walk_at "mem") (by walk_at "mem") hu (by rw [denc_length, denc_length]; exact (keys_len_eq hfn g.nd hf).symm) (sameAll g.nd hf) ?_
  refine ⟨false, rfl, ?_⟩
  rw [if_neg (by decide)]
  refine RunF.less (R' := houseC H dx mm k UP TR up trl ++ (stC S T P ties [top] ++ lineR LN L H B U C n0 N cells F at')) (by walk_at "less") ?_
  walk_at "st"
  dsimp only
  walk_at "st"
  refine Ex.forR ok hh (by rfl) ?_
  refine Ev.cint ?_
  refine ⟨3, rfl, by decide, fun i m R => ∃ up top a2, LineGame n0 (N - 1) up ties top ∧ a2 ≤ at' + i ∧ m "urn" = some (.ref U) ∧ m "line" = some (.ref LN) ∧ m "state" = some (.ref S) ∧ R = houseC H dx mm k UP TR up trl ++ (stC S T P ties [top] ++ lineR LN L H B U C n0 N cells F a2),
    ⟨up, top, at', lg, Nat.le_refl _, m1, m2, m3, rfl⟩, ?_, ?_⟩
  · rintro i m R hi ⟨up, top, a2, lg, ha2, m1, m2, m3, rfl⟩ it
    refine Asg.name ?_
    repeat walk_at "st"
    refine ⟨Kept.ref (by rfl), ?_⟩
    repeat walk_at "st"
    refine ⟨Kept.ref (by rfl), ?_⟩
    repeat walk_at "st"
    refine ⟨Kept.con, ?_⟩
    repeat walk_at "st"
    refine OpC.con (OpB.len (by walk_at "mem") (by rw [List.length_map]; omega) ?_)
    rw [List.length_map, hnl]
    repeat walk_at "st"
    refine OpC.fn (drawn (cells := cells) (at_ := a2) (many := N) ok (by omega) hcl (by omega)) (rm.le (by decide)) (by walk_at "less") ?_
    rintro _ _ ⟨v, hv, rfl, rfl⟩
    refine Op2.subL (x := .int (Pn n0 v)) (by walk_at "mem") (by omega) (by omega) (hnget v hv) ?_
    repeat walk_at "st"
    obtain ⟨l, hp, lg', e0⟩ := lg.turn (hmemn v hv)
    refine OpC.fn (madeTopFn (S := S) (T := T) (P := P) (k := k) (trl := trl) ok hm lg.game (hmemn v hv) hp (by omega)) rm (by walk_at "less") ?_
    rintro _ _ ⟨rfl, rfl⟩
    refine ⟨true, rfl, ?_⟩
    rw [if_neg (by decide), e0]
    repeat walk_at "st"
    refine ⟨rfl, houseC H dx mm k UP TR (setAll l (delAll l up)) trl ++ (stC S T P ties [Pn n0 v] ++ lineR LN L H B U C n0 N cells F (a2 + 1)), ?_, _, _, _, lg', by omega, by walk_at "lk", by walk_at "lk", by walk_at "lk", rfl⟩
    walk_at "less"
  · rintro m R ⟨up, top, a2, lg, ha2, m1, m2, m3, rfl⟩
    dsimp only
    walk_at "st"
    refine Ex.unp ?_
    repeat walk_at "st"
    refine ⟨Kept.con, ?_⟩
    repeat walk_at "st"
    refine ⟨Kept.ref (by rfl), ?_⟩
    repeat walk_at "st"
    refine ⟨Kept.con, ?_⟩
    repeat walk_at "st"
    refine OpC.con (OpB.len (by walk_at "mem") (by rw [List.length_map]; omega) ?_)
    rw [List.length_map, hnl]
    repeat walk_at "st"
    refine OpC.fn (drawn (cells := cells) (at_ := a2) (many := N) ok (by omega) hcl (by omega)) (rm.le (by decide)) (by walk_at "less") ?_
    rintro _ _ ⟨v1, hv1, rfl, rfl⟩
    repeat walk_at "st"
    refine ⟨Kept.ref (by rfl), ?_⟩
    repeat walk_at "st"
    refine ⟨Kept.con, ?_⟩
    repeat walk_at "st"
    refine OpC.con (OpB.len (by walk_at "mem") (by rw [List.length_map]; omega) ?_)
    rw [List.length_map, hnl]
    repeat walk_at "st"
    refine OpC.fn (drawn (cells := cells) (at_ := a2 + 1) (many := N) ok (by omega) hcl (by omega)) (rm.le (by decide)) (by walk_at "less") ?_
    rintro _ _ ⟨v2, hv2, rfl, rfl⟩
    repeat walk_at "st"
    refine ⟨by walk_at "sz", fun D => ?_⟩
    repeat walk_at "st"
    refine OpC.con (OpB.sorted (l := [(v1 : Int), (v2 : Int)]) (by walk_at "mem") (by simp) fun D' l' hp hs => ?_)
    obtain ⟨a, b, rfl, hab, ha', hb'⟩ := pair_sorted hp hs
    with_unfolding_all refine Asg.tupL hh (vs := [.int a, .int b]) (by walk_at "mem") (by rfl) (by rfl) ?_
    with_unfolding_all refine AsgL.cons ?_
    with_unfolding_all refine Asg.name ?_
    with_unfolding_all refine AsgL.cons ?_
    with_unfolding_all refine Asg.name ?_
    with_unfolding_all refine AsgL.nil ?_
    dsimp only
    refine RunF.less (R' := houseC H dx mm k UP TR up trl ++ (stC S T P ties [top] ++ lineR LN L H B U C n0 N cells F (a2 + 1 + 1))) (by walk_at "less") ?_
    exact lineTold ok hm lg hnl hN2 hab (by omega) rm (by walk_at "lk") (by walk_at "lk") (by walk_at "lk")
end

/-! part W11b -/
section
variable {w : World} {base : Heap} {s₀ : Shared}
set_option maxHeartbeats 8000000 in
theorem lineLoop (ok : Ok (GG w base s₀)) {A : Around} {L LN H dx UP TR S T P B U C : Addr} {mm m : Str → Option AV} {k n0 N at_ : Nat} {F : Cells} {cells : List Int} (hm : HM mm UP TR) (lg0 : LineGame n0 0 [] [] (Pn n0 0))
    (hnl : (nums n0 N).length = N) (hN2 : 12 ≤ N ∧ N < 40) (hn0 : n0 < 400) (ha : at_ + 1 < 2 ^ 18 + 10) (hcl : cells.length ≤ 100) (rm : Room A 3) (m1 : m "urn" = some (.ref U)) (m2 : m "line" = some (.ref LN)) (m3 : m "state" = some (.ref S)) :
    Exs (GG w base s₀) A (envOfC (Str.ofString "_law_is_line_right") flawislineright.2.2 L 615 (.ref 614)) m (houseC H dx mm k UP TR [] [] ++ (stC S T P [] [Pn n0 0] ++ lineR LN L H B U C n0 N cells F (at_ + 1))) (flawislineright.2.1.drop 2)
      (fun fl m' R' => ∃ FP', Less R' (FP' ++ F) ∧ (match fl with | .ret v => v | .next => .none) = .bool true) := by
  have hh := rm.handled
  have hu := rm.u
  have hnget : ∀ i, i < N → ((nums n0 N).map AV.int)[i]? = some (.int (Pn n0 i)) := fun i hi => by simp [nums, hi]
  have hm' := hm
  obtain ⟨h1, h2, h3, h4, h5, h6⟩ := hm'
  with_unfolding_all refine Exs.cons ?_
  refine Ex.forR ok hh (by rfl) ?_
  repeat walk_at "st"
  refine ⟨Kept.con, ?_⟩
  repeat walk_at "st"
  refine OpC.con (OpB.len (by walk_at "mem") (by rw [List.length_map]; omega) ?_)
  rw [List.length_map, hnl]
  repeat walk_at "st"
  refine Op2.sub ?_
  refine ⟨N - 1, congrArg AV.int (by omega), by omega, fun i m R => ∃ P up trl ties top at', LineGame n0 i up ties top ∧ trl.length ≤ i ∧ at' ≤ at_ + 1 + i ∧ m "urn" = some (.ref U) ∧ m "line" = some (.ref LN) ∧ m "state" = some (.ref S) ∧
      R = houseC H dx mm k UP TR up trl ++ (stC S T P ties [top] ++ lineR LN L H B U C n0 N cells F at'), ⟨P, _, _, _, _, _, lg0, Nat.le_refl _, Nat.le_refl _, m1, m2, m3, rfl⟩, ?_, ?_⟩
  · rintro i m R hi ⟨P, up, trl, ties, top, at', lg, htl, hat, m1, m2, m3, rfl⟩ it
    have g := lg.game
    have hul := g.upl
    have hlen := lg.len
    have hS : at' + 1 ≤ at_ + 1 + (i + 1) := Nat.succ_le_succ hat
    have hI : i < 300 := by omega
    have hT : trl.length < 1000 := by omega
    have hZ : ties.length ≤ 16777216 := by omega
    refine Asg.name ?_
    walk_at "st"
    walk_at "st"
    repeat walk_at "st"
    refine Op2.subL (x := .int (Pn n0 i)) (by walk_at "mem") (by omega) (by omega) (hnget i (by omega)) ?_
    repeat walk_at "st"
    refine Op2.add ?_
    refine Op2.subL (x := .int (Pn n0 (i + 1))) (by walk_at "mem") (by omega) (by omega) (hnget (i + 1) (by omega)) ?_
    repeat walk_at "st"
    refine ⟨by walk_at "sz", _, rfl, rfl, ?_⟩
    walk_at "bnd"
    dsimp only
    repeat walk_at "st"
    refine ⟨Kept.ref (by rfl), ?_⟩
    repeat walk_at "st"
    refine OpC.fn (drawn (cells := cells) (at_ := at') (many := 2) ok (by omega) hcl (by decide)) (rm.le (by decide)) (by walk_at "less") ?_
    rintro _ _ ⟨v, hv, rfl, rfl⟩
    repeat walk_at "st"
    refine Op2.eq ⟨_, rfl, ?_⟩
    by_cases hv0 : v = 0
    · subst hv0
      rw [if_pos (by decide)]
      repeat walk_at "st"
      refine ⟨by walk_at "sz", fun P' => ?_⟩
      repeat walk_at "st"
      refine OpSet.dictS (by walk_at "put") (by walk_at "sz") ?_
      dsimp only
      obtain ⟨l, hp, lg'⟩ := lg.stepA hI
      have hll := hp.len g.good
      walk_at "st"
      walk_at "st"
      walk_at "st"
      refine Ev.own ok ?_
      repeat walk_at "st"
      walk_at "own"
      repeat walk_at "st"
      refine Op2.add ?_
      repeat walk_at "st"
      refine OpC.fn (hangFn (q := Pn n0 (i + 1)) (why := Wn i) (trl := trl) ok hm hp (by first | exact hT | omega) (by first | omega | simp) (by first | exact hp.keys g.good | simp) (by first | exact hT | omega)) (rm.le (by decide)) (by walk_at "less") ?_
      rintro _ _ ⟨rfl, rfl⟩
      dsimp only
      walk_at "st"
      walk_at "st"
      walk_at "append"
      repeat walk_at "st"
      refine Op2.subS (by walk_at "mem") (by rfl) ?_
      refine ⟨Recv.list (by walk_at "mem"), ?_⟩
      repeat walk_at "st"
      refine Op2.add ?_
      repeat walk_at "st"
      refine ⟨by walk_at "sz", ?_⟩
      repeat walk_at "st"
      refine OpB.append (by walk_at "put") (by rw [List.length_map, sizeLine_eq]; exact hZ) ?_
      dsimp only
      repeat walk_at "st"
      refine ⟨rfl, houseC H dx mm k UP TR (dset (setAll l (delAll l up)) (Pn n0 i) (Pn n0 (i + 1), Wn i)) (trl ++ [edgeV (Pn n0 i) top]) ++ (stC S T P' (ties ++ [(Pn n0 i, Pn n0 (i + 1), Wn i)]) [Pn n0 (i + 1)] ++ lineR LN L H B U C n0 N cells F (at' + 1)), ?_, P', _, _, _, _, _, lg', by rw [List.length_append]; exact Nat.succ_le_succ htl, hS, by walk_at "lk", by walk_at "lk", by walk_at "lk", rfl⟩
      simp only [stC, List.map_append, List.map_cons, List.map_nil, tieV]
      walk_at "less"
    · rw [if_neg (by simpa using hv0)]
      obtain ⟨hp, lg'⟩ := lg.stepB hI
      repeat walk_at "st"
      refine ⟨by walk_at "sz", _, rfl, rfl, ?_⟩
      walk_at "bnd"
      dsimp only
      walk_at "st"
      walk_at "st"
      walk_at "st"
      refine Ev.own ok ?_
      repeat walk_at "st"
      walk_at "own"
      repeat walk_at "st"
      refine Op2.add ?_
      repeat walk_at "st"
      refine OpC.fn (hangFn (q := Pn n0 i) (why := Wn i) (trl := trl) ok hm hp (by first | exact hT | omega) (by first | omega | simp) (by first | exact hp.keys g.good | simp) (by first | exact hT | omega)) (rm.le (by decide)) (by walk_at "less") ?_
      rintro _ _ ⟨rfl, rfl⟩
      dsimp only
      walk_at "st"
      walk_at "st"
      walk_at "append"
      repeat walk_at "st"
      refine Op2.subS (by walk_at "mem") (by rfl) ?_
      refine ⟨Recv.list (by walk_at "mem"), ?_⟩
      repeat walk_at "st"
      refine Op2.add ?_
      repeat walk_at "st"
      refine ⟨by walk_at "sz", ?_⟩
      repeat walk_at "st"
      refine OpB.append (by walk_at "put") (by rw [List.length_map, sizeLine_eq]; exact hZ) ?_
      dsimp only
      repeat walk_at "st"
      refine ⟨rfl, houseC H dx mm k UP TR (dset up (Pn n0 (i + 1)) (Pn n0 i, Wn i)) (trl ++ [edgeV (Pn n0 (i + 1)) (Pn n0 (i + 1))]) ++ (stC S T P (ties ++ [(Pn n0 (i + 1), Pn n0 i, Wn i)]) [top] ++ lineR LN L H B U C n0 N cells F (at' + 1)), ?_, P, _, _, _, _, _, lg', by rw [List.length_append]; exact Nat.succ_le_succ htl, hS, by walk_at "lk", by walk_at "lk", by walk_at "lk", rfl⟩
      simp only [stC, List.map_append, List.map_cons, List.map_nil, tieV]
      walk_at "less"
  · rintro m R ⟨P, up, trl, ties, top, at', lg, htl, hat, m1, m2, m3, rfl⟩
    exact lineEnd ok hm lg hnl hN2 (by omega) (by omega) hcl rm m1 m2 m3
end

/-! part W11 -/
section
variable {w : World} {base : Heap} {s₀ : Shared}
set_option maxHeartbeats 8000000 in
theorem lineFn (ok : Ok (GG w base s₀)) {U C B : Addr} {cells : List Int} {at_ n0 j0 : Nat} {FPb : Cells} (hb : IsBank B n0 j0 FPb) (hn0 : n0 < 400) (hj0 : j0 < 400) (ha : at_ < 2 ^ 18) (hcl : cells.length ≤ 100) :
    Fn (GG w base s₀) 4 615 [.ref U, .ref B] (urnC U C cells at_ ++ FPb) fun x FP => x = .bool true := by
  refine Fn.introC ok (by rfl) (by rfl) ["urn", "bank"] (fun us h => by obtain ⟨a, b, rfl⟩ := len2 h; rfl)
    (fun n y hy => by
      rcases List.mem_cons.mp hy with rfl | hy
      · exact .inl rfl
      · rcases List.mem_cons.mp hy with rfl | hy
        · exact .inr ⟨rfl, rfl⟩
        · cases hy) (by decide) ?_
  intro A F L rm
  have hh := rm.handled
  have hu := rm.u
  have m1 : bindLA (envOfC (Str.ofString "_law_is_line_right") flawislineright.2.2 L 615 (.ref 614)).kindOf ((["urn", "bank"] : List Str).zip [.ref U, .ref B]) (fun _ => none) "urn" = some (.ref U) := by rfl
  show Exs _ _ _ _ ((L + 2, AO.cell none) :: (L + 1, AO.cell (some (.ref B))) :: ((urnC U C cells at_ ++ FPb) ++ F)) _ _
  generalize bindLA (envOfC (Str.ofString "_law_is_line_right") flawislineright.2.2 L 615 (.ref 614)).kindOf ((["urn", "bank"] : List Str).zip [.ref U, .ref B]) (fun _ => none) = m at m1 ⊢
  with_unfolding_all refine Exs.cons ?_
  refine Ex.unp ?_
  refine Ev.tuple ?_
  refine Evs.cons ?_
  refine Ev.lcomp hh (cl := [("bank", L + 1)]) (by rfl) ?_
  refine IterTo.range ok (by rfl) ?_
  repeat walk_at "st"
  refine ⟨Kept.ref (by rfl), ?_⟩
  repeat walk_at "st"
  refine OpC.fn (drawn (cells := cells) (at_ := at_) (many := 20) ok (by omega) hcl (by decide)) (rm.le (by decide)) (by walk_at "less") ?_
  rintro _ _ ⟨v, hv, rfl, rfl⟩
  refine Op2.lessR (R' := FPb ++ ((L + 2, AO.cell none) :: (L + 1, AO.cell (some (.ref B))) :: (urnC U C cells (at_ + 1) ++ F))) ?_ ?_
  · exact (less_comm [_, _, _, _] FPb F).trans ⟨[], by rw [List.append_nil]; exact List.Perm.append_left _ ((List.perm_append_comm (l₁ := [_, _]) (l₂ := [_, _])).append_right F)⟩
  refine Op2.add ?_
  refine ⟨12 + v, by simp, by omega, by show 12 + v < 2 ^ 20; omega, trivial, _, ⟨rfl, FPb, hb, rfl⟩, fun _ _ _ _ => trivial, fun i ys R h => by rw [h.1, List.length_map, nums_len],
    freshTurn ok (rm.le (by decide)) (by omega) (by omega) (.tail _ (.head _)) (by decide) (fun _ => rfl) (fun _ => rfl) (fun _ => rfl) (fun _ => rfl) (fun _ => rfl) (fun _ => rfl) (fun _ => rfl) (fun _ => rfl) rfl, ?_⟩
  rintro LN ys R ⟨rfl, FPb', hb', rfl⟩
  show Evs _ _ _ _ ((LN, AO.list ((nums n0 (12 + v)).map .int)) :: (FPb' ++ _)) _ _
  refine RunE.less (R' := (LN, AO.list ((nums n0 (12 + v)).map .int)) :: (L + 2, AO.cell none) :: (L + 1, AO.cell (some (.ref B))) :: (urnC U C cells (at_ + 1) ++ F)) (less_cons ⟨FPb', List.perm_append_comm⟩) ?_
  generalize hN : 12 + v = N
  repeat walk_at "st"
  refine ⟨Kept.ref (by rfl), ?_⟩
  repeat walk_at "st"
  refine OpC.new ok (FP := []) (by rfl) (by rfl) (by rfl) (fun x dx => houseInit ok) (rm.le (by decide)) (Less.refl _) ?_
  rintro H dx _ _ ⟨hv', mm, k, UP, TR, hm, rfl⟩
  refine ⟨hv', ?_⟩
  repeat walk_at "st"
  refine ⟨by walk_at "sz", ?_⟩
  with_unfolding_all refine Asg.tup hh (by rfl) (by rfl) ?_
  with_unfolding_all refine AsgL.cons ?_
  with_unfolding_all refine Asg.name ?_
  with_unfolding_all refine AsgL.cons ?_
  with_unfolding_all refine Asg.cel (c := L + 2) (v₀ := none) (by rfl) (by walk_at "put") ?_
  with_unfolding_all refine AsgL.nil ?_
  dsimp only
  have hnget : ∀ i, i < N → ((nums n0 N).map AV.int)[i]? = some (.int (Pn n0 i)) := fun i hi => by simp [nums, hi]
  have hN2 : 12 ≤ N ∧ N < 40 := by omega
  have hnl := nums_len n0 N
  walk_at "st"
  walk_at "st"
  refine Ev.dictS2 (by decide) fun S => ?_
  repeat walk_at "st"
  refine ⟨by walk_at "sz", fun T => ?_⟩
  repeat walk_at "st"
  refine Op2.subL (x := .int (Pn n0 0)) (by walk_at "mem") (by decide) (by decide) (hnget 0 (by omega)) ?_
  repeat walk_at "st"
  refine ⟨by walk_at "sz", fun P => ?_⟩
  refine ⟨_, by walk_at "put", ?_⟩
  dsimp only
  refine RunF.less (R' := houseC H dx mm k UP TR [] [] ++ (stC S T P [] [Pn n0 0] ++ lineR LN L H B U C n0 N cells F (at_ + 1))) (by walk_at "less") ?_
  exact lineLoop ok hm (LineGame.start n0) hnl hN2 hn0 (by omega) hcl rm (by walk_at "lk") (by walk_at "lk") (by walk_at "lk")
end

/-! part W12 -/
section
variable {VL : List Int} {up : List (Int × Edge)} {ties : List Tie} {tops : List Int}
theorem Game.undo (g : Game VL up ties tops) {t q why r : Int} {l : List Ed3} (ht : t ∈ VL) (h : Path (dget up) t l r) :
    ∃ c, Path (dget (ddel (dset (setAll l (delAll l up)) t (q, why)) t)) r c t ∧ (c.map (·.1)).Nodup ∧ c.length ≤ (ddel (dset (setAll l (delAll l up)) t (q, why)) t).length ∧ (ddel (dset (setAll l (delAll l up)) t (q, why)) t).length < 400 ∧
      Game VL (setAll c (delAll c (ddel (dset (setAll l (delAll l up)) t (q, why)) t))) ties tops := by
  obtain ⟨hr, htr⟩ := top_of_path g.good ht h
  have g1 := g.turn ht h
  have hf : ∀ x, dget (ddel (dset (setAll l (delAll l up)) t (q, why)) t) x = dget (setAll l (delAll l up)) x := fun x => by
    rw [dget_ddel, dget_dset]
    by_cases e : x = t
    · subst e
      rw [if_pos rfl, dget_turn g.good h, tm_head g.good h]
    · rw [if_neg e, if_neg e]
  have g2 : Game VL (ddel (dset (setAll l (delAll l up)) t (q, why)) t) ties (tops.set (tops.idxOf r) t) := ⟨g1.good.fcongr hf, ddel_nodup (dset_nodup g1.nd _ _) _, g1.vl, g1.tl⟩
  obtain ⟨c, hc, _⟩ := Path.back g.good h
  have e2 : tm (dget up) l = dget (ddel (dset (setAll l (delAll l up)) t (q, why)) t) := funext fun x => ((hf x).trans (dget_turn g.good h x)).symm
  rw [e2] at hc
  have hVr : r ∈ VL := g.good.topV _ hr
  have g3 := g2.turn hVr hc
  obtain ⟨s1, s2⟩ := set_idxOf g.good.nodup hr htr
  obtain ⟨hr', htr'⟩ := top_of_path g2.good hVr hc
  obtain ⟨s3, s4⟩ := set_idxOf s1 hr' htr'
  refine ⟨c, hc, hc.keys g2.good, hc.len g2.good, g2.upl, ⟨g3.good.congr g.good.nodup fun x => ?_, g3.nd, g3.vl, g3.tl⟩⟩
  rw [s4, s2]
  constructor
  · intro hx
    by_cases e : x = r
    · exact .inr e
    · refine .inl ⟨.inl ⟨hx, e⟩, fun e2 => e (e2.trans (htr (e2 ▸ hx)))⟩
  · rintro (⟨h1 | h1, h2⟩ | h1)
    · exact h1.1
    · exact absurd h1 h2
    · rw [h1]; exact hr
theorem Game.start (M : Nat) (hM : M < 300) : Game (nums 3 M) [] [] (nums 3 M) := by
  have nd : (nums 3 M).Nodup := by
    unfold nums
    refine List.Pairwise.map _ (R := fun a b : Nat => a ≠ b) (fun a b h => by omega) (List.nodup_range)
  have gd : Good (· ∈ nums 3 M) (dget ([] : List (Int × Edge))) [] (nums 3 M) :=
    { up_tie := fun k p w h => nomatch h
      tie_up := fun a b w h => nomatch h
      rank := ⟨fun _ => 0, fun k p w h => nomatch h⟩
      top_none := fun t ht => rfl
      none_top := fun x hx _ => hx
      closed := fun k p w h => nomatch h
      topV := fun t ht => ht
      nodup := nd }
  exact ⟨gd, List.nodup_nil, by rw [nums_len]; omega, by decide⟩
end
abbrev lawR (SM L B U C : Addr) (M : Nat) (cells : List Int) (FPb : Cells) (F : Cells) (at' : Nat) : Cells :=
  (SM, AO.list ((nums 3 M).map .int)) :: (L + 1, AO.cell (some (.ref B))) :: (urnC U C cells at' ++ (FPb ++ F))
section
variable {w : World} {base : Heap} {s₀ : Shared}
set_option maxHeartbeats 16000000 in
theorem lawLoop (ok : Ok (GG w base s₀)) {A : Around} {L SM H dx UP TR S T P B U C : Addr} {mm m : Str → Option AV} {k VM at_ jb : Nat} {F FPb : Cells} {cells : List Int} (hm : HM mm UP TR) (hb : IsBank B (3 + VM) jb FPb) (hjb : jb < 400)
    (hM2 : 4 ≤ VM ∧ VM < 10) (ha : at_ < 1000) (hcl : cells.length ≤ 100) (rm : Room A 4) (m1 : m "urn" = some (.ref U)) (m2 : m "some" = some (.ref SM)) (m3 : m "house" = some (.ref H)) (m4 : m "state" = some (.ref S)) :
    Exs (GG w base s₀) A (envOfC (Str.ofString "law") flaw.2.2 L 620 (.ref 619)) m (houseC H dx mm k UP TR [] [] ++ (stC S T P [] (nums 3 VM) ++ lawR SM L B U C VM cells FPb F at_)) (flaw.2.1.drop 3)
      (fun fl m' R' => ∃ FP', Less R' (FP' ++ F) ∧ (match fl with | .ret v => v | .next => .none) = .bool true ∧ FP' = []) := by
  have hh := rm.handled
  have hu := rm.u
  have hnget : ∀ i, i < VM → ((nums 3 VM).map AV.int)[i]? = some (.int (Pn 3 i)) := fun i hi => by simp [nums, hi]
  have hmemn : ∀ v, v < VM → Pn 3 v ∈ nums 3 VM := fun v hv => mem_nums.mpr ⟨v, hv, rfl⟩
  have hnl := nums_len 3 VM
  have hm' := hm
  obtain ⟨h1, h2, h3, h4, h5, h6⟩ := hm'
  with_unfolding_all refine Exs.cons ?_
  refine Ex.forR ok hh (by rfl) ?_
  repeat walk_at "st"
  refine ⟨Kept.ref (by rfl), ?_⟩
  repeat walk_at "st"
  refine OpC.fn (drawn (cells := cells) (at_ := at_) (many := 8) ok (by omega) hcl (by decide)) (rm.le (by decide)) (by walk_at "less") ?_
  rintro _ _ ⟨v0, hv0, rfl, rfl⟩
  refine Op2.lessR (R' := houseC H dx mm k UP TR [] [] ++ (stC S T P [] (nums 3 VM) ++ lawR SM L B U C VM cells FPb F (at_ + 1))) (by walk_at "less") ?_
  refine Op2.add ?_
  refine ⟨3 + v0, by simp, by omega, fun i m R => ∃ S T P up ties tops trl at', Game (nums 3 VM) up ties tops ∧ ties.length ≤ i ∧ trl.length ≤ i ∧ at' ≤ at_ + 1 + 3 * i ∧ m "urn" = some (.ref U) ∧ m "some" = some (.ref SM) ∧ m "house" = some (.ref H) ∧ m "state" = some (.ref S) ∧
      R = houseC H dx mm k UP TR up trl ++ (stC S T P ties tops ++ lawR SM L B U C VM cells FPb F at'), ⟨S, T, P, _, _, _, _, _, Game.start VM (by omega), Nat.le_refl _, Nat.le_refl _, Nat.le_refl _, m1, m2, m3, m4, rfl⟩, ?_, ?_⟩
  · clear m1 m2 m3 m4
    rintro i m R hi ⟨S, T, P, up, ties, tops, trl, at', g, htl, htr, hat, m1, m2, m3, m4, rfl⟩ it
    have hul := g.upl
    have hpl := g.topl
    have hA : at' + 1 + 1 < 2 ^ 19 := by omega
    have hS : at' + 3 ≤ at_ + 1 + 3 * (i + 1) := Nat.add_le_add_right hat 3
    have hT : trl.length < 400 := by omega
    have hE : ties.length + 1 < 400 := by omega
    have hM1 : 0 < VM := by omega
    refine Asg.name ?_
    repeat walk_at "st"
    refine ⟨Kept.ref (by rfl), ?_⟩
    repeat walk_at "st"
    refine OpC.fn (drawn (cells := cells) (at_ := at') (many := 4) ok (Nat.lt_of_le_of_lt (Nat.le_add_right _ 2) hA) hcl (by decide)) (rm.le (by decide)) (by walk_at "less") ?_
    rintro _ _ ⟨way, hway, rfl, rfl⟩
    repeat walk_at "st"
    refine ⟨Kept.ref (by rfl), ?_⟩
    repeat walk_at "st"
    refine ⟨Kept.con, ?_⟩
    repeat walk_at "st"
    refine OpC.con (OpB.len (by walk_at "mem") (by rw [List.length_map]; omega) ?_)
    rw [List.length_map, hnl]
    repeat walk_at "st"
    refine OpC.fn (drawn (cells := cells) (at_ := at' + 1) (many := VM) ok (Nat.lt_of_succ_lt hA) hcl hM1) (rm.le (by decide)) (by walk_at "less") ?_
    rintro _ _ ⟨v1, hv1, rfl, rfl⟩
    refine Op2.subL (x := .int (Pn 3 v1)) (by walk_at "mem") (by omega) (by omega) (hnget v1 hv1) ?_
    repeat walk_at "st"
    refine ⟨Kept.ref (by rfl), ?_⟩
    repeat walk_at "st"
    refine ⟨Kept.con, ?_⟩
    repeat walk_at "st"
    refine OpC.con (OpB.len (by walk_at "mem") (by rw [List.length_map]; omega) ?_)
    rw [List.length_map, hnl]
    repeat walk_at "st"
    refine OpC.fn (drawn (cells := cells) (at_ := at' + 1 + 1) (many := VM) ok hA hcl hM1) (rm.le (by decide)) (by walk_at "less") ?_
    rintro _ _ ⟨v2, hv2, rfl, rfl⟩
    refine Op2.subL (x := .int (Pn 3 v2)) (by walk_at "mem") (by omega) (by omega) (hnget v2 hv2) ?_
    repeat walk_at "st"
    refine ⟨by walk_at "sz", _, rfl, rfl, ?_⟩
    walk_at "bnd"
    dsimp only
    have hV1 := hmemn v1 hv1
    have hV2 := hmemn v2 hv2
    obtain ⟨l1, r1, hp1, hr1⟩ := Path.exists g.good hV1
    obtain ⟨l2, r2, hp2, hr2⟩ := Path.exists g.good hV2
    repeat walk_at "st"
    refine Op2.lt ⟨_, rfl, ?_⟩
    by_cases hw : way < 2
    · rw [if_pos (by simp; omega)]
      repeat walk_at "st"
      refine ⟨Kept.ref (by rfl), ?_⟩
      repeat walk_at "st"
      refine OpC.fn (topFn (S := S) (T := T) (P := P) ok g hp1) (rm.le (by decide)) (by walk_at "less") ?_
      rintro _ _ ⟨rfl, rfl⟩
      repeat walk_at "st"
      refine ⟨Kept.ref (by rfl), ?_⟩
      repeat walk_at "st"
      refine OpC.fn (topFn (S := S) (T := T) (P := P) ok g hp2) (rm.le (by decide)) (by walk_at "less") ?_
      rintro _ _ ⟨rfl, rfl⟩
      refine Op2.ne ⟨_, rfl, ?_⟩
      by_cases hne : r1 = r2
      · rw [if_neg (by simp [hne]), if_neg (by decide)]
        repeat walk_at "st"
        refine ⟨Kept.ref (by rfl), ?_⟩
        repeat walk_at "st"
        refine OpC.fn (madeTopFn (H := H) (dx := dx) (U := UP) (TR := TR) (S := S) (T := T) (P := P) (mm := mm) (k := k) (trl := trl) ok hm g hV1 hp1 hT) (rm.le (by decide)) (by walk_at "less") ?_
        rintro _ _ ⟨rfl, rfl⟩
        refine ⟨true, rfl, ?_⟩
        rw [if_neg (by decide)]
        repeat walk_at "st"
        refine ⟨rfl, houseC H dx mm k UP TR (setAll l1 (delAll l1 up)) trl ++ (stC S T P ties (tops.set (tops.idxOf r1) (Pn 3 v1)) ++ lawR SM L B U C VM cells FPb F (at' + 3)), ?_, S, T, P, _, _, _, _, _, g.turn hV1 hp1, Nat.le_succ_of_le htl, Nat.le_succ_of_le htr, hS, by walk_at "lk", by walk_at "lk", by walk_at "lk", by walk_at "lk", rfl⟩
        walk_at "less"
      · rw [if_pos (by simp [hne])]
        walk_at "st"
        rw [if_pos rfl]
        repeat walk_at "st"
        refine Ev.dictS2 (by decide) fun KS => ?_
        repeat walk_at "st"
        refine ⟨Kept.con, ?_⟩
        repeat walk_at "st"
        refine Op2.subS (by walk_at "mem") (by rfl) ?_
        repeat walk_at "st"
        refine OpC.con (OpB.list (by walk_at "mem") (by rw [List.length_map]; omega) fun KT => ?_)
        repeat walk_at "st"
        refine ⟨Kept.con, ?_⟩
        repeat walk_at "st"
        refine Op2.subS (by walk_at "mem") (by rfl) ?_
        repeat walk_at "st"
        refine OpC.con (OpB.list (by walk_at "mem") (by rw [List.length_map]; omega) fun KP => ?_)
        refine ⟨_, by walk_at "put", ?_⟩
        dsimp only
        repeat walk_at "st"
        refine ⟨Kept.ref (by rfl), ?_⟩
        repeat walk_at "st"
        refine Op2.add ?_
        repeat walk_at "st"
        have g' := g.hang (why := (i : Int) + 1) hV1 hV2 hp1 hp2 (Ne.symm hne) hE
        have hul2 := g'.upl
        refine OpC.fn (hungFn (H := H) (dx := dx) (U := UP) (TR := TR) (S := S) (T := T) (P := P) (mm := mm) (k := k) (trl := trl) (why := (i : Int) + 1) ok hm g hV1 hV2 hp1 hp2 (Ne.symm hne) hE hT) (rm.le (by decide)) (by walk_at "less") ?_
        rintro _ _ ⟨rfl, rfl⟩
        refine ⟨true, rfl, ?_⟩
        rw [if_neg (by decide)]
        repeat walk_at "st"
        refine Op2.eq ⟨_, rfl, ?_⟩
        by_cases hw1 : way = 1
        · subst hw1
          rw [if_pos (by decide)]
          walk_at "st"
          walk_at "st"
          refine Ev.own ok ?_
          repeat walk_at "st"
          walk_at "own"
          walk_at "st"
          walk_at "pop"
          repeat walk_at "st"
          walk_at "at"
          refine ⟨Recv.list (by walk_at "mem"), ?_⟩
          repeat walk_at "st"
          refine OpB.pop (l := trl) (x := edgeV (Pn 3 v1) r1) (by walk_at "put") (by rw [sizeLine_eq]; omega) ?_
          repeat walk_at "st"
          refine ⟨by walk_at "sz", fun E1 => ?_⟩
          repeat walk_at "st"
          refine ⟨by walk_at "sz", fun E2 => ?_⟩
          repeat walk_at "st"
          obtain ⟨c, hc, hcn, hcl', hul', g3⟩ := g.undo (q := Pn 3 v2) (why := (i : Int) + 1) hV1 hp1
          have hul3 := g3.upl
          refine OpC.fn (undoFn (k := k) (up := dset (setAll l1 (delAll l1 up)) (Pn 3 v1) (Pn 3 v2, (i : Int) + 1)) (e := (Pn 3 v2, (i : Int) + 1)) ok hm (by rw [dget_dset, if_pos rfl]) hc (by omega) (by omega) hcn) (rm.le (by decide)) (by walk_at "less") ?_
          rintro _ _ ⟨rfl, rfl⟩
          dsimp only
          repeat walk_at "st"
          walk_at "at"
          repeat walk_at "st"
          refine ⟨Kept.ref (by rfl), ?_⟩
          repeat walk_at "st"
          refine OpC.fn (forestFn (S := KS) (T := KT) (P := KP) ok g3.good g3.nd (by omega) (by omega) (by omega)) (rm.le (by decide)) (by walk_at "less") ?_
          rintro _ _ ⟨D, found, rfl, rfl, hfn, hf⟩
          refine Op2.neD ok (by walk_at "mem") (by walk_at "mem") hu (by rw [denc_length, denc_length]; exact (keys_len_eq hfn g3.nd hf).symm) (sameAll g3.nd hf) ?_
          refine ⟨false, rfl, ?_⟩
          rw [if_neg (by decide)]
          repeat walk_at "st"
          refine ⟨rfl, houseC H dx mm k UP TR _ trl ++ (stC KS KT KP ties tops ++ lawR SM L B U C VM cells FPb F (at' + 3)), ?_, KS, KT, KP, _, _, _, _, _, g3, Nat.le_succ_of_le htl, Nat.le_succ_of_le htr, hS, by walk_at "lk", by walk_at "lk", by walk_at "lk", by walk_at "lk", rfl⟩
          walk_at "less"
        · rw [if_neg (by simp; omega)]
          repeat walk_at "st"
          refine ⟨rfl, houseC H dx mm k UP TR (dset (setAll l1 (delAll l1 up)) (Pn 3 v1) (Pn 3 v2, (i : Int) + 1)) (trl ++ [edgeV (Pn 3 v1) r1]) ++ (stC S T P (ties ++ [(Pn 3 v1, Pn 3 v2, (i : Int) + 1)]) (tops.eraseIdx (tops.idxOf r1)) ++ lawR SM L B U C VM cells FPb F (at' + 3)), ?_, S, T, P, _, _, _, _, _, g', by rw [List.length_append]; exact Nat.succ_le_succ htl, by rw [List.length_append]; exact Nat.succ_le_succ htr, hS, by walk_at "lk", by walk_at "lk", by walk_at "lk", by walk_at "lk", rfl⟩
          walk_at "less"
    · rw [if_neg (by simp; omega), if_neg (by decide)]
      repeat walk_at "st"
      refine ⟨Kept.ref (by rfl), ?_⟩
      repeat walk_at "st"
      refine OpC.fn (madeTopFn (H := H) (dx := dx) (U := UP) (TR := TR) (S := S) (T := T) (P := P) (mm := mm) (k := k) (trl := trl) ok hm g hV1 hp1 hT) (rm.le (by decide)) (by walk_at "less") ?_
      rintro _ _ ⟨rfl, rfl⟩
      refine ⟨true, rfl, ?_⟩
      rw [if_neg (by decide)]
      repeat walk_at "st"
      refine ⟨rfl, houseC H dx mm k UP TR (setAll l1 (delAll l1 up)) trl ++ (stC S T P ties (tops.set (tops.idxOf r1) (Pn 3 v1)) ++ lawR SM L B U C VM cells FPb F (at' + 3)), ?_, S, T, P, _, _, _, _, _, g.turn hV1 hp1, Nat.le_succ_of_le htl, Nat.le_succ_of_le htr, hS, by walk_at "lk", by walk_at "lk", by walk_at "lk", by walk_at "lk", rfl⟩
      walk_at "less"
  · clear m1 m2 m3 m4
    rintro m R ⟨S, T, P, up, ties, tops, trl, at', g, htl, htr, hat, m1, m2, m3, m4, rfl⟩
    dsimp only
    repeat walk_at "st"
    refine ⟨Kept.ref (by rfl), ?_⟩
    repeat walk_at "st"
    refine OpC.fn (lineFn (C := C) (cells := cells) (at_ := at') ok hb (by omega) hjb (by omega) hcl) rm (F₀ := houseC H dx mm k UP TR up trl ++ (stC S T P ties tops ++ ((SM, AO.list ((nums 3 VM).map .int)) :: (L + 1, AO.cell (some (.ref B))) :: F))) ?_ ?_
    · exact less_comm (houseC H dx mm k UP TR up trl ++ (stC S T P ties tops ++ [(SM, AO.list ((nums 3 VM).map .int)), (L + 1, AO.cell (some (.ref B)))])) (urnC U C cells at' ++ FPb) F
    · rintro _ FP' rfl
      refine ⟨[], ?_, rfl, rfl⟩
      refine Less.trans ⟨FP', List.perm_append_comm⟩ ?_
      show Less _ F
      walk_at "less"
end

/-! part W13 -/
section
variable {G : Gx} {A : Around} {env : Env} {m : Str → Option AV} {R : Cells} {Q : AV → Cells → Prop}
theorem slice_newR {H : Cells} {s : Shared} (st : St G H s) {T : Addr} {us : List Value} {ns : List Int} (hm : G.base.IsList T us.toArray) (hi : IntsAre us ns) {k : Nat} {t : Tok} {value upper : Expr} {p : Pos} {P : Value → Shared → Prop} (hsz : us.length ≤ sizeLine)
    (h : ∀ D s', St G ((D, .list ((ns.take k).map .int)) :: H) s' → TupKeep s.heap s'.heap → P (.ref D) s') :
    wpAny (model G.prog G.w) A (subscriptTail value (.Slice none (some upper) none p) (.ref T) (.ref s.heap.objs.size)) P No { s with heap := s.heap.push { cls := .type "slice", data := .fields #[.none, .int k t, .none] } } := by
  have st₁ := st.push { cls := .type "slice", data := .fields #[.none, .int k t, .none] } s.toks
  have tk : TupKeep s.heap (s.heap.push { cls := .type "slice", data := .fields #[.none, .int k t, .none] }) := TupKeep.push _ _
  obtain ⟨oT, e, hoc, ne, hod⟩ := hm
  have e := st.keep _ _ e
  have hl₁ : (s.heap.push { cls := .type "slice", data := .fields #[.none, .int k t, .none] }).IsList T us.toArray := ⟨_, Heap.get?_push_of_some _ e, hoc, ne, hod⟩
  refine tail_any hl₁.typeIs slot_list_getitem.lookup (wpAny_getItem_list_slice hl₁ (Heap.IsSliceOf.new ..) .none (.int _ _) .none (by simp) ?_ (by rw [List.size_toArray]; exact hsz)) (ops := [.ref s.heap.objs.size, .ref T]) rfl
  rw [slicePick_upto']
  have hr : Reps s.heap (us.take k) ((ns.take k).map .int) := by rw [List.map_take]; exact (of_ints hi).take k
  have st₂ := Sat.newL st₁ (hr.mono tk) s.toks
  exact h _ _ st₂ (tk.trans (TupKeep.push _ _))
theorem Ev.sliceToRaw {value upper : Expr} {p pos : Pos} {T : Addr} {us : List Value} {k : Nat} {ns : List Int} (hm : G.base.IsList T us.toArray) (hi : IntsAre us ns) (hsz : us.length ≤ sizeLine)
    (h : Ev G A env m R value fun v R₁ => v = .ref T ∧ Ev G A env m R₁ upper fun w R₂ => w = .int k ∧ ∀ D, Q (.ref D) ((D, .list ((ns.take k).map .int)) :: R₂)) :
    Ev G A env m R (.Subscript value (.Slice none (some upper) none p) pos) Q := fun s st => by
  refine Subscript_ (wpAny_mono (h s st) ?_ fun _ _ x => x)
  rintro u s₁ ⟨v, R₁, ra, st₁, tk₁, e, h₁⟩
  subst e
  refine wpAny_Slice ?_
  rw [evalPart_none, evalPart_some]
  refine wpAny_pure (wpAny_mono (h₁ s₁ st₁) ?_ fun _ _ x => x)
  rintro u' s₂ ⟨w, R₂, rb, st₂, tk₂, e, h₂⟩
  refine wpAny_pure ?_
  subst e
  cases rb; cases ra
  refine slice_newR st₂ hm hi hsz fun D s' st' tk' => ?_
  exact pst (.ref _) (st'.less less_swap) ((tk₁.trans tk₂).trans tk') (h₂ D)
end
section
variable {w : World} {base : Heap} {s₀ : Shared}
set_option maxHeartbeats 16000000 in
theorem lawFn (ok : Ok (GG w base s₀)) {SC : Addr} {vs : List Value} {ns : List Int} (hSC : base.IsList SC vs.toArray) (hi : IntsAre vs ns) (hl : ns.length ≤ 63) :
    Fn (GG w base s₀) 5 620 [.ref SC] [] fun x FP => x = .bool true ∧ FP = [] := by
  refine Fn.introC ok (by rfl) (by rfl) ["script"] (fun us h => by obtain ⟨a, rfl⟩ := len1 h; rfl)
    (fun n y hy => by
      rcases List.mem_cons.mp hy with rfl | hy
      · exact .inl rfl
      · cases hy) (by decide) ?_
  intro A F L rm
  have hh := rm.handled
  have hu := rm.u
  have hvl : vs.length = ns.length := hi.length
  have m1 : bindLA (envOfC (Str.ofString "law") flaw.2.2 L 620 (.ref 619)).kindOf ((["script"] : List Str).zip [.ref SC]) (fun _ => none) "script" = some (.ref SC) := by rfl
  show Exs _ _ _ _ ((L + 1, AO.cell none) :: ([] ++ F)) _ _
  generalize bindLA (envOfC (Str.ofString "law") flaw.2.2 L 620 (.ref 619)).kindOf ((["script"] : List Str).zip [.ref SC]) (fun _ => none) = m at m1 ⊢
  generalize hcells : ns.take 60 = cells
  have hcl : cells.length ≤ 60 := by rw [← hcells, List.length_take]; omega
  with_unfolding_all refine Exs.cons ?_
  refine Ex.unp ?_
  refine Ev.tuple ?_
  refine Evs.cons ?_
  refine Ev.dictS2 (by decide) fun U => ?_
  refine Ev.lcomp hh (cl := []) (by rfl) ?_
  refine IterTo.list ?_
  refine Ev.sliceToRaw (T := SC) (k := 60) hSC hi (by rw [sizeLine_eq]; omega) ?_
  repeat walk_at "st"
  refine ⟨rfl, ?_⟩
  repeat walk_at "st"
  refine ⟨rfl, fun D0 => ?_⟩
  rw [hcells]
  refine ⟨D0, _, rfl, by show (cells.map AV.int).length < 2 ^ 20; rw [List.length_map]; omega, .head _,
    fun i ys R => ys = (cells.take i).map .int ∧ i ≤ cells.length ∧ R = (D0, .list (cells.map .int)) :: (U, .dictS []) :: (L + 1, AO.cell none) :: F, ⟨rfl, Nat.zero_le _, rfl⟩, ?_, ?_, ?_, ?_⟩
  · rintro i ys R ⟨_, _, rfl⟩
    exact .head _
  · rintro i ys R ⟨rfl, hi, _⟩
    rw [List.length_map, List.length_take]; omega
  · rintro i y ys R hv ⟨rfl, hi, rfl⟩
    refine ⟨.head _, fun Cc D I mc hmc => ?_⟩
    have hlt := Src.lt hv
    simp only [Src.len, List.length_map] at hlt
    simp only [Src.val, List.getElem?_map] at hv
    obtain ⟨c, hc, rfl⟩ := Option.map_eq_some_iff.mp hv
    refine Ev.call ok (Ev.blt ok (by rfl) bInt (by decide) ⟨Kept.con, ?_⟩)
    refine Evs.cons (Ev.loc hmc ?_)
    refine Evs.nil ?_
    refine OpC.con (OpB.int ?_)
    refine ⟨_, Less.refl _, ?_, by omega, rfl⟩
    rw [take_snoc' hc, List.map_append]
    rfl
  · rintro C ys R ⟨rfl, hi, rfl⟩
    have e1 : (Src.list D0 (cells.map AV.int)).len = cells.length := by show (cells.map AV.int).length = _; rw [List.length_map]
    rw [e1, List.take_length]
    repeat walk_at "st"
    refine ⟨_, by walk_at "put", ?_⟩
    repeat walk_at "st"
    refine ⟨Kept.ref (by rfl), ?_⟩
    repeat walk_at "st"
    refine OpC.new ok (FP := []) (by rfl) (by rfl) (by rfl) (fun x dx => bankInit ok) (rm.le (by decide)) (Less.refl _) ?_
    rintro B dB _ FPb ⟨hv', hb⟩
    refine ⟨hv', ?_⟩
    refine RunE.less (R' := (L + 1, AO.cell none) :: (urnC U C cells 0 ++ (FPb ++ F))) ?_ ?_
    · refine (less_comm FPb [(C, AO.list (cells.map .int)), (D0, .list (cells.map .int)), (U, .dictS [("cells", .ref C), ("at", .int 0)]), (L + 1, AO.cell none)] F).trans ?_
      walk_at "less"
    repeat walk_at "st"
    refine ⟨by walk_at "sz", ?_⟩
    with_unfolding_all refine Asg.tup hh (by rfl) (by rfl) ?_
    with_unfolding_all refine AsgL.cons ?_
    with_unfolding_all refine Asg.name ?_
    with_unfolding_all refine AsgL.cons ?_
    with_unfolding_all refine Asg.cel (c := L + 1) (v₀ := none) (by rfl) (by walk_at "put") ?_
    with_unfolding_all refine AsgL.nil ?_
    dsimp only
    walk_at "st"
    refine Ex.lcomp hh (cl := [("bank", L + 1)]) (by rfl) ?_
    refine IterTo.range ok (by rfl) ?_
    repeat walk_at "st"
    refine ⟨Kept.ref (by rfl), ?_⟩
    repeat walk_at "st"
    refine OpC.fn (drawn (cells := cells) (at_ := 0) (many := 6) ok (by omega) (by omega) (by decide)) (rm.le (by decide)) (by walk_at "less") ?_
    rintro _ _ ⟨v, hv, rfl, rfl⟩
    refine Op2.lessR (R' := FPb ++ ((L + 1, AO.cell (some (.ref B))) :: (urnC U C cells (0 + 1) ++ F))) ?_ ?_
    · refine Less.trans ?_ (less_comm [(L + 1, AO.cell (some (.ref B))), (U, .dictS [("cells", .ref C), ("at", .int ((0 + 1 : Nat) : Int))]), (C, .list (cells.map .int))] FPb F)
      show Less _ ((L + 1, AO.cell (some (.ref B))) :: (U, .dictS [("cells", .ref C), ("at", .int ((0 + 1 : Nat) : Int))]) :: (C, .list (cells.map .int)) :: (FPb ++ F))
      walk_at "less"
    refine Op2.add ?_
    refine ⟨4 + v, by simp, by omega, by show 4 + v < 2 ^ 20; omega, trivial, _, ⟨rfl, FPb, hb, rfl⟩, fun _ _ _ _ => trivial, fun i ys R h => by rw [h.1, List.length_map, nums_len],
      freshTurn ok (rm.le (by decide)) (by omega) (by omega) (.head _) (by decide) (fun _ => rfl) (fun _ => rfl) (fun _ => rfl) (fun _ => rfl) (fun _ => rfl) (fun _ => rfl) (fun _ => rfl) (fun _ => rfl) rfl, ?_⟩
    rintro SM ys R ⟨rfl, FPb', hb', rfl⟩
    change IsBank B (3 + (4 + v)) (0 + (4 + v)) FPb' at hb'
    show Exs _ _ _ _ ((SM, AO.list ((nums 3 (4 + v)).map .int)) :: (FPb' ++ _)) _ _
    refine RunF.less (R' := (SM, AO.list ((nums 3 (4 + v)).map .int)) :: (L + 1, AO.cell (some (.ref B))) :: (urnC U C cells (0 + 1) ++ (FPb' ++ F))) ?_ ?_
    · refine less_cons ?_
      exact less_comm FPb' [(L + 1, AO.cell (some (.ref B))), (U, .dictS [("cells", .ref C), ("at", .int ((0 + 1 : Nat) : Int))]), (C, .list (cells.map .int))] F
    have hnl := nums_len 3 (4 + v)
    walk_at "st"
    walk_at "st"
    repeat walk_at "st"
    refine ⟨Kept.ref (by rfl), ?_⟩
    repeat walk_at "st"
    refine OpC.new ok (FP := []) (by rfl) (by rfl) (by rfl) (fun x dx => houseInit ok) (rm.le (by decide)) (Less.refl _) ?_
    rintro H dx _ _ ⟨hv'', mm, k, UP, TR, hm, rfl⟩
    refine ⟨hv'', ?_⟩
    walk_at "st"
    refine Ev.dictS2 (by decide) fun S => ?_
    repeat walk_at "st"
    refine ⟨by walk_at "sz", fun T => ?_⟩
    repeat walk_at "st"
    refine ⟨Kept.con, ?_⟩
    repeat walk_at "st"
    refine OpC.con (OpB.list (by walk_at "mem") (by rw [List.length_map]; omega) fun P => ?_)
    refine ⟨_, by walk_at "put", ?_⟩
    repeat walk_at "st"
    refine ⟨by walk_at "sz", _, rfl, rfl, ?_⟩
    walk_at "bnd"
    dsimp only
    refine RunF.less (R' := houseC H dx mm k UP TR [] [] ++ (stC S T P [] (nums 3 (4 + v)) ++ lawR SM L B U C (4 + v) cells FPb' F (0 + 1))) (by walk_at "less") ?_
    refine RunF.mono (lawLoop ok hm hb' (by omega) (by omega) (by omega) (by omega) rm (by walk_at "lk") (by walk_at "lk") (by walk_at "lk") (by walk_at "lk")) ?_
    rintro fl m' R' ⟨FP', l1, l2, l3⟩
    cases fl with
    | next => exact ⟨FP', l1, l2, l3⟩
    | ret v => exact ⟨FP', l1, l2, l3⟩
end

/-! part HW -/
def YP (w : World) (h : Heap) : Prop := (KK w.params).In h ∧ ∃ o, h.get? sysModules = some o
theorem walkL {d : DefRec} {kwd : List (Str × Expr)} (hn : d.name = "law") : WalkO qv lo (XL qv []) YP PySem.Challenge.rw_rg0212_01.row.toRowW d kwd (fun f vs => PySem.call f vs) := by
  intro w s₀ s₁ mg mb G Y a o pm cd doc dV kV ho hd hcd hD hmg hg args vals as hpre hlay hrd hwl hlo
  have T := G.T
  have TR := topRead_of T
  have e620 : mg "law" = some (.ref 620) := mg_of Y.1 TR.g (by rfl)
  rw [hn, e620] at hmg
  have ha : a = 620 := by injection hmg with h; injection h with h; exact h.symm
  subst ha
  clear hd hcd hD hmg ho
  wrow_args hpre hlay hrd hwl hlo
  rename s₁.heap.IsList _ _ => hL
  rename IntsAre _ _ => hI
  rename ¬ _ < _ => hlen
  have ok : Ok (GG w s₁.heap s₁) := ⟨Y.1, ⟨_, _, _, _, TR⟩, Y.2⟩
  refine wpAny_call (codeAny_mono (lawFn ok hL hI (by omega) callerA [] ⟨rfl, by decide, by decide⟩ s₁ [.ref _] ⟨fun _ _ e => e, .nil, by simp, rfl, rfl, rfl⟩ (.cons (.ref _) .nil)) fun r s' ⟨v, e, b, H', rb, st', tk, FP', l, q1, q2⟩ => ?_)
  subst e
  subst q1
  cases rb
  refine GoodW.toG ⟨.inl ⟨_, _, [], rfl, fun _ => rfl, .bool true, ?_, fun _ => ⟨.nil, by simp⟩⟩, st'.keep, st'.os, st'.gens.trans hg⟩
  wrow_post

theorem KAeq : ∀ P, KA = (KK P).map (·.1) := fun P => by kernel_rfl
theorem hYL (w : World) (s : Shared) (e : Yf s = Ya w) : YP w s.heap := by
  obtain ⟨e1, e2⟩ := Prod.mk.inj e
  refine ⟨Frag.in_of (KAeq _) e1, ?_⟩
  cases q : s.heap.get? sysModules with
  | some o => exact ⟨o, rfl⟩
  | none =>
    have : s.heap.get? 1 = none := q
    rw [this] at e2
    cases e2
theorem hYkL (w : World) (h h' : Heap) (y : YP w h) (k : ∀ b o, h.get? b = some o → h'.get? b = some o) : YP w h' := ⟨y.1.keeps k, let ⟨o, e⟩ := y.2; ⟨o, k _ _ e⟩⟩
end Mine

open Mine PySem PySem.Calls PyProof.Rows PySem.W
theorem PySem.Challenge.cw_rg0212_01_holds : PySem.Challenge.rw_rg0212_01.Holds := by
  w_on
  refine holds_law lawOk fun said => ?_
  refine holds_open (q := qv) (loose := lo) (Xt := Xt) (XP := XL qv []) (Yf := Yf) (Ya := Ya) (YP := YP) (N := 6900) leftL hYL hYkL (fun s e => xl_of s (Bool.and_eq_true_iff.mp e).1) XL.keeps (by rfl) (by rfl) (by rfl) (fun s e => recFacts_of (Bool.and_eq_true_iff.mp e).2) (by rfl) (by first | assumption | decide +kernel) (by decide +kernel) ⟨rfl, rfl, rfl, rfl, rfl, whole0⟩ ?hw (walkL rfl)
  case hw => w_witness2
