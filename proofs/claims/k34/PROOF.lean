import PyProof.Rows.All
import Wide.All
import OpenK.AllK
import Wide.FinOn
import HandS.ForMost
import HandS.ForExc
import HandS.Wide
import HandS.IsInst
import HandS.Flow
import HandS.ExcCtx
import HandS.Defaults
import HandS.Conv
import HandS.Rev
import HandS.RevRange
import HandS.Zip
import HandS.Deep
import KE.GoesMore
import HandS.CallLocal
import HandS.ExcIs
import HandS.Spec
import KE.KStateDown
import HandS.Ends
import HandS.More
import HandS.Words
import HandS.WordsExc
import HandS.Head0
import HandS.Head1
import HandS.Head2
import HandS.HeadEnd
import HandS.HeadHook1
import HandS.HeadHook2
import HandS.Iter
import HandS.SortInts
import HandS.SortRule
import HandS.TupSets
import HandS.DictTup
import HandS.ExcValue
import HandS.SetFor
import HandS.Strs
import PyProof.SumWalkG
import PyProof.SeqIndex
import PyProof.Rows.SumAny
import HandS.TupLe
import KE.KDictKeyed
import HandS.Style
import KE.SortData
import PyProof.EqAt
import KE.KDictCopyH
import HandS.Hot
import HandS.HotCalls
import HandS.TupMul
import HandS.TupAny
import KE.GoesZip
import KE.GoesEnum
import KE.KUnpack
import PyProof.CollectIter
import KE.DataFind
import KE.KRevSl
import HandS.Text
import HandS.Replace
import PyProof.StrOps2
import HandS.StrMore
import KE.KeyNested
import PySem.Challenge.RW_rootgroup_k34_whole_all_parts
set_option Elab.async false
set_option linter.all false
set_option maxRecDepth 100000
set_option maxHeartbeats 4000000
set_option checkBinderAnnotations false
/-! DL0: tuples of tuples as keys of a dict. -/
namespace DL
open PySem L2
open PySem.Spec PyProof.Rows
open Sem (wp)
section
variable {prog : Program} {w : World} {κ : Type} [DecidableEq κ] (knd : PySem.KeyKind prog w κ)
/-- the parts of such a key, each where it stands -/
inductive Its2 (h : Heap) : List (List κ) → List Value → Prop
  | nil : Its2 h [] []
  | cons {k : List κ} {b : Addr} {kss : List (List κ)} {us : List Value} : IsTupleKey knd h k b → Its2 h kss us → Its2 h (k :: kss) (.ref b :: us)
def Key2 (h : Heap) (kss : List (List κ)) (a : Addr) : Prop :=
  ∃ o its n, h.get? a = some o ∧ o.cls = .type "tuple" ∧ o.data = .seq its n ∧ Its2 knd h kss its.toList
variable {knd}
theorem Its2.inj {h : Heap} {x y : List (List κ)} {us : List Value} (hx : Its2 knd h x us) (hy : Its2 knd h y us) : x = y := by
  induction hx generalizing y with
  | nil => cases hy; rfl
  | cons k1 _ ih =>
    cases hy with
    | cons k2 t2 => rw [k1.inj k2, ih t2]
theorem Its2.len {h : Heap} {x : List (List κ)} {us : List Value} (hx : Its2 knd h x us) : x.length = us.length := by
  induction hx with
  | nil => rfl
  | cons _ _ ih => simp [ih]
theorem Its2.keep {h h' : Heap} {x : List (List κ)} {us : List Value} (f : ∀ k b, IsTupleKey knd h k b → IsTupleKey knd h' k b) (hx : Its2 knd h x us) : Its2 knd h' x us := by
  induction hx with
  | nil => exact .nil
  | cons k1 _ ih => exact .cons (f _ _ k1) ih
theorem Key2.ty {s : Shared} {kss : List (List κ)} {a : Addr} (x : Key2 knd s.heap kss a) : s.TypeIs (.ref a) "tuple" := by
  obtain ⟨o, _, _, ho, hc, _⟩ := x
  exact ⟨o, ho, hc⟩
theorem Key2.inj {h : Heap} {a : Addr} {x y : List (List κ)} (hx : Key2 knd h x a) (hy : Key2 knd h y a) : x = y := by
  obtain ⟨o, its, n, ho, _, hd, hi⟩ := hx
  obtain ⟨o2, its2, n2, ho2, _, hd2, hi2⟩ := hy
  rw [ho] at ho2
  cases ho2
  rw [hd] at hd2
  cases hd2
  exact hi.inj hi2
theorem Key2.keeps {h h' : Heap} {kss : List (List κ)} {a d : Addr} {o : Obj} {es ep} (x : Key2 knd h kss a) (ho : h.get? d = some o) (hd : o.data = .dict es ep) (hs : Heap.SameBut d h h') : Key2 knd h' kss a := by
  obtain ⟨o2, its, n, ho2, hc, hd2, hi⟩ := x
  have hne : a ≠ d := by
    intro z
    subst z
    rw [ho] at ho2
    cases ho2
    rw [hd] at hd2; cases hd2
  exact ⟨o2, its, n, (hs.2 a hne).trans ho2, hc, hd2, hi.keep fun k b q => q.keeps ho hd hs⟩
def hash2 (knd : PySem.KeyKind prog w κ) (kss : List (List κ)) : Int := reduceHash (Builtin.Tuple.tupleHashOf (kss.map (tupleKeyHash knd)))
def draws2 (kss : List (List κ)) : Nat := (kss.map fun k => k.length + 1).sum + 1
variable {A : Around} {E : Value → Shared → Prop} {s : Shared}
theorem key2_hash {kss : List (List κ)} {a : Addr} {Q : Int → Shared → Prop} (hu : A.units + 1 < cLine) (hk : Key2 knd s.heap kss a) (h : Q (hash2 knd kss) { s with toks := s.toks + draws2 kss }) :
    wpAny (model prog w) A (pyHash (.ref a)) Q E s := by
  have hT := hk.ty
  obtain ⟨o, its, n, ho, _, hd, hi⟩ := hk
  unfold pyHash
  first | unfold pyHashByItsType | skip
  first | refine wpAny_bind (wpAny_cRoomFor_or (.inr (Nat.lt_of_succ_lt hu)) ?_) | skip
  refine wpAny_bind (wpAny_specialOf hT PySem.F.slot_tuple_hash.lookup ?_)
  show wpAny _ _ (if (some (Value.builtin "tuple.__hash__") == some Value.none) = true then _ else _) Q E s
  rw [if_neg (by rw [beq_builtin_none]; exact Bool.false_ne_true)]
  refine wpAny_bind (wpAny_specialOf hT PySem.F.slot_tuple_hash.lookup ?_)
  show wpAny _ _ (callSpecialIfBoundUnlessNone? (.ref a) "__hash__" _ >>= _) Q E s
  refine wpAny_bind (wpAny_callSpecialIfBoundUnlessNone?_slot hT PySem.F.slot_tuple_hash
    (wpAny_call_entry PySem.F.slot_tuple_hash hT PySem.F.entry_tuple_hash ?_ (PySem.F.args_tuple_hash_1 _)))
  show wpAny _ _ (Builtin.Tuple.tupleItemsOf (.ref a) >>= _) _ _ s
  refine wpAny_bind (wpAny_tupleItemsOf ho hd ?_)
  refine wpAny_bind ?_
  rw [← Array.forIn_toList]
  refine wpAny_forIn_list _
    (fun rest (b : Array Int) s' => ∃ fore left, kss = fore ++ left ∧ Its2 knd s.heap left rest ∧ b.toList = fore.map (tupleKeyHash knd) ∧ s' = { s with toks := s.toks + (fore.map fun k => k.length + 1).sum })
    _ ?_ ?_ _ _ ⟨[], kss, rfl, hi, rfl, rfl⟩
  · rintro x rest b s' ⟨fore, left, rfl, hl, hb, rfl⟩
    cases hl with
    | @cons k _ kss' _ h1 hl' =>
      refine wpAny_bind (wpAny_pyHash_tuple (by first | exact hu | exact Nat.lt_of_succ_lt hu | (show _ < _; omega)) h1 ?_)
      have e2 : ({ s with toks := s.toks + (fore.map fun k => k.length + 1).sum + (k.length + 1) } : Shared) = { s with toks := s.toks + ((fore ++ [k]).map fun k => k.length + 1).sum } := by simp [Nat.add_assoc]
      first
        | exact wpAny_pure ⟨fore ++ [k], kss', by simp, hl', by simp [hb], e2⟩
        | exact wpAny_bind (wpAny_pure (wpAny_pure ⟨fore ++ [k], kss', by simp, hl', by simp [hb], e2⟩))
  · rintro b s' ⟨fore, left, rfl, hl, hb, rfl⟩
    cases hl
    rw [List.append_nil] at h
    show wpAny _ _ (retInt (Builtin.Tuple.tupleHashOf b.toList)) _ _ _
    rw [hb]
    refine wpAny_ret_mkInt ?_
    show wpAny _ _ (if (decide (-(2 : Int) ^ 63 ≤ Builtin.Tuple.tupleHashOf (fore.map (tupleKeyHash knd))) && decide (Builtin.Tuple.tupleHashOf (fore.map (tupleKeyHash knd)) < 2 ^ 63)) = true then _ else _) Q E _
    unfold hash2 reduceHash draws2 at h
    by_cases hr : (decide (-(2 : Int) ^ 63 ≤ Builtin.Tuple.tupleHashOf (fore.map (tupleKeyHash knd))) && decide (Builtin.Tuple.tupleHashOf (fore.map (tupleKeyHash knd)) < 2 ^ 63)) = true
    · rw [if_pos hr]
      rw [if_pos hr] at h
      exact wpAny_pure (by simpa [Nat.add_assoc] using h)
    · rw [if_neg hr]
      rw [if_neg hr] at h
      exact wpAny_bind (wpAny_rule (wpAny_pure (by simpa [Nat.add_assoc] using h)))
theorem key2_eq_tree {x y : List (List κ)} {a b : Addr} {P : PySem.Fin → Shared → Prop} (hu : A.units + 1 < cLine) (hx : Key2 knd s.heap x a) (hy : Key2 knd s.heap y b) (h : P (.done (.ret (.bool (decide (x = y))))) s) :
    wpAny (model prog w) A (Builtin.«tuple.__eq__» ⟨[.ref a, .ref b], []⟩) P E s := by
  have hTb := hy.ty
  obtain ⟨oa, xs, na, hoa, _, hda, hia⟩ := hx
  obtain ⟨ob, ys, nb, hob, _, hdb, hib⟩ := hy
  show wpAny _ _ (isInstance (.ref b) (.type "tuple") >>= _) _ _ s
  refine wpAny_bind (wpAny_isInstance hTb isSubtype_tuple_tuple ?_)
  simp only [Bool.not_true, Bool.false_eq_true, if_false]
  refine wpAny_bind (wpAny_tupleItemsOf hoa hda (wpAny_bind (wpAny_tupleItemsOf hob hdb ?_)))
  refine wpAny_bind ?_
  refine wpAny_forIn_list _
    (fun rest r s' => r.1 = none ∧ s' = s ∧ ∃ x2 y2 us vs, rest = List.zip us vs ∧ Its2 knd s.heap x2 us ∧ Its2 knd s.heap y2 vs ∧ decide (x2 = y2) = decide (x = y) ∧ (us.length == vs.length) = (xs.size == ys.size))
    _ ?_ ?_ _ _ ⟨rfl, rfl, x, y, xs.toList, ys.toList, rfl, hia, hib, rfl, by simp⟩
  · rintro ⟨u, v⟩ rest r s' ⟨hr, rfl, x2, y2, us, vs, hz, hx2, hy2, hdec, hlen⟩
    cases hx2 with
    | nil => simp at hz
    | @cons k1 b1 x3 us3 h1 hx3 =>
      cases hy2 with
      | nil => simp at hz
      | @cons k2 b2 y3 vs3 h2 hy3 =>
        simp only [List.zip_cons_cons, List.cons.injEq, Prod.mk.injEq] at hz
        obtain ⟨⟨rfl, rfl⟩, rfl⟩ := hz
        refine wpAny_bind (wpAny_eqBool_tuple (x := k1) (y := k2) (by first | exact hu | exact Nat.lt_of_succ_lt hu | (show _ < _; omega)) h1 h2 ?_)
        by_cases hk : k1 = k2
        · subst hk
          rw [decide_eq_true rfl]
          simp only [Bool.not_true, Bool.false_eq_true, if_false]
          refine wpAny_pure ⟨rfl, rfl, x3, y3, us3, vs3, rfl, hx3, hy3, ?_, by simpa using hlen⟩
          rw [← hdec]
          by_cases hxy : x3 = y3
          · simp [hxy]
          · simp [hxy]
        · rw [decide_eq_false hk]
          simp only [Bool.not_false, if_true]
          have hf : decide (x = y) = false := by rw [← hdec]; simp [hk]
          rw [hf] at h
          exact wpAny_bind (wpAny_pure (wpAny_pure (wpAny_pure h)))
  · rintro ⟨r1, r2⟩ s' ⟨hr, rfl, x2, y2, us, vs, hz, hx2, hy2, hdec, hlen⟩
    simp only at hr
    subst hr
    refine wpAny_pure ?_
    have fin : (xs.size == ys.size) = decide (x = y) := by
      rw [← hdec, ← hlen]
      cases hx2 with
      | nil =>
        cases hy2 with
        | nil => simp
        | cons _ _ => simp
      | cons _ _ =>
        cases hy2 with
        | nil => simp
        | cons _ _ => simp at hz
    show P (.done (.ret (.bool (xs.size == ys.size)))) s'
    rw [fin]; exact h
theorem key2_eq {x y : List (List κ)} {a b : Addr} {Q : Bool → Shared → Prop} (hu : A.units + 2 < cLine) (hx : Key2 knd s.heap x a) (hy : Key2 knd s.heap y b) (h : Q (decide (x = y)) s) :
    wpAny (model prog w) A (eqBool (.ref a) (.ref b)) Q E s := by
  unfold eqBool
  try with_reducible refine wpAny_holding ?_
  show wpAny _ _ (if (Value.ref a == Value.ref b) = true then _ else _) Q E s
  by_cases hab : (Value.ref a == Value.ref b) = true
  · rw [if_pos hab]
    have e : a = b := by have := eq_of_beq hab; injection this
    subst e
    obtain rfl := hx.inj hy
    exact wpAny_bind (wpAny_rule (wpAny_pure (by simpa using h)))
  · rw [if_neg hab]
    refine wpAny_bind (wpAny_richCompare_same_room (op := .Eq) hx.ty hy.ty PySem.F.slot_tuple_eq
      (wpAny_call_entry PySem.F.slot_tuple_eq hx.ty PySem.F.entry_tuple_eq ?_ (PySem.F.args_tuple_eq_2 _ _)) (by omega))
    exact key2_eq_tree (by first | (show _ < _; omega) | exact hu | (have := hu; simp only [Around.in1] at *; omega)) hx hy ⟨_, rfl, (fun e => nomatch e), wpAny_truthy_bool h⟩
theorem quiet_at (d : Nat) {k : List κ} {a : Addr} {Q : Bool → Shared → Prop} (hk : IsTupleKey knd s.heap k a) (h : Q true s) : wpAny (model prog w) A (eqIsQuiet (d + 1) (.ref a)) Q E s := by
  have hT := hk.typeIs
  obtain ⟨o, its, n, ho, _, hd, hi⟩ := hk
  unfold eqIsQuiet
  refine wpAny_bind (wpAny_specialOf hT PySem.F.slot_tuple_eq.lookup ?_)
  show wpAny _ _ (isInstance (.ref a) (.type "tuple") >>= _) _ _ s
  refine wpAny_bind (wpAny_isInstance hT isSubtype_tuple_tuple ?_)
  simp only [Bool.not_true, Bool.false_eq_true, if_false]
  refine wpAny_bind (wpAny_seqItems ho hd (wpAny_bind ?_))
  show wpAny _ _ (forIn its _ _) _ _ s
  rw [← Array.forIn_toList]
  refine wpAny_forIn_list _ (fun rest r s' => r.1 = none ∧ s' = s ∧ ∀ u ∈ rest, carriedByValue u = true) _ ?_ ?_ _ _ ⟨rfl, rfl, hi.byValue⟩
  · rintro u rest r s' ⟨hr, rfl, all⟩
    rw [eqIsQuiet_byValue _ (all u List.mem_cons_self)]
    refine wpAny_bind (wpAny_pure ?_)
    simp only [Bool.not_true, Bool.false_eq_true, if_false]
    exact wpAny_pure ⟨rfl, rfl, fun v hv => all v (List.mem_cons_of_mem _ hv)⟩
  · rintro ⟨r1, r2⟩ s' ⟨hr, rfl, _⟩
    simp only at hr
    subst hr
    exact wpAny_pure h
theorem key2_quiet {kss : List (List κ)} {a : Addr} {Q : Bool → Shared → Prop} (hk : Key2 knd s.heap kss a) (h : Q true s) : wpAny (model prog w) A (eqIsQuiet 8 (.ref a)) Q E s := by
  have hT := hk.ty
  obtain ⟨o, its, n, ho, _, hd, hi⟩ := hk
  unfold eqIsQuiet
  refine wpAny_bind (wpAny_specialOf hT PySem.F.slot_tuple_eq.lookup ?_)
  show wpAny _ _ (isInstance (.ref a) (.type "tuple") >>= _) _ _ s
  refine wpAny_bind (wpAny_isInstance hT isSubtype_tuple_tuple ?_)
  simp only [Bool.not_true, Bool.false_eq_true, if_false]
  refine wpAny_bind (wpAny_seqItems ho hd (wpAny_bind ?_))
  show wpAny _ _ (forIn its _ _) _ _ s
  rw [← Array.forIn_toList]
  refine wpAny_forIn_list _ (fun rest r s' => r.1 = none ∧ s' = s ∧ ∃ left, Its2 knd s.heap left rest) _ ?_ ?_ _ _ ⟨rfl, rfl, kss, hi⟩
  · rintro u rest r s' ⟨hr, rfl, left, hl⟩
    cases hl with
    | cons h1 hl' =>
      refine wpAny_bind (quiet_at 6 h1 ?_)
      simp only [Bool.not_true, Bool.false_eq_true, if_false]
      exact wpAny_pure ⟨rfl, rfl, _, hl'⟩
  · rintro ⟨r1, r2⟩ s' ⟨hr, rfl, _⟩
    simp only at hr
    subst hr
    exact wpAny_pure h
end
def kind2 {prog : Program} {w : World} {κ : Type} [DecidableEq κ] (knd : PySem.KeyKind prog w κ) : HeapKind prog w (List (List κ)) where
  is := Key2 knd
  hash := hash2 knd
  draws := draws2
  room := fun A => A.units + 2 < cLine
  inj := fun hx hy => hx.inj hy
  keeps := fun x ho hd hs => x.keeps ho hd hs
  pyHash := fun hu hk h => key2_hash (by omega) hk h
  eqBool := fun hu hx hy h => key2_eq hu hx hy h
  quiet := fun hk h => key2_quiet hk h
end DL

set_option Elab.async false
set_option linter.all false
set_option maxRecDepth 100000
set_option maxHeartbeats 4000000
/-! DL: the heapless layer. D: data; Sl: what a slot holds (data, or a list of one's own); SR: the relation of an env of such with the slots and the abstract heap. -/
namespace DL
open PySem L2

/-- data -/
inductive D where
  | non | bl (b : Bool) | int (i : Int) | str (x : Str) | tup (ds : List D) | lst (ds : List D) | adr (a : Addr) | ty (n : String)
  /-- a list that changes no more; an instance of the class at C that changes no more: its fields -/
  | fl (ds : List D) | obj (C : Addr) (ns : List Str) (ds : List D)
  /-- a tuple that is known to have no dict; an error of the class at C -/
  | tpx (ds : List D) | exc (C : Addr)
  /-- a dict that changes no more: its keys, tuples of ints without a dict -/
  | dct (ks : List (List Int))
  /-- .. tuples of such -/
  | dcu (ks : List (List (List Int)))
  /-- a list that may be changed later -/
  | ml (ds : List D)
  /-- a list that is locked, or written -/
  | kl (ds : List D)

/-- a dict: its keys ints, [i] for i (0), tuples of ints (1), tuples of ints that have no dict (2) -/
structure Dc where
  t : Nat
  l : List (List Int × D)
/-- a slot: data; a list of one's own; one that a caller lent; the one in slot i (of an expression alone); a dict of one's own, its keys tuples of ints -/
inductive Sl where
  | dat (d : D) | own (ds : List D) | inn (ds : List D) | bor (i : Nat) | dic (kvs : Dc)
/-- a tuple of the written part -/
def KTu (K : PySem.W.Frag) (a : Addr) (xs : List V) : Prop := SqT K (fun _ => none) a xs
theorem KTu.sq {K : PySem.W.Frag} {a : Addr} {xs : List V} (h : KTu K a xs) (H : Hp) : SqT K H a xs := by
  rcases h with (h | ⟨o, h⟩) | h
  · cases h
  · cases h
  · exact .inr h
/-- a list of the written part, or a locked one -/
def LstK (K : PySem.W.Frag) (H : Hp) (a : Addr) (xs : List V) : Prop := (∃ o, H a = some (.frz o (.lst xs))) ∨ SqL K (fun _ => none) a xs
theorem LstK.sq {K : PySem.W.Frag} {H : Hp} {a : Addr} {xs : List V} (h : LstK K H a xs) : SqL K H a xs := by
  rcases h with h | (h | ⟨o, h⟩) | h
  · exact .inl (.inr h)
  · cases h
  · cases h
  · exact .inr h
/-- a tuple: tracked, or written -/
def TupA (K : PySem.W.Frag) (H : Hp) (a : Addr) (xs : List V) : Prop := H a = some (.tup xs) ∨ KTu K a xs
theorem TupA.sq {K : PySem.W.Frag} {H : Hp} {a : Addr} {xs : List V} (h : TupA K H a xs) : SqT K H a xs := by
  rcases h with h | h
  · exact .inl (.inl h)
  · exact h.sq H

abbrev En := List (Option Sl)

def kT (k : List Int) : List Key := k.map Sum.inl
/-- a dict by its object alone: its keys, where their tuples are (its values are not told) -/
def dxO (p : Addr) (ks : List (List Int)) (vs : List V) : HO := .ext fun h => ∃ xs : List (List Key × Addr × Value), xs.map (·.1) = ks.map kT ∧ (xs.map fun x => V.ref x.2.1) = vs ∧ (p == sysModules) = false ∧ xs.length ≤ sizeLine ∧ (xs.map (·.1)).Nodup ∧
  ∃ o es ep, h.get? p = some o ∧ o.ExactDict ∧ o.data = .dict es ep ∧ ∀ (P : Program) (w : World), es.toList = xs.map (entryOfKey (tupleKind (mixKind P w)))
def tpxI (k : List Int) : D := .tpx (k.map .int)
/-- a tuple of such tuples -/
def ttD (k : List (List Int)) : D := .tup (k.map tpxI)
def kTT (k : List (List Int)) : List (List Key) := k.map kT
/-- a dict by its object alone: its keys (tuples of tuples), where their tuples are, its values -/
def ddO (p : Addr) (ks : List (List (List Int))) (vs ws : List V) : HO := .ext fun h => ∃ xs : List (List (List Key) × Addr × Value), xs.map (·.1) = ks.map kTT ∧ (xs.map fun x => V.ref x.2.1) = vs ∧ Vals ws (xs.map fun x => x.2.2) ∧ (p == sysModules) = false ∧ xs.length ≤ sizeLine ∧ (xs.map (·.1)).Nodup ∧
  ∃ o es ep, h.get? p = some o ∧ o.ExactDict ∧ o.data = .dict es ep ∧ ∀ (P : Program) (w : World), es.toList = xs.map (entryOfKey (kind2 (mixKind P w)))
/-- a list of lists as one list -/
def enc : List (List Int) → List Int
  | [] => []
  | k :: ks => (k.length : Int) :: (k ++ enc ks)
def decF : Nat → List Int → List (List Int)
  | 0, _ => []
  | _ + 1, [] => []
  | f + 1, n :: l => l.take n.toNat :: decF f (l.drop n.toNat)
def dec (l : List Int) : List (List Int) := decF l.length l
theorem dec_encF : ∀ (f : Nat) (k : List (List Int)), (enc k).length ≤ f → decF f (enc k) = k
  | 0, [], _ => rfl
  | 0, k :: ks, h => by simp [enc] at h
  | f + 1, [], _ => rfl
  | f + 1, k :: ks, h => by
    show (k ++ enc ks).take (k.length : Int).toNat :: decF f ((k ++ enc ks).drop (k.length : Int).toNat) = k :: ks
    have e : (k.length : Int).toNat = k.length := rfl
    rw [e, List.take_left, List.drop_left, dec_encF f ks]
    simp [enc] at h
    omega
theorem dec_enc (k : List (List Int)) : dec (enc k) = k := dec_encF _ k (Nat.le_refl _)
section
variable (K : PySem.W.Frag) (B H : Hp)
mutual
/-- v is d: tuples stand in H, lists in B -/
inductive Ip : V → D → Prop
  | non : Ip .non .non
  | bl (b : Bool) : Ip (.bl b) (.bl b)
  | int (i : Int) : Ip (.int i) (.int i)
  | str (x : Str) : Ip (.str x) (.str x)
  | adr (a : Addr) : Ip (.ref a) (.adr a)
  | ty (n : String) : Ip (.ty n) (.ty n)
  | tup {a : Addr} {xs : List V} {ds : List D} : TupA K H a xs → IpAll xs ds → Ip (.ref a) (.tup ds)
  | fl {a : Addr} {o : Obj} {xs : List V} {ds : List D} : H a = some (.frz o (.lst xs)) → IpAll xs ds → Ip (.ref a) (.fl ds)
  | obj {a C dx : Addr} {ns : List Str} {xs : List V} {ds : List D} : H a = some (.ins C dx (ns.zip xs)) → ns.length = xs.length → IpAll xs ds → Ip (.ref a) (.obj C ns ds)
  | lst {a : Addr} {xs : List V} {ds : List D} : SqL K B a xs → IpAll xs ds → Ip (.ref a) (.lst ds)
  | tpx {a : Addr} {o : Obj} {xs : List V} {ds : List D} : H a = some (.frz o (.tup xs)) → o.dict = none → IpAll xs ds → Ip (.ref a) (.tpx ds)
  | exc {a C : Addr} {o : Obj} : H a = some (.frz o (.ext fun _ => True)) → Zc (.ref C) none o → (∃ vs, o.data = .fields vs) → Ip (.ref a) (.exc C)
  | dct {a : Addr} {o : Obj} {ks : List (List Int)} {vs : List V} : H a = some (.frz o (dxO a ks vs)) → IpAll vs (ks.map tpxI) → Ip (.ref a) (.dct ks)
  | dcu {a : Addr} {o : Obj} {ks : List (List (List Int))} {vs ws : List V} : H a = some (.frz o (ddO a ks vs ws)) → IpAll vs (ks.map ttD) → Ip (.ref a) (.dcu ks)
  | ml {a : Addr} {xs : List V} {ds : List D} : B a = some (.lst xs) → IpAll xs ds → Ip (.ref a) (.ml ds)
  | kl {a : Addr} {xs : List V} {ds : List D} : LstK K H a xs → IpAll xs ds → Ip (.ref a) (.kl ds)
inductive IpAll : List V → List D → Prop
  | nil : IpAll [] []
  | cons {v : V} {vs : List V} {d : D} {ds : List D} : Ip v d → IpAll vs ds → IpAll (v :: vs) (d :: ds)
end
end

theorem Same.tup {K : PySem.W.Frag} {H H' : Hp} {a : Addr} {xs : List V} (e : Same H H') (h : SqT K H a xs) : SqT K H' a xs := by
  rcases h with (h | ⟨o, h⟩) | h
  · exact .inl (.inl (e _ _ h))
  · exact .inl (.inr ⟨o, e _ _ h⟩)
  · exact .inr h

theorem Same.rd {H H' : Hp} {a : Addr} {u : HO} (e : Same H H') (h : Rd H a u) : Rd H' a u := by
  rcases h with h | ⟨o, h⟩
  · exact .inl (e _ _ h)
  · exact .inr ⟨o, e _ _ h⟩
/-- what may be a slot's own: a list, a dict -/
def mutO : HO → Bool
  | .lst _ => true
  | .dT _ => true
  | .dK _ => true
  | .ext _ => true
  | _ => false
/-- what never changes in H stands in H' -/
def Tups (H H' : Hp) : Prop := ∀ b o, H b = some o → mutO o = false → H' b = some o
theorem Tups.of {H H' : Hp} (e : Same H H') : Tups H H' := fun _ _ h _ => e _ _ h
theorem Tups.trans {H H1 H2 : Hp} (a : Tups H H1) (b : Tups H1 H2) : Tups H H2 := fun _ _ h m => b _ _ (a _ _ h m) m
theorem tups_at {H H' : Hp} {p : Addr} {u : HO} (hp : H p = some u) (hm : mutO u = true) (ext : ∀ b o, H b = some o → b ≠ p → H' b = some o) : Tups H H' := fun b o e m => ext b o e fun z => by
  subst z; rw [e] at hp; cases hp; rw [hm] at m; cases m
theorem Tups.sq {K : PySem.W.Frag} {H H' : Hp} {a : Addr} {xs : List V} (e : Tups H H') (h : SqT K H a xs) : SqT K H' a xs := by
  rcases h with (h | ⟨o, h⟩) | h
  · exact .inl (.inl (e _ _ h rfl))
  · exact .inl (.inr ⟨o, e _ _ h rfl⟩)
  · exact .inr h
theorem Tups.ta {K : PySem.W.Frag} {H H' : Hp} {a : Addr} {xs : List V} (e : Tups H H') (h : TupA K H a xs) : TupA K H' a xs := h.imp (fun z => e _ _ z rfl) id
section
variable {K : PySem.W.Frag} {B B' H H' : Hp}
mutual
theorem Ip.mono (eB : Same B B') (eH : Tups H H') : ∀ {v : V} {d : D}, Ip K B H v d → Ip K B' H' v d
  | _, _, .non => .non
  | _, _, .bl b => .bl b
  | _, _, .int i => .int i
  | _, _, .str x => .str x
  | _, _, .adr a => .adr a
  | _, _, .ty n => .ty n
  | _, _, .tup h t => .tup (eH.ta h) (IpAll.mono eB eH t)
  | _, _, .fl h t => .fl (eH _ _ h rfl) (IpAll.mono eB eH t)
  | _, _, .obj h hl t => .obj (eH _ _ h rfl) hl (IpAll.mono eB eH t)
  | _, _, .lst h t => .lst (eB.seq h) (IpAll.mono eB eH t)
  | _, _, .tpx h d t => .tpx (eH _ _ h rfl) d (IpAll.mono eB eH t)
  | _, _, .exc h z f => .exc (eH _ _ h rfl) z f
  | _, _, .dct h t => .dct (eH _ _ h rfl) (IpAll.mono eB eH t)
  | _, _, .dcu h t => .dcu (eH _ _ h rfl) (IpAll.mono eB eH t)
  | _, _, .ml h t => .ml (eB _ _ h) (IpAll.mono eB eH t)
  | _, _, .kl h t => .kl (h.imp (fun ⟨o, h⟩ => ⟨o, eH _ _ h rfl⟩) id) (IpAll.mono eB eH t)
theorem IpAll.mono (eB : Same B B') (eH : Tups H H') : ∀ {vs : List V} {ds : List D}, IpAll K B H vs ds → IpAll K B' H' vs ds
  | _, _, .nil => .nil
  | _, _, .cons h t => .cons (Ip.mono eB eH h) (IpAll.mono eB eH t)
end
theorem IpAll.length {vs : List V} {ds : List D} (h : IpAll K B H vs ds) : vs.length = ds.length := by
  induction ds generalizing vs with
  | nil => cases h; rfl
  | cons d ds ih => cases h with | cons a b => simp [ih b]
theorem IpAll.get {vs : List V} {ds : List D} (h : IpAll K B H vs ds) {i : Nat} {d : D} (e : ds[i]? = some d) : ∃ v, vs[i]? = some v ∧ Ip K B H v d := by
  induction ds generalizing vs i with
  | nil => simp at e
  | cons d0 ds ih =>
    cases h with
    | cons a b =>
      cases i with
      | zero => simp at e; subst e; exact ⟨_, rfl, a⟩
      | succ i => obtain ⟨v, h1, h2⟩ := ih b (i := i) (by simpa using e); exact ⟨v, by simpa using h1, h2⟩
theorem IpAll.getV {vs : List V} {ds : List D} (h : IpAll K B H vs ds) {i : Nat} {v : V} (e : vs[i]? = some v) : ∃ d, ds[i]? = some d ∧ Ip K B H v d := by
  induction ds generalizing vs i with
  | nil => cases h; simp at e
  | cons d0 ds ih =>
    cases h with
    | cons a b =>
      cases i with
      | zero => simp at e; subst e; exact ⟨_, rfl, a⟩
      | succ i => obtain ⟨v, h1, h2⟩ := ih b (i := i) (by simpa using e); exact ⟨v, by simpa using h1, h2⟩
theorem IpAll.append {vs ws : List V} {ds es : List D} (h : IpAll K B H vs ds) (h' : IpAll K B H ws es) : IpAll K B H (vs ++ ws) (ds ++ es) := by
  induction ds generalizing vs with
  | nil => cases h; exact h'
  | cons d ds ih => cases h with | cons a b => exact .cons a (ih b)
theorem IpAll.set {vs : List V} {ds : List D} (h : IpAll K B H vs ds) {v : V} {d : D} (hv : Ip K B H v d) (i : Nat) : IpAll K B H (vs.set i v) (ds.set i d) := by
  induction ds generalizing vs i with
  | nil => cases h; exact .nil
  | cons d0 ds ih =>
    cases h with
    | cons a b =>
      cases i with
      | zero => exact .cons hv b
      | succ i => exact .cons a (ih b i)
theorem IpAll.take {vs : List V} {ds : List D} (h : IpAll K B H vs ds) (n : Nat) : IpAll K B H (vs.take n) (ds.take n) := by
  induction ds generalizing vs n with
  | nil => cases h; simp; exact .nil
  | cons d0 ds ih =>
    cases h with
    | cons a b =>
      cases n with
      | zero => exact .nil
      | succ n => exact .cons a (ih b n)
theorem IpAll.drop {vs : List V} {ds : List D} (h : IpAll K B H vs ds) (n : Nat) : IpAll K B H (vs.drop n) (ds.drop n) := by
  induction ds generalizing vs n with
  | nil => cases h; simp; exact .nil
  | cons d0 ds ih =>
    cases h with
    | cons a b =>
      cases n with
      | zero => exact .cons a b
      | succ n => exact ih b n
theorem IpAll.eraseIdx {vs : List V} {ds : List D} (h : IpAll K B H vs ds) (n : Nat) : IpAll K B H (vs.eraseIdx n) (ds.eraseIdx n) := by
  induction ds generalizing vs n with
  | nil => cases h; simp; exact .nil
  | cons d0 ds ih =>
    cases h with
    | cons a b =>
      cases n with
      | zero => exact b
      | succ n => exact .cons a (ih b n)
theorem IpAll.dropLast {vs : List V} {ds : List D} (h : IpAll K B H vs ds) : IpAll K B H vs.dropLast ds.dropLast := by
  rw [List.dropLast_eq_take, List.dropLast_eq_take, h.length]
  exact h.take _
theorem IpAll.reverse {vs : List V} {ds : List D} (h : IpAll K B H vs ds) : IpAll K B H vs.reverse ds.reverse := by
  induction ds generalizing vs with
  | nil => cases h; exact .nil
  | cons d0 ds ih =>
    cases h with
    | cons a b =>
      rw [List.reverse_cons, List.reverse_cons]
      exact (ih b).append (.cons a .nil)
theorem IpAll.ints : ∀ (ns : List Int), IpAll K B H (ns.map V.int) (ns.map D.int)
  | [] => .nil
  | n :: ns => .cons (.int n) (IpAll.ints ns)
end

/-! ### data without lists -/
mutual
def D.nolist : D → Bool
  | .lst _ => false
  | .ml _ => false
  | .obj _ _ ds => D.nolists ds
  | .fl ds => D.nolists ds
  | .tpx ds => D.nolists ds
  | .kl ds => D.nolists ds
  | .tup ds => D.nolists ds
  | _ => true
def D.nolists : List D → Bool
  | [] => true
  | d :: ds => D.nolist d && D.nolists ds
end
theorem nl_ints : ∀ k : List Int, D.nolists (k.map D.int) = true
  | [] => by simp [D.nolists]
  | i :: k => by rw [List.map_cons, D.nolists, nl_ints k]; simp [D.nolist]
theorem nl_tpxI : ∀ ks : List (List Int), D.nolists (ks.map tpxI) = true
  | [] => by simp [D.nolists]
  | k :: ks => by rw [List.map_cons, D.nolists, nl_tpxI ks, tpxI, D.nolist, nl_ints]; rfl
theorem nl_ttD : ∀ ks : List (List (List Int)), D.nolists (ks.map ttD) = true
  | [] => by simp [D.nolists]
  | k :: ks => by rw [List.map_cons, D.nolists, nl_ttD ks, ttD, D.nolist, nl_tpxI]; rfl
section
variable {K : PySem.W.Frag} {B B' H : Hp}
mutual
theorem Ip.pure : ∀ {v : V} {d : D}, Ip K B H v d → d.nolist = true → Ip K B' H v d
  | _, _, .non, _ => .non
  | _, _, .bl b, _ => .bl b
  | _, _, .int i, _ => .int i
  | _, _, .str x, _ => .str x
  | _, _, .adr a, _ => .adr a
  | _, _, .ty n, _ => .ty n
  | _, _, .tup h t, e => .tup h (IpAll.pure t (by simpa [D.nolist] using e))
  | _, _, .lst h t, e => by simp [D.nolist] at e
  | _, _, .ml h t, e => by simp [D.nolist] at e
  | _, _, .kl h t, e => .kl h (IpAll.pure t (by simpa [D.nolist] using e))
  | _, _, .fl h t, e => .fl h (IpAll.pure t (by simpa [D.nolist] using e))
  | _, _, .obj h hl t, e => .obj h hl (IpAll.pure t (by simpa [D.nolist] using e))
  | _, _, .tpx h d t, e => .tpx h d (IpAll.pure t (by simpa [D.nolist] using e))
  | _, _, .exc h z f, _ => .exc h z f
  | _, _, .dct h t, _ => .dct h (IpAll.pure t (nl_tpxI _))
  | _, _, .dcu h t, _ => .dcu h (IpAll.pure t (nl_ttD _))
theorem IpAll.pure : ∀ {vs : List V} {ds : List D}, IpAll K B H vs ds → D.nolists ds = true → IpAll K B' H vs ds
  | _, _, .nil, _ => .nil
  | _, _, .cons h t, e => by
    rw [D.nolists, Bool.and_eq_true] at e
    exact .cons (Ip.pure h e.1) (IpAll.pure t e.2)
end
end

/-! ### states -/
def isOwn : Option (Option Sl) → Bool
  | some (some (.own _)) => true
  | some (some (.inn _)) => true
  | some (some (.dic _)) => true
  | _ => false
/-- the list at b is some slot's own -/
def OwnAt (σ : St) (ρ : En) (b : Addr) : Prop := ∃ i : Nat, isOwn ρ[i]? = true ∧ σ[i]? = some (some (.ref b))
def OwnL (K : PySem.W.Frag) (B H : Hp) (v : V) (ds : List D) : Prop := ∃ p vs, v = V.ref p ∧ B p = none ∧ H p = some (.lst vs) ∧ IpAll K B H vs ds
/-- a dict of one's own -/
def kI (k : List Int) : Key := Sum.inl (k.headD 0)
def Dc.ho (d : Dc) (p : Addr) (vs : List V) : HO := if d.t = 1 then .dT ((d.l.map fun e => kT e.1).zip vs) else if d.t = 0 then .dK ((d.l.map fun e => kI e.1).zip vs) else if d.t = 3 then ddO p (d.l.map fun e => dec e.1) (vs.take d.l.length) (vs.drop d.l.length) else dxO p (d.l.map (·.1)) vs
/-- its values; its keys, where these are known apart -/
def Dc.dv (d : Dc) : List D := if d.t = 2 then d.l.map (fun e => D.tpx (e.1.map .int)) else if d.t = 3 then d.l.map (fun e => ttD (dec e.1)) ++ d.l.map (·.2) else d.l.map (·.2)
theorem Dc.mut (d : Dc) (p : Addr) (vs : List V) : mutO (d.ho p vs) = true := by
  unfold Dc.ho
  split
  · rfl
  · split
    · rfl
    · split <;> rfl
def OwnD (K : PySem.W.Frag) (B H : Hp) (v : V) (kvs : Dc) : Prop := ∃ p vs, v = V.ref p ∧ B p = none ∧ H p = some (kvs.ho p vs) ∧ IpAll K B H vs kvs.dv
def SlR (K : PySem.W.Frag) (B H : Hp) (v : V) : Sl → Prop
  | .dat d => Ip K B H v d
  | .own ds => OwnL K B H v ds
  | .inn ds => OwnL K B H v ds
  | .bor _ => False
  | .dic kvs => OwnD K B H v kvs
structure SR (K : PySem.W.Frag) (B : Hp) (σ : St) (ρ : En) (H : Hp) : Prop where
  len : σ.length = ρ.length
  sub : Same B H
  slot : ∀ (i : Nat) (sl : Sl), ρ[i]? = some (some sl) → ∃ v, σ[i]? = some (some v) ∧ SlR K B H v sl
  inj : ∀ (i j : Nat) (p : Addr), isOwn ρ[i]? = true → isOwn ρ[j]? = true → σ[i]? = some (some (.ref p)) → σ[j]? = some (some (.ref p)) → i = j
/-- from one state to a later one, the slots' values the same -/
structure Tr (σ : St) (B : Hp) (ρ : En) (H : Hp) (B' : Hp) (ρ' : En) (H' : Hp) : Prop where
  ext : ∀ b o, H b = some o → ¬ OwnAt σ ρ b → H' b = some o
  bex : Same B B'
  bnew : ∀ b, B' b ≠ none → B b ≠ none ∨ H b = none
  shp : ∀ i : Nat, isOwn ρ'[i]? = isOwn ρ[i]?
  shi : ∀ (i : Nat) (ds : List D), ρ[i]? = some (some (.inn ds)) → ∃ ds', ρ'[i]? = some (some (.inn ds'))
section
variable {K : PySem.W.Frag} {B B' B1 B2 H H' H1 H2 : Hp} {σ : St} {ρ ρ' ρ1 ρ2 : En}
theorem isOwn_some {ρ : En} {i : Nat} (h : isOwn ρ[i]? = true) : ∃ sl, ρ[i]? = some (some sl) ∧ ((∃ ds, sl = .own ds) ∨ (∃ ds, sl = .inn ds) ∨ ∃ kvs, sl = .dic kvs) := by
  cases e : ρ[i]? with
  | none => rw [e] at h; cases h
  | some o =>
    cases o with
    | none => rw [e] at h; cases h
    | some sl =>
      cases sl with
      | dat d => rw [e] at h; cases h
      | own ds => exact ⟨_, rfl, .inl ⟨ds, rfl⟩⟩
      | inn ds => exact ⟨_, rfl, .inr (.inl ⟨ds, rfl⟩)⟩
      | bor j => rw [e] at h; cases h
      | dic kvs => exact ⟨_, rfl, .inr (.inr ⟨kvs, rfl⟩)⟩
theorem SR.own (s : SR K B σ ρ H) {b : Addr} (h : OwnAt σ ρ b) : ∃ o, H b = some o ∧ B b = none ∧ mutO o = true := by
  obtain ⟨i, h1, h2⟩ := h
  obtain ⟨sl, e, q⟩ := isOwn_some h1
  obtain ⟨v, hv, r⟩ := s.slot i sl e
  rw [h2] at hv
  have ev : V.ref b = v := Option.some.inj (Option.some.inj hv)
  subst ev
  have lst : ∀ ds, OwnL K B H (.ref b) ds → ∃ o, H b = some o ∧ B b = none ∧ mutO o = true := fun ds ⟨p, vs, ep, hb, hp, _⟩ => by
    cases ep
    exact ⟨_, hp, hb, rfl⟩
  rcases q with ⟨ds, rfl⟩ | ⟨ds, rfl⟩ | ⟨kvs, rfl⟩
  · exact lst ds r
  · exact lst ds r
  · obtain ⟨p, vs, ep, hb, hp, _⟩ := r
    cases ep
    exact ⟨_, hp, hb, kvs.mut _ vs⟩
theorem Tr.refl (σ : St) (B : Hp) (ρ : En) (H : Hp) : Tr σ B ρ H B ρ H := ⟨fun _ _ h _ => h, Same.refl _, fun _ h => .inl h, fun _ => rfl, fun _ ds e => ⟨ds, e⟩⟩
theorem Tr.ownAt (t : Tr σ B ρ H B' ρ' H') {b : Addr} : OwnAt σ ρ' b ↔ OwnAt σ ρ b :=
  ⟨fun ⟨i, h1, h2⟩ => ⟨i, by rw [← t.shp i]; exact h1, h2⟩, fun ⟨i, h1, h2⟩ => ⟨i, by rw [t.shp i]; exact h1, h2⟩⟩
theorem Tr.tups (s : SR K B σ ρ H) (t : Tr σ B ρ H B' ρ' H') : Tups H H' := fun b o e m => t.ext b _ e fun z => (by
  obtain ⟨vs, q, _, m'⟩ := s.own z; rw [e] at q; cases q; rw [m] at m'; cases m')
theorem Tr.trans (s1 : SR K B1 σ ρ1 H1) (a : Tr σ B ρ H B1 ρ1 H1) (b : Tr σ B1 ρ1 H1 B2 ρ2 H2) : Tr σ B ρ H B2 ρ2 H2 where
  ext := fun c o h n => b.ext c o (a.ext c o h n) fun z => n (a.ownAt.mp z)
  bex := a.bex.trans b.bex
  bnew := fun c h => by
    rcases b.bnew c h with z | z
    · exact a.bnew c z
    · right
      cases q : H c with
      | none => rfl
      | some o =>
        exfalso
        by_cases n : OwnAt σ ρ c
        · obtain ⟨vs, e, _⟩ := s1.own (a.ownAt.mpr n)
          rw [z] at e; cases e
        · rw [a.ext c o q n] at z; cases z
  shp := fun i => (b.shp i).trans (a.shp i)
  shi := fun i ds e => by
    obtain ⟨d1, e1⟩ := a.shi i ds e
    exact b.shi i d1 e1
theorem Ip.step (s : SR K B σ ρ H) (t : Tr σ B ρ H B' ρ' H') {v : V} {d : D} (h : Ip K B H v d) : Ip K B' H' v d := h.mono t.bex (t.tups s)
theorem IpAll.step (s : SR K B σ ρ H) (t : Tr σ B ρ H B' ρ' H') {vs : List V} {ds : List D} (h : IpAll K B H vs ds) : IpAll K B' H' vs ds := h.mono t.bex (t.tups s)
end

/-- what an expression gives, H0 the heap ahead of it -/
def RvR (K : PySem.W.Frag) (B : Hp) (σ : St) (ρ : En) (H0 H : Hp) (v : V) : Sl → Prop
  | .dat d => Ip K B H v d
  | .own ds => ∃ p vs, v = V.ref p ∧ H0 p = none ∧ B p = none ∧ H p = some (.lst vs) ∧ IpAll K B H vs ds ∧ ¬ OwnAt σ ρ p
  | .inn _ => False
  | .bor i => isOwn ρ[i]? = true ∧ σ[i]? = some (some v)
  | .dic kvs => ∃ p vs, v = V.ref p ∧ H0 p = none ∧ B p = none ∧ H p = some (kvs.ho p vs) ∧ IpAll K B H vs kvs.dv ∧ ¬ OwnAt σ ρ p
section
variable {K : PySem.W.Frag} {B B' B1 B2 H H' H0 H1 H2 : Hp} {σ : St} {ρ ρ' ρ1 ρ2 : En}
/-- a value waits while another expression is run -/
theorem RvR.lift (s : SR K B σ ρ H) (t : Tr σ B ρ H B' ρ' H') {v : V} {r : Sl} (h : RvR K B σ ρ H0 H v r) : RvR K B' σ ρ' H0 H' v r := by
  cases r with
  | dat d => exact Ip.step s t h
  | own ds =>
    obtain ⟨p, vs, e, f, nb, hp, ha, no⟩ := h
    refine ⟨p, vs, e, f, ?_, t.ext p _ hp no, IpAll.step s t ha, fun z => no (t.ownAt.mp z)⟩
    cases q : B' p with
    | none => rfl
    | some o =>
      exfalso
      rcases t.bnew p (by rw [q]; simp) with z | z
      · exact z nb
      · rw [hp] at z; cases z
  | inn ds => exact h
  | bor i => exact ⟨by rw [t.shp i]; exact h.1, h.2⟩
  | dic kvs =>
    obtain ⟨p, vs, e, f, nb, hp, ha, no⟩ := h
    refine ⟨p, vs, e, f, ?_, t.ext p _ hp no, IpAll.step s t ha, fun z => no (t.ownAt.mp z)⟩
    cases q : B' p with
    | none => rfl
    | some o =>
      exfalso
      rcases t.bnew p (by rw [q]; simp) with z | z
      · exact z nb
      · rw [hp] at z; cases z
end

/-! ### an expression's meaning without the heap -/
/-- what is wanted: of a value and the env behind it; of an exception's class -/
abbrev EW := En → (Sl → En → Prop) → (Value → En → Prop) → Prop
abbrev TWs := En → (Bool → En → Prop) → (Value → En → Prop) → Prop
abbrev AW := En → (List Sl → En → Prop) → (Value → En → Prop) → Prop

/-- the wish about exceptions, from the data's -/
def XWof (K : PySem.W.Frag) (W : WX) (σ : St) (B : Hp) (ρ : En) (H : Hp) (Xw : Value → En → Prop) : Prop :=
  ∀ (c : Value) (B' : Hp) (ρ' : En) (H' : Hp), SR K B' σ ρ' H' → Tr σ B ρ H B' ρ' H' → Xw c ρ' → W c none σ H'

def SimE (K : PySem.W.Frag) (W : WX) (t : TE) (w : EW) : Prop := ∀ (B : Hp) (σ : St) (ρ : En) (H : Hp) (Qw : Sl → En → Prop) (Xw : Value → En → Prop) (Q : VK), SR K B σ ρ H → w ρ Qw Xw → XWof K W σ B ρ H Xw →
  (∀ v r B' ρ' H', SR K B' σ ρ' H' → Tr σ B ρ H B' ρ' H' → RvR K B' σ ρ' H H' v r → Qw r ρ' → Q v H') → t σ H Q
def SimT (K : PySem.W.Frag) (W : WX) (t : TT) (w : TWs) : Prop := ∀ (B : Hp) (σ : St) (ρ : En) (H : Hp) (Qw : Bool → En → Prop) (Xw : Value → En → Prop) (Q : Bool → Hp → Prop), SR K B σ ρ H → w ρ Qw Xw → XWof K W σ B ρ H Xw →
  (∀ b B' ρ' H', SR K B' σ ρ' H' → Tr σ B ρ H B' ρ' H' → Qw b ρ' → Q b H') → t σ H Q
/-- several, each behind the one ahead: H0, H1 .. the heaps between them -/
inductive RvAll (K : PySem.W.Frag) (B : Hp) (σ : St) (ρ : En) (H : Hp) : Hp → List V → List Sl → Prop
  | nil {H0} : RvAll K B σ ρ H H0 [] []
  | cons {H0 H1 v vs r rs} : RvR K B σ ρ H0 H v r → (∀ b, H1 b = none → H0 b = none) → (∀ p ds, r = .own ds → v = .ref p → H1 p ≠ none) → RvAll K B σ ρ H H1 vs rs → RvAll K B σ ρ H H0 (v :: vs) (r :: rs)
def SimA (K : PySem.W.Frag) (W : WX) (t : TA) (w : AW) : Prop := ∀ (B : Hp) (σ : St) (ρ : En) (H : Hp) (Qw : List Sl → En → Prop) (Xw : Value → En → Prop) (Q : List V → Hp → Prop), SR K B σ ρ H → w ρ Qw Xw → XWof K W σ B ρ H Xw →
  (∀ vs rs B' ρ' H', SR K B' σ ρ' H' → Tr σ B ρ H B' ρ' H' → RvAll K B' σ ρ' H' H vs rs → Qw rs ρ' → Q vs H') → t σ H Q

structure DE (X : Cx) (W : WX) (e : Expr) (w : EW) : Prop where
  ok : ∃ t, PE X e t ∧ SimE X.K W t w
structure DT (X : Cx) (W : WX) (e : Expr) (w : TWs) : Prop where
  ok : ∃ t, PT X e t ∧ SimT X.K W t w
structure DA (X : Cx) (W : WX) (es : List Expr) (w : AW) : Prop where
  ok : ∃ t, PA X es t ∧ SimA X.K W t w
end DL

set_option Elab.async false
set_option linter.all false
set_option maxRecDepth 100000
set_option maxHeartbeats 4000000
/-! DLb: expressions. -/
namespace DL
open PySem L2

/-! ### what is read of a value -/
def cont (ρ : En) : Sl → Option D
  | .dat d => some d
  | .own ds => some (.lst ds)
  | .inn _ => none
  | .bor i => match ρ[i]? with
    | some (some (.own ds)) => some (.lst ds)
    | some (some (.inn ds)) => some (.lst ds)
    | _ => none
  | .dic _ => none
def withC (ρ : En) (r : Sl) (k : D → Prop) : Prop := match cont ρ r with
  | some d => k d
  | none => False
def conts (ρ : En) : List Sl → Option (List D)
  | [] => some []
  | r :: rs => match cont ρ r, conts ρ rs with
    | some d, some ds => some (d :: ds)
    | _, _ => none
def withCs (ρ : En) (rs : List Sl) (k : List D → Prop) : Prop := match conts ρ rs with
  | some ds => k ds
  | none => False
theorem withC_some {ρ : En} {r : Sl} {k : D → Prop} (h : withC ρ r k) : ∃ d, cont ρ r = some d ∧ k d := by
  unfold withC at h
  cases e : cont ρ r with
  | none => rw [e] at h; exact h.elim
  | some d => rw [e] at h; exact ⟨d, rfl, h⟩
theorem withCs_some {ρ : En} {rs : List Sl} {k : List D → Prop} (h : withCs ρ rs k) : ∃ ds, conts ρ rs = some ds ∧ k ds := by
  unfold withCs at h
  cases e : conts ρ rs with
  | none => rw [e] at h; exact h.elim
  | some d => rw [e] at h; exact ⟨d, rfl, h⟩

/-- readable: a list at the top may be anybody's -/
def RdB (K : PySem.W.Frag) (B H : Hp) (v : V) : D → Prop
  | .lst ds => ∃ a xs, v = V.ref a ∧ SqL K H a xs ∧ IpAll K B H xs ds
  | d => Ip K B H v d
inductive RdAll (K : PySem.W.Frag) (B H : Hp) : List V → List D → Prop
  | nil : RdAll K B H [] []
  | cons {v vs d ds} : RdB K B H v d → RdAll K B H vs ds → RdAll K B H (v :: vs) (d :: ds)

section
variable {K : PySem.W.Frag} {B B' B1 B2 H H' H0 H1 H2 : Hp} {σ : St} {ρ ρ' ρ1 ρ2 : En} {v : V} {r : Sl} {d : D}
theorem Ip.rd (sub : Same B H) (h : Ip K B H v d) : RdB K B H v d := by
  cases d with
  | lst ds =>
    cases h with
    | lst a b => exact ⟨_, _, rfl, sub.seq a, b⟩
  | _ => exact h
theorem SR.bor (s : SR K B σ ρ H) {i : Nat} {ds : List D} (e : ρ[i]? = some (some (.own ds)) ∨ ρ[i]? = some (some (.inn ds))) (hv : σ[i]? = some (some v)) : OwnL K B H v ds := by
  rcases e with e | e
  · obtain ⟨u, hu, r⟩ := s.slot i _ e
    rw [hv] at hu; cases hu; exact r
  · obtain ⟨u, hu, r⟩ := s.slot i _ e
    rw [hv] at hu; cases hu; exact r
theorem cont_bor {ρ : En} {i : Nat} {d : D} (h : cont ρ (.bor i) = some d) : ∃ ds, d = .lst ds ∧ (ρ[i]? = some (some (.own ds)) ∨ ρ[i]? = some (some (.inn ds))) := by
  have h : (match ρ[i]? with
    | some (some (.own ds)) => some (D.lst ds)
    | some (some (.inn ds)) => some (D.lst ds)
    | _ => none) = some d := h
  cases e : ρ[i]? with
  | none => rw [e] at h; cases h
  | some o =>
    rw [e] at h
    cases o with
    | none => cases h
    | some sl =>
      cases sl with
      | dat d => cases h
      | own ds => exact ⟨ds, (Option.some.inj h).symm, .inl rfl⟩
      | inn ds => exact ⟨ds, (Option.some.inj h).symm, .inr rfl⟩
      | bor j => cases h
      | dic kvs => cases h
theorem RvR.rd (s : SR K B σ ρ H) (h : RvR K B σ ρ H0 H v r) (e : cont ρ r = some d) : RdB K B H v d := by
  cases r with
  | dat d' =>
    have e' : d' = d := Option.some.inj e
    subst e'
    exact Ip.rd s.sub h
  | own ds =>
    have e' : D.lst ds = d := Option.some.inj e
    subst e'
    obtain ⟨p, vs, ev, _, _, hp, ha, _⟩ := h
    exact ⟨p, vs, ev, .inl (.inl hp), ha⟩
  | inn ds => cases e
  | dic kvs => cases e
  | bor i =>
    obtain ⟨ds, rfl, q⟩ := cont_bor e
    obtain ⟨p, vs, ev, _, hp, ha⟩ := s.bor q h.2
    exact ⟨p, vs, ev, .inl (.inl hp), ha⟩
theorem RvAll.rd (s : SR K B σ ρ H) {vs : List V} {rs : List Sl} (h : RvAll K B σ ρ H H0 vs rs) : ∀ {ds : List D}, conts ρ rs = some ds → RdAll K B H vs ds := by
  induction h with
  | nil => intro ds e; cases e; exact .nil
  | @cons H0 H1 v vs r rs h1 h2 h3 h4 ih =>
    intro ds e
    unfold conts at e
    cases e1 : cont ρ r with
    | none => rw [e1] at e; cases e
    | some d =>
      cases e2 : conts ρ rs with
      | none => rw [e1, e2] at e; cases e
      | some ds' =>
        rw [e1, e2] at e
        cases e
        exact .cons (h1.rd s e1) (ih e2)

/-! ### what a primitive gives -/
def RvV (K : PySem.W.Frag) (B H H' : Hp) (v : V) : Sl → Prop
  | .dat d => Ip K B H' v d
  | .own ds => ∃ p vs, v = V.ref p ∧ H p = none ∧ H' p = some (.lst vs) ∧ IpAll K B H' vs ds
  | .dic kvs => ∃ p vs, v = V.ref p ∧ H p = none ∧ H' p = some (kvs.ho p vs) ∧ IpAll K B H' vs kvs.dv
  | _ => False
theorem SR.same (s : SR K B σ ρ H) (e : Same H H') : SR K B σ ρ H' where
  len := s.len
  sub := s.sub.trans e
  slot := fun i sl h => by
    obtain ⟨v, hv, r⟩ := s.slot i sl h
    refine ⟨v, hv, ?_⟩
    cases sl with
    | dat d => exact Ip.mono (Same.refl B) (Tups.of e) r
    | own ds => obtain ⟨p, vs, a, b, c, dd⟩ := r; exact ⟨p, vs, a, b, e _ _ c, dd.mono (Same.refl B) (Tups.of e)⟩
    | inn ds => obtain ⟨p, vs, a, b, c, dd⟩ := r; exact ⟨p, vs, a, b, e _ _ c, dd.mono (Same.refl B) (Tups.of e)⟩
    | bor i => exact r.elim
    | dic kvs => obtain ⟨p, vs, a, b, c, dd⟩ := r; exact ⟨p, vs, a, b, e _ _ c, dd.mono (Same.refl B) (Tups.of e)⟩
  inj := s.inj
theorem Tr.same (e : Same H H') : Tr σ B ρ H B ρ H' := ⟨fun _ _ h _ => e _ _ h, Same.refl _, fun _ h => .inl h, fun _ => rfl, fun _ ds e => ⟨ds, e⟩⟩
theorem Same.bnone (s : Same B H) {p : Addr} (h : H p = none) : B p = none := by
  cases q : B p with
  | none => rfl
  | some o => rw [s p o q] at h; cases h
theorem RvV.rv (s : SR K B σ ρ H) (e : Same H H') (h : RvV K B H H' v r) : RvR K B σ ρ H H' v r := by
  cases r with
  | dat d => exact h
  | own ds =>
    obtain ⟨p, vs, a, b, c, dd⟩ := h
    exact ⟨p, vs, a, b, Same.bnone s.sub b, c, dd, fun z => by obtain ⟨ws, q, _⟩ := s.own z; rw [b] at q; cases q⟩
  | inn ds => exact h.elim
  | bor i => exact h.elim
  | dic kvs =>
    obtain ⟨p, vs, a, b, c, dd⟩ := h
    exact ⟨p, vs, a, b, Same.bnone s.sub b, c, dd, fun z => by obtain ⟨ws, q, _⟩ := s.own z; rw [b] at q; cases q⟩
theorem Tr.free (s' : SR K B' σ ρ' H') (t : Tr σ B ρ H B' ρ' H') {b : Addr} (h : H' b = none) : H b = none := by
  cases q : H b with
  | none => rfl
  | some o =>
    by_cases n : OwnAt σ ρ b
    · obtain ⟨vs, e, _⟩ := s'.own (t.ownAt.mpr n)
      rw [h] at e; cases e
    · rw [t.ext b o q n] at h; cases h
/-- the heap ahead may be an elder one -/
theorem RvR.early (s1 : SR K B1 σ ρ1 H1) (t : Tr σ B ρ H B1 ρ1 H1) (h : RvR K B2 σ ρ2 H1 H2 v r) : RvR K B2 σ ρ2 H H2 v r := by
  cases r with
  | own ds => obtain ⟨p, vs, a, b, c⟩ := h; exact ⟨p, vs, a, t.free s1 b, c⟩
  | dic kvs => obtain ⟨p, vs, a, b, c⟩ := h; exact ⟨p, vs, a, t.free s1 b, c⟩
  | _ => exact h
theorem XWof.lift {W : WX} {Xw : Value → En → Prop} (s1 : SR K B1 σ ρ1 H1) (t : Tr σ B ρ H B1 ρ1 H1) (h : XWof K W σ B ρ H Xw) : XWof K W σ B1 ρ1 H1 Xw :=
  fun c B' ρ' H' s' t' q => h c B' ρ' H' s' (t.trans s1 t') q
end

/-! ### primitives: soundness of a reading -/
def PP (K : PySem.W.Frag) (B H : Hp) (Qw : Sl → Prop) (Q : VK) : Prop := ∀ v sl H', Same H H' → RvV K B H H' v sl → Qw sl → Q v H'
abbrev G2 := D → D → (Sl → Prop) → Prop
abbrev G1 := D → (Sl → Prop) → Prop
abbrev GN := List D → (Sl → Prop) → Prop
def OpS (K : PySem.W.Frag) (r : R2) (g : G2) : Prop := ∀ (B H : Hp) (x y : V) (d e : D) (Qw : Sl → Prop) (Q : VK), Same B H → RdB K B H x d → RdB K B H y e → g d e Qw → PP K B H Qw Q → r x y H Q
def UnS (K : PySem.W.Frag) (r : V → Hp → VK → Prop) (g : G1) : Prop := ∀ (B H : Hp) (x : V) (d : D) (Qw : Sl → Prop) (Q : VK), Same B H → RdB K B H x d → g d Qw → PP K B H Qw Q → r x H Q
def CallS (K : PySem.W.Frag) (r : List V → Hp → VK → Prop) (g : GN) : Prop := ∀ (B H : Hp) (xs : List V) (ds : List D) (Qw : Sl → Prop) (Q : VK), Same B H → RdAll K B H xs ds → g ds Qw → PP K B H Qw Q → r xs H Q
theorem OpS.or {K : PySem.W.Frag} {r r' : R2} {g g' : G2} (h : OpS K r g) (h' : OpS K r' g') : OpS K (fun x y H Q => r x y H Q ∨ r' x y H Q) (fun d e Q => g d e Q ∨ g' d e Q) :=
  fun B H x y d e Qw Q s a b q p => q.elim (fun q => .inl (h B H x y d e Qw Q s a b q p)) fun q => .inr (h' B H x y d e Qw Q s a b q p)
theorem CallS.or {K : PySem.W.Frag} {r r' : List V → Hp → VK → Prop} {g g' : GN} (h : CallS K r g) (h' : CallS K r' g') : CallS K (fun x H Q => r x H Q ∨ r' x H Q) (fun d Q => g d Q ∨ g' d Q) :=
  fun B H x d Qw Q s a q p => q.elim (fun q => .inl (h B H x d Qw Q s a q p)) fun q => .inr (h' B H x d Qw Q s a q p)

/-! ### expressions -/
def wVar (i : Nat) : EW := fun ρ Q _ => match ρ[i]? with
  | some (some (.dat d)) => Q (.dat d) ρ
  | some (some (.own _)) => Q (.bor i) ρ
  | some (some (.inn _)) => Q (.bor i) ρ
  | some (some (.dic _)) => Q (.bor i) ρ
  | _ => False
def wC (d : D) : EW := fun ρ Q _ => Q (.dat d) ρ
def wOp (g : G2) (wa wb : EW) : EW := fun ρ Q X => wa ρ (fun a ρ1 => wb ρ1 (fun b ρ2 => withC ρ2 a fun d => withC ρ2 b fun e => g d e fun r => Q r ρ2) X) X
def wUn (g : G1) (wa : EW) : EW := fun ρ Q X => wa ρ (fun a ρ1 => withC ρ1 a fun d => g d fun r => Q r ρ1) X
def wNil : AW := fun ρ Q _ => Q [] ρ
def wCons (wa : EW) (wr : AW) : AW := fun ρ Q X => wa ρ (fun a ρ1 => wr ρ1 (fun rs ρ2 => Q (a :: rs) ρ2) X) X
def wCB (g : GN) (wa : AW) : EW := fun ρ Q X => wa ρ (fun rs ρ1 => withCs ρ1 rs fun ds => g ds fun r => Q r ρ1) X

section
variable {K : PySem.W.Frag} {W : WX}
theorem sim_var (i : Nat) : SimE K W (tVar i) (wVar i) := by
  intro B σ ρ H Qw Xw Q s h hx q
  unfold wVar at h
  cases e : ρ[i]? with
  | none => rw [e] at h; exact h.elim
  | some o =>
    rw [e] at h
    cases o with
    | none => exact h.elim
    | some sl =>
      obtain ⟨v, hv, r⟩ := s.slot i sl e
      cases sl with
      | dat d => exact ⟨v, hv, q v (.dat d) B ρ H s (Tr.refl ..) r h⟩
      | own ds => exact ⟨v, hv, q v (.bor i) B ρ H s (Tr.refl ..) ⟨by rw [e]; rfl, hv⟩ h⟩
      | inn ds => exact ⟨v, hv, q v (.bor i) B ρ H s (Tr.refl ..) ⟨by rw [e]; rfl, hv⟩ h⟩
      | dic kvs => exact ⟨v, hv, q v (.bor i) B ρ H s (Tr.refl ..) ⟨by rw [e]; rfl, hv⟩ h⟩
      | bor j => exact h.elim
theorem sim_c {v : V} {d : D} (h : ∀ B H, Ip K B H v d) : SimE K W (tC v) (wC d) :=
  fun B σ ρ H Qw Xw Q s hw hx q => q v (.dat d) B ρ H s (Tr.refl ..) (h B H) hw
theorem sim_op {r : R2} {g : G2} {ta tb : TE} {wa wb : EW} (o : OpS K r g) (ha : SimE K W ta wa) (hb : SimE K W tb wb) : SimE K W (tOp r ta tb) (wOp g wa wb) := by
  intro B σ ρ H Qw Xw Q s h hx q
  refine ha B σ ρ H _ Xw _ s h hx fun v r1 B1 ρ1 H1 s1 t1 rv1 q1 => ?_
  refine hb B1 σ ρ1 H1 _ Xw _ s1 q1 (hx.lift s1 t1) fun u r2 B2 ρ2 H2 s2 t2 rv2 q2 => ?_
  obtain ⟨d, e1, q2⟩ := withC_some q2
  obtain ⟨e, e2, q2⟩ := withC_some q2
  have t12 := t1.trans s1 t2
  refine o B2 H2 v u d e _ Q s2.sub ((rv1.lift s1 t2).rd s2 e1) (rv2.rd s2 e2) q2 fun z sl H' sm rv qq => ?_
  exact q z sl B2 ρ2 H' (s2.same sm) (t12.trans s2 (Tr.same sm)) ((rv.rv s2 sm).early s2 t12) qq
theorem sim_un {r : V → Hp → VK → Prop} {g : G1} {ta : TE} {wa : EW} (o : UnS K r g) (ha : SimE K W ta wa) : SimE K W (tUn r ta) (wUn g wa) := by
  intro B σ ρ H Qw Xw Q s h hx q
  refine ha B σ ρ H _ Xw _ s h hx fun v r1 B1 ρ1 H1 s1 t1 rv1 q1 => ?_
  obtain ⟨d, e1, q1⟩ := withC_some q1
  refine o B1 H1 v d _ Q s1.sub (rv1.rd s1 e1) q1 fun z sl H' sm rv qq => ?_
  exact q z sl B1 ρ1 H' (s1.same sm) (t1.trans s1 (Tr.same sm)) ((rv.rv s1 sm).early s1 t1) qq
theorem sim_nil : SimA K W tNil wNil := fun B σ ρ H Qw Xw Q s h hx q => q [] [] B ρ H s (Tr.refl ..) .nil h
theorem sim_cons {ta : TE} {tr : TA} {wa : EW} {wr : AW} (ha : SimE K W ta wa) (hr : SimA K W tr wr) : SimA K W (tCons ta tr) (wCons wa wr) := by
  intro B σ ρ H Qw Xw Q s h hx q
  refine ha B σ ρ H _ Xw _ s h hx fun v r1 B1 ρ1 H1 s1 t1 rv1 q1 => ?_
  refine hr B1 σ ρ1 H1 _ Xw _ s1 q1 (hx.lift s1 t1) fun vs rs B2 ρ2 H2 s2 t2 rv2 q2 => ?_
  refine q (v :: vs) (r1 :: rs) B2 ρ2 H2 s2 (t1.trans s1 t2) (.cons (rv1.lift s1 t2) (fun b hb => t1.free s1 hb) (fun p ds e1 e2 => ?_) rv2) q2
  subst e1
  obtain ⟨p', vs', e, _, _, hp, _⟩ := rv1
  rw [e2] at e; cases e
  rw [hp]; simp
theorem sim_cb {r : List V → Hp → VK → Prop} {g : GN} {ta : TA} {wa : AW} (o : CallS K r g) (ha : SimA K W ta wa) : SimE K W (tCB r ta) (wCB g wa) := by
  intro B σ ρ H Qw Xw Q s h hx q
  refine ha B σ ρ H _ Xw _ s h hx fun vs rs B1 ρ1 H1 s1 t1 rv1 q1 => ?_
  obtain ⟨ds, e1, q1⟩ := withCs_some q1
  refine o B1 H1 vs ds _ Q s1.sub (rv1.rd s1 e1) q1 fun z sl H' sm rv qq => ?_
  exact q z sl B1 ρ1 H' (s1.same sm) (t1.trans s1 (Tr.same sm)) ((rv.rv s1 sm).early s1 t1) qq
end

section
variable {X : Cx} {W : WX} {a b e : Expr} {es : List Expr} {wa wb : EW} {wr : AW} {pos p : Pos}
theorem de_var (i : Nat) {x : Str} (hN : X.N[i]? = some x := by rfl) (hv : Vis X.env.scope x := by first | exact Or.inl rfl | exact Or.inr (Or.inl rfl) | exact Or.inr (Or.inr rfl)) (hd : (x == ("__debug__" : Str)) = false := by decide)
    (hcd : (x == ("__classdict__" : Str)) = false := by decide) : DE X W (.Name x pos) (wVar i) := ⟨_, pe_var hN hv hd hcd, sim_var i⟩
theorem de_int {i j} : DE X W (.Constant (.int i) j pos) (wC (.int i)) := ⟨_, pe_int, sim_c fun _ _ => .int i⟩
theorem de_bl {i j} : DE X W (.Constant (.bool i) j pos) (wC (.bl i)) := ⟨_, pe_bl, sim_c fun _ _ => .bl i⟩
theorem de_op {op : Operator} {r : R2} {g : G2} (ho : OpR X (binaryOp op) r) (o : OpS X.K r g) (ha : DE X W a wa) (hb : DE X W b wb) : DE X W (.BinOp a op b pos) (wOp g wa wb) := by
  obtain ⟨ta, pa, sa⟩ := ha.ok
  obtain ⟨tb, pb, sb⟩ := hb.ok
  exact ⟨_, pe_op ho pa pb, sim_op o sa sb⟩
theorem de_un {op : UnaryOp} {r : V → Hp → VK → Prop} {g : G1} (ho : UnR X (unaryOp op) r) (o : UnS X.K r g) (ha : DE X W a wa) : DE X W (.UnaryOp op a pos) (wUn g wa) := by
  obtain ⟨ta, pa, sa⟩ := ha.ok
  exact ⟨_, pe_un ho pa, sim_un o sa⟩
theorem de_cmp {op : CmpOp} {r : R2} {g : G2} (ho : OpR X (compareOp op) r) (o : OpS X.K r g) (ha : DE X W a wa) (hb : DE X W b wb) (hm : behindInMarks op b = false) : DE X W (.Compare a [op] [b] pos) (wOp g wa wb) := by
  obtain ⟨ta, pa, sa⟩ := ha.ok
  obtain ⟨tb, pb, sb⟩ := hb.ok
  exact ⟨_, pe_cmpR ho pa pb hm, sim_op o sa sb⟩
theorem da_nil : DA X W [] wNil := ⟨_, pa_nil, sim_nil⟩
theorem da_cons (ha : DE X W e wa) (hr : DA X W es wr) (hs : starEach (e :: es) X.env = (false, eval e X.env) :: starEach es X.env := by rfl) : DA X W (e :: es) (wCons wa wr) := by
  obtain ⟨ta, pa, sa⟩ := ha.ok
  obtain ⟨tr, pr, sr⟩ := hr.ok
  exact ⟨_, pa_cons pa pr hs, sim_cons sa sr⟩
theorem de_cb {x : Str} {id : String} {r : List V → Hp → VK → Prop} {g : GN} (hc : CallR X (.builtin id) r) (o : CallS X.K r g) (hg : Gl X x) (hm : X.mg x = none) (hv : bootBuiltins x = some (.builtin id)) (ha : DA X W (e :: es) wr) (hn : x ≠ "__name__" := by decide) (hdb : (x == ("__debug__" : Str)) = false := by decide)
    (he : starEach (e :: es) X.env = (false, eval e X.env) :: starEach es X.env := by rfl) (hpl : (backTo pos (starEach es X.env)).any (·.1) = false := by rfl) : DE X W (.Call (.Name x p) (e :: es) [] pos) (wCB g wr) := by
  obtain ⟨ta, pa, sa⟩ := ha.ok
  exact ⟨_, pe_callB hc hg hm hv pa hn hdb he hpl, sim_cb o sa⟩
theorem de_ct {x : Str} {T : String} {r : List V → Hp → VK → Prop} {g : GN} (hc : CallR X (.type T) r) (o : CallS X.K r g) (hg : Gl X x) (hm : X.mg x = none) (hv : bootBuiltins x = some (.type T)) (ha : DA X W (e :: es) wr) (hn : x ≠ "__name__" := by decide) (hdb : (x == ("__debug__" : Str)) = false := by decide)
    (he : starEach (e :: es) X.env = (false, eval e X.env) :: starEach es X.env := by rfl) (hpl : (backTo pos (starEach es X.env)).any (·.1) = false := by rfl) : DE X W (.Call (.Name x p) (e :: es) [] pos) (wCB g wr) := by
  obtain ⟨ta, pa, sa⟩ := ha.ok
  exact ⟨_, pe_callTy hc hg hm hv pa hn hdb he hpl, sim_cb o sa⟩
end
end DL

set_option Elab.async false
set_option linter.all false
set_option maxRecDepth 100000
set_option maxHeartbeats 4000000
/-! DLc: tests, displays, calls of defs, changes of one's own lists. -/
namespace DL
open PySem L2

/-! ### tests -/
def wTru (wa : EW) : TWs := fun ρ Q X => wa ρ (fun a ρ1 => withC ρ1 a fun d => match d with
  | .bl b => Q b ρ1
  | .non => Q false ρ1
  | .int i => Q (i != 0) ρ1
  | .tup ds => Q (!ds.isEmpty) ρ1
  | .lst ds => Q (!ds.isEmpty) ρ1
  | _ => False) X
def wAnd (wa wb : TWs) : TWs := fun ρ Q X => wa ρ (fun c ρ1 => if c = true then wb ρ1 Q X else Q false ρ1) X
def wOr (wa wb : TWs) : TWs := fun ρ Q X => wa ρ (fun c ρ1 => if c = true then Q true ρ1 else wb ρ1 Q X) X
def wNot (wa : TWs) : TWs := fun ρ Q X => wa ρ (fun c ρ1 => Q (!c) ρ1) X
def wIfE (wc : TWs) (wa wb : EW) : EW := fun ρ Q X => wc ρ (fun c ρ1 => if c = true then wa ρ1 Q X else wb ρ1 Q X) X
section
variable {K : PySem.W.Frag} {W : WX}
theorem IpAll.isEmpty {B H : Hp} {vs : List V} {ds : List D} (h : IpAll K B H vs ds) : (!ds.isEmpty) = !vs.isEmpty := by
  cases h <;> rfl
theorem sim_tru {ta : TE} {wa : EW} (ha : SimE K W ta wa) : SimT K W (fun σ H Q => ta σ H fun x H' => ∃ k, TruV K x H' k ∧ Q k H') (wTru wa) := by
  intro B σ ρ H Qw Xw Q s h hx q
  refine ha B σ ρ H _ Xw _ s h hx fun v r1 B1 ρ1 H1 s1 t1 rv1 q1 => ?_
  obtain ⟨d, e1, q1⟩ := withC_some q1
  have rd := rv1.rd s1 e1
  cases d with
  | bl b => cases rd; exact ⟨b, rfl, q _ _ _ _ s1 t1 q1⟩
  | non => cases rd; exact ⟨false, rfl, q _ _ _ _ s1 t1 q1⟩
  | int i => cases rd; exact ⟨_, rfl, q _ _ _ _ s1 t1 q1⟩
  | tup ds => cases rd with | tup hh hd => exact ⟨_, .inr (.inl ⟨_, hh.sq, hd.isEmpty⟩), q _ _ _ _ s1 t1 q1⟩
  | lst ds => obtain ⟨a, xs, rfl, hh, hd⟩ := rd; exact ⟨_, .inl ⟨_, hh, hd.isEmpty⟩, q _ _ _ _ s1 t1 q1⟩
  | str x => exact q1.elim
  | adr x => exact q1.elim
  | ty x => exact q1.elim
  | obj _ _ _ => exact q1.elim
  | fl _ => exact q1.elim
  | tpx _ => exact q1.elim
  | exc _ => exact q1.elim
  | dct _ => exact q1.elim
  | dcu _ => exact q1.elim
  | ml _ => exact q1.elim
  | kl _ => exact q1.elim
theorem sim_trub {t : TE} {wa : EW} (ha : SimE K W t wa) : SimT K W (tTest t) (fun ρ Q X => wa ρ (fun a ρ1 => match a with | .dat (.bl b) => Q b ρ1 | _ => False) X) := by
  intro B σ ρ H Qw Xw Q s h hx q
  refine ha B σ ρ H _ Xw _ s h hx fun v r1 B1 ρ1 H1 s1 t1 rv1 q1 => ?_
  cases r1 with
  | dat d =>
    cases d with
    | bl b => cases rv1; exact ⟨b, rfl, q _ _ _ _ s1 t1 q1⟩
    | _ => exact q1.elim
  | _ => exact q1.elim
theorem sim_and {ta tb : TT} {wa wb : TWs} (ha : SimT K W ta wa) (hb : SimT K W tb wb) : SimT K W (tAnd ta tb) (wAnd wa wb) := by
  intro B σ ρ H Qw Xw Q s h hx q
  refine ha B σ ρ H _ Xw _ s h hx fun c B1 ρ1 H1 s1 t1 q1 => ?_
  cases c with
  | true => exact hb B1 σ ρ1 H1 Qw Xw Q s1 q1 (hx.lift s1 t1) fun b B2 ρ2 H2 s2 t2 q2 => q b B2 ρ2 H2 s2 (t1.trans s1 t2) q2
  | false => exact q _ _ _ _ s1 t1 q1
theorem sim_or {ta tb : TT} {wa wb : TWs} (ha : SimT K W ta wa) (hb : SimT K W tb wb) : SimT K W (tOr ta tb) (wOr wa wb) := by
  intro B σ ρ H Qw Xw Q s h hx q
  refine ha B σ ρ H _ Xw _ s h hx fun c B1 ρ1 H1 s1 t1 q1 => ?_
  cases c with
  | false => exact hb B1 σ ρ1 H1 Qw Xw Q s1 q1 (hx.lift s1 t1) fun b B2 ρ2 H2 s2 t2 q2 => q b B2 ρ2 H2 s2 (t1.trans s1 t2) q2
  | true => exact q _ _ _ _ s1 t1 q1
theorem sim_not {ta : TT} {wa : TWs} (ha : SimT K W ta wa) : SimT K W (tNot ta) (wNot wa) := by
  intro B σ ρ H Qw Xw Q s h hx q
  exact ha B σ ρ H _ Xw _ s h hx fun c B1 ρ1 H1 s1 t1 q1 => q _ _ _ _ s1 t1 q1
/-- a test as a value: True or False -/
def wBv (w : TWs) : EW := fun ρ Q X => w ρ (fun c ρ1 => Q (.dat (.bl c)) ρ1) X
theorem sim_andV {ta tb : TE} {wa wb : EW} (ha : SimE K W ta wa) (hb : SimE K W tb wb) : SimE K W (tAndV ta tb) (fun ρ Q X => wa ρ (fun a ρ1 => match a with | .dat (.bl c) => if c = true then wb ρ1 Q X else Q (.dat (.bl false)) ρ1 | _ => False) X) := by
  intro B σ ρ H Qw Xw Q s h hx q
  refine ha B σ ρ H _ Xw _ s h hx fun v r1 B1 ρ1 H1 s1 t1 rv1 q1 => ?_
  cases r1 with
  | dat d =>
    cases d with
    | bl c =>
      cases rv1
      refine ⟨c, rfl, ?_⟩
      cases c with
      | true => exact hb B1 σ ρ1 H1 Qw Xw Q s1 q1 (hx.lift s1 t1) fun v r B2 ρ2 H2 s2 t2 rv q2 => q v r B2 ρ2 H2 s2 (t1.trans s1 t2) (rv.early s1 t1) q2
      | false => exact q _ (.dat (.bl false)) _ _ _ s1 t1 (.bl false) q1
    | _ => exact q1.elim
  | _ => exact q1.elim
theorem sim_notV {ta : TE} {wa : EW} (ha : SimE K W ta wa) : SimE K W (tNotV ta) (fun ρ Q X => wa ρ (fun a ρ1 => match a with | .dat (.bl c) => Q (.dat (.bl (!c))) ρ1 | _ => False) X) := by
  intro B σ ρ H Qw Xw Q s h hx q
  refine ha B σ ρ H _ Xw _ s h hx fun v r1 B1 ρ1 H1 s1 t1 rv1 q1 => ?_
  cases r1 with
  | dat d =>
    cases d with
    | bl c => cases rv1; exact ⟨c, rfl, q _ (.dat (.bl (!c))) _ _ _ s1 t1 (.bl _) q1⟩
    | _ => exact q1.elim
  | _ => exact q1.elim
end
def wAndV (wa wb : EW) : EW := fun ρ Q X => wa ρ (fun a ρ1 => match a with | .dat (.bl c) => if c = true then wb ρ1 Q X else Q (.dat (.bl false)) ρ1 | _ => False) X
def wOrV (wa wb : EW) : EW := fun ρ Q X => wa ρ (fun a ρ1 => match a with | .dat (.bl c) => if c = true then Q (.dat (.bl true)) ρ1 else wb ρ1 Q X | _ => False) X
def wNotV (wa : EW) : EW := fun ρ Q X => wa ρ (fun a ρ1 => match a with | .dat (.bl c) => Q (.dat (.bl (!c))) ρ1 | _ => False) X
def wTb (wa : EW) : TWs := fun ρ Q X => wa ρ (fun a ρ1 => match a with | .dat (.bl b) => Q b ρ1 | _ => False) X
structure DW (X : Cx) (W : WX) (e : Expr) (w : TWs) : Prop where
  ok : ∃ t, PW X e t ∧ SimT X.K W t w
section
variable {X : Cx} {W : WX} {a b c e : Expr} {rest : List Expr} {wa wb : EW} {ta tb : TWs} {pos p : Pos}
theorem dt_tru (ha : DE X W a wa) (he : ∀ whole, isTrue a X.env whole = (do let v ← whole; standAt a.pos; holding [v] (truthy v)) := by intro _; rfl) : DT X W a (wTru wa) := by
  obtain ⟨t, pa, sa⟩ := ha.ok
  exact ⟨_, pt_truth pa he, sim_tru sa⟩
theorem dt_cmp {op : CmpOp} {r : R2} {g : G2} (ho : OpR X (compareOp op) r) (o : OpS X.K r g) (ha : DE X W a wa) (hb : DE X W b wb) (hm : behindInMarks op b = false) : DT X W (.Compare a [op] [b] pos) (wTb (wOp g wa wb)) := by
  obtain ⟨t1, pa, sa⟩ := ha.ok
  obtain ⟨t2, pb, sb⟩ := hb.ok
  exact ⟨_, pt_cmpR ho pa pb hm, sim_trub (sim_op o sa sb)⟩
theorem dw_and1 (ha : DT X W a ta) : DW X W (.BoolOp .And [a] pos) ta := by
  obtain ⟨t, pa, sa⟩ := ha.ok
  exact ⟨_, pw_and1 pa, sa⟩
theorem dw_or1 (ha : DT X W a ta) : DW X W (.BoolOp .Or [a] pos) ta := by
  obtain ⟨t, pa, sa⟩ := ha.ok
  exact ⟨_, pw_or1 pa, sa⟩
theorem dw_and (ha : DT X W a ta) (hb : DW X W (.BoolOp .And (b :: rest) pos) tb) : DW X W (.BoolOp .And (a :: b :: rest) pos) (wAnd ta tb) := by
  obtain ⟨t, pa, sa⟩ := ha.ok
  obtain ⟨t2, pb, sb⟩ := hb.ok
  exact ⟨_, pw_and pa pb, sim_and sa sb⟩
theorem dw_or (ha : DT X W a ta) (hb : DW X W (.BoolOp .Or (b :: rest) pos) tb) : DW X W (.BoolOp .Or (a :: b :: rest) pos) (wOr ta tb) := by
  obtain ⟨t, pa, sa⟩ := ha.ok
  obtain ⟨t2, pb, sb⟩ := hb.ok
  exact ⟨_, pw_or pa pb, sim_or sa sb⟩
theorem dt_w (ha : DW X W e ta) : DT X W e ta := by
  obtain ⟨t, pa, sa⟩ := ha.ok
  exact ⟨_, pa.pt, sa⟩
theorem dt_not (ha : DT X W a ta) : DT X W (.UnaryOp .Not a pos) (wNot ta) := by
  obtain ⟨t, pa, sa⟩ := ha.ok
  exact ⟨_, pt_not pa, sim_not sa⟩
theorem de_one {op} (ha : DE X W a wa) : DE X W (.BoolOp op [a] pos) wa := by
  obtain ⟨t, pa, sa⟩ := ha.ok
  exact ⟨_, pe_one pa, sa⟩
theorem de_and (ha : DE X W a wa) (hb : DE X W (.BoolOp .And (b :: rest) pos) wb) : DE X W (.BoolOp .And (a :: b :: rest) pos) (wAndV wa wb) := by
  obtain ⟨t, pa, sa⟩ := ha.ok
  obtain ⟨t2, pb, sb⟩ := hb.ok
  exact ⟨_, pe_and pa pb, sim_andV sa sb⟩
theorem de_not (ha : DE X W a wa) : DE X W (.UnaryOp .Not a pos) (wNotV wa) := by
  obtain ⟨t, pa, sa⟩ := ha.ok
  exact ⟨_, pe_not pa, sim_notV sa⟩
end

/-! ### lists given away -/
/-- as data: a new list is given away -/
def dats : List Sl → Option (List D)
  | [] => some []
  | .dat d :: rs => (dats rs).map (d :: ·)
  | .own ds :: rs => (dats rs).map (.lst ds :: ·)
  | _ => none
def withD (rs : List Sl) (k : List D → Prop) : Prop := match dats rs with
  | some ds => k ds
  | none => False
theorem withD_some {rs : List Sl} {k : List D → Prop} (h : withD rs k) : ∃ ds, dats rs = some ds ∧ k ds := by
  unfold withD at h
  cases e : dats rs with
  | none => rw [e] at h; exact h.elim
  | some d => rw [e] at h; exact ⟨d, rfl, h⟩
section
variable {K : PySem.W.Frag} {B B' H H' H0 H1 : Hp} {σ : St} {ρ ρ' : En}
theorem upd_same_sub {p : Addr} {o : HO} (h : B p = none) : Same B (upd B p o) := fun b x e => by
  rw [upd_ne (ne_of_none e h)]; exact e
theorem SR.grow (s : SR K B σ ρ H) (bb : Same B B') (sub : Same B' H) (no : ∀ b, OwnAt σ ρ b → B' b = none) : SR K B' σ ρ H where
  len := s.len
  sub := sub
  slot := fun i sl h => by
    obtain ⟨v, hv, r⟩ := s.slot i sl h
    refine ⟨v, hv, ?_⟩
    cases sl with
    | dat d => exact Ip.mono bb (Tups.of (Same.refl H)) r
    | own ds => obtain ⟨p, vs, a, b, c, dd⟩ := r; subst a; exact ⟨p, vs, rfl, no p ⟨i, by rw [h]; rfl, hv⟩, c, dd.mono bb (Tups.of (Same.refl H))⟩
    | inn ds => obtain ⟨p, vs, a, b, c, dd⟩ := r; subst a; exact ⟨p, vs, rfl, no p ⟨i, by rw [h]; rfl, hv⟩, c, dd.mono bb (Tups.of (Same.refl H))⟩
    | bor i => exact r.elim
    | dic kvs => obtain ⟨p, vs, a, b, c, dd⟩ := r; subst a; exact ⟨p, vs, rfl, no p ⟨i, by rw [h]; rfl, hv⟩, c, dd.mono bb (Tups.of (Same.refl H))⟩
  inj := s.inj
def newV : Sl → Bool
  | .own _ => true
  | .dic _ => true
  | _ => false
theorem RvR.bmono (bb : Same B B') {v : V} {r : Sl} (h : RvR K B σ ρ H0 H v r) (no : ∀ p, newV r = true → v = .ref p → B' p = none) : RvR K B' σ ρ H0 H v r := by
  cases r with
  | dat d => exact Ip.mono bb (Tups.of (Same.refl H)) h
  | own ds => obtain ⟨p, vs, a, b, c, e, f, g⟩ := h; exact ⟨p, vs, a, b, no p rfl a, e, f.mono bb (Tups.of (Same.refl H)), g⟩
  | dic kvs => obtain ⟨p, vs, a, b, c, e, f, g⟩ := h; exact ⟨p, vs, a, b, no p rfl a, e, f.mono bb (Tups.of (Same.refl H)), g⟩
  | inn ds => exact h
  | bor i => exact h
theorem RvAll.bmono (bb : Same B B') {vs : List V} {rs : List Sl} (h : RvAll K B σ ρ H H0 vs rs) (no : ∀ b, H0 b = none → B b = none → B' b = none) : RvAll K B' σ ρ H H0 vs rs := by
  induction h with
  | nil => exact .nil
  | @cons H0 H1 v vs r rs h1 h2 h3 h4 ih =>
    refine .cons (h1.bmono bb fun p e1 e2 => ?_) h2 h3 (ih fun b hb hb2 => no b (h2 b hb) hb2)
    cases r with
    | own ds =>
      obtain ⟨p', ws, a, b, c, _⟩ := h1
      rw [e2] at a; cases a
      exact no p b c
    | dic kvs =>
      obtain ⟨p', ws, a, b, c, _⟩ := h1
      rw [e2] at a; cases a
      exact no p b c
    | _ => cases e1
theorem RvAll.freeze : ∀ {rs : List Sl} {vs : List V} {B H0 : Hp}, RvAll K B σ ρ H H0 vs rs → SR K B σ ρ H → ∀ {ds : List D}, dats rs = some ds →
    ∃ B', SR K B' σ ρ H ∧ Same B B' ∧ (∀ b, B' b ≠ none → B b ≠ none ∨ H0 b = none) ∧ IpAll K B' H vs ds
  | [], _, B, _, .nil, s, _, e => by cases e; exact ⟨B, s, Same.refl _, fun _ h => .inl h, .nil⟩
  | .dat d :: rs, _, B, _, .cons h1 h2 h3 h4, s, ds, e => by
      cases e2 : dats rs with
      | none => rw [dats, e2] at e; cases e
      | some ds' =>
        rw [dats, e2] at e; cases e
        obtain ⟨B', s', bb, bn, ia⟩ := RvAll.freeze h4 s e2
        exact ⟨B', s', bb, fun b hb => (bn b hb).imp id (h2 b), .cons (Ip.mono bb (Tups.of (Same.refl H)) h1) ia⟩
  | .own dl :: rs, _, B, _, .cons h1 h2 h3 h4, s, ds, e => by
      cases e2 : dats rs with
      | none => rw [dats, e2] at e; cases e
      | some ds' =>
        rw [dats, e2] at e; cases e
        obtain ⟨p, ws, ev, f0, nb, hp, iw, no⟩ := h1
        have bb1 : Same B (upd B p (.lst ws)) := upd_same_sub nb
        have s1 : SR K (upd B p (.lst ws)) σ ρ H := s.grow bb1 (fun b o q => by
          by_cases hb : b = p
          · subst hb; rw [upd_same] at q; cases q; exact hp
          · rw [upd_ne hb] at q; exact s.sub b o q) (fun b ob => by
          have hb : b ≠ p := fun z => no (z ▸ ob)
          rw [upd_ne hb]
          obtain ⟨_, _, q, _⟩ := s.own ob
          exact q)
        have h4' := h4.bmono bb1 fun b hb hb2 => by
          have hne : b ≠ p := fun z => h3 p dl rfl ev (z ▸ hb)
          rw [upd_ne hne]; exact hb2
        obtain ⟨B', s', bb, bn, ia⟩ := RvAll.freeze h4' s1 e2
        refine ⟨B', s', bb1.trans bb, fun b hb => ?_, .cons ?_ ia⟩
        · rcases bn b hb with z | z
          · by_cases hbp : b = p
            · subst hbp; exact .inr f0
            · rw [upd_ne hbp] at z; exact .inl z
          · exact .inr (h2 b z)
        · subst ev
          exact .lst (.inl (.inl (bb p _ upd_same))) (iw.mono (bb1.trans bb) (Tups.of (Same.refl H)))
  | .inn _ :: _, _, _, _, _, _, _, e => by cases e
  | .bor _ :: _, _, _, _, _, _, _, e => by cases e
end
def wTup (wa : AW) : EW := fun ρ Q X => wa ρ (fun rs ρ1 => withD rs fun ds => ds.length ≤ sizeLine ∧ Q (.dat (.tup ds)) ρ1) X
def wLst (wa : AW) : EW := fun ρ Q X => wa ρ (fun rs ρ1 => withD rs fun ds => ds.length ≤ sizeLine ∧ Q (.own ds) ρ1) X
section
variable {K : PySem.W.Frag} {W : WX} {ta : TA} {wa : AW}
theorem sim_tup (ha : SimA K W ta wa) : SimE K W (tTup ta) (wTup wa) := by
  intro B σ ρ H Qw Xw Q s h hx q
  refine ha B σ ρ H _ Xw _ s h hx fun vs rs B1 ρ1 H1 s1 t1 rv1 q1 => ?_
  obtain ⟨ds, e1, hl, q1⟩ := withD_some q1
  obtain ⟨B2, s2, bb, bn, ia⟩ := rv1.freeze s1 e1
  refine ⟨by rw [ia.length]; exact hl, fun p hp => ?_⟩
  have sm : Same H1 (upd H1 p (.tup vs)) := fun b o e => by rw [upd_ne (ne_of_none e hp)]; exact e
  have t2 : Tr σ B ρ H B2 ρ1 H1 := ⟨t1.ext, t1.bex.trans bb, fun b hb => (bn b hb).elim (fun z => t1.bnew b z) .inr, t1.shp, t1.shi⟩
  refine q (.ref p) (.dat (.tup ds)) B2 ρ1 _ (s2.same sm) (t2.trans s2 (Tr.same sm)) ?_ q1
  exact .tup (.inl upd_same) (ia.mono (Same.refl _) (Tups.of sm))
theorem sim_lst (ha : SimA K W ta wa) : SimE K W (tLst ta) (wLst wa) := by
  intro B σ ρ H Qw Xw Q s h hx q
  refine ha B σ ρ H _ Xw _ s h hx fun vs rs B1 ρ1 H1 s1 t1 rv1 q1 => ?_
  obtain ⟨ds, e1, hl, q1⟩ := withD_some q1
  obtain ⟨B2, s2, bb, bn, ia⟩ := rv1.freeze s1 e1
  refine ⟨by rw [ia.length]; exact hl, fun p hp => ?_⟩
  have sm : Same H1 (upd H1 p (.lst vs)) := fun b o e => by rw [upd_ne (ne_of_none e hp)]; exact e
  have t2 : Tr σ B ρ H B2 ρ1 H1 := ⟨t1.ext, t1.bex.trans bb, fun b hb => (bn b hb).elim (fun z => t1.bnew b z) .inr, t1.shp, t1.shi⟩
  have rv : RvV K B2 H1 (upd H1 p (.lst vs)) (.ref p) (.own ds) := ⟨p, vs, rfl, hp, upd_same, ia.mono (Same.refl _) (Tups.of sm)⟩
  exact q (.ref p) (.own ds) B2 ρ1 _ (s2.same sm) (t2.trans s2 (Tr.same sm)) ((rv.rv s2 sm).early s2 t2) q1
end
section
variable {X : Cx} {W : WX} {es : List Expr} {wa : AW} {pos : Pos}
theorem de_tup {x1} (h : DA X W es wa) : DE X W (.Tuple es x1 pos) (wTup wa) := by
  obtain ⟨t, pa, sa⟩ := h.ok
  exact ⟨_, pe_tup pa, sim_tup sa⟩
theorem de_lst (h : DA X W es wa) : DE X W (.List es pos) (wLst wa) := by
  obtain ⟨t, pa, sa⟩ := h.ok
  exact ⟨_, pe_lst pa, sim_lst sa⟩
end
end DL

set_option Elab.async false
set_option linter.all false
set_option maxRecDepth 100000
set_option maxHeartbeats 4000000
/-! DLd: one's own lists changed; defs called. -/
namespace DL
open PySem L2

def H00 : Hp := fun _ => none
theorem same00 {H : Hp} : Same H00 H := fun _ _ e => by cases e
/-- the list in slot i has other items now -/
def setOwn (ρ : En) (i : Nat) (ds : List D) : En := match ρ[i]? with
  | some (some (.own _)) => ρ.set i (some (.own ds))
  | some (some (.inn _)) => ρ.set i (some (.inn ds))
  | _ => ρ
def withO (ρ : En) (i : Nat) (k : List D → Prop) : Prop := match ρ[i]? with
  | some (some (.own ds)) => k ds
  | some (some (.inn ds)) => k ds
  | _ => False
theorem withO_some {ρ : En} {i : Nat} {k : List D → Prop} (h : withO ρ i k) : ∃ ds, (ρ[i]? = some (some (.own ds)) ∨ ρ[i]? = some (some (.inn ds))) ∧ k ds := by
  unfold withO at h
  cases e : ρ[i]? with
  | none => rw [e] at h; exact h.elim
  | some o =>
    rw [e] at h
    cases o with
    | none => exact h.elim
    | some sl =>
      cases sl with
      | dat d => exact h.elim
      | own ds => exact ⟨ds, .inl rfl, h⟩
      | inn ds => exact ⟨ds, .inr rfl, h⟩
      | bor j => exact h.elim
      | dic kvs => exact h.elim
/-- a list's slot -/
def isLst : Option (Option Sl) → Bool
  | some (some (.own _)) => true
  | some (some (.inn _)) => true
  | _ => false
theorem isLst_some {ρ : En} {i : Nat} (h : isLst ρ[i]? = true) : ∃ ds, ρ[i]? = some (some (.own ds)) ∨ ρ[i]? = some (some (.inn ds)) := by
  cases e : ρ[i]? with
  | none => rw [e] at h; cases h
  | some o =>
    cases o with
    | none => rw [e] at h; cases h
    | some sl =>
      cases sl with
      | own ds => exact ⟨ds, .inl rfl⟩
      | inn ds => exact ⟨ds, .inr rfl⟩
      | _ => rw [e] at h; cases h
theorem isLst_own {ρ : En} {i : Nat} (h : isLst ρ[i]? = true) : isOwn ρ[i]? = true := by
  obtain ⟨ds, e | e⟩ := isLst_some h <;> rw [e] <;> rfl
section
variable {K : PySem.W.Frag} {B B' H H' H0 H1 : Hp} {σ : St} {ρ ρ' : En}
theorem setOwn_own {i : Nat} {ds es : List D} (e : ρ[i]? = some (some (.own ds))) : setOwn ρ i es = ρ.set i (some (.own es)) := by
  unfold setOwn; rw [e]
theorem setOwn_inn {i : Nat} {ds es : List D} (e : ρ[i]? = some (some (.inn ds))) : setOwn ρ i es = ρ.set i (some (.inn es)) := by
  unfold setOwn; rw [e]
/-- what is one's own is changed -/
theorem SR.mutG (s : SR K B σ ρ H) {i : Nat} {p : Addr} {sl' : Sl} (ho : isOwn ρ[i]? = true) (hp : σ[i]? = some (some (.ref p)))
    (ext : ∀ b o, H b = some o → b ≠ p → H' b = some o) (hsl : isOwn (some (some sl')) = true) (hinn : ∀ ds, ρ[i]? = some (some (.inn ds)) → ∃ ds', sl' = .inn ds') (r' : Tups H H' → SlR K B H' (.ref p) sl') : SR K B σ (ρ.set i (some sl')) H' ∧ Tr σ B ρ H B (ρ.set i (some sl')) H' := by
  have own : OwnAt σ ρ p := ⟨i, ho, hp⟩
  obtain ⟨ws0, hp0, nb, hm⟩ := s.own own
  have tups : Tups H H' := tups_at hp0 hm ext
  have r' := r' tups
  obtain ⟨sl0, e0, q⟩ := isOwn_some ho
  have hi : i < ρ.length := (List.getElem?_eq_some_iff.mp e0).1
  have shp : ∀ j, isOwn (ρ.set i (some sl'))[j]? = isOwn ρ[j]? := fun j => by
    by_cases hj : j = i
    · subst hj; rw [List.getElem?_set_self hi, hsl, ho]
    · rw [List.getElem?_set_ne (Ne.symm hj)]
  refine ⟨⟨?_, ?_, ?_, ?_⟩, ⟨fun b o e n => ext b o e fun z => n (z ▸ own), Same.refl _, fun b h => .inl h, shp, fun j dl e => ?_⟩⟩
  · rw [List.length_set]; exact s.len
  · intro b o e
    exact ext b o (s.sub b o e) (ne_of_none e nb)
  · intro j sl hj
    by_cases hji : j = i
    · subst hji
      refine ⟨.ref p, hp, ?_⟩
      rw [List.getElem?_set_self hi] at hj
      cases hj
      exact r'
    · rw [List.getElem?_set_ne (Ne.symm hji)] at hj
      obtain ⟨v, hv, r⟩ := s.slot j sl hj
      refine ⟨v, hv, ?_⟩
      have other : ∀ dl, OwnL K B H v dl → isOwn ρ[j]? = true → OwnL K B H' v dl := fun dl ⟨p', vs, a, b, c, d⟩ hoj => by
        subst a
        have hne : p' ≠ p := fun z => hji (s.inj j i p hoj ho (z ▸ hv) hp)
        exact ⟨p', vs, rfl, b, ext _ _ c hne, d.mono (Same.refl _) tups⟩
      cases sl with
      | dat d => exact Ip.mono (Same.refl _) tups r
      | own dl => exact other dl r (by rw [hj]; rfl)
      | inn dl => exact other dl r (by rw [hj]; rfl)
      | bor k => exact r.elim
      | dic kvs =>
        obtain ⟨p', vs, a, b, c, d⟩ := r
        subst a
        have hne : p' ≠ p := fun z => hji (s.inj j i p (by rw [hj]; rfl) ho (z ▸ hv) hp)
        exact ⟨p', vs, rfl, b, ext _ _ c hne, d.mono (Same.refl _) tups⟩
  · intro a b q h1 h2 h3 h4
    exact s.inj a b q (by rw [← shp a]; exact h1) (by rw [← shp b]; exact h2) h3 h4
  · by_cases hj : j = i
    · subst hj
      obtain ⟨d', e'⟩ := hinn dl e
      exact ⟨d', by rw [List.getElem?_set_self hi, e']⟩
    · exact ⟨dl, by rw [List.getElem?_set_ne (Ne.symm hj)]; exact e⟩
/-- a list of one's own is changed -/
theorem SR.mut (s : SR K B σ ρ H) {i : Nat} {p : Addr} {ws : List V} {ds d0 : List D} (hol : ρ[i]? = some (some (.own d0)) ∨ ρ[i]? = some (some (.inn d0))) (hp : σ[i]? = some (some (.ref p)))
    (ext : ∀ b o, H b = some o → b ≠ p → H' b = some o) (hw : H' p = some (.lst ws)) (ia : IpAll K B H' ws ds) : SR K B σ (setOwn ρ i ds) H' ∧ Tr σ B ρ H B (setOwn ρ i ds) H' := by
  have ho : isOwn ρ[i]? = true := by rcases hol with e | e <;> rw [e] <;> rfl
  obtain ⟨_, _, nb, _⟩ := s.own ⟨i, ho, hp⟩
  rcases hol with e | e
  · rw [setOwn_own e]
    exact s.mutG ho hp ext rfl (fun ds h => by rw [e] at h; cases h) fun _ => ⟨p, ws, rfl, nb, hw, ia⟩
  · rw [setOwn_inn e]
    exact s.mutG ho hp ext rfl (fun _ h => ⟨ds, rfl⟩) fun _ => ⟨p, ws, rfl, nb, hw, ia⟩
end

/-! ### methods of one's own list -/
abbrev GM := List D → List D → (D → List D → Prop) → Prop
def MtS (K : PySem.W.Frag) (r : V → List V → Hp → VK → Prop) (m : GM) : Prop := ∀ (B H : Hp) (p : Addr) (vs xs : List V) (ds args : List D) (Qw : D → List D → Prop) (Q : VK), H p = some (.lst vs) → IpAll K B H vs ds → IpAll K B H xs args → m ds args Qw →
  (∀ v d vs' ds', IpAll K B H vs' ds' → Ip K B H v d → Qw d ds' → Q v (upd H p (.lst vs'))) → r (.ref p) xs H Q
def wMt (m : GM) (i : Nat) (wa : AW) : EW := fun ρ Q X => isLst ρ[i]? = true ∧ wa ρ (fun rs ρ1 => withD rs fun args => withO ρ1 i fun ds => m ds args fun d ds' => Q (.dat d) (setOwn ρ1 i ds')) X
section
variable {K : PySem.W.Frag} {W : WX}
theorem tyV_lst {H : Hp} {p : Addr} {vs : List V} (h : H p = some (.lst vs)) : tyV K "list" (.ref p) H := Or.inl ⟨rfl, _, Or.inl (Or.inl h)⟩
theorem sim_mt {r : V → List V → Hp → VK → Prop} {m : GM} (hm : MtS K r m) (i : Nat) {ta : TA} {wa : AW} (ha : SimA K W ta wa) : SimE K W (tBM K "list" r (tVar i) ta) (wMt m i wa) := by
  intro B σ ρ H Qw Xw Q s h hx q
  obtain ⟨hl0, h⟩ := h
  have ho := isLst_own hl0
  obtain ⟨dl, e⟩ := isLst_some hl0
  have hv : ∃ v, σ[i]? = some (some v) := by
    rcases e with e | e
    · obtain ⟨v, hv, _⟩ := s.slot i _ e; exact ⟨v, hv⟩
    · obtain ⟨v, hv, _⟩ := s.slot i _ e; exact ⟨v, hv⟩
  obtain ⟨v, hv⟩ := hv
  obtain ⟨p, vs, rfl, nb, hp, il⟩ := s.bor e hv
  refine ⟨.ref p, hv, tyV_lst hp, ?_⟩
  refine ha B σ ρ H _ Xw _ s h hx fun us rs B1 ρ1 H1 s1 t1 rv1 q1 => ?_
  obtain ⟨args, e1, q1⟩ := withD_some q1
  obtain ⟨ds, e2, q1⟩ := withO_some q1
  obtain ⟨B2, s2, bb, bn, ia⟩ := rv1.freeze s1 e1
  have t2 : Tr σ B ρ H B2 ρ1 H1 := ⟨t1.ext, t1.bex.trans bb, fun b hb => (bn b hb).elim (fun z => t1.bnew b z) .inr, t1.shp, t1.shi⟩
  obtain ⟨p', vs1, ep, nb1, hp1, il1⟩ := s2.bor e2 hv
  cases ep
  refine hm B2 H1 p vs1 us ds args _ Q hp1 il1 ia q1 fun w d vs' ds' i1 i2 qq => ?_
  have ho1 : isOwn ρ1[i]? = true := by rw [t1.shp i]; exact ho
  have tups : Tups H1 (upd H1 p (.lst vs')) := tups_at hp1 rfl fun b o e hb => by rw [upd_ne hb]; exact e
  obtain ⟨s3, t3⟩ := s2.mut (ds := ds') e2 hv (fun b o e hb => by rw [upd_ne hb]; exact e) upd_same (i1.mono (Same.refl _) tups)
  exact q w (.dat d) B2 _ _ s3 (t2.trans s2 t3) (Ip.mono (Same.refl _) tups i2) qq
end
def wMt0 (m : GM) (i : Nat) : EW := fun ρ Q X => withO ρ i fun ds => m ds [] fun d ds' => Q (.dat d) (setOwn ρ i ds')
section
variable {K : PySem.W.Frag} {W : WX}
theorem sim_mt0 {r : V → List V → Hp → VK → Prop} {m : GM} (hm : MtS K r m) (i : Nat) : SimE K W (tBM0 K "list" r (tVar i)) (wMt0 m i) := by
  intro B σ ρ H Qw Xw Q s h hx q
  obtain ⟨ds, e2, q1⟩ := withO_some h
  have ho : isOwn ρ[i]? = true := by rcases e2 with e | e <;> rw [e] <;> rfl
  obtain ⟨sl, e, ht⟩ := isOwn_some ho
  obtain ⟨v, hv, rr⟩ := s.slot i sl e
  obtain ⟨p, vs1, rfl, nb1, hp1, il1⟩ := s.bor e2 hv
  refine ⟨.ref p, hv, tyV_lst hp1, ?_⟩
  refine hm B H p vs1 [] ds [] _ Q hp1 il1 .nil q1 fun w d vs' ds' i1 i2 qq => ?_
  have tups : Tups H (upd H p (.lst vs')) := tups_at hp1 rfl fun b o e hb => by rw [upd_ne hb]; exact e
  obtain ⟨s3, t3⟩ := s.mut (ds := ds') e2 hv (fun b o e hb => by rw [upd_ne hb]; exact e) upd_same (i1.mono (Same.refl _) tups)
  exact q w (.dat d) B _ _ s3 t3 (Ip.mono (Same.refl _) tups i2) qq
end

/-! ### a def's promise, without the heap -/
/-- a def that reads its arguments alone -/
abbrev FD := List D → (Sl → Prop) → (Value → Prop) → Prop
/-- what a def hands back: F its new lists -/
def ResR (K : PySem.W.Frag) (H H' : Hp) (v : V) (r : Sl) : Prop := ∃ F : Hp, Same F H' ∧ (∀ a, F a ≠ none → H a = none) ∧ match r with
  | .dat d => Ip K F H' v d
  | .own ds => ∃ p vs, v = V.ref p ∧ H p = none ∧ F p = none ∧ H' p = some (.lst vs) ∧ IpAll K F H' vs ds
  | _ => False
def spD (K : PySem.W.Frag) (n : Nat) (f : FD) : Sp := fun vs H Q E => ∃ (B : Hp) (ds : List D) (Qw : Sl → Prop) (Xw : Value → Prop), Same B H ∧ IpAll K B H vs ds ∧ ds.length = n ∧ f ds Qw Xw ∧
  (∀ v r H', Same H H' → ResR K H H' v r → Qw r → Q v H') ∧ ∀ c H', Same H H' → Xw c → E c none H'
/-- a def that changes the list in its first argument, too -/
abbrev FI := List D → List D → (Sl → List D → Prop) → (Value → List D → Prop) → Prop
def spI (K : PySem.W.Frag) (n : Nat) (f : FI) : Sp := fun vs H Q E => ∃ (B : Hp) (p : Addr) (ws vs' : List V) (dl ds : List D) (Qw : Sl → List D → Prop) (Xw : Value → List D → Prop), vs = .ref p :: vs' ∧ Same B H ∧ B p = none ∧ H p = some (.lst ws) ∧ IpAll K H00 H ws dl ∧ IpAll K B H vs' ds ∧ ds.length + 1 = n ∧ f dl ds Qw Xw ∧
  (∀ v r dl' ws' H', (∀ b o, H b = some o → b ≠ p → H' b = some o) → H' p = some (.lst ws') → IpAll K H00 H' ws' dl' → ResR K H H' v r → Qw r dl' → Q v H') ∧
  ∀ c dl' ws' H', (∀ b o, H b = some o → b ≠ p → H' b = some o) → H' p = some (.lst ws') → IpAll K H00 H' ws' dl' → Xw c dl' → E c none H'
def wCallD (f : FD) (wa : AW) : EW := fun ρ Q X => wa ρ (fun rs ρ1 => withCs ρ1 rs fun ds => f ds (fun r => Q r ρ1) (fun c => X c ρ1)) X
def pureD : List Sl → Option (List D)
  | [] => some []
  | .dat d :: rs => (pureD rs).map (d :: ·)
  | _ => none
def withP (rs : List Sl) (k : List D → Prop) : Prop := match pureD rs with
  | some ds => k ds
  | none => False
theorem withP_some {rs : List Sl} {k : List D → Prop} (h : withP rs k) : ∃ ds, pureD rs = some ds ∧ k ds := by
  unfold withP at h
  cases e : pureD rs with
  | none => rw [e] at h; exact h.elim
  | some d => rw [e] at h; exact ⟨d, rfl, h⟩
def wCallI (f : FI) (wa : AW) : EW := fun ρ Q X => wa ρ (fun rs ρ1 => match rs with
  | .bor i :: rs' => withO ρ1 i fun dl => withP rs' fun ds => D.nolists dl = true ∧ f dl ds (fun r dl' => Q r (setOwn ρ1 i dl')) (fun c dl' => X c (setOwn ρ1 i dl'))
  | .own dl :: rs' => withP rs' fun ds => D.nolists dl = true ∧ f dl ds (fun r _ => Q r ρ1) (fun c _ => X c ρ1)
  | _ => False) X
def uni (B F : Hp) : Hp := fun a => match F a with
  | some o => some o
  | none => B a
section
variable {K : PySem.W.Frag} {B B1 F H H' H0 H1 : Hp} {σ : St} {ρ ρ1 : En}
theorem uni_l (h : ∀ a, F a ≠ none → B a = none) : Same B (uni B F) := fun a o e => by
  unfold uni
  cases q : F a with
  | none => exact e
  | some x => rw [h a (by rw [q]; simp)] at e; cases e
theorem uni_r : Same F (uni B F) := fun a o e => by unfold uni; rw [e]
theorem uni_none {a : Addr} (h1 : F a = none) (h2 : B a = none) : uni B F a = none := by unfold uni; rw [h1]; exact h2
theorem uni_sub (h1 : Same B H) (h2 : Same F H) : Same (uni B F) H := fun a o e => by
  unfold uni at e
  cases q : F a with
  | none => rw [q] at e; exact h1 a o e
  | some x => rw [q] at e; cases e; exact h2 a _ q
theorem uni_some {a : Addr} (h : uni B F a ≠ none) : B a ≠ none ∨ F a ≠ none := by
  unfold uni at h
  cases q : F a with
  | none => rw [q] at h; exact .inl h
  | some x => exact .inr (by simp)
/-- behind a call: H1 the heap ahead of it, (ρ, H') a state over it -/
theorem after_call (s1 : SR K B σ ρ1 H1) (s : SR K B σ ρ H') (t : Tr σ B ρ1 H1 B ρ H') {v : V} {r : Sl} (h : ResR K H1 H' v r) :
    ∃ B', SR K B' σ ρ H' ∧ Tr σ B ρ1 H1 B' ρ H' ∧ RvR K B' σ ρ H1 H' v r := by
  obtain ⟨F, fs, fn, hr⟩ := h
  have hbf : ∀ a, F a ≠ none → B a = none := fun a ha => Same.bnone s1.sub (fn a ha)
  have fo : ∀ b, OwnAt σ ρ b → F b = none := fun b ob => by
    obtain ⟨vs, q, _⟩ := s1.own (t.ownAt.mp ob)
    cases z : F b with
    | none => rfl
    | some o => rw [fn b (by rw [z]; simp)] at q; cases q
  have s' : SR K (uni B F) σ ρ H' := s.grow (uni_l hbf) (uni_sub s.sub fs) fun b ob => by
    obtain ⟨_, _, q, _⟩ := s.own ob
    exact uni_none (fo b ob) q
  refine ⟨uni B F, s', ⟨t.ext, uni_l hbf, fun b hb => (uni_some hb).imp id (fn b), t.shp, t.shi⟩, ?_⟩
  cases r with
  | dat d => exact Ip.mono uni_r (Tups.of (Same.refl _)) hr
  | own ds =>
    obtain ⟨p, vs, a, b, c, d, e⟩ := hr
    refine ⟨p, vs, a, b, uni_none c (Same.bnone s1.sub b), d, e.mono uni_r (Tups.of (Same.refl _)), fun z => ?_⟩
    obtain ⟨ws, q, _⟩ := s1.own (t.ownAt.mp z)
    rw [b] at q; cases q
  | inn ds => exact hr.elim
  | bor i => exact hr.elim
  | dic kvs => exact hr.elim
theorem IpAll.full (sub : Same B H) {vs : List V} {ds : List D} (h : RdAll K B H vs ds) : IpAll K H H vs ds := by
  induction h with
  | nil => exact .nil
  | @cons v vs d ds hd _ ih =>
    refine .cons ?_ ih
    cases d with
    | lst dl =>
      obtain ⟨a, xs, rfl, hh, hi⟩ := hd
      exact .lst hh (hi.mono sub (Tups.of (Same.refl _)))
    | _ => exact Ip.mono sub (Tups.of (Same.refl _)) hd
theorem sim_callD {W : WX} {n : Nat} {f : FD} {ta : TA} {wa : AW} (ha : SimA K W ta wa) (hf : ∀ ds Qw Xw, f ds Qw Xw → ds.length = n) : SimE K W (tCallS (spD K n f) (WE W) ta) (wCallD f wa) := by
  intro B σ ρ H Qw Xw Q s h hx q
  refine ha B σ ρ H _ Xw _ s h hx fun vs rs B1 ρ1 H1 s1 t1 rv1 q1 => ?_
  obtain ⟨ds, e1, q1⟩ := withCs_some q1
  refine ⟨H1, ds, _, _, Same.refl _, IpAll.full s1.sub (rv1.rd s1 e1), hf _ _ _ q1, q1, fun v r H' sm rr qq => ?_, fun c H' sm xx => ?_⟩
  · obtain ⟨B', s', t', rv⟩ := after_call s1 (s1.same sm) (Tr.same sm) rr
    exact q v r B' ρ1 H' s' (t1.trans s1 t') (rv.early s1 t1) qq
  · exact hx c B1 ρ1 H' (s1.same sm) (t1.trans s1 (Tr.same sm)) xx
theorem RvAll.pure {vs : List V} {rs : List Sl} (h : RvAll K B σ ρ H H0 vs rs) : ∀ {ds : List D}, pureD rs = some ds → IpAll K B H vs ds := by
  induction h with
  | nil => intro ds e; cases e; exact .nil
  | @cons H0 H1 v vs r rs h1 h2 h3 h4 ih =>
    intro ds e
    cases r with
    | dat d =>
      cases e2 : pureD rs with
      | none => rw [pureD, e2] at e; cases e
      | some ds' => rw [pureD, e2] at e; cases e; exact .cons h1 (ih e2)
    | own _ => cases e
    | inn _ => cases e
    | bor _ => cases e
    | dic _ => cases e
theorem sim_callI {W : WX} {n : Nat} {f : FI} {ta : TA} {wa : AW} (ha : SimA K W ta wa) (hf : ∀ dl ds Qw Xw, f dl ds Qw Xw → ds.length + 1 = n) : SimE K W (tCallS (spI K n f) (WE W) ta) (wCallI f wa) := by
  intro B σ ρ H Qw Xw Q s h hx q
  refine ha B σ ρ H _ Xw _ s h hx fun vs rs B1 ρ1 H1 s1 t1 rv1 q1 => ?_
  cases rv1 with
  | nil => exact q1.elim
  | @cons _ Hm v vs r rs h1 h2 h3 h4 =>
    cases r with
    | dat d => exact q1.elim
    | inn d => exact q1.elim
    | dic d => exact q1.elim
    | bor i =>
      obtain ⟨dl, e2, q1⟩ := withO_some q1
      obtain ⟨ds, e1, nl, q1⟩ := withP_some q1
      obtain ⟨ho, hv⟩ := h1
      obtain ⟨p, ws, rfl, nb, hp, il⟩ := s1.bor e2 hv
      refine ⟨B1, p, ws, vs, dl, ds, _, _, rfl, s1.sub, nb, hp, il.pure nl, h4.pure e1, hf _ _ _ _ q1, q1, fun v r dl' ws' H' ext hw iw rr qq => ?_, fun c dl' ws' H' ext hw iw xx => ?_⟩
      · obtain ⟨s2, t2⟩ := s1.mut e2 hv ext hw (iw.mono same00 (Tups.of (Same.refl _)))
        obtain ⟨B', s', t', rv⟩ := after_call s1 s2 t2 rr
        exact q v r B' _ H' s' (t1.trans s1 t') (rv.early s1 t1) qq
      · obtain ⟨s2, t2⟩ := s1.mut e2 hv ext hw (iw.mono same00 (Tups.of (Same.refl _)))
        exact hx c B1 _ H' s2 (t1.trans s1 t2) xx
    | own dl =>
      obtain ⟨ds, e1, nl, q1⟩ := withP_some q1
      obtain ⟨p, ws, rfl, fr, nb, hp, il, no⟩ := h1
      -- the new list is nobody's: it may change
      have mv : ∀ (H' : Hp), (∀ b o, H1 b = some o → b ≠ p → H' b = some o) → SR K B1 σ ρ1 H' := fun H' ext => by
        have tups : Tups H1 H' := tups_at hp rfl ext
        refine ⟨s1.len, fun b o e => ext b o (s1.sub b o e) (ne_of_none e nb), fun i sl hi => ?_, s1.inj⟩
        obtain ⟨v, hv, r⟩ := s1.slot i sl hi
        refine ⟨v, hv, ?_⟩
        have other : ∀ dl, OwnL K B1 H1 v dl → isOwn ρ1[i]? = true → OwnL K B1 H' v dl := fun dl ⟨p', vs, a, b, c, d⟩ hoj => by
          subst a
          have hne : p' ≠ p := fun z => no ⟨i, hoj, z ▸ hv⟩
          exact ⟨p', vs, rfl, b, ext _ _ c hne, d.mono (Same.refl _) tups⟩
        cases sl with
        | dat d => exact Ip.mono (Same.refl _) tups r
        | own dl => exact other dl r (by rw [hi]; rfl)
        | inn dl => exact other dl r (by rw [hi]; rfl)
        | bor k => exact r.elim
        | dic kvs =>
          obtain ⟨p', vs, a, b, c, d⟩ := r
          subst a
          have hne : p' ≠ p := fun z => no ⟨i, by rw [hi]; rfl, z ▸ hv⟩
          exact ⟨p', vs, rfl, b, ext _ _ c hne, d.mono (Same.refl _) tups⟩
      -- seen from the heap ahead of the whole expression p is not there
      have tr : ∀ (H' : Hp), (∀ b o, H1 b = some o → b ≠ p → H' b = some o) → Tr σ B ρ H B1 ρ1 H' := fun H' ext =>
        ⟨fun b o e n => ext b o (t1.ext b o e n) (ne_of_none e fr), t1.bex, t1.bnew, t1.shp, t1.shi⟩
      refine ⟨B1, p, ws, vs, dl, ds, _, _, rfl, s1.sub, nb, hp, il.pure nl, h4.pure e1, hf _ _ _ _ q1, q1, fun v r dl' ws' H' ext hw iw rr qq => ?_, fun c dl' ws' H' ext hw iw xx => ?_⟩
      · obtain ⟨F, fs, fn, hr⟩ := rr
        have s2 := mv H' ext
        have hbf : ∀ a, F a ≠ none → B1 a = none := fun a ha => Same.bnone s1.sub (fn a ha)
        have fo : ∀ b, OwnAt σ ρ1 b → F b = none := fun b ob => by
          obtain ⟨vs, q, _⟩ := s1.own ob
          cases z : F b with
          | none => rfl
          | some o => rw [fn b (by rw [z]; simp)] at q; cases q
        have s' : SR K (uni B1 F) σ ρ1 H' := s2.grow (uni_l hbf) (uni_sub s2.sub fs) fun b ob => by
          obtain ⟨_, _, q, _⟩ := s2.own ob
          exact uni_none (fo b ob) q
        have t3 := tr H' ext
        refine q v r (uni B1 F) ρ1 H' s' ⟨t3.ext, t3.bex.trans (uni_l hbf), fun b hb => (uni_some hb).elim (t3.bnew b) fun z => .inr (t1.free s1 (fn b z)), t3.shp, t3.shi⟩ ?_ qq
        cases r with
        | dat d => exact Ip.mono uni_r (Tups.of (Same.refl _)) hr
        | own ds =>
          obtain ⟨p2, vs2, a, b, c, d, e⟩ := hr
          refine ⟨p2, vs2, a, t1.free s1 b, uni_none c (Same.bnone s1.sub b), d, e.mono uni_r (Tups.of (Same.refl _)), fun z => ?_⟩
          obtain ⟨ws, q, _⟩ := s1.own z
          rw [b] at q; cases q
        | inn ds => exact hr.elim
        | bor i => exact hr.elim
        | dic kvs => exact hr.elim
      · exact hx c B1 ρ1 H' (mv H' ext) (tr H' ext) xx
end
section
variable {X : Cx} {W : WX} {e : Expr} {es : List Expr} {wr : AW} {pos p : Pos} {k : Nat} {f : Addr} {fd : FuncData} {ps : List Str} {x : Str}
theorem de_callD {n : Nat} {g : FD} (F : FnOk X.prog X.w X.K X.mg X.base (L2N.CX X.prog X.w) k f fd ps (spD X.K n g)) (hr : Room k X.A) (hg : Gl X x) (hm : X.mg x = some (.ref f)) (hk : PySem.W.keepIn X.K (.ref f) = true) (hb : Binds X.K fd ps []) (tk : L2N.Takes X W) (hf : ∀ ds Qw Xw, g ds Qw Xw → ds.length = n)
    (ha : DA X W (e :: es) wr) (hdb : (x == ("__debug__" : Str)) = false := by decide) (he : starEach (e :: es) X.env = (false, eval e X.env) :: starEach es X.env := by rfl) (hpl : (backTo pos (starEach es X.env)).any (·.1) = false := by rfl) :
    DE X W (.Call (.Name x p) (e :: es) [] pos) (wCallD g wr) := by
  obtain ⟨t, pa, sa⟩ := ha.ok
  exact ⟨_, pe_callS F hr hg hm hk hb (fun σ => L2N.passAt tk σ) pa hdb he hpl, sim_callD sa hf⟩
theorem de_callI {n : Nat} {g : FI} (F : FnOk X.prog X.w X.K X.mg X.base (L2N.CX X.prog X.w) k f fd ps (spI X.K n g)) (hr : Room k X.A) (hg : Gl X x) (hm : X.mg x = some (.ref f)) (hk : PySem.W.keepIn X.K (.ref f) = true) (hb : Binds X.K fd ps []) (tk : L2N.Takes X W) (hf : ∀ dl ds Qw Xw, g dl ds Qw Xw → ds.length + 1 = n)
    (ha : DA X W (e :: es) wr) (hdb : (x == ("__debug__" : Str)) = false := by decide) (he : starEach (e :: es) X.env = (false, eval e X.env) :: starEach es X.env := by rfl) (hpl : (backTo pos (starEach es X.env)).any (·.1) = false := by rfl) :
    DE X W (.Call (.Name x p) (e :: es) [] pos) (wCallI g wr) := by
  obtain ⟨t, pa, sa⟩ := ha.ok
  exact ⟨_, pe_callS F hr hg hm hk hb (fun σ => L2N.passAt tk σ) pa hdb he hpl, sim_callI sa hf⟩
end
end DL

set_option Elab.async false
set_option linter.all false
set_option maxRecDepth 100000
set_option maxHeartbeats 4000000
/-! DLe: statements, blocks, loops, a def's body. -/
namespace DL
open PySem L2

structure EndsW where
  nx : En → Prop
  rt : Sl → En → Prop
  ex : Value → En → Prop
  bk : En → Prop := fun _ => False
  ct : En → Prop := fun _ => False
abbrev SW := EndsW → En → Prop

/-- a state in a def's body: H0, B0 at its entry; L: the lists that were lent, by slot -/
structure FR (K : PySem.W.Frag) (H0 B0 : Hp) (L : Nat → Addr → Prop) (B : Hp) (σ : St) (ρ : En) (H : Hp) : Prop extends SR K B σ ρ H where
  ext0 : ∀ b o, H0 b = some o → (∀ i, ¬ L i b) → H b = some o
  fresh : ∀ b, OwnAt σ ρ b → H0 b = none ∨ ∃ i, L i b
  keep : ∀ i b, L i b → σ[i]? = some (some (.ref b)) ∧ ∃ ds, ρ[i]? = some (some (.inn ds))
  bnew : ∀ b, B b ≠ none → B0 b ≠ none ∨ H0 b = none
/-- lists that nobody changes, tuples: they stay -/
structure Gr (B H B' H' : Hp) : Prop where
  bex : Same B B'
  tups : Tups H H'
theorem Gr.refl (B H : Hp) : Gr B H B H := ⟨Same.refl _, Tups.of (Same.refl _)⟩
theorem Gr.trans {B H B1 H1 B2 H2 : Hp} (a : Gr B H B1 H1) (b : Gr B1 H1 B2 H2) : Gr B H B2 H2 := ⟨a.bex.trans b.bex, a.tups.trans b.tups⟩
section
variable {K : PySem.W.Frag} {H0 B0 B B' B1 H H' H1 : Hp} {L : Nat → Addr → Prop} {σ σ' : St} {ρ ρ' ρ1 : En}
theorem Tr.gr (s : SR K B σ ρ H) (t : Tr σ B ρ H B' ρ' H') : Gr B H B' H' := ⟨t.bex, t.tups s⟩
theorem FR.step (f : FR K H0 B0 L B σ ρ H) (s' : SR K B' σ ρ' H') (t : Tr σ B ρ H B' ρ' H') : FR K H0 B0 L B' σ ρ' H' where
  toSR := s'
  ext0 := fun b o e n => t.ext b o (f.ext0 b o e n) fun z => by
    rcases f.fresh b z with q | ⟨i, q⟩
    · rw [e] at q; cases q
    · exact n i q
  fresh := fun b z => f.fresh b (t.ownAt.mp z)
  keep := fun i b h => by
    obtain ⟨h1, ds, h2⟩ := f.keep i b h
    exact ⟨h1, t.shi i ds h2⟩
  bnew := fun b hb => by
    rcases t.bnew b hb with z | z
    · exact f.bnew b z
    · right
      cases q : H0 b with
      | none => rfl
      | some o =>
        exfalso
        by_cases n : ∃ i, L i b
        · obtain ⟨i, hi⟩ := n
          obtain ⟨h1, ds, h2⟩ := f.keep i b hi
          obtain ⟨vs, e, _⟩ := f.toSR.own ⟨i, by rw [h2]; rfl, h1⟩
          rw [z] at e; cases e
        · rw [f.ext0 b o q fun i hi => n ⟨i, hi⟩] at z; cases z
/-- a slot is set -/
theorem SR.set (s : SR K B σ ρ H) {i : Nat} {v : V} {sl : Sl} (hi : i < σ.length) (r : SlR K B H v sl) (no : ∀ p, isOwn (some (some sl)) = true → v = .ref p → ¬ OwnAt σ ρ p) : SR K B (σ.set i (some v)) (ρ.set i (some sl)) H where
  len := by simp [s.len]
  sub := s.sub
  slot := fun j sl' h => by
    have hr : i < ρ.length := by rw [← s.len]; exact hi
    by_cases hj : j = i
    · subst hj
      rw [List.getElem?_set_self hr] at h; cases h
      exact ⟨v, by rw [List.getElem?_set_self hi], r⟩
    · rw [List.getElem?_set_ne (Ne.symm hj)] at h
      rw [List.getElem?_set_ne (Ne.symm hj)]
      exact s.slot j sl' h
  inj := fun a b p ha hb h1 h2 => by
    have hr : i < ρ.length := by rw [← s.len]; exact hi
    by_cases hai : a = i
    · by_cases hbi : b = i
      · rw [hai, hbi]
      · exfalso
        subst hai
        rw [List.getElem?_set_self hr] at ha
        rw [List.getElem?_set_self hi] at h1
        rw [List.getElem?_set_ne (Ne.symm hbi)] at hb h2
        exact no p ha (Option.some.inj (Option.some.inj h1)) ⟨b, hb, h2⟩
    · by_cases hbi : b = i
      · exfalso
        subst hbi
        rw [List.getElem?_set_self hr] at hb
        rw [List.getElem?_set_self hi] at h2
        rw [List.getElem?_set_ne (Ne.symm hai)] at ha h1
        exact no p hb (Option.some.inj (Option.some.inj h2)) ⟨a, ha, h1⟩
      · rw [List.getElem?_set_ne (Ne.symm hai)] at ha h1
        rw [List.getElem?_set_ne (Ne.symm hbi)] at hb h2
        exact s.inj a b p ha hb h1 h2
def notInn (ρ : En) (i : Nat) : Prop := match ρ[i]? with
  | some (some (.inn _)) => False
  | some _ => True
  | none => False
theorem notInn_lt {i : Nat} (h : notInn ρ i) : i < ρ.length := by
  unfold notInn at h
  cases e : ρ[i]? with
  | none => rw [e] at h; exact h.elim
  | some o => exact (List.getElem?_eq_some_iff.mp e).1
theorem FR.set (f : FR K H0 B0 L B σ ρ H) {i : Nat} {v : V} {sl : Sl} (hn : notInn ρ i) (r : SlR K B H v sl) (no : ∀ p, isOwn (some (some sl)) = true → v = .ref p → ¬ OwnAt σ ρ p ∧ H0 p = none) : FR K H0 B0 L B (σ.set i (some v)) (ρ.set i (some sl)) H where
  toSR := f.toSR.set (by rw [f.len]; exact notInn_lt hn) r fun p a b => (no p a b).1
  ext0 := f.ext0
  fresh := fun b ⟨j, h1, h2⟩ => by
    have hr : i < ρ.length := notInn_lt hn
    have hs : i < σ.length := by rw [f.len]; exact hr
    by_cases hj : j = i
    · subst hj
      rw [List.getElem?_set_self hr] at h1
      rw [List.getElem?_set_self hs] at h2
      exact .inl (no b h1 (Option.some.inj (Option.some.inj h2))).2
    · rw [List.getElem?_set_ne (Ne.symm hj)] at h1 h2
      exact f.fresh b ⟨j, h1, h2⟩
  keep := fun j b h => by
    obtain ⟨h1, ds, h2⟩ := f.keep j b h
    have hj : j ≠ i := fun z => by
      subst z
      unfold notInn at hn
      rw [h2] at hn
      exact hn
    rw [List.getElem?_set_ne (Ne.symm hj), List.getElem?_set_ne (Ne.symm hj)]
    exact ⟨h1, ds, h2⟩
  bnew := f.bnew
/-- a new list's place was free at the def's entry -/
theorem FR.free (f : FR K H0 B0 L B σ ρ H) {b : Addr} (h : H b = none) : H0 b = none := by
  cases q : H0 b with
  | none => rfl
  | some o =>
    exfalso
    by_cases n : ∃ i, L i b
    · obtain ⟨i, hi⟩ := n
      obtain ⟨h1, ds, h2⟩ := f.keep i b hi
      obtain ⟨vs, e, _⟩ := f.toSR.own ⟨i, by rw [h2]; rfl, h1⟩
      rw [h] at e; cases e
    · rw [f.ext0 b o q fun i hi => n ⟨i, hi⟩] at h; cases h
end

/-- what a return hands on -/
def RtR (K : PySem.W.Frag) (H0 B H : Hp) (v : V) : Sl → Prop
  | .dat d => Ip K B H v d
  | .own ds => ∃ p vs, v = V.ref p ∧ H0 p = none ∧ B p = none ∧ H p = some (.lst vs) ∧ IpAll K B H vs ds
  | _ => False
def SimS (K : PySem.W.Frag) (W : WX) (t : TS) (w : SW) : Prop := ∀ (H0 B0 : Hp) (L : Nat → Addr → Prop) (B : Hp) (σ : St) (ρ : En) (H : Hp) (E : Ends) (Ew : EndsW), FR K H0 B0 L B σ ρ H → w Ew ρ →
  (∀ B' σ' ρ' H', FR K H0 B0 L B' σ' ρ' H' → Gr B H B' H' → Ew.nx ρ' → E.nx σ' H') →
  (∀ v r B' σ' ρ' H', FR K H0 B0 L B' σ' ρ' H' → RtR K H0 B' H' v r → Ew.rt r ρ' → E.rt v H') →
  (∀ B' σ' ρ' H', FR K H0 B0 L B' σ' ρ' H' → Gr B H B' H' → Ew.bk ρ' → E.bk σ' H') →
  (∀ B' σ' ρ' H', FR K H0 B0 L B' σ' ρ' H' → Gr B H B' H' → Ew.ct ρ' → E.ct σ' H') →
  (∀ c B' σ' ρ' H', FR K H0 B0 L B' σ' ρ' H' → Gr B H B' H' → Ew.ex c ρ' → W c none σ' H') → t E σ H
structure DS (X : Cx) (W : WX) (st : Stmt) (w : SW) : Prop where
  ok : ∃ t, PS X st t ∧ SimS X.K W t w
structure DSs (X : Cx) (W : WX) (st : List Stmt) (w : SW) : Prop where
  ok : ∃ t, PSs X st t ∧ SimS X.K W t w

def wNext : SW := fun E ρ => E.nx ρ
def wSeq (a b : SW) : SW := fun E ρ => a { E with nx := b E } ρ
def wDrop (we : EW) : SW := fun E ρ => we ρ (fun _ ρ1 => E.nx ρ1) E.ex
/-- return e: a list of the def's own, too -/
def wRet (we : EW) : SW := fun E ρ => we ρ (fun r ρ1 => match r with
  | .dat d => E.rt (.dat d) ρ1
  | .own ds => E.rt (.own ds) ρ1
  | .bor i => match ρ1[i]? with
    | some (some (.own ds)) => E.rt (.own ds) ρ1
    | _ => False
  | _ => False) E.ex
def wRetN : SW := fun E ρ => E.rt (.dat .non) ρ
def wIf (wc : TWs) (a b : SW) : SW := fun E ρ => wc ρ (fun c ρ1 => if c = true then a E ρ1 else b E ρ1) E.ex
def wBreak : SW := fun E ρ => E.bk ρ
def wCont : SW := fun E ρ => E.ct ρ
/-- x = e -/
def wSet (i : Nat) (we : EW) : SW := fun E ρ => we ρ (fun r ρ1 => notInn ρ1 i ∧ match r with
  | .dat d => E.nx (ρ1.set i (some (.dat d)))
  | .own ds => E.nx (ρ1.set i (some (.own ds)))
  | .dic kvs => E.nx (ρ1.set i (some (.dic kvs)))
  | _ => False) E.ex
/-- x[j] = e, x a list of one's own -/
def wSetIt (i : Nat) (we wj : EW) : SW := fun E ρ => we ρ (fun r ρ1 => match r with
  | .dat d => isOwn ρ1[i]? = true ∧ wj ρ1 (fun rj ρ2 => match rj with
    | .dat (.int k) => withO ρ2 i fun ds => match ixN ds.length k with
      | some j => E.nx (setOwn ρ2 i (ds.set j d))
      | none => False
    | _ => False) E.ex
  | _ => False) E.ex
section
variable {K : PySem.W.Frag} {W : WX}
theorem sim_next : SimS K W tNext wNext := fun H0 B0 L B σ ρ H E Ew f h n r b c x => n B σ ρ H f (Gr.refl ..) h
theorem sim_seq {t u : TS} {w z : SW} (ht : SimS K W t w) (hu : SimS K W u z) : SimS K W (tSeq t u) (wSeq w z) := by
  intro H0 B0 L B σ ρ H E Ew f h n r b c x
  refine ht H0 B0 L B σ ρ H _ _ f h (fun B1 σ1 ρ1 H1 f1 g1 h1 => ?_) r b c x
  exact hu H0 B0 L B1 σ1 ρ1 H1 E Ew f1 h1 (fun B2 σ2 ρ2 H2 f2 g2 => n B2 σ2 ρ2 H2 f2 (g1.trans g2)) r (fun B2 σ2 ρ2 H2 f2 g2 => b B2 σ2 ρ2 H2 f2 (g1.trans g2)) (fun B2 σ2 ρ2 H2 f2 g2 => c B2 σ2 ρ2 H2 f2 (g1.trans g2)) (fun c B9 σ9 ρ9 H9 f9 g9 => x c B9 σ9 ρ9 H9 f9 (g1.trans g9))
theorem xw {H0 B0 B H : Hp} {L : Nat → Addr → Prop} {σ : St} {ρ : En} {Xw : Value → En → Prop} (f : FR K H0 B0 L B σ ρ H) (x : ∀ c B' σ' ρ' H', FR K H0 B0 L B' σ' ρ' H' → Gr B H B' H' → Xw c ρ' → W c none σ' H') : XWof K W σ B ρ H Xw :=
  fun c B' ρ' H' s' t' q => x c B' σ ρ' H' (f.step s' t') (t'.gr f.toSR) q
theorem sim_drop {te : TE} {we : EW} (he : SimE K W te we) : SimS K W (tDrop te) (wDrop we) := by
  intro H0 B0 L B σ ρ H E Ew f h n r b c x
  exact he B σ ρ H _ _ _ f.toSR h (xw f x) fun v rr B1 ρ1 H1 s1 t1 rv q => n B1 σ ρ1 H1 (f.step s1 t1) (t1.gr f.toSR) q
theorem sim_ret {te : TE} {we : EW} (he : SimE K W te we) : SimS K W (tRet te) (wRet we) := by
  intro H0 B0 L B σ ρ H E Ew f h n r b c x
  refine he B σ ρ H _ _ _ f.toSR h (xw f x) fun v rr B1 ρ1 H1 s1 t1 rv q => ?_
  have f1 := f.step s1 t1
  cases rr with
  | dat d => exact r v (.dat d) B1 σ ρ1 H1 f1 rv q
  | own ds =>
    obtain ⟨p, vs, a, b, c, d, e, _⟩ := rv
    exact r v (.own ds) B1 σ ρ1 H1 f1 ⟨p, vs, a, f.free b, c, d, e⟩ q
  | inn ds => exact q.elim
  | dic kvs => exact q.elim
  | bor i =>
    obtain ⟨ho, hv⟩ := rv
    have q : (match ρ1[i]? with | some (some (.own ds)) => Ew.rt (.own ds) ρ1 | _ => False) := q
    cases e : ρ1[i]? with
    | none => rw [e] at q; exact q.elim
    | some o =>
      rw [e] at q
      cases o with
      | none => exact q.elim
      | some sl =>
        cases sl with
        | own ds =>
          obtain ⟨p, vs, rfl, nb, hp, ia⟩ := s1.bor (.inl e) hv
          refine r (.ref p) (.own ds) B1 σ ρ1 H1 f1 ⟨p, vs, rfl, ?_, nb, hp, ia⟩ q
          rcases f1.fresh p ⟨i, ho, hv⟩ with z | ⟨j, z⟩
          · exact z
          · exfalso
            obtain ⟨h1, ds', h2⟩ := f1.keep j p z
            have := s1.inj i j p ho (by rw [h2]; rfl) hv h1
            subst this
            rw [e] at h2; cases h2
        | _ => exact q.elim
theorem sim_if {tc : TT} {wc : TWs} {t u : TS} {w z : SW} (hc : SimT K W tc wc) (ht : SimS K W t w) (hu : SimS K W u z) : SimS K W (tIfS tc t u) (wIf wc w z) := by
  intro H0 B0 L B σ ρ H E Ew f h n r b c x
  refine hc B σ ρ H _ _ _ f.toSR h (xw f x) fun k B1 ρ1 H1 s1 t1 q => ?_
  have f1 := f.step s1 t1
  have g1 := t1.gr f.toSR
  cases k with
  | true => exact ht H0 B0 L B1 σ ρ1 H1 E Ew f1 q (fun B2 σ2 ρ2 H2 f2 g2 => n B2 σ2 ρ2 H2 f2 (g1.trans g2)) r (fun B2 σ2 ρ2 H2 f2 g2 => b B2 σ2 ρ2 H2 f2 (g1.trans g2)) (fun B2 σ2 ρ2 H2 f2 g2 => c B2 σ2 ρ2 H2 f2 (g1.trans g2)) (fun c B9 σ9 ρ9 H9 f9 g9 => x c B9 σ9 ρ9 H9 f9 (g1.trans g9))
  | false => exact hu H0 B0 L B1 σ ρ1 H1 E Ew f1 q (fun B2 σ2 ρ2 H2 f2 g2 => n B2 σ2 ρ2 H2 f2 (g1.trans g2)) r (fun B2 σ2 ρ2 H2 f2 g2 => b B2 σ2 ρ2 H2 f2 (g1.trans g2)) (fun B2 σ2 ρ2 H2 f2 g2 => c B2 σ2 ρ2 H2 f2 (g1.trans g2)) (fun c B9 σ9 ρ9 H9 f9 g9 => x c B9 σ9 ρ9 H9 f9 (g1.trans g9))
theorem sim_set {te : TE} {we : EW} (i : Nat) (he : SimE K W te we) : SimS K W (tAsg te (gName i)) (wSet i we) := by
  intro H0 B0 L B σ ρ H E Ew f h n r b c x
  refine he B σ ρ H _ _ _ f.toSR h (xw f x) fun v rr B1 ρ1 H1 s1 t1 rv q => ?_
  have f1 := f.step s1 t1
  have g1 := t1.gr f.toSR
  obtain ⟨hn, q⟩ := q
  cases rr with
  | dat d => exact n B1 _ _ H1 (f1.set hn (sl := .dat d) rv fun p a => by cases a) g1 q
  | own ds =>
    obtain ⟨p, vs, a, fr, c, d, e, no⟩ := rv
    refine n B1 _ _ H1 (f1.set hn (sl := .own ds) ⟨p, vs, a, c, d, e⟩ fun p' _ e2 => ?_) g1 q
    rw [a] at e2; cases e2
    exact ⟨no, f.free fr⟩
  | dic kvs =>
    obtain ⟨p, vs, a, fr, c, d, e, no⟩ := rv
    refine n B1 _ _ H1 (f1.set hn (sl := .dic kvs) ⟨p, vs, a, c, d, e⟩ fun p' _ e2 => ?_) g1 q
    rw [a] at e2; cases e2
    exact ⟨no, f.free fr⟩
  | inn ds => exact q.elim
  | bor j => exact q.elim
theorem sim_setIt {te tj : TE} {we wj : EW} (i : Nat) (he : SimE K W te we) (hj : SimE K W tj wj) : SimS K W (tAsg te (gSub (tVar i) tj rSetL)) (wSetIt i we wj) := by
  intro H0 B0 L B σ ρ H E Ew f h n r b c x
  refine he B σ ρ H _ _ _ f.toSR h (xw f x) fun v rr B1 ρ1 H1 s1 t1 rv q => ?_
  have f1 := f.step s1 t1
  have g1 := t1.gr f.toSR
  cases rr with
  | dat d =>
    obtain ⟨ho, q⟩ := q
    obtain ⟨sl, e, ht⟩ := isOwn_some ho
    obtain ⟨u, hu, _⟩ := s1.slot i sl e
    refine ⟨u, hu, ?_⟩
    refine hj B1 σ ρ1 H1 _ _ _ s1 q (xw f1 (fun c B9 σ9 ρ9 H9 f9 g9 => x c B9 σ9 ρ9 H9 f9 (g1.trans g9))) fun vj rj B2 ρ2 H2 s2 t2 rvj q2 => ?_
    have f2 := f1.step s2 t2
    cases rj with
    | dat dj =>
      cases dj with
      | int k =>
        cases rvj
        obtain ⟨ds, e2, q2⟩ := withO_some q2
        obtain ⟨p, vs, rfl, nb, hp, ia⟩ := s2.bor e2 hu
        cases ej : ixN ds.length k with
        | none => rw [ej] at q2; exact q2.elim
        | some j =>
          rw [ej] at q2
          refine ⟨p, vs, k, j, rfl, rfl, hp, by rw [ia.length]; exact ej, ?_⟩
          have ho2 : isOwn ρ2[i]? = true := by rw [t2.shp i]; exact ho
          have tups : Tups H2 (upd H2 p (.lst (vs.set j v))) := tups_at hp rfl fun b o e hb => by rw [upd_ne hb]; exact e
          have iv : Ip K B2 H2 v d := Ip.step s1 t2 rv
          obtain ⟨s3, t3⟩ := s2.mut (ds := ds.set j d) e2 hu (fun b o e hb => by rw [upd_ne hb]; exact e) upd_same ((ia.set iv j).mono (Same.refl _) tups)
          exact n B2 σ _ _ (f2.step s3 t3) ((g1.trans (t2.gr s1)).trans (t3.gr s2)) q2
      | _ => exact q2.elim
    | _ => exact q2.elim
  | _ => exact q.elim
end
section
variable {X : Cx} {W : WX} {st : Stmt} {rest p q : List Stmt} {w z : SW} {we wj : EW} {wc : TWs} {e c tg : Expr} {pos : Pos}
theorem dss_nil : DSs X W [] wNext := ⟨_, pss_nil, sim_next⟩
theorem dss_cons (h1 : DS X W st w) (h2 : DSs X W rest z) : DSs X W (st :: rest) (wSeq w z) := by
  obtain ⟨t, pt, stt⟩ := h1.ok
  obtain ⟨u, pu, su⟩ := h2.ok
  exact ⟨_, pss_cons pt pu, sim_seq stt su⟩
theorem dss_one (h1 : DS X W st w) : DSs X W [st] w := by
  obtain ⟨t, pt, stt⟩ := h1.ok
  exact ⟨_, pss_one pt, stt⟩
theorem ds_expr (he : DE X W e we) (hs : swapsWith e none pos.line X.env = pure false := by rfl) : DS X W (.Expr e pos) (wDrop we) := by
  obtain ⟨t, pt, stt⟩ := he.ok
  exact ⟨_, ps_expr pt hs, sim_drop stt⟩
theorem ds_ret (he : DE X W e we) : DS X W (.Return (some e) pos) (wRet we) := by
  obtain ⟨t, pt, stt⟩ := he.ok
  exact ⟨_, ps_ret pt, sim_ret stt⟩
theorem ds_if (hc : DT X W c wc) (ha : DSs X W p w) (hb : DSs X W q z) : DS X W (.If c p q pos) (wIf wc w z) := by
  obtain ⟨t, pt, stt⟩ := hc.ok
  obtain ⟨t1, pt1, st1⟩ := ha.ok
  obtain ⟨t2, pt2, st2⟩ := hb.ok
  exact ⟨_, ps_if pt pt1 pt2, sim_if stt st1 st2⟩
theorem ds_set (i : Nat) {x : Str} {pos' : Pos} (hN : X.N.Nodup) (he : DE X W e we) (hi : X.N[i]? = some x := by rfl) (hx : Loc X.env.scope x := by first | exact Or.inl rfl | exact Or.inr rfl) (hs : swapsWith e (some (.Name x pos')) pos.line X.env = pure false := by rfl) (hf : X.fn x = true ∨ X.env.scope.names.lookup x = some .local := by first | exact .inl rfl | exact .inr rfl | assumption) :
    DS X W (.Assign [.Name x pos'] e pos) (wSet i we) := by
  obtain ⟨t, pt, stt⟩ := he.ok
  exact ⟨_, ps_set hN hi hx pt hs hf, sim_set i stt⟩
end
end DL

set_option Elab.async false
set_option linter.all false
set_option maxRecDepth 100000
set_option maxHeartbeats 4000000
/-! DLf: targets, for, while, comprehensions, a def's body. -/
namespace DL
open PySem L2

/-! ### targets -/
def setsS : St → List Nat → List V → St
  | σ, i :: is, v :: vs => setsS (σ.set i (some v)) is vs
  | σ, _, _ => σ
def setsE : En → List Nat → List D → En
  | ρ, i :: is, d :: ds => setsE (ρ.set i (some (.dat d))) is ds
  | ρ, _, _ => ρ
def notInns (ρ : En) : List Nat → Prop
  | [] => True
  | i :: is => notInn ρ i ∧ notInns ρ is
def spName : D → Option (List D) := fun d => some [d]
def spTup (n : Nat) : D → Option (List D)
  | .tup ds => if ds.length = n then some ds else none
  | _ => none
def withS (o : Option (List D)) (k : List D → Prop) : Prop := match o with
  | some ds => k ds
  | none => False
theorem withS_some {o : Option (List D)} {k : List D → Prop} (h : withS o k) : ∃ ds, o = some ds ∧ k ds := by
  cases o with
  | none => exact h.elim
  | some ds => exact ⟨ds, rfl, h⟩
def SimG (K : PySem.W.Frag) (g : TG) (is : List Nat) (sp : D → Option (List D)) : Prop := ∀ (B H : Hp) (σ : St) (x : V) (d : D) (ds : List D) (Q : St → Hp → Prop), Ip K B H x d → sp d = some ds →
  (∀ vs, vs.length = is.length → IpAll K B H vs ds → Q (setsS σ is vs) H) → g x σ H Q
structure DG (X : Cx) (tg : Expr) (is : List Nat) (sp : D → Option (List D)) : Prop where
  ok : ∃ g, PG X tg g ∧ SimG X.K g is sp
section
variable {K : PySem.W.Frag}
theorem simg_name (i : Nat) : SimG K (gName i) [i] spName := fun B H σ x d ds Q h e q => by
  cases e
  exact q [x] rfl (.cons h .nil)
def gNames : List Nat → TGs
  | [] => gNil
  | i :: is => gCons (gName i) (gNames is)
theorem gNames_run {Q : St → Hp → Prop} {H : Hp} : ∀ (is : List Nat) (vs : List V) (σ : St), vs.length = is.length → Q (setsS σ is vs) H → gNames is vs σ H Q
  | [], [], σ, _, q => ⟨rfl, q⟩
  | i :: is, v :: vs, σ, h, q => ⟨v, vs, rfl, gNames_run is vs _ (by simpa using h) q⟩
  | [], _ :: _, _, h, _ => by simp at h
  | _ :: _, [], _, h, _ => by simp at h
theorem simg_tup (is : List Nat) : SimG K (gTup K is.length (gNames is)) is (spTup is.length) := fun B H σ x d ds Q h e q => by
  cases d with
  | tup es =>
    by_cases hl : es.length = is.length
    · have e : (if es.length = is.length then some es else none) = some ds := e
      rw [if_pos hl] at e
      cases e
      cases h with
      | tup hh hi =>
        have hv := hi.length.trans hl
        exact ⟨_, _, rfl, hh.sq, hv, gNames_run is _ σ hv (q _ hv hi)⟩
    · have e : (if es.length = is.length then some es else none) = some ds := e
      rw [if_neg hl] at e
      cases e
  | _ => cases e
end
section
variable {X : Cx} {pos : Pos}
theorem dg_name (i : Nat) {x : Str} (hN : X.N.Nodup) (hi : X.N[i]? = some x := by rfl) (hx : Loc X.env.scope x := by first | exact Or.inl rfl | exact Or.inr rfl) (hf : X.fn x = true ∨ X.env.scope.names.lookup x = some .local := by first | exact .inl rfl | exact .inr rfl | assumption) : DG X (.Name x pos) [i] spName :=
  ⟨_, pg_name hN hi hx hf, simg_name i⟩
structure DGs (X : Cx) (es : List Expr) (is : List Nat) : Prop where
  ok : PGs X es (gNames is)
theorem dgs_nil : DGs X [] [] := ⟨pgs_nil⟩
theorem dgs_cons (i : Nat) {x : Str} {es : List Expr} {is : List Nat} (hN : X.N.Nodup) (h2 : DGs X es is) (hi : X.N[i]? = some x := by rfl) (hx : Loc X.env.scope x := by first | exact Or.inl rfl | exact Or.inr rfl) (hf : X.fn x = true ∨ X.env.scope.names.lookup x = some .local := by first | exact .inl rfl | exact .inr rfl | assumption)
    (ha : (assignEach (.Name x pos :: es) X.env).map (·.2) = assign (.Name x pos) X.env :: (assignEach es X.env).map (·.2) := by rfl) : DGs X (.Name x pos :: es) (i :: is) := ⟨pgs_cons (pg_name hN hi hx hf) h2.ok ha⟩
theorem dg_tup {es : List Expr} {is : List Nat} {k : Nat} (hc : X.calm = true) (h : DGs X es is) (hn : (assignEach es X.env).length = is.length := by rfl) (hst : (assignEach es X.env).findIdx? (·.1) = none := by rfl) : DG X (.Tuple es k pos) is (spTup is.length) :=
  ⟨_, pg_tup hc h.ok hn hst, simg_tup is⟩
end

section
variable {K : PySem.W.Frag} {H0 B0 B B' H H' : Hp} {L : Nat → Addr → Prop} {σ : St} {ρ : En}
theorem notInn_set {i j : Nat} {d : D} (h : notInn ρ j) : notInn (ρ.set i (some (.dat d))) j := by
  by_cases e : j = i
  · subst e
    have := notInn_lt h
    unfold notInn
    rw [List.getElem?_set_self this]
    trivial
  · unfold notInn at h ⊢
    rw [List.getElem?_set_ne (Ne.symm e)]
    exact h
theorem notInns_set {i : Nat} {d : D} : ∀ {is : List Nat}, notInns ρ is → notInns (ρ.set i (some (.dat d))) is
  | [], h => h
  | j :: is, h => ⟨notInn_set h.1, notInns_set h.2⟩
theorem FR.sets : ∀ {is : List Nat} {vs : List V} {ds : List D} {σ : St} {ρ : En}, FR K H0 B0 L B σ ρ H → notInns ρ is → IpAll K B H vs ds → FR K H0 B0 L B (setsS σ is vs) (setsE ρ is ds) H
  | [], vs, ds, σ, ρ, f, _, _ => by cases vs <;> cases ds <;> exact f
  | i :: is, [], [], σ, ρ, f, _, _ => f
  | i :: is, v :: vs, d :: ds, σ, ρ, f, hn, .cons h t => FR.sets (is := is) (vs := vs) (ds := ds) (σ := σ.set i (some v)) (ρ := ρ.set i (some (.dat d))) (f.set hn.1 (sl := .dat d) h fun p a => by cases a) (notInns_set hn.2) t
theorem FR.same (f : FR K H0 B0 L B σ ρ H) (e : Same H H') : FR K H0 B0 L B σ ρ H' := f.step (f.toSR.same e) (Tr.same e)
end

/-! ### what is walked -/
def okS (B0 H0 : Hp) (B H : Hp) : Prop := Same B0 B ∧ Tups H0 H ∧ Same B H
structure Wk (K : PySem.W.Frag) (J : It) (ds : List D) (ok : Hp → Hp → Prop) : Prop where
  go : ∀ k B H, ok B H → k < ds.length → J.go k H
  yld : ∀ k B H x H', ok B H → J.yld k H x H' → k < ds.length → ∃ d, ds[k]? = some d ∧ Same H H' ∧ Ip K B H' x d
  stop : ∀ k B H, ok B H → ds.length ≤ k → J.stop k H
abbrev IW := En → (List D → En → Prop) → (Value → En → Prop) → Prop
def SimI (K : PySem.W.Frag) (W : WX) (wi : TI) (w : IW) : Prop := ∀ (B : Hp) (σ : St) (ρ : En) (H : Hp) (Qw : List D → En → Prop) (Xw : Value → En → Prop) (R : It → Hp → Prop), SR K B σ ρ H → w ρ Qw Xw → XWof K W σ B ρ H Xw →
  (∀ J ds B' ρ' H', SR K B' σ ρ' H' → Tr σ B ρ H B' ρ' H' → Wk K J ds (okS B' H') → Qw ds ρ' → R J H') → wi σ H R
structure DI (X : Cx) (W : WX) (tg iter : Expr) (w : IW) : Prop where
  ok : ∃ wi, PI X tg iter wi ∧ SimI X.K W wi w

/-! ### for -/
def wFor (wi : IW) (is : List Nat) (sp : D → Option (List D)) (wb : SW) : SW := fun E ρ => wi ρ (fun ds ρ1 => ∃ W : Nat → En → Prop, W 0 ρ1 ∧ (∀ ρ2, W ds.length ρ2 → E.nx ρ2) ∧
  ∀ i d ρ2, ds[i]? = some d → W i ρ2 → withS (sp d) fun es => notInns ρ2 is ∧ wb { E with nx := W (i + 1), ct := W (i + 1), bk := E.nx } (setsE ρ2 is es)) E.ex
def wWhile (wc : TWs) (wb : SW) : SW := fun E ρ => ∃ W : Nat → En → Prop, (∃ m, W m ρ) ∧ ∀ m ρ1, W m ρ1 →
  wc ρ1 (fun b ρ2 => if b = true then wb { E with nx := fun ρ' => ∃ m', m' < m ∧ W m' ρ', ct := fun ρ' => ∃ m', m' < m ∧ W m' ρ', bk := E.nx } ρ2 else E.nx ρ2) E.ex
section
variable {K : PySem.W.Frag} {W : WX}
theorem sim_for {wi : TI} {w : IW} {g : TG} {is : List Nat} {sp : D → Option (List D)} {tb : TS} {wb : SW} (hi : SimI K W wi w) (hg : SimG K g is sp) (hb : SimS K W tb wb) : SimS K W (tFor wi g tb) (wFor w is sp wb) := by
  intro H0 B0 L B σ ρ H E Ew f h n r b c x
  refine hi B σ ρ H _ _ _ f.toSR h (xw f x) fun J ds B1 ρ1 H1 s1 t1 wk q => ?_
  obtain ⟨Wd, w0, wend, turn⟩ := q
  have g1 := t1.gr f.toSR
  refine ⟨fun i m σ2 H2 => i + m = ds.length ∧ ∃ B2 ρ2, FR K H0 B0 L B2 σ2 ρ2 H2 ∧ Gr B1 H1 B2 H2 ∧ Wd i ρ2, ⟨ds.length, by omega, B1, ρ1, f.step s1 t1, Gr.refl .., w0⟩, ?_⟩
  rintro i m σ2 H2 ⟨hm, B2, ρ2, f2, g2, w2⟩
  have ok2 : okS B1 H1 B2 H2 := ⟨g2.bex, g2.tups, f2.sub⟩
  by_cases hlt : i < ds.length
  · right
    refine ⟨wk.go i B2 H2 ok2 hlt, fun σ' H' => ∃ B' ρ', FR K H0 B0 L B' σ' ρ' H' ∧ Gr B1 H1 B' H' ∧ Wd (i + 1) ρ', fun σ' H' ⟨B', ρ', f', g', w'⟩ => ⟨m - 1, by omega, by omega, B', ρ', f', g', w'⟩, fun v H3 hy => ?_⟩
    obtain ⟨d, ed, sm, iv⟩ := wk.yld i B2 H2 v H3 ok2 hy hlt
    have tn := turn i d ρ2 ed w2
    obtain ⟨es, ee, hn, tn⟩ := withS_some tn
    have f3 := f2.same sm
    have g3 : Gr B1 H1 B2 H3 := g2.trans ⟨Same.refl _, Tups.of sm⟩
    refine hg B2 H3 σ2 v d es _ iv ee fun vs hl ia => ?_
    refine hb H0 B0 L B2 _ _ H3 _ _ (f3.sets hn ia) tn ?_ r ?_ ?_ (fun c B9 σ9 ρ9 H9 f9 g9 => x c B9 σ9 ρ9 H9 f9 ((g1.trans g3).trans g9))
    · exact fun B4 σ4 ρ4 H4 f4 g4 q4 => ⟨B4, ρ4, f4, g3.trans g4, q4⟩
    · exact fun B4 σ4 ρ4 H4 f4 g4 q4 => n B4 σ4 ρ4 H4 f4 (g1.trans (g3.trans g4)) q4
    · exact fun B4 σ4 ρ4 H4 f4 g4 q4 => ⟨B4, ρ4, f4, g3.trans g4, q4⟩
  · left
    have hi' : i = ds.length := by omega
    subst hi'
    exact ⟨wk.stop _ B2 H2 ok2 (Nat.le_refl _), n B2 σ2 ρ2 H2 f2 (g1.trans g2) (wend ρ2 w2)⟩
theorem sim_while {tc : TT} {wc : TWs} {tb : TS} {wb : SW} (hc : SimT K W tc wc) (hb : SimS K W tb wb) : SimS K W (tWhile tc tb) (wWhile wc wb) := by
  intro H0 B0 L B σ ρ H E Ew f h n r b c x
  obtain ⟨Wd, ⟨m0, w0⟩, turn⟩ := h
  refine ⟨fun m σ2 H2 => ∃ B2 ρ2, FR K H0 B0 L B2 σ2 ρ2 H2 ∧ Gr B H B2 H2 ∧ Wd m ρ2, ⟨m0, B, ρ, f, Gr.refl .., w0⟩, ?_⟩
  rintro m σ2 H2 ⟨B2, ρ2, f2, g2, w2⟩
  refine hc B2 σ2 ρ2 H2 _ _ _ f2.toSR (turn m ρ2 w2) (xw f2 (fun c B9 σ9 ρ9 H9 f9 g9 => x c B9 σ9 ρ9 H9 f9 (g2.trans g9))) fun k B3 ρ3 H3 s3 t3 q => ?_
  have f3 := f2.step s3 t3
  have g3 := g2.trans (t3.gr f2.toSR)
  cases k with
  | false => exact n B3 σ2 ρ3 H3 f3 g3 q
  | true =>
    refine ⟨fun σ' H' => ∃ m', m' < m ∧ ∃ B' ρ', FR K H0 B0 L B' σ' ρ' H' ∧ Gr B H B' H' ∧ Wd m' ρ', fun σ' H' z => z, ?_⟩
    refine hb H0 B0 L B3 σ2 ρ3 H3 _ _ f3 q ?_ r ?_ ?_ (fun c B9 σ9 ρ9 H9 f9 g9 => x c B9 σ9 ρ9 H9 f9 (g3.trans g9))
    · exact fun B4 σ4 ρ4 H4 f4 g4 ⟨m', hm, q4⟩ => ⟨m', hm, B4, ρ4, f4, g3.trans g4, q4⟩
    · exact fun B4 σ4 ρ4 H4 f4 g4 q4 => n B4 σ4 ρ4 H4 f4 (g3.trans g4) q4
    · exact fun B4 σ4 ρ4 H4 f4 g4 ⟨m', hm, q4⟩ => ⟨m', hm, B4, ρ4, f4, g3.trans g4, q4⟩
end
section
variable {X : Cx} {W : WX} {tg iter c : Expr} {body : List Stmt} {w : IW} {is : List Nat} {sp : D → Option (List D)} {wb : SW} {wc : TWs} {pos : Pos}
theorem ds_for (hp : PassesOwn (model X.prog X.w) X.A X.env X.xe) (hc : X.calm = true) (hi : DI X W tg iter w) (hg : DG X tg is sp) (hb : DSs X W body wb) (hs : ∀ x, foldedSetIterable iter X.env x = pure x := by intro _; rfl) : DS X W (.For tg iter body [] pos) (wFor w is sp wb) := by
  obtain ⟨wi, pi, si⟩ := hi.ok
  obtain ⟨g, pg, sg⟩ := hg.ok
  obtain ⟨tb, pb, sb⟩ := hb.ok
  exact ⟨_, ps_for hp hc pi pg pb hs, sim_for si sg sb⟩
theorem ds_while (hp : PassesOwn (model X.prog X.w) X.A X.env X.xe) (hc : DT X W c wc) (hb : DSs X W body wb) : DS X W (.While c body [] pos) (wWhile wc wb) := by
  obtain ⟨tc, pc, sc⟩ := hc.ok
  obtain ⟨tb, pb, sb⟩ := hb.ok
  exact ⟨_, ps_while hp pc pb, sim_while sc sb⟩
end

/-! ### comprehensions -/
def wipeE (ρ : En) : List Nat → En
  | [] => ρ
  | v :: vs => (wipeE ρ vs).set v none
def noOwns (ρ : En) (vs : List Nat) : Prop := ∀ v ∈ vs, isOwn ρ[v]? = false
def wYes : TWs := fun ρ Q _ => Q true ρ
def wLc (wi : IW) (is : List Nat) (sp : D → Option (List D)) (wt : TWs) (we : EW) (vs : List Nat) : EW := fun ρ Q X => wi ρ (fun ds ρ1 => noOwns ρ1 vs ∧ ∃ W : Nat → List D → En → Prop, W 0 [] (wipeE ρ1 vs) ∧ (∀ acc ρ2, W ds.length acc ρ2 → Q (.own acc) ρ2) ∧
  ∀ i d acc ρ2, ds[i]? = some d → W i acc ρ2 → withS (sp d) fun es => notInns (wipeE ρ2 vs) is ∧ wt (setsE (wipeE ρ2 vs) is es) (fun b ρ3 => if b = true then we ρ3 (fun r ρ4 => withD [r] fun rs => acc.length < sizeLine ∧ W (i + 1) (acc ++ rs) (wipeE ρ4 vs)) (fun _ _ => False) else W (i + 1) acc (wipeE ρ3 vs)) (fun _ _ => False)) X
section
variable {K : PySem.W.Frag} {B B' H H' : Hp} {σ σ' : St} {ρ ρ' : En}
theorem wipeE_length : ∀ vs : List Nat, (wipeE ρ vs).length = ρ.length
  | [] => rfl
  | v :: vs => by unfold wipeE; rw [List.length_set, wipeE_length vs]
theorem wipeE_in {i : Nat} : ∀ {vs : List Nat}, i ∈ vs → isOwn (wipeE ρ vs)[i]? = false ∧ ∀ sl, (wipeE ρ vs)[i]? ≠ some (some sl)
  | v :: vs, h => by
    unfold wipeE
    by_cases hi : v = i
    · subst hi
      by_cases hv : v < (wipeE ρ vs).length
      · rw [List.getElem?_set_self hv]; exact ⟨rfl, fun sl z => by cases z⟩
      · rw [List.getElem?_eq_none (by simpa using hv)]; exact ⟨rfl, fun sl z => by cases z⟩
    · rw [List.getElem?_set_ne hi]
      exact wipeE_in ((List.mem_cons.mp h).resolve_left fun e => hi e.symm)
theorem wipeE_out {i : Nat} : ∀ {vs : List Nat}, i ∉ vs → (wipeE ρ vs)[i]? = ρ[i]?
  | [], _ => rfl
  | v :: vs, h => by
    rw [List.mem_cons, not_or] at h
    unfold wipeE
    rw [List.getElem?_set_ne (fun e => h.1 e.symm)]
    exact wipeE_out h.2
theorem wipeS_out {i : Nat} : ∀ {vs : List Nat}, i ∉ vs → (wipe σ vs)[i]? = σ[i]?
  | [], _ => rfl
  | v :: vs, h => by
    rw [List.mem_cons, not_or] at h
    unfold wipe
    rw [List.getElem?_set_ne (fun e => h.1 e.symm)]
    exact wipeS_out h.2
/-- the slots outside vs are the same -/
def AgS (σ σ' : St) (vs : List Nat) : Prop := σ'.length = σ.length ∧ ∀ i, i ∉ vs → σ'[i]? = σ[i]?
theorem SR.agree {vs : List Nat} (s : SR K B σ ρ H) (a : AgS σ σ' vs) : SR K B σ' (wipeE ρ vs) H where
  len := by rw [wipeE_length, a.1]; exact s.len
  sub := s.sub
  slot := fun i sl h => by
    by_cases hi : i ∈ vs
    · exact absurd h ((wipeE_in hi).2 sl)
    · rw [wipeE_out hi] at h
      obtain ⟨v, hv, r⟩ := s.slot i sl h
      exact ⟨v, by rw [a.2 i hi]; exact hv, r⟩
  inj := fun i j p h1 h2 h3 h4 => by
    have hi : i ∉ vs := fun z => by rw [(wipeE_in z).1] at h1; cases h1
    have hj : j ∉ vs := fun z => by rw [(wipeE_in z).1] at h2; cases h2
    rw [wipeE_out hi] at h1
    rw [wipeE_out hj] at h2
    rw [a.2 i hi] at h3
    rw [a.2 j hj] at h4
    exact s.inj i j p h1 h2 h3 h4
theorem AgS.wipe (σ : St) (vs : List Nat) : AgS σ (wipe σ vs) vs := ⟨wipe_length σ vs, fun i hi => wipeS_out hi⟩
theorem AgS.symm {vs : List Nat} (a : AgS σ σ' vs) : AgS σ' σ vs := ⟨a.1.symm, fun i hi => (a.2 i hi).symm⟩
theorem AgS.trans {σ1 σ2 σ3 : St} {vs : List Nat} (a : AgS σ1 σ2 vs) (b : AgS σ2 σ3 vs) : AgS σ1 σ3 vs := ⟨b.1.trans a.1, fun i hi => (b.2 i hi).trans (a.2 i hi)⟩
theorem AgS.sets {vs : List Nat} : ∀ {is : List Nat} {ws : List V} {σ : St}, (∀ i ∈ is, i ∈ vs) → AgS σ (setsS σ is ws) vs
  | [], ws, σ, _ => by cases ws <;> exact ⟨rfl, fun _ _ => rfl⟩
  | i :: is, [], σ, _ => ⟨rfl, fun _ _ => rfl⟩
  | i :: is, w :: ws, σ, h => by
    have a := AgS.sets (vs := vs) (is := is) (ws := ws) (σ := σ.set i (some w)) fun j hj => h j (List.mem_cons_of_mem _ hj)
    refine ⟨a.1.trans (by simp), fun j hj => (a.2 j hj).trans ?_⟩
    have hij : i ≠ j := fun e => hj (by rw [← e]; exact h i List.mem_cons_self)
    rw [List.getElem?_set_ne hij]
theorem AgS.wipe_eq {vs : List Nat} (a : AgS σ σ' vs) : L2.wipe σ' vs = L2.wipe σ vs := by
  apply List.ext_getElem?
  intro i
  by_cases hi : i ∈ vs
  · have key : ∀ (τ : St) (ws : List Nat), i ∈ ws → (L2.wipe τ ws)[i]? = if i < τ.length then some none else none := by
      intro τ ws
      induction ws with
      | nil => intro h; cases h
      | cons v ws ih =>
        intro h
        unfold L2.wipe
        by_cases hv : v = i
        · subst hv
          by_cases hl : v < (L2.wipe τ ws).length
          · rw [List.getElem?_set_self hl, if_pos (by rw [wipe_length] at hl; exact hl)]
          · rw [List.getElem?_eq_none (by simpa using hl), if_neg (by rw [wipe_length] at hl; exact hl)]
        · rw [List.getElem?_set_ne hv]
          exact ih ((List.mem_cons.mp h).resolve_left fun e => hv e.symm)
    rw [key _ _ hi, key _ _ hi, a.1]
  · rw [wipeS_out hi, wipeS_out hi]
    exact a.2 i hi
/-- a list that is nobody's gets other items -/
theorem SR.other (s : SR K B σ ρ H) {p : Addr} {vs ws : List V} (hp : H p = some (.lst vs)) (no : ¬ OwnAt σ ρ p) (nb : B p = none) : SR K B σ ρ (upd H p (.lst ws)) := by
  have ext : ∀ b o, H b = some o → b ≠ p → (upd H p (.lst ws)) b = some o := fun b o e h => by rw [upd_ne h]; exact e
  have tups : Tups H (upd H p (.lst ws)) := tups_at hp rfl ext
  refine ⟨s.len, fun b o e => ext b o (s.sub b o e) (ne_of_none e nb), fun i sl hi => ?_, s.inj⟩
  obtain ⟨v, hv, r⟩ := s.slot i sl hi
  refine ⟨v, hv, ?_⟩
  have oth : ∀ dl, OwnL K B H v dl → isOwn ρ[i]? = true → OwnL K B (upd H p (.lst ws)) v dl := fun dl ⟨p', us, a, b, c, d⟩ hoj => by
    subst a
    have hne : p' ≠ p := fun z => no ⟨i, hoj, z ▸ hv⟩
    exact ⟨p', us, rfl, b, ext _ _ c hne, d.mono (Same.refl _) tups⟩
  cases sl with
  | dat d => exact Ip.mono (Same.refl _) tups r
  | own dl => exact oth dl r (by rw [hi]; rfl)
  | inn dl => exact oth dl r (by rw [hi]; rfl)
  | bor k => exact r.elim
  | dic kvs =>
    obtain ⟨p', us, a, b, c, d⟩ := r
    subst a
    have hne : p' ≠ p := fun z => no ⟨i, by rw [hi]; rfl, z ▸ hv⟩
    exact ⟨p', us, rfl, b, ext _ _ c hne, d.mono (Same.refl _) tups⟩
theorem tups_other {p : Addr} {vs ws : List V} (hp : H p = some (.lst vs)) : Tups H (upd H p (.lst ws)) := tups_at hp rfl fun b o e hb => by rw [upd_ne hb]; exact e
theorem SR.sets : ∀ {is : List Nat} {vs : List V} {ds : List D} {σ : St} {ρ : En}, SR K B σ ρ H → notInns ρ is → IpAll K B H vs ds → SR K B (setsS σ is vs) (setsE ρ is ds) H
  | [], vs, ds, σ, ρ, f, _, _ => by cases vs <;> cases ds <;> exact f
  | i :: is, [], [], σ, ρ, f, _, _ => f
  | i :: is, v :: vs, d :: ds, σ, ρ, f, hn, .cons h t => SR.sets (is := is) (vs := vs) (ds := ds) (σ := σ.set i (some v)) (ρ := ρ.set i (some (.dat d))) (f.set (by rw [f.len]; exact notInn_lt hn.1) (sl := .dat d) h fun p a => by cases a) (notInns_set hn.2) t
theorem setsE_wipe {vs : List Nat} : ∀ {is : List Nat} {ds : List D} {ρ : En}, (∀ i ∈ is, i ∈ vs) → ∀ j, j ∉ vs → (setsE ρ is ds)[j]? = ρ[j]?
  | [], ds, ρ, _, j, _ => by cases ds <;> rfl
  | i :: is, [], ρ, _, j, _ => rfl
  | i :: is, d :: ds, ρ, h, j, hj => by
    have hij : i ≠ j := fun e => hj (by rw [← e]; exact h i List.mem_cons_self)
    rw [show setsE ρ (i :: is) (d :: ds) = setsE (ρ.set i (some (.dat d))) is ds from rfl, setsE_wipe (fun k hk => h k (List.mem_cons_of_mem _ hk)) j hj, List.getElem?_set_ne hij]
theorem setsE_own {vs : List Nat} : ∀ {is : List Nat} {ds : List D} {ρ : En} (j : Nat), isOwn ρ[j]? = false → isOwn (setsE ρ is ds)[j]? = false
  | [], ds, ρ, j, h => by cases ds <;> exact h
  | i :: is, [], ρ, j, h => h
  | i :: is, d :: ds, ρ, j, h => by
    refine setsE_own (vs := vs) (is := is) (ds := ds) (ρ := ρ.set i (some (.dat d))) j ?_
    by_cases e : i = j
    · subst e
      by_cases hl : i < ρ.length
      · rw [List.getElem?_set_self hl]; rfl
      · rw [List.getElem?_eq_none (by simpa using hl)]; rfl
    · rw [List.getElem?_set_ne e]; exact h
end
section
variable {K : PySem.W.Frag} {W : WX}
theorem sim_lc {wi : TI} {w : IW} {g : TG} {is : List Nat} {sp : D → Option (List D)} {tt : TT} {wt : TWs} {te : TE} {we : EW} {vs : List Nat} (hi : SimI K W wi w) (hg : SimG K g is sp) (hiv : ∀ i ∈ is, i ∈ vs) (ht : SimT K (fun _ _ _ _ => False) tt wt) (he : SimE K (fun _ _ _ _ => False) te we) :
    SimE K W (tLc wi g tt te vs) (wLc w is sp wt we vs) := by
  intro B σ ρ H Qw Xw Q s h hx q
  refine hi B σ ρ H _ _ _ s h hx fun J ds B1 ρ1 H1 s1 t1 wk q1 => ?_
  obtain ⟨no, Wd, w0, wend, turn⟩ := q1
  intro a ha
  have na : ¬ OwnAt σ ρ1 a := fun z => by obtain ⟨_, e, _⟩ := s1.own z; rw [ha] at e; cases e
  have nb1 : B1 a = none := Same.bnone s1.sub ha
  have wip : ∀ {B ρ H}, SR K B σ ρ H → SR K B σ (wipeE ρ vs) H := fun s => s.agree ⟨rfl, fun _ _ => rfl⟩
  -- the state between two turns
  refine ⟨fun i m H2 => i + m = ds.length ∧ ∃ B2 ρ2 acc us, SR K B2 σ ρ2 H2 ∧ Tr σ B1 ρ1 H1 B2 ρ2 H2 ∧ H2 a = some (.lst us) ∧ B2 a = none ∧ IpAll K B2 H2 us acc ∧ Wd i acc ρ2, ⟨ds.length, by omega, B1, wipeE ρ1 vs, [], [], ?_, ?_, upd_same, nb1, .nil, w0⟩, ?_⟩
  · exact (wip s1).same fun b o e => by rw [upd_ne (ne_of_none e ha)]; exact e
  · refine ⟨fun b o e _ => by rw [upd_ne (ne_of_none e ha)]; exact e, Same.refl _, fun b hb => .inl hb, fun j => ?_, fun j dl e => ?_⟩
    · by_cases hj : j ∈ vs
      · rw [(wipeE_in hj).1, no j hj]
      · rw [wipeE_out hj]
    · have hj : j ∉ vs := fun z => by have := no j z; rw [e] at this; cases this
      exact ⟨dl, by rw [wipeE_out hj]; exact e⟩
  rintro i m H2 ⟨hm, B2, ρ2, acc, us, s2, t2, h2a, b2a, iacc, w2⟩
  have na2 : ¬ OwnAt σ ρ2 a := fun z => na (t2.ownAt.mp z)
  have no2 : noOwns ρ2 vs := fun j hj => by rw [t2.shp j]; exact no j hj
  have ok2 : okS B1 H1 B2 H2 := ⟨t2.bex, t2.tups s1, s2.sub⟩
  by_cases hlt : i < ds.length
  · right
    refine ⟨wk.go i B2 H2 ok2 hlt, fun H' => ∃ B' ρ' acc' us', SR K B' σ ρ' H' ∧ Tr σ B1 ρ1 H1 B' ρ' H' ∧ H' a = some (.lst us') ∧ B' a = none ∧ IpAll K B' H' us' acc' ∧ Wd (i + 1) acc' ρ',
      fun H' z => ⟨m - 1, by omega, by omega, z⟩, fun v H3 hy => ?_⟩
    obtain ⟨d, ed, sm, iv⟩ := wk.yld i B2 H2 v H3 ok2 hy hlt
    have tn := turn i d acc ρ2 ed w2
    obtain ⟨es, ee, hn, tn⟩ := withS_some tn
    refine hg B2 H3 (wipe σ vs) v d es _ iv ee fun ws hl ia => ?_
    have ag0 : AgS σ (wipe σ vs) vs := AgS.wipe σ vs
    have ag : AgS σ (setsS (wipe σ vs) is ws) vs := ag0.trans (AgS.sets hiv)
    refine ⟨by rw [(AgS.sets (σ := wipe σ vs) (ws := ws) hiv).wipe_eq]; exact ag0.wipe_eq, ?_⟩
    have s3 : SR K B2 (setsS (wipe σ vs) is ws) (setsE (wipeE ρ2 vs) is es) H3 := ((s2.same sm).agree ag0).sets hn ia
    -- from an inner state back to an outer one
    have out : ∀ {B5 ρ5 H5}, SR K B5 (setsS (wipe σ vs) is ws) ρ5 H5 → Tr (setsS (wipe σ vs) is ws) B2 (setsE (wipeE ρ2 vs) is es) H3 B5 ρ5 H5 →
        SR K B5 σ (wipeE ρ5 vs) H5 ∧ Tr σ B2 ρ2 H2 B5 (wipeE ρ5 vs) H5 := fun {B5 ρ5 H5} s5 t5 => by
      have shp0 : ∀ j, isOwn (setsE (wipeE ρ2 vs) is es)[j]? = isOwn ρ2[j]? := fun j => by
        by_cases hj : j ∈ vs
        · rw [no2 j hj]; exact setsE_own (vs := vs) j (wipeE_in hj).1
        · rw [setsE_wipe hiv j hj, wipeE_out hj]
      have oa : ∀ b, OwnAt (setsS (wipe σ vs) is ws) (setsE (wipeE ρ2 vs) is es) b → OwnAt σ ρ2 b := fun b ⟨j, h1, h2⟩ => by
        rw [shp0 j] at h1
        have hj : j ∉ vs := fun z => by rw [no2 j z] at h1; cases h1
        exact ⟨j, h1, by rw [← ag.2 j hj]; exact h2⟩
      refine ⟨s5.agree ag.symm, ⟨fun b o e n => t5.ext b o (sm b o e) fun z => n (oa b z), t5.bex, fun b hb => (t5.bnew b hb).imp id fun z => ?_, fun j => ?_, fun j dl e => ?_⟩⟩
      · cases qq : H2 b with
        | none => rfl
        | some o => rw [sm b o qq] at z; cases z
      · by_cases hj : j ∈ vs
        · rw [(wipeE_in hj).1, no2 j hj]
        · rw [wipeE_out hj, t5.shp j, shp0 j]
      · have hj : j ∉ vs := fun z => by have := no2 j z; rw [e] at this; cases this
        obtain ⟨d', e'⟩ := t5.shi j dl (by rw [setsE_wipe hiv j hj, wipeE_out hj]; exact e)
        exact ⟨d', by rw [wipeE_out hj]; exact e'⟩
    have keepA : ∀ {B5 ρ5 H5}, Tr σ B2 ρ2 H2 B5 ρ5 H5 → H5 a = some (.lst us) ∧ B5 a = none := fun {B5 ρ5 H5} t5 => ⟨t5.ext a _ h2a na2, by
      cases qq : B5 a with
      | none => rfl
      | some o =>
        exfalso
        rcases t5.bnew a (by rw [qq]; simp) with z | z
        · exact z b2a
        · rw [h2a] at z; cases z⟩
    refine ht B2 _ _ H3 _ _ _ s3 tn (fun _ _ _ _ _ _ z => z) fun b B4 ρ4 H4 s4 t4 q4 => ?_
    cases b with
    | false =>
      obtain ⟨so, tro⟩ := out s4 t4
      obtain ⟨k1, k2⟩ := keepA tro
      exact ⟨B4, wipeE ρ4 vs, acc, us, so, t2.trans s2 tro, k1, k2, IpAll.step s2 tro iacc, q4⟩
    | true =>
      refine he B4 _ ρ4 H4 _ _ _ s4 q4 (fun _ _ _ _ _ _ z => z) fun y r B5 ρ5 H5 s5 t5 rv q5 => ?_
      obtain ⟨rs, e5, hsz, q5⟩ := withD_some q5
      have rva : RvAll K B5 (setsS (wipe σ vs) is ws) ρ5 H5 H4 [y] [r] := .cons (H1 := H5) rv (fun b hb => t5.free s5 hb) (fun p dl e1 e2 => by
        subst e1
        obtain ⟨p', vs', e, _, _, hp, _⟩ := rv
        rw [e2] at e; cases e
        rw [hp]; simp) .nil
      obtain ⟨B6, s6, bb, bn, iy⟩ := rva.freeze s5 e5
      have t6 : Tr (setsS (wipe σ vs) is ws) B4 ρ4 H4 B6 ρ5 H5 := ⟨t5.ext, t5.bex.trans bb, fun b hb => (bn b hb).elim (fun z => t5.bnew b z) .inr, t5.shp, t5.shi⟩
      obtain ⟨so, tro⟩ := out s6 (t4.trans s4 t6)
      obtain ⟨k1, k2⟩ := keepA tro
      have iacc' := IpAll.step s2 tro iacc
      refine ⟨us, k1, by rw [iacc.length]; exact hsz, B6, wipeE ρ5 vs, acc ++ rs, us ++ [y], ?_, ?_, upd_same, k2, ?_, q5⟩
      · exact so.other k1 (fun z => na ((t2.trans s2 tro).ownAt.mp z)) k2
      · have tt := t2.trans s2 tro
        exact ⟨fun b o e n => by rw [upd_ne (ne_of_none e ha)]; exact tt.ext b o e n, tt.bex, tt.bnew, tt.shp, tt.shi⟩
      · exact (iacc'.append iy).mono (Same.refl _) (tups_other k1)
  · left
    have hi' : i = ds.length := by omega
    subst hi'
    refine ⟨wk.stop _ B2 H2 ok2 (Nat.le_refl _), ?_⟩
    exact q (.ref a) (.own acc) B2 ρ2 H2 s2 (t1.trans s1 t2) ⟨a, us, rfl, t1.free s1 ha, b2a, h2a, iacc, na2⟩ (wend acc ρ2 w2)
end
section
variable {X : Cx} {W : WX} {elt tg iter : Expr} {ifs : List Expr} {scope : Scope} {own : List (Str × Nat)} {pos : Pos} {w : IW} {is : List Nat} {sp : D → Option (List D)} {wt : TWs} {we : EW}
structure DTs (X : Cx) (W : WX) (es : List Expr) (w : TWs) : Prop where
  ok : ∃ t, PTs X es t ∧ SimT X.K W t w
theorem dts_nil : DTs X W [] wYes := ⟨_, pts_nil, fun B σ ρ H Qw Xw Q s h hx q => q true B ρ H s (Tr.refl ..) h⟩
theorem dts_one {c : Expr} {wt : TWs} (h : DT X W c wt) : DTs X W [c] wt := by
  obtain ⟨t, p, s⟩ := h.ok
  exact ⟨_, pts_one p, s⟩
/-- one reading for all contexts of a family -/
theorem de_all {ι : Type} {F : ι → Cx} {K : PySem.W.Frag} {W : WX} {e : Expr} {w : EW} (hK : ∀ c, (F c).K = K) (h : ∀ c, DE (F c) W e w) : ∃ t, (∀ c, PE (F c) e t) ∧ SimE K W t w := by
  have h' : ∀ c, ∃ t, PE (F c) e t ∧ SimE K W t w := fun c => by have z := (h c).ok; rw [hK c] at z; exact z
  refine ⟨fun σ H Q => ∀ c t, PE (F c) e t → SimE K W t w → t σ H Q, fun c => ?_, fun B σ ρ H Qw Xw Q s hw hx q c t _ z => z B σ ρ H Qw Xw Q s hw hx q⟩
  obtain ⟨t, p, z⟩ := h' c
  exact ⟨fun pins s σ H Q I q => p.run pins s σ H Q I (q c t p z)⟩
theorem dts_all {ι : Type} {F : ι → Cx} {K : PySem.W.Frag} {W : WX} {e : List Expr} {w : TWs} (hK : ∀ c, (F c).K = K) (h : ∀ c, DTs (F c) W e w) : ∃ t, (∀ c, PTs (F c) e t) ∧ SimT K W t w := by
  have h' : ∀ c, ∃ t, PTs (F c) e t ∧ SimT K W t w := fun c => by have z := (h c).ok; rw [hK c] at z; exact z
  refine ⟨fun σ H Q => ∀ c t, PTs (F c) e t → SimT K W t w → t σ H Q, fun c => ?_, fun B σ ρ H Qw Xw Q s hw hx q c t _ z => z B σ ρ H Qw Xw Q s hw hx q⟩
  obtain ⟨t, p, z⟩ := h' c
  exact ⟨fun pins s σ H Q I q => p.run pins s σ H Q I (q c t p z)⟩
theorem dg_all {ι : Type} {F : ι → Cx} {K : PySem.W.Frag} {e : Expr} {is : List Nat} {sp : D → Option (List D)} (hK : ∀ c, (F c).K = K) (h : ∀ c, DG (F c) e is sp) : ∃ t, (∀ c, PG (F c) e t) ∧ SimG K t is sp := by
  have h' : ∀ c, ∃ t, PG (F c) e t ∧ SimG K t is sp := fun c => by have z := (h c).ok; rw [hK c] at z; exact z
  refine ⟨fun v σ H Q => ∀ c t, PG (F c) e t → SimG K t is sp → t v σ H Q, fun c => ?_, fun B H σ x d ds Q i e q c t _ z => z B H σ x d ds Q i e q⟩
  obtain ⟨t, p, z⟩ := h' c
  exact ⟨fun pins s σ H v u Q I r q => p.run pins s σ H v u Q I r (q c t p z)⟩
theorem de_lc (hc : X.calm = true) (hN : X.N.Nodup) (hi : DI X W tg iter w) (ok : BlkOk X.N X.env.scope scope own)
    (hg : ∀ (s : Shared) (H : Hp) (C : Addr) (cl : List (Str × Addr)) (fp : List Addr), DG (X.blk s H scope (compEnvC scope cl C X.env) fp) tg is sp) (hiv : ∀ i ∈ is, i ∈ own.map (·.2))
    (ht : ∀ (s : Shared) (H : Hp) (C : Addr) (cl : List (Str × Addr)) (fp : List Addr), DTs (X.blk s H scope (compEnvC scope cl C X.env) fp) (fun _ _ _ _ => False) ifs wt)
    (he : ∀ (s : Shared) (H : Hp) (C : Addr) (cl : List (Str × Addr)) (fp : List Addr), DE (X.blk s H scope (compEnvC scope cl C X.env) fp) (fun _ _ _ _ => False) elt we) (hs : ∀ x, foldedSetIterable iter X.env x = pure x := by intro _; rfl) :
    DE X W (.ListComp elt [⟨tg, iter, ifs, 0⟩] scope pos) (wLc w is sp wt we (own.map (·.2))) := by
  obtain ⟨wi, pi, si⟩ := hi.ok
  obtain ⟨g, pg, sg⟩ := dg_all (F := fun c : Shared × Hp × Addr × List (Str × Addr) × List Addr => X.blk c.1 c.2.1 scope (compEnvC scope c.2.2.2.1 c.2.2.1 X.env) c.2.2.2.2) (K := X.K) (fun _ => rfl) fun c => hg ..
  obtain ⟨tt, pt, st⟩ := dts_all (F := fun c : Shared × Hp × Addr × List (Str × Addr) × List Addr => X.blk c.1 c.2.1 scope (compEnvC scope c.2.2.2.1 c.2.2.1 X.env) c.2.2.2.2) (K := X.K) (fun _ => rfl) fun c => ht ..
  obtain ⟨te, pe, se⟩ := de_all (F := fun c : Shared × Hp × Addr × List (Str × Addr) × List Addr => X.blk c.1 c.2.1 scope (compEnvC scope c.2.2.2.1 c.2.2.1 X.env) c.2.2.2.2) (K := X.K) (fun _ => rfl) fun c => he ..
  exact ⟨_, pe_lc hc hN pi ok (fun s H C cl fp => pg (s, H, C, cl, fp)) (fun s H C cl fp => pt (s, H, C, cl, fp)) (fun s H C cl fp => pe (s, H, C, cl, fp)) hs, sim_lc si sg hiv st se⟩
/-- x = [..] -/
theorem ds_setLc (i : Nat) {y : Str} {py spos : Pos} (hc : X.calm = true) (hN : X.N.Nodup) (hi : DI X W tg iter w) (ok : BlkOk X.N X.env.scope scope own)
    (hg : ∀ (s : Shared) (H : Hp) (C : Addr) (cl : List (Str × Addr)) (fp : List Addr), DG (X.blk s H scope (compEnvC scope cl C X.env) fp) tg is sp) (hiv : ∀ i ∈ is, i ∈ own.map (·.2))
    (ht : ∀ (s : Shared) (H : Hp) (C : Addr) (cl : List (Str × Addr)) (fp : List Addr), DTs (X.blk s H scope (compEnvC scope cl C X.env) fp) (fun _ _ _ _ => False) ifs wt)
    (he : ∀ (s : Shared) (H : Hp) (C : Addr) (cl : List (Str × Addr)) (fp : List Addr), DE (X.blk s H scope (compEnvC scope cl C X.env) fp) (fun _ _ _ _ => False) elt we)
    (hsw : swapsWith (.ListComp elt [⟨tg, iter, ifs, 0⟩] scope pos) (some (.Name y py)) spos.line X.env = pure true) (hy : X.N[i]? = some y := by rfl) (hyl : X.env.scope.names.lookup y = some .local := by rfl) (hs : ∀ x, foldedSetIterable iter X.env x = pure x := by intro _; rfl) :
    DS X W (.Assign [.Name y py] (.ListComp elt [⟨tg, iter, ifs, 0⟩] scope pos) spos) (wSet i (wLc w is sp wt we (own.map (·.2)))) := by
  obtain ⟨wi, pi, si⟩ := hi.ok
  obtain ⟨g, pg, sg⟩ := dg_all (F := fun c : Shared × Hp × Addr × List (Str × Addr) × List Addr => X.blk c.1 c.2.1 scope (compEnvC scope c.2.2.2.1 c.2.2.1 X.env) c.2.2.2.2) (K := X.K) (fun _ => rfl) fun c => hg ..
  obtain ⟨tt, pt, st⟩ := dts_all (F := fun c : Shared × Hp × Addr × List (Str × Addr) × List Addr => X.blk c.1 c.2.1 scope (compEnvC scope c.2.2.2.1 c.2.2.1 X.env) c.2.2.2.2) (K := X.K) (fun _ => rfl) fun c => ht ..
  obtain ⟨te, pe, se⟩ := de_all (F := fun c : Shared × Hp × Addr × List (Str × Addr) × List Addr => X.blk c.1 c.2.1 scope (compEnvC scope c.2.2.2.1 c.2.2.1 X.env) c.2.2.2.2) (K := X.K) (fun _ => rfl) fun c => he ..
  exact ⟨_, ps_setLc hc hN hy hyl hsw pi ok (fun s H C cl fp => pg (s, H, C, cl, fp)) (fun s H C cl fp => pt (s, H, C, cl, fp)) (fun s H C cl fp => pe (s, H, C, cl, fp)) hs, sim_set i (sim_lc si sg hiv st se)⟩
end

/-! ### a def's body -/
abbrev FnP (K : PySem.W.Frag) (x : Str) (st : Stmt) (f : Addr) (fd : FuncData) : Prop := FunD K x x (defArgs st) (defBody st) (defScope st) [] [] f fd
/-- a def of the text as it stands behind the top -/
structure At (K : PySem.W.Frag) (mg : Str → Option Value) (x : Str) (st : Stmt) (ps : List Str) where
  f : Addr
  fd : FuncData
  F : FnP K x st f fd
  g : mg x = some (.ref f)
  b : Binds K fd ps []
def startE (N : List Str) (sls : List Sl) : En := sls.map some ++ List.replicate (N.length - sls.length) none
/-- what may be handed back: a list within it must be new -/
def retOk (nl : Bool) : Sl → Prop
  | .dat d => (nl || d.nolist) = true
  | .own ds => (nl || D.nolists ds) = true
  | _ => False
section
variable {K : PySem.W.Frag} {B H H0 : Hp}
theorem start_get {N : List Str} {vs : List V} {sls : List Sl} (hl : vs.length = sls.length) (i : Nat) (sl : Sl) (h : (startE N sls)[i]? = some (some sl)) : sls[i]? = some sl ∧ ∃ v, vs[i]? = some v ∧ (start N vs)[i]? = some (some v) := by
  unfold startE at h
  unfold L2.start
  by_cases hi : i < sls.length
  · rw [List.getElem?_append_left (by simpa using hi), List.getElem?_map] at h
    rw [List.getElem?_append_left (by rw [List.length_map]; omega), List.getElem?_map]
    cases e : sls[i]? with
    | none => rw [e] at h; cases h
    | some s' =>
      rw [e] at h; cases h
      have hv : i < vs.length := by omega
      exact ⟨rfl, vs[i], List.getElem?_eq_getElem hv, by rw [List.getElem?_eq_getElem hv]; rfl⟩
  · exfalso
    rw [List.getElem?_append_right (by simpa using hi)] at h
    rw [List.getElem?_replicate] at h
    split at h <;> cases h
theorem res_of {v : V} {r : Sl} {nl : Bool} (sub : Same B H) (hb : nl = true → ∀ b, B b ≠ none → H0 b = none) (rr : RtR K H0 B H v r) (ok : retOk nl r) : ResR K H0 H v r := by
  cases nl with
  | true =>
    refine ⟨B, sub, hb rfl, ?_⟩
    cases r with
    | dat d => exact rr
    | own ds => obtain ⟨p, vs, a, b, c, d, e⟩ := rr; exact ⟨p, vs, a, b, c, d, e⟩
    | inn ds => exact rr
    | bor i => exact rr
    | dic kvs => exact rr
  | false =>
    refine ⟨H00, same00, fun a h => absurd rfl h, ?_⟩
    cases r with
    | dat d => exact Ip.pure rr (by simpa [retOk] using ok)
    | own ds => obtain ⟨p, vs, a, b, c, d, e⟩ := rr; exact ⟨p, vs, a, b, rfl, d, e.pure (by simpa [retOk] using ok)⟩
    | inn ds => exact rr
    | bor i => exact rr
    | dic kvs => exact rr
end
section
variable {P : Program} {w : World} {K : PySem.W.Frag} {mg : Str → Option Value} {base : Heap}
theorem IpAll.map_get {B H : Hp} {vs : List V} {ds : List D} (h : IpAll K B H vs ds) {i : Nat} {sl : Sl} (e : (ds.map Sl.dat)[i]? = some sl) : ∃ v, vs[i]? = some v ∧ SlR K B H v sl := by
  rw [List.getElem?_map] at e
  cases q : ds[i]? with
  | none => rw [q] at e; cases e
  | some d => rw [q] at e; cases e; exact h.get q
theorem isOwn_start {N : List Str} {sls : List Sl} {i : Nat} (h : isOwn (startE N sls)[i]? = true) : ∃ sl, sls[i]? = some sl ∧ isOwn (some (some sl)) = true := by
  obtain ⟨sl, e, q⟩ := isOwn_some h
  obtain ⟨h1, _⟩ := start_get (vs := sls.map fun _ => V.non) (by simp) i sl e
  rw [e] at h
  exact ⟨sl, h1, h⟩
/-- a def that reads its arguments alone keeps its promise -/
theorem fn_D {x qual : Str} {st : Stmt} {f : Addr} {fd : FuncData} {N ps : List Str} {k : Nat} {g : FD} {wb : SW} (F : FunD K x qual (defArgs st) (defBody st) (defScope st) [] [] f fd) (S : FnScope N ps (defScope st))
    (hbody : ∀ (cdv : Value) (A : Around) (outer : List Env) (s : Shared) (H : Hp) (E : XK), Room k (A.deeper (PyProof.Rows.envOfC qual (defScope st) s.heap.objs.size f cdv)) →
      DSs (cxOf (L2N.CX P w) P w K mg base N qual (defScope st) f cdv A outer s H E) (fun c d _ H => E c d H) (defBody st) wb)
    (hw : ∀ ds Qw Xw, ds.length = ps.length → g ds Qw Xw → wb { nx := fun _ => Qw (.dat .non), rt := fun r _ => retOk (D.nolists ds) r ∧ Qw r, ex := fun c _ => Xw c } (startE N (ds.map .dat))) :
    FnOk P w K mg base (L2N.CX P w) (k + 1) f fd ps (spD K ps.length g) := by
  refine F.ok (CX := L2N.CX P w) S (fun vs H Q E h => ?_) (fun cdv A outer s H vs Q E hr h => ?_)
  · obtain ⟨B, ds, Qw, Xw, _, ia, hl, _⟩ := h
    exact ia.length.trans hl
  · obtain ⟨B, ds, Qw, Xw, sub, ia, hl, hg, hq, hx⟩ := h
    obtain ⟨t, pt, stt⟩ := (hbody cdv A outer s H E hr).ok
    refine ⟨t, pt, ?_⟩
    have hlen : vs.length = (ds.map Sl.dat).length := by rw [List.length_map]; exact ia.length
    have key : ∀ B0 : Hp, Same B0 H → IpAll K B0 H vs ds → (D.nolists ds = true → B0 = H00) → t { nx := fun _ H' => Q .non H', rt := Q } (start N vs) H := fun B0 sub0 ia0 hB => by
      have sr : SR K B0 (start N vs) (startE N (ds.map .dat)) H := by
        refine ⟨?_, sub0, fun i sl h => ?_, fun i j p h1 _ _ _ => ?_⟩
        · simp [L2.start, startE, ia.length]
        · obtain ⟨h1, v, h2, h3⟩ := start_get hlen i sl h
          obtain ⟨v', h4, h5⟩ := ia0.map_get h1
          rw [h2] at h4; cases h4
          exact ⟨v, h3, h5⟩
        · exfalso
          obtain ⟨es, e, he⟩ := isOwn_start h1
          rw [List.getElem?_map] at e
          cases q : ds[i]? with
          | none => rw [q] at e; cases e
          | some d => rw [q] at e; cases e; cases he
      have noown : ∀ b, ¬ OwnAt (start N vs) (startE N (ds.map .dat)) b := fun b ⟨i, h1, _⟩ => by
        obtain ⟨es, e, he⟩ := isOwn_start h1
        rw [List.getElem?_map] at e
        cases q : ds[i]? with
        | none => rw [q] at e; cases e
        | some d => rw [q] at e; cases e; cases he
      have fr : FR K H B0 (fun _ _ => False) B0 (start N vs) (startE N (ds.map .dat)) H := ⟨sr, fun b o e _ => e, fun b z => absurd z (noown b), fun i b z => z.elim, fun b h => .inl h⟩
      refine stt H B0 (fun _ _ => False) B0 _ _ H _ _ fr (hw ds Qw Xw hl hg) ?_ ?_ ?_ ?_ ?_
      · intro B' σ' ρ' H' f' _ q
        exact hq .non (.dat .non) H' (fun b o e => f'.ext0 b o e fun _ z => z) ⟨H00, same00, fun a h => absurd rfl h, .non⟩ q
      · intro v r B' σ' ρ' H' f' rr ⟨ok, q⟩
        refine hq v r H' (fun b o e => f'.ext0 b o e fun _ z => z) (res_of f'.sub (fun hn b hb => ?_) rr ok) q
        rcases f'.bnew b hb with z | z
        · rw [hB hn] at z; exact absurd rfl z
        · exact z
      · intro B' σ' ρ' H' f' _ q; exact q.elim
      · intro B' σ' ρ' H' f' _ q; exact q.elim
      · intro c B' σ' ρ' H' f' g' q
        exact hx c H' (fun b o e => f'.ext0 b o e fun _ z => z) q
    by_cases hn : D.nolists ds = true
    · exact key H00 same00 (ia.pure hn) fun _ => rfl
    · exact key B sub ia fun z => absurd z hn
/-- a def that changes the list in its first argument -/
theorem fn_I {x qual : Str} {st : Stmt} {f : Addr} {fd : FuncData} {N ps : List Str} {k : Nat} {g : FI} {wb : SW} (F : FunD K x qual (defArgs st) (defBody st) (defScope st) [] [] f fd) (S : FnScope N ps (defScope st))
    (hbody : ∀ (cdv : Value) (A : Around) (outer : List Env) (s : Shared) (H : Hp) (E : XK), Room k (A.deeper (PyProof.Rows.envOfC qual (defScope st) s.heap.objs.size f cdv)) →
      DSs (cxOf (L2N.CX P w) P w K mg base N qual (defScope st) f cdv A outer s H E) (fun c d _ H => E c d H) (defBody st) wb)
    (hw : ∀ dl ds Qw Xw, ds.length + 1 = ps.length → g dl ds Qw Xw → wb { nx := fun ρ => withO ρ 0 fun dl' => D.nolists dl' = true ∧ Qw (.dat .non) dl', rt := fun r ρ => retOk (D.nolists ds) r ∧ withO ρ 0 fun dl' => D.nolists dl' = true ∧ Qw r dl', ex := fun c ρ => withO ρ 0 fun dl' => D.nolists dl' = true ∧ Xw c dl' } (startE N (.inn dl :: ds.map .dat))) :
    FnOk P w K mg base (L2N.CX P w) (k + 1) f fd ps (spI K ps.length g) := by
  refine F.ok (CX := L2N.CX P w) S (fun vs H Q E h => ?_) (fun cdv A outer s H vs Q E hr h => ?_)
  · obtain ⟨B, p, ws, vs', dl, ds, Qw, Xw, rfl, _, _, _, _, ia, hl, _⟩ := h
    show vs'.length + 1 = ps.length
    rw [ia.length]; exact hl
  · obtain ⟨B, p, ws, vs', dl, ds, Qw, Xw, rfl, sub, nbp, hp, iw, ia, hl, hg, hq, hx⟩ := h
    obtain ⟨t, pt, stt⟩ := (hbody cdv A outer s H E hr).ok
    refine ⟨t, pt, ?_⟩
    have hlen : (V.ref p :: vs').length = (Sl.inn dl :: ds.map Sl.dat).length := by simp [ia.length]
    have key : ∀ B0 : Hp, Same B0 H → B0 p = none → IpAll K B0 H vs' ds → (D.nolists ds = true → B0 = H00) → t { nx := fun _ H' => Q .non H', rt := Q } (start N (.ref p :: vs')) H := fun B0 sub0 nb0 ia0 hB => by
      have get0 : (start N (V.ref p :: vs'))[0]? = some (some (.ref p)) := rfl
      have zero : ∀ i, isOwn (startE N (.inn dl :: ds.map .dat))[i]? = true → i = 0 := fun i h1 => by
        obtain ⟨es, e, he⟩ := isOwn_start h1
        cases i with
        | zero => rfl
        | succ i =>
          exfalso
          rw [List.getElem?_cons_succ, List.getElem?_map] at e
          cases q : ds[i]? with
          | none => rw [q] at e; cases e
          | some d => rw [q] at e; cases e; cases he
      have sr : SR K B0 (start N (.ref p :: vs')) (startE N (.inn dl :: ds.map .dat)) H := by
        refine ⟨?_, sub0, fun i sl h => ?_, fun i j q h1 h2 _ _ => (zero i h1).trans (zero j h2).symm⟩
        · simp [L2.start, startE, ia.length]
        · obtain ⟨h1, v, h2, h3⟩ := start_get hlen i sl h
          refine ⟨v, h3, ?_⟩
          cases i with
          | zero => cases h1; cases h2; exact ⟨p, ws, rfl, nb0, hp, iw.mono same00 (Tups.of (Same.refl _))⟩
          | succ i =>
            obtain ⟨v', h4, h5⟩ := ia0.map_get (i := i) (sl := sl) (by simpa using h1)
            have h2 : vs'[i]? = some v := by simpa using h2
            rw [h2] at h4; cases h4
            exact h5
      have fr : FR K H B0 (fun i b => i = 0 ∧ b = p) B0 (start N (.ref p :: vs')) (startE N (.inn dl :: ds.map .dat)) H := by
        refine ⟨sr, fun b o e _ => e, fun b ⟨i, h1, h2⟩ => .inr ⟨0, rfl, ?_⟩, fun i b ⟨h1, h2⟩ => ?_, fun b h => .inl h⟩
        · have := zero i h1
          subst this
          rw [get0] at h2
          cases h2; rfl
        · subst h1 h2; exact ⟨get0, dl, rfl⟩
      have lent : ∀ {B' σ' ρ' H'}, FR K H B0 (fun i b => i = 0 ∧ b = p) B' σ' ρ' H' → ∀ k, withO ρ' 0 k → ∃ dl' ws', H' p = some (.lst ws') ∧ IpAll K B' H' ws' dl' ∧ k dl' := fun {B' σ' ρ' H'} f' k hk => by
        obtain ⟨dl', e, hk⟩ := withO_some hk
        obtain ⟨h1, _⟩ := f'.keep 0 p ⟨rfl, rfl⟩
        obtain ⟨p', ws', ep, _, h2, h3⟩ := f'.toSR.bor e h1
        cases ep
        exact ⟨dl', ws', h2, h3, hk⟩
      have ext : ∀ {B' σ' ρ' H'}, FR K H B0 (fun i b => i = 0 ∧ b = p) B' σ' ρ' H' → ∀ b o, H b = some o → b ≠ p → H' b = some o := fun f' b o e hb => f'.ext0 b o e fun i z => hb z.2
      refine stt H B0 _ B0 _ _ H _ _ fr (hw dl ds Qw Xw hl hg) ?_ ?_ ?_ ?_ ?_
      · intro B' σ' ρ' H' f' _ q
        obtain ⟨dl', ws', h1, h2, h3, h4⟩ := lent f' _ q
        exact hq .non (.dat .non) dl' ws' H' (ext f') h1 (h2.pure h3) ⟨H00, same00, fun a h => absurd rfl h, .non⟩ h4
      · intro v r B' σ' ρ' H' f' rr ⟨ok, q⟩
        obtain ⟨dl', ws', h1, h2, h3, h4⟩ := lent f' _ q
        refine hq v r dl' ws' H' (ext f') h1 (h2.pure h3) (res_of f'.sub (fun hn b hb => ?_) rr ok) h4
        rcases f'.bnew b hb with z | z
        · rw [hB hn] at z; exact absurd rfl z
        · exact z
      · intro B' σ' ρ' H' f' _ q; exact q.elim
      · intro B' σ' ρ' H' f' _ q; exact q.elim
      · intro c B' σ' ρ' H' f' g' q
        obtain ⟨dl', ws', h1, h2, h3, h4⟩ := lent f' _ q
        exact hx c dl' ws' H' (ext f') h1 (h2.pure h3) h4
    by_cases hn : D.nolists ds = true
    · exact key H00 same00 rfl (ia.pure hn) fun _ => rfl
    · exact key B sub nbp ia fun z => absurd z hn
end
end DL

set_option Elab.async false
set_option linter.all false
set_option maxRecDepth 100000
set_option maxHeartbeats 4000000
/-! DLg: primitives. -/
namespace DL
open PySem L2

/-! ### binary operators -/
def gAdd : G2
  | .int i, .int j, Q => Q (.dat (.int (i + j)))
  | .lst a, .lst b, Q => a.length + b.length ≤ sizeLine ∧ Q (.own (a ++ b))
  | .str x, .str y, Q => x.length + y.length ≤ sizeLine ∧ Q (.dat (.str (x ++ y)))
  | _, _, _ => False
def gSub2 : G2
  | .int i, .int j, Q => Q (.dat (.int (i - j)))
  | _, _, _ => False
def gMul : G2
  | .int i, .int j, Q => IntMulOk i j ∧ Q (.dat (.int (i * j)))
  | _, _, _ => False
def gDiv : G2
  | .int i, .int j, Q => (j ≠ 0 ∧ Builtin.divisionGoesByPylong i j = false) ∧ Q (.dat (.int (i.fdiv j)))
  | _, _, _ => False
def gMod : G2
  | .int i, .int j, Q => j ≠ 0 ∧ Q (.dat (.int (i.fmod j)))
  | _, _, _ => False
def gPow : G2
  | .int i, .int j, Q => CPow i j ∧ Q (.dat (.int (i ^ j.toNat)))
  | _, _, _ => False
def gLt : G2
  | .int i, .int j, Q => Q (.dat (.bl (decide (i < j))))
  | _, _, _ => False
def gLe : G2
  | .int i, .int j, Q => Q (.dat (.bl (decide (i ≤ j))))
  | _, _, _ => False
def gGt : G2
  | .int i, .int j, Q => Q (.dat (.bl (decide (j < i))))
  | _, _, _ => False
def gGe : G2
  | .int i, .int j, Q => Q (.dat (.bl (decide (j ≤ i))))
  | _, _, _ => False
/-- list + list, of lists that may be read -/
def rCatR (K : PySem.W.Frag) : R2 := fun x y H Q => ∃ l b xs zs, x = .ref l ∧ y = .ref b ∧ SqL K H l xs ∧ SqL K H b zs ∧ xs.length + zs.length ≤ sizeLine ∧ ∀ p, H p = none → Q (.ref p) (upd H p (.lst (xs ++ zs)))
section
variable {X : Cx}
open PySem.Spec PyProof.Rows in
theorem op_catR : OpR X (binaryOp .Add) (rCatR X.K) := by
  intro pins s σ H x y v u Q I rx ry h
  obtain ⟨l, b, xs, zs, rfl, rfl, hH, hB, hz, q⟩ := h
  cases rx
  cases ry
  obtain ⟨its, r, pl, z⟩ := I.list hH
  obtain ⟨its2, r2, pl2, z2⟩ := I.list hB
  obtain ⟨⟨cls, dd, data, sl⟩, ho, hc, n, hd⟩ := pl.isList
  obtain ⟨⟨cls2, dd2, data2, sl2⟩, ho2, hc2, n2, hd2⟩ := pl2.isList
  simp only at hc hd hc2 hd2
  subst hc hd hc2 hd2
  have hl := r.length
  have hl2 := r2.length
  refine concat_meets ⟨_, ho, rfl⟩ ⟨_, ho2, rfl⟩ noFill_list_add seq_list_add PySem.F.slot_list_add PySem.F.entry_list_add (PySem.F.args_list_add_2 _ _)
    (PyProof.Rows.list_addW l b its.toArray its2.toArray n n2 dd dd2 sl sl2 (by rw [List.size_toArray, List.size_toArray]; omega)) ⟨ho, ho2, ?_⟩
  have ea : its.toArray ++ its2.toArray = (its ++ its2).toArray := by simp
  rw [ea]
  exact ⟨.ref _, _, I.lnew (t' := s.toks) (r.append r2) (by rw [List.length_append]; omega), rfl, q _ I.fresh⟩
def rAddA (K : PySem.W.Frag) : R2 := fun x y H Q => rI0 (fun i j => .int (i + j)) x y H Q ∨ (rCatR K x y H Q ∨ ∃ i j, x = .str i ∧ y = .str j ∧ i.length + j.length ≤ sizeLine ∧ Q (.str (i ++ j)) H)
theorem op_addA : OpR X (binaryOp .Add) (rAddA X.K) := op_add.or (op_catR.or op_add_str)
/-- a list times an int -/
def rRepR : R2 := fun x y H Q => ∃ l k xs, x = .ref l ∧ y = .int k ∧ Rd H l (.lst xs) ∧ -(2 ^ 63) ≤ k ∧ k < 2 ^ 63 ∧ xs.length * k.toNat ≤ sizeLine ∧
  ∀ p, H p = none → Q (.ref p) (upd H p (.lst (List.replicate k.toNat xs).flatten))
open PySem.Spec PyProof.Rows in
theorem op_mulI : OpR X (binaryOp .Mult) (rI IntMulOk fun i j => .int (i * j)) := opI fun _ _ _ _ _ _ _ hc q => PyProof.Rows.mul_int q hc
end
section
variable {K : PySem.W.Frag} {B H : Hp} {Qw : Sl → Prop} {Q : VK}
theorem PP.int (p : PP K B H Qw Q) {i : Int} (g : Qw (.dat (.int i))) : Q (.int i) H := p _ (.dat _) _ (Same.refl _) (show Ip K B H _ _ from .int i) g
theorem PP.bl (p : PP K B H Qw Q) {i : Bool} (g : Qw (.dat (.bl i))) : Q (.bl i) H := p _ (.dat _) _ (Same.refl _) (show Ip K B H _ _ from .bl i) g
theorem PP.str (p : PP K B H Qw Q) {i : Str} (g : Qw (.dat (.str i))) : Q (.str i) H := p _ (.dat _) _ (Same.refl _) (show Ip K B H _ _ from .str i) g
theorem PP.non (p : PP K B H Qw Q) (g : Qw (.dat .non)) : Q .non H := p _ (.dat _) _ (Same.refl _) (show Ip K B H _ _ from .non) g
theorem PP.old (p : PP K B H Qw Q) {v : V} {d : D} (i : Ip K B H v d) (g : Qw (.dat d)) : Q v H := p _ (.dat _) _ (Same.refl _) i g
theorem same_new {q : Addr} {o : HO} (hq : H q = none) : Same H (upd H q o) := fun b x e => by rw [upd_ne (ne_of_none e hq)]; exact e
theorem PP.lst (p : PP K B H Qw Q) {vs : List V} {ds : List D} (i : IpAll K B H vs ds) (g : Qw (.own ds)) (q : Addr) (hq : H q = none) : Q (.ref q) (upd H q (.lst vs)) :=
  p _ (.own _) _ (same_new hq) ⟨q, _, rfl, hq, upd_same, i.mono (Same.refl _) (Tups.of (same_new hq))⟩ g
theorem PP.tup (p : PP K B H Qw Q) {vs : List V} {ds : List D} (i : IpAll K B H vs ds) (g : Qw (.dat (.tup ds))) (q : Addr) (hq : H q = none) : Q (.ref q) (upd H q (.tup vs)) :=
  p _ (.dat _) _ (same_new hq) (show Ip K B _ _ _ from .tup (.inl upd_same) (i.mono (Same.refl _) (Tups.of (same_new hq)))) g
theorem IpAll.rep {vs : List V} {ds : List D} (h : IpAll K B H vs ds) : ∀ k : Nat, IpAll K B H (List.replicate k vs).flatten (List.replicate k ds).flatten
  | 0 => .nil
  | k + 1 => by rw [List.replicate_succ, List.replicate_succ, List.flatten_cons, List.flatten_cons]; exact h.append (IpAll.rep h k)
end
section
variable {K : PySem.W.Frag}
theorem ops_add : OpS K (rAddA K) gAdd := by
  intro B H x y d e Qw Q sub hx hy g p
  cases d <;> cases e <;> first | exact g.elim | skip
  · cases hx; cases hy; exact .inl ⟨_, _, rfl, rfl, p.int g⟩
  · cases hx; cases hy; exact .inr (.inr ⟨_, _, rfl, rfl, g.1, p.str g.2⟩)
  · obtain ⟨a, xs, rfl, h1, i1⟩ := hx
    obtain ⟨b, ys, rfl, h2, i2⟩ := hy
    exact .inr (.inl ⟨a, b, xs, ys, rfl, rfl, h1, h2, by rw [i1.length, i2.length]; exact g.1, p.lst (i1.append i2) g.2⟩)
theorem ops_sub : OpS K (rI0 fun i j => .int (i - j)) gSub2 := by
  intro B H x y d e Qw Q sub hx hy g p
  cases d <;> cases e <;> first | exact g.elim | skip
  cases hx; cases hy; exact ⟨_, _, rfl, rfl, p.int g⟩
theorem ops_mul : OpS K (rI IntMulOk fun i j => .int (i * j)) gMul := by
  intro B H x y d e Qw Q sub hx hy g p
  cases d <;> cases e <;> first | exact g.elim | skip
  cases hx; cases hy; exact ⟨_, _, rfl, rfl, g.1, p.int g.2⟩
theorem ops_mod : OpS K (rI (fun _ j => j ≠ 0) fun i j => .int (i.fmod j)) gMod := by
  intro B H x y d e Qw Q sub hx hy g p
  cases d <;> cases e <;> first | exact g.elim | skip
  cases hx; cases hy; exact ⟨_, _, rfl, rfl, g.1, p.int g.2⟩
theorem ops_pow : OpS K (rI CPow fun i j => .int (i ^ j.toNat)) gPow := by
  intro B H x y d e Qw Q sub hx hy g p
  cases d <;> cases e <;> first | exact g.elim | skip
  cases hx; cases hy; exact ⟨_, _, rfl, rfl, g.1, p.int g.2⟩
theorem ops_lt : OpS K (rI0 fun i j => .bl (decide (i < j))) gLt := by
  intro B H x y d e Qw Q sub hx hy g p
  cases d <;> cases e <;> first | exact g.elim | skip
  cases hx; cases hy; exact ⟨_, _, rfl, rfl, p.bl g⟩
theorem ops_gt : OpS K (rI0 fun i j => .bl (decide (j < i))) gGt := by
  intro B H x y d e Qw Q sub hx hy g p
  cases d <;> cases e <;> first | exact g.elim | skip
  cases hx; cases hy; exact ⟨_, _, rfl, rfl, p.bl g⟩
def gNeg : G1
  | .int i, Q => Q (.dat (.int (-i)))
  | _, _ => False
theorem uns_neg : UnS K (rU fun i => .int (-i)) gNeg := by
  intro B H x d Qw Q sub hx g p
  cases d <;> first | exact g.elim | skip
  cases hx; exact ⟨_, rfl, p.int g⟩
end

/-! ### [..] * k -/
def wRep (wa wb : EW) : EW := fun ρ Q X => wa ρ (fun a ρ1 => wb ρ1 (fun b ρ2 => match a, b with
  | .own ds, .dat (.int k) => (-(2 ^ 63) ≤ k ∧ k < 2 ^ 63 ∧ ds.length * k.toNat ≤ sizeLine) ∧ Q (.own (List.replicate k.toNat ds).flatten) ρ2
  | _, _ => False) X) X
section
variable {X : Cx} {W : WX} {a b : Expr} {wa wb : EW} {pos : Pos}
end

/-! ### == of data -/
mutual
def D.py : D → PyData
  | .non => .none
  | .bl b => .bool b
  | .int i => .int i
  | .str x => .str x
  | .tup ds => .tuple (D.pys ds)
  | .lst ds => .list (D.pys ds)
  | .adr _ => .none
  | .ty _ => .none
  | .obj _ _ _ => .none
  | .fl ds => .list (D.pys ds)
  | .tpx ds => .tuple (D.pys ds)
  | .exc _ => .none
  | .dct _ => .none
  | .dcu _ => .none
  | .ml ds => .list (D.pys ds)
  | .kl ds => .list (D.pys ds)
def D.pys : List D → List PyData
  | [] => []
  | d :: ds => d.py :: D.pys ds
end
mutual
/-- plain: no place, no class -/
def D.plain : D → Bool
  | .adr _ => false
  | .ty _ => false
  | .obj _ _ _ => false
  | .fl ds => D.plains ds
  | .tpx ds => D.plains ds
  | .exc _ => false
  | .dct _ => false
  | .dcu _ => false
  | .str x => x.cps.all (· < 0x110000)
  | .tup ds => D.plains ds
  | .lst ds => D.plains ds
  | .ml ds => D.plains ds
  | .kl ds => D.plains ds
  | _ => true
def D.plains : List D → Bool
  | [] => true
  | d :: ds => D.plain d && D.plains ds
end
section
variable {K : PySem.W.Frag} {B H : Hp}
mutual
theorem Ip.dp (sub : Same B H) : ∀ {v : V} {d : D}, Ip K B H v d → d.plain = true → Dp K H v d.py
  | _, _, .non, _ => by rw [D.py]; exact .non
  | _, _, .bl b, _ => by rw [D.py]; exact .bl b
  | _, _, .int i, _ => by rw [D.py]; exact .int i
  | _, _, .str x, _ => by rw [D.py]; exact .str x
  | _, _, .adr a, e => by simp [D.plain] at e
  | _, _, .ty n, e => by simp [D.plain] at e
  | _, _, .obj _ _ _, e => by simp [D.plain] at e
  | _, _, .exc _ _ _, e => by simp [D.plain] at e
  | _, _, .dct _ _, e => by simp [D.plain] at e
  | _, _, .dcu _ _, e => by simp [D.plain] at e
  | _, _, .tpx h _ t, e => by rw [D.py]; exact .tup (.inl (.inr ⟨_, h⟩)) (IpAll.dp sub t (by simpa [D.plain] using e))
  | _, _, .fl h t, e => by rw [D.py]; exact .lst (.inl (.inr ⟨_, h⟩)) (IpAll.dp sub t (by simpa [D.plain] using e))
  | _, _, .tup h t, e => by rw [D.py]; exact .tup h.sq (IpAll.dp sub t (by simpa [D.plain] using e))
  | _, _, .lst h t, e => by rw [D.py]; exact .lst (sub.seq h) (IpAll.dp sub t (by simpa [D.plain] using e))
  | _, _, .ml h t, e => by rw [D.py]; exact .lst (sub.seq (.inl (.inl h))) (IpAll.dp sub t (by simpa [D.plain] using e))
  | _, _, .kl h t, e => by rw [D.py]; exact .lst h.sq (IpAll.dp sub t (by simpa [D.plain] using e))
theorem IpAll.dp (sub : Same B H) : ∀ {vs : List V} {ds : List D}, IpAll K B H vs ds → D.plains ds = true → DpAll K H vs (D.pys ds)
  | _, _, .nil, _ => by rw [D.pys]; exact .nil
  | _, _, .cons h t, e => by
    rw [D.plains, Bool.and_eq_true] at e
    rw [D.pys]
    exact .cons (Ip.dp sub h e.1) (IpAll.dp sub t e.2)
end
theorem RdB.dp (sub : Same B H) {v : V} {d : D} (h : RdB K B H v d) (e : d.plain = true) : Dp K H v d.py := by
  cases d with
  | lst ds =>
    obtain ⟨a, xs, rfl, h1, h2⟩ := h
    rw [D.py]
    exact .lst h1 (h2.dp sub (by simpa [D.plain] using e))
  | _ => exact Ip.dp sub h e
end
mutual
def D.deep : D → Nat
  | .tup ds => D.deeps ds + 1
  | .lst ds => D.deeps ds + 1
  | .fl ds => D.deeps ds + 1
  | .tpx ds => D.deeps ds + 1
  | .ml ds => D.deeps ds + 1
  | .kl ds => D.deeps ds + 1
  | _ => 0
def D.deeps : List D → Nat
  | [] => 0
  | d :: ds => max d.deep (D.deeps ds)
end
mutual
theorem D.py_lay : ∀ d : D, d.plain = true → d.py.canLay0 = true
  | .non, _ => by simp [D.py, PyData.canLay0]
  | .bl _, _ => by simp [D.py, PyData.canLay0]
  | .int _, _ => by simp [D.py, PyData.canLay0]
  | .str x, e => by rw [D.py, PyData.canLay0]; exact e
  | .adr _, e => by simp [D.plain] at e
  | .ty _, e => by simp [D.plain] at e
  | .tup ds, e => by rw [D.py, PyData.canLay0]; exact D.pys_lay ds (by simpa [D.plain] using e)
  | .lst ds, e => by rw [D.py, PyData.canLay0]; exact D.pys_lay ds (by simpa [D.plain] using e)
  | .fl ds, e => by rw [D.py, PyData.canLay0]; exact D.pys_lay ds (by simpa [D.plain] using e)
  | .obj _ _ _, e => by simp [D.plain] at e
  | .exc _, e => by simp [D.plain] at e
  | .dct _, e => by simp [D.plain] at e
  | .dcu _, e => by simp [D.plain] at e
  | .tpx ds, e => by rw [D.py, PyData.canLay0]; exact D.pys_lay ds (by simpa [D.plain] using e)
  | .ml ds, e => by rw [D.py, PyData.canLay0]; exact D.pys_lay ds (by simpa [D.plain] using e)
  | .kl ds, e => by rw [D.py, PyData.canLay0]; exact D.pys_lay ds (by simpa [D.plain] using e)
theorem D.pys_lay : ∀ ds : List D, D.plains ds = true → PyData.canLayAll0 (D.pys ds) = true
  | [], _ => by simp [D.pys, PyData.canLayAll0]
  | d :: ds, e => by
    rw [D.plains, Bool.and_eq_true] at e
    rw [D.pys, PyData.canLayAll0, D.py_lay d e.1, D.pys_lay ds e.2]; rfl
end
mutual
theorem D.py_depth : ∀ d : D, d.py.depth = d.deep
  | .non => by simp [D.py, PyData.depth, D.deep]
  | .bl _ => by simp [D.py, PyData.depth, D.deep]
  | .int _ => by simp [D.py, PyData.depth, D.deep]
  | .str _ => by simp [D.py, PyData.depth, D.deep]
  | .adr _ => by simp [D.py, PyData.depth, D.deep]
  | .ty _ => by simp [D.py, PyData.depth, D.deep]
  | .tup ds => by have := D.pys_depth ds; simp [D.py, PyData.depth, D.deep]; omega
  | .lst ds => by have := D.pys_depth ds; simp [D.py, PyData.depth, D.deep]; omega
  | .fl ds => by have := D.pys_depth ds; simp [D.py, PyData.depth, D.deep]; omega
  | .obj _ _ _ => by simp [D.py, PyData.depth, D.deep]
  | .exc _ => by simp [D.py, PyData.depth, D.deep]
  | .dct _ => by simp [D.py, PyData.depth, D.deep]
  | .dcu _ => by simp [D.py, PyData.depth, D.deep]
  | .tpx ds => by have := D.pys_depth ds; simp [D.py, PyData.depth, D.deep]; omega
  | .ml ds => by have := D.pys_depth ds; simp [D.py, PyData.depth, D.deep]; omega
  | .kl ds => by have := D.pys_depth ds; simp [D.py, PyData.depth, D.deep]; omega
theorem D.pys_depth : ∀ ds : List D, PyData.depthAll (D.pys ds) = D.deeps ds
  | [] => by simp [D.pys, PyData.depthAll, D.deeps]
  | d :: ds => by
    have h1 := D.py_depth d
    have h2 := D.pys_depth ds
    simp [D.pys, PyData.depthAll, D.deeps, h1, h2]
end
def D.shp (d : D) : Bool := d.plain && decide (d.deep ≤ 64)
theorem D.shp_shaped {d : D} (h : d.shp = true) : SeqAt.shaped d.py = true := by
  unfold D.shp at h
  rw [Bool.and_eq_true] at h
  show (d.py.canLay0 && decide (d.py.depth ≤ 64)) = true
  rw [Bool.and_eq_true, D.py_depth]
  exact ⟨D.py_lay d h.1, h.2⟩
def D.eqb (d e : D) : Bool := PyData.eqv d.py e.py
def gEq : G2 := fun d e Q => (d.shp = true ∧ e.shp = true) ∧ Q (.dat (.bl (d.eqb e)))
def gNe : G2 := fun d e Q => (d.shp = true ∧ e.shp = true) ∧ Q (.dat (.bl (!d.eqb e)))
section
variable {K : PySem.W.Frag}
theorem shp_plain {d : D} (h : d.shp = true) : d.plain = true := by
  unfold D.shp at h
  rw [Bool.and_eq_true] at h
  exact h.1
theorem ops_eq : OpS K (rEqD K) gEq := fun B H x y d e Qw Q sub hx hy g p =>
  ⟨d.py, e.py, hx.dp sub (shp_plain g.1.1), hy.dp sub (shp_plain g.1.2), D.shp_shaped g.1.1, D.shp_shaped g.1.2, p.bl g.2⟩
theorem ops_ne : OpS K (rNeD K) gNe := fun B H x y d e Qw Q sub hx hy g p =>
  ⟨d.py, e.py, hx.dp sub (shp_plain g.1.1), hy.dp sub (shp_plain g.1.2), D.shp_shaped g.1.1, D.shp_shaped g.1.2, p.bl g.2⟩
def gInL : G2
  | d, .lst ds, Q => (d.shp = true ∧ (D.lst ds).shp = true) ∧ Q (.dat (.bl (ds.any fun z => z.eqb d)))
  | d, .fl ds, Q => (d.shp = true ∧ (D.fl ds).shp = true) ∧ Q (.dat (.bl (ds.any fun z => z.eqb d)))
  | _, _, _ => False
def gNotInL : G2
  | d, .lst ds, Q => (d.shp = true ∧ (D.lst ds).shp = true) ∧ Q (.dat (.bl (!ds.any fun z => z.eqb d)))
  | _, _, _ => False
theorem pys_any (d : D) : ∀ ds : List D, ((D.pys ds).any fun z => PyData.eqv z d.py) = ds.any fun z => z.eqb d
  | [] => by simp [D.pys]
  | z :: ds => by rw [D.pys, List.any_cons, List.any_cons, pys_any d ds]; rfl
theorem ops_in : OpS K (rInD K) gInL := by
  intro B H x y d e Qw Q sub hx hy g p
  cases e with
  | lst ds =>
    have h2 := hy.dp sub (shp_plain g.1.2)
    have h3 := D.shp_shaped g.1.2
    rw [D.py] at h2 h3
    exact ⟨d.py, D.pys ds, hx.dp sub (shp_plain g.1.1), h2, D.shp_shaped g.1.1, h3, by rw [pys_any]; exact p.bl g.2⟩
  | fl ds =>
    have h2 := Ip.dp sub hy (shp_plain g.1.2)
    have h3 := D.shp_shaped g.1.2
    rw [D.py] at h2 h3
    exact ⟨d.py, D.pys ds, hx.dp sub (shp_plain g.1.1), h2, D.shp_shaped g.1.1, h3, by rw [pys_any]; exact p.bl g.2⟩
  | _ => exact g.elim
theorem ops_notin : OpS K (rNotInD K) gNotInL := by
  intro B H x y d e Qw Q sub hx hy g p
  cases e with
  | lst ds =>
    have h2 := hy.dp sub (shp_plain g.1.2)
    have h3 := D.shp_shaped g.1.2
    rw [D.py] at h2 h3
    exact ⟨d.py, D.pys ds, hx.dp sub (shp_plain g.1.1), h2, D.shp_shaped g.1.1, h3, by rw [pys_any]; exact p.bl g.2⟩
  | _ => exact g.elim
end

/-! ### x[i], x[a:b] -/
def withOp {α : Type} (o : Option α) (k : α → Prop) : Prop := match o with
  | some x => k x
  | none => False
theorem withOp_some {α : Type} {o : Option α} {k : α → Prop} (h : withOp o k) : ∃ x, o = some x ∧ k x := by
  cases o with
  | none => exact h.elim
  | some x => exact ⟨x, rfl, h⟩
def gIx : G2
  | .tup ds, .int i, Q => withOp (atI ds i) fun d => Q (.dat d)
  | .lst ds, .int i, Q => withOp (atI ds i) fun d => Q (.dat d)
  | .fl ds, .int i, Q => withOp (atI ds i) fun d => Q (.dat d)
  | .tpx ds, .int i, Q => withOp (atI ds i) fun d => Q (.dat d)
  | .kl ds, .int i, Q => withOp (atI ds i) fun d => Q (.dat d)
  | .str x, .int i, Q => x.length ≤ sizeLine ∧ withOp (atI x.cps.toList i) fun c => Q (.dat (.str ⟨#[c]⟩))
  | _, _, _ => False
section
variable {K : PySem.W.Frag}
theorem IpAll.atI {B H : Hp} {vs : List V} {ds : List D} (h : IpAll K B H vs ds) {i : Int} {d : D} (e : L2.atI ds i = some d) : ∃ v, L2.atI vs i = some v ∧ Ip K B H v d := by
  unfold L2.atI at e ⊢
  rw [h.length]
  cases q : ixN ds.length i with
  | none => rw [q] at e; cases e
  | some j =>
    rw [q] at e
    obtain ⟨v, h1, h2⟩ := h.get (i := j) (d := d) e
    exact ⟨v, h1, h2⟩
theorem ops_ix : OpS K (rIx K) gIx := by
  intro B H x y d e Qw Q sub hx hy g p
  cases d <;> cases e <;> first | exact g.elim | skip
  · cases hy
    cases hx
    obtain ⟨c, e, g2⟩ := withOp_some g.2
    exact .inr (.inr ⟨_, _, c, rfl, rfl, g.1, e, p.str g2⟩)
  · cases hy
    obtain ⟨d, e, g⟩ := withOp_some g
    cases hx with
    | tup h t =>
      obtain ⟨v, h1, h2⟩ := t.atI e
      exact .inr (.inl ⟨_, _, _, v, rfl, rfl, h.sq, h1, p.old h2 g⟩)
  · cases hy
    obtain ⟨d, e, g⟩ := withOp_some g
    obtain ⟨a, xs, rfl, h, t⟩ := hx
    obtain ⟨v, h1, h2⟩ := t.atI e
    exact .inl ⟨_, _, _, v, rfl, rfl, h, h1, p.old h2 g⟩
  · cases hy
    obtain ⟨d, e, g⟩ := withOp_some g
    cases hx with
    | fl h t =>
      obtain ⟨v, h1, h2⟩ := t.atI e
      exact .inl ⟨_, _, _, v, rfl, rfl, .inl (.inr ⟨_, h⟩), h1, p.old h2 g⟩
  · cases hy
    obtain ⟨d, e, g⟩ := withOp_some g
    cases hx with
    | tpx h _ t =>
      obtain ⟨v, h1, h2⟩ := t.atI e
      exact .inr (.inl ⟨_, _, _, v, rfl, rfl, .inl (.inr ⟨_, h⟩), h1, p.old h2 g⟩)
  · cases hy
    obtain ⟨d, e, g⟩ := withOp_some g
    cases hx with
    | kl h t =>
      obtain ⟨v, h1, h2⟩ := t.atI e
      exact .inl ⟨_, _, _, v, rfl, rfl, h.sq, h1, p.old h2 g⟩
end
section
variable {X : Cx} {W : WX} {a b : Expr} {wa wb : EW} {pos : Pos}
theorem de_ix (ha : DE X W a wa) (hb : DE X W b wb) (hs : PlainIx b := by intro _ _; rfl) : DE X W (.Subscript a b pos) (wOp gIx wa wb) := by
  obtain ⟨ta, pa, sa⟩ := ha.ok
  obtain ⟨tb, pb, sb⟩ := hb.ok
  exact ⟨_, pe_ix ix_seq pa pb hs, sim_op ops_ix sa sb⟩
end
end DL

set_option Elab.async false
set_option linter.all false
set_option maxRecDepth 100000
set_option maxHeartbeats 4000000
/-! DLh: slices, built-ins, methods of lists, sources of loops, more statements. -/
namespace DL
open PySem L2

/-! ### slices -/
def cutD (xs : List D) (lo hi : Option Int) : List D := (xs.drop (HT.sIx xs.length 0 lo)).take (HT.sIx xs.length xs.length hi - HT.sIx xs.length 0 lo)
abbrev OW := En → (Option Int → En → Prop) → (Value → En → Prop) → Prop
def SimO (K : PySem.W.Frag) (W : WX) (t : TO) (w : OW) : Prop := ∀ (B : Hp) (σ : St) (ρ : En) (H : Hp) (Qw : Option Int → En → Prop) (Xw : Value → En → Prop) (Q : Option Int → Hp → Prop), SR K B σ ρ H → w ρ Qw Xw → XWof K W σ B ρ H Xw →
  (∀ o B' ρ' H', SR K B' σ ρ' H' → Tr σ B ρ H B' ρ' H' → Qw o ρ' → Q o H') → t σ H Q
structure DO (X : Cx) (W : WX) (e : Option Expr) (w : OW) : Prop where
  ok : ∃ t, PO X e t ∧ SimO X.K W t w
def wNoPart : OW := fun ρ Q _ => Q none ρ
def wPart (we : EW) : OW := fun ρ Q X => we ρ (fun r ρ1 => match r with
  | .dat (.int i) => Q (some i) ρ1
  | _ => False) X
def gSl (d : D) (lo hi : Option Int) (Q : Sl → Prop) : Prop := match d with
  | .lst ds => Q (.own (cutD ds lo hi))
  | .tup ds => Q (.dat (.tup (cutD ds lo hi)))
  | _ => False
def wSl (we : EW) (wl wh : OW) : EW := fun ρ Q X => we ρ (fun r ρ1 => wl ρ1 (fun lo ρ2 => wh ρ2 (fun hi ρ3 => withC ρ3 r fun d => gSl d lo hi fun s => Q s ρ3) X) X) X
/-- a slice of a list or a tuple (the whole tuple is itself) -/
def rSlW (K : PySem.W.Frag) : V → Option Int → Option Int → Hp → VK → Prop := fun x lo hi H Q => ∃ a xs, x = .ref a ∧ SqT K H a xs ∧
  (HT.sIx xs.length 0 lo = 0 ∧ HT.sIx xs.length xs.length hi = xs.length) ∧ Q (.ref a) H
section
open PySem.Spec PyProof.Rows
variable {prog : Program} {w : World} {A : Around} {E : Value → Shared → Prop} {s : Shared}
theorem getItem_tuple_whole {t sl : Addr} {items : Array Value} {vl vu : Value} {lo hi : Option Int} {Q : Value → Shared → Prop} (ht : IsTup s.heap t items) (hs : s.heap.IsSliceOf sl vl vu .none) (pl : IsPart vl lo) (pu : IsPart vu hi)
    (hw : HT.sIx items.size 0 lo = 0 ∧ HT.sIx items.size items.size hi = items.size)
    (h : Q (.ref t) s) : wpAny (model prog w) A (getItem (.ref t) (.ref sl)) Q E s := by
  obtain ⟨os, hos, hcs, hds⟩ := id hs
  have hTs : s.TypeIs (.ref sl) "slice" := ⟨os, hos, hcs⟩
  unfold getItem
  try with_reducible refine wpAny_holding ?_
  first | refine wpAny_bind (wpAny_pure ?_) | skip
  refine wpAny_bind (wpAny_sequenceKey ht.typeIs (by decide) ?_)
  refine wpAny_bind (wpAny_callSpecial?_slot (name := Str.ofString "__getitem__") ht.typeIs PyProof.Rows.slot_tuple_getitem
    (wpAny_call_entry PyProof.Rows.slot_tuple_getitem ht.typeIs entry_tuple_getitem ?_ (args_tuple_getitem _ _)))
  show wpAny _ _ (Builtin.Tuple.tupleItemsOf (.ref t) >>= _) _ _ s
  refine wpAny_bind (tupleItemsOf_ ht ?_)
  refine wpAny_bind (wpAny_typeOf hTs ?_)
  rw [if_pos (by decide)]
  refine wpAny_bind (HT.sliceApplied_gen hs pl pu ?_)
  have hyes : ((((HT.sIx items.size 0 lo : Nat) : Int) == 0 && (1 : Int) == 1 && (HT.sIx items.size items.size hi - HT.sIx items.size 0 lo) == items.size) = true) := by
    rw [hw.1, hw.2]
    simp
  show wpAny _ _ (if (((HT.sIx items.size 0 lo : Nat) : Int) == 0 && (1 : Int) == 1 && (HT.sIx items.size items.size hi - HT.sIx items.size 0 lo) == items.size) = true then _ else _) _ _ s
  rw [if_pos hyes]
  refine wpAny_bind (m := Builtin.Tuple.tupleIsExact _) (wpAny_bind (wpAny_typeOf ht.typeIs (wpAny_pure ?_)))
  rw [if_pos (by decide)]
  refine wpAny_bind (wpAny_rule ?_)
  first
    | exact wpAny_pure ⟨_, rfl, wpAny_pure h⟩
    | exact wpAny_bind (wpAny_pure (wpAny_pure ⟨_, rfl, wpAny_pure h⟩))
end
section
variable {X : Cx}
theorem sl_tupW : L2.SlR X (rSlW X.K) := by
  intro pins s σ H x v vl vu lo hi sl Q I rx hs pl pu h
  obtain ⟨a, xs, rfl, hx, hw, q⟩ := h
  cases rx
  obtain ⟨its, r, ht, hz⟩ := I.tuple hx
  have hlen : its.toArray.size = xs.length := by rw [List.size_toArray]; exact r.length.symm
  refine ⟨"tuple", _, PyProof.Rows.slot_tuple_getitem.lookup, ht.typeIs, ?_⟩
  exact getItem_tuple_whole ht hs pl pu (by rw [hlen]; exact hw) ⟨.ref a, H, I, rfl, q⟩
def rSlA (K : PySem.W.Frag) : V → Option Int → Option Int → Hp → VK → Prop := fun x lo hi H Q => rSlL K x lo hi H Q ∨ (rSlT K x lo hi H Q ∨ rSlW K x lo hi H Q)
theorem sl_any : L2.SlR X (rSlA X.K) := L2.SlR.or sl_list (L2.SlR.or sl_tup sl_tupW)
end
section
variable {K : PySem.W.Frag} {W : WX}
theorem IpAll.cut {B H : Hp} {vs : List V} {ds : List D} (h : IpAll K B H vs ds) (lo hi : Option Int) : IpAll K B H (cutV vs lo hi) (cutD ds lo hi) := by
  unfold cutV cutD
  rw [h.length]
  exact (h.drop _).take _
theorem cutD_whole {ds : List D} {lo hi : Option Int} (h : HT.sIx ds.length 0 lo = 0 ∧ HT.sIx ds.length ds.length hi = ds.length) : cutD ds lo hi = ds := by
  unfold cutD
  rw [h.1, h.2]
  simp
theorem sls {B H : Hp} {x : V} {d : D} {lo hi : Option Int} {Qw : Sl → Prop} {Q : VK} (sub : Same B H) (hx : RdB K B H x d) (g : gSl d lo hi Qw) (p : PP K B H Qw Q) : rSlA K x lo hi H Q := by
  cases d with
  | lst ds =>
    obtain ⟨a, xs, rfl, h1, h2⟩ := hx
    exact .inl ⟨a, xs, rfl, h1, p.lst (h2.cut lo hi) g⟩
  | tup ds =>
    cases hx with
    | tup h t =>
      rename_i a xs
      by_cases hw : HT.sIx xs.length 0 lo = 0 ∧ HT.sIx xs.length xs.length hi = xs.length
      · refine .inr (.inr ⟨_, _, rfl, h.sq, hw, p.old (.tup h t) ?_⟩)
        rw [t.length] at hw
        have g : Qw (.dat (.tup (cutD ds lo hi))) := g
        rw [cutD_whole hw] at g
        exact g
      · exact .inr (.inl ⟨_, _, rfl, h.sq, hw, p.tup (t.cut lo hi) g⟩)
  | _ => exact g.elim
theorem sim_sl {te : TE} {we : EW} {tl th : TO} {wl wh : OW} (he : SimE K W te we) (hl : SimO K W tl wl) (hh : SimO K W th wh) : SimE K W (tSl (rSlA K) te tl th) (wSl we wl wh) := by
  intro B σ ρ H Qw Xw Q s h hx q
  refine he B σ ρ H _ Xw _ s h hx fun v r B1 ρ1 H1 s1 t1 rv1 q1 => ?_
  refine hl B1 σ ρ1 H1 _ Xw _ s1 q1 (hx.lift s1 t1) fun lo B2 ρ2 H2 s2 t2 q2 => ?_
  refine hh B2 σ ρ2 H2 _ Xw _ s2 q2 ((hx.lift s1 t1).lift s2 t2) fun hi B3 ρ3 H3 s3 t3 q3 => ?_
  obtain ⟨d, e, q3⟩ := withC_some q3
  have t23 := t2.trans s2 t3
  have t13 := t1.trans s1 t23
  exact sls s3.sub ((rv1.lift s1 t23).rd s3 e) q3 fun z sl H' sm rv qq => q z sl B3 ρ3 H' (s3.same sm) (t13.trans s3 (Tr.same sm)) ((rv.rv s3 sm).early s3 t13) qq
end
section
variable {X : Cx} {W : WX} {e : Expr} {we : EW} {lo hi : Option Expr} {wl wh : OW} {pos p2 : Pos}
theorem do_none : DO X W none wNoPart := ⟨_, po_none, fun B σ ρ H Qw Xw Q s h hx q => q none B ρ H s (Tr.refl ..) h⟩
theorem do_some (h : DE X W e we) : DO X W (some e) (wPart we) := by
  obtain ⟨t, p, s⟩ := h.ok
  refine ⟨_, po_some p, fun B σ ρ H Qw Xw Q sr h hx q => ?_⟩
  refine s B σ ρ H _ Xw _ sr h hx fun v r B1 ρ1 H1 s1 t1 rv1 q1 => ?_
  cases r with
  | dat d =>
    cases d with
    | int i => cases rv1; exact ⟨i, rfl, q (some i) B1 ρ1 H1 s1 t1 q1⟩
    | _ => exact q1.elim
  | _ => exact q1.elim
theorem de_sl (he : DE X W e we) (hl : DO X W lo wl) (hh : DO X W hi wh) : DE X W (.Subscript e (.Slice lo hi none p2) pos) (wSl we wl wh) := by
  obtain ⟨t, p, s⟩ := he.ok
  obtain ⟨tl, pl, sl⟩ := hl.ok
  obtain ⟨th, ph, sh⟩ := hh.ok
  exact ⟨_, pe_slice sl_any p pl ph, sim_sl s sl sh⟩
end

/-! ### built-ins -/
def gLen : GN
  | [.tup ds], Q => Q (.dat (.int ds.length))
  | [.lst ds], Q => Q (.dat (.int ds.length))
  | [.fl ds], Q => Q (.dat (.int ds.length))
  | [.tpx ds], Q => Q (.dat (.int ds.length))
  | [.ml ds], Q => Q (.dat (.int ds.length))
  | [.kl ds], Q => Q (.dat (.int ds.length))
  | _, _ => False
def gAbs : GN
  | [.int i], Q => Q (.dat (.int (if i < 0 then -i else i)))
  | _, _ => False
def gMax : GN
  | [.int i, .int j], Q => Q (.dat (.int (if j > i then j else i)))
  | _, _ => False
def gMin : GN
  | [.int i, .int j], Q => Q (.dat (.int (if j < i then j else i)))
  | _, _ => False
def gInt : GN
  | [.int i], Q => Q (.dat (.int i))
  | [.bl k], Q => Q (.dat (.int (if k then 1 else 0)))
  | _, _ => False
def gTuple : GN
  | [.lst ds], Q => Q (.dat (.tup ds))
  | [.tup ds], Q => Q (.dat (.tup ds))
  | [.tpx ds], Q => Q (.dat (.tpx ds))
  | _, _ => False
def gList : GN
  | [.lst ds], Q => Q (.own ds)
  | [.tup ds], Q => Q (.own ds)
  | [.fl ds], Q => Q (.own ds)
  | _, _ => False
/-- bools of data -/
def blsOf : List D → Option (List Bool)
  | [] => some []
  | .bl b :: ds => (blsOf ds).map (b :: ·)
  | _ => none
def intsOf : List D → Option (List Int)
  | [] => some []
  | .int b :: ds => (intsOf ds).map (b :: ·)
  | _ => none
def gAny : GN
  | [.lst ds], Q => withOp (blsOf ds) fun bs => Q (.dat (.bl (bs.any id)))
  | _, _ => False
def gAll : GN
  | [.lst ds], Q => withOp (blsOf ds) fun bs => Q (.dat (.bl (bs.all id)))
  | _, _ => False
def gSorted : GN
  | [.lst ds], Q => withOp (intsOf ds) fun ns => ns.length < 64 ∧ ∀ ns' : List Int, ns'.Perm ns → ns'.Pairwise (· ≤ ·) → Q (.own (ns'.map .int))
  | _, _ => False
section
variable {K : PySem.W.Frag} {B H : Hp}
theorem bls_vs : ∀ {ds : List D} {vs : List V} {bs : List Bool}, IpAll K B H vs ds → blsOf ds = some bs → vs = bs.map V.bl
  | [], _, _, .nil, e => by cases e; rfl
  | .bl b :: ds, _, bs, .cons (.bl _) t, e => by
    cases q : blsOf ds with
    | none => rw [blsOf, q] at e; cases e
    | some bs' => rw [blsOf, q] at e; cases e; rw [bls_vs t q]; rfl
  | .non :: _, _, _, _, e => by cases e
  | .int _ :: _, _, _, _, e => by cases e
  | .str _ :: _, _, _, _, e => by cases e
  | .tup _ :: _, _, _, _, e => by cases e
  | .lst _ :: _, _, _, _, e => by cases e
  | .adr _ :: _, _, _, _, e => by cases e
  | .ty _ :: _, _, _, _, e => by cases e
theorem ints_vs : ∀ {ds : List D} {vs : List V} {bs : List Int}, IpAll K B H vs ds → intsOf ds = some bs → vs = bs.map V.int
  | [], _, _, .nil, e => by cases e; rfl
  | .int b :: ds, _, bs, .cons (.int _) t, e => by
    cases q : intsOf ds with
    | none => rw [intsOf, q] at e; cases e
    | some bs' => rw [intsOf, q] at e; cases e; rw [ints_vs t q]; rfl
  | .non :: _, _, _, _, e => by cases e
  | .bl _ :: _, _, _, _, e => by cases e
  | .str _ :: _, _, _, _, e => by cases e
  | .tup _ :: _, _, _, _, e => by cases e
  | .lst _ :: _, _, _, _, e => by cases e
  | .adr _ :: _, _, _, _, e => by cases e
  | .ty _ :: _, _, _, _, e => by cases e
end
section
variable {K : PySem.W.Frag}
theorem rd1 {B H : Hp} {xs : List V} {d : D} (h : RdAll K B H xs [d]) : ∃ x, xs = [x] ∧ RdB K B H x d := by
  cases h with
  | cons a b => cases b; exact ⟨_, rfl, a⟩
theorem rd2 {B H : Hp} {xs : List V} {d e : D} (h : RdAll K B H xs [d, e]) : ∃ x y, xs = [x, y] ∧ RdB K B H x d ∧ RdB K B H y e := by
  cases h with
  | cons a b => cases b with | cons c d => cases d; exact ⟨_, _, rfl, a, c⟩
theorem cs_len : CallS K (fun xs H Q => ∃ p ys, xs = [.ref p] ∧ (SqL K H p ys ∨ SqT K H p ys) ∧ Q (.int ys.length) H) gLen := by
  intro B H xs ds Qw Q sub hr g p
  match ds, hr, g with
  | [.tup ds], hr, g =>
    obtain ⟨x, rfl, h⟩ := rd1 hr
    cases h with
    | tup a b => exact ⟨_, _, rfl, .inr a.sq, by rw [b.length]; exact p.int g⟩
  | [.fl ds], hr, g =>
    obtain ⟨x, rfl, h⟩ := rd1 hr
    cases h with
    | fl a b => exact ⟨_, _, rfl, .inl (.inl (.inr ⟨_, a⟩)), by rw [b.length]; exact p.int g⟩
  | [.tpx ds], hr, g =>
    obtain ⟨x, rfl, h⟩ := rd1 hr
    cases h with
    | tpx a _ b => exact ⟨_, _, rfl, .inr (.inl (.inr ⟨_, a⟩)), by rw [b.length]; exact p.int g⟩
  | [.ml ds], hr, g =>
    obtain ⟨x, rfl, h⟩ := rd1 hr
    cases h with
    | ml a b => exact ⟨_, _, rfl, .inl (.inl (.inl (sub _ _ a))), by rw [b.length]; exact p.int g⟩
  | [.kl ds], hr, g =>
    obtain ⟨x, rfl, h⟩ := rd1 hr
    cases h with
    | kl a b => exact ⟨_, _, rfl, .inl a.sq, by rw [b.length]; exact p.int g⟩
  | [.lst ds], hr, g =>
    obtain ⟨x, rfl, a, xs, rfl, h1, h2⟩ := rd1 hr
    exact ⟨_, _, rfl, .inl h1, by rw [h2.length]; exact p.int g⟩
theorem cs_max : CallS K (fun xs H Q => ∃ i j, xs = [.int i, .int j] ∧ Q (.int (if j > i then j else i)) H) gMax := by
  intro B H xs ds Qw Q sub hr g p
  match ds, hr, g with
  | [.int i, .int j], hr, g =>
    obtain ⟨x, y, rfl, h, h'⟩ := rd2 hr
    cases h; cases h'
    exact ⟨_, _, rfl, p.int g⟩
theorem cs_tuple : CallS K (fun xs H Q => ∃ p ys, xs = [.ref p] ∧ ((SqL K H p ys ∧ ∀ l, H l = none → Q (.ref l) (upd H l (.tup ys))) ∨ (SqT K H p ys ∧ Q (.ref p) H))) gTuple := by
  intro B H xs ds Qw Q sub hr g p
  match ds, hr, g with
  | [.tup ds], hr, g =>
    obtain ⟨x, rfl, h⟩ := rd1 hr
    cases h with
    | tup a b => exact ⟨_, _, rfl, .inr ⟨a.sq, p.old (.tup a b) g⟩⟩
  | [.tpx ds], hr, g =>
    obtain ⟨x, rfl, h⟩ := rd1 hr
    cases h with
    | tpx a c b => exact ⟨_, _, rfl, .inr ⟨.inl (.inr ⟨_, a⟩), p.old (.tpx a c b) g⟩⟩
  | [.lst ds], hr, g =>
    obtain ⟨x, rfl, a, xs, rfl, h1, h2⟩ := rd1 hr
    exact ⟨_, _, rfl, .inl ⟨h1, p.tup h2 g⟩⟩
theorem cs_list : CallS K (fun xs H Q => ∃ p ys, xs = [.ref p] ∧ (SqL K H p ys ∨ SqT K H p ys) ∧ ∀ l, H l = none → Q (.ref l) (upd H l (.lst ys))) gList := by
  intro B H xs ds Qw Q sub hr g p
  match ds, hr, g with
  | [.tup ds], hr, g =>
    obtain ⟨x, rfl, h⟩ := rd1 hr
    cases h with
    | tup a b => exact ⟨_, _, rfl, .inr a.sq, p.lst b g⟩
  | [.fl ds], hr, g =>
    obtain ⟨x, rfl, h⟩ := rd1 hr
    cases h with
    | fl a b => exact ⟨_, _, rfl, .inl (.inl (.inr ⟨_, a⟩)), p.lst b g⟩
  | [.lst ds], hr, g =>
    obtain ⟨x, rfl, a, xs, rfl, h1, h2⟩ := rd1 hr
    exact ⟨_, _, rfl, .inl h1, p.lst h2 g⟩
theorem cs_any : CallS K (rAny K) gAny := by
  intro B H xs ds Qw Q sub hr g p
  match ds, hr, g with
  | [.lst ds], hr, g =>
    obtain ⟨x, rfl, a, xs, rfl, h1, h2⟩ := rd1 hr
    obtain ⟨bs, e, g⟩ := withOp_some g
    have ev := bls_vs h2 e
    subst ev
    exact ⟨a, bs, rfl, h1, p.bl g⟩
theorem cs_all : CallS K (rAll K) gAll := by
  intro B H xs ds Qw Q sub hr g p
  match ds, hr, g with
  | [.lst ds], hr, g =>
    obtain ⟨x, rfl, a, xs, rfl, h1, h2⟩ := rd1 hr
    obtain ⟨bs, e, g⟩ := withOp_some g
    have ev := bls_vs h2 e
    subst ev
    exact ⟨a, bs, rfl, h1, p.bl g⟩
end

/-! ### methods of one's own list -/
def mAppend : GM
  | ds, [d], Q => ds.length < sizeLine ∧ Q .non (ds ++ [d])
  | _, _, _ => False
def mPop : GM
  | ds, [], Q => withOp ds[ds.length - 1]? fun d => Q d ds.dropLast
  | _, _, _ => False
def mPopAt : GM
  | ds, [.int i], Q => (-(2 ^ 63) ≤ i ∧ i < 2 ^ 63) ∧ withOp (seqIndex? i ds.length) fun k => withOp ds[k]? fun d => Q d (ds.eraseIdx k)
  | _, _, _ => False
def mReverse : GM
  | ds, [], Q => Q .non ds.reverse
  | _, _, _ => False
def mClear : GM
  | ds, [], Q => Q .non []
  | _, _, _ => False
section
variable {K : PySem.W.Frag}
theorem ms_append : MtS K rAppend mAppend := by
  intro B H p vs xs ds args Qw Q hp ia ix m q
  match args, ix, m with
  | [d], .cons h .nil, m => exact ⟨p, vs, _, rfl, rfl, hp, by rw [ia.length]; exact m.1, q _ _ _ _ (ia.append (.cons h .nil)) .non m.2⟩
theorem ms_pop : MtS K rPop mPop := by
  intro B H p vs xs ds args Qw Q hp ia ix m q
  match args, ix, m with
  | [], .nil, m =>
    obtain ⟨d, e, m⟩ := withOp_some m
    obtain ⟨v, h1, h2⟩ := ia.get e
    exact ⟨p, vs, v, rfl, rfl, hp, by rw [ia.length]; exact h1, q _ _ _ _ ia.dropLast h2 m⟩
theorem ms_popAt : MtS K rPopAt mPopAt := by
  intro B H p vs xs ds args Qw Q hp ia ix m q
  match args, ix, m with
  | [.int i], .cons (.int _) .nil, m =>
    obtain ⟨⟨b1, b2⟩, m⟩ := m
    obtain ⟨k, e, m⟩ := withOp_some m
    obtain ⟨d, e2, m⟩ := withOp_some m
    obtain ⟨v, h1, h2⟩ := ia.get e2
    exact ⟨p, vs, i, k, v, rfl, rfl, hp, b1, b2, by rw [ia.length]; exact e, h1, q _ _ _ _ (ia.eraseIdx k) h2 m⟩
theorem ms_clear : MtS K rClear mClear := by
  intro B H p vs xs ds args Qw Q hp ia ix m q
  match args, ix, m with
  | [], .nil, m => exact ⟨p, vs, rfl, rfl, hp, q _ _ _ _ .nil .non m⟩
end
section
variable {X : Cx} {W : WX} {e : Expr} {es : List Expr} {wr : AW} {name : Str} {apos cpos pos : Pos} {id : String} {r : V → List V → Hp → VK → Prop} {m : GM}
theorem de_mt (i : Nat) {x : Str} (slot : Slot "list" name id) (hty : typeOf (.builtin id) = pure (.type "method_descriptor")) (hm : MtR X id r) (ms : MtS X.K r m) (ha : DA X W (e :: es) wr)
    (hN : X.N[i]? = some x := by rfl) (hv : Vis X.env.scope x := by first | exact Or.inl rfl | exact Or.inr (Or.inl rfl) | exact Or.inr (Or.inr rfl)) (hd : (x == ("__debug__" : Str)) = false := by decide)
    (hcd : (x == ("__classdict__" : Str)) = false := by decide)
    (hbase : attributeBase (.Name x pos) name X.env (eval (.Name x pos) X.env) = eval (.Name x pos) X.env := by rfl)
    (hfew : ((backTo cpos (starEach (e :: es) X.env)).all (fun x => !x.1) && (backToKw cpos (keywordEach [] X.env)).all (fun x => x.1.isSome)
      && decide ((e :: es).length + ([] : List Keyword).length + (if ([] : List Keyword).isEmpty then 0 else 1) < 30)) = true := by rfl)
    (hline : (apos.endLine == cpos.line) = true := by rfl) (hs : starEach (e :: es) X.env = (false, eval e X.env) :: starEach es X.env := by rfl) (hplain : (backTo cpos (starEach es X.env)).any (·.1) = false := by rfl) :
    DE X W (.Call (.Attribute (.Name x pos) name apos) (e :: es) [] cpos) (wMt m i wr) := by
  obtain ⟨t, p, s⟩ := ha.ok
  exact ⟨_, pe_bm PySem.F.plainAttrs_list slot hty hm (pe_var hN hv hd hcd) p hbase hfew hline hs hplain, sim_mt ms i s⟩
theorem de_mt0 (i : Nat) {x : Str} (slot : Slot "list" name id) (hty : typeOf (.builtin id) = pure (.type "method_descriptor")) (hm : MtR X id r) (ms : MtS X.K r m)
    (hN : X.N[i]? = some x := by rfl) (hv : Vis X.env.scope x := by first | exact Or.inl rfl | exact Or.inr (Or.inl rfl) | exact Or.inr (Or.inr rfl)) (hd : (x == ("__debug__" : Str)) = false := by decide)
    (hcd : (x == ("__classdict__" : Str)) = false := by decide)
    (hbase : attributeBase (.Name x pos) name X.env (eval (.Name x pos) X.env) = eval (.Name x pos) X.env := by rfl) (hline : (apos.endLine == cpos.line) = true := by rfl) :
    DE X W (.Call (.Attribute (.Name x pos) name apos) [] [] cpos) (wMt0 m i) :=
  ⟨_, pe_bm0 PySem.F.plainAttrs_list slot hty hm (pe_var hN hv hd hcd) hbase hline, sim_mt0 ms i⟩
end
end DL

set_option Elab.async false
set_option linter.all false
set_option maxRecDepth 100000
set_option maxHeartbeats 4000000
/-! DLi: sources of loops; more statements. -/
namespace DL
open PySem L2

/-! ### a list or a tuple -/
def iSeq (K : PySem.W.Frag) (tl : TE) : TI := fun σ H R => tl σ H fun x H1 => ∃ a xs, x = .ref a ∧ ((SqL K H1 a xs ∧ R (Itl K a) H1) ∨ (SqT K H1 a xs ∧ R (Itt K a) H1))
section
variable {X : Cx} {tg : Expr}
theorem pi_seq {l : Expr} {tl : TE} (hl : PE X l tl) : PI X tg l (iSeq X.K tl) := by
  refine ⟨fun pins s σ H R I h => ?_⟩
  refine thn (hl.run pins s σ H _ I h) fun v s1 ⟨x, H1, I1, r1, q1⟩ => ?_
  obtain ⟨a, xs, e, q⟩ := q1
  subst e
  cases r1
  have fin : ∀ b, b ∈ [s1.heap.objs.size] → FpOk X pins H1 b := fun b hb => by
    have e : b = s1.heap.objs.size := by simpa using hb
    subst e
    exact I1.fpOk (Nat.le_refl _) (I1.hok.fresh (Nat.le_refl _))
  rcases q with ⟨hq, q⟩ | ⟨hq, q⟩
  · obtain ⟨its, rv, p, hz⟩ := I1.list hq
    refine wpAny_pyIter_list p.isList ?_
    exact ⟨s1.heap.objs.size, [s1.heap.objs.size], _, _, H1, rfl, I1.kept (t' := s1.toks) fun b o e => Heap.get?_push_of_some _ e, turn_list a _, ⟨_, Heap.get?_push_size _ rfl, rfl, rfl⟩, fin, q⟩
  · obtain ⟨its, rv, p, hz⟩ := I1.tuple hq
    refine wpAny_pyIter_tuple (show s1.heap.IsTuple a its.toArray from p) ?_
    exact ⟨s1.heap.objs.size, [s1.heap.objs.size], _, _, H1, rfl, I1.kept (t' := s1.toks) fun b o e => Heap.get?_push_of_some _ e, turn_tuple a _, ⟨_, Heap.get?_push_size _ rfl, rfl, rfl⟩, fin, q⟩
end
def wSrc (we : EW) : IW := fun ρ Q X => we ρ (fun r ρ1 => match r with
  | .dat (.tup ds) => Q ds ρ1
  | .dat (.lst ds) => Q ds ρ1
  | .dat (.fl ds) => Q ds ρ1
  | .dat (.tpx ds) => Q ds ρ1
  | .dat (.ml ds) => Q ds ρ1
  | .dat (.kl ds) => Q ds ρ1
  | .own ds => Q ds ρ1
  | _ => False) X
section
variable {K : PySem.W.Frag} {W : WX}
theorem wk_fl {a : Addr} {o : Obj} {xs : List V} {ds : List D} {B0 H0 : Hp} (h : H0 a = some (.frz o (.lst xs))) (ia : IpAll K B0 H0 xs ds) : Wk K (Itl K a) ds (okS B0 H0) where
  go := fun k B H ⟨bb, tu, sub⟩ hk => by
    have hk' : k < xs.length := by rw [ia.length]; exact hk
    exact ⟨xs, xs[k], .inl (.inr ⟨o, tu _ _ h rfl⟩), List.getElem?_eq_getElem hk'⟩
  yld := fun k B H x H' ⟨bb, tu, sub⟩ hy hk => by
    obtain ⟨rfl, f⟩ := hy
    have hx := f xs (.inl (.inr ⟨o, tu _ _ h rfl⟩))
    obtain ⟨d, e, i⟩ := ia.getV hx
    exact ⟨d, e, Same.refl _, i.mono bb tu⟩
  stop := fun k B H ⟨bb, tu, sub⟩ hk => ⟨xs, .inl (.inr ⟨o, tu _ _ h rfl⟩), by rw [ia.length]; exact hk⟩
theorem LstK.mono {a : Addr} {xs : List V} {H H' : Hp} (e : Tups H H') (h : LstK K H a xs) : LstK K H' a xs := h.imp (fun ⟨o, h⟩ => ⟨o, e _ _ h rfl⟩) id
theorem wk_kl {a : Addr} {xs : List V} {ds : List D} {B0 H0 : Hp} (h : LstK K H0 a xs) (ia : IpAll K B0 H0 xs ds) : Wk K (Itl K a) ds (okS B0 H0) where
  go := fun k B H ⟨bb, tu, sub⟩ hk => by
    have hk' : k < xs.length := by rw [ia.length]; exact hk
    exact ⟨xs, xs[k], (h.mono tu).sq, List.getElem?_eq_getElem hk'⟩
  yld := fun k B H x H' ⟨bb, tu, sub⟩ hy hk => by
    obtain ⟨rfl, f⟩ := hy
    have hx := f xs (h.mono tu).sq
    obtain ⟨d, e, i⟩ := ia.getV hx
    exact ⟨d, e, Same.refl _, i.mono bb tu⟩
  stop := fun k B H ⟨bb, tu, sub⟩ hk => ⟨xs, (h.mono tu).sq, by rw [ia.length]; exact hk⟩
theorem wk_list {a : Addr} {xs : List V} {ds : List D} {B0 H0 : Hp} (h : SqL K B0 a xs) (ia : IpAll K B0 H0 xs ds) : Wk K (Itl K a) ds (okS B0 H0) where
  go := fun k B H ⟨bb, tu, sub⟩ hk => by
    have hk' : k < xs.length := by rw [ia.length]; exact hk
    exact ⟨xs, xs[k], sub.seq (bb.seq h), List.getElem?_eq_getElem hk'⟩
  yld := fun k B H x H' ⟨bb, tu, sub⟩ hy hk => by
    obtain ⟨rfl, f⟩ := hy
    have hx := f xs (sub.seq (bb.seq h))
    obtain ⟨d, e, i⟩ := ia.getV hx
    exact ⟨d, e, Same.refl _, i.mono bb tu⟩
  stop := fun k B H ⟨bb, tu, sub⟩ hk => ⟨xs, sub.seq (bb.seq h), by rw [ia.length]; exact hk⟩
theorem wk_tup {a : Addr} {xs : List V} {ds : List D} {B0 H0 : Hp} (h : SqT K H0 a xs) (ia : IpAll K B0 H0 xs ds) : Wk K (Itt K a) ds (okS B0 H0) where
  go := fun k B H ⟨bb, tu, sub⟩ hk => by
    have hk' : k < xs.length := by rw [ia.length]; exact hk
    exact ⟨xs, xs[k], tu.sq h, List.getElem?_eq_getElem hk'⟩
  yld := fun k B H x H' ⟨bb, tu, sub⟩ hy hk => by
    obtain ⟨rfl, f⟩ := hy
    have hx := f xs (tu.sq h)
    obtain ⟨d, e, i⟩ := ia.getV hx
    exact ⟨d, e, Same.refl _, i.mono bb tu⟩
  stop := fun k B H ⟨bb, tu, sub⟩ hk => ⟨xs, tu.sq h, by rw [ia.length]; exact hk⟩
theorem sim_src {te : TE} {we : EW} (he : SimE K W te we) : SimI K W (iSeq K te) (wSrc we) := by
  intro B σ ρ H Qw Xw R s h hx q
  refine he B σ ρ H _ Xw _ s h hx fun v r B1 ρ1 H1 s1 t1 rv1 q1 => ?_
  cases r with
  | dat d =>
    cases d with
    | tup ds =>
      cases rv1 with
      | tup hh ia => exact ⟨_, _, rfl, .inr ⟨hh.sq, q _ ds B1 ρ1 H1 s1 t1 (wk_tup hh.sq ia) q1⟩⟩
    | fl ds =>
      cases rv1 with
      | fl hh ia => exact ⟨_, _, rfl, .inl ⟨.inl (.inr ⟨_, hh⟩), q _ ds B1 ρ1 H1 s1 t1 (wk_fl hh ia) q1⟩⟩
    | tpx ds =>
      cases rv1 with
      | tpx hh _ ia => exact ⟨_, _, rfl, .inr ⟨.inl (.inr ⟨_, hh⟩), q _ ds B1 ρ1 H1 s1 t1 (wk_tup (.inl (.inr ⟨_, hh⟩)) ia) q1⟩⟩
    | lst ds =>
      cases rv1 with
      | lst hh ia => exact ⟨_, _, rfl, .inl ⟨s1.sub.seq hh, q _ ds B1 ρ1 H1 s1 t1 (wk_list hh ia) q1⟩⟩
    | ml ds =>
      cases rv1 with
      | ml hh ia => exact ⟨_, _, rfl, .inl ⟨.inl (.inl (s1.sub _ _ hh)), q _ ds B1 ρ1 H1 s1 t1 (wk_list (.inl (.inl hh)) ia) q1⟩⟩
    | kl ds =>
      cases rv1 with
      | kl hh ia => exact ⟨_, _, rfl, .inl ⟨hh.sq, q _ ds B1 ρ1 H1 s1 t1 (wk_kl hh ia) q1⟩⟩
    | _ => exact q1.elim
  | own ds =>
    have rva : RvAll K B1 σ ρ1 H1 H [v] [.own ds] := .cons (H1 := H1) rv1 (fun b hb => t1.free s1 hb) (fun p dl e1 e2 => by
      cases e1
      obtain ⟨p', vs', e, _, _, hp, _⟩ := rv1
      rw [e2] at e; cases e
      rw [hp]; simp) .nil
    obtain ⟨B2, s2, bb, bn, ia⟩ := rva.freeze s1 (ds := [.lst ds]) rfl
    have t2 : Tr σ B ρ H B2 ρ1 H1 := ⟨t1.ext, t1.bex.trans bb, fun b hb => (bn b hb).elim (fun z => t1.bnew b z) .inr, t1.shp, t1.shi⟩
    cases ia with
    | cons i0 _ =>
      cases i0 with
      | lst hh il => exact ⟨_, _, rfl, .inl ⟨s2.sub.seq hh, q _ ds B2 ρ1 H1 s2 t2 (wk_list hh il) q1⟩⟩
  | inn ds => exact q1.elim
  | bor i => exact q1.elim
  | dic kvs => exact q1.elim
end
/-! ### range -/
def rgD (lo : Int) (n : Nat) : List D := (List.range n).map fun i => .int (lo + (i : Nat))
def wRg1 (we : EW) : IW := fun ρ Q X => we ρ (fun r ρ1 => match r with
  | .dat (.int j) => (-(2 ^ 62) ≤ j ∧ j < 2 ^ 62) ∧ Q (rgD 0 j.toNat) ρ1
  | _ => False) X
def wRg2 (wa wb : EW) : IW := fun ρ Q X => wa ρ (fun r ρ1 => wb ρ1 (fun r' ρ2 => match r, r' with
  | .dat (.int i), .dat (.int j) => ((-(2 ^ 62) ≤ i ∧ i < 2 ^ 62) ∧ -(2 ^ 62) ≤ j ∧ j < 2 ^ 62) ∧ Q (rgD i (j - i).toNat) ρ2
  | _, _ => False) X) X
section
variable {K : PySem.W.Frag} {W : WX}
theorem rgD_len (lo : Int) (n : Nat) : (rgD lo n).length = n := by unfold rgD; simp
theorem rgD_get {lo : Int} {n k : Nat} (h : k < n) : (rgD lo n)[k]? = some (.int (lo + (k : Nat))) := by
  unfold rgD
  rw [List.getElem?_map, List.getElem?_range h]; rfl
theorem wk_rg (lo : Int) (n : Nat) (ok : Hp → Hp → Prop) : Wk K (Itr lo n) (rgD lo n) ok where
  go := fun k B H _ hk => by rw [rgD_len] at hk; exact hk
  yld := fun k B H x H' _ hy hk => by
    obtain ⟨rfl, rfl⟩ := hy
    rw [rgD_len] at hk
    exact ⟨_, rgD_get hk, Same.refl _, .int _⟩
  stop := fun k B H _ hk => by rw [rgD_len] at hk; exact hk
end
section
variable {X : Cx} {W : WX} {tg a b e : Expr} {wa wb we : EW} {pos p : Pos}
theorem di_seq (he : DE X W e we) : DI X W tg e (wSrc we) := by
  obtain ⟨t, p, s⟩ := he.ok
  exact ⟨_, pi_seq p, sim_src s⟩
theorem di_range1 (hg : Gl X "range") (hm : X.mg "range" = none) (ha : DE X W a wa) (hs : starEach [a] X.env = [(false, eval a X.env)] := by rfl) : DI X W tg (.Call (.Name "range" p) [a] [] pos) (wRg1 wa) := by
  obtain ⟨t, pa, sa⟩ := ha.ok
  refine ⟨_, pi_range1 hg hm (pa_cons pa pa_nil hs) hs, fun B σ ρ H Qw Xw R s h hx q => ?_⟩
  refine sa B σ ρ H _ Xw _ s h hx fun v r B1 ρ1 H1 s1 t1 rv1 q1 => ?_
  cases r with
  | dat d =>
    cases d with
    | int j =>
      cases rv1
      exact ⟨j, rfl, q1.1.1, q1.1.2, q _ _ B1 ρ1 H1 s1 t1 (wk_rg 0 _ _) q1.2⟩
    | _ => exact q1.elim
  | _ => exact q1.elim
end

/-! ### list(range(..)), tuple(range(..)) -/
def wTupRg (we : IW) : EW := fun ρ Q X => we ρ (fun ds ρ1 => ds.length ≤ 16777216 ∧ Q (.dat (.tup ds)) ρ1) X
def wLstRg (we : IW) : EW := fun ρ Q X => we ρ (fun ds ρ1 => ds.length ≤ 16777216 ∧ Q (.own ds) ρ1) X
section
variable {X : Cx} {W : WX} {tg a b e : Expr} {wa wb we : EW} {pos p pos2 p2 : Pos}
theorem rgV_ip {K : PySem.W.Frag} {B H : Hp} (lo hi : Int) : IpAll K B H (rgV lo hi) (rgD lo (hi - lo).toNat) := by
  unfold rgV rgD
  generalize List.range (hi - lo).toNat = l
  induction l with
  | nil => exact .nil
  | cons x l ih => exact .cons (.int _) ih
theorem rg_post {K : PySem.W.Frag} {B B1 H H1 : Hp} {σ : St} {ρ ρ1 : En} {j : Int} {Qw : Sl → En → Prop} {Q : VK} (s1 : SR K B1 σ ρ1 H1) (t1 : Tr σ B ρ H B1 ρ1 H1) (q : ∀ v r B' ρ' H', SR K B' σ ρ' H' → Tr σ B ρ H B' ρ' H' → RvR K B' σ ρ' H H' v r → Qw r ρ' → Q v H') {v : V} {r : Sl} {H' : Hp} (sm : Same H1 H') (rv : RvV K B1 H1 H' v r) (qq : Qw r ρ1) : Q v H' :=
  q v r B1 ρ1 H' (s1.same sm) (t1.trans s1 (Tr.same sm)) ((rv.rv s1 sm).early s1 t1) qq
theorem de_lstRg1 (hc : X.calm = true) (hg0 : Gl X "list") (hm0 : X.mg "list" = none) (hg : Gl X "range") (hm : X.mg "range" = none) (ha : DE X W a wa) (na : starEach [a] X.env = (false, eval a X.env) :: starEach [] X.env := by rfl)
    (nb : starEach [Expr.Call (.Name "range" p) [a] [] pos] X.env = (false, eval (Expr.Call (.Name "range" p) [a] [] pos) X.env) :: starEach [] X.env := by rfl) : DE X W (.Call (.Name "list" p2) [.Call (.Name "range" p) [a] [] pos] [] pos2) (wLstRg (wRg1 wa)) := by
  obtain ⟨t, pa, sa⟩ := ha.ok
  refine ⟨_, pe_listRg hc hg0 hm0 (prg_1 hg hm pa na) nb, fun B σ ρ H Qw Xw Q s h hx q => ?_⟩
  refine sa B σ ρ H _ Xw _ s h hx fun v r B1 ρ1 H1 s1 t1 rv1 q1 => ?_
  cases r with
  | dat d =>
    cases d with
    | int j =>
      cases rv1
      obtain ⟨⟨b1, b2⟩, hl, q1⟩ := q1
      rw [rgD_len] at hl
      have e : ((j : Int) - 0).toNat = j.toNat := by rw [Int.sub_zero]
      refine ⟨j, rfl, ⟨by omega, by omega, b1, b2, by omega⟩, fun p hp => ?_⟩
      have p0 : PP X.K B1 H1 (fun r => Qw r ρ1) Q := fun v sl H' sm rv qq => rg_post (j := j) s1 t1 q sm rv qq
      exact p0.lst (rgV_ip 0 j) (by rw [e]; exact q1) p hp
    | _ => exact q1.elim
  | _ => exact q1.elim
end

/-! ### reversed -/
def wRev (we : EW) : IW := fun ρ Q X => we ρ (fun r ρ1 => match r with
  | .dat (.tup ds) => Q ds.reverse ρ1
  | .dat (.lst ds) => Q ds.reverse ρ1
  | .dat (.fl ds) => Q ds.reverse ρ1
  | .own ds => Q ds.reverse ρ1
  | _ => False) X
section
variable {K : PySem.W.Frag} {W : WX}
end
section
variable {X : Cx} {W : WX} {tg e : Expr} {we : EW} {pos p : Pos}
end

/-! ### a slot's list is given away (no step of the machine) -/
def frz (ρ : En) (i : Nat) : En := match ρ[i]? with
  | some (some (.own ds)) => ρ.set i (some (.dat (.lst ds)))
  | _ => ρ
def wFrz (i : Nat) (w : SW) : SW := fun E ρ => w E (frz ρ i)
section
variable {K : PySem.W.Frag} {W : WX}
theorem FR.frz {H0 B0 B H : Hp} {L : Nat → Addr → Prop} {σ : St} {ρ : En} (f : FR K H0 B0 L B σ ρ H) (i : Nat) : ∃ B', FR K H0 B0 L B' σ (frz ρ i) H ∧ Gr B H B' H := by
  unfold DL.frz
  split
  · rename_i ds e
    obtain ⟨v, hv, p, vs, ev, nb, hp, ia⟩ := f.slot i _ e
    subst ev
    have hi : i < ρ.length := (List.getElem?_eq_some_iff.mp e).1
    have hs : i < σ.length := by rw [f.len]; exact hi
    have own : OwnAt σ ρ p := ⟨i, by rw [e]; rfl, hv⟩
    have bb : Same B (upd B p (.lst vs)) := upd_same_sub nb
    have shp : ∀ j, isOwn (ρ.set i (some (.dat (.lst ds))))[j]? = true → j ≠ i ∧ isOwn ρ[j]? = true := fun j h => by
      by_cases hj : j = i
      · subst hj; rw [List.getElem?_set_self hi] at h; cases h
      · rw [List.getElem?_set_ne (Ne.symm hj)] at h; exact ⟨hj, h⟩
    have ownp : ∀ b, OwnAt σ (ρ.set i (some (.dat (.lst ds)))) b → OwnAt σ ρ b ∧ b ≠ p := fun b ⟨j, h1, h2⟩ => by
      obtain ⟨hj, h1⟩ := shp j h1
      exact ⟨⟨j, h1, h2⟩, fun z => hj (f.inj j i p h1 (by rw [e]; rfl) (z ▸ h2) hv)⟩
    refine ⟨upd B p (.lst vs), ⟨⟨by simp [f.len], ?_, ?_, ?_⟩, f.ext0, fun b z => f.fresh b (ownp b z).1, fun j b h => ?_, fun b hb => ?_⟩, ⟨bb, Tups.of (Same.refl _)⟩⟩
    · intro b o q
      by_cases hb : b = p
      · subst hb; rw [upd_same] at q; cases q; exact hp
      · rw [upd_ne hb] at q; exact f.sub b o q
    · intro j sl h
      by_cases hj : j = i
      · subst hj
        rw [List.getElem?_set_self hi] at h; cases h
        exact ⟨.ref p, hv, .lst (.inl (.inl upd_same)) (ia.mono bb (Tups.of (Same.refl _)))⟩
      · rw [List.getElem?_set_ne (Ne.symm hj)] at h
        obtain ⟨u, hu, r⟩ := f.slot j sl h
        refine ⟨u, hu, ?_⟩
        have oth : ∀ dl, OwnL K B H u dl → isOwn ρ[j]? = true → OwnL K (upd B p (.lst vs)) H u dl := fun dl ⟨p', us, a, b, c, d⟩ hoj => by
          subst a
          have hne : p' ≠ p := fun z => hj (f.inj j i p hoj (by rw [e]; rfl) (z ▸ hu) hv)
          exact ⟨p', us, rfl, by rw [upd_ne hne]; exact b, c, d.mono bb (Tups.of (Same.refl _))⟩
        cases sl with
        | dat d => exact Ip.mono bb (Tups.of (Same.refl _)) r
        | own dl => exact oth dl r (by rw [h]; rfl)
        | inn dl => exact oth dl r (by rw [h]; rfl)
        | bor k => exact r.elim
        | dic kvs =>
          obtain ⟨p', us, a, b, c, d⟩ := r
          subst a
          have hne : p' ≠ p := fun z => hj (f.inj j i p (by rw [h]; rfl) (by rw [e]; rfl) (z ▸ hu) hv)
          exact ⟨p', us, rfl, by rw [upd_ne hne]; exact b, c, d.mono bb (Tups.of (Same.refl _))⟩
    · intro a b q h1 h2 h3 h4
      exact f.inj a b q (shp a h1).2 (shp b h2).2 h3 h4
    · obtain ⟨h1, dl, h2⟩ := f.keep j b h
      have hj : j ≠ i := fun z => by subst z; rw [e] at h2; cases h2
      rw [List.getElem?_set_ne (Ne.symm hj)]
      exact ⟨h1, dl, h2⟩
    · by_cases hbp : b = p
      · subst hbp
        rcases f.fresh b own with z | ⟨j, z⟩
        · exact .inr z
        · exfalso
          obtain ⟨h1, dl, h2⟩ := f.keep j b z
          have := f.inj j i b (by rw [h2]; rfl) (by rw [e]; rfl) h1 hv
          subst this
          rw [e] at h2; cases h2
      · rw [upd_ne hbp] at hb
        exact f.bnew b hb
  · exact ⟨B, f, Gr.refl ..⟩
theorem sim_frz (i : Nat) {t : TS} {w : SW} (h : SimS K W t w) : SimS K W t (wFrz i w) := by
  intro H0 B0 L B σ ρ H E Ew f hw n r b c x
  obtain ⟨B1, f1, g1⟩ := f.frz i
  exact h H0 B0 L B1 σ _ H E Ew f1 hw (fun B2 σ2 ρ2 H2 f2 g2 => n B2 σ2 ρ2 H2 f2 (g1.trans g2)) r (fun B2 σ2 ρ2 H2 f2 g2 => b B2 σ2 ρ2 H2 f2 (g1.trans g2)) (fun B2 σ2 ρ2 H2 f2 g2 => c B2 σ2 ρ2 H2 f2 (g1.trans g2)) (fun c B9 σ9 ρ9 H9 f9 g9 => x c B9 σ9 ρ9 H9 f9 (g1.trans g9))
end
/-- a, b = e -/
def wSetT (is : List Nat) (we : EW) : SW := fun E ρ => we ρ (fun r ρ1 => match r with
  | .dat (.tup ds) => (ds.length = is.length ∧ notInns ρ1 is) ∧ E.nx (setsE ρ1 is ds)
  | _ => False) E.ex
/-- a, b = e1, e2 -/
def wPar (i j : Nat) (wa wb : EW) : SW := fun E ρ => wa ρ (fun r ρ1 => wb ρ1 (fun r' ρ2 => match r, r' with
  | .dat d, .dat d' => (notInn ρ2 i ∧ notInn ρ2 j) ∧ E.nx ((ρ2.set i (some (.dat d))).set j (some (.dat d')))
  | _, _ => False) E.ex) E.ex
section
variable {X : Cx} {W : WX} {st : Stmt} {w : SW} {we wa wb wj : EW} {e a b o : Expr} {es : List Expr} {is : List Nat} {pos : Pos}
theorem ds_frz (i : Nat) (h : DS X W st w) : DS X W st (wFrz i w) := by
  obtain ⟨t, p, s⟩ := h.ok
  exact ⟨t, p, sim_frz i s⟩
theorem ds_setT {k : Nat} {tpos : Pos} (hc : X.calm = true) (he : DE X W e we) (hg : DGs X es is) (hn : (assignEach es X.env).length = is.length := by rfl) (hst : (assignEach es X.env).findIdx? (·.1) = none := by rfl)
    (hs : swapsWithSole [.Tuple es k tpos] e pos.line X.env = pure false := by rfl) (hw : swappedStores [.Tuple es k tpos] e X.env = pure none := by rfl)
    (h1 : (assignEach [.Tuple es k tpos] X.env).map (·.2) = [assign (.Tuple es k tpos) X.env] := by rfl) : DS X W (.Assign [.Tuple es k tpos] e pos) (wSetT is we) := by
  obtain ⟨t, p, s⟩ := he.ok
  refine ⟨_, ps_asg p (pg_tup hc hg.ok hn hst) hs hw h1, ?_⟩
  intro H0 B0 L B σ ρ H E Ew f h n r b c x
  refine s B σ ρ H _ _ _ f.toSR h (xw f x) fun v rr B1 ρ1 H1 s1 t1 rv q => ?_
  cases rr with
  | dat d =>
    cases d with
    | tup ds =>
      have hl : (if ds.length = is.length then some ds else none) = some ds := if_pos q.1.1
      exact simg_tup is B1 H1 σ v (.tup ds) ds _ rv hl fun vs hv ia => n B1 _ _ H1 ((f.step s1 t1).sets q.1.2 ia) (t1.gr f.toSR) q.2
    | _ => exact q.elim
  | _ => exact q.elim
theorem ds_setIt (i : Nat) {x : Str} {xp tpos : Pos} (he : DE X W e we) (hj : DE X W o wj) (hN : X.N[i]? = some x := by rfl) (hv : Vis X.env.scope x := by first | exact Or.inl rfl | exact Or.inr (Or.inl rfl) | exact Or.inr (Or.inr rfl))
    (hp : ∀ {te tj : TE}, PE X e te → PE X o tj → PS X (.Assign [.Subscript (.Name x xp) o tpos] e pos) (tAsg te (gSub (tVar i) tj rSetL))) : DS X W (.Assign [.Subscript (.Name x xp) o tpos] e pos) (wSetIt i we wj) := by
  obtain ⟨t1, p1, s1⟩ := he.ok
  obtain ⟨t2, p2, s2⟩ := hj.ok
  exact ⟨_, hp p1 p2, sim_setIt i s1 s2⟩
end
end DL

set_option Elab.async false
set_option linter.all false
set_option maxRecDepth 100000
set_option maxHeartbeats 4000000
/-! DLj: enumerate of a tuple or a list. -/
namespace PySem
open Sem (wp)
open AutoSeq1 (wpAny_loadPart')
section
variable {prog : Program} {w : World} {A : Around} {E : Value → Shared → Prop} {s : Shared}
end
end PySem

namespace DL
open PySem L2
/-- the tuple at a, each item in a new pair -/
def IteT (K : PySem.W.Frag) (a : Addr) : It :=
  ⟨fun i H => ∃ (xs : List V) (x : V), SqT K H a xs ∧ xs[i]? = some x, fun i H v H' => ∃ T x, v = .ref T ∧ H T = none ∧ H' = upd H T (.tup [.int (i : Nat), x]) ∧ ∀ xs, SqT K H a xs → xs[i]? = some x, fun i H => ∃ xs : List V, SqT K H a xs ∧ xs.length ≤ i⟩
open PySem.Spec PyProof.Rows in
def iEnumA (K : PySem.W.Frag) (te : TE) : TI := fun σ H R => te σ H fun v H1 => ∃ (a : Addr) (xs : List V), v = .ref a ∧ ((SqL K H1 a xs ∧ R (Ite K a) H1) ∨ (SqT K H1 a xs ∧ R (IteT K a) H1))
open PySem.Spec PyProof.Rows in
/-- (0, x), (1, y) .. -/
def enumD (ds : List D) : List D := (List.range ds.length).map fun i => .tup [.int (i : Nat), ds.getD i .non]
def wEnum (we : EW) : IW := fun ρ Q X => we ρ (fun r ρ1 => match r with
  | .dat (.tup ds) => Q (enumD ds) ρ1
  | .dat (.tpx ds) => Q (enumD ds) ρ1
  | .dat (.lst ds) => Q (enumD ds) ρ1
  | .dat (.fl ds) => Q (enumD ds) ρ1
  | .own ds => Q (enumD ds) ρ1
  | _ => False) X
section
variable {K : PySem.W.Frag} {W : WX}
end
section
variable {X : Cx} {W : WX} {e : Expr} {we : EW} {pos p tpos : Pos} {elts : List Expr} {kk : Nat}
end
end DL

set_option Elab.async false
set_option linter.all false
set_option maxRecDepth 100000
set_option maxHeartbeats 4000000
/-! DLk: isinstance by built-in classes; raise; helpers for proofs. -/
namespace DL
open PySem L2

def tyS : D → Option String
  | .non => some "NoneType"
  | .bl _ => some "bool"
  | .int _ => some "int"
  | .str _ => some "str"
  | .tup _ => some "tuple"
  | .tpx _ => some "tuple"
  | .lst _ => some "list"
  | .ml _ => some "list"
  | _ => none
def isiB (a b : String) : Bool := a == b || (a == "bool" && b == "int")
theorem kitB_all : ∀ a ∈ ["NoneType", "bool", "int", "str", "tuple", "list"], ∀ b ∈ ["int", "bool", "tuple", "list", "str"], L2.kitB a b = some (isiB a b) := by decide +kernel
def gIsi : GN
  | [d, .ty T], Q => T ∈ ["int", "bool", "tuple", "list", "str"] ∧ withOp (tyS d) fun a => Q (.dat (.bl (isiB a T)))
  | _, _ => False
section
variable {K : PySem.W.Frag}
theorem tyx_of {B H : Hp} {v : V} {d : D} {a : String} (sub : Same B H) (h : RdB K B H v d) (e : tyS d = some a) : TyX K H v (.type a) ∧ a ∈ ["NoneType", "bool", "int", "str", "tuple", "list"] := by
  cases d with
  | non => cases h; cases e; exact ⟨.base .non, by simp⟩
  | bl b => cases h; cases e; exact ⟨.base (.bl b), by simp⟩
  | int b => cases h; cases e; exact ⟨.base (.int b), by simp⟩
  | str b => cases h; cases e; exact ⟨.base (.str b), by simp⟩
  | tup ds =>
    cases e
    cases h with
    | tup hh _ =>
      rcases hh.sq with (hh | ⟨o, hh⟩) | ⟨o, its, n, hk, hc, _⟩
      · exact ⟨.base (.tup hh), by simp⟩
      · exact ⟨.fTuple hh, by simp⟩
      · exact ⟨.kTuple hk hc, by simp⟩
  | lst ds =>
    cases e
    obtain ⟨a, xs, rfl, hh, _⟩ := h
    rcases hh with (hh | ⟨o, hh⟩) | ⟨o, its, n, hk, hc, _⟩
    · exact ⟨.base (.lst hh), by simp⟩
    · exact ⟨.base (.frz hh), by simp⟩
    · exact ⟨.kList hk hc, by simp⟩
  | adr _ => cases e
  | ty _ => cases e
  | fl _ => cases e
  | exc _ => cases e
  | dct _ => cases e
  | dcu _ => cases e
  | ml ds => cases e; cases h with | ml hh _ => exact ⟨.base (.lst (sub _ _ hh)), by simp⟩
  | kl _ => cases e
  | tpx _ => cases e; cases h with | tpx hh _ _ => exact ⟨.fTuple hh, by simp⟩
  | obj _ _ _ => cases e
theorem cs_isi : CallS K (rIsi K) gIsi := by
  intro B H xs ds Qw Q sub hr g p
  match ds, hr, g with
  | [d, .ty T], hr, g =>
    obtain ⟨x, y, rfl, h1, h2⟩ := rd2 hr
    cases h2
    obtain ⟨hT, g⟩ := g
    obtain ⟨a, e, g⟩ := withOp_some g
    obtain ⟨t, ha⟩ := tyx_of sub h1 e
    exact ⟨x, .ty T, _, _, _, rfl, .ty T, t, kit_ty (kitB_all a ha T hT), p.bl g⟩
end
section
variable {X : Cx} {W : WX} {pos : Pos}
theorem de_ty {x : Str} {T : String} (hg : Gl X x) (hm : X.mg x = none) (hv : bootBuiltins x = some (.type T)) (hn : x ≠ "__name__" := by decide) (hd : (x == ("__debug__" : Str)) = false := by decide) : DE X W (.Name x pos) (wC (.ty T)) :=
  ⟨_, pe_bltn (v := .ty T) hg hm hv rfl hn hd, sim_c fun _ _ => .ty T⟩
theorem de_glob {x : Str} {a : Addr} {d : D} (hg : Gl X x) (hm : X.mg x = some (.ref a)) (h : ∀ B H, Ip X.K B H (.ref a) d) (hd : (x == ("__debug__" : Str)) = false := by decide) : DE X W (.Name x pos) (wC d) :=
  ⟨_, pe_glob (v := .ref a) hg hm rfl hd, sim_c h⟩
end
theorem hu65 {A : Around} {k : Nat} (hr : Room k A) : A.units + 65 < cLine := by have := hr.un; omega

/-! ### raise X('..') -/
def wRaise (c : Value) : SW := fun E ρ => E.ex c ρ
section
variable {X : Cx} {W : WX} {pos : Pos}
theorem ds_raise {e : Expr} {C : Addr} (hc : X.calm = true) (tk : L2N.Takes X W) (he : L2N.PMk X e (fun _ H Q => Q (.ref C) none H)) : DS X W (.Raise (some e) none pos) (wRaise (.ref C)) :=
  ⟨_, L2N.ps_raise hc tk he, fun H0 B0 L B σ ρ H E Ew f h n r b c x => x (.ref C) B σ ρ H f (Gr.refl ..) h⟩
end

/-! ### loops by lemmas -/
/-- [f x for x in ..]: each item's element is known, the env stays -/
theorem lc_map {is : List Nat} {sp : D → Option (List D)} {we : EW} {vs : List Nat} {ds res : List D} {ρ1 : En} {Q : Sl → En → Prop} (no : noOwns ρ1 vs) (hl : res.length = ds.length) (hz : ds.length ≤ sizeLine)
    (hs : ∀ (i : Nat) (d d' : D), ds[i]? = some d → res[i]? = some d' → ∃ es, sp d = some es ∧ notInns (wipeE (wipeE ρ1 vs) vs) is ∧ ∀ (Q' : Sl → En → Prop) (X' : Value → En → Prop), (∀ ρ', wipeE ρ' vs = wipeE ρ1 vs → Q' (.dat d') ρ') → we (setsE (wipeE (wipeE ρ1 vs) vs) is es) Q' X')
    (q : Q (.own res) (wipeE ρ1 vs)) :
    noOwns ρ1 vs ∧ ∃ W : Nat → List D → En → Prop, W 0 [] (wipeE ρ1 vs) ∧ (∀ acc ρ2, W ds.length acc ρ2 → Q (.own acc) ρ2) ∧
      ∀ i d acc ρ2, ds[i]? = some d → W i acc ρ2 → withS (sp d) fun es => notInns (wipeE ρ2 vs) is ∧ wYes (setsE (wipeE ρ2 vs) is es) (fun b ρ3 => if b = true then we ρ3 (fun r ρ4 => withD [r] fun rs => acc.length < sizeLine ∧ W (i + 1) (acc ++ rs) (wipeE ρ4 vs)) (fun _ _ => False) else W (i + 1) acc (wipeE ρ3 vs)) (fun _ _ => False) := by
  refine ⟨no, fun i acc ρ2 => ρ2 = wipeE ρ1 vs ∧ acc = res.take i, ⟨rfl, rfl⟩, ?_, ?_⟩
  · rintro acc ρ2 ⟨rfl, rfl⟩
    rw [← hl, List.take_length]; exact q
  · rintro i d acc ρ2 hd ⟨rfl, rfl⟩
    have hi := (List.getElem?_eq_some_iff.mp hd).1
    have hr : i < res.length := by rw [hl]; exact hi
    obtain ⟨es, e1, e2, e3⟩ := hs i d res[i] hd (List.getElem?_eq_getElem hr)
    rw [e1]
    refine ⟨e2, e3 _ _ fun ρ' hρ => ?_⟩
    refine ⟨?_, hρ, ?_⟩
    · rw [List.length_take]; omega
    · rw [List.take_add_one, List.getElem?_eq_getElem hr]; rfl
end DL

set_option Elab.async false
set_option linter.all false
set_option maxRecDepth 100000
set_option maxHeartbeats 4000000
/-! DLm: the wishes unfolded, for simp. -/
namespace DL
open PySem L2
set_option checkBinderAnnotations false
/-! a wish that simp leaves alone until it is applied -/
def Post [Q : Sl → Prop] : Sl → Prop := Q
def PostX [Q : Value → Prop] : Value → Prop := Q
def Post2 [Q : Sl → List D → Prop] : Sl → List D → Prop := Q
def PostX2 [Q : Value → List D → Prop] : Value → List D → Prop := Q
def WOp {α : Type} (o : Option α) [k : α → Prop] : Prop := withOp o k
@[simp ↓] theorem post_app {Q : Sl → Prop} {r : Sl} : @Post Q r = Q r := id rfl
@[simp ↓] theorem postX_app {Q : Value → Prop} {r : Value} : @PostX Q r = Q r := id rfl
@[simp ↓] theorem post2_app {Q : Sl → List D → Prop} {r : Sl} {l : List D} : @Post2 Q r l = Q r l := id rfl
@[simp ↓] theorem postX2_app {Q : Value → List D → Prop} {r : Value} {l : List D} : @PostX2 Q r l = Q r l := id rfl
@[simp] theorem w_some {α : Type} {x : α} {k : α → Prop} : @WOp α (some x) k = k x := id rfl
@[simp] theorem w_none {α : Type} {k : α → Prop} : @WOp α none k = False := id rfl
/-- the ends of a statement that b follows -/
def thenE (E : EndsW) (b : SW) : EndsW := { E with nx := b E }
def VarK (o : Option (Option Sl)) (i : Nat) (ρ : En) [Q : Sl → En → Prop] : Prop := match o with
  | some (some (.dat d)) => Q (.dat d) ρ
  | some (some (.own _)) => Q (.bor i) ρ
  | some (some (.inn _)) => Q (.bor i) ρ
  | some (some (.dic _)) => Q (.bor i) ρ
  | _ => False
@[simp] theorem vk_dic {i : Nat} {ρ : En} {Q : Sl → En → Prop} {d : Dc} : @VarK (some (some (.dic d))) i ρ Q = Q (.bor i) ρ := id rfl
@[simp] theorem vk_dat {i : Nat} {ρ : En} {Q : Sl → En → Prop} {d : D} : @VarK (some (some (.dat d))) i ρ Q = Q (.dat d) ρ := id rfl
@[simp] theorem vk_own {i : Nat} {ρ : En} {Q : Sl → En → Prop} {d : List D} : @VarK (some (some (.own d))) i ρ Q = Q (.bor i) ρ := id rfl
@[simp] theorem vk_inn {i : Nat} {ρ : En} {Q : Sl → En → Prop} {d : List D} : @VarK (some (some (.inn d))) i ρ Q = Q (.bor i) ρ := id rfl
section
variable {ρ : En} {E : EndsW} {Q : Sl → En → Prop} {X : Value → En → Prop} {QA : List Sl → En → Prop} {QT : Bool → En → Prop} {QI : List D → En → Prop} {QO : Option Int → En → Prop}
@[simp ↓] theorem e_var {i : Nat} : wVar i ρ Q X = @VarK ρ[i]? i ρ Q := id rfl
@[simp ↓] theorem e_c {d : D} : wC d ρ Q X = Q (.dat d) ρ := id rfl
@[simp ↓] theorem e_op {g : G2} {wa wb : EW} : wOp g wa wb ρ Q X = wa ρ (fun a ρ1 => wb ρ1 (fun b ρ2 => withC ρ2 a fun d => withC ρ2 b fun e => g d e fun r => Q r ρ2) X) X := id rfl
@[simp ↓] theorem e_un {g : G1} {wa : EW} : wUn g wa ρ Q X = wa ρ (fun a ρ1 => withC ρ1 a fun d => g d fun r => Q r ρ1) X := id rfl
@[simp ↓] theorem e_nil : wNil ρ QA X = QA [] ρ := id rfl
@[simp ↓] theorem e_cons {wa : EW} {wr : AW} : wCons wa wr ρ QA X = wa ρ (fun a ρ1 => wr ρ1 (fun rs ρ2 => QA (a :: rs) ρ2) X) X := id rfl
@[simp ↓] theorem e_cb {g : GN} {wa : AW} : wCB g wa ρ Q X = wa ρ (fun rs ρ1 => withCs ρ1 rs fun ds => g ds fun r => Q r ρ1) X := id rfl
@[simp ↓] theorem c_dat {d : D} {k : D → Prop} : withC ρ (.dat d) k = k d := id rfl
@[simp ↓] theorem c_own {ds : List D} {k : D → Prop} : withC ρ (.own ds) k = k (.lst ds) := id rfl
@[simp ↓] theorem c_bor {i : Nat} {k : D → Prop} : withC ρ (.bor i) k = match ρ[i]? with
    | some (some (.own ds)) => k (.lst ds)
    | some (some (.inn ds)) => k (.lst ds)
    | _ => False := by
  show (match (match ρ[i]? with | some (some (.own ds)) => some (D.lst ds) | some (some (.inn ds)) => some (.lst ds) | _ => none) with | some d => k d | none => False) = _
  split <;> rename_i h <;> (try split at h) <;> simp_all
@[simp ↓] theorem cs_nil {k : List D → Prop} : withCs ρ [] k = k [] := id rfl
@[simp ↓] theorem cs_cons {r : Sl} {rs : List Sl} {k : List D → Prop} : withCs ρ (r :: rs) k = withC ρ r fun d => withCs ρ rs fun ds => k (d :: ds) := by
  show (match (match cont ρ r, conts ρ rs with | some d, some ds => some (d :: ds) | _, _ => none) with | some ds => k ds | none => False) = (match cont ρ r with | some d => (match conts ρ rs with | some ds => k (d :: ds) | none => False) | none => False)
  cases cont ρ r <;> cases conts ρ rs <;> rfl
@[simp ↓] theorem e_tru {wa : EW} : wTru wa ρ QT X = wa ρ (fun a ρ1 => withC ρ1 a fun d => match d with
  | .bl b => QT b ρ1
  | .non => QT false ρ1
  | .int i => QT (i != 0) ρ1
  | .tup ds => QT (!ds.isEmpty) ρ1
  | .lst ds => QT (!ds.isEmpty) ρ1
  | _ => False) X := id rfl
@[simp ↓] theorem e_and {wa wb : TWs} : wAnd wa wb ρ QT X = wa ρ (fun c ρ1 => if c = true then wb ρ1 QT X else QT false ρ1) X := id rfl
@[simp ↓] theorem e_or {wa wb : TWs} : wOr wa wb ρ QT X = wa ρ (fun c ρ1 => if c = true then QT true ρ1 else wb ρ1 QT X) X := id rfl
@[simp ↓] theorem e_not {wa : TWs} : wNot wa ρ QT X = wa ρ (fun c ρ1 => QT (!c) ρ1) X := id rfl
@[simp ↓] theorem e_ifE {wc : TWs} {wa wb : EW} : wIfE wc wa wb ρ Q X = wc ρ (fun c ρ1 => if c = true then wa ρ1 Q X else wb ρ1 Q X) X := id rfl
@[simp ↓] theorem e_bv {w : TWs} : wBv w ρ Q X = w ρ (fun c ρ1 => Q (.dat (.bl c)) ρ1) X := id rfl
@[simp ↓] theorem e_andV {wa wb : EW} : wAndV wa wb ρ Q X = wa ρ (fun a ρ1 => match a with | .dat (.bl c) => if c = true then wb ρ1 Q X else Q (.dat (.bl false)) ρ1 | _ => False) X := id rfl
@[simp ↓] theorem e_orV {wa wb : EW} : wOrV wa wb ρ Q X = wa ρ (fun a ρ1 => match a with | .dat (.bl c) => if c = true then Q (.dat (.bl true)) ρ1 else wb ρ1 Q X | _ => False) X := id rfl
@[simp ↓] theorem e_notV {wa : EW} : wNotV wa ρ Q X = wa ρ (fun a ρ1 => match a with | .dat (.bl c) => Q (.dat (.bl (!c))) ρ1 | _ => False) X := id rfl
@[simp ↓] theorem e_tb {wa : EW} : wTb wa ρ QT X = wa ρ (fun a ρ1 => match a with | .dat (.bl b) => QT b ρ1 | _ => False) X := id rfl
@[simp ↓] theorem d_nil {k : List D → Prop} : withD [] k = k [] := id rfl
@[simp ↓] theorem d_dat {d : D} {rs : List Sl} {k : List D → Prop} : withD (.dat d :: rs) k = withD rs fun ds => k (d :: ds) := by
  show (match (dats rs).map (d :: ·) with | some ds => k ds | none => False) = (match dats rs with | some ds => k (d :: ds) | none => False)
  cases dats rs <;> rfl
@[simp ↓] theorem d_own {es : List D} {rs : List Sl} {k : List D → Prop} : withD (.own es :: rs) k = withD rs fun ds => k (.lst es :: ds) := by
  show (match (dats rs).map (D.lst es :: ·) with | some ds => k ds | none => False) = (match dats rs with | some ds => k (D.lst es :: ds) | none => False)
  cases dats rs <;> rfl
@[simp ↓] theorem e_tup {wa : AW} : wTup wa ρ Q X = wa ρ (fun rs ρ1 => withD rs fun ds => ds.length ≤ sizeLine ∧ Q (.dat (.tup ds)) ρ1) X := id rfl
@[simp ↓] theorem e_lst {wa : AW} : wLst wa ρ Q X = wa ρ (fun rs ρ1 => withD rs fun ds => ds.length ≤ sizeLine ∧ Q (.own ds) ρ1) X := id rfl
@[simp ↓] theorem e_callD {f : FD} {wa : AW} : wCallD f wa ρ Q X = wa ρ (fun rs ρ1 => withCs ρ1 rs fun ds => f ds (@Post fun r => Q r ρ1) (@PostX fun c => X c ρ1)) X := id rfl
@[simp ↓] theorem p_nil {k : List D → Prop} : withP [] k = k [] := id rfl
@[simp ↓] theorem p_dat {d : D} {rs : List Sl} {k : List D → Prop} : withP (.dat d :: rs) k = withP rs fun ds => k (d :: ds) := by
  show (match (pureD rs).map (d :: ·) with | some ds => k ds | none => False) = (match pureD rs with | some ds => k (d :: ds) | none => False)
  cases pureD rs <;> rfl
@[simp ↓] theorem e_callI {f : FI} {wa : AW} : wCallI f wa ρ Q X = wa ρ (fun rs ρ1 => match rs with
  | .bor i :: rs' => withO ρ1 i fun dl => withP rs' fun ds => D.nolists dl = true ∧ f dl ds (@Post2 fun r dl' => Q r (setOwn ρ1 i dl')) (@PostX2 fun c dl' => X c (setOwn ρ1 i dl'))
  | .own dl :: rs' => withP rs' fun ds => D.nolists dl = true ∧ f dl ds (@Post2 fun r _ => Q r ρ1) (@PostX2 fun c _ => X c ρ1)
  | _ => False) X := id rfl
@[simp ↓] theorem e_mt {m : GM} {i : Nat} {wa : AW} : wMt m i wa ρ Q X = (isLst ρ[i]? = true ∧ wa ρ (fun rs ρ1 => withD rs fun args => withO ρ1 i fun ds => m ds args fun d ds' => Q (.dat d) (setOwn ρ1 i ds')) X) := id rfl
@[simp ↓] theorem e_mt0 {m : GM} {i : Nat} : wMt0 m i ρ Q X = withO ρ i fun ds => m ds [] fun d ds' => Q (.dat d) (setOwn ρ i ds') := id rfl
@[simp ↓] theorem s_next : wNext E ρ = E.nx ρ := id rfl
@[simp ↓] theorem s_seq {a b : SW} : wSeq a b E ρ = a (thenE E b) ρ := id rfl
@[simp ↓] theorem th_nx {b : SW} : (thenE E b).nx ρ = b E ρ := id rfl
@[simp ↓] theorem th_rt {b : SW} {r : Sl} : (thenE E b).rt r ρ = E.rt r ρ := id rfl
@[simp ↓] theorem th_ex {b : SW} : (thenE E b).ex = E.ex := id rfl
@[simp ↓] theorem th_bk {b : SW} : (thenE E b).bk ρ = E.bk ρ := id rfl
@[simp ↓] theorem th_ct {b : SW} : (thenE E b).ct ρ = E.ct ρ := id rfl
@[simp ↓] theorem s_drop {we : EW} : wDrop we E ρ = we ρ (fun _ ρ1 => E.nx ρ1) E.ex := id rfl
@[simp ↓] theorem s_ret {we : EW} : wRet we E ρ = we ρ (fun r ρ1 => match r with
  | .dat d => E.rt (.dat d) ρ1
  | .own ds => E.rt (.own ds) ρ1
  | .bor i => match ρ1[i]? with
    | some (some (.own ds)) => E.rt (.own ds) ρ1
    | _ => False
  | _ => False) E.ex := id rfl
@[simp ↓] theorem s_retN : wRetN E ρ = E.rt (.dat .non) ρ := id rfl
@[simp ↓] theorem s_if {wc : TWs} {a b : SW} : wIf wc a b E ρ = wc ρ (fun c ρ1 => if c = true then a E ρ1 else b E ρ1) E.ex := id rfl
@[simp ↓] theorem s_break : wBreak E ρ = E.bk ρ := id rfl
@[simp ↓] theorem s_cont : wCont E ρ = E.ct ρ := id rfl
@[simp ↓] theorem s_set {i : Nat} {we : EW} : wSet i we E ρ = we ρ (fun r ρ1 => notInn ρ1 i ∧ match r with
  | .dat d => E.nx (ρ1.set i (some (.dat d)))
  | .own ds => E.nx (ρ1.set i (some (.own ds)))
  | .dic kvs => E.nx (ρ1.set i (some (.dic kvs)))
  | _ => False) E.ex := id rfl
@[simp ↓] theorem s_setIt {i : Nat} {we wj : EW} : wSetIt i we wj E ρ = we ρ (fun r ρ1 => match r with
  | .dat d => isOwn ρ1[i]? = true ∧ wj ρ1 (fun rj ρ2 => match rj with
    | .dat (.int k) => withO ρ2 i fun ds => match ixN ds.length k with
      | some j => E.nx (setOwn ρ2 i (ds.set j d))
      | none => False
    | _ => False) E.ex
  | _ => False) E.ex := id rfl
@[simp ↓] theorem s_raise {c : Value} : wRaise c E ρ = E.ex c ρ := id rfl
@[simp ↓] theorem s_frz {i : Nat} {w : SW} : wFrz i w E ρ = w E (frz ρ i) := id rfl
@[simp ↓] theorem s_setT {is : List Nat} {we : EW} : wSetT is we E ρ = we ρ (fun r ρ1 => match r with
  | .dat (.tup ds) => (ds.length = is.length ∧ notInns ρ1 is) ∧ E.nx (setsE ρ1 is ds)
  | _ => False) E.ex := id rfl
@[simp ↓] theorem s_par {i j : Nat} {wa wb : EW} : wPar i j wa wb E ρ = wa ρ (fun r ρ1 => wb ρ1 (fun r' ρ2 => match r, r' with
  | .dat d, .dat d' => (notInn ρ2 i ∧ notInn ρ2 j) ∧ E.nx ((ρ2.set i (some (.dat d))).set j (some (.dat d')))
  | _, _ => False) E.ex) E.ex := id rfl
@[simp ↓] theorem i_src {we : EW} : wSrc we ρ QI X = we ρ (fun r ρ1 => match r with
  | .dat (.tup ds) => QI ds ρ1
  | .dat (.lst ds) => QI ds ρ1
  | .dat (.fl ds) => QI ds ρ1
  | .dat (.tpx ds) => QI ds ρ1
  | .dat (.ml ds) => QI ds ρ1
  | .dat (.kl ds) => QI ds ρ1
  | .own ds => QI ds ρ1
  | _ => False) X := id rfl
@[simp ↓] theorem i_rev {we : EW} : wRev we ρ QI X = we ρ (fun r ρ1 => match r with
  | .dat (.tup ds) => QI ds.reverse ρ1
  | .dat (.lst ds) => QI ds.reverse ρ1
  | .dat (.fl ds) => QI ds.reverse ρ1
  | .own ds => QI ds.reverse ρ1
  | _ => False) X := id rfl
@[simp ↓] theorem i_enum {we : EW} : wEnum we ρ QI X = we ρ (fun r ρ1 => match r with
  | .dat (.tup ds) => QI (enumD ds) ρ1
  | .dat (.tpx ds) => QI (enumD ds) ρ1
  | .dat (.lst ds) => QI (enumD ds) ρ1
  | .dat (.fl ds) => QI (enumD ds) ρ1
  | .own ds => QI (enumD ds) ρ1
  | _ => False) X := id rfl
@[simp ↓] theorem i_rg1 {we : EW} : wRg1 we ρ QI X = we ρ (fun r ρ1 => match r with
  | .dat (.int j) => (-(2 ^ 62) ≤ j ∧ j < 2 ^ 62) ∧ QI (rgD 0 j.toNat) ρ1
  | _ => False) X := id rfl
@[simp ↓] theorem i_rg2 {wa wb : EW} : wRg2 wa wb ρ QI X = wa ρ (fun r ρ1 => wb ρ1 (fun r' ρ2 => match r, r' with
  | .dat (.int i), .dat (.int j) => ((-(2 ^ 62) ≤ i ∧ i < 2 ^ 62) ∧ -(2 ^ 62) ≤ j ∧ j < 2 ^ 62) ∧ QI (rgD i (j - i).toNat) ρ2
  | _, _ => False) X) X := id rfl
@[simp ↓] theorem e_tupRg {we : IW} : wTupRg we ρ Q X = we ρ (fun ds ρ1 => ds.length ≤ 16777216 ∧ Q (.dat (.tup ds)) ρ1) X := id rfl
@[simp ↓] theorem e_lstRg {we : IW} : wLstRg we ρ Q X = we ρ (fun ds ρ1 => ds.length ≤ 16777216 ∧ Q (.own ds) ρ1) X := id rfl
@[simp ↓] theorem e_rep {wa wb : EW} : wRep wa wb ρ Q X = wa ρ (fun a ρ1 => wb ρ1 (fun b ρ2 => match a, b with
  | .own ds, .dat (.int k) => (-(2 ^ 63) ≤ k ∧ k < 2 ^ 63 ∧ ds.length * k.toNat ≤ sizeLine) ∧ Q (.own (List.replicate k.toNat ds).flatten) ρ2
  | _, _ => False) X) X := id rfl
@[simp ↓] theorem o_no : wNoPart ρ QO X = QO none ρ := id rfl
@[simp ↓] theorem o_part {we : EW} : wPart we ρ QO X = we ρ (fun r ρ1 => match r with
  | .dat (.int i) => QO (some i) ρ1
  | _ => False) X := id rfl
@[simp ↓] theorem e_sl {we : EW} {wl wh : OW} : wSl we wl wh ρ Q X = we ρ (fun r ρ1 => wl ρ1 (fun lo ρ2 => wh ρ2 (fun hi ρ3 => withC ρ3 r fun d => gSl d lo hi fun s => Q s ρ3) X) X) X := id rfl
@[simp ↓] theorem e_yes : wYes ρ QT X = QT true ρ := id rfl
end
section
variable {Q : Sl → Prop} {i j : Int} {a b ds : List D}
@[simp ↓] theorem g_add : gAdd (.int i) (.int j) Q = Q (.dat (.int (i + j))) := id rfl
@[simp ↓] theorem g_addL : gAdd (.lst a) (.lst b) Q = (a.length + b.length ≤ sizeLine ∧ Q (.own (a ++ b))) := id rfl
@[simp ↓] theorem g_sub : gSub2 (.int i) (.int j) Q = Q (.dat (.int (i - j))) := id rfl
@[simp ↓] theorem g_mul : gMul (.int i) (.int j) Q = (IntMulOk i j ∧ Q (.dat (.int (i * j)))) := id rfl
@[simp ↓] theorem g_div : gDiv (.int i) (.int j) Q = ((j ≠ 0 ∧ Builtin.divisionGoesByPylong i j = false) ∧ Q (.dat (.int (i.fdiv j)))) := id rfl
@[simp ↓] theorem g_mod : gMod (.int i) (.int j) Q = (j ≠ 0 ∧ Q (.dat (.int (i.fmod j)))) := id rfl
@[simp ↓] theorem g_pow : gPow (.int i) (.int j) Q = (CPow i j ∧ Q (.dat (.int (i ^ j.toNat)))) := id rfl
@[simp ↓] theorem g_lt : gLt (.int i) (.int j) Q = Q (.dat (.bl (decide (i < j)))) := id rfl
@[simp ↓] theorem g_le : gLe (.int i) (.int j) Q = Q (.dat (.bl (decide (i ≤ j)))) := id rfl
@[simp ↓] theorem g_gt : gGt (.int i) (.int j) Q = Q (.dat (.bl (decide (j < i)))) := id rfl
@[simp ↓] theorem g_ge : gGe (.int i) (.int j) Q = Q (.dat (.bl (decide (j ≤ i)))) := id rfl
@[simp ↓] theorem g_neg : gNeg (.int i) Q = Q (.dat (.int (-i))) := id rfl
@[simp ↓] theorem g_eqI : gEq (.int i) (.int j) Q = Q (.dat (.bl (decide (i = j)))) := by
  have h : (D.int i).eqb (.int j) = decide (i = j) := by rw [Bool.eq_iff_iff]; simp [D.eqb, D.py, PyData.eqv]
  unfold gEq
  rw [h]; simp [D.shp, D.plain, D.deep]
@[simp ↓] theorem g_neI : gNe (.int i) (.int j) Q = Q (.dat (.bl (!decide (i = j)))) := by
  have h : (D.int i).eqb (.int j) = decide (i = j) := by rw [Bool.eq_iff_iff]; simp [D.eqb, D.py, PyData.eqv]
  unfold gNe
  rw [h]; simp [D.shp, D.plain, D.deep]
@[simp ↓] theorem g_ixT : gIx (.tup ds) (.int i) Q = @WOp _ (atI ds i) fun d => Q (.dat d) := id rfl
@[simp ↓] theorem g_ixL : gIx (.lst ds) (.int i) Q = @WOp _ (atI ds i) fun d => Q (.dat d) := id rfl
@[simp ↓] theorem g_slL {lo hi : Option Int} : gSl (.lst ds) lo hi Q = Q (.own (cutD ds lo hi)) := id rfl
@[simp ↓] theorem g_slT {lo hi : Option Int} : gSl (.tup ds) lo hi Q = Q (.dat (.tup (cutD ds lo hi))) := id rfl
@[simp ↓] theorem g_lenT : gLen [.tup ds] Q = Q (.dat (.int ds.length)) := id rfl
@[simp ↓] theorem g_lenF : gLen [.fl ds] Q = Q (.dat (.int ds.length)) := id rfl
@[simp ↓] theorem g_lenX : gLen [.tpx ds] Q = Q (.dat (.int ds.length)) := id rfl
@[simp ↓] theorem g_tupX : gTuple [.tpx ds] Q = Q (.dat (.tpx ds)) := id rfl
@[simp ↓] theorem g_ixS {x : Str} : gIx (.str x) (.int i) Q = (x.length ≤ sizeLine ∧ @WOp _ (atI x.cps.toList i) fun c => Q (.dat (.str ⟨#[c]⟩))) := id rfl
@[simp ↓] theorem g_addS {x y : Str} : gAdd (.str x) (.str y) Q = (x.length + y.length ≤ sizeLine ∧ Q (.dat (.str (x ++ y)))) := id rfl
@[simp ↓] theorem g_ixX : gIx (.tpx ds) (.int i) Q = @WOp _ (atI ds i) fun d => Q (.dat d) := id rfl
@[simp ↓] theorem g_lstF : gList [.fl ds] Q = Q (.own ds) := id rfl
@[simp ↓] theorem g_ixK : gIx (.kl ds) (.int i) Q = @WOp _ (atI ds i) fun d => Q (.dat d) := id rfl
@[simp ↓] theorem g_lenM : gLen [.ml ds] Q = Q (.dat (.int ds.length)) := id rfl
@[simp ↓] theorem g_lenK : gLen [.kl ds] Q = Q (.dat (.int ds.length)) := id rfl
@[simp ↓] theorem g_ixF : gIx (.fl ds) (.int i) Q = @WOp _ (atI ds i) fun d => Q (.dat d) := id rfl
@[simp ↓] theorem g_lenL : gLen [.lst ds] Q = Q (.dat (.int ds.length)) := id rfl
theorem abs_if : (if i < 0 then -i else i) = (i.natAbs : Int) := by split <;> omega
@[simp ↓] theorem g_abs : gAbs [.int i] Q = Q (.dat (.int (i.natAbs : Int))) := by rw [← abs_if]; rfl
@[simp ↓] theorem g_max : gMax [.int i, .int j] Q = Q (.dat (.int (if j > i then j else i))) := id rfl
@[simp ↓] theorem g_min : gMin [.int i, .int j] Q = Q (.dat (.int (if j < i then j else i))) := id rfl
@[simp ↓] theorem g_intI : gInt [.int i] Q = Q (.dat (.int i)) := id rfl
@[simp ↓] theorem g_intB {k : Bool} : gInt [.bl k] Q = Q (.dat (.int (if k then 1 else 0))) := id rfl
@[simp ↓] theorem g_tupL : gTuple [.lst ds] Q = Q (.dat (.tup ds)) := id rfl
@[simp ↓] theorem g_tupT : gTuple [.tup ds] Q = Q (.dat (.tup ds)) := id rfl
@[simp ↓] theorem g_lstL : gList [.lst ds] Q = Q (.own ds) := id rfl
@[simp ↓] theorem g_lstT : gList [.tup ds] Q = Q (.own ds) := id rfl
@[simp ↓] theorem g_isi {d : D} {T : String} : gIsi [d, .ty T] Q = (T ∈ ["int", "bool", "tuple", "list", "str"] ∧ @WOp _ (tyS d) fun a => Q (.dat (.bl (isiB a T)))) := id rfl
@[simp] theorem ty_int : tyS (.int i) = some "int" := id rfl
@[simp] theorem ty_tup : tyS (.tup ds) = some "tuple" := id rfl
@[simp] theorem ty_tpx : tyS (.tpx ds) = some "tuple" := id rfl
@[simp] theorem ty_lst : tyS (.lst ds) = some "list" := id rfl
@[simp] theorem ty_bl {k : Bool} : tyS (.bl k) = some "bool" := id rfl
end
section
variable {Q : D → List D → Prop} {d : D} {ds : List D}
@[simp ↓] theorem m_append : mAppend ds [d] Q = (ds.length < sizeLine ∧ Q .non (ds ++ [d])) := id rfl
@[simp ↓] theorem m_pop : mPop ds [] Q = @WOp _ ds[ds.length - 1]? fun d => Q d ds.dropLast := id rfl
@[simp ↓] theorem m_reverse : mReverse ds [] Q = Q .non ds.reverse := id rfl
@[simp ↓] theorem m_clear : mClear ds [] Q = Q .non [] := id rfl
end
/-- a slot that may be set -/
def free : Option Sl → Prop
  | some (.inn _) => False
  | _ => True
section
variable {ρ : En} {i : Nat} {d : D} {o : Option Sl} {ds es : List D} {k : List D → Prop}
@[simp ↓] theorem o0_own : withO (some (.own ds) :: ρ) 0 k = k ds := id rfl
@[simp ↓] theorem o0_inn : withO (some (.inn ds) :: ρ) 0 k = k ds := id rfl
@[simp ↓] theorem o_suc : withO (o :: ρ) (i + 1) k = withO ρ i k := id rfl
@[simp] theorem so0_own : setOwn (some (.own ds) :: ρ) 0 es = some (.own es) :: ρ := id rfl
@[simp] theorem so0_inn : setOwn (some (.inn ds) :: ρ) 0 es = some (.inn es) :: ρ := id rfl
@[simp] theorem so_suc : setOwn (o :: ρ) (i + 1) es = o :: setOwn ρ i es := by
  unfold setOwn
  simp only [List.getElem?_cons_succ]
  split <;> simp_all
@[simp] theorem fz0_own : frz (some (.own ds) :: ρ) 0 = some (.dat (.lst ds)) :: ρ := id rfl
@[simp] theorem fz0_dat : frz (some (.dat d) :: ρ) 0 = some (.dat d) :: ρ := id rfl
@[simp] theorem fz_suc : frz (o :: ρ) (i + 1) = o :: frz ρ i := by
  unfold frz
  simp only [List.getElem?_cons_succ]
  split <;> simp_all
@[simp ↓] theorem ni0 : notInn (o :: ρ) 0 = free o := by cases o with | none => rfl | some r => cases r <;> rfl
@[simp] theorem fr_none : free none = True := id rfl
@[simp] theorem fr_dat : free (some (.dat d)) = True := id rfl
@[simp] theorem fr_own : free (some (.own ds)) = True := id rfl
@[simp ↓] theorem ni_suc : notInn (o :: ρ) (i + 1) = notInn ρ i := id rfl
@[simp ↓] theorem nis_nil : notInns ρ [] = True := id rfl
@[simp ↓] theorem nis_cons {is : List Nat} : notInns ρ (i :: is) = (notInn ρ i ∧ notInns ρ is) := id rfl
@[simp] theorem se_nil {is : List Nat} : setsE ρ is [] = ρ := by cases is <;> rfl
@[simp] theorem se_cons {is : List Nat} : setsE ρ (i :: is) (d :: ds) = setsE (ρ.set i (some (.dat d))) is ds := id rfl
@[simp] theorem il_own {ds : List D} : isLst (some (some (.own ds))) = true := id rfl
@[simp] theorem il_inn {ds : List D} : isLst (some (some (.inn ds))) = true := id rfl
@[simp] theorem io_dic {kvs : Dc} : isOwn (some (some (.dic kvs))) = true := id rfl
@[simp] theorem fr_dic {kvs : Dc} : free (some (.dic kvs)) = True := id rfl
@[simp] theorem io_own : isOwn (some (some (.own ds))) = true := id rfl
@[simp] theorem io_inn : isOwn (some (some (.inn ds))) = true := id rfl
@[simp] theorem io_dat : isOwn (some (some (.dat d))) = false := id rfl
@[simp] theorem io_none : isOwn (some none) = false := id rfl
@[simp] theorem sp_name : spName d = some [d] := id rfl
@[simp] theorem sp_tup {n : Nat} : spTup n (.tup ds) = if ds.length = n then some ds else none := id rfl
@[simp] theorem ws_some : withS (some ds) k = k ds := id rfl
@[simp] theorem wi_nil : wipeE ρ [] = ρ := id rfl
@[simp] theorem wi_cons {vs : List Nat} : wipeE ρ (i :: vs) = (wipeE ρ vs).set i none := id rfl
@[simp] theorem r_dat {nl : Bool} : retOk nl (.dat d) = ((nl || d.nolist) = true) := id rfl
@[simp] theorem r_own {nl : Bool} : retOk nl (.own ds) = ((nl || D.nolists ds) = true) := id rfl
end
@[simp] theorem nl_int {i : Int} : (D.int i).nolist = true := by simp [D.nolist]
@[simp] theorem nl_bl {i : Bool} : (D.bl i).nolist = true := by simp [D.nolist]
@[simp] theorem nl_non : D.non.nolist = true := by simp [D.nolist]
@[simp] theorem nl_adr {a : Addr} : (D.adr a).nolist = true := by simp [D.nolist]
@[simp] theorem nl_tup {ds : List D} : (D.tup ds).nolist = D.nolists ds := by simp [D.nolist]
@[simp] theorem nl_fl {ds : List D} : (D.fl ds).nolist = D.nolists ds := by simp [D.nolist]
@[simp] theorem nl_tpx {ds : List D} : (D.tpx ds).nolist = D.nolists ds := by simp [D.nolist]
@[simp] theorem nl_exc {C : Addr} : (D.exc C).nolist = true := by simp [D.nolist]
@[simp] theorem nl_obj {C : Addr} {ns : List Str} {ds : List D} : (D.obj C ns ds).nolist = D.nolists ds := by simp [D.nolist]
@[simp] theorem nl_lst {ds : List D} : (D.lst ds).nolist = false := by simp [D.nolist]
@[simp] theorem nls_nil : D.nolists [] = true := by simp [D.nolists]
@[simp] theorem nls_cons {d : D} {ds : List D} : D.nolists (d :: ds) = (d.nolist && D.nolists ds) := by simp [D.nolists]
@[simp] theorem nls_app : ∀ {ds es : List D}, D.nolists (ds ++ es) = (D.nolists ds && D.nolists es)
  | [], _ => by simp
  | _ :: ds, _ => by simp [nls_app (ds := ds), Bool.and_assoc]
@[simp] theorem nls_ints : ∀ {ns : List Int}, D.nolists (ns.map D.int) = true
  | [] => by simp
  | _ :: ns => by simp [nls_ints (ns := ns)]
@[simp] theorem sizeLine_eq : sizeLine = 16777216 := id rfl
/-! ### x == y of plain data -/
mutual
theorem D.eqb_refl : ∀ d : D, d.plain = true → PyData.eqv d.py d.py = true
  | .non, _ => by simp [D.py, PyData.eqv]
  | .bl b, _ => by cases b <;> simp [D.py, PyData.eqv]
  | .int i, _ => by simp [D.py, PyData.eqv]
  | .str _, _ => by simp [D.py, PyData.eqv]
  | .adr _, e => by simp [D.plain] at e
  | .ty _, e => by simp [D.plain] at e
  | .tup ds, e => by rw [D.py, PyData.eqv]; exact D.eqbs_refl ds (by simpa [D.plain] using e)
  | .lst ds, e => by rw [D.py, PyData.eqv]; exact D.eqbs_refl ds (by simpa [D.plain] using e)
  | .fl ds, e => by rw [D.py, PyData.eqv]; exact D.eqbs_refl ds (by simpa [D.plain] using e)
  | .obj _ _ _, e => by simp [D.plain] at e
  | .exc _, e => by simp [D.plain] at e
  | .dct _, e => by simp [D.plain] at e
  | .dcu _, e => by simp [D.plain] at e
  | .tpx ds, e => by rw [D.py, PyData.eqv]; exact D.eqbs_refl ds (by simpa [D.plain] using e)
  | .ml ds, e => by rw [D.py, PyData.eqv]; exact D.eqbs_refl ds (by simpa [D.plain] using e)
  | .kl ds, e => by rw [D.py, PyData.eqv]; exact D.eqbs_refl ds (by simpa [D.plain] using e)
theorem D.eqbs_refl : ∀ ds : List D, D.plains ds = true → PyData.eqvAll (D.pys ds) (D.pys ds) = true
  | [], _ => by simp [D.pys, PyData.eqvAll]
  | d :: ds, e => by
    rw [D.plains, Bool.and_eq_true] at e
    rw [D.pys, PyData.eqvAll, D.eqb_refl d e.1, D.eqbs_refl ds e.2]; rfl
end
/-! ### sizes -/
/-! ### loops -/
def Whil [wc : TWs] [wb : SW] [E : EndsW] (ρ : En) : Prop := ∃ W : Nat → En → Prop, (∃ m, W m ρ) ∧ ∀ m ρ1, W m ρ1 →
  wc ρ1 (fun b ρ2 => if b = true then wb { E with nx := fun ρ' => ∃ m', m' < m ∧ W m' ρ', ct := fun ρ' => ∃ m', m' < m ∧ W m' ρ', bk := E.nx } ρ2 else E.nx ρ2) E.ex
@[simp ↓] theorem s_while {wc : TWs} {wb : SW} {E : EndsW} {ρ : En} : wWhile wc wb E ρ = @Whil wc wb E ρ := id rfl
theorem while_by {wc : TWs} {wb : SW} {E : EndsW} {ρ : En} (W : Nat → En → Prop) (m : Nat) (h0 : W m ρ) (h : ∀ m ρ1, W m ρ1 →
  wc ρ1 (fun b ρ2 => if b = true then wb { E with nx := fun ρ' => ∃ m', m' < m ∧ W m' ρ', ct := fun ρ' => ∃ m', m' < m ∧ W m' ρ', bk := E.nx } ρ2 else E.nx ρ2) E.ex) : @Whil wc wb E ρ := ⟨W, ⟨m, h0⟩, h⟩
def Loop (ds : List D) [is : List Nat] [sp : D → Option (List D)] [wb : SW] [E : EndsW] (ρ1 : En) : Prop := ∃ W : Nat → En → Prop, W 0 ρ1 ∧ (∀ ρ2, W ds.length ρ2 → E.nx ρ2) ∧
  ∀ i d ρ2, ds[i]? = some d → W i ρ2 → withS (sp d) fun es => notInns ρ2 is ∧ wb { E with nx := W (i + 1), ct := W (i + 1), bk := E.nx } (setsE ρ2 is es)
@[simp ↓] theorem s_for {wi : IW} {is : List Nat} {sp : D → Option (List D)} {wb : SW} {E : EndsW} {ρ : En} : wFor wi is sp wb E ρ = wi ρ (fun ds ρ1 => @Loop ds is sp wb E ρ1) E.ex := id rfl
theorem loop_by {ds : List D} {is : List Nat} {sp : D → Option (List D)} {wb : SW} {E : EndsW} {ρ1 : En} (W : Nat → En → Prop) (h0 : W 0 ρ1) (hd : ∀ ρ2, W ds.length ρ2 → E.nx ρ2)
    (hs : ∀ i d ρ2, ds[i]? = some d → W i ρ2 → withS (sp d) fun es => notInns ρ2 is ∧ wb { E with nx := W (i + 1), ct := W (i + 1), bk := E.nx } (setsE ρ2 is es)) : @Loop ds is sp wb E ρ1 := ⟨W, h0, hd, hs⟩
/-- the body's wish grows with its ends -/
def MonS (wb : SW) : Prop := ∀ (E E' : EndsW) (ρ : En), wb E ρ → (∀ ρ, E.nx ρ → E'.nx ρ) → (∀ r ρ, E.rt r ρ → E'.rt r ρ) → (∀ c ρ, E.ex c ρ → E'.ex c ρ) → (∀ ρ, E.bk ρ → E'.bk ρ) → (∀ ρ, E.ct ρ → E'.ct ρ) → wb E' ρ
def LcOk (ds : List D) [is : List Nat] [sp : D → Option (List D)] [wt : TWs] [we : EW] [vs : List Nat] [Q : Sl → En → Prop] (ρ1 : En) : Prop := noOwns ρ1 vs ∧ ∃ W : Nat → List D → En → Prop, W 0 [] (wipeE ρ1 vs) ∧ (∀ acc ρ2, W ds.length acc ρ2 → Q (.own acc) ρ2) ∧
  ∀ i d acc ρ2, ds[i]? = some d → W i acc ρ2 → withS (sp d) fun es => notInns (wipeE ρ2 vs) is ∧ wt (setsE (wipeE ρ2 vs) is es) (fun b ρ3 => if b = true then we ρ3 (fun r ρ4 => withD [r] fun rs => acc.length < sizeLine ∧ W (i + 1) (acc ++ rs) (wipeE ρ4 vs)) (fun _ _ => False) else W (i + 1) acc (wipeE ρ3 vs)) (fun _ _ => False)
@[simp ↓] theorem e_lc {wi : IW} {is : List Nat} {sp : D → Option (List D)} {wt : TWs} {we : EW} {vs : List Nat} {ρ : En} {Q : Sl → En → Prop} {X : Value → En → Prop} : wLc wi is sp wt we vs ρ Q X = wi ρ (fun ds ρ1 => @LcOk ds is sp wt we vs Q ρ1) X := id rfl
theorem lc_by {ds : List D} {is : List Nat} {sp : D → Option (List D)} {wt : TWs} {we : EW} {vs : List Nat} {Q : Sl → En → Prop} {ρ1 : En} (no : noOwns ρ1 vs) (W : Nat → List D → En → Prop) (h0 : W 0 [] (wipeE ρ1 vs)) (hd : ∀ acc ρ2, W ds.length acc ρ2 → Q (.own acc) ρ2)
    (hs : ∀ i d acc ρ2, ds[i]? = some d → W i acc ρ2 → withS (sp d) fun es => notInns (wipeE ρ2 vs) is ∧ wt (setsE (wipeE ρ2 vs) is es) (fun b ρ3 => if b = true then we ρ3 (fun r ρ4 => withD [r] fun rs => acc.length < sizeLine ∧ W (i + 1) (acc ++ rs) (wipeE ρ4 vs)) (fun _ _ => False) else W (i + 1) acc (wipeE ρ3 vs)) (fun _ _ => False)) : @LcOk ds is sp wt we vs Q ρ1 := ⟨no, W, h0, hd, hs⟩
/-- [f x for x in ..]: each item's element is known, the env stays -/
theorem lcm_by {is : List Nat} {sp : D → Option (List D)} {we : EW} {vs : List Nat} {ds res : List D} {ρ1 : En} {Q : Sl → En → Prop} (no : noOwns ρ1 vs) (hl : res.length = ds.length) (hz : ds.length ≤ sizeLine)
    (hs : ∀ (i : Nat) (d d' : D), ds[i]? = some d → res[i]? = some d' → ∃ es, sp d = some es ∧ notInns (wipeE (wipeE ρ1 vs) vs) is ∧ ∀ (Q' : Sl → En → Prop) (X' : Value → En → Prop), (∀ ρ', wipeE ρ' vs = wipeE ρ1 vs → Q' (.dat d') ρ') → we (setsE (wipeE (wipeE ρ1 vs) vs) is es) Q' X')
    (q : Q (.own res) (wipeE ρ1 vs)) : @LcOk ds is sp wYes we vs Q ρ1 := lc_map no hl hz hs q
@[simp] theorem no_nil {ρ : En} : noOwns ρ [] = True := by simp [noOwns]
@[simp] theorem no_cons {ρ : En} {v : Nat} {vs : List Nat} : noOwns ρ (v :: vs) = (isOwn ρ[v]? = false ∧ noOwns ρ vs) := by simp [noOwns]
theorem rg_get {lo : Int} {n k : Nat} {d : D} (h : (rgD lo n)[k]? = some d) : d = .int (lo + (k : Nat)) ∧ k < n := by
  have hk := (List.getElem?_eq_some_iff.mp h).1
  rw [rgD_len] at hk
  rw [rgD_get hk] at h
  cases h
  exact ⟨rfl, hk⟩
theorem mul_small {i j : Int} (h : j.natAbs < 2 ^ 64) : IntMulOk i j := .of_right (intBits_le_iff.mpr h)
theorem cut_take {ds : List D} (k : Nat) : cutD ds none (some (k : Int)) = ds.take k := by
  unfold cutD
  rw [HT.sIx_none, HT.sIx_nat, List.drop_zero, Nat.sub_zero, List.take_eq_take_iff]
  omega
end DL

set_option Elab.async false
set_option linter.all false
set_option maxRecDepth 100000
set_option maxHeartbeats 4000000
set_option checkBinderAnnotations false
/-! DLn: try/except .. as e; a def held by a slot; isinstance of a caught error. -/
namespace DL
open PySem L2
section
variable {K : PySem.W.Frag} {H0 B0 B H : Hp} {L : Nat → Addr → Prop} {σ : St} {ρ : En}
end
/-- try: body, except c as (slot i): the suite; only errors of the class at C are looked for -/
def wTry (K : PySem.W.Frag) (c : Value) (C : Addr) (i : Nat) (wb : SW) (wh : Addr → SW) : SW := fun E ρ => wb { E with ex := fun cls ρ1 => ∃ b, PySem.W.exmOne K cls c = some b ∧
  (b = true → cls = .ref C ∧ notInn ρ1 i ∧ ∀ a, wh a { nx := fun ρ2 => notInn ρ2 i ∧ E.nx (ρ2.set i none), rt := E.rt, ex := fun _ _ => False, bk := fun ρ2 => notInn ρ2 i ∧ E.bk (ρ2.set i none), ct := fun ρ2 => notInn ρ2 i ∧ E.ct (ρ2.set i none) } (ρ1.set i (some (.dat (.adr a))))) ∧ (b = false → E.ex cls ρ1) } ρ
section
variable {X : Cx} {W : WX} {x n : Str} {c : Value} {C : Addr} {i : Nat} {body suite : List Stmt} {b₀ : Stmt} {np pos pos' : Pos} {wb : SW} {wh : Addr → SW}
end
/-! ### a def that a slot holds -/
def wCallL (i : Nat) (S : Addr → FD → Prop) (wr : AW) : EW := fun ρ Q X => ∃ a g, ρ[i]? = some (some (.dat (.adr a))) ∧ S a g ∧ wCallD g wr ρ Q X
structure HeldD (P : Program) (w : World) (K : PySem.W.Frag) (mg : Str → Option Value) (base : Heap) (k n : Nat) (f : Addr) (g : FD) : Prop where
  ex : ∃ (fd : FuncData) (ps : List Str), FnOk P w K mg base (L2N.CX P w) k f fd ps (spD K n g) ∧ PySem.W.keepIn K (.ref f) = true ∧ Binds K fd ps []
  len : ∀ ds Qw Xw, g ds Qw Xw → ds.length = n
section
variable {X : Cx} {W : WX} {k n : Nat} {S : Addr → FD → Prop} {x : Str} {p pos : Pos} {e : Expr} {es : List Expr} {wr : AW}
open PySem.Spec PyProof.Rows in
end
/-! ### isinstance(e, C), isinstance(e, (C1, ..)), e the error that the suite holds -/
inductive ClsD : D → Value → Prop where
  | ty (n : String) : ClsD (.ty n) (.type n)
  | own (C : Addr) : ClsD (.adr C) (.ref C)
inductive ClsDs : List D → List Value → Prop where
  | nil : ClsDs [] []
  | cons {d : D} {ds : List D} {v : Value} {vs : List Value} (h : ClsD d v) (t : ClsDs ds vs) : ClsDs (d :: ds) (v :: vs)
theorem ClsD.clsV {K : PySem.W.Frag} {B H : Hp} {v : V} {d : D} {u : Value} (h : Ip K B H v d) (c : ClsD d u) : ClsV v u := by
  cases c with
  | ty n => cases h; exact .ty n
  | own C => cases h; exact .own C
theorem ClsDs.all {K : PySem.W.Frag} {B H : Hp} : ∀ {vs : List V} {ds : List D} {us ws : List Value}, IpAll K B H vs ds → ClsDs ds us → Vals vs ws → ws = us
  | _, _, _, _, .nil, .nil, .nil => rfl
  | _, _, _, _, .cons h t, .cons c cs, .cons r rs => by rw [(ClsD.clsV h c).eq r, ClsDs.all t cs rs]
def rIsET (K : PySem.W.Frag) (C a : Addr) : List V → Hp → VK → Prop := fun xs H Q => ∃ (tp : Addr) (cs : List V) (us : List Value) (b : Bool), xs = [.ref a, .ref tp] ∧ SqT K H tp cs ∧ (∀ ws, Vals cs ws → ws = us) ∧ PySem.W.kitAny K (.ref C) us = some b ∧ Q (.bl b) H
def gIsE (K : PySem.W.Frag) (C a : Addr) : GN
  | [.adr a', d], Q => a' = a ∧ ∃ u b, ClsD d u ∧ PySem.W.kitOne K (.ref C) u = some b ∧ Q (.dat (.bl b))
  | _, _ => False
def gIsET (K : PySem.W.Frag) (C a : Addr) : GN
  | [.adr a', .tup ds], Q => a' = a ∧ ∃ us b, ClsDs ds us ∧ PySem.W.kitAny K (.ref C) us = some b ∧ Q (.dat (.bl b))
  | _, _ => False
section
variable {K : PySem.W.Frag} {C a : Addr}
end
theorem ClsD.fun_ {d : D} {u v : Value} (h : ClsD d u) (h' : ClsD d v) : u = v := by
  cases h <;> cases h' <;> rfl
theorem ClsDs.fun_ : ∀ {ds : List D} {us vs : List Value}, ClsDs ds us → ClsDs ds vs → us = vs
  | _, _, _, .nil, .nil => rfl
  | _, _, _, .cons h t, .cons h' t' => by rw [h.fun_ h', t.fun_ t']
end DL

set_option Elab.async false
set_option linter.all false
set_option maxRecDepth 100000
set_option maxHeartbeats 4000000
/-! DLo: the head: facts by names, and others of one's own. -/
namespace DL
open PySem PySem.Spec PyProof.Rows L2
abbrev AlX : Type := Bool × He.AlD
def obsX (ex : PySem.W.Frag → Bool) (fa : List He.Fa) (fn : List He.DefD) (K : PySem.W.Frag) : AlX := (ex K, He.obsD fa fn K)
def obsXG (n : Nat) (ex : PySem.W.Frag → Bool) (fa : List He.Fa) (fn : List He.DefD) (g : Addr → Option Obj) : AlX := obsX ex fa fn (He.frG g (He.asD g n))
def hookX (n : Nat) (ex : PySem.W.Frag → Bool) (fa : List He.Fa) (fn : List He.DefD) : PySem.W.Hook where
  α := AlX
  obs := fun s => obsXG n ex fa fn s.heap.get?
  val := fun _ => (true, He.valD fn)
  says := fun _ h => ∃ K : PySem.W.Frag, K.In h ∧ (ex K = true ∧ He.SaysD fa fn K)
  of := fun _ _ e => ⟨_, He.frG_in, congrArg (fun z : AlX => z.1) e, congrArg (fun z : AlX => z.2) e⟩
  keeps := fun _ _ _ ⟨K, hK, c⟩ k => ⟨K, PySem.W.Frag.In.keeps hK k, c⟩
/-- a def whose promise lets nothing out -/
theorem FnOk_cx0 {P : Program} {w : World} {K : PySem.W.Frag} {mg : Str → Option Value} {base : Heap} {k : Nat} {f : Addr} {fd : FuncData} {ps : List Str} {sp : Sp} (F : FnOk P w K mg base (L2N.CX P w) k f fd ps sp) :
    FnOk P w K mg base CX0 k f fd ps (fun vs H Q _ => sp vs H Q fun _ _ _ => False) where
  len := fun vs H Q E h => F.len vs H Q _ h
  run := fun A outer s H args us vs Q E hr e0 hb hv h => by
    refine codeAny_mono (F.run A outer s H args us vs Q (fun _ _ _ => False) hr e0 hb hv h) fun r s' hq => ?_
    cases r with
    | error e =>
      obtain ⟨_, _, _, _, _, _, _, _, _, _, _, _, z⟩ := hq
      exact z.elim
    | ok fl => cases fl <;> exact hq
theorem ip_ints {K : PySem.W.Frag} {B H : Hp} : ∀ ns : List Int, IpAll K B H (ns.map V.int) (ns.map D.int)
  | [] => .nil
  | i :: ns => .cons (.int i) (ip_ints ns)
/-- the law's promise, at a list of ints -/
theorem law_at {K : PySem.W.Frag} {g : FD} (hg : ∀ (ns : List Int) (Q : Sl → Prop), Q (.dat (.bl true)) → g [.lst (ns.map D.int)] Q (fun _ => False)) (H : Hp) (a : Addr) (ns : List Int) (hS : SqL K H a (ns.map V.int)) :
    spD K 1 g [.ref a] H (fun v _ => v = .bl true) fun _ _ _ => False :=
  ⟨H, [.lst (ns.map D.int)], fun r => r = .dat (.bl true), fun _ => False, Same.refl _, .cons (.lst hS (ip_ints ns)) .nil, rfl, hg ns _ rfl, fun v r H' sm rr q => by
    subst q
    obtain ⟨F, _, _, z⟩ := rr
    have z : Ip K F H' v (.bl true) := z
    cases z; rfl, fun _ _ _ z => z⟩
def eB (a b : Option Bool) : Bool := decide (a = b)
theorem eB_ok {a b : Option Bool} (h : eB a b = true) : a = b := of_decide_eq_true h
/-- what isinstance asks of an own error class -/
def excB (K : PySem.W.Frag) (D : Addr) : Bool :=
  He.eqO (PySem.W.findIn K (.ref D) "__getattribute__") (some (some (.builtin "BaseException.__getattribute__"))) && (He.eqO (PySem.W.findIn K (.ref D) "__getattr__") (some none) && (eB (PySem.W.subIn K (.ref D) (.type "BaseException")) (some true) && (PySem.W.hasDictIn K D &&
    (He.eqO (PySem.W.findIn K (.ref D) "__class__") (some (some (.builtin "object.__class__"))) && (He.eqO (PySem.W.specialIn K (.builtin "object.__class__") "__get__") (some (some (.builtin "getset_descriptor.__get__"))) && (eB (PySem.W.takesIn K (.builtin "object.__class__")) (some true) && eB (PySem.W.mroIn K D (.type "object")) (some true)))))))
/-- a tuple of the module's -/
def tupB (K : PySem.W.Frag) (a : Addr) (vs : List V) : Bool := match K.lookup a with
  | some ⟨.type c, _, .seq its _, _⟩ => decide (c = "tuple") && (decide (its.size ≤ sizeLine) && He.relAll vs its.toList)
  | _ => false
end DL

set_option Elab.async false
set_option linter.all false
set_option maxRecDepth 100000
set_option maxHeartbeats 4000000
set_option checkBinderAnnotations false
/-! DLp: ranges downwards and with a step; the module's ints and texts. -/
namespace DL
open PySem L2
def rcD (lo c : Int) (n : Nat) : List D := (List.range n).map fun i => .int (lo + (i : Nat) * c)
/-- reversed(range(n)) -/
def wRevRg1 (we : EW) : IW := fun ρ Q X => we ρ (fun r ρ1 => match r with
  | .dat (.int j) => (-(2 ^ 62) ≤ j ∧ j < 2 ^ 62) ∧ Q (rcD ((j.toNat : Int) - 1) (-1) j.toNat) ρ1
  | _ => False) X
/-- range(i, j, c) -/
def wRg3 (wa wb wc : EW) : IW := fun ρ Q X => wa ρ (fun r ρ1 => wb ρ1 (fun r' ρ2 => wc ρ2 (fun r'' ρ3 => match r, r', r'' with
  | .dat (.int i), .dat (.int j), .dat (.int c) => ∃ n : Nat, RgC i j c n ∧ Q (rcD i c n) ρ3
  | _, _, _ => False) X) X) X
section
variable {X : Cx} {W : WX} {tg a b c e : Expr} {wa wb wc we : EW} {pos p pos2 p2 : Pos}
end
section
variable {ρ : En} {X : Value → En → Prop} {QI : List D → En → Prop}
@[simp ↓] theorem i_revRg1 {we : EW} : wRevRg1 we ρ QI X = we ρ (fun r ρ1 => match r with
  | .dat (.int j) => (-(2 ^ 62) ≤ j ∧ j < 2 ^ 62) ∧ QI (rcD ((j.toNat : Int) - 1) (-1) j.toNat) ρ1
  | _ => False) X := id rfl
@[simp ↓] theorem i_rg3 {wa wb wc : EW} : wRg3 wa wb wc ρ QI X = wa ρ (fun r ρ1 => wb ρ1 (fun r' ρ2 => wc ρ2 (fun r'' ρ3 => match r, r', r'' with
  | .dat (.int i), .dat (.int j), .dat (.int c) => ∃ n : Nat, RgC i j c n ∧ QI (rcD i c n) ρ3
  | _, _, _ => False) X) X) X := id rfl
end
end DL

set_option Elab.async false
set_option linter.all false
set_option maxRecDepth 100000
set_option maxHeartbeats 4000000
set_option checkBinderAnnotations false
/-! DLq: x // y of ints of any size. -/
namespace DL
open PySem PySem.Spec PyProof.Rows L2
theorem ns_of {K : PySem.W.Frag} {h : Heap} {a : Addr} {mg : Str → Option Value} {n : Str} {v : Value} (X : K.In h) (G : h.Ns a mg) (e : PySem.W.nsIn K a n = some (some v)) : mg n = some v := by
  obtain ⟨o, es, ep, ho, hd, _, hf⟩ := G
  unfold PySem.W.nsIn at e
  split at e
  · rename_i c d es' n' sl q
    have := X _ _ q
    rw [ho] at this
    cases this
    cases hd
    split at e
    · rename_i en he
      cases e
      rw [← hf]
      unfold nsFind findBy
      rw [← Array.find?_toList, he]
      rfl
    · split at e <;> cases e
  · cases e
theorem ns_none {K : PySem.W.Frag} {h : Heap} {a : Addr} {mg : Str → Option Value} {n : Str} (X : K.In h) (G : h.Ns a mg) (e : PySem.W.nsIn K a n = some none) : mg n = none := by
  obtain ⟨o, es, ep, ho, hd, _, hf⟩ := G
  unfold PySem.W.nsIn at e
  split at e
  · rename_i c d es' n' sl q
    have := X _ _ q
    rw [ho] at this
    cases this
    cases hd
    split at e
    · cases e
    · rename_i he
      rw [← hf]
      unfold nsFind findBy
      rw [← Array.find?_toList, he]
      rfl
  · cases e
/-- a dict whose keys are texts -/
def strK (e : DictEntry) : Bool := match e.key with
  | .str _ _ => true
  | _ => false
def nsB (K : PySem.W.Frag) (a : Addr) : Bool := match K.lookup a with
  | some ⟨_, _, .dict es _, _⟩ => es.toList.all strK
  | _ => false
theorem nsB_ok {K : PySem.W.Frag} {h : Heap} {a : Addr} (X : K.In h) (e : nsB K a = true) : ∃ m, h.Ns a m := by
  unfold nsB at e
  split at e
  · rename_i c d es n sl q
    refine ⟨nsFind es, _, es, n, X _ _ q, rfl, fun x hx => ?_, fun _ => rfl⟩
    have := List.all_eq_true.mp e x (by simpa using hx)
    unfold strK at this
    split at this
    · rename_i y t q; exact ⟨y, t, q⟩
    · cases this
  · cases e
def modB (K : PySem.W.Frag) (a : Addr) : Bool := match K.lookup a with
  | some ⟨.type c, some d, _, _⟩ => decide (c = "module") && decide (d = builtinsNs)
  | _ => false
theorem modB_ok {K : PySem.W.Frag} {h : Heap} {a : Addr} (X : K.In h) (e : modB K a = true) : ∃ ob, h.get? a = some ob ∧ ob.cls = .type "module" ∧ ob.dict = some builtinsNs := by
  unfold modB at e
  split at e
  · rename_i c d dt sl q
    obtain ⟨h1, h2⟩ := He.ba e
    exact ⟨_, X _ _ q, congrArg Value.type (of_decide_eq_true h1), congrArg some (of_decide_eq_true h2)⟩
  · cases e
/-- what a division that goes by _pylong looks at -/
def seerB (K : PySem.W.Frag) : Bool := He.eqO (PySem.W.nsIn K cStatics "sys.audit-hooks") (some none) && (He.eqO (PySem.W.nsIn K cStatics "sys.dict") (some none) && (nsB K sysModules && (He.eqO (PySem.W.nsIn K sysModules "_pylong") (some none) &&
  (He.eqO (PySem.W.nsIn K mainGlobals "__builtins__") (some (some (.ref (He.ga K "__builtins__")))) && modB K (He.ga K "__builtins__")))))
theorem seer_of {K : PySem.W.Frag} {mg : Str → Option Value} {base : Heap} (e : seerB K = true) (M : Mod K mg base) : base.NoSeer := by
  obtain ⟨h1, e⟩ := He.ba e
  obtain ⟨h2, e⟩ := He.ba e
  obtain ⟨h3, e⟩ := He.ba e
  obtain ⟨h4, e⟩ := He.ba e
  obtain ⟨h5, h6⟩ := He.ba e
  obtain ⟨mc, nc, _⟩ := M.nolimit
  obtain ⟨mm, nm⟩ := nsB_ok M.kin h3
  obtain ⟨ob, o1, o2, o3⟩ := modB_ok M.kin h6
  exact ⟨⟨mc, nc, ns_none M.kin nc (He.eqO_ok h1), ns_none M.kin nc (He.eqO_ok h2)⟩, ⟨mm, nm, ns_none M.kin nm (He.eqO_ok h4)⟩, M.blt, ⟨mg, _, ob, M.glob, ns_of M.kin M.glob (He.eqO_ok h5), o1, o2, o3⟩⟩
/-- the program brings no files -/
class PlP (P : Program) : Prop where
  ht : P.given.tree = none
def StkOk (X : Cx) : Prop := ∃ env l, X.stack = env :: l ∧ env.scope.isGenerator = false ∧ env.scope.isCoroutine = false ∧ env.builtins = builtinsNs ∧ env.globals = mainGlobals
theorem op_fdivP {X : Cx} (ip : PlP X.prog) (hr : Room 40 X.A) (hs : StkOk X) (sr : seerB X.K = true) : OpR X (binaryOp .FloorDiv) (rI (fun _ j => j ≠ 0) fun i j => .int (i.fdiv j)) := by
  intro pins s σ H x y v u Q I rx ry h
  obtain ⟨i, j, rfl, rfl, hc, q⟩ := h
  obtain ⟨t, rfl⟩ := rx
  obtain ⟨t', rfl⟩ := ry
  obtain ⟨env, l, e1, e2, e3, e4, e5⟩ := hs
  have hp : PylongRoom (model X.prog X.w) X.A s := PylongRoom.of I.nolimit (by have := hr.dp; show X.A.depth + 100 < _; omega) (SeerAt.of ((seer_of sr I.mod).keeps I.bk) ip.ht (I.ok.frames.trans (congrArg some e1)) e2 e3 e4 e5)
  exact floordiv_int hc ⟨.int (i.fdiv j), H, I.tok _, ⟨_, rfl⟩, q⟩ (.inr hp)
def gDivP : G2
  | .int i, .int j, Q => j ≠ 0 ∧ Q (.dat (.int (i.fdiv j)))
  | _, _, _ => False
theorem ops_divP {K : PySem.W.Frag} : OpS K (rI (fun _ j => j ≠ 0) fun i j => .int (i.fdiv j)) gDivP := by
  intro B H x y d e Qw Q sub hx hy g p
  match d, e, g with
  | .int i, .int j, g =>
    cases hx; cases hy
    exact ⟨i, j, rfl, rfl, g.1, p.int g.2⟩
@[simp ↓] theorem g_divP {i j : Int} {Q : Sl → Prop} : gDivP (.int i) (.int j) Q = (j ≠ 0 ∧ Q (.dat (.int (i.fdiv j)))) := id rfl
/-! ### the head -/
def bmG (g : Addr → Option Obj) : List Addr := match g mainGlobals with
  | some ⟨_, _, .dict es _, _⟩ => es.toList.filterMap fun e => if e.key.isStr "__builtins__" then (match e.val with | .ref a => some a | _ => none) else none
  | _ => []
def asY (g : Addr → Option Obj) (n : Nat) : List Addr := He.asD g n ++ (cStatics :: sysModules :: bmG g)
def obsYG (n : Nat) (ex : PySem.W.Frag → Bool) (fa : List He.Fa) (fn : List He.DefD) (g : Addr → Option Obj) : AlX := obsX ex fa fn (He.frG g (asY g n))
def hookY (n : Nat) (ex : PySem.W.Frag → Bool) (fa : List He.Fa) (fn : List He.DefD) : PySem.W.Hook where
  α := AlX
  obs := fun s => obsYG n ex fa fn s.heap.get?
  val := fun _ => (true, He.valD fn)
  says := fun _ h => ∃ K : PySem.W.Frag, K.In h ∧ (ex K = true ∧ He.SaysD fa fn K)
  of := fun _ _ e => ⟨_, He.frG_in, congrArg (fun z : AlX => z.1) e, congrArg (fun z : AlX => z.2) e⟩
  keeps := fun _ _ _ ⟨K, hK, c⟩ k => ⟨K, PySem.W.Frag.In.keeps hK k, c⟩
theorem obsYG_eq {n : Nat} {ex : PySem.W.Frag → Bool} {fa : List He.Fa} {fn : List He.DefD} {g : Addr → Option Obj} {s : Shared} (h : ∀ a, g a = s.heap.get? a) : obsYG n ex fa fn g = (hookY n ex fa fn).obs s := by
  have e : g = s.heap.get? := funext h
  rw [e] <;> rfl
end DL

set_option Elab.async false
set_option linter.all false
set_option maxRecDepth 100000
set_option maxHeartbeats 4000000
set_option checkBinderAnnotations false
/-! DLr: own classes: fields, methods, making an instance. -/
namespace DL
open PySem L2
theorem ip_lookup {K : PySem.W.Frag} {B H : Hp} {f : Str} : ∀ {ns : List Str} {xs : List V} {ds : List D} {d : D}, IpAll K B H xs ds → (ns.zip ds).lookup f = some d → ∃ v, (ns.zip xs).lookup f = some v ∧ Ip K B H v d
  | [], _, _, _, _, e => by simp at e
  | n :: ns, _, _, _, .nil, e => by simp at e
  | n :: ns, _, _, d, .cons h t, e => by
    simp only [List.zip_cons_cons, List.lookup_cons] at e ⊢
    by_cases c : (f == n) = true
    · rw [c] at e ⊢
      cases e
      exact ⟨_, rfl, h⟩
    · have c : (f == n) = false := by simpa using c
      rw [c] at e ⊢
      exact ip_lookup t e
theorem ip_lookup_none {K : PySem.W.Frag} {B H : Hp} {f : Str} : ∀ {ns : List Str} {xs : List V} {ds : List D}, IpAll K B H xs ds → (ns.zip ds).lookup f = none → (ns.zip xs).lookup f = none
  | [], _, _, _, e => by simp
  | n :: ns, _, _, .nil, e => by simp
  | n :: ns, _, _, .cons h t, e => by
    simp only [List.zip_cons_cons, List.lookup_cons] at e ⊢
    by_cases c : (f == n) = true
    · rw [c] at e; cases e
    · have c : (f == n) = false := by simpa using c
      rw [c] at e ⊢
      exact ip_lookup_none t e
/-! ### e.f -/
def wFld (C : Addr) (f : Str) (we : EW) : EW := fun ρ Q X => we ρ (fun r ρ1 => match r with
  | .dat (.obj C' ns ds) => C' = C ∧ withOp ((ns.zip ds).lookup f) fun d => Q (.dat d) ρ1
  | _ => False) X
section
variable {X : Cx} {W : WX} {C : Addr} {f : Str} {e : Expr} {we : EW} {pos : Pos}
theorem de_fld (c : Cls X.K C) (n : NoAttr X.K C f) (he : DE X W e we) (hb : attributeBase e f X.env (eval e X.env) = eval e X.env := by rfl) : DE X W (.Attribute e f pos) (wFld C f we) := by
  obtain ⟨t, p, s⟩ := he.ok
  refine ⟨_, pe_fld p hb, fun B σ ρ H Qw Xw Q sr h hx q => ?_⟩
  refine s B σ ρ H _ Xw _ sr h hx fun v r B1 ρ1 H1 s1 t1 rv1 q1 => ?_
  cases r with
  | dat d =>
    cases d with
    | obj C' ns ds =>
      obtain ⟨rfl, q1⟩ := q1
      obtain ⟨d, ed, q1⟩ := withOp_some q1
      cases rv1 with
      | obj hh hl ia =>
        obtain ⟨v, hv, iv⟩ := ip_lookup ia ed
        exact ⟨_, _, _, _, v, rfl, hh, c, n, hv, q v (.dat d) B1 ρ1 H1 s1 t1 iv q1⟩
    | _ => exact q1.elim
  | _ => exact q1.elim
end
/-! ### o.m(..) -/
def wMeth (C : Addr) (m : Str) (g : FD) (wo : EW) (wa : AW) : EW := fun ρ Q X => wo ρ (fun r ρ1 => match r with
  | .dat (.obj C' ns ds) => (C' = C ∧ (ns.zip ds).lookup m = none) ∧ wa ρ1 (fun rs ρ2 => withCs ρ2 rs fun es => g (.obj C' ns ds :: es) (fun r => Q r ρ2) (fun c => X c ρ2)) X
  | _ => False) X
/-- .. with the errors let out -/
def tMethS (C : Addr) (m : Str) (sp : Sp) (E : St → XK) (ta : TE) (t : TA) : TE := fun σ H Q => ta σ H fun x H1 => ∃ a dx fs, x = .ref a ∧ H1 a = some (.ins C dx fs) ∧ fs.lookup m = none ∧ t σ H1 fun vs H2 => sp (x :: vs) H2 Q (E σ)
theorem sim_meth {K : PySem.W.Frag} {W : WX} {C : Addr} {m : Str} {n : Nat} {g : FD} {ta : TE} {wo : EW} {tr : TA} {wa : AW} (ho : SimE K W ta wo) (ha : SimA K W tr wa) (hf : ∀ ds Qw Xw, g ds Qw Xw → ds.length = n) : SimE K W (tMethS C m (spD K n g) (WE W) ta tr) (wMeth C m g wo wa) := by
  intro B σ ρ H Qw Xw Q s h hx q
  refine ho B σ ρ H _ Xw _ s h hx fun v r B1 ρ1 H1 s1 t1 rv1 q1 => ?_
  cases r with
  | dat d =>
    cases d with
    | obj C' ns ds =>
      obtain ⟨⟨rfl, hm⟩, q1⟩ := q1
      cases rv1 with
      | @obj a _ dx _ xs _ hh hl ia =>
        refine ⟨a, dx, _, rfl, hh, ip_lookup_none ia hm, ?_⟩
        refine ha B1 σ ρ1 H1 _ Xw _ s1 q1 (hx.lift s1 t1) fun vs rs B2 ρ2 H2 s2 t2 rv2 q2 => ?_
        obtain ⟨es, e1, q2⟩ := withCs_some q2
        have i0 : Ip K H2 H2 (.ref a) (.obj C' ns ds) := (Ip.obj hh hl ia : Ip K B1 H1 _ _).step s1 t2 |>.mono s2.sub (Tups.of (Same.refl _))
        refine ⟨H2, .obj C' ns ds :: es, _, _, Same.refl _, .cons i0 (IpAll.full s2.sub (rv2.rd s2 e1)), hf _ _ _ q2, q2, fun v r H' sm rr qq => ?_, fun c H' sm xx => ?_⟩
        · obtain ⟨B', s', t', rv⟩ := after_call s2 (s2.same sm) (Tr.same sm) rr
          exact q v r B' ρ2 H' s' (t1.trans s1 (t2.trans s2 t')) ((rv.early s2 t2).early s1 t1) qq
        · exact hx c B2 ρ2 H' (s2.same sm) (t1.trans s1 (t2.trans s2 (Tr.same sm))) xx
    | _ => exact q1.elim
  | _ => exact q1.elim
section
variable {X : Cx} {W : WX} {C f : Addr} {m : Str} {n k : Nat} {g : FD} {fd : FuncData} {ps : List Str} {o e : Expr} {es : List Expr} {wo : EW} {wa : AW} {pos apos : Pos} {pl : Sem Bool}
theorem de_meth0 (c : Cls X.K C) (hm : Meth X.K C m f) (F : FnOk X.prog X.w X.K X.mg X.base (L2N.CX X.prog X.w) k f fd ps (spD X.K n g)) (hr : Room k X.A) (hb : Binds X.K fd ps []) (tk : L2N.Takes X W) (hf : ∀ ds Qw Xw, g ds Qw Xw → ds.length = n) (ho : DE X W o wo)
    (ht : eval (.Call (.Attribute o m apos) [] [] pos) X.env = (do
      let ov ← eval o X.env
      standAt apos.atName
      let (f, first) ← holding [ov] (getMethod ov m pl)
      callWith pos f first (backTo pos (starEach [] X.env)) (backToKw pos (keywordEach [] X.env))) := by rfl) : DE X W (.Call (.Attribute o m apos) [] [] pos) (wMeth C m g wo wNil) := by
  obtain ⟨t1, p1, s1⟩ := ho.ok
  refine ⟨_, ⟨fun pins s σ H Q I h => ?_⟩, sim_meth s1 sim_nil hf⟩
  refine PySem.W.methodCall_KW (pl := pl) (thn (p1.run pins s σ H _ I h) fun u s1 ⟨x, H1, I1, rx, a, dx, fs, ex, ea, l, q⟩ => ?_) ht
  cases ex
  have eu : u = Value.ref a := rx
  cases eu
  exact getmeth_ok I1 ea c hm l (PySem.W.callWith_K0 (first := [.ref a]) I1.kIn hm.kp (run_fnS (us := [.ref a]) (vs := [.ref a]) F hr hb (L2N.passAt tk σ) I1 (.cons rfl .nil) q))
end
/-! ### C(..) -/
abbrev FC := List D → (List D → Prop) → (Value → Prop) → Prop
/-- __init__ fills the fields ns, in order, with data that changes no more -/
def spC (K : PySem.W.Frag) (C : Addr) (ns : List Str) (n : Nat) (f : FC) : Sp := fun vs H Q E => ∃ (x dx : Addr) (vs' : List V) (B : Hp) (ds : List D) (Qw : List D → Prop) (Xw : Value → Prop), vs = .ref x :: vs' ∧ (H x = some (.ins C dx []) ∧ Same B H ∧ B x = none) ∧ IpAll K B H vs' ds ∧ ds.length + 1 = n ∧ f ds Qw Xw ∧
  (∀ fds xs H', (∀ b o, H b = some o → b ≠ x → H' b = some o) → H' x = some (.ins C dx (ns.zip xs)) → ns.length = xs.length → IpAll K H00 H' xs fds → D.nolists fds = true → Qw fds → Q .non H') ∧
  (∀ c H', (∀ b o, H b = some o → b ≠ x → H' b = some o) → Xw c → E c none H')
def wMake (C : Addr) (ns : List Str) (f : FC) (wa : AW) : EW := fun ρ Q X => wa ρ (fun rs ρ1 => withCs ρ1 rs fun ds => f ds (fun fds => Q (.dat (.obj C ns fds)) ρ1) (fun c => X c ρ1)) X
def tMakeS (C : Addr) (sp : Sp) (E : St → XK) (t : TA) : TE := fun σ H Q => t σ H fun vs H1 => ∀ x dx, H1 x = none → H1 dx = none → dx ≠ x → sp (.ref x :: vs) (upd (upd H1 dx (.own x)) x (.ins C dx [])) (fun v H2 => v = .non ∧ Q (.ref x) H2) (E σ)
theorem sim_make {K : PySem.W.Frag} {W : WX} {C : Addr} {ns : List Str} {n : Nat} {f : FC} {ta : TA} {wa : AW} (ha : SimA K W ta wa) (hf : ∀ ds Qw Xw, f ds Qw Xw → ds.length + 1 = n) : SimE K W (tMakeS C (spC K C ns n f) (WE W) ta) (wMake C ns f wa) := by
  intro B σ ρ H Qw Xw Q s h hx q
  refine ha B σ ρ H _ Xw _ s h hx fun vs rs B1 ρ1 H1 s1 t1 rv1 q1 => ?_
  obtain ⟨ds, e1, q1⟩ := withCs_some q1
  intro x dx hx0 hd0 hne
  have sm : Same H1 (upd (upd H1 dx (.own x)) x (.ins C dx [])) := fun b o e => by
    rw [upd_ne (ne_of_none e hx0), upd_ne (ne_of_none e hd0)]; exact e
  have keep : ∀ H' : Hp, (∀ b o, (upd (upd H1 dx (.own x)) x (.ins C dx [])) b = some o → b ≠ x → H' b = some o) → Same H1 H' := fun H' ext b o e => ext b o (sm b o e) (ne_of_none e hx0)
  refine ⟨x, dx, vs, H1, ds, _, _, rfl, ⟨upd_same, sm, hx0⟩, (IpAll.full s1.sub (rv1.rd s1 e1)).mono (Same.refl _) (Tups.of sm), hf _ _ _ q1, q1, fun fds xs H' ext hi hl ia nl qq => ⟨rfl, ?_⟩, fun c H' ext xx => ?_⟩
  · exact q (.ref x) (.dat (.obj C ns fds)) B1 ρ1 H' (s1.same (keep H' ext)) (t1.trans s1 (Tr.same (keep H' ext))) (.obj hi hl (ia.mono same00 (Tups.of (Same.refl _)))) qq
  · exact hx c B1 ρ1 H' (s1.same (keep H' ext)) (t1.trans s1 (Tr.same (keep H' ext))) xx
section
variable {X : Cx} {W : WX} {C f : Addr} {ns : List Str} {n k : Nat} {g : FC} {fd : FuncData} {ps : List Str} {x : Str} {e : Expr} {es : List Expr} {wa : AW} {pos p : Pos}
open PySem.Spec PyProof.Rows in
theorem de_make (M : Mk X.K C f) (F : FnOk X.prog X.w X.K X.mg X.base (L2N.CX X.prog X.w) k f fd ps (spC X.K C ns n g)) (hr : Room (k + 1) X.A) (hg : Gl X x) (hm : X.mg x = some (.ref C)) (hb : Binds X.K fd ps []) (tk : L2N.Takes X W) (hf : ∀ ds Qw Xw, g ds Qw Xw → ds.length + 1 = n) (ha : DA X W (e :: es) wa)
    (hdb : (x == ("__debug__" : Str)) = false := by decide) (he : starEach (e :: es) X.env = (false, eval e X.env) :: starEach es X.env := by rfl) (hpl : (backTo pos (starEach es X.env)).any (·.1) = false := by rfl) : DE X W (.Call (.Name x p) (e :: es) [] pos) (wMake C ns g wa) := by
  obtain ⟨t, pa, sa⟩ := ha.ok
  refine ⟨_, ⟨fun pins s σ H Q I h => ?_⟩, sim_make sa hf⟩
  refine wpAny_Call_Name_kw (ld_glob I hg hm (PySem.W.callWith_K (h₀ := X.base) I.ok.mod.kin M.kp (thn (pa.run pos pins s σ H _ I h) fun us s1 ⟨vs, H1, J, r, q⟩ => ⟨J.kIn, ?_⟩) he hpl) hdb)
  have hx := L2N.passAt tk σ
  have q := q (s1.heap.objs.size + 1) s1.heap.objs.size (J.hok.fresh (Nat.le_succ _)) (J.hok.fresh (Nat.le_refl _)) (Nat.ne_of_lt (Nat.lt_succ_self _))
  have J2 := Inv.made (C := C) J
  have rr : Vals (V.ref (s1.heap.objs.size + 1) :: vs) (Value.ref (s1.heap.objs.size + 1) :: us) := .cons rfl r
  have hl : (Value.ref (s1.heap.objs.size + 1) :: us ++ ([] : List Value)).length = ps.length := by
    have e := rr.length
    rw [F.len _ _ _ _ q] at e
    simp only [List.append_nil]
    exact e.symm
  have hb2 := hb _ (Value.ref (s1.heap.objs.size + 1) :: us) J2.kIn hl
  rw [List.append_nil] at hb2
  refine wpAny_call (make_map (f := f) J.kIn M.makes M.init (beq_iff_eq.mp M.fn) (codeAny_mono (F.run _ X.stack _ _ ⟨Value.ref (s1.heap.objs.size + 1) :: us, []⟩ _ _ _ _ (hr.make C us []) (J2.env0.make C us []) hb2 rr q) fun ro s' hq' => ?_))
  cases ro with
  | error e => exact hx pins _ _ e s' J2 hq'
  | ok fl =>
    cases fl with
    | ret u =>
      obtain ⟨v, H', J3, rv, ev, q3⟩ := J2.after hq'
      cases ev
      exact ⟨rv, ⟨V.ref (s1.heap.objs.size + 1), H', J3, rfl, q3⟩⟩
    | _ => exact False.elim hq'
end
end DL

set_option Elab.async false
set_option linter.all false
set_option maxRecDepth 100000
set_option maxHeartbeats 4000000
/-! DLs: sorted(x) of any number: ints, tuples of ints; of a list, a tuple, a dict's keys, a dict's values. -/
namespace DLSort
open PySem PySem.Spec PyProof.Rows SrtO
section
variable {prog : Program} {w : World} {A : Around} {E : Value → Shared → Prop} {s : Shared}
/-- x is collected as vs -/
def Col (prog : Program) (w : World) (A : Around) (E : Value → Shared → Prop) (s : Shared) (x : Value) (vs : List Value) : Prop :=
  ∀ R : List Value → Shared → Prop, (∀ (h' : Heap) (tk : Nat), (∀ b o, s.heap.get? b = some o → h'.get? b = some o) → s.heap.objs.size < h'.objs.size → R vs { s with heap := h', toks := tk }) → wpAny (model prog w) A (collect x) R E s
theorem col_list {l : Addr} {vs : List Value} (hl : s.heap.IsList l vs.toArray) (hz : vs.length ≤ sizeLine) : Col prog w A E s (.ref l) vs := by
  intro R h
  refine collect_list hl (h _ s.toks (fun b o q => ?_) ?_) hz
  · have hlt : b < s.heap.objs.size := Heap.lt_size q
    rw [Heap.get?_update_ne _ _ _ _ (Nat.ne_of_lt hlt)]
    exact Heap.get?_push_of_some _ q
  · rw [Heap.size_update, size_push']; exact Nat.lt_succ_self _
theorem col_tuple {l : Addr} {vs : List Value} (hl : PyProof.Rows.IsTup s.heap l vs.toArray) (hsz : vs.length ≤ sizeLine) : Col prog w A E s (.ref l) vs := by
  intro R h
  obtain ⟨o, ho, hc, n, hd⟩ := id hl
  have fin : R vs { s with heap := (s.heap.push (seqObj "list" #[] 0)).update s.heap.objs.size (Obj.mapSeq (· ++ vs.toArray)) } := by
    refine h _ s.toks (fun b o q => ?_) ?_
    · have hlt : b < s.heap.objs.size := Heap.lt_size q
      rw [Heap.get?_update_ne _ _ _ _ (Nat.ne_of_lt hlt)]
      exact Heap.get?_push_of_some _ q
    · rw [Heap.size_update, size_push']; exact Nat.lt_succ_self _
  unfold collect
  refine wpAny_bind (wpAny_runValue (codeAny_builtin entry_proto_collect' ?_))
  show wpAny _ _ (do again (.builtin "list.__iadd__" ⟨[← newList [], .ref l], []⟩)) _ _ s
  refine wpAny_bind (wpAny_newList (wpAny_pure ⟨Code.quiet_builtin _ (by decide +kernel), codeAny_builtin entry_list_iadd' ?_⟩))
  show wpAny _ _ (Builtin.List.listExtendWith (.ref s.heap.objs.size) (.ref l) (.ref s.heap.objs.size)) _ _ { s with heap := s.heap.push (seqObj "list" #[] 0) }
  unfold Builtin.List.listExtendWith
  have ho' : (s.heap.push (seqObj "list" #[] 0)).get? l = some o := Heap.get?_push_of_some _ ho
  refine wpAny_bind (wpAny_typeOf (T := "tuple") ⟨o, ho', hc⟩ ?_)
  have ht : (Value.type "tuple" == Value.type "tuple") = true := by rfl
  rw [if_pos (by rw [ht]; simp)]
  refine wpAny_bind (listItems_at ho' hd ?_)
  refine wpAny_bind (listItems_at (xs := #[]) (n := 0) (Heap.get?_push_size _ rfl) rfl ?_)
  rw [if_neg (by simp)]
  refine wpAny_bind (listUpdate_at (xs := #[]) (n := 0) (Heap.get?_push_size _ rfl) rfl ?_ (Nat.zero_le _) (by show (#[] ++ vs.toArray).size ≤ sizeLine + 1; simp only [Array.size_append, List.size_toArray, List.length_nil]; omega))
  refine wpAny_pure ?_
  show wpAny (model prog w) A (do
      let o ← load s.heap.objs.size
      match o.data with
      | .seq xs _ => pure xs.toList
      | _ => unsupported "internal:collect") R E { s with heap := (s.heap.push (seqObj "list" #[] 0)).update s.heap.objs.size (Obj.mapSeq (· ++ vs.toArray)) }
  refine wpAny_bind (wpAny_load (get?_update_seq (Heap.get?_push_size _ rfl) _) ?_)
  show wpAny _ _ (pure ((#[] : Array Value) ++ vs.toArray).toList) R E _
  rw [show ((#[] : Array Value) ++ vs.toArray).toList = vs by simp]
  exact wpAny_pure fin
theorem col_kdl {T : String} {r d : Addr} {n : Nat} {P : Nat → Value → Prop} {OK : Heap → Prop} {vs : List Value} (K : PySem.W.KdlSrc prog w T r d n P OK) (hh : A.handled = none) (hok : OK s.heap) (hn : n ≤ sizeLine)
    (huniq : ∀ acc : Array Value, ItemsOf P acc n → acc.toList = vs) : Col prog w A E s (.ref r) vs := by
  intro R h
  unfold collect
  refine wpAny_bind (wpAny_runValue (codeAny_builtin F.entry_proto_collect ?_))
  rw [Around.under_plainId F.plain_proto_collect _]
  show wpAny _ A.in1 (newList [] >>= fun l => again (.builtin "list.__iadd__" ⟨[l, .ref r], []⟩)) _ _ s
  refine wpAny_bind (wpAny_newObj_type ?_)
  refine wpAny_pure ⟨plainId_quiet F.plain_list_iadd _, codeAny_builtin F.entry_list_iadd ?_⟩
  rw [Around.under_plainId F.plain_list_iadd _]
  show wpAny _ A.in1 (Builtin.List.listExtendWith (.ref s.heap.objs.size) (.ref r) (.ref s.heap.objs.size)) _ _ _
  have hS : (s.heap.push { cls := .type "list", data := .seq ([] : List Value).toArray }).get? s.heap.objs.size = some { cls := .type "list", data := .seq #[] 0 } := Heap.get?_push_size _ rfl
  have hlt := K.there _ hok
  refine wpAny_mono (PySem.W.kdl_extend (A := A) (R := fun rr s' => rr = .ok (.ret (.ref s.heap.objs.size)) ∧ ∃ (h' : Heap) (tk : Nat) (acc : Array Value) (c' : Nat), s' = { s with heap := h', toks := tk } ∧
      (∀ b o, s.heap.get? b = some o → h'.get? b = some o) ∧ h'.get? s.heap.objs.size = some { cls := .type "list", dict := none, data := .seq acc c', slots := #[] } ∧ ItemsOf P acc n)
    (s := { s with heap := s.heap.push { cls := .type "list", data := .seq ([] : List Value).toArray } }) K hh (K.keep _ _ hok fun b _ o e => Heap.get?_push_of_some _ e) s.heap.objs.size (Nat.ne_of_gt hlt.1) (Nat.ne_of_gt hlt.2) _ 0 hS
    (fun h' tk acc c' hk e hi => ⟨rfl, h', tk, acc, c', rfl, fun b o q => hk b o (Nat.ne_of_lt (Heap.lt_size q)) (Heap.get?_push_of_some _ q), e, hi⟩) hn) (fun fin s' h1 => ?_) (fun e s' h1 => ?_)
  · cases fin with
    | done f =>
      obtain ⟨e, h', tk, acc, c', rfl, hk, hS', hi⟩ := h1
      cases e
      show wpAny _ A (load s.heap.objs.size >>= _) _ _ _
      refine wpAny_bind (wpAny_load hS' (wpAny_pure ?_))
      rw [huniq acc hi]
      exact h h' tk hk (Heap.lt_size hS')
    | again c' =>
      refine ⟨h1.1, codeAny_mono h1.2 fun rr s'' hr' => ?_⟩
      obtain ⟨rfl, h', tk, acc, c', rfl, hk, hS', hi⟩ := hr'
      show wpAny _ A (load s.heap.objs.size >>= _) _ _ _
      refine wpAny_bind (wpAny_load hS' (wpAny_pure ?_))
      rw [huniq acc hi]
      exact h h' tk hk (Heap.lt_size hS')
  · exact absurd h1.1 (by simp)
/-- sorted(x) -/
theorem sorted_gen {x : Value} {vs : List Value} {ltv : Value → Value → Bool} {Q : Value → Shared → Prop} (O : Swo ltv) (hz : vs.length ≤ sizeLine) (hcol : Col prog w A.in1 E s x vs)
    (hS : 2 ≤ vs.length → ∀ (h₁ : Heap) (tk : Nat) (a : Addr), h₁.get? a = some (seqObj "list" vs.toArray 0) → (∀ b o, s.heap.get? b = some o → b ≠ a ∧ h₁.get? b = some o) → SortableO prog w A.in1.in1 { s with heap := h₁, toks := tk } a vs ltv)
    (h : ∀ (h' : Heap) (tk : Nat) (d : Addr) (out : List Value), Srtd ltv out → Stb ltv out vs → (∀ b o, s.heap.get? b = some o → h'.get? b = some o) → s.heap.objs.size ≤ d → (∃ n, h'.get? d = some (seqObj "list" out.toArray n)) → Q (.ref d) { s with heap := h', toks := tk }) :
    wpAny (model prog w) A (call (.builtin "sorted") [x]) Q E s := by
  refine Calls.call_function_entry kind_sorted plain_sorted entry_sorted (args_sorted1 _) ?_
  unfold Builtin.«sorted»
  refine wpAny_bind (m := checkCount "sorted" 1 1 _) (wpAny_pure ?_)
  refine wpAny_bind (hcol _ fun h' tk keep0 hlt0 => ?_)
  refine wpAny_bind (wpAny_newList ?_ hz)
  have hoL : (h'.push (seqObj "list" vs.toArray 0)).get? h'.objs.size = some (seqObj "list" vs.toArray 0) := Heap.get?_push_size _ rfl
  have keep : ∀ b o, s.heap.get? b = some o → b ≠ h'.objs.size ∧ (h'.push (seqObj "list" vs.toArray 0)).get? b = some o := fun b o q =>
    ⟨Nat.ne_of_lt (Heap.lt_size (keep0 b o q)), Heap.get?_push_of_some _ (keep0 b o q)⟩
  show wpAny _ _ _ _ _ { s with heap := h'.push (seqObj "list" vs.toArray 0), toks := tk }
  refine wpAny_bind (wpAny_holding (wpAny_call_entry slot_list_sort ⟨_, hoL, rfl⟩ entry_list_sort (list_sort_ord (s := { s with heap := h'.push (seqObj "list" vs.toArray 0), toks := tk }) O hoL hz (fun h2 => hS h2 _ _ _ hoL keep) fun out hs hb => ⟨_, rfl, ?_⟩) (args_list_sort _)))
  refine wpAny_pure ⟨_, rfl, ?_⟩
  obtain ⟨n, hn⟩ := sortedHeap_at (n := 0) (out := out.toArray) hoL
  refine h _ tk _ out hs hb (fun b o q => ?_) (Nat.le_of_lt hlt0) ⟨n, hn⟩
  have k := keep b o q
  rw [sortedHeap_old k.1 (Heap.lt_size k.2)]
  exact k.2
end
end DLSort

set_option Elab.async false
set_option linter.all false
set_option maxRecDepth 100000
set_option maxHeartbeats 4000000
/-! DLt: sorted(x), as rules. -/
namespace DLSort
open PySem PySem.Spec PyProof.Rows SrtO
theorem swo_rank (r : Value → Int) : Swo fun v u => decide (r v < r u) :=
  ⟨fun x y h => decide_eq_false (by have := of_decide_eq_true h; omega), fun x y z h1 h2 => decide_eq_false (by have := of_decide_eq_false h1; have := of_decide_eq_false h2; omega)⟩
section
variable {prog : Program} {w : World} {A : Around} {E : Value → Shared → Prop} {s : Shared}
theorem tups_sortable {a : Addr} {vs : List Value} {d : Nat} {B : Int} (hd : 1 ≤ d) (h2 : 2 ≤ vs.length) (x : TS.TupsOk s.heap d B vs) (ha : ∀ o, s.heap.get? a = some o → o.cls ≠ .type "tuple") (r : Value → Int) (hr : ∀ v ∈ vs, ∀ ns, TS.TupInts s.heap v ns → r v = TS.code B ns) :
    SortableO prog w A s a vs fun v u => decide (r v < r u) := by
  intro h' keep
  have kp : ∀ b o, s.heap.get? b = some o → o.cls = .type "tuple" → h'.get? b = some o := fun b o e c => keep b o (fun z => by subst z; exact ha o e c) e
  have x' : TS.TupsOk h' d B vs := x.keeps kp
  have hr' : ∀ v ∈ vs, ∀ ns, TS.TupInts h' v ns → r v = TS.code B ns := fun v hv ns t => by
    obtain ⟨ns0, t0, _⟩ := x v hv
    have e : ns = ns0 := t.ints.symm.trans (t0.keeps kp).ints
    rw [e]; exact hr v hv ns0 t0
  obtain ⟨fs, k, hl, hi⟩ := TS.firsts_of hd vs x'
  refine ⟨tuples' true, fun Q E hq => ?_, fun p q hp hq => ?_⟩
  · refine PySem.W.kat_kind (T := Value.type "int") k (by omega) (fun f hf => ?_) rfl ?_
    · obtain ⟨n, t, rfl⟩ := hi f hf
      exact PySem.W.Looks.of_pure rfl
    · have e : (Value.type "int" != Value.type "tuple") = true := by first | decide +kernel | rfl | decide
      rw [e]
      exact hq
  · obtain ⟨ns, tp, lp, bp⟩ := x' _ hp
    obtain ⟨ms, tq, lq, bq⟩ := x' _ hq
    have ep := hr' _ hp _ tp
    have eq2 := hr' _ hq _ tq
    show wpAny (model prog w) A (keyLt' (tuples' true) p.1 q.1) (fun b s' => s' = { s with heap := h' } ∧ b = decide (r p.1 < r q.1)) (fun _ _ => False) { s with heap := h' }
    rw [ep, eq2]
    obtain ⟨a, xs, e1, ⟨o, ho, hc, n, hdt⟩, i⟩ := tp
    obtain ⟨a', ys, e2, ⟨o', ho', hc', n', hdt'⟩, i'⟩ := tq
    rw [e1, e2]
    refine PySem.W.kat_lt (s := { s with heap := h' }) ho hdt ho' hdt' ?_
    have sz : decide (xs.size < ys.size) = false := by
      have l1 := i.length
      have l2 := i'.length
      rw [Array.length_toList] at l1 l2
      exact decide_eq_false (by omega)
    rw [sz]
    exact TS.lex_ints 0 i i' (by omega) bp bq ⟨rfl, rfl⟩
end
end DLSort

namespace L2
open PySem PySem.Spec PyProof.Rows DLSort
section
variable {X : Cx}
/-- a list or a tuple is collected -/
theorem col_seq {pins : List (Addr × Obj)} {s : Shared} {σ : St} {H : Hp} {a : Addr} {xs : List V} {A : Around} {E : Value → Shared → Prop} (I : Inv X pins σ H s) (h : SqL X.K H a xs ∨ SqT X.K H a xs) :
    ∃ its : List Value, Vals xs its ∧ its.length ≤ sizeLine ∧ Col X.prog X.w A E s (.ref a) its := by
  rcases h with h | h
  · obtain ⟨its, rv, hl, hz⟩ := I.list h
    have hz' : its.length ≤ sizeLine := by rw [← rv.length]; exact hz
    exact ⟨its, rv, hz', col_list hl.isList hz'⟩
  · obtain ⟨its, rv, hl, hz⟩ := I.tuple h
    have hz' : its.length ≤ sizeLine := by rw [← rv.length]; exact hz
    exact ⟨its, rv, hz', col_tuple hl hz'⟩
/-- sorted(x): ints -/
def rSrtI (K : PySem.W.Frag) : List V → Hp → VK → Prop := fun vs H Q => ∃ (a : Addr) (ns : List Int), vs = [V.ref a] ∧ (SqL K H a (ns.map V.int) ∨ SqT K H a (ns.map V.int)) ∧
  ∀ (ns' : List Int) (p : Addr), ns'.Perm ns → ns'.Pairwise (· ≤ ·) → H p = none → Q (.ref p) (upd H p (.lst (ns'.map V.int)))
theorem srtI_run {pins : List (Addr × Obj)} {s : Shared} {σ : St} {H : Hp} {x : Value} {ns : List Int} {its : List Value} {Q : VK} (I : Inv X pins σ H s) (rv : Vals (ns.map V.int) its) (hz : its.length ≤ sizeLine) (col : Col X.prog X.w X.A.in1 X.xe s x its)
    (q : ∀ (ns' : List Int) (p : Addr), ns'.Perm ns → ns'.Pairwise (· ≤ ·) → H p = none → Q (.ref p) (upd H p (.lst (ns'.map V.int)))) : wpAny (model X.prog X.w) X.A (call (.builtin "sorted") [x]) (EP X pins σ Q) X.xe s := by
  have hi := rv.ints
  refine sorted_gen SrtO.swo_int hz col (fun h2 h₁ tk a' _ _ => SrtO.ints_sortable hi h2) fun h' tk d out h1 h2 kp hd hn => ?_
  obtain ⟨k1, k2, k3⟩ := SrtO.ints_out hi h1 h2
  obtain ⟨n, hn⟩ := hn
  have hlen : ((out.map SrtO.iv).map V.int).length ≤ sizeLine := by
    have := rv.length
    rw [List.length_map] at this
    rw [List.length_map, k2.length_eq, this]
    exact hz
  exact ⟨.ref d, upd H d (.lst ((out.map SrtO.iv).map V.int)), I.laid (t' := tk) kp hd ⟨hlen, out, n, vals_of_ints k1, hn⟩, rfl, q _ _ k2 k3 (I.hok.fresh hd)⟩
theorem cr_srtI : CallR X (.builtin "sorted") (rSrtI X.K) := by
  intro pins s σ H vs us Q I r h
  obtain ⟨a, ns, rfl, hs, q⟩ := h
  obtain ⟨its, rv, hz, col⟩ := col_seq I hs
  rw [Vals.ref1 r]
  exact srtI_run I rv hz col q
/-- sorted(x): tuples of d ints each, below B -/
def Tks (K : PySem.W.Frag) (H : Hp) (d : Nat) (B : Int) (xs : List V) : Prop := ∀ x ∈ xs, ∃ t n, x = V.ref t ∧ SqT K H t (n.map V.int) ∧ n.length = d ∧ TS.Bd B n
def TkLe (K : PySem.W.Frag) (H : Hp) (B : Int) (x y : V) : Prop := ∀ t u n m, x = V.ref t → y = V.ref u → SqT K H t (n.map V.int) → SqT K H u (m.map V.int) → TS.code B n ≤ TS.code B m
theorem tupInts_sq {pins : List (Addr × Obj)} {s : Shared} {σ : St} {H : Hp} {t : Addr} {n : List Int} (I : Inv X pins σ H s) (h : SqT X.K H t (n.map V.int)) : TS.TupInts s.heap (.ref t) n := by
  obtain ⟨its, rv, hl, _⟩ := I.tuple h
  exact ⟨t, _, rfl, hl, by simpa using rv.ints⟩
theorem srtT_run {pins : List (Addr × Obj)} {s : Shared} {σ : St} {H : Hp} {x : Value} {xs : List V} {its : List Value} {d : Nat} {B : Int} {Q : VK} (I : Inv X pins σ H s) (rv : Vals xs its) (hz : its.length ≤ sizeLine) (col : Col X.prog X.w X.A.in1 X.xe s x its) (hd : 1 ≤ d) (tk : Tks X.K H d B xs)
    (q : ∀ (zs : List V) (p : Addr), zs.Perm xs → zs.Pairwise (TkLe X.K H B) → H p = none → Q (.ref p) (upd H p (.lst zs))) : wpAny (model X.prog X.w) X.A (call (.builtin "sorted") [x]) (EP X pins σ Q) X.xe s := by
  obtain ⟨e1, e2⟩ := refs_back rv fun x m => by
    obtain ⟨t, _, e, _⟩ := tk x m
    exact ⟨t, e⟩
  have ok : TS.TupsOk s.heap d B its := fun v hv => by
    obtain ⟨t, rfl⟩ := e2 v hv
    have hm : V.ref t ∈ xs := by rw [e1]; exact List.mem_map.mpr ⟨_, hv, rfl⟩
    obtain ⟨t', n, e, h1, h2, h3⟩ := tk _ hm
    cases e
    exact ⟨n, tupInts_sq I h1, h2, h3⟩
  refine sorted_gen (swo_rank fun v => TS.code B (TS.intsOf s.heap v)) hz col (fun h2 h₁ tk' a' ha kk => ?_) fun h' tk' dd out h1 h2 kp hdd hn => ?_
  · refine tups_sortable (s := { s with heap := h₁, toks := tk' }) hd h2 (ok.keeps fun b o e _ => (kk b o e).2) (fun o e c => ?_) _ fun v hv ns t => ?_
    · have e' : some o = some (seqObj "list" its.toArray 0) := e.symm.trans ha
      cases e'
      exact absurd (Value.type.inj c) (by decide)
    · obtain ⟨ns0, t0, _⟩ := ok v hv
      have e : ns = ns0 := t.ints.symm.trans (t0.keeps fun b o e _ => (kk b o e).2).ints
      rw [e]
      show TS.code B (TS.intsOf s.heap v) = _
      rw [t0.ints]
  · have h3 : ∀ u ∈ out, ∃ a, u = Value.ref a := fun u hu => e2 u (h2.perm.mem_iff.mp hu)
    obtain ⟨n, hn⟩ := hn
    have hp : (out.map backV).Perm xs := by rw [e1]; exact h2.perm.map backV
    refine ⟨.ref dd, upd H dd (.lst (out.map backV)), I.laid (t' := tk') kp hdd ⟨?_, out, n, vals_back h3, hn⟩, rfl, q _ dd hp ?_ (I.hok.fresh hdd)⟩
    · rw [hp.length_eq, rv.length]; exact hz
    · refine List.pairwise_map.mpr (List.Pairwise.imp_of_mem (fun {u v} hu hv h => ?_) h1)
      intro t t' n m et et' ht ht'
      obtain ⟨a, rfl⟩ := h3 u hu
      obtain ⟨a', rfl⟩ := h3 v hv
      cases et; cases et'
      have i1 := (tupInts_sq I ht).ints
      have i2 := (tupInts_sq I ht').ints
      have := of_decide_eq_false h
      rw [i1, i2] at this
      omega
def rSrtT (K : PySem.W.Frag) : List V → Hp → VK → Prop := fun vs H Q => ∃ (a : Addr) (xs : List V) (d : Nat) (B : Int), vs = [V.ref a] ∧ (SqL K H a xs ∨ SqT K H a xs) ∧ 1 ≤ d ∧ Tks K H d B xs ∧
  ∀ (zs : List V) (p : Addr), zs.Perm xs → zs.Pairwise (TkLe K H B) → H p = none → Q (.ref p) (upd H p (.lst zs))
theorem cr_srtT : CallR X (.builtin "sorted") (rSrtT X.K) := by
  intro pins s σ H vs us Q I r h
  obtain ⟨a, xs, d, B, rfl, hs, hd, tk, q⟩ := h
  obtain ⟨its, rv, hz, col⟩ := col_seq I hs
  rw [Vals.ref1 r]
  exact srtT_run I rv hz col hd tk q
/-- sorted(d), d a dict whose keys are tuples of ints -/
def rSrtD (K : PySem.W.Frag) : List V → Hp → VK → Prop := fun vs H Q => ∃ (a : Addr) (kvs : List (List Key × V)) (d : Nat) (B : Int), vs = [V.ref a] ∧ Rd H a (.dT kvs) ∧ 1 ≤ d ∧ (∀ kv ∈ kvs, ∃ n : List Int, kv.1 = n.map Sum.inl ∧ n.length = d ∧ TS.Bd B n) ∧
  ∀ (bs : List Addr) (zs : List V) (p : Addr), IsKeys H kvs bs → zs.Perm (bs.map V.ref) → zs.Pairwise (TkLe K H B) → H p = none → Q (.ref p) (upd H p (.lst zs))
end
end L2

set_option Elab.async false
set_option linter.all false
set_option maxRecDepth 100000
set_option maxHeartbeats 4000000
set_option checkBinderAnnotations false
/-! DLu: data: sorted, min of a list, tuple.index, or of lists. -/
namespace DL
open PySem L2
def tupI (n : List Int) : D := .tup (n.map .int)
@[simp] theorem intsOf_map (n : List Int) : intsOf (n.map D.int) = some n := by
  induction n with
  | nil => rfl
  | cons a n ih => rw [List.map_cons, intsOf, ih]; rfl
theorem intsOf_eq : ∀ {ds : List D} {n : List Int}, intsOf ds = some n → ds = n.map D.int
  | [], n, e => by cases e; rfl
  | .int b :: ds, n, e => by
    cases q : intsOf ds with
    | none => rw [intsOf, q] at e; cases e
    | some l => rw [intsOf, q] at e; cases e; rw [intsOf_eq q]; rfl
  | .non :: _, _, e => by cases e
  | .bl _ :: _, _, e => by cases e
  | .str _ :: _, _, e => by cases e
  | .tup _ :: _, _, e => by cases e
  | .lst _ :: _, _, e => by cases e
  | .adr _ :: _, _, e => by cases e
  | .ty _ :: _, _, e => by cases e
  | .fl _ :: _, _, e => by cases e
  | .obj _ _ _ :: _, _, e => by cases e
  | .tpx _ :: _, _, e => by cases e
  | .exc _ :: _, _, e => by cases e
  | .dct _ :: _, _, e => by cases e
  | .dcu _ :: _, _, e => by cases e
  | .ml _ :: _, _, e => by cases e
  | .kl _ :: _, _, e => by cases e
def seqD : D → Option (List D)
  | .lst ds => some ds
  | .tup ds => some ds
  | .fl ds => some ds
  | .tpx ds => some ds
  | _ => none
def untup : D → List Int
  | .tup es => (intsOf es).getD []
  | _ => []
@[simp] theorem untup_tupI (n : List Int) : untup (tupI n) = n := by show (intsOf (n.map D.int)).getD [] = n; rw [intsOf_map]; rfl
def SrtP (ds : List D) (Q : Sl → Prop) : Prop := (∃ ns, ds = ns.map D.int ∧ ∀ ns' : List Int, ns'.Perm ns → ns'.Pairwise (· ≤ ·) → Q (.own (ns'.map .int))) ∨
  ∃ (ts : List (List Int)) (d : Nat) (B : Int), ds = ts.map tupI ∧ 1 ≤ d ∧ (∀ t ∈ ts, t.length = d ∧ TS.Bd B t) ∧ ∀ ts' : List (List Int), ts'.Perm ts → ts'.Pairwise (fun a b => TS.code B a ≤ TS.code B b) → Q (.own (ts'.map tupI))
def gSrt : GN
  | [d], Q => withOp (seqD d) fun ds => SrtP ds Q
  | _, _ => False
section
variable {K : PySem.W.Frag} {B H : Hp}
theorem seqD_sq {v : V} {d : D} {ds : List D} (h : RdB K B H v d) (e : seqD d = some ds) : ∃ a xs, v = .ref a ∧ (SqL K H a xs ∨ SqT K H a xs) ∧ IpAll K B H xs ds := by
  cases d with
  | lst es => cases e; obtain ⟨a, xs, rfl, h1, h2⟩ := h; exact ⟨a, xs, rfl, .inl h1, h2⟩
  | tup es => cases e; cases h with | tup a b => exact ⟨_, _, rfl, .inr a.sq, b⟩
  | fl es => cases e; cases h with | fl a b => exact ⟨_, _, rfl, .inl (.inl (.inr ⟨_, a⟩)), b⟩
  | tpx es => cases e; cases h with | tpx a _ b => exact ⟨_, _, rfl, .inr (.inl (.inr ⟨_, a⟩)), b⟩
  | _ => cases e
theorem IpAll.perm {xs zs : List V} (p : zs.Perm xs) : ∀ {ds : List D}, IpAll K B H xs ds → ∃ ds', IpAll K B H zs ds' ∧ ds'.Perm ds := by
  induction p with
  | nil => intro ds h; cases h; exact ⟨[], .nil, .nil⟩
  | cons x p ih =>
    intro ds h
    cases h with
    | cons a b => obtain ⟨ds', h1, h2⟩ := ih b; exact ⟨_, .cons a h1, h2.cons _⟩
  | swap x y l =>
    intro ds h
    cases h with
    | cons a b => cases b with | cons c d => exact ⟨_, .cons c (.cons a d), .swap ..⟩
  | trans p q ih1 ih2 =>
    intro ds h
    obtain ⟨d1, h1, h2⟩ := ih2 h
    obtain ⟨d2, h3, h4⟩ := ih1 h1
    exact ⟨d2, h3, h4.trans h2⟩
theorem tupI_sq {v : V} {n : List Int} (h : Ip K B H v (tupI n)) : ∃ t, v = .ref t ∧ TupA K H t (n.map V.int) := by
  cases h with
  | tup a b =>
    have e := ints_vs b (intsOf_map n)
    subst e
    exact ⟨_, rfl, a⟩
theorem tkle {Bd : Int} : ∀ {ts : List (List Int)} {zs : List V}, IpAll K B H zs (ts.map tupI) → zs.Pairwise (TkLe K H Bd) → ts.Pairwise (fun a b => TS.code Bd a ≤ TS.code Bd b)
  | [], _, _, _ => .nil
  | t :: ts, _, .cons h r, p => by
    obtain ⟨p1, p2⟩ := List.pairwise_cons.mp p
    refine List.pairwise_cons.mpr ⟨fun u hu => ?_, tkle r p2⟩
    obtain ⟨j, hj⟩ := List.mem_iff_getElem?.mp hu
    obtain ⟨v, hv, iv⟩ := r.get (i := j) (d := tupI u) (by rw [List.getElem?_map, hj]; rfl)
    obtain ⟨a, rfl, ha⟩ := tupI_sq h
    obtain ⟨b, rfl, hb⟩ := tupI_sq iv
    exact p1 _ (List.mem_of_getElem? hv) a b t u rfl rfl ha.sq hb.sq
theorem tks_of {d : Nat} {Bd : Int} {ts : List (List Int)} {xs : List V} (ia : IpAll K B H xs (ts.map tupI)) (h : ∀ t ∈ ts, t.length = d ∧ TS.Bd Bd t) : Tks K H d Bd xs := fun x hx => by
  obtain ⟨j, hj⟩ := List.mem_iff_getElem?.mp hx
  obtain ⟨e, he, ie⟩ := ia.getV hj
  rw [List.getElem?_map] at he
  obtain ⟨t, ht, rfl⟩ := Option.map_eq_some_iff.mp he
  obtain ⟨a, rfl, ha⟩ := tupI_sq ie
  exact ⟨a, t, rfl, ha.sq, h t (List.mem_of_getElem? ht)⟩
theorem perm_tupI {ts : List (List Int)} {ds : List D} (p : ds.Perm (ts.map tupI)) : ∃ ts' : List (List Int), ts'.Perm ts ∧ ds = ts'.map tupI := by
  refine ⟨ds.map untup, ?_, ?_⟩
  · have := p.map untup
    rw [List.map_map] at this
    have e : ts.map (untup ∘ tupI) = ts := by
      conv => rhs; rw [← List.map_id ts]
      exact List.map_congr_left fun n _ => untup_tupI n
    rw [e] at this
    exact this
  · rw [List.map_map]
    conv => lhs; rw [← List.map_id ds]
    refine List.map_congr_left fun d hd => ?_
    obtain ⟨n, _, rfl⟩ := List.mem_map.mp (p.mem_iff.mp hd)
    show tupI n = tupI (untup (tupI n))
    rw [untup_tupI]
theorem cs_srt : CallS K (fun xs H Q => rSrtI K xs H Q ∨ rSrtT K xs H Q) gSrt := by
  intro B H xs ds Qw Q sub hr g p
  match ds, hr, g with
  | [d], hr, g =>
    obtain ⟨x, rfl, h⟩ := rd1 hr
    obtain ⟨es, e, g⟩ := withOp_some g
    obtain ⟨a, xs, rfl, hs, ia⟩ := seqD_sq h e
    rcases g with ⟨ns, rfl, g⟩ | ⟨ts, d, Bd, rfl, hd, ht, g⟩
    · have ev := ints_vs ia (intsOf_map ns)
      subst ev
      exact .inl ⟨a, ns, rfl, hs, fun ns' q hp hq hh => p.lst (IpAll.ints ns') (g ns' hp hq) q hh⟩
    · refine .inr ⟨a, xs, d, Bd, rfl, hs, hd, tks_of ia ht, fun zs q hp hq hh => ?_⟩
      obtain ⟨ds', i1, i2⟩ := ia.perm hp
      obtain ⟨ts', h1, rfl⟩ := perm_tupI i2
      exact p.lst i1 (g ts' h1 (tkle i1 hq)) q hh
end
theorem cr_srt {X : Cx} : CallR X (.builtin "sorted") (fun xs H Q => rSrtI X.K xs H Q ∨ rSrtT X.K xs H Q) := cr_srtI.or cr_srtT
/-! ### min, max of a list of ints -/
def gMinL : GN
  | [d], Q => withOp (seqD d) fun ds => withOp (intsOf ds) fun ns => (∃ es, d = .lst es) ∧ 0 < ns.length ∧ ∀ m, m ∈ ns → (∀ y ∈ ns, m ≤ y) → Q (.dat (.int m))
  | _, _ => False
/-! ### x or y, x a list -/
def wOrL (wa wb : EW) : EW := fun ρ Q X => wa ρ (fun a ρ1 => withC ρ1 a fun d => withOp (seqD d) fun ds => if ds = [] then wb ρ1 Q X else Q a ρ1) X
section
variable {X : Cx} {W : WX} {a b : Expr} {rest : List Expr} {wa wb : EW} {pos : Pos}
theorem de_orL (ha : DE X W a wa) (hb : DE X W (.BoolOp .Or (b :: rest) pos) wb) : DE X W (.BoolOp .Or (a :: b :: rest) pos) (wOrL wa wb) := by
  obtain ⟨ta, pa, sa⟩ := ha.ok
  obtain ⟨tb, pb, sb⟩ := hb.ok
  refine ⟨_, pe_orT pa pb, fun B σ ρ H Qw Xw Q s h hx q => ?_⟩
  refine sa B σ ρ H _ Xw _ s h hx fun v r1 B1 ρ1 H1 s1 t1 rv1 q1 => ?_
  obtain ⟨d, e1, q1⟩ := withC_some q1
  obtain ⟨ds, e2, q1⟩ := withOp_some q1
  obtain ⟨p, xs, rfl, hs, ia⟩ := seqD_sq (rv1.rd s1 e1) e2
  refine ⟨!xs.isEmpty, ?_, ?_⟩
  · rcases hs with hs | hs
    · exact .inl ⟨_, hs, rfl⟩
    · exact .inr (.inl ⟨_, hs, rfl⟩)
  · rw [← ia.isEmpty]
    cases ds with
    | nil =>
      rw [if_pos rfl] at q1
      exact sb B1 σ ρ1 H1 Qw Xw Q s1 q1 (hx.lift s1 t1) fun v r B2 ρ2 H2 s2 t2 rv q2 => q v r B2 ρ2 H2 s2 (t1.trans s1 t2) (rv.early s1 t1) q2
    | cons d0 ds =>
      rw [if_neg (by simp)] at q1
      exact q _ r1 _ _ _ s1 t1 rv1 q1
end
end DL

set_option Elab.async false
set_option linter.all false
set_option maxRecDepth 100000
set_option maxHeartbeats 4000000
set_option checkBinderAnnotations false
/-! DLv: dicts of one's own, their keys tuples of ints. -/
namespace DL
open PySem L2
def isIntV : Value → Bool
  | .int _ _ => true
  | _ => false
/-- no tuple of the written part is one of ints, one at least -/
def noTupB (K : PySem.W.Frag) : Bool := K.all fun p => match p.2.data with
  | .seq its _ => !decide (p.2.cls = .type "tuple") || its.isEmpty || !its.toList.all isIntV
  | _ => true
theorem lookup_mem {K : PySem.W.Frag} {a : Addr} {o : Obj} (h : K.lookup a = some o) : (a, o) ∈ K := by
  induction K with
  | nil => cases h
  | cons p K ih =>
    rw [List.lookup_cons] at h
    by_cases e : (a == p.1) = true
    · rw [e] at h
      cases h
      have e := beq_iff_eq.mp e
      subst e
      exact List.mem_cons_self
    · have e : (a == p.1) = false := by simpa using e
      rw [e] at h
      exact List.mem_cons_of_mem _ (ih h)
theorem noTup {K : PySem.W.Frag} (hK : noTupB K = true) {a : Addr} {n : List Int} (hn : n ≠ []) (h : KTu K a (n.map V.int)) : False := by
  rcases h with (h | ⟨o, h⟩) | ⟨o, its, k, hk, hc, hs, hz, r⟩
  · cases h
  · cases h
  · have q := List.all_eq_true.mp hK _ (lookup_mem hk)
    simp only [hs, hc] at q
    have l := r.length
    have e1 : its.isEmpty = false := by
      have l1 : n.length = its.toList.length := by simpa using l
      rw [Array.length_toList] at l1
      cases e : its.isEmpty with
      | false => rfl
      | true =>
        have e := Array.isEmpty_iff_size_eq_zero.mp e
        exact absurd (List.eq_nil_of_length_eq_zero (l1.trans e)) hn
    have e2 : its.toList.all isIntV = true := by
      have hi := r.ints
      clear e1 l r hs hk q
      generalize its.toList = l at hi
      clear hn
      induction hi with
      | nil => rfl
      | cons n t h ih => rw [List.all_cons]; simp [isIntV, ih]
    rw [e1, e2] at q
    simp at q
theorem tracked {K : PySem.W.Frag} {H : Hp} (hK : noTupB K = true) {a : Addr} {n : List Int} (hn : n ≠ []) (h : TupA K H a (n.map V.int)) : H a = some (.tup (n.map V.int)) := h.elim id fun z => (noTup hK hn z).elim
theorem kT_kV (k : List Int) : (kT k).map kV = k.map V.int := by
  unfold kT
  rw [List.map_map]
  rfl
theorem kT_inj {k l : List Int} (h : kT k = kT l) : k = l := by
  unfold kT at h
  induction k generalizing l with
  | nil => cases l with
    | nil => rfl
    | cons => cases h
  | cons a k ih => cases l with
    | nil => cases h
    | cons b l =>
      rw [List.map_cons, List.map_cons, List.cons.injEq] at h
      rw [Sum.inl.inj h.1, ih h.2]
/-- the key that d is -/
def keyOf : D → Option (List Int)
  | .tup es => match intsOf es with
    | some (a :: n) => some (a :: n)
    | _ => none
  | _ => none
def putD (kvs : List (List Int × D)) (k : List Int) (d : D) : List (List Int × D) := if kvs.any (fun e => decide (e.1 = k)) then kvs.map (fun e => if e.1 = k then (e.1, d) else e) else kvs ++ [(k, d)]
def hasD (kvs : List (List Int × D)) (k : List Int) : Bool := kvs.any fun e => decide (e.1 = k)
section
variable {K : PySem.W.Frag} {B H : Hp}
end
end DL

set_option Elab.async false
set_option linter.all false
set_option maxRecDepth 100000
set_option maxHeartbeats 4000000
set_option checkBinderAnnotations false
/-! DLw: dicts of one's own: {}, {k: v}, in, d[k] = v, list(d), sorted(d). -/
namespace DL
open PySem L2
def dicAt (t : Nat) (ρ : En) (i : Nat) : Option (List (List Int × D)) := match ρ[i]? with
  | some (some (.dic kvs)) => if kvs.t = t then some kvs.l else none
  | _ => none
theorem dicAt_some {t : Nat} {ρ : En} {i : Nat} {kvs : List (List Int × D)} (h : dicAt t ρ i = some kvs) : ρ[i]? = some (some (.dic ⟨t, kvs⟩)) := by
  unfold dicAt at h
  split at h
  · rename_i d e
    obtain ⟨t', l⟩ := d
    by_cases c : t' = t
    · subst c
      rw [if_pos rfl] at h
      cases h
      exact e
    · rw [if_neg c] at h; cases h
  · cases h
theorem SR.dic {K : PySem.W.Frag} {B H : Hp} {σ : St} {ρ : En} {i : Nat} {kvs : List (List Int × D)} (s : SR K B σ ρ H) (h : dicAt 1 ρ i = some kvs) : ∃ p vs, σ[i]? = some (some (.ref p)) ∧ B p = none ∧ H p = some (.dT ((kvs.map fun e => kT e.1).zip vs)) ∧ IpAll K B H vs (kvs.map (·.2)) := by
  obtain ⟨v, hv, p, vs, rfl, h1, h2, h3⟩ := s.slot i _ (dicAt_some h)
  exact ⟨p, vs, hv, h1, h2, h3⟩
def wDNew : EW := fun ρ Q _ => Q (.dic ⟨1, []⟩) ρ
def wDIn (neg : Bool) (i : Nat) (wk : EW) : EW := fun ρ Q X => wk ρ (fun r ρ1 => match r with
  | .dat d => withOp (keyOf d) fun k => withOp (dicAt 1 ρ1 i) fun kvs => Q (.dat (.bl (neg != hasD kvs k))) ρ1
  | _ => False) X
def wDPut (i : Nat) (wk wv : EW) : SW := fun E ρ => wv ρ (fun r ρ1 => match r with
  | .dat d => isOwn ρ1[i]? = true ∧ wk ρ1 (fun rk ρ2 => match rk with
    | .dat dk => withOp (keyOf dk) fun k => withOp (dicAt 1 ρ2 i) fun kvs => kvs.length < sizeLine ∧ E.nx (ρ2.set i (some (.dic ⟨1, putD kvs k d⟩)))
    | _ => False) E.ex
  | _ => False) E.ex
def wDList (i : Nat) : EW := fun ρ Q _ => withOp (dicAt 1 ρ i) fun kvs => Q (.own (kvs.map fun e => tupI e.1)) ρ
def wDSort (i : Nat) : EW := fun ρ Q _ => withOp (dicAt 1 ρ i) fun kvs => ∃ (d : Nat) (B : Int), (1 ≤ d ∧ ∀ e ∈ kvs, e.1.length = d ∧ TS.Bd B e.1) ∧ ∀ ts : List (List Int), ts.Perm (kvs.map (·.1)) → ts.Pairwise (fun a b => TS.code B a ≤ TS.code B b) → Q (.own (ts.map tupI)) ρ
def wDisp1 (wk wv : EW) : EW := fun ρ Q X => wk ρ (fun r ρ1 => wv ρ1 (fun r' ρ2 => match r, r' with
  | .dat dk, .dat d => withOp (keyOf dk) fun k => Q (.dic ⟨1, [(k, d)]⟩) ρ2
  | _, _ => False) X) X
section
variable {K : PySem.W.Frag} {W : WX}
end
end DL

set_option Elab.async false
set_option linter.all false
set_option maxRecDepth 100000
set_option maxHeartbeats 4000000
set_option checkBinderAnnotations false
/-! DLx: {k: v}; the derivations for dicts. -/
namespace DL
open PySem PySem.Spec PyProof.Rows L2
def tDisp1 (tk tv : TE) : TE := fun σ H Q => ∀ p, H p = none → tk σ (upd H p (.dT [])) fun x H1 => tv σ H1 fun y H2 => H2 p = some (.dT []) ∧ ∃ b k, x = .ref b ∧ H2 b = some (.tup (k.map kV)) ∧ Q (.ref p) (upd H2 p (.dT [(k, y)]))
section
variable {K : PySem.W.Frag} {W : WX}
/-- something of nobody's is changed -/
theorem SR.chg {B H H' : Hp} {σ : L2.St} {ρ : En} {p : Addr} {u : HO} (s : SR K B σ ρ H) (hp : H p = some u) (hm : mutO u = true) (nb : B p = none) (no : ¬ OwnAt σ ρ p) (ext : ∀ b o, H b = some o → b ≠ p → H' b = some o) : SR K B σ ρ H' where
  len := s.len
  sub := fun b o e => ext b o (s.sub b o e) (ne_of_none e nb)
  slot := fun i sl h => by
    have tu : Tups H H' := tups_at hp hm ext
    obtain ⟨v, hv, r⟩ := s.slot i sl h
    refine ⟨v, hv, ?_⟩
    cases sl with
    | dat d => exact Ip.mono (Same.refl B) tu r
    | own ds => obtain ⟨q, vs, rfl, b, c, dd⟩ := r; exact ⟨q, vs, rfl, b, ext _ _ c (fun z => no ⟨i, by rw [h]; rfl, z ▸ hv⟩), dd.mono (Same.refl B) tu⟩
    | inn ds => obtain ⟨q, vs, rfl, b, c, dd⟩ := r; exact ⟨q, vs, rfl, b, ext _ _ c (fun z => no ⟨i, by rw [h]; rfl, z ▸ hv⟩), dd.mono (Same.refl B) tu⟩
    | bor i => exact r.elim
    | dic kvs => obtain ⟨q, vs, rfl, b, c, dd⟩ := r; exact ⟨q, vs, rfl, b, ext _ _ c (fun z => no ⟨i, by rw [h]; rfl, z ▸ hv⟩), dd.mono (Same.refl B) tu⟩
  inj := s.inj
end
section
variable {X : Cx} {W : WX} {e k v : Expr} {wk wv : EW} {x : Str} {pos p p2 : Pos}
end
end DL

set_option Elab.async false
set_option linter.all false
set_option maxRecDepth 100000
set_option maxHeartbeats 4000000
set_option checkBinderAnnotations false
/-! DLy: dicts of one's own with int keys: {}, d[k] = v, sorted(d.values()). -/
namespace DL
open PySem PySem.Spec PyProof.Rows L2
def tSortVals (td : TE) : TE := fun σ H Q => td σ H fun x H1 => ∃ a kvs is, x = V.ref a ∧ H1 a = some (.dK kvs) ∧ kvs.map (·.2) = is.map V.int ∧ ∀ (ns' : List Int) (p : Addr), ns'.Perm is → ns'.Pairwise (· ≤ ·) → H1 p = none → Q (.ref p) (upd H1 p (.lst (ns'.map V.int)))
def wINew : EW := fun ρ Q _ => Q (.dic ⟨0, []⟩) ρ
def wIPut (i : Nat) (wk wv : EW) : SW := fun E ρ => wv ρ (fun r ρ1 => match r with
  | .dat d => isOwn ρ1[i]? = true ∧ wk ρ1 (fun rk ρ2 => match rk with
    | .dat (.int k) => withOp (dicAt 0 ρ2 i) fun kvs => (kvs.length < sizeLine ∧ ∀ e ∈ kvs, e.1.length = 1) ∧ E.nx (ρ2.set i (some (.dic ⟨0, putD kvs [k] d⟩)))
    | _ => False) E.ex
  | _ => False) E.ex
def wISort (i : Nat) : EW := fun ρ Q _ => withOp (dicAt 0 ρ i) fun kvs => withOp (intsOf (kvs.map (·.2))) fun ns => ∀ ns' : List Int, ns'.Perm ns → ns'.Pairwise (· ≤ ·) → Q (.own (ns'.map .int)) ρ
section
variable {K : PySem.W.Frag} {B H : Hp}
end
section
variable {K : PySem.W.Frag} {W : WX}
end
section
variable {X : Cx} {W : WX} {k v : Expr} {wk wv : EW} {x : Str} {pos p p2 apos mpos : Pos}
end
end DL

set_option Elab.async false
set_option linter.all false
set_option maxRecDepth 100000
set_option maxHeartbeats 4000000
set_option checkBinderAnnotations false
/-! DLz: the new wishes, for simp. -/
namespace DL
open PySem L2
def SrtW (ds : List D) [Q : Sl → Prop] : Prop := SrtP ds Q
def SrtV (ns : List Int) [Q : List Int → Prop] : Prop := ∀ ns' : List Int, ns'.Perm ns → ns'.Pairwise (· ≤ ·) → Q ns'
def SrtD (ks : List (List Int)) [Q : List (List Int) → Prop] : Prop := ∃ (d : Nat) (B : Int), (1 ≤ d ∧ ∀ e ∈ ks, e.length = d ∧ TS.Bd B e) ∧ ∀ ts : List (List Int), ts.Perm ks → ts.Pairwise (fun a b => TS.code B a ≤ TS.code B b) → Q ts
def MinW (ns : List Int) [Q : Int → Prop] : Prop := 0 < ns.length ∧ ∀ m, m ∈ ns → (∀ y ∈ ns, m ≤ y) → Q m
section
variable {ρ : En} {E : EndsW} {Q : Sl → En → Prop} {X : Value → En → Prop} {Qs : Sl → Prop} {ds : List D}
@[simp ↓] theorem g_srtL : gSrt [.lst ds] Qs = @SrtW ds Qs := id rfl
@[simp ↓] theorem g_srtT : gSrt [.tup ds] Qs = @SrtW ds Qs := id rfl
@[simp ↓] theorem g_srtF : gSrt [.fl ds] Qs = @SrtW ds Qs := id rfl
theorem srtW_ints {ns : List Int} (h : ∀ ns' : List Int, ns'.Perm ns → ns'.Pairwise (· ≤ ·) → Qs (.own (ns'.map .int))) : @SrtW (ns.map D.int) Qs := .inl ⟨ns, rfl, h⟩
@[simp ↓] theorem g_minL : gMinL [.lst ds] Qs = @WOp _ (intsOf ds) fun ns => @MinW ns fun m => Qs (.dat (.int m)) := by
  unfold gMinL WOp MinW
  simp only [seqD, withOp]
  cases intsOf ds with
  | none => rfl
  | some ns => exact propext ⟨fun h => h.2, fun h => ⟨⟨ds, rfl⟩, h⟩⟩
@[simp ↓] theorem e_orL {wa wb : EW} : wOrL wa wb ρ Q X = wa ρ (fun a ρ1 => withC ρ1 a fun d => withOp (seqD d) fun ds => if ds = [] then wb ρ1 Q X else Q a ρ1) X := id rfl
@[simp ↓] theorem e_inew : wINew ρ Q X = Q (.dic ⟨0, []⟩) ρ := id rfl
@[simp ↓] theorem e_dnew : wDNew ρ Q X = Q (.dic ⟨1, []⟩) ρ := id rfl
@[simp ↓] theorem e_din {neg : Bool} {i : Nat} {wk : EW} : wDIn neg i wk ρ Q X = wk ρ (fun r ρ1 => match r with
  | .dat d => @WOp _ (keyOf d) fun k => @WOp _ (dicAt 1 ρ1 i) fun kvs => Q (.dat (.bl (neg != hasD kvs k))) ρ1
  | _ => False) X := id rfl
@[simp ↓] theorem s_dput {i : Nat} {wk wv : EW} : wDPut i wk wv E ρ = wv ρ (fun r ρ1 => match r with
  | .dat d => isOwn ρ1[i]? = true ∧ wk ρ1 (fun rk ρ2 => match rk with
    | .dat dk => @WOp _ (keyOf dk) fun k => @WOp _ (dicAt 1 ρ2 i) fun kvs => kvs.length < sizeLine ∧ E.nx (ρ2.set i (some (.dic ⟨1, putD kvs k d⟩)))
    | _ => False) E.ex
  | _ => False) E.ex := id rfl
@[simp ↓] theorem s_iput {i : Nat} {wk wv : EW} : wIPut i wk wv E ρ = wv ρ (fun r ρ1 => match r with
  | .dat d => isOwn ρ1[i]? = true ∧ wk ρ1 (fun rk ρ2 => match rk with
    | .dat (.int k) => @WOp _ (dicAt 0 ρ2 i) fun kvs => (kvs.length < sizeLine ∧ ∀ e ∈ kvs, e.1.length = 1) ∧ E.nx (ρ2.set i (some (.dic ⟨0, putD kvs [k] d⟩)))
    | _ => False) E.ex
  | _ => False) E.ex := id rfl
@[simp ↓] theorem e_dlist {i : Nat} : wDList i ρ Q X = @WOp _ (dicAt 1 ρ i) fun kvs => Q (.own (kvs.map fun e => tupI e.1)) ρ := id rfl
@[simp ↓] theorem e_isort {i : Nat} : wISort i ρ Q X = @WOp _ (dicAt 0 ρ i) fun kvs => @WOp _ (intsOf (kvs.map (·.2))) fun ns => @SrtV ns fun ns' => Q (.own (ns'.map .int)) ρ := id rfl
@[simp ↓] theorem e_disp1 {wk wv : EW} : wDisp1 wk wv ρ Q X = wk ρ (fun r ρ1 => wv ρ1 (fun r' ρ2 => match r, r' with
  | .dat dk, .dat d => @WOp _ (keyOf dk) fun k => Q (.dic ⟨1, [(k, d)]⟩) ρ2
  | _, _ => False) X) X := id rfl
end
end DL

set_option Elab.async false
set_option linter.all false
set_option maxRecDepth 100000
set_option maxHeartbeats 4000000
set_option checkBinderAnnotations false
/-! DMa: errors as data: made, asked for their class, caught and kept. -/
namespace DL
open PySem L2
open PySem.Spec PyProof.Rows
def exF (oe : Obj) : HO := .frz oe (.ext fun _ => True)
section
variable {X : Cx} {pins : List (Addr × Obj)} {σ : L2.St} {H : Hp} {s : Shared} {a : Addr} {oe : Obj}
end
end DL

set_option Elab.async false
set_option linter.all false
set_option maxRecDepth 100000
set_option maxHeartbeats 4000000
set_option checkBinderAnnotations false
/-! DMb: the same on data. -/
namespace DL
open PySem L2
open PySem.Spec PyProof.Rows
/-! ### C(text) -/
def wExc (C : Addr) (we : EW) : EW := fun ρ Q X => we ρ (fun r ρ1 => match r with
  | .dat _ => Q (.dat (.exc C)) ρ1
  | _ => False) X
section
variable {X : Cx} {W : WX}
theorem same_upd {H : Hp} {a : Addr} {o : HO} (h : H a = none) : Same H (upd H a o) := fun b u e => by
  rw [upd_ne (fun z => by rw [z, h] at e; cases e)]; exact e
end
/-! ### isinstance(e, C), e an error that is known -/
def rIsX (K : PySem.W.Frag) : List V → Hp → VK → Prop := fun xs H Q => ∃ (a C : Addr) (oe : Obj) (c : V) (cv : Value) (b : Bool), xs = [.ref a, c] ∧ H a = some (exF oe) ∧ Zc (.ref C) none oe ∧ (∃ vs, oe.data = .fields vs) ∧ ExcC K C ∧ (∀ u, RelV c u → u = cv) ∧ PySem.W.kitOne K (.ref C) cv = some b ∧ Q (.bl b) H
def gIsX (K : PySem.W.Frag) : GN
  | [.exc C, d], Q => ExcC K C ∧ ∃ u b, ClsD d u ∧ PySem.W.kitOne K (.ref C) u = some b ∧ Q (.dat (.bl b))
  | _, _ => False
section
variable {X : Cx} {W : WX} {k n : Nat} {f : Addr} {fd : FuncData} {ps : List Str} {x : Str} {p pos : Pos} {g : FD}
end
end DL

set_option Elab.async false
set_option linter.all false
set_option maxRecDepth 100000
set_option maxHeartbeats 4000000
set_option checkBinderAnnotations false
/-! DMc: a list that changes no more; a slot's list lent for one expression; __init__. -/
namespace DL
open PySem L2
open PySem.Spec PyProof.Rows
section
variable {X : Cx} {pins : List (Addr × Obj)} {σ : L2.St} {H : Hp} {s : Shared} {p : Addr} {xs : List V}
theorem lock (I : Inv X pins σ H s) (hp : H p = some (.lst xs)) : ∃ o, Inv X pins σ (upd H p (.frz o (.lst xs))) s := by
  have ok := I.hok p _ hp
  obtain ⟨hz, its, n, vals, hg⟩ := id ok
  refine ⟨{ cls := .type "list", data := .seq its.toArray n }, ?_⟩
  have neH : ∀ b u, H b = some u → u ≠ .lst xs → b ≠ p := fun b u e n z => by
    rw [z, hp] at e
    exact n (Option.some.inj e).symm
  have neN : ∀ b, H b = none → b ≠ p := fun b e z => by rw [z, hp] at e; cases e
  refine ⟨I.ok, I.os, I.bare, ⟨I.base.keep, I.base.slot, fun b o e n hx => ?_, I.base.there, fun b xs e => ?_, fun b o u e => ?_, fun b ps e => ?_⟩, I.loc, I.cell, ?_, fun x c e => ?_, fun q hq => ?_, fun b u e => ?_, I.len⟩
  · have q := I.base.free b o e n hx
    rw [upd_ne (neN b q)]; exact q
  · have q := I.base.tups b xs e; rw [upd_ne (neH b _ q (fun z => by cases z))]; exact q
  · have q := I.base.frzs b o u e; rw [upd_ne (neH b _ q (fun z => by cases z))]; exact q
  · obtain ⟨m, q⟩ := I.base.tbls b ps e; exact ⟨m, by rw [upd_ne (neH b _ q (fun z => by cases z))]; exact q⟩
  · rw [upd_ne (neN _ I.free)]; exact I.free
  · rw [upd_ne (neN _ (I.freeC x c e))]; exact I.freeC x c e
  · obtain ⟨h1, h2, h3⟩ := I.pin q hq
    exact ⟨h1, by rw [upd_ne (neN _ h2)]; exact h2, h3⟩
  · have st : ∀ b u, H b = some u → ObjOk X.prog X.w (upd H p (.frz { cls := .type "list", data := .seq its.toArray n } (.lst xs))) s.heap b u := fun b u e =>
      (I.hok b u e).stay (fun c v _ q => q) (fun c q => by rw [upd_ne (neH c _ q (fun z => by cases z))]; exact q) fun c xs q => by rw [upd_ne (neH c _ q (fun z => by cases z))]; exact q
    by_cases hb : b = p
    · subst hb
      rw [upd_same] at e
      cases e
      exact ⟨hg, st b _ hp⟩
    · rw [upd_ne hb] at e
      exact st b u e
end
theorem pe_lock {X : Cx} {e : Expr} {t : TE} (he : PE X e t) : PE X e (fun σ H Q => t σ H fun x H1 => ∃ p xs, x = .ref p ∧ H1 p = some (.lst xs) ∧ ∀ o, Q x (upd H1 p (.frz o (.lst xs)))) := by
  refine ⟨fun pins s σ H Q I h => thn (he.run pins s σ H _ I h) fun u s1 ⟨x, H1, I1, rx, p, xs, ex, hp, q⟩ => ?_⟩
  obtain ⟨o, J⟩ := lock I1 hp
  exact ⟨x, _, J, rx, q o⟩
/-- a new list, from now on never changed -/
def wFl (we : EW) : EW := fun ρ Q X => we ρ (fun r ρ1 => match r with
  | .own ds => Q (.dat (.fl ds)) ρ1
  | _ => False) X
theorem tups_lock {H : Hp} {p : Addr} {xs : List V} {o : Obj} (hp : H p = some (.lst xs)) : Tups H (upd H p (.frz o (.lst xs))) := fun b u e m => by
  rw [upd_ne (fun z => by rw [z, hp] at e; cases e; cases m)]; exact e
section
variable {X : Cx} {W : WX}
theorem de_fl {e : Expr} {we : EW} (he : DE X W e we) : DE X W e (wFl we) := by
  obtain ⟨t, pt, st⟩ := he.ok
  refine ⟨_, pe_lock pt, ?_⟩
  intro B σ ρ H Qw Xw Q s h hx q
  refine st B σ ρ H _ Xw _ s h hx fun v r1 B1 ρ1 H1 s1 t1 rv1 q1 => ?_
  cases r1 with
  | own ds =>
    obtain ⟨p, vs, e, h0, nb, hp, ia, no⟩ := rv1
    refine ⟨p, vs, e, hp, fun o => ?_⟩
    subst e
    have tu := tups_lock (o := o) hp
    have ext : ∀ b u, H1 b = some u → b ≠ p → upd H1 p (.frz o (.lst vs)) b = some u := fun b u e hb => by rw [upd_ne hb]; exact e
    have s2 : SR X.K B1 σ ρ1 (upd H1 p (.frz o (.lst vs))) := s1.chg hp rfl nb no ext
    have t2 : Tr σ B ρ H B1 ρ1 (upd H1 p (.frz o (.lst vs))) := ⟨fun b u e n => ext b u (t1.ext b u e n) (ne_of_none e h0), t1.bex, t1.bnew, t1.shp, t1.shi⟩
    exact q (.ref p) (.dat (.fl ds)) B1 ρ1 _ s2 t2 (show Ip X.K B1 (upd H1 p (.frz o (.lst vs))) (.ref p) (.fl ds) from .fl (o := o) upd_same (ia.mono (Same.refl _) tu)) q1
  | _ => exact q1.elim
end
/-! ### a slot's list, lent for one expression -/
/-- of the other slots' own lists nothing is known by lists -/
def lendOk (ρ : En) (i : Nat) : Prop := ∀ (j : Nat) (sl : Sl), ρ[j]? = some (some sl) → j ≠ i → match sl with
  | .dat _ => True
  | .own ds => D.nolists ds = true
  | .inn ds => D.nolists ds = true
  | _ => False
def wBor (i : Nat) (we : EW) : EW := fun ρ Q _ => (∃ ds, ρ[i]? = some (some (.own ds))) ∧ lendOk ρ i ∧ we (frz ρ i) (fun r ρ1 => match r with
  | .dat d => d.nolist = true ∧ ρ1 = frz ρ i ∧ Q (.dat d) ρ
  | _ => False) (fun _ _ => False)
section
variable {K : PySem.W.Frag} {W : WX}
theorem sim_bor (i : Nat) {t : TE} {we : EW} (he : SimE K W t we) : SimE K W t (wBor i we) := by
  rintro B σ ρ H Qw Xw Q s ⟨⟨ds, ei⟩, lend, h⟩ hx q
  obtain ⟨v, hv, p, vs, ev, nb, hp, ia⟩ := s.slot i _ ei
  subst ev
  have fr : FR K H B (fun _ _ => False) B σ ρ H → True := fun _ => trivial
  have hi : i < ρ.length := (List.getElem?_eq_some_iff.mp ei).1
  have ef : frz ρ i = ρ.set i (some (.dat (.lst ds))) := by unfold frz; rw [ei]
  -- as FR.frz, with a heap of its own at the entry
  have f0 : FR K (fun _ => none) B (fun _ _ => False) B σ ρ H := ⟨s, fun b o e => (nomatch e), fun b _ => .inl rfl, fun _ _ z => z.elim, fun b z => .inl z⟩
  have bb : Same B (upd B p (.lst vs)) := upd_same_sub nb
  have s1 : SR K (upd B p (.lst vs)) σ (frz ρ i) H := by
    rw [ef]
    have shp : ∀ j, isOwn (ρ.set i (some (.dat (.lst ds))))[j]? = true → j ≠ i ∧ isOwn ρ[j]? = true := fun j h => by
      by_cases hj : j = i
      · subst hj; rw [List.getElem?_set_self hi] at h; cases h
      · rw [List.getElem?_set_ne (Ne.symm hj)] at h; exact ⟨hj, h⟩
    refine ⟨by simp [s.len], fun b o e => ?_, fun j sl h => ?_, fun j k a h1 h2 h3 h4 => s.inj j k a (shp j h1).2 (shp k h2).2 h3 h4⟩
    · by_cases hb : b = p
      · subst hb; rw [upd_same] at e; cases e; exact hp
      · rw [upd_ne hb] at e; exact s.sub b o e
    · by_cases hj : j = i
      · subst hj
        rw [List.getElem?_set_self hi] at h; cases h
        exact ⟨.ref p, hv, .lst (.inl (.inl upd_same)) (ia.mono bb (Tups.of (Same.refl _)))⟩
      · rw [List.getElem?_set_ne (Ne.symm hj)] at h
        obtain ⟨u, hu, r⟩ := s.slot j sl h
        refine ⟨u, hu, ?_⟩
        have np : ∀ a, isOwn (some (some sl)) = true → u = .ref a → a ≠ p := fun a ho e z => by
          subst e z
          exact hj (s.inj j i a (by rw [h]; exact ho) (by rw [ei]; rfl) hu hv)
        cases sl with
        | dat d => exact Ip.mono bb (Tups.of (Same.refl _)) r
        | own es =>
          obtain ⟨a, ws, e, n, ha, i2⟩ := r
          exact ⟨a, ws, e, by rw [upd_ne (np a rfl e)]; exact n, ha, i2.mono bb (Tups.of (Same.refl _))⟩
        | inn es =>
          obtain ⟨a, ws, e, n, ha, i2⟩ := r
          exact ⟨a, ws, e, by rw [upd_ne (np a rfl e)]; exact n, ha, i2.mono bb (Tups.of (Same.refl _))⟩
        | bor k => exact r.elim
        | dic kvs => exact (lend j _ h hj).elim
  refine he (upd B p (.lst vs)) σ (frz ρ i) H _ _ Q s1 h (fun c B' ρ' H' s' t' z => z.elim) fun v r B' ρ' H' s' t' rv q1 => ?_
  cases r with
  | dat d =>
    obtain ⟨nl, rfl, q1⟩ := q1
    have tu : Tups H H' := fun b o e m => t'.ext b o e fun ⟨j, h1, h2⟩ => by
      obtain ⟨o', e', _, mo⟩ := s1.own ⟨j, h1, h2⟩
      rw [e] at e'; cases e'
      rw [m] at mo; cases mo
    have hp' : H' p = some (.lst vs) := s'.sub p _ (t'.bex p _ upd_same)
    have s2 : SR K B σ ρ H' := by
      refine ⟨s.len, fun b o e => s'.sub b o (t'.bex b o (bb b o e)), fun j sl hjs => ?_, s.inj⟩
      obtain ⟨u, hu, r⟩ := s.slot j sl hjs
      refine ⟨u, hu, ?_⟩
      by_cases hj : j = i
      · subst hj
        rw [ei] at hjs; cases hjs
        rw [hv] at hu; cases hu
        exact ⟨p, vs, rfl, nb, hp', ia.mono (Same.refl _) tu⟩
      · have l := lend j sl hjs hj
        have h' : (frz ρ i)[j]? = some (some sl) := by rw [ef, List.getElem?_set_ne (Ne.symm hj)]; exact hjs
        obtain ⟨u', hu', r'⟩ := s'.slot j sl h'
        rw [hu] at hu'; cases hu'
        cases sl with
        | dat d => exact Ip.mono (Same.refl _) tu r
        | own es =>
          obtain ⟨a, ws, e, n, ha, i2⟩ := r
          obtain ⟨a', ws', e', n', ha', i2'⟩ := r'
          exact ⟨a', ws', e', by rw [e] at e'; cases e'; exact n, ha', i2'.pure l⟩
        | inn es =>
          obtain ⟨a, ws, e, n, ha, i2⟩ := r
          obtain ⟨a', ws', e', n', ha', i2'⟩ := r'
          exact ⟨a', ws', e', by rw [e] at e'; cases e'; exact n, ha', i2'.pure l⟩
        | bor k => exact r.elim
        | dic kvs => exact l.elim
    have t2 : Tr σ B ρ H B ρ H' := ⟨fun b o e n => t'.ext b o e fun ⟨j, h1, h2⟩ => n (by
      by_cases hj : j = i
      · subst hj; rw [ef, List.getElem?_set_self hi] at h1; cases h1
      · rw [ef, List.getElem?_set_ne (Ne.symm hj)] at h1; exact ⟨j, h1, h2⟩), Same.refl _, fun b z => .inl z, fun _ => rfl, fun j ds h => ⟨ds, h⟩⟩
    exact q v (.dat d) B ρ H' s2 t2 (show Ip K B H' v d from Ip.pure rv nl) q1
  | _ => exact q1.elim
theorem de_bor {X : Cx} (i : Nat) {e : Expr} {we : EW} (he : DE X W e we) : DE X W e (wBor i we) := by
  obtain ⟨t, pt, st⟩ := he.ok
  exact ⟨t, pt, sim_bor i st⟩
end
end DL

set_option Elab.async false
set_option linter.all false
set_option maxRecDepth 100000
set_option maxHeartbeats 4000000
set_option checkBinderAnnotations false
/-! DMd: sorted(set(xs)) of ints, sum(xs), tuples without a dict and their index. -/
namespace DL
open PySem L2
open PySem.Spec PyProof.Rows
/-- a new set's object -/
abbrev set0 (w : World) : Obj := { cls := .type "set", dict := none, data := .set #[] 0 (.fresh 0 0 (!w.params.followText "set-order")) }
section
variable {P : Program} {w : World} {A : Around} {E : Value → Shared → Prop} {s : Shared}
/-- set(xs), xs a list of ints: which ints it has; turned from the kit's rule for a tuple -/
theorem set_of_list {l : Addr} {items : Array Value} (ns : List Int) {Q : Value → Shared → Prop} (hh : A.handled = none) (hl : s.heap.IsList l items) (hit : IntsAre items.toList ns) (hb : ns.length + 1 < scanBound)
    (h : ∀ (h' : Heap) (tk c : Nat), SetR w h' s.heap.objs.size (fun j => decide (j ∈ ns)) c → c ≤ ns.length → (∀ b o, s.heap.get? b = some o → h'.get? b = some o) → Q (.ref s.heap.objs.size) { s with heap := h', toks := tk }) :
    wpAny (model P w) A (call (.type "set") [.ref l]) Q E s := by
  have hisz : items.size = ns.length := (Array.length_toList (xs := items)).symm.trans (IntsAre.length hit)
  obtain ⟨c, tl, hmro⟩ := F.called_set.mro
  have hmade := F.called_set.made
  have hsub := F.called_set.sub
  refine wpAny_call (codeAny_of_tree ?_)
  show wpAny _ _ (callAny (.type "set") _) _ _ _
  refine wpAny_pure ⟨Code.quiet_builtin _ (by decide +kernel), codeAny_builtin F.entry_type_call ?_⟩
  rw [Around.under_plain (weight_type_call_type "set" [.ref l] []) rfl]
  have h1 := F.called_set.notType
  have h2 := F.called_set.canCreate
  have hct := F.typeCall_set_1 (.ref l)
  repeat (any_goals (first | assumption | wp_step))
  refine codeAny_mono (code_set_led1 (.ref l) (E := E) (Q₁ := fun obj s₁ => obj = .ref s.heap.objs.size ∧ s₁ = { s with heap := s.heap.push (set0 w) }) ⟨rfl, rfl⟩) fun r s₁ hr => ?_
  cases r with
  | error e => exact hr
  | ok fl =>
    cases fl with
    | ret obj =>
      obtain ⟨rfl, rfl⟩ := hr
      have hS : (s.heap.push (set0 w)).get? s.heap.objs.size = some (set0 w) := Heap.get?_push_size _ rfl
      have hT : Shared.TypeIs { s with heap := s.heap.push (set0 w) } (.ref s.heap.objs.size) "set" := ⟨_, hS, rfl⟩
      have hli := F.called_set.init.lookup
      have hbi := F.called_set.init.bind (.ref s.heap.objs.size)
      repeat (any_goals (first | assumption | wp_step))
      refine codeAny_mono (codeAny_call_builtin (R := wants (fun r s₂ => r = .none ∧ ∃ h' tk c, s₂ = { s with heap := h', toks := tk } ∧ SetR w h' s.heap.objs.size (fun j => decide (j ∈ ns)) c ∧ c ≤ ns.length ∧
          (∀ b o, s.heap.get? b = some o → h'.get? b = some o)) E) F.called_set.init.plain F.entry_set_init (check_set_init_1 hT ?_)) fun r₂ s₂ hr₂ => ?_
      · obtain ⟨⟨ocls, odict, odata, oslots⟩, hol, hcl, nl, hdl⟩ := hl
        simp only at hcl hdl
        subst hcl; subst hdl
        have hol' : (s.heap.push (set0 w)).get? l = some { cls := .type "list", dict := odict, data := .seq items nl, slots := oslots } := Heap.get?_push_of_some _ hol
        have hsls := F.sub_list_set
        have hslf := F.sub_list_frozenset
        have hne : (Value.type "list" == Value.type "dict") = false := by decide
        have hl1 : (s.heap.push (set0 w)).IsList l items := ⟨_, hol', rfl, nl, rfl⟩
        unfold Builtin.«set.__init__» noKeywords Builtin.Frozenset.updateFrom
        generalize hPI : pyIter = PI
        wp_walk
        subst hPI
        refine wpAny_pyIter_list hl1 (wpAny_bind (wpAny_runValue ?_))
        have hlS : l < s.heap.objs.size := Heap.lt_size hol
        have hh3 : A.in1.in1.in1.handled = none := by simp [hh]
        have hneI : l ≠ (s.heap.push (set0 w)).objs.size := by rw [Heap.size_push]; exact Nat.ne_of_lt (Nat.lt_succ_of_lt hlS)
        have hSf : s.heap.objs.size ∉ [(s.heap.push (set0 w)).objs.size, l] := by
          rw [Heap.size_push]; simp only [List.mem_cons, List.mem_singleton, List.not_mem_nil, or_false, not_or]
          exact ⟨Nat.ne_of_lt (Nat.lt_succ_self _), Nat.ne_of_gt hlS⟩
        have hval : ∀ (i : Nat) (v : Value), items[i]? = some v → ∃ k t, ns[i]? = some k ∧ v = .int k t := fun i v hv => by
          have hi : i < ns.length := by rw [← hisz]; exact (Array.getElem?_eq_some_iff.mp hv).1
          obtain ⟨t, e⟩ := PyProof.Rows.IntsAre.int_at hit i v (by rw [Array.getElem?_toList]; exact hv)
          exact ⟨ns[i], t, List.getElem?_eq_getElem hi, by rw [e, List.getD_eq_getElem?_getD, List.getElem?_eq_getElem hi] <;> rfl⟩
        refine set_update_ints ((Walks.list hh3 _ l hneI items).toS) s.heap.objs.size hSf ns hisz hb hval (items.size - 0) 0 _ (by omega) (Nat.zero_le _)
          ⟨⟨_, Heap.get?_push_size _ rfl, rfl, rfl⟩, (hl1.push _)⟩ ⟨0, Nat.le_refl 0, setR_new_at (Heap.get?_push_of_some _ hS)⟩ fun s' c' hm hc' hS' => ?_
        obtain ⟨h', g2, d', tk', os'⟩ := s'
        have eg : g2 = s.gens := hm.gens
        have ed : d' = s.drawn := hm.drawn
        have eo : os' = s.os := hm.os
        subst eg; subst ed; subst eo
        show wpAny _ _ _ _ _ _
        refine wpAny_pure ?_
        show wpAny _ _ (ret Value.none) _ _ _
        refine wpAny_pure ⟨rfl, h', tk', c', rfl, hS', by omega, fun b o e => ?_⟩
        have hb0 : b < s.heap.objs.size := Heap.lt_size e
        have hb2 : b ≠ (s.heap.push (set0 w)).objs.size := by rw [Heap.size_push]; exact Nat.ne_of_lt (Nat.lt_succ_of_lt hb0)
        exact hm.heap b o (by simp only [List.mem_cons, List.mem_singleton, List.not_mem_nil, or_false, not_or]; exact ⟨Nat.ne_of_lt hb0, hb2⟩) (Heap.get?_push_of_some _ (Heap.get?_push_of_some _ e))
      · cases r₂ with
        | error e => exact hr₂
        | ok fl₂ =>
          cases fl₂ with
          | ret r =>
            obtain ⟨rfl, h', tk, c', rfl, hS', hc', hk'⟩ := hr₂
            repeat (any_goals (first | assumption | wp_step))
            exact h _ _ _ hS' hc' hk'
          | _ => exact hr₂.elim
    | _ => exact hr.elim
end
end DL

set_option Elab.async false
set_option linter.all false
set_option maxRecDepth 100000
set_option maxHeartbeats 4000000
set_option checkBinderAnnotations false
/-! DMe: sorted(set(xs)), sum(xs), tuples without a dict, their index. -/
namespace DL
open PySem L2
open PySem.Spec PyProof.Rows
section
variable {X : Cx}
def rSetI (K : PySem.W.Frag) (w : World) : List V → Hp → VK → Prop := fun xs H Q => ∃ (l : Addr) (ns : List Int), xs = [.ref l] ∧ SqL K H l (ns.map V.int) ∧ ns.length < 1000 ∧ ∀ a c, H a = none → (∃ ks : List Int, ks.Nodup ∧ ks.length = c ∧ ∀ k ∈ ks, k ∈ ns) → Q (.ref a) (upd H a (SetO w a (fun j => decide (j ∈ ns)) c))
theorem cr_setI (hc : X.calm = true) : CallR X (.type "set") (rSetI X.K X.w) := by
  intro pins s σ H xs us Q I r h
  obtain ⟨l, ns, rfl, hq, hl, q⟩ := h
  rw [Vals.ref1 r]
  obtain ⟨its, rv, pl, hz⟩ := I.list hq
  refine set_of_list (P := X.prog) (w := X.w) ns (I.ok.hd hc) pl.isList (by simpa using rv.ints) (by unfold scanBound; omega) fun h' tk c hS hcl hk => ?_
  refine ⟨.ref s.heap.objs.size, upd H s.heap.objs.size (SetO X.w s.heap.objs.size (fun j => decide (j ∈ ns)) c), I.laid (t' := tk) hk (Nat.le_refl _) (setO_new hS), rfl, q _ c (I.hok.fresh (Nat.le_refl _)) ?_⟩
  obtain ⟨o, es, ep, t, _, _, _, _, nd, hm, _, _, hn, _⟩ := hS
  exact ⟨es.toList.map _, nd, by rw [List.length_map, Array.length_toList]; exact hn, fun k hk => of_decide_eq_true ((hm k).mpr hk)⟩
end
/-! ### sorted(set(e)) -/
theorem subLen : ∀ {l m : List Int}, l.Nodup → (∀ x ∈ l, x ∈ m) → l.length ≤ m.length
  | [], _, _, _ => Nat.zero_le _
  | x :: l, m, h, hs => by
    rw [List.nodup_cons] at h
    have hx : x ∈ m := hs x List.mem_cons_self
    have := subLen (l := l) (m := m.erase x) h.2 fun y hy => (List.mem_erase_of_ne (fun (e : y = x) => h.1 (e ▸ hy))).mpr (hs y (List.mem_cons_of_mem _ hy))
    rw [List.length_erase_of_mem hx] at this
    have hm : 0 < m.length := List.length_pos_of_mem hx
    simp only [List.length_cons]
    omega
theorem few {ks : List Int} (nd : ks.Nodup) (h : ∀ k ∈ ks, 0 ≤ k ∧ k < 60) : ks.length < 64 := by
  have := subLen nd (m := (List.range 60).map fun i : Nat => (i : Int)) fun k hk => by
    obtain ⟨h0, h1⟩ := h k hk
    exact List.mem_map.mpr ⟨k.toNat, List.mem_range.mpr (by omega), by omega⟩
  rw [List.length_map, List.length_range] at this
  omega
def gSS : GN
  | [.lst ds], Q => withOp (intsOf ds) fun ns => (ns.length < 1000 ∧ ∀ k ∈ ns, 0 ≤ k ∧ k < 60) ∧ ∀ ns' : List Int, ns'.Pairwise (· < ·) → (∀ k, k ∈ ns' ↔ k ∈ ns) → Q (.own (ns'.map .int))
  | _, _ => False
section
variable {X : Cx} {W : WX} {e : Expr} {we : EW} {p p2 q pos : Pos}
theorem de_sortSet (hc : X.calm = true) (hg : Gl X "sorted") (hm : X.mg "sorted" = none) (hg2 : Gl X "set") (hm2 : X.mg "set" = none) (he : DE X W e we)
    (hs : starEach [e] X.env = (false, eval e X.env) :: starEach [] X.env := by rfl) (hs2 : starEach [.Call (.Name "set" p2) [e] [] q] X.env = (false, eval (.Call (.Name "set" p2) [e] [] q) X.env) :: starEach [] X.env := by rfl) :
    DE X W (.Call (.Name "sorted" p) [.Call (.Name "set" p2) [e] [] q] [] pos) (wCB gSS (wCons we wNil)) := by
  obtain ⟨t, pt, st⟩ := he.ok
  have pin := pe_callTy (x := "set") (T := "set") (p := p2) (pos := q) (cr_setI hc) hg2 hm2 PyProof.Rows.boot_set (pa_cons pt pa_nil hs) (by decide) (by decide) hs rfl
  refine ⟨_, pe_callB (cr_sortedSet hc) hg hm (by decide +kernel) (pa_cons pin pa_nil hs2) (by decide) (by decide) hs2 rfl, ?_⟩
  intro B σ ρ H Qw Xw Q s h hx k
  show tCons t tNil σ H (fun vs H1 => rSetI X.K X.w vs H1 fun x H2 => rSortedSet X.w [x] H2 Q)
  refine (sim_cons st sim_nil) B σ ρ H _ Xw _ s h hx fun vs rs B1 ρ1 H1 s1 t1 rv1 q1 => ?_
  obtain ⟨ds, e1, q1⟩ := withCs_some q1
  have hr := rv1.rd s1 e1
  match ds, hr, q1 with
  | [.lst ds], hr, q1 =>
    obtain ⟨x, rfl, a, xs, rfl, h1, h2⟩ := rd1 hr
    obtain ⟨ns, en, ⟨hlt, hbd⟩, q1⟩ := withOp_some q1
    have ev := ints_vs h2 en
    subst ev
    refine ⟨a, ns, rfl, h1, by omega, fun b c hb ⟨ks, knd, kl, km⟩ => ?_⟩
    refine ⟨b, _, c, rfl, upd_same, by rw [← kl]; exact few knd fun k hk => hbd k (km k hk), fun ns' p' hpw hmem hlen hp' => ?_⟩
    have sm1 : Same H1 (upd H1 b (SetO X.w b (fun j => decide (j ∈ ns)) c)) := same_upd hb
    have sm2 := same_upd (o := HO.lst (ns'.map V.int)) hp'
    have sm := sm1.trans sm2
    have hp0 : H1 p' = none := by
      by_cases z : p' = b
      · rw [z]; exact hb
      · rw [upd_ne z] at hp'; exact hp'
    refine k (.ref p') (.own (ns'.map .int)) B1 ρ1 _ (s1.same sm) (t1.trans s1 (Tr.same sm)) ?_ (q1 ns' hpw fun k => by rw [hmem k]; simp)
    have np : ¬ OwnAt σ ρ1 p' := fun z => by
      obtain ⟨o, e, _⟩ := s1.own z
      rw [hp0] at e; cases e
    have nb : B1 p' = none := by
      cases z : B1 p' with
      | none => rfl
      | some o => have := s1.sub p' o z; rw [hp0] at this; cases this
    have h0 : H p' = none := by
      cases z : H p' with
      | none => rfl
      | some o => exact absurd hp0 (by
          intro hn
          exact absurd (t1.free s1 hn) (by rw [z]; simp))
    exact ⟨p', ns'.map V.int, rfl, h0, nb, upd_same, IpAll.ints ns', np⟩
end
end DL

set_option Elab.async false
set_option linter.all false
set_option maxRecDepth 100000
set_option maxHeartbeats 4000000
set_option checkBinderAnnotations false
/-! DMf: sum(xs); tuples without a dict, their index; __init__. -/
namespace DL
open PySem L2
open PySem.Spec PyProof.Rows
/-! ### sum -/
section
variable {prog : Program} {w : World} {A : Around} {E : Value → Shared → Prop} {s : Shared} {l : Addr} {its : List Value} {ns : List Int} {Q : Value → Shared → Prop}
end
def gSum : GN
  | [d], Q => withOp (seqD d) fun ds => withOp (intsOf ds) fun ns => Q (.dat (.int ns.sum))
  | _, _ => False
def rSum2 (K : PySem.W.Frag) : List V → Hp → VK → Prop := fun vs H Q => ∃ (a : Addr) (ns : List Int), vs = [V.ref a] ∧ (SqL K H a (ns.map V.int) ∨ SqT K H a (ns.map V.int)) ∧ Q (.int ns.sum) H
/-! ### tuple(xs), known to have no dict -/
def gTupX : GN
  | [.lst ds], Q => Q (.dat (.tpx ds))
  | _, _ => False
def rTupX (K : PySem.W.Frag) : List V → Hp → VK → Prop := fun xs H Q => ∃ p ys, xs = [.ref p] ∧ SqL K H p ys ∧ ∀ l o, H l = none → o.dict = none → Q (.ref l) (upd H l (.frz o (.tup ys)))
theorem call_tupX {X : Cx} : CallR X (.type "tuple") (rTupX X.K) := by
  intro pins s σ H xs us Q I r h
  obtain ⟨p, ys, rfl, hq, q⟩ := h
  rw [Vals.ref1 r]
  obtain ⟨its, r', pl, hz⟩ := I.list hq
  have hlen := r'.length
  refine call_tuple_list pl.isList (fun h' kp => ?_) (by simp only [List.size_toArray] <;> omega)
  have I1 : Inv X pins σ H { s with heap := h' } := I.kept (t' := s.toks) kp
  have I2 : Inv X pins σ (upd H h'.objs.size (.frz { cls := .type "tuple", data := .seq its.toArray } (.tup ys))) { s with heap := h'.push { cls := .type "tuple", data := .seq its.toArray } } :=
    I1.laid (t' := s.toks) (fun b o e => Heap.get?_push_of_some _ e) (Nat.le_refl _) ⟨Heap.get?_push_size _ rfl, hz, its, r', IsTup.new _ _⟩
  exact ⟨.ref h'.objs.size, _, I2, rfl, q _ _ (I1.hok.fresh (Nat.le_refl _)) rfl⟩
theorem cs_tupX {K : PySem.W.Frag} : CallS K (rTupX K) gTupX := by
  intro B H xs ds Qw Q sub hr g p
  match ds, hr, g with
  | [.lst ds], hr, g =>
    obtain ⟨x, rfl, a, xs, rfl, h1, h2⟩ := rd1 hr
    refine ⟨a, xs, rfl, h1, fun l o hl ho => ?_⟩
    have sm := same_upd (o := HO.frz o (.tup xs)) hl
    exact p (.ref l) (.dat (.tpx ds)) _ sm (show Ip K B _ (.ref l) (.tpx ds) from .tpx (o := o) upd_same ho (h2.mono (Same.refl _) (Tups.of sm))) g
/-! ### t.index(i) -/
def wIdx (wo we : EW) : EW := fun ρ Q X => wo ρ (fun r ρ1 => match r with
  | .dat (.tpx ds) => we ρ1 (fun r2 ρ2 => match r2 with
    | .dat (.int k) => withOp (intsOf ds) fun ns => k ∈ ns ∧ Q (.dat (.int (ns.idxOf k : Nat))) ρ2
    | _ => False) X
  | _ => False) X
def tIdx (to te : TE) : TE := fun σ H Q => to σ H fun x H1 => ∃ a o xs, x = .ref a ∧ H1 a = some (.frz o (.tup xs)) ∧ o.dict = none ∧ te σ H1 fun y H2 => ∃ (k : Int) (ns : List Int) (o' : Obj), y = .int k ∧ H2 a = some (.frz o' (.tup (ns.map V.int))) ∧ k ∈ ns ∧ Q (.int (ns.idxOf k : Nat)) H2
section
variable {X : Cx} {W : WX} {o e : Expr} {wo we : EW} {apos cpos : Pos}
theorem pe_idx {to te : TE} (ho : PE X o to) (he : PE X e te) (hbase : attributeBase o "index" X.env (eval o X.env) = eval o X.env)
    (hfew : ((backTo cpos (starEach [e] X.env)).all (fun x => !x.1) && (backToKw cpos (keywordEach [] X.env)).all (fun x => x.1.isSome)
      && decide ([e].length + ([] : List Keyword).length + (if ([] : List Keyword).isEmpty then 0 else 1) < 30)) = true)
    (hline : (apos.endLine == cpos.line) = true) (hs : starEach [e] X.env = (false, eval e X.env) :: starEach [] X.env) (hplain : (backTo cpos (starEach [] X.env)).any (·.1) = false) :
    PE X (.Call (.Attribute o "index" apos) [e] [] cpos) (tIdx to te) := by
  refine ⟨fun pins s σ H Q I h => wpAny_Call_method_late hbase hfew hline rfl (thn (ho.run pins s σ H _ I h) fun v s1 ⟨x, H1, I1, r1, a, ob, xs, ex, ha, hd, q1⟩ => ?_)⟩
  subst ex
  have ev : v = Value.ref a := r1
  subst ev
  obtain ⟨hg, hz, its, rv, ht⟩ := I1.hok a _ ha
  obtain ⟨ob', hg', hcls, n, hdt⟩ := id ht
  rw [hg] at hg'
  cases hg'
  refine ⟨"tuple", "tuple.index", PySem.F.plainAttrs_tuple, PySem.F.slot_tuple_index, PySem.F.type_tuple_index, ⟨ob, hg, hcls⟩, fun b e => ?_, ?_⟩
  · cases e
    exact ⟨ob, hg, hd⟩
  have hA := (pa_cons he pa_nil hs).run cpos pins s1 σ H1 (fun vs H2 => ∃ y, vs = [y] ∧ ∃ (k : Int) (ns : List Int) (o' : Obj), y = .int k ∧ H2 a = some (.frz o' (.tup (ns.map V.int))) ∧ k ∈ ns ∧ Q (.int (ns.idxOf k : Nat)) H2) I1 (by
    show te σ H1 _
    refine (?_ : te σ H1 _)
    exact cast (by congr; funext y H2; simp [tNil]) q1)
  rw [hs] at hA ⊢
  refine Calls.callWith_builtin (by show (false || (backTo cpos (starEach [] X.env)).any (·.1)) = false; rw [hplain] <;> rfl) (Calls.evalArgs_plain ?_)
  refine thn hA fun us s2 ⟨vs, H2, I2, r2, y, ey, k, ns, o', ek, ha2, hk, q2⟩ => ?_
  subst ey ek
  obtain ⟨u, rfl, t, rfl⟩ := vals1 r2
  obtain ⟨hg2, hz2, its2, rv2, ht2⟩ := I2.hok a _ ha2
  have hlen : its2.length = ns.length := by rw [← rv2.length, List.length_map]
  refine SeqAt.call_tuple_index (ks := ns) (k := k) ht2 ⟨hlen, fun j h1 h2 => ?_⟩ hk ⟨.int _, H2, I2.tok _, ⟨_, rfl⟩, q2⟩
  obtain ⟨u, hu, t', hu'⟩ := rv2.get (i := j) (x := .int ns[j]) (by simp [h2])
  have eu := (List.getElem?_eq_some_iff.mp hu).2
  rw [eu, hu']
  have := SeqAt.EqAt.int_int (A := X.A.in1) (s := s2) ns[j] t' k t
  rw [show decide (ns[j] = k) = (ns[j] == k) from by rw [Bool.eq_iff_iff]; simp]
  exact this
theorem de_idx (ho : DE X W o wo) (he : DE X W e we) (hbase : attributeBase o "index" X.env (eval o X.env) = eval o X.env := by rfl)
    (hfew : ((backTo cpos (starEach [e] X.env)).all (fun x => !x.1) && (backToKw cpos (keywordEach [] X.env)).all (fun x => x.1.isSome)
      && decide ([e].length + ([] : List Keyword).length + (if ([] : List Keyword).isEmpty then 0 else 1) < 30)) = true := by rfl)
    (hline : (apos.endLine == cpos.line) = true := by rfl) (hs : starEach [e] X.env = (false, eval e X.env) :: starEach [] X.env := by rfl) (hplain : (backTo cpos (starEach [] X.env)).any (·.1) = false := by rfl) :
    DE X W (.Call (.Attribute o "index" apos) [e] [] cpos) (wIdx wo we) := by
  obtain ⟨to, po, so⟩ := ho.ok
  obtain ⟨te, pe, se⟩ := he.ok
  refine ⟨_, pe_idx po pe hbase hfew hline hs hplain, ?_⟩
  intro B σ ρ H Qw Xw Q s h hx q
  refine so B σ ρ H _ Xw _ s h hx fun v r1 B1 ρ1 H1 s1 t1 rv1 q1 => ?_
  cases r1 with
  | dat d =>
    cases d with
    | tpx ds =>
      cases rv1 with
      | tpx hh hd ia =>
        refine ⟨_, _, _, rfl, hh, hd, ?_⟩
        refine se B1 σ ρ1 H1 _ Xw _ s1 q1 (hx.lift s1 t1) fun u r2 B2 ρ2 H2 s2 t2 rv2 q2 => ?_
        cases r2 with
        | dat d2 =>
          cases d2 with
          | int k =>
            cases rv2
            obtain ⟨ns, en, hk, q2⟩ := withOp_some q2
            have ev := ints_vs ia en
            subst ev
            have tu : H2 _ = some (HO.frz _ (.tup (ns.map V.int))) := t2.ext _ _ hh fun ⟨j, h1, h2⟩ => by
              obtain ⟨o', e', _, mo⟩ := s1.own ⟨j, h1, h2⟩
              rw [hh] at e'; cases e'; cases mo
            exact ⟨k, ns, _, rfl, tu, hk, q (.int _) (.dat (.int _)) B2 ρ2 H2 s2 (t1.trans s1 t2) (show Ip X.K B2 H2 (.int _) (.int _) from .int _) q2⟩
          | _ => exact q2.elim
        | _ => exact q2.elim
    | _ => exact q1.elim
  | _ => exact q1.elim
end
end DL

set_option Elab.async false
set_option linter.all false
set_option maxRecDepth 100000
set_option maxHeartbeats 4000000
set_option checkBinderAnnotations false
/-! DMg: __init__ that stores an argument and a list that changes no more. -/
namespace DL
open PySem L2
open PySem.Spec PyProof.Rows
mutual
def D.noobj : D → Bool
  | .obj _ _ _ => false
  | .fl ds => D.noobjs ds
  | .tup ds => D.noobjs ds
  | .lst ds => D.noobjs ds
  | .tpx ds => D.noobjs ds
  | .ml ds => D.noobjs ds
  | .kl ds => D.noobjs ds
  | _ => true
def D.noobjs : List D → Bool
  | [] => true
  | d :: ds => D.noobj d && D.noobjs ds
end
theorem no_ints : ∀ k : List Int, D.noobjs (k.map D.int) = true
  | [] => by simp [D.noobjs]
  | i :: k => by rw [List.map_cons, D.noobjs, no_ints k]; simp [D.noobj]
theorem no_tpxI : ∀ ks : List (List Int), D.noobjs (ks.map tpxI) = true
  | [] => by simp [D.noobjs]
  | k :: ks => by rw [List.map_cons, D.noobjs, no_tpxI ks, tpxI, D.noobj, no_ints]; rfl
theorem no_ttD : ∀ ks : List (List (List Int)), D.noobjs (ks.map ttD) = true
  | [] => by simp [D.noobjs]
  | k :: ks => by rw [List.map_cons, D.noobjs, no_ttD ks, ttD, D.noobj, no_tpxI]; rfl
section
variable {K : PySem.W.Frag} {B H H' : Hp} {x : Addr}
mutual
theorem Ip.off (hx : ∃ C dx fs, H x = some (.ins C dx fs)) (k : ∀ b o, H b = some o → mutO o = false → b ≠ x → H' b = some o) : ∀ {v : V} {d : D}, Ip K B H v d → d.noobj = true → Ip K B H' v d
  | _, _, .non, _ => .non
  | _, _, .bl b, _ => .bl b
  | _, _, .int i, _ => .int i
  | _, _, .str x, _ => .str x
  | _, _, .adr a, _ => .adr a
  | _, _, .ty n, _ => .ty n
  | _, _, .tup h t, e => .tup (h.elim (fun h => .inl (k _ _ h rfl (fun z => by obtain ⟨_, _, _, q⟩ := hx; rw [z, q] at h; cases h))) .inr) (IpAll.off hx k t (by simpa [D.noobj] using e))
  | _, _, .lst h t, e => .lst h (IpAll.off hx k t (by simpa [D.noobj] using e))
  | _, _, .ml h t, e => .ml h (IpAll.off hx k t (by simpa [D.noobj] using e))
  | _, _, .kl h t, e => .kl (h.imp (fun ⟨o, h⟩ => ⟨o, k _ _ h rfl (fun z => by obtain ⟨_, _, _, q⟩ := hx; rw [z, q] at h; cases h)⟩) id) (IpAll.off hx k t (by simpa [D.noobj] using e))
  | _, _, .fl h t, e => .fl (k _ _ h rfl (fun z => by obtain ⟨_, _, _, q⟩ := hx; rw [z, q] at h; cases h)) (IpAll.off hx k t (by simpa [D.noobj] using e))
  | _, _, .obj h hl t, e => by simp [D.noobj] at e
  | _, _, .tpx h d t, e => .tpx (k _ _ h rfl (fun z => by obtain ⟨_, _, _, q⟩ := hx; rw [z, q] at h; cases h)) d (IpAll.off hx k t (by simpa [D.noobj] using e))
  | _, _, .exc h z f, _ => .exc (k _ _ h rfl (fun z => by obtain ⟨_, _, _, q⟩ := hx; rw [z, q] at h; cases h)) z f
  | _, _, .dct h t, _ => .dct (k _ _ h rfl (fun z => by obtain ⟨_, _, _, q⟩ := hx; rw [z, q] at h; cases h)) (IpAll.off hx k t (no_tpxI _))
  | _, _, .dcu h t, _ => .dcu (k _ _ h rfl (fun z => by obtain ⟨_, _, _, q⟩ := hx; rw [z, q] at h; cases h)) (IpAll.off hx k t (no_ttD _))
theorem IpAll.off (hx : ∃ C dx fs, H x = some (.ins C dx fs)) (k : ∀ b o, H b = some o → mutO o = false → b ≠ x → H' b = some o) : ∀ {vs : List V} {ds : List D}, IpAll K B H vs ds → D.noobjs ds = true → IpAll K B H' vs ds
  | _, _, .nil, _ => .nil
  | _, _, .cons h t, e => by
    rw [D.noobjs, Bool.and_eq_true] at e
    exact .cons (Ip.off hx k h e.1) (IpAll.off hx k t e.2)
end
theorem noobj_mem : ∀ {ds : List D} {d : D}, D.noobjs ds = true → d ∈ ds → d.noobj = true
  | _ :: _, _, e, h => by
    rw [D.noobjs, Bool.and_eq_true] at e
    rcases List.mem_cons.mp h with rfl | h
    · exact e.1
    · exact noobj_mem e.2 h
end
theorem ps_lockS {X : Cx} {st : Stmt} {t : TS} (h : PS X st t) : PS X st (fun D σ H => t { D with nx := fun σ' H' => ∃ p xs, H' p = some (.lst xs) ∧ ∀ o, D.nx σ' (upd H' p (.frz o (.lst xs))) } σ H) := by
  refine ⟨fun pins s σ H D I q => thn (h.run pins s σ H _ I q) fun f s1 hq => ?_⟩
  cases f with
  | next =>
    obtain ⟨σ', H', J, p, xs, hp, q⟩ := hq
    obtain ⟨o, J2⟩ := lock J hp
    exact ⟨σ', _, J2, q o⟩
  | brk => exact hq
  | cont => exact hq
  | ret u => exact hq
section
variable {P : Program} {w : World} {K : PySem.W.Frag} {mg : Str → Option Value} {base : Heap}
theorem fn_C2 {x qual self f1 f2 : Str} {st : Stmt} {f C : Addr} {fd : FuncData} {N ps : List Str} {k : Nat} {g : FC} {we2 : EW} {e1 e2 : Expr} {p1 p2 p3 p4 p5 p6 : Pos} (F : FunD K x qual (defArgs st) (defBody st) (defScope st) [] [] f fd) (S : FnScope N ps (defScope st))
    (hb : defBody st = [.Assign [.Attribute (.Name self p1) f1 p2] e1 p3, .Assign [.Attribute (.Name self p4) f2 p5] e2 p6]) (c : Cls K C) (n1 : NoAttr K C f1) (n2 : NoAttr K C f2) (hff : f1 ≠ f2)
    (hbody : ∀ (cdv : Value) (A : Around) (outer : List Env) (s : Shared) (H : Hp) (E : XK), Room k (A.deeper (PyProof.Rows.envOfC qual (defScope st) s.heap.objs.size f cdv)) →
      (DE (cxOf (L2N.CX P w) P w K mg base N qual (defScope st) f cdv A outer s H E) (fun c d _ H => E c d H) (.Name self p1) (wVar 0) ∧ DE (cxOf (L2N.CX P w) P w K mg base N qual (defScope st) f cdv A outer s H E) (fun c d _ H => E c d H) (.Name self p4) (wVar 0)) ∧
      (DE (cxOf (L2N.CX P w) P w K mg base N qual (defScope st) f cdv A outer s H E) (fun c d _ H => E c d H) e1 (wVar 1) ∧ DE (cxOf (L2N.CX P w) P w K mg base N qual (defScope st) f cdv A outer s H E) (fun c d _ H => E c d H) e2 we2) ∧
      swapsWith e1 (some (.Attribute (.Name self p1) f1 p2)) p3.line (cxOf (L2N.CX P w) P w K mg base N qual (defScope st) f cdv A outer s H E).env = pure false ∧ swapsWith e2 (some (.Attribute (.Name self p4) f2 p5)) p6.line (cxOf (L2N.CX P w) P w K mg base N qual (defScope st) f cdv A outer s H E).env = pure false)
    (hw : ∀ a ds Qw Xw, ds.length + 1 = ps.length → g ds Qw Xw → D.noobjs ds = true ∧ ∃ d1, (startE N (((.adr a) :: ds).map .dat))[1]? = some (some (.dat d1)) ∧ d1 ∈ ds ∧ d1.nolist = true ∧ (startE N (((.adr a) :: ds).map .dat))[0]? = some (some (.dat (.adr a))) ∧ we2 (startE N (((.adr a) :: ds).map .dat)) (fun r ρ => match r with
      | .own es => ρ = startE N (((.adr a) :: ds).map .dat) ∧ (D.nolists es = true ∧ D.noobjs es = true) ∧ Qw [d1, .fl es]
      | _ => False) (fun c _ => Xw c)) :
    FnOk P w K mg base (L2N.CX P w) (k + 1) f fd ps (spC K C [f1, f2] ps.length g) := by
  refine F.ok (CX := L2N.CX P w) S (fun vs H Q E h => ?_) (fun cdv A outer s H vs Q E hr h => ?_)
  · obtain ⟨x, dx, vs', B, ds, Qw, Xw, rfl, _, ia, hl, _⟩ := h
    rw [List.length_cons, ia.length]; exact hl
  · obtain ⟨x, dx, vs', B, ds, Qw, Xw, rfl, ⟨hx0, sub, bx⟩, ia, hl, hg, hq, hxx⟩ := h
    obtain ⟨hno, d1, hd1, hdm, nl1, hd0, hw2⟩ := hw x ds Qw Xw hl hg
    obtain ⟨⟨h01, h04⟩, ⟨hd1', hd2'⟩, hs1, hs2⟩ := hbody cdv A outer s H E hr
    obtain ⟨t01, p01, s01⟩ := h01.ok
    obtain ⟨t04, p04, s04⟩ := h04.ok
    obtain ⟨t1, pt1, st1⟩ := hd1'.ok
    obtain ⟨t2, pt2, st2⟩ := hd2'.ok
    refine ⟨_, by rw [hb]; exact pss_cons (ps_fld p01 pt1 hs1) (pss_one (ps_lockS (ps_fld p04 pt2 hs2))), ?_⟩
    have hlen : (V.ref x :: vs').length = (((D.adr x) :: ds).map Sl.dat).length := by rw [List.length_map, List.length_cons, List.length_cons, ia.length]
    have iax : IpAll K B H (V.ref x :: vs') (.adr x :: ds) := .cons (.adr x) ia
    have nos : D.noobjs (.adr x :: ds) = true := by rw [D.noobjs, hno]; rfl
    have noown : ∀ (σ : L2.St) b, ¬ OwnAt σ (startE N (((D.adr x) :: ds).map .dat)) b := fun σ b ⟨i, h1, _⟩ => by
      obtain ⟨es, e, he⟩ := isOwn_start h1
      rw [List.getElem?_map] at e
      cases q : ((D.adr x) :: ds)[i]? with
      | none => rw [q] at e; cases e
      | some d => rw [q] at e; cases e; cases he
    have dats : ∀ (i : Nat) (sl : Sl), (startE N (((D.adr x) :: ds).map .dat))[i]? = some (some sl) → ∃ d, sl = .dat d ∧ d ∈ ((D.adr x) :: ds) := fun i sl h => by
      obtain ⟨h1, v, h2, h3⟩ := start_get hlen i sl h
      rw [List.getElem?_map] at h1
      cases q : ((D.adr x) :: ds)[i]? with
      | none => rw [q] at h1; cases h1
      | some d => rw [q] at h1; cases h1; exact ⟨d, rfl, List.mem_of_getElem? q⟩
    have sr : SR K B (L2.start N (V.ref x :: vs')) (startE N (((D.adr x) :: ds).map .dat)) H := by
      refine ⟨?_, sub, fun i sl h => ?_, fun i j p h1 _ h3 _ => absurd ⟨i, h1, h3⟩ (noown _ p)⟩
      · simp [L2.start, startE, ia.length]
      · obtain ⟨h1, v, h2, h3⟩ := start_get hlen i sl h
        obtain ⟨v', h4, h5⟩ := iax.map_get h1
        rw [h2] at h4; cases h4
        exact ⟨v, h3, h5⟩
    generalize L2.start N (V.ref x :: vs') = σ at sr
    generalize eρ : startE N (((D.adr x) :: ds).map Sl.dat) = ρ at *
    have noX : XWof K (fun c d _ H => E c d H) σ B ρ H (fun _ _ => False) := fun _ _ _ _ _ _ z => z.elim
    show t1 σ H _
    refine st1 B σ ρ H (fun r ρ' => r = .dat d1 ∧ ρ' = ρ) (fun _ _ => False) _ sr (by show wVar 1 ρ _ _; rw [e_var, hd1]; exact ⟨rfl, rfl⟩) noX fun v1 r1 B1 ρ1 H1 s1 t1' rv1 ⟨e1, e2⟩ => ?_
    subst e1 e2
    refine s01 B1 σ ρ1 H1 (fun r ρ' => r = .dat (.adr x) ∧ ρ' = ρ1) (fun _ _ => False) _ s1 (by show wVar 0 ρ1 _ _; rw [e_var, hd0]; exact ⟨rfl, rfl⟩) (fun _ _ _ _ _ _ z => z.elim) fun v0 r0 B2 ρ2 H2 s2 t2' rv0 ⟨e1, e2⟩ => ?_
    subst e1 e2
    have rv0 : Ip K B2 H2 v0 (.adr x) := rv0
    cases rv0
    have x1 : H1 x = some (.ins C dx []) := t1'.ext x _ hx0 (noown σ x)
    have x2 : H2 x = some (.ins C dx []) := t2'.ext x _ x1 (noown σ x)
    have b2 : B2 x = none := by
      cases z : B2 x with
      | none => rfl
      | some o =>
        exfalso
        rcases t2'.bnew x (by rw [z]; simp) with q | q
        · rcases t1'.bnew x q with q | q
          · exact q bx
          · rw [hx0] at q; cases q
        · rw [x1] at q; cases q
    refine ⟨x, C, dx, [], rfl, x2, c, n1, by simp, ?_⟩
    show t2 σ (upd H2 x (.ins C dx [(f1, v1)])) _
    have x3 : upd H2 x (.ins C dx [(f1, v1)]) x = some (.ins C dx [(f1, v1)]) := upd_same
    have k3 : ∀ b o, H2 b = some o → b ≠ x → upd H2 x (.ins C dx [(f1, v1)]) b = some o := fun b o e hb => by rw [upd_ne hb]; exact e
    generalize upd H2 x (.ins C dx [(f1, v1)]) = H3 at x3 k3 ⊢
    have s3 : SR K B2 σ ρ2 H3 := by
      refine ⟨s2.len, fun b o e => k3 b o (s2.sub b o e) (fun z => by rw [z, b2] at e; cases e), fun i sl h => ?_, s2.inj⟩
      obtain ⟨v, hv, r⟩ := s2.slot i sl h
      obtain ⟨d, rfl, hm⟩ := dats i sl h
      exact ⟨v, hv, Ip.off ⟨C, dx, _, x2⟩ (fun b o e _ hb => k3 b o e hb) r (noobj_mem nos hm)⟩
    have e13 : ∀ b o, H b = some o → b ≠ x → H3 b = some o := fun b o e hb => k3 b o (t2'.ext b o (t1'.ext b o e (noown σ b)) (noown σ b)) hb
    refine st2 B2 σ ρ2 H3 _ (fun c _ => Xw c) _ s3 hw2 (fun c B' ρ' H' s' t' z => hxx c H' (fun b o e hb => t'.ext b o (e13 b o e hb) (noown σ b)) z) fun v2 r2 B4 ρ4 H4 s4 t4 rv4 q4 => ?_
    cases r2 with
    | own es =>
      obtain ⟨e2, ⟨nl, no⟩, q4⟩ := q4
      subst e2
      obtain ⟨p, vs2, rfl, hp3, nb4, hp4, ia4, _⟩ := rv4
      refine s04 B4 σ ρ4 H4 (fun r ρ' => r = .dat (.adr x) ∧ ρ' = ρ4) (fun _ _ => False) _ s4 (by show wVar 0 ρ4 _ _; rw [e_var, hd0]; exact ⟨rfl, rfl⟩) (fun _ _ _ _ _ _ z => z.elim) fun v5 r5 B5 ρ5 H5 s5 t5 rv5 ⟨e1, e2⟩ => ?_
      subst e1 e2
      have rv5 : Ip K B5 H5 v5 (.adr x) := rv5
      cases rv5
      have x4 : H4 x = some (.ins C dx [(f1, v1)]) := t4.ext x _ x3 (noown σ x)
      have x5 : H5 x = some (.ins C dx [(f1, v1)]) := t5.ext x _ x4 (noown σ x)
      have p5 : H5 p = some (.lst vs2) := t5.ext p _ hp4 (noown σ p)
      have hpx : p ≠ x := fun z => by rw [z, x3] at hp3; cases hp3
      refine ⟨x, C, dx, _, rfl, x5, c, n2, by simp, p, vs2, by rw [upd_ne hpx]; exact p5, fun o => ?_⟩
      have epf : putF f2 (V.ref p) [(f1, v1)] = [(f1, v1), (f2, V.ref p)] := by
        simp [putF, hff]
      rw [epf]
      have k7 : ∀ b o', H4 b = some o' → b ≠ x → b ≠ p → upd (upd H5 x (.ins C dx [(f1, v1), (f2, V.ref p)])) p (.frz o (.lst vs2)) b = some o' := fun b o' e hb hbp => by
        rw [upd_ne hbp, upd_ne hb]; exact t5.ext b o' e (noown σ b)
      have np : ∀ b o', H3 b = some o' → b ≠ p := fun b o' e z => by rw [z, hp3] at e; cases e
      refine hq [d1, .fl es] [v1, .ref p] _ (fun b o' e hb => ?_) ?_ rfl (.cons ?_ (.cons (.fl (o := o) upd_same ?_) .nil)) ?_ q4
      · have e3 := e13 b o' e hb
        exact k7 b o' (t4.ext b o' e3 (noown σ b)) hb (np b o' e3)
      · rw [upd_ne (Ne.symm hpx), upd_same]; rfl
      · have i1 : Ip K H00 H1 v1 d1 := Ip.pure rv1 nl1
        refine Ip.off ⟨C, dx, _, x1⟩ (fun b o' e m hb => ?_) i1 (noobj_mem hno hdm)
        have e3 := k3 b o' (t2'.ext b o' e (noown σ b)) hb
        exact k7 b o' (t4.ext b o' e3 (noown σ b)) hb (np b o' e3)
      · have i4 : IpAll K H00 H4 vs2 es := IpAll.pure ia4 nl
        refine IpAll.off ⟨C, dx, _, x4⟩ (fun b o' e m hb => ?_) i4 no
        exact k7 b o' e hb (fun z => by rw [z, hp4] at e; cases e; cases m)
      · rw [D.nolists, nl1, D.nolists, D.nolist, nl, D.nolists]; rfl
    | _ => exact q4.elim
end
end DL

set_option Elab.async false
set_option linter.all false
set_option maxRecDepth 100000
set_option maxHeartbeats 4000000
set_option checkBinderAnnotations false
/-! DMh: methods' places; the new wishes for simp. -/
namespace DL
open PySem L2
def clsBody (s : Stmt) : List Stmt := match s with
  | .ClassDef _ _ _ b _ _ _ _ _ _ _ => b
  | _ => []
structure AtM (K : PySem.W.Frag) (m q : Str) (st : Stmt) (ps : List Str) where
  f : Addr
  fd : FuncData
  F : FunD K m q (defArgs st) (defBody st) (defScope st) [] [] f fd
  b : Binds K fd ps []
def NoLk (ns : List Str) (ds : List D) (m : Str) : Prop := (ns.zip ds).lookup m = none
def PostC [Q : List D → Prop] : List D → Prop := Q
@[simp ↓] theorem postC_app {Q : List D → Prop} {r : List D} : @PostC Q r = Q r := id rfl
section
variable {ρ : En} {E : EndsW} {Q : Sl → En → Prop} {X : Value → En → Prop} {Qs : Sl → Prop} {ds : List D}
@[simp ↓] theorem e_fld {C : Addr} {f : Str} {we : EW} : wFld C f we ρ Q X = we ρ (fun r ρ1 => match r with
  | .dat (.obj C' ns ds) => C' = C ∧ @WOp _ ((ns.zip ds).lookup f) fun d => Q (.dat d) ρ1
  | _ => False) X := id rfl
@[simp ↓] theorem e_meth {C : Addr} {m : Str} {g : FD} {wo : EW} {wa : AW} : wMeth C m g wo wa ρ Q X = wo ρ (fun r ρ1 => match r with
  | .dat (.obj C' ns ds) => (C' = C ∧ NoLk ns ds m) ∧ wa ρ1 (fun rs ρ2 => withCs ρ2 rs fun es => g (.obj C' ns ds :: es) (@Post fun r => Q r ρ2) (@PostX fun c => X c ρ2)) X
  | _ => False) X := id rfl
@[simp ↓] theorem e_make {C : Addr} {ns : List Str} {f : FC} {wa : AW} : wMake C ns f wa ρ Q X = wa ρ (fun rs ρ1 => withCs ρ1 rs fun ds => f ds (@PostC fun fds => Q (.dat (.obj C ns fds)) ρ1) (@PostX fun c => X c ρ1)) X := id rfl
@[simp ↓] theorem e_fl {we : EW} : wFl we ρ Q X = we ρ (fun r ρ1 => match r with
  | .own ds => Q (.dat (.fl ds)) ρ1
  | _ => False) X := id rfl
@[simp ↓] theorem e_idx {wo we : EW} : wIdx wo we ρ Q X = wo ρ (fun r ρ1 => match r with
  | .dat (.tpx ds) => we ρ1 (fun r2 ρ2 => match r2 with
    | .dat (.int k) => @WOp _ (intsOf ds) fun ns => k ∈ ns ∧ Q (.dat (.int (ns.idxOf k : Nat))) ρ2
    | _ => False) X
  | _ => False) X := id rfl
def BorW (i : Nat) (we : EW) (ρ : En) [Q : Sl → En → Prop] : Prop := (∃ ds, ρ[i]? = some (some (.own ds))) ∧ lendOk ρ i ∧ we (frz ρ i) (fun r ρ1 => match r with
  | .dat d => d.nolist = true ∧ ρ1 = frz ρ i ∧ Q (.dat d) ρ
  | _ => False) (fun _ _ => False)
@[simp ↓] theorem e_bor {i : Nat} {we : EW} : wBor i we ρ Q X = @BorW i we ρ Q := id rfl
@[simp ↓] theorem g_sum {d : D} : gSum [d] Qs = @WOp _ (seqD d) fun ds => @WOp _ (intsOf ds) fun ns => Qs (.dat (.int ns.sum)) := id rfl
@[simp] theorem sq_lst : seqD (.lst ds) = some ds := rfl
@[simp] theorem sq_tup : seqD (.tup ds) = some ds := rfl
@[simp] theorem sq_tpx : seqD (.tpx ds) = some ds := rfl
@[simp] theorem sq_fl : seqD (.fl ds) = some ds := rfl
@[simp ↓] theorem g_tupx : gTupX [.lst ds] Qs = Qs (.dat (.tpx ds)) := id rfl
def SSW (ns : List Int) [Q : List Int → Prop] : Prop := (ns.length < 1000 ∧ ∀ k ∈ ns, 0 ≤ k ∧ k < 60) ∧ ∀ ns' : List Int, ns'.Pairwise (· < ·) → (∀ k, k ∈ ns' ↔ k ∈ ns) → Q ns'
@[simp ↓] theorem g_ss : gSS [.lst ds] Qs = @WOp _ (intsOf ds) fun ns => @SSW ns fun ns' => Qs (.own (ns'.map .int)) := id rfl
end
end DL

set_option Elab.async false
set_option linter.all false
set_option maxRecDepth 100000
set_option maxHeartbeats 4000000
set_option checkBinderAnnotations false
/-! DMi: dicts whose keys are tuples that have no dict (they may be asked for an index, too). -/
namespace DL
open PySem L2
open PySem.Spec PyProof.Rows
theorem ent_same {P P' : Program} {w w' : World} {xs : List (List Key × Addr × Value)} {ks : List (List Int)} (h : xs.map (·.1) = ks.map kT) : xs.map (entryOfKey (tupleKind (mixKind P w))) = xs.map (entryOfKey (tupleKind (mixKind P' w'))) := by
  apply List.map_congr_left
  intro x hx
  obtain ⟨k, _, e⟩ := List.mem_map.mp (show x.1 ∈ ks.map kT from h ▸ List.mem_map.mpr ⟨x, hx, rfl⟩)
  show DictEntry.mk (tupleKeyHash (mixKind P w) x.1) (.ref x.2.1) x.2.2 = DictEntry.mk (tupleKeyHash (mixKind P' w') x.1) (.ref x.2.1) x.2.2
  rw [← e]
  have : tupleKeyHash (mixKind P w) (kT k) = tupleKeyHash (mixKind P' w') (kT k) := by
    unfold tupleKeyHash kT
    rw [List.map_map, List.map_map]
    rfl
  rw [this]
section
variable {X : Cx} {pins : List (Addr × Obj)} {σ : L2.St} {H B : Hp} {s : Shared} {p : Addr} {ks : List (List Int)} {vs : List V}
theorem tpx_at {K : PySem.W.Frag} : ∀ {vs : List V} {ks : List (List Int)}, IpAll K B H vs (ks.map tpxI) → ∀ (i : Nat) (k : List Int), ks[i]? = some k → ∃ b, vs[i]? = some (.ref b) ∧ SqT K H b (k.map V.int)
  | _, [], _, i, k, h => by simp at h
  | _, k0 :: ks, .cons h t, 0, k, e => by
    simp at e
    subst e
    cases h with
    | tpx hh _ ia =>
      have ev := ints_vs ia (intsOf_map k0)
      subst ev
      exact ⟨_, rfl, .inl (.inr ⟨_, hh⟩)⟩
  | _, k0 :: ks, .cons h t, i + 1, k, e => by
    simp at e
    obtain ⟨b, h1, h2⟩ := tpx_at t i k e
    exact ⟨b, by simpa using h1, h2⟩
theorem key_is {k : List Int} {b : Addr} (I : Inv X pins σ H s) (h : SqT X.K H b (k.map V.int)) : (tupleKind (mixKind X.prog X.w)).is s.heap (kT k) b := by
  obtain ⟨its, r, ⟨o, h1, h2, n, h3⟩, _⟩ := I.tuple h
  rw [← kT_kV] at r
  exact ⟨o, its.toArray, n, h1, h2, h3, by simpa using items_are r⟩
theorem dx_at (I : Inv X pins σ H s) (hp : H p = some (dxO p ks vs)) (ia : IpAll X.K B H vs (ks.map tpxI)) :
    ∃ xs, xs.map (·.1) = ks.map kT ∧ (xs.map fun x => V.ref x.2.1) = vs ∧ (p == sysModules) = false ∧ xs.length ≤ sizeLine ∧ s.heap.DictOfH (tupleKind (mixKind X.prog X.w)) p xs := by
  obtain ⟨⟨xs, h1, h2, h3, h4, h5, o, es, ep, ho, hx, hd, he⟩, _⟩ := I.hok p _ hp
  refine ⟨xs, h1, h2, h3, h4, o, es, ep, ho, hx, hd, he _ _, fun x hx => ?_, h5⟩
  obtain ⟨i, hi, e⟩ := List.mem_iff_getElem.mp hx
  have hl : xs.length = ks.length := by have := congrArg List.length h1; simpa using this
  have ek : ks[i]? = some ks[i] := List.getElem?_eq_getElem (by omega)
  obtain ⟨b, hb, hq⟩ := tpx_at ia i _ ek
  have e1 : kT ks[i] = x.1 := by
    have := congrArg (fun l => l[i]?) h1
    simp [hi, e, ek] at this
    exact this.symm
  have e2 : b = x.2.1 := by
    rw [← h2] at hb
    simp [hi, e] at hb
    exact hb.symm
  rw [← e1, ← e2]
  exact key_is I hq
theorem at_some {xs : List (List Key × Addr × Value)} {k : List Int} (h : xs.map (·.1) = ks.map kT) : (atKey xs (kT k)).isSome = decide (k ∈ ks) := by
  unfold atKey
  rw [Option.isSome_map, Bool.eq_iff_iff, List.find?_isSome, decide_eq_true_eq]
  constructor
  · rintro ⟨x, hx, e⟩
    have e : x.1 = kT k := of_decide_eq_true e
    obtain ⟨q, hq, z⟩ := List.mem_map.mp (show x.1 ∈ ks.map kT from h ▸ List.mem_map.mpr ⟨x, hx, rfl⟩)
    rw [← z] at e
    exact kT_inj e ▸ hq
  · intro hk
    obtain ⟨x, hx, e⟩ := List.mem_map.mp (show kT k ∈ xs.map (·.1) from h ▸ List.mem_map.mpr ⟨k, hk, rfl⟩)
    exact ⟨x, hx, decide_eq_true e⟩
/-! ### k in d, k not in d -/
def rXIn (K : PySem.W.Frag) (neg : Bool) : R2 := fun x y H Q => ∃ (B : Hp) (b p : Addr) (k : List Int) (ks : List (List Int)) (vs : List V), x = .ref b ∧ y = .ref p ∧ SqT K H b (k.map V.int) ∧ H p = some (dxO p ks vs) ∧ IpAll K B H vs (ks.map tpxI) ∧ Q (.bl (neg != decide (k ∈ ks))) H
theorem op_xnotin (hu : X.A.units + 1 < cLine) : OpR X (compareOp .NotIn) (rXIn X.K true) := by
  rintro pins s σ H x y u v Q I rx ry ⟨B, b, p, k, ks, vs, rfl, rfl, hq, hp, ia, q⟩
  cases (show u = Value.ref b from rx)
  cases (show v = Value.ref p from ry)
  obtain ⟨xs, h1, h2, h3, h4, dd⟩ := dx_at I hp ia
  refine wpAny_notIn_heap (tupleKind_room_in1 hu) (key_is I hq) h3 dd ?_
  rw [at_some h1]
  exact ⟨.bl (!decide (k ∈ ks)), H, I.tok _, rfl, by simpa using q⟩
/-! ### d[k] = v -/
def addK (ks : List (List Int)) (k : List Int) : List (List Int) := if k ∈ ks then ks else ks ++ [k]
def addV (ks : List (List Int)) (vs : List V) (k : List Int) (b : Addr) : List V := if k ∈ ks then vs else vs ++ [.ref b]
/-- the object behind d[k] = v -/
theorem dx_new {h' : Heap} {xs : List (List Key × Addr × Value)} {k : List Int} {b : Addr} {r : Value} (h1 : xs.map (·.1) = ks.map kT) (h2 : (xs.map fun x => V.ref x.2.1) = vs) (h3 : (p == sysModules) = false) (h4 : xs.length < sizeLine) (dd : h'.DictOfH (tupleKind (mixKind X.prog X.w)) p (storedH xs (kT k) b r)) (H' : Hp) :
    ObjOk X.prog X.w H' h' p (dxO p (addK ks k) (addV ks vs k b)) := by
  obtain ⟨o, es, ep, ho, hx, hd, he, _, hn⟩ := dd
  have e1 : (storedH xs (kT k) b r).map (·.1) = (addK ks k).map kT := by
    unfold storedH addK
    rw [at_some h1]
    by_cases c : k ∈ ks
    · rw [if_pos (decide_eq_true c), if_pos c, List.map_map, ← h1]
      apply List.map_congr_left
      intro x _
      show (putAt (kT k) r x).1 = x.1
      unfold putAt
      split <;> rfl
    · rw [if_neg (by simpa using c), if_neg c, List.map_append, List.map_append, h1]; rfl
  have e2 : ((storedH xs (kT k) b r).map fun x => V.ref x.2.1) = addV ks vs k b := by
    unfold storedH addV
    rw [at_some h1]
    by_cases c : k ∈ ks
    · rw [if_pos (decide_eq_true c), if_pos c, List.map_map, ← h2]
      apply List.map_congr_left
      intro x _
      show V.ref (putAt (kT k) r x).2.1 = V.ref x.2.1
      unfold putAt
      split <;> rfl
    · rw [if_neg (by simpa using c), if_neg c, List.map_append, h2]; rfl
  have e3 : (storedH xs (kT k) b r).length ≤ sizeLine := by
    unfold storedH
    split
    · rw [List.length_map]; omega
    · rw [List.length_append, List.length_singleton]; omega
  refine ⟨⟨_, e1, e2, h3, e3, hn, o, es, ep, ho, hx, hd, fun P w => by rw [he]; exact ent_same e1⟩, ⟨o, ho⟩, ?_⟩
  rintro g1 g2 ⟨xs', a1, a2, a3, a4, a5, o', es', ep', b1, b2⟩ kp
  exact ⟨xs', a1, a2, a3, a4, a5, o', es', ep', kp _ b1, b2⟩
def sXPut (K : PySem.W.Frag) (td ty tv : TE) : TS := fun D σ H => tv σ H fun v H1 => td σ H1 fun x H2 => ty σ H2 fun y H3 => ∃ (B : Hp) (b p : Addr) (k : List Int) (ks : List (List Int)) (vs : List V), x = .ref p ∧ y = .ref b ∧ SqT K H3 b (k.map V.int) ∧ H3 p = some (dxO p ks vs) ∧ IpAll K B H3 vs (ks.map tpxI) ∧ ks.length < sizeLine ∧ D.nx σ (upd H3 p (dxO p (addK ks k) (addV ks vs k b)))
theorem ps_xput {o i value : Expr} {td ty tv : TE} {pos pos' : Pos} (hu : X.A.units + 1 < cLine) (ho : PE X o td) (hi : PE X i ty) (hv : PE X value tv) (hs : swapsWith value (some (.Subscript o i pos')) pos.line X.env = pure false) : PS X (.Assign [.Subscript o i pos'] value pos) (sXPut X.K td ty tv) := by
  refine ⟨fun pins s σ H D I h => wpAny_Assign_Subscript (thn (hv.run pins s σ H _ I h) fun r s1 ⟨v, H1, I1, rv, q1⟩ => thn (ho.run pins s1 σ H1 _ I1 q1) fun u s2 ⟨x, H2, I2, rx, q2⟩ => thn (hi.run pins s2 σ H2 _ I2 q2) fun iv s3 ⟨y, H3, I3, ry, B, b, p, k, ks, vs, ex, ey, hq, hp, ia, hz, q3⟩ => ?_) hs⟩
  subst ex ey
  cases (show u = Value.ref p from rx)
  cases (show iv = Value.ref b from ry)
  obtain ⟨xs, h1, h2, h3, h4, dd⟩ := dx_at I3 hp ia
  have hl : xs.length = ks.length := by have := congrArg List.length h1; simpa using this
  refine wpAny_setItem_heap (hsz := h4) (tupleKind_room_in1 hu) (key_is I3 hq) dd fun h' dd' hs' => ⟨σ, _, ?_, q3⟩
  have he : ∃ q, h'.get? p = some q := let ⟨q, _, _, hq, _⟩ := dd'; ⟨q, hq⟩
  exact d_write I3 (by rw [hp]; trivial) hs' he (dx_new h1 h2 h3 (by omega) dd' _)
end
end DL

set_option Elab.async false
set_option linter.all false
set_option maxRecDepth 100000
set_option maxHeartbeats 4000000
set_option checkBinderAnnotations false
/-! DMj: the same on data: {k: v}, {}, k in d, d[k] = v. -/
namespace DL
open PySem L2
open PySem.Spec PyProof.Rows
theorem SR.dicX {K : PySem.W.Frag} {B H : Hp} {σ : L2.St} {ρ : En} {i : Nat} {kvs : List (List Int × D)} (s : SR K B σ ρ H) (h : dicAt 2 ρ i = some kvs) : ∃ p vs, σ[i]? = some (some (.ref p)) ∧ B p = none ∧ H p = some (dxO p (kvs.map (·.1)) vs) ∧ IpAll K B H vs ((kvs.map (·.1)).map tpxI) := by
  obtain ⟨v, hv, p, vs, rfl, h1, h2, h3⟩ := s.slot i _ (dicAt_some h)
  refine ⟨p, vs, hv, h1, h2, ?_⟩
  rw [List.map_map]
  exact h3
def keyX : D → Option (List Int)
  | .tpx es => intsOf es
  | _ => none
theorem keyX_some {d : D} {k : List Int} (h : keyX d = some k) : d = tpxI k := by
  cases d with
  | tpx es => rw [intsOf_eq (show intsOf es = some k from h)]; rfl
  | _ => cases h
def hasK (kvs : List (List Int × D)) (k : List Int) : Bool := decide (k ∈ kvs.map (·.1))
def putX (kvs : List (List Int × D)) (k : List Int) : List (List Int × D) := if k ∈ kvs.map (·.1) then kvs else kvs ++ [(k, .non)]
theorem putX_keys (kvs : List (List Int × D)) (k : List Int) : (putX kvs k).map (·.1) = addK (kvs.map (·.1)) k := by
  unfold putX addK
  split <;> simp
theorem tpxI_sq {K : PySem.W.Frag} {B H : Hp} {v : V} {k : List Int} (h : Ip K B H v (tpxI k)) : ∃ b, v = .ref b ∧ SqT K H b (k.map V.int) := by
  cases h with
  | tpx hh _ ia =>
    have ev := ints_vs ia (intsOf_map k)
    subst ev
    exact ⟨_, rfl, .inl (.inr ⟨_, hh⟩)⟩
def wXIn (neg : Bool) (i : Nat) (wk : EW) : EW := fun ρ Q X => wk ρ (fun r ρ1 => match r with
  | .dat d => withOp (keyX d) fun k => withOp (dicAt 2 ρ1 i) fun kvs => Q (.dat (.bl (neg != hasK kvs k))) ρ1
  | _ => False) X
def wXPut (i : Nat) (wk wv : EW) : SW := fun E ρ => wv ρ (fun r ρ1 => match r with
  | .dat _ => isOwn ρ1[i]? = true ∧ wk ρ1 (fun rk ρ2 => match rk with
    | .dat dk => withOp (keyX dk) fun k => withOp (dicAt 2 ρ2 i) fun kvs => kvs.length < sizeLine ∧ E.nx (ρ2.set i (some (.dic ⟨2, putX kvs k⟩)))
    | _ => False) E.ex
  | _ => False) E.ex
section
variable {K : PySem.W.Frag} {W : WX}
theorem sim_xin (neg : Bool) (i : Nat) {tk : TE} {wk : EW} (hk : SimE K W tk wk) : SimE K W (tOp (rXIn K neg) tk (tVar i)) (wXIn neg i wk) := by
  intro B σ ρ H Qw Xw Q s h hx q
  refine hk B σ ρ H _ Xw _ s h hx fun v r B1 ρ1 H1 s1 t1 rv1 q1 => ?_
  cases r with
  | dat d =>
    obtain ⟨k, ek, qa⟩ := withOp_some q1
    obtain ⟨kvs, ed, qb⟩ := withOp_some qa
    have rv1 : Ip K B1 H1 v d := rv1
    rw [keyX_some ek] at rv1
    obtain ⟨b, rfl, hq⟩ := tpxI_sq rv1
    obtain ⟨p, vs, hp, nb, hh, ia⟩ := s1.dicX ed
    refine ⟨_, hp, B1, b, p, k, _, vs, rfl, rfl, hq, hh, ia, ?_⟩
    exact q (.bl _) (.dat (.bl (neg != hasK kvs k))) B1 ρ1 H1 s1 t1 (show Ip K B1 H1 (.bl _) (.bl _) from .bl _) qb
  | _ => exact q1.elim
theorem sim_xput (i : Nat) {tk tv : TE} {wk wv : EW} (hk : SimE K W tk wk) (hv : SimE K W tv wv) : SimS K W (sXPut K (tVar i) tk tv) (wXPut i wk wv) := by
  intro H0 B0 L B σ ρ H E Ew f h n r b c x
  refine hv B σ ρ H _ _ _ f.toSR h (xw f x) fun v rr B1 ρ1 H1 s1 t1 rv q => ?_
  have f1 := f.step s1 t1
  have g1 := t1.gr f.toSR
  cases rr with
  | dat d =>
    obtain ⟨ho, q⟩ := q
    obtain ⟨sl, e, ht⟩ := isOwn_some ho
    obtain ⟨u, hu, _⟩ := s1.slot i sl e
    refine ⟨u, hu, ?_⟩
    refine hk B1 σ ρ1 H1 _ _ _ s1 q (xw f1 (fun c B9 σ9 ρ9 H9 f9 g9 => x c B9 σ9 ρ9 H9 f9 (g1.trans g9))) fun vk rk B2 ρ2 H2 s2 t2 rvk q2 => ?_
    have f2 := f1.step s2 t2
    cases rk with
    | dat dk =>
      obtain ⟨k, ek, qa⟩ := withOp_some q2
      obtain ⟨kvs, ed, hz, qb⟩ := withOp_some qa
      have rvk : Ip K B2 H2 vk dk := rvk
      rw [keyX_some ek] at rvk
      obtain ⟨t, rfl, htt⟩ := tpxI_sq rvk
      obtain ⟨p, vs, hp, nb, hh, ia⟩ := s2.dicX ed
      have eu : u = .ref p := Option.some.inj (Option.some.inj (hu.symm.trans hp))
      subst eu
      refine ⟨B2, t, p, k, _, vs, rfl, rfl, htt, hh, ia, by rw [List.length_map]; exact hz, ?_⟩
      have ia' : IpAll K B2 H2 (addV (kvs.map (·.1)) vs k t) ((putX kvs k).map fun e => D.tpx (e.1.map .int)) := by
        have e1 : ((putX kvs k).map fun e => D.tpx (e.1.map .int)) = (addK (kvs.map (·.1)) k).map tpxI := by
          rw [← putX_keys, List.map_map]; rfl
        rw [e1]
        unfold addV addK
        split
        · exact ia
        · rw [List.map_append]
          exact ia.append (.cons rvk .nil)
      have ho2 : isOwn ρ2[i]? = true := by rw [dicAt_some ed]; rfl
      rw [← putX_keys]
      obtain ⟨s3, t3⟩ := s2.mutG (H' := upd H2 p (dxO p ((putX kvs k).map (·.1)) (addV (kvs.map (·.1)) vs k t))) (sl' := .dic ⟨2, putX kvs k⟩) ho2 hp (fun b o e hb => by rw [upd_ne hb]; exact e) rfl (fun ds z => by rw [dicAt_some ed] at z; cases z) fun tu => ⟨p, _, rfl, nb, upd_same, ia'.mono (Same.refl _) tu⟩
      exact n B2 σ _ _ (f2.step s3 t3) ((g1.trans (t2.gr s1)).trans (t3.gr s2)) qb
    | _ => exact q2.elim
  | _ => exact q.elim
end
/-! ### {}, {k: v} -/
theorem dx_empty {P : Program} {w : World} {H : Hp} (h : Heap) (hb : sysModules < h.objs.size) : ObjOk P w H (h.push { cls := .type "dict", data := .dict #[] }) h.objs.size (dxO h.objs.size [] []) := by
  obtain ⟨_, hd, xs, pr, o, es, ep, ho, hx, hdt, he, hn⟩ := dt_empty (P := P) (w := w) (H := H) h hb
  have e0 : xs = [] := by cases pr; rfl
  subst e0
  have h1 : (([] : List (List Key × Addr × Value)).map (·.1)) = ([] : List (List Int)).map kT := by rw [List.map_nil, List.map_nil]
  have h2 : (([] : List (List Key × Addr × Value)).map fun x => V.ref x.2.1) = [] := List.map_nil
  have h6 : ∀ (P' : Program) (w' : World), es.toList = ([] : List (List Key × Addr × Value)).map (entryOfKey (tupleKind (mixKind P' w'))) := fun P' w' => by rw [he, List.map_nil, List.map_nil]
  refine ⟨⟨[], h1, h2, hd, Nat.zero_le _, hn, o, es, ep, ho, hx, hdt, h6⟩, ⟨o, ho⟩, ?_⟩
  rintro g1 g2 ⟨xs', a1, a2, a3, a4, a5, o', es', ep', b1, b2⟩ kp
  exact ⟨xs', a1, a2, a3, a4, a5, o', es', ep', kp _ b1, b2⟩
def tXDisp1 (K : PySem.W.Frag) (tk tv : TE) : TE := fun σ H Q => ∀ p, H p = none → tk σ (upd H p (dxO p [] [])) fun x H1 => tv σ H1 fun y H2 => H2 p = some (dxO p [] []) ∧ ∃ b k, x = .ref b ∧ SqT K H2 b (k.map V.int) ∧ Q (.ref p) (upd H2 p (dxO p [k] [.ref b]))
theorem pe_xdisp1 {X : Cx} {k v : Expr} {tk tv : TE} {pos : Pos} (hu : X.A.units + 1 < cLine) (hk : PE X k tk) (hv : PE X v tv) : PE X (.Dict [some k] [v] pos) (tXDisp1 X.K tk tv) := by
  refine ⟨fun pins s σ H Q I q => ?_⟩
  have hn := I.hok.fresh (Nat.le_refl s.heap.objs.size)
  have I1 := I.laid (a := s.heap.objs.size) (o := dxO s.heap.objs.size [] []) (h' := s.heap.push { cls := .type "dict", data := .dict #[] }) (t' := s.toks) (fun _ _ q => Heap.get?_push_of_some _ q) (Nat.le_refl _) (dx_empty s.heap I.big)
  rw [arm_eval_Dict, zip_pairTrees [some k] [v] X.env pos rfl rfl, dictDisplay_pairs (pairTrees [some k] [v] X.env pos) (by simp [pairTrees]) (by simp [pairTrees])]
  refine wpAny_bind (wpAny_standAt (wpAny_bind ?_))
  unfold subDict
  refine wpAny_bind (wpAny_alloc ?_)
  refine wpAny_bind (wpAny_holding ?_)
  rw [if_pos (by simp [pairTrees])]
  refine wpAny_bind (pairTrees_cons_walk (thn (hk.run pins _ σ _ _ I1 (q _ hn)) fun u s1 ⟨x, H1, I2, rx, q1⟩ => thn (hv.run pins s1 σ H1 _ I2 q1) fun w2 s2 ⟨y, H2, I3, ry, q2⟩ => pairTrees_nil_walk ?_))
  obtain ⟨hp, b, kk, rfl, hb, q2⟩ := q2
  cases (show u = Value.ref b from rx)
  have ia0 : IpAll X.K (fun _ => none) H2 [] (([] : List (List Int)).map tpxI) := by
    rw [List.map_nil]
    exact .nil
  obtain ⟨xs, h1, h2, h3, h4, dd⟩ := dx_at (B := fun _ => none) I3 hp ia0
  clear h4
  have e0 : xs = [] := by cases xs with | nil => rfl | cons => cases h1
  subst e0
  refine wpAny_holding ?_
  rw [List.forIn_cons]
  refine wpAny_bind (wpAny_bind (wpAny_bind (wpAny_dictSet_heap (knd := tupleKind (mixKind X.prog X.w)) (by first | exact hu | exact Nat.lt_of_succ_lt hu) (key_is I3 hb) dd (hsz := by rw [DL.sizeLine_eq]; simp) fun h' dd' hs => wpAny_pure ?_)))
  dsimp only
  rw [List.forIn_nil]
  refine wpAny_pure (wpAny_pure (wpAny_pure (wpAny_pure ?_)))
  have he : ∃ q, h'.get? s.heap.objs.size = some q := let ⟨q, _, _, hq, _⟩ := dd'; ⟨q, hq⟩
  have hz : ([] : List (List Key × Addr × Value)).length < sizeLine := by rw [DL.sizeLine_eq]; simp
  have ea : addK [] kk = [kk] := by simp [addK]
  have eb : addV [] [] kk b = [V.ref b] := by simp [addV]
  have nw := dx_new (X := X) (p := s.heap.objs.size) (ks := []) (vs := []) (k := kk) (b := b) h1 h2 h3 hz dd' (upd H2 s.heap.objs.size (dxO s.heap.objs.size [kk] [.ref b]))
  rw [ea, eb] at nw
  exact ⟨.ref s.heap.objs.size, _, d_write I3 (by rw [hp]; trivial) hs he nw, rfl, q2⟩
def wXDisp1 (wk wv : EW) : EW := fun ρ Q X => wk ρ (fun r ρ1 => wv ρ1 (fun r' ρ2 => match r, r' with
  | .dat dk, .dat _ => withOp (keyX dk) fun k => Q (.dic ⟨2, [(k, .non)]⟩) ρ2
  | _, _ => False) X) X
section
variable {K : PySem.W.Frag} {W : WX}
theorem sim_xdisp1 {tk tv : TE} {wk wv : EW} (hk : SimE K W tk wk) (hv : SimE K W tv wv) : SimE K W (tXDisp1 K tk tv) (wXDisp1 wk wv) := by
  intro B σ ρ H Qw Xw Q s h hx q p hp
  have sm : Same H (upd H p (dxO p [] [])) := same_new hp
  have s0 := s.same sm
  have t0 : Tr σ B ρ H B ρ (upd H p (dxO p [] [])) := Tr.same sm
  have no : ¬ OwnAt σ ρ p := fun z => by obtain ⟨o, e, _⟩ := s.own z; rw [hp] at e; cases e
  have nb : B p = none := Same.bnone s.sub hp
  refine hk B σ ρ _ _ Xw _ s0 h (hx.lift s0 t0) fun v r B1 ρ1 H1 s1 t1 rv1 q1 => ?_
  refine hv B1 σ ρ1 H1 _ Xw _ s1 q1 ((hx.lift s0 t0).lift s1 t1) fun v2 r2 B2 ρ2 H2 s2 t2 rv2 q2 => ?_
  have t12 := t1.trans s1 t2
  have hp2 : H2 p = some (dxO p [] []) := t12.ext p _ upd_same no
  have no2 : ¬ OwnAt σ ρ2 p := fun z => no (t12.ownAt.mp z)
  have nb2 : B2 p = none := by
    cases e : B2 p with
    | none => rfl
    | some o =>
      exfalso
      rcases t12.bnew p (by rw [e]; simp) with z | z
      · exact z nb
      · rw [upd_same] at z; cases z
  refine ⟨hp2, ?_⟩
  cases r with
  | dat dk =>
    cases r2 with
    | dat d =>
      obtain ⟨k, ek, qb⟩ := withOp_some q2
      have rk : Ip K B2 H2 v dk := Ip.step s1 t2 rv1
      rw [keyX_some ek] at rk
      obtain ⟨t, rfl, ht⟩ := tpxI_sq rk
      refine ⟨t, k, rfl, ht, ?_⟩
      have ext : ∀ b o, H2 b = some o → b ≠ p → (upd H2 p (dxO p [k] [.ref t])) b = some o := fun b o e hb => by rw [upd_ne hb]; exact e
      have s3 := s2.chg hp2 rfl nb2 no2 ext
      have t3 : Tr σ B ρ H B2 ρ2 (upd H2 p (dxO p [k] [.ref t])) := ⟨fun b o e n => ext b o (t12.ext b o (sm b o e) n) (ne_of_none e hp), t12.bex, fun b hb => (t12.bnew b hb).imp id fun z => by
        by_cases hbp : b = p
        · subst hbp; exact hp
        · rw [upd_ne hbp] at z; exact z, t12.shp, t12.shi⟩
      exact q (.ref p) (.dic ⟨2, [(k, .non)]⟩) B2 ρ2 _ s3 t3 ⟨p, [.ref t], rfl, hp, nb2, upd_same, .cons (Ip.mono (Same.refl _) (tups_at hp2 rfl ext) rk) .nil, no2⟩ qb
    | _ => exact q2.elim
  | _ => exact q2.elim
end
section
variable {X : Cx} {W : WX} {e k v : Expr} {wk wv : EW} {x : Str} {pos p p2 : Pos}
theorem de_xdisp1 (hu : X.A.units + 65 < cLine) (hk : DE X W k wk) (hv : DE X W v wv) : DE X W (.Dict [some k] [v] pos) (wXDisp1 wk wv) := by
  obtain ⟨t, pk, sk⟩ := hk.ok
  obtain ⟨t2, pv, sv⟩ := hv.ok
  exact ⟨_, pe_xdisp1 (by omega) pk pv, sim_xdisp1 sk sv⟩
theorem dt_xnotin (hu : X.A.units + 65 < cLine) (i : Nat) (hk : DE X W k wk) (hN : X.N[i]? = some x := by rfl) (hv : Vis X.env.scope x := by first | exact Or.inl rfl | exact Or.inr (Or.inl rfl) | exact Or.inr (Or.inr rfl)) (hd : (x == ("__debug__" : Str)) = false := by decide)
    (hcd : (x == ("__classdict__" : Str)) = false := by decide) (hm : behindInMarks .NotIn (.Name x p) = false := by rfl) : DT X W (.Compare k [.NotIn] [.Name x p] pos) (wTb (wXIn true i wk)) := by
  obtain ⟨t, pk, sk⟩ := hk.ok
  exact ⟨_, pt_cmpR (op_xnotin (by omega)) pk (pe_var hN hv hd hcd) hm, sim_trub (sim_xin true i sk)⟩
theorem ds_xput (hu : X.A.units + 65 < cLine) (i : Nat) (hk : DE X W k wk) (hv : DE X W v wv) (hN : X.N[i]? = some x := by rfl) (hvx : Vis X.env.scope x := by first | exact Or.inl rfl | exact Or.inr (Or.inl rfl) | exact Or.inr (Or.inr rfl)) (hd : (x == ("__debug__" : Str)) = false := by decide)
    (hcd : (x == ("__classdict__" : Str)) = false := by decide) (hs : swapsWith v (some (.Subscript (.Name x p) k p2)) pos.line X.env = pure false := by rfl) : DS X W (.Assign [.Subscript (.Name x p) k p2] v pos) (wXPut i wk wv) := by
  obtain ⟨t, pk, sk⟩ := hk.ok
  obtain ⟨t2, pv, sv⟩ := hv.ok
  exact ⟨_, ps_xput (by omega) (pe_var hN hvx hd hcd) pk pv hs, sim_xput i sk sv⟩
end
end DL

set_option Elab.async false
set_option linter.all false
set_option maxRecDepth 100000
set_option maxHeartbeats 4000000
set_option checkBinderAnnotations false
/-! DMk: {}, sorted of tuples that have no dict, and of a dict with such keys. -/
namespace DL
open PySem L2
open PySem.Spec PyProof.Rows DLSort
def wXNew : EW := fun ρ Q _ => Q (.dic ⟨2, []⟩) ρ
def tXNew : TE := fun _ H Q => ∀ p, H p = none → Q (.ref p) (upd H p (dxO p [] []))
/-! ### sorted -/
section
variable {K : PySem.W.Frag} {B H : Hp}
def untpx : D → List Int
  | .tpx es => (intsOf es).getD []
  | _ => []
@[simp] theorem untpx_tpxI (n : List Int) : untpx (tpxI n) = n := by show (intsOf (n.map D.int)).getD [] = n; rw [intsOf_map]; rfl
theorem tkleX {Bd : Int} : ∀ {ts : List (List Int)} {zs : List V}, IpAll K B H zs (ts.map tpxI) → zs.Pairwise (TkLe K H Bd) → ts.Pairwise (fun a b => TS.code Bd a ≤ TS.code Bd b)
  | [], _, _, _ => .nil
  | t :: ts, _, .cons h r, p => by
    obtain ⟨p1, p2⟩ := List.pairwise_cons.mp p
    refine List.pairwise_cons.mpr ⟨fun u hu => ?_, tkleX r p2⟩
    obtain ⟨j, hj⟩ := List.mem_iff_getElem?.mp hu
    obtain ⟨v, hv, iv⟩ := r.get (i := j) (d := tpxI u) (by rw [List.getElem?_map, hj]; rfl)
    obtain ⟨a, rfl, ha⟩ := tpxI_sq h
    obtain ⟨b, rfl, hb⟩ := tpxI_sq iv
    exact p1 _ (List.mem_of_getElem? hv) a b t u rfl rfl ha hb
theorem tksX {d : Nat} {Bd : Int} {ts : List (List Int)} {xs : List V} (ia : IpAll K B H xs (ts.map tpxI)) (h : ∀ t ∈ ts, t.length = d ∧ TS.Bd Bd t) : Tks K H d Bd xs := fun x hx => by
  obtain ⟨j, hj⟩ := List.mem_iff_getElem?.mp hx
  obtain ⟨e, he, ie⟩ := ia.getV hj
  rw [List.getElem?_map] at he
  obtain ⟨t, ht, rfl⟩ := Option.map_eq_some_iff.mp he
  obtain ⟨a, rfl, ha⟩ := tpxI_sq ie
  exact ⟨a, t, rfl, ha, h t (List.mem_of_getElem? ht)⟩
theorem perm_tpxI {ts : List (List Int)} {ds : List D} (p : ds.Perm (ts.map tpxI)) : ∃ ts' : List (List Int), ts'.Perm ts ∧ ds = ts'.map tpxI := by
  refine ⟨ds.map untpx, ?_, ?_⟩
  · have := p.map untpx
    rw [List.map_map] at this
    have e : ts.map (untpx ∘ tpxI) = ts := by
      conv => rhs; rw [← List.map_id ts]
      exact List.map_congr_left fun n _ => untpx_tpxI n
    rw [e] at this
    exact this
  · rw [List.map_map]
    conv => lhs; rw [← List.map_id ds]
    refine List.map_congr_left fun d hd => ?_
    obtain ⟨n, _, rfl⟩ := List.mem_map.mp (p.mem_iff.mp hd)
    show tpxI n = tpxI (untpx (tpxI n))
    rw [untpx_tpxI]
def gSrtX : GN
  | [d], Q => withOp (seqD d) fun ds => ∃ (ts : List (List Int)) (n : Nat) (Bd : Int), ds = ts.map tpxI ∧ 1 ≤ n ∧ (∀ t ∈ ts, t.length = n ∧ TS.Bd Bd t) ∧ ∀ ts' : List (List Int), ts'.Perm ts → ts'.Pairwise (fun a b => TS.code Bd a ≤ TS.code Bd b) → Q (.own (ts'.map tpxI))
  | _, _ => False
theorem cs_srtX : CallS K (rSrtT K) gSrtX := by
  intro B H xs ds Qw Q sub hr g p
  match ds, hr, g with
  | [d], hr, g =>
    obtain ⟨x, rfl, h⟩ := rd1 hr
    obtain ⟨es, e, g⟩ := withOp_some g
    obtain ⟨a, xs, rfl, hs, ia⟩ := seqD_sq h e
    obtain ⟨ts, n, Bd, rfl, hd, ht, g⟩ := g
    refine ⟨a, xs, n, Bd, rfl, hs, hd, tksX ia ht, fun zs q hp hq hh => ?_⟩
    obtain ⟨ds', i1, i2⟩ := ia.perm hp
    obtain ⟨ts', h1, rfl⟩ := perm_tpxI i2
    exact p.lst i1 (g ts' h1 (tkleX i1 hq)) q hh
end
/-! ### sorted(d) -/
def rSrtX (K : PySem.W.Frag) : List V → Hp → VK → Prop := fun us H Q => ∃ (B : Hp) (a : Addr) (ks : List (List Int)) (vs : List V) (d : Nat) (Bd : Int), us = [V.ref a] ∧ H a = some (dxO a ks vs) ∧ IpAll K B H vs (ks.map tpxI) ∧ 1 ≤ d ∧ (∀ k ∈ ks, k.length = d ∧ TS.Bd Bd k) ∧
  ∀ (zs : List V) (p : Addr), zs.Perm vs → zs.Pairwise (TkLe K H Bd) → H p = none → Q (.ref p) (upd H p (.lst zs))
theorem cr_srtX {X : Cx} (hc : X.calm = true) : CallR X (.builtin "sorted") (rSrtX X.K) := by
  intro pins s σ H us ws Q I r h
  obtain ⟨B, a, ks, vs, d, Bd, rfl, hp, ia, hd, tk, q⟩ := h
  rw [Vals.ref1 r]
  obtain ⟨xs, h1, h2, hsm, h4, o, es, ep, ho, hx, hdt, he, _, hn⟩ := dx_at I hp ia
  have l1 : es.size = xs.length := size_of_entries he
  have col : Col X.prog X.w X.A.in1 X.xe s (.ref a) ((xs.map fun x => x.2.1).map Value.ref) := by
    refine col_kdl (kdl_raw hsm hx hdt) (I.ok.hd hc) ho (by omega) fun acc it => ?_
    have ea : acc.toList = xs.map fun x => Value.ref x.2.1 := by
      have hl : acc.toList.length = xs.length := by rw [Array.length_toList, it.1]; exact l1
      apply List.ext_getElem?
      intro j
      rw [List.getElem?_map]
      cases hj : acc.toList[j]? with
      | none =>
        have h1 := List.getElem?_eq_none_iff.mp hj
        rw [List.getElem?_eq_none (by omega)]
        all_goals rfl
      | some v =>
        obtain ⟨en, hen, hv⟩ := it.2 j v (by rw [← Array.getElem?_toList]; exact hj)
        have qe := entry_at he j
        rw [hen] at qe
        cases hb : xs[j]? with
        | none =>
          rw [hb] at qe
          exact nomatch (show some en = none from qe)
        | some b =>
          rw [hb] at qe
          have e2 : en = entryOfKey (tupleKind (mixKind X.prog X.w)) b := Option.some.inj qe
          rw [hv, e2]
          all_goals rfl
    rw [ea, List.map_map]
    all_goals rfl
  have ev : (xs.map fun x => x.2.1).map V.ref = vs := by rw [List.map_map, ← h2]; rfl
  rw [← ev] at ia q
  exact srtT_run I (vals_refs _) (by rw [List.length_map, List.length_map]; omega) col hd (tksX ia tk) q
def wXSort (i : Nat) : EW := fun ρ Q _ => withOp (dicAt 2 ρ i) fun kvs => ∃ (d : Nat) (Bd : Int), (1 ≤ d ∧ ∀ k ∈ kvs.map (·.1), k.length = d ∧ TS.Bd Bd k) ∧ ∀ ts : List (List Int), ts.Perm (kvs.map (·.1)) → ts.Pairwise (fun a b => TS.code Bd a ≤ TS.code Bd b) → Q (.own (ts.map tpxI)) ρ
theorem sim_xsort {K : PySem.W.Frag} {W : WX} (i : Nat) : SimE K W (tCB (rSrtX K) (tCons (tVar i) tNil)) (wXSort i) := by
  intro B σ ρ H Qw Xw Q s h hx q
  obtain ⟨kvs, ed, d, Bd, ⟨hd, ht⟩, q1⟩ := withOp_some h
  obtain ⟨p, vs, hp, nb, hh, ia⟩ := s.dicX ed
  refine ⟨_, hp, B, p, _, vs, d, Bd, rfl, hh, ia, hd, ht, fun zs l hpm hpw hl' => ?_⟩
  obtain ⟨ds', i1, i2⟩ := ia.perm hpm
  obtain ⟨ts', h1, rfl⟩ := perm_tpxI i2
  have sm : Same H (upd H l (.lst zs)) := same_new hl'
  have rv : RvV K B H (upd H l (.lst zs)) (.ref l) (.own (ts'.map tpxI)) := ⟨l, _, rfl, hl', upd_same, i1.mono (Same.refl _) (Tups.of sm)⟩
  exact q _ _ B ρ _ (s.same sm) (Tr.same sm) (rv.rv s sm) (q1 ts' h1 (tkleX i1 hpw))
theorem de_xsort {X : Cx} {W : WX} {x : Str} {pos p p2 : Pos} (hc : X.calm = true) (hg : Gl X "sorted") (hm : X.mg "sorted" = none) (i : Nat) (hN : X.N[i]? = some x := by rfl) (hv : Vis X.env.scope x := by first | exact Or.inl rfl | exact Or.inr (Or.inl rfl) | exact Or.inr (Or.inr rfl)) (hd : (x == ("__debug__" : Str)) = false := by decide)
    (hcd : (x == ("__classdict__" : Str)) = false := by decide) (hs : starEach [.Name x p2] X.env = (false, eval (.Name x p2) X.env) :: starEach [] X.env := by rfl) : DE X W (.Call (.Name "sorted" p) [.Name x p2] [] pos) (wXSort i) :=
  ⟨_, pe_callB (cr_srtX hc) hg hm (by decide +kernel) (pa_cons (pe_var hN hv hd hcd) pa_nil hs) (by decide) (by decide) hs rfl, sim_xsort i⟩
/-! ### tuple(range(n)), known to have no dict -/
theorem pe_tupRgX {X : Cx} {e : Expr} {te : L2.St → Hp → (Int → Int → Hp → Prop) → Prop} {p pos : Pos} (hc : X.calm = true) (hg : Gl X "tuple") (hm : X.mg "tuple" = none) (he : PRg X e te) (na : starEach [e] X.env = (false, eval e X.env) :: starEach [] X.env) :
    PE X (.Call (.Name "tuple" p) [e] [] pos) (fun σ H Q => te σ H fun a b H1 => RgOk a b ∧ ∀ q o, H1 q = none → o.dict = none → Q (.ref q) (upd H1 q (.frz o (.tup (rgV a b))))) := by
  refine ⟨fun pins s σ H Q I h => Call_ (ld_blt I hg hm boot_tuple (PyProof.Rows.callWith_type1 (args_cons (thn (he pins s σ H _ I h) fun x s1 ⟨r, a, b, t, u, v, H1, ex, hr, I1, ok, q⟩ => args_nil ?_) na) na))⟩
  subst ex
  obtain ⟨b1, b2, b3, b4, b5⟩ := ok
  refine call_tuple_range (n := (b - a).toNat) (I1.ok.hd hc) hr (small_one b1 b2 b3 b4) (rangeSize_nat a b) b5 fun h' tk acc hk hi => ?_
  have I2 : Inv X pins σ H1 { s1 with heap := h', toks := tk } := I1.kept hk
  have hz : (rgV a b).length ≤ sizeLine := by rw [rgV_length, DL.sizeLine_eq]; omega
  exact ⟨.ref h'.objs.size, _, I2.laid (t' := tk) (o := .frz _ (.tup (rgV a b))) (fun c o e => Heap.get?_push_of_some _ e) (Nat.le_refl _) ⟨Heap.get?_push_size _ rfl, hz, acc.toList, vals_rg hi, by rw [Array.toArray_toList]; exact IsTup.new _ _⟩, rfl, q _ _ (I2.hok.fresh (Nat.le_refl _)) rfl⟩
def wTupRgX (we : IW) : EW := fun ρ Q X => we ρ (fun ds ρ1 => ds.length ≤ 16777216 ∧ Q (.dat (.tpx ds)) ρ1) X
theorem de_tupRgX {X : Cx} {W : WX} {a : Expr} {wa : EW} {p p2 pos pos2 : Pos} (hc : X.calm = true) (hg0 : Gl X "tuple") (hm0 : X.mg "tuple" = none) (hg : Gl X "range") (hm : X.mg "range" = none) (ha : DE X W a wa) (na : starEach [a] X.env = (false, eval a X.env) :: starEach [] X.env := by rfl)
    (nb : starEach [Expr.Call (.Name "range" p) [a] [] pos] X.env = (false, eval (Expr.Call (.Name "range" p) [a] [] pos) X.env) :: starEach [] X.env := by rfl) : DE X W (.Call (.Name "tuple" p2) [.Call (.Name "range" p) [a] [] pos] [] pos2) (wTupRgX (wRg1 wa)) := by
  obtain ⟨t, pa, sa⟩ := ha.ok
  refine ⟨_, pe_tupRgX hc hg0 hm0 (prg_1 hg hm pa na) nb, fun B σ ρ H Qw Xw Q s h hx q => ?_⟩
  refine sa B σ ρ H _ Xw _ s h hx fun v r B1 ρ1 H1 s1 t1 rv1 q1 => ?_
  cases r with
  | dat d =>
    cases d with
    | int j =>
      cases rv1
      obtain ⟨⟨b1, b2⟩, hl, q1⟩ := q1
      rw [rgD_len] at hl
      have e : ((j : Int) - 0).toNat = j.toNat := by rw [Int.sub_zero]
      refine ⟨j, rfl, ⟨by omega, by omega, b1, b2, by omega⟩, fun p o hp ho => ?_⟩
      have sm : Same H1 (upd H1 p (.frz o (.tup (rgV 0 j)))) := same_new hp
      have rv : RvV X.K B1 H1 (upd H1 p (.frz o (.tup (rgV 0 j)))) (.ref p) (.dat (.tpx (rgD 0 j.toNat))) := show Ip X.K B1 _ (.ref p) (.tpx _) from .tpx (o := o) upd_same ho (by rw [← e]; exact rgV_ip 0 j)
      exact rg_post (j := j) s1 t1 q sm rv q1
    | _ => exact q1.elim
  | _ => exact q1.elim
/-! ### for simp -/
section
variable {ρ : En} {E : EndsW} {Q : Sl → En → Prop} {X : Value → En → Prop} {Qs : Sl → Prop} {ds : List D}
@[simp ↓] theorem e_tupRgX {we : IW} : wTupRgX we ρ Q X = we ρ (fun ds ρ1 => ds.length ≤ 16777216 ∧ Q (.dat (.tpx ds)) ρ1) X := id rfl
@[simp ↓] theorem e_xnew : wXNew ρ Q X = Q (.dic ⟨2, []⟩) ρ := id rfl
@[simp ↓] theorem e_xin {neg : Bool} {i : Nat} {wk : EW} : wXIn neg i wk ρ Q X = wk ρ (fun r ρ1 => match r with
  | .dat d => @WOp _ (keyX d) fun k => @WOp _ (dicAt 2 ρ1 i) fun kvs => Q (.dat (.bl (neg != hasK kvs k))) ρ1
  | _ => False) X := id rfl
@[simp ↓] theorem s_xput {i : Nat} {wk wv : EW} : wXPut i wk wv E ρ = wv ρ (fun r ρ1 => match r with
  | .dat _ => isOwn ρ1[i]? = true ∧ wk ρ1 (fun rk ρ2 => match rk with
    | .dat dk => @WOp _ (keyX dk) fun k => @WOp _ (dicAt 2 ρ2 i) fun kvs => kvs.length < sizeLine ∧ E.nx (ρ2.set i (some (.dic ⟨2, putX kvs k⟩)))
    | _ => False) E.ex
  | _ => False) E.ex := id rfl
@[simp ↓] theorem e_xdisp1 {wk wv : EW} : wXDisp1 wk wv ρ Q X = wk ρ (fun r ρ1 => wv ρ1 (fun r' ρ2 => match r, r' with
  | .dat dk, .dat _ => @WOp _ (keyX dk) fun k => Q (.dic ⟨2, [(k, .non)]⟩) ρ2
  | _, _ => False) X) X := id rfl
@[simp ↓] theorem e_xsort {i : Nat} : wXSort i ρ Q X = @WOp _ (dicAt 2 ρ i) fun kvs => @SrtD (kvs.map (·.1)) fun ts => Q (.own (ts.map tpxI)) ρ := id rfl
def SrtX (ds : List D) [Q : Sl → Prop] : Prop := ∃ (ts : List (List Int)) (n : Nat) (Bd : Int), ds = ts.map tpxI ∧ 1 ≤ n ∧ (∀ t ∈ ts, t.length = n ∧ TS.Bd Bd t) ∧ ∀ ts' : List (List Int), ts'.Perm ts → ts'.Pairwise (fun a b => TS.code Bd a ≤ TS.code Bd b) → Q (.own (ts'.map tpxI))
@[simp ↓] theorem g_srtX : gSrtX [.lst ds] Qs = @SrtX ds Qs := id rfl
end
end DL

set_option Elab.async false
set_option linter.all false
set_option maxRecDepth 100000
set_option maxHeartbeats 4000000
set_option checkBinderAnnotations false
/-! DMl: zip of two lists, of two tuples; isinstance of an own object. -/
namespace DL
open PySem L2
open PySem.Spec PyProof.Rows
def zipD (ds es : List D) : List D := (ds.zip es).map fun x => D.tup [x.1, x.2]
def lsD : D → Option (List D)
  | .lst ds => some ds
  | .fl ds => some ds
  | _ => none
def tsD : D → Option (List D)
  | .tup ds => some ds
  | .tpx ds => some ds
  | _ => none
def zipO (a b : D) : Option (List D) := match lsD a, lsD b with
  | some ds, some es => some (zipD ds es)
  | _, _ => match tsD a, tsD b with
    | some ds, some es => some (zipD ds es)
    | _, _ => none
def wZip (wa : AW) : IW := fun ρ Q X => wa ρ (fun rs ρ1 => withOp (dats rs) fun l => match l with
  | [a, b] => withOp (zipO a b) fun ds => Q ds ρ1
  | _ => False) X
section
variable {K : PySem.W.Frag} {W : WX}
def LsAt (K : PySem.W.Frag) (B H : Hp) (a : Addr) (xs : List V) : Prop := SqL K B a xs ∨ ∃ o, H a = some (.frz o (.lst xs))
theorem LsAt.sq {B0 H0 B H : Hp} {a : Addr} {xs : List V} (h : LsAt K B0 H0 a xs) (ok : okS B0 H0 B H) : SqL K H a xs := by
  obtain ⟨bb, tu, sub⟩ := ok
  rcases h with h | ⟨o, h⟩
  · exact sub.seq (bb.seq h)
  · exact .inl (.inr ⟨o, tu _ _ h rfl⟩)
end
section
variable {X : Cx} {W : WX} {e e2 : Expr} {wa : AW} {pos p tpos : Pos} {elts : List Expr} {kk : Nat}
end
/-! ### isinstance(x, C), x an own object -/
structure ObjC (K : PySem.W.Frag) (C : Addr) : Prop where
  cl : Cls K C
  ha : PySem.W.findIn K (.ref C) "__class__" = some (some (.builtin "object.__class__"))
  hn : PySem.W.specialIn K (.builtin "object.__class__") "__get__" = some (some (.builtin "getset_descriptor.__get__"))
  ht : PySem.W.takesIn K (.builtin "object.__class__") = some true
  hm : PySem.W.mroIn K C (.type "object") = some true
  hk : PySem.W.kitOne K (.ref C) (.ref C) = some true
def objB (K : PySem.W.Frag) (C : Addr) : Bool := He.eqO (PySem.W.findIn K (.ref C) "__class__") (some (some (.builtin "object.__class__"))) && (He.eqO (PySem.W.specialIn K (.builtin "object.__class__") "__get__") (some (some (.builtin "getset_descriptor.__get__"))) && (eB (PySem.W.takesIn K (.builtin "object.__class__")) (some true) && (eB (PySem.W.mroIn K C (.type "object")) (some true) && eB (PySem.W.kitOne K (.ref C) (.ref C)) (some true))))
theorem objB_ok {K : PySem.W.Frag} {C : Addr} (c : Cls K C) (h : objB K C = true) : ObjC K C := by
  unfold objB at h
  obtain ⟨h1, h⟩ := He.ba h
  obtain ⟨h2, h⟩ := He.ba h
  obtain ⟨h3, h⟩ := He.ba h
  obtain ⟨h4, h5⟩ := He.ba h
  exact ⟨c, He.eqO_ok h1, He.eqO_ok h2, eB_ok h3, eB_ok h4, eB_ok h5⟩
def gIsO (K : PySem.W.Frag) (C : Addr) : GN
  | [.obj C' _ _, .adr D], Q => C' = C ∧ D = C ∧ Q (.dat (.bl true))
  | _, _ => False
theorem cs_isO {K : PySem.W.Frag} {C : Addr} (hC : ObjC K C) : CallS K (rIsi K) (gIsO K C) := by
  intro B H xs ds Qw Q sub hx g p
  match ds, g with
  | [.obj C' ns es, .adr D], g =>
    obtain ⟨rfl, rfl, q⟩ := g
    obtain ⟨x, y, rfl, h1, h2⟩ := rd2 hx
    cases h2
    cases h1 with
    | obj hh hl ia => exact ⟨_, _, _, _, true, rfl, .own _, .base (.ins hh hC.cl hC.ha hC.hn hC.ht hC.hm), hC.hk, p.bl q⟩
section
variable {ρ : En} {E : EndsW} {Q : Sl → En → Prop} {QD : List D → En → Prop} {X : Value → En → Prop} {Qs : Sl → Prop} {ds es : List D}
@[simp ↓] theorem i_zip {wa : AW} : wZip wa ρ QD X = wa ρ (fun rs ρ1 => @WOp _ (dats rs) fun l => match l with
  | [a, b] => @WOp _ (zipO a b) fun ds => QD ds ρ1
  | _ => False) X := id rfl
@[simp] theorem zipO_ll : zipO (.lst ds) (.lst es) = some (zipD ds es) := rfl
@[simp] theorem zipO_tt : zipO (.tup ds) (.tup es) = some (zipD ds es) := rfl
@[simp ↓] theorem g_isO {K : PySem.W.Frag} {C C' D : Addr} {ns : List Str} : gIsO K C [.obj C' ns ds, .adr D] Qs = (C' = C ∧ D = C ∧ Qs (.dat (.bl true))) := id rfl
end
end DL

set_option Elab.async false
set_option linter.all false
set_option maxRecDepth 100000
set_option maxHeartbeats 0
/-! DR1: the head's equation in three parts, so that the kernel runs the module once for each and forgets it between them. -/
namespace DL
open PySem PySem.W PySem.Calls PyProof.Rows HandSHeadRun
theorem opt3 {σ α β γ : Type} {x : Option σ} {A : σ → α} {B : σ → β} {C : σ → γ} {a : α} {b : β} {c : γ} (h1 : x.map A = some a) (h2 : x.map B = some b) (h3 : x.map C = some c) : x.map (fun s => (A s, B s, C s)) = some (a, b, c) := by
  cases x with
  | none => cases h1
  | some s =>
    cases h1; cases h2; cases h3
    rfl
def Run1 (r : OpenRow) (M : Nat) (w : World) : Prop := ∀ os : OsState, (endF (stepQ (denQ tabQ) r.prog w) M r.prog w os).map (fun s => looksF r.prog (boot_heap w.params) s.abs) = some true
def Run2 (r : OpenRow) (q : Program) (M : Nat) (loose : List PySem.Str) (w : World) : Prop := ∀ os : OsState, (endF (stepQ (denQ tabQ) r.prog w) M r.prog w os).map (fun s => seenQ q loose (importedModules r.prog.main.body) (fun s => xlAt q [] s && recOk r.toRowW.records s) s.abs) = some (openGood q loose)
def Run3 (r : OpenRow) (H : Hook) (ob : SharedT → H.α) (M : Nat) (w : World) : Prop := ∀ os : OsState, (endF (stepQ (denQ tabQ) r.prog w) M r.prog w os).map (fun s => ob s) = some (H.val w)
theorem run_of {r : OpenRow} {q : Program} {H : Hook} {ob : SharedT → H.α} {M : Nat} {loose : List PySem.Str} {w : World} (h1 : Run1 r M w) (h2 : Run2 r q M loose w) (h3 : Run3 r H ob M w) : RunEq r q H ob M loose w := fun os => opt3 (h1 os) (h2 os) (h3 os)
end DL

set_option Elab.async false
set_option linter.all false
set_option maxRecDepth 100000
set_option maxHeartbeats 4000000
namespace K34
open PySem L2 DL
def topS (i : Nat) : Stmt := PySem.Challenge.pw_rootgroup_k34_whole_all_parts.main.body.getD i (.Pass ⟨0, 0, 0, 0⟩)
abbrev s_behind : Stmt := topS 5
abbrev s_all_made : Stmt := topS 8
abbrev s_parts_made : Stmt := topS 9
abbrev s_Group___init__ : Stmt := (clsBody (topS 10)).getD 0 (.Pass ⟨0, 0, 0, 0⟩)
abbrev s_Group_many : Stmt := (clsBody (topS 10)).getD 1 (.Pass ⟨0, 0, 0, 0⟩)
abbrev s_Group_members : Stmt := (clsBody (topS 10)).getD 2 (.Pass ⟨0, 0, 0, 0⟩)
abbrev s_Group_size : Stmt := (clsBody (topS 10)).getD 3 (.Pass ⟨0, 0, 0, 0⟩)
abbrev s_Group_orbits : Stmt := (clsBody (topS 10)).getD 4 (.Pass ⟨0, 0, 0, 0⟩)
abbrev s_Group_subgroups : Stmt := (clsBody (topS 10)).getD 8 (.Pass ⟨0, 0, 0, 0⟩)
abbrev s__law_pot : Stmt := topS 12
abbrev s__law_digit : Stmt := topS 13
abbrev s__law_exchange : Stmt := topS 14
abbrev s__law_behind : Stmt := topS 15
abbrev s__law_back : Stmt := topS 16
abbrev s__law_turned : Stmt := topS 17
abbrev s__law_made : Stmt := topS 18
abbrev s__law_planted : Stmt := topS 19
abbrev s__law_makers : Stmt := topS 20
abbrev s__law_small : Stmt := topS 21
abbrev s__law_whole : Stmt := topS 22
abbrev s__law_is_exchange : Stmt := topS 23
abbrev s__law_orbits : Stmt := topS 24
abbrev s__law_is_group : Stmt := topS 25
abbrev s__law_closed : Stmt := topS 26
abbrev s__law_all_told : Stmt := topS 27
abbrev s__law_right : Stmt := topS 28
abbrev s_law : Stmt := topS 29
end K34

set_option Elab.async false
set_option linter.all false
set_option maxRecDepth 100000
set_option maxHeartbeats 0
namespace K34
open PySem PySem.Spec PyProof.Rows L2 DL
def hd_behind : He.DefD := ⟨("behind", none), "behind", "behind", defArgs s_behind, defBody s_behind, defScope s_behind, [], []⟩
def hd_all_made : He.DefD := ⟨("all_made", none), "all_made", "all_made", defArgs s_all_made, defBody s_all_made, defScope s_all_made, [], []⟩
def hd_parts_made : He.DefD := ⟨("parts_made", none), "parts_made", "parts_made", defArgs s_parts_made, defBody s_parts_made, defScope s_parts_made, [], []⟩
def hd__law_pot : He.DefD := ⟨("_law_pot", none), "_law_pot", "_law_pot", defArgs s__law_pot, defBody s__law_pot, defScope s__law_pot, [], []⟩
def hd__law_digit : He.DefD := ⟨("_law_digit", none), "_law_digit", "_law_digit", defArgs s__law_digit, defBody s__law_digit, defScope s__law_digit, [], []⟩
def hd__law_exchange : He.DefD := ⟨("_law_exchange", none), "_law_exchange", "_law_exchange", defArgs s__law_exchange, defBody s__law_exchange, defScope s__law_exchange, [], []⟩
def hd__law_behind : He.DefD := ⟨("_law_behind", none), "_law_behind", "_law_behind", defArgs s__law_behind, defBody s__law_behind, defScope s__law_behind, [], []⟩
def hd__law_back : He.DefD := ⟨("_law_back", none), "_law_back", "_law_back", defArgs s__law_back, defBody s__law_back, defScope s__law_back, [], []⟩
def hd__law_turned : He.DefD := ⟨("_law_turned", none), "_law_turned", "_law_turned", defArgs s__law_turned, defBody s__law_turned, defScope s__law_turned, [], []⟩
def hd__law_made : He.DefD := ⟨("_law_made", none), "_law_made", "_law_made", defArgs s__law_made, defBody s__law_made, defScope s__law_made, [], []⟩
def hd__law_planted : He.DefD := ⟨("_law_planted", none), "_law_planted", "_law_planted", defArgs s__law_planted, defBody s__law_planted, defScope s__law_planted, [], []⟩
def hd__law_makers : He.DefD := ⟨("_law_makers", none), "_law_makers", "_law_makers", defArgs s__law_makers, defBody s__law_makers, defScope s__law_makers, [], []⟩
def hd__law_small : He.DefD := ⟨("_law_small", none), "_law_small", "_law_small", defArgs s__law_small, defBody s__law_small, defScope s__law_small, [], []⟩
def hd__law_whole : He.DefD := ⟨("_law_whole", none), "_law_whole", "_law_whole", defArgs s__law_whole, defBody s__law_whole, defScope s__law_whole, [], []⟩
def hd__law_is_exchange : He.DefD := ⟨("_law_is_exchange", none), "_law_is_exchange", "_law_is_exchange", defArgs s__law_is_exchange, defBody s__law_is_exchange, defScope s__law_is_exchange, [], []⟩
def hd__law_orbits : He.DefD := ⟨("_law_orbits", none), "_law_orbits", "_law_orbits", defArgs s__law_orbits, defBody s__law_orbits, defScope s__law_orbits, [], []⟩
def hd__law_is_group : He.DefD := ⟨("_law_is_group", none), "_law_is_group", "_law_is_group", defArgs s__law_is_group, defBody s__law_is_group, defScope s__law_is_group, [], []⟩
def hd__law_closed : He.DefD := ⟨("_law_closed", none), "_law_closed", "_law_closed", defArgs s__law_closed, defBody s__law_closed, defScope s__law_closed, [], []⟩
def hd__law_all_told : He.DefD := ⟨("_law_all_told", none), "_law_all_told", "_law_all_told", defArgs s__law_all_told, defBody s__law_all_told, defScope s__law_all_told, [], []⟩
def hd__law_right : He.DefD := ⟨("_law_right", none), "_law_right", "_law_right", defArgs s__law_right, defBody s__law_right, defScope s__law_right, [], []⟩
def hd_law : He.DefD := ⟨("law", none), "law", "law", defArgs s_law, defBody s_law, defScope s_law, [], []⟩
def hd_Group___init__ : He.DefD := ⟨("Group", some "__init__"), "__init__", "Group.__init__", defArgs s_Group___init__, defBody s_Group___init__, defScope s_Group___init__, [], []⟩
def hd_Group_many : He.DefD := ⟨("Group", some "many"), "many", "Group.many", defArgs s_Group_many, defBody s_Group_many, defScope s_Group_many, [], []⟩
def hd_Group_members : He.DefD := ⟨("Group", some "members"), "members", "Group.members", defArgs s_Group_members, defBody s_Group_members, defScope s_Group_members, [], []⟩
def hd_Group_size : He.DefD := ⟨("Group", some "size"), "size", "Group.size", defArgs s_Group_size, defBody s_Group_size, defScope s_Group_size, [], []⟩
def hd_Group_orbits : He.DefD := ⟨("Group", some "orbits"), "orbits", "Group.orbits", defArgs s_Group_orbits, defBody s_Group_orbits, defScope s_Group_orbits, [], []⟩
def hd_Group_subgroups : He.DefD := ⟨("Group", some "subgroups"), "subgroups", "Group.subgroups", defArgs s_Group_subgroups, defBody s_Group_subgroups, defScope s_Group_subgroups, [], []⟩
def hfn : List He.DefD := [hd_behind, hd_all_made, hd_parts_made, hd__law_pot, hd__law_digit, hd__law_exchange, hd__law_behind, hd__law_back, hd__law_turned, hd__law_made, hd__law_planted, hd__law_makers, hd__law_small, hd__law_whole, hd__law_is_exchange, hd__law_orbits, hd__law_is_group, hd__law_closed, hd__law_all_told, hd__law_right, hd_law, hd_Group___init__, hd_Group_many, hd_Group_members, hd_Group_size, hd_Group_orbits, hd_Group_subgroups]
def hfa0 : List He.Fa := [.free "tuple", .free "range", .free "sorted", .free "list", .free "len", .glo "Group", .cls "Group", .noat "Group" "things", .noat "Group" "all_members", .free "any", .free "set", .int "MOST_WITH_PARTS" 24, .glo "TooMany", .exc "TooMany", .mkr "Group", .free "max", .free "int", .free "isinstance", .free "bool", .free "all", .meth "Group" "members", .meth "Group" "size", .meth "Group" "many", .meth "Group" "orbits", .free "dict", .meth "Group" "subgroups", .glo "behind", .glo "all_made", .glo "parts_made", .glo "_law_pot"]
def hfa1 : List He.Fa := [.glo "_law_digit", .glo "_law_exchange", .glo "_law_behind", .glo "_law_back", .glo "_law_turned", .glo "_law_made", .glo "_law_planted", .glo "_law_makers", .glo "_law_small", .glo "_law_whole", .glo "_law_is_exchange", .glo "_law_orbits", .glo "_law_is_group", .glo "_law_closed", .glo "_law_all_told", .glo "_law_right", .glo "law"]
def hfa : List He.Fa := hfa0 ++ hfa1
def hex (K : PySem.W.Frag) : Bool := seerB K && (objB K (He.ga K "Group") && (true))
def loose0 : List Str := ["_wall", "RootError", "TooMany", "behind", "MOST_WITH_PARTS", "all_made", "parts_made", "Group", "_law_pot", "_law_digit", "_law_exchange", "_law_behind", "_law_back", "_law_turned", "_law_made", "_law_planted", "_law_makers", "_law_small", "_law_whole", "_law_is_exchange", "_law_orbits", "_law_is_group", "_law_closed", "_law_all_told", "_law_right"]
def loose : List Str := loose0
abbrev hR : PySem.W.OpenRow := PySem.W.OpenLaw.row PySem.Challenge.rw_rootgroup_k34_whole_all_parts
abbrev hk : PySem.W.Hook := hookY 4 hex hfa hfn
def ob (s : PySem.W.SharedT) : AlX := obsYG 4 hex hfa hfn (HandSHeadRun.getT s)
theorem ob_eq (s : PySem.W.SharedT) : ob s = hk.obs s.abs := obsYG_eq (HandSHeadRun.getT_eq s)
abbrev hQ : Program := PySem.W.view hR.prog [29]
theorem run3 (w : World) : DL.Run3 hR hk ob 6000 w := by
  intro os
  kernel_rfl
theorem run1 (w : World) : DL.Run1 hR 6000 w := by
  intro os
  kernel_rfl
theorem run2 (w : World) : DL.Run2 hR hQ 6000 loose w := by
  intro os
  kernel_rfl
theorem run (w : World) : HandSHeadRun.RunEq hR hQ hk ob 6000 loose w := DL.run_of (run1 w) (run2 w) (run3 w)
end K34

set_option Elab.async false
set_option linter.all false
set_option maxRecDepth 100000
set_option maxHeartbeats 4000000
/-! RX: exchanges of at most five things. -/
namespace RX
def words : Nat → Nat → List (List Nat)
  | 0, _ => [[]]
  | k + 1, n => (List.range n).flatMap fun x => (words k n).map (x :: ·)
theorem mem_words {n : Nat} : ∀ {k : Nat} {p : List Nat}, p.length = k → (∀ i ∈ p, i < n) → p ∈ words k n
  | 0, [], _, _ => List.mem_singleton.mpr rfl
  | 0, _ :: _, h, _ => by simp at h
  | k + 1, [], h, _ => by simp at h
  | k + 1, x :: p, h, ha => List.mem_flatMap.mpr ⟨x, List.mem_range.mpr (ha x List.mem_cons_self), List.mem_map.mpr ⟨p, mem_words (by simpa using h) fun i hi => ha i (List.mem_cons_of_mem _ hi), rfl⟩⟩
def nodupB : List Nat → Bool
  | [] => true
  | x :: l => !l.contains x && nodupB l
theorem nodupB_of : ∀ {l : List Nat}, l.Nodup → nodupB l = true
  | [], _ => rfl
  | x :: l, h => by
    rw [List.nodup_cons] at h
    unfold nodupB
    rw [nodupB_of h.2, Bool.and_true, Bool.not_eq_true', List.contains_eq_mem]
    exact decide_eq_false h.1
def exs (n : Nat) : List (List Nat) := (words n n).filter nodupB
structure Ex (p : List Nat) (n : Nat) : Prop where
  n1 : 1 ≤ n
  n5 : n ≤ 5
  len : p.length = n
  lt : ∀ i ∈ p, i < n
  nd : p.Nodup
theorem Ex.mem {p : List Nat} {n : Nat} (h : Ex p n) : p ∈ exs n := List.mem_filter.mpr ⟨mem_words h.len h.lt, nodupB_of h.nd⟩
def at_ (p : List Nat) (i : Nat) : Nat := p.getD i 0
def itr (p : List Nat) : Nat → Nat → Nat
  | 0, t => t
  | k + 1, t => at_ p (itr p k t)
def per (p : List Nat) (t : Nat) : Nat := ((List.range 6).find? fun k => k != 0 && itr p k t == t).getD 0
def ring (p : List Nat) (t : Nat) : List Nat := (List.range (per p t)).map fun k => itr p k t
def comp (p q : List Nat) : List Nat := q.map (at_ p)
def inv (p : List Nat) : List Nat := (List.range p.length).map fun i => p.idxOf i
def pairs (p : List Nat) : Nat := ((List.range p.length).map fun k => ((p.take k).filter fun x => decide (x > at_ p k)).length).sum
def lensGo (p : List Nat) : Nat → List Nat → List Nat
  | 0, _ => []
  | _ + 1, [] => []
  | f + 1, t :: l => (ring p t).length :: lensGo p f ((t :: l).filter fun x => !(ring p t).contains x)
def lens (p : List Nat) : List Nat := lensGo p 5 (List.range p.length)
def even (p : List Nat) : Bool := (p.length - (lens p).length) % 2 == 0
def all5 (f : Nat → List Nat → Bool) : Bool := (List.range 6).all fun n => (exs n).all (f n)
theorem all5_of {f : Nat → List Nat → Bool} (h : all5 f = true) {n : Nat} {p : List Nat} (e : Ex p n) : f n p = true :=
  List.all_eq_true.mp (List.all_eq_true.mp h n (List.mem_range.mpr (Nat.lt_succ_of_le e.n5))) p e.mem
theorem at_lt {p : List Nat} {n i : Nat} (h : Ex p n) (hi : i < n) : at_ p i < n := by
  have hi' : i < p.length := by rw [h.len]; exact hi
  have e : at_ p i = p[i] := by simp [at_, hi']
  rw [e]
  exact h.lt _ (List.getElem_mem hi')
theorem ex_comp {p q : List Nat} {n : Nat} (hp : Ex p n) (hq : Ex q n) : Ex (comp p q) n where
  n1 := hp.n1
  n5 := hp.n5
  len := by simp [comp, hq.len]
  lt := by
    intro i hi
    obtain ⟨k, hk, rfl⟩ := List.mem_map.mp hi
    exact at_lt hp (hq.lt k hk)
  nd := by
    unfold comp
    rw [List.nodup_iff_pairwise_ne, List.pairwise_map]
    refine List.Pairwise.imp_of_mem ?_ hq.nd
    intro a b ha hb hab z
    have ha' : a < p.length := by rw [hp.len]; exact hq.lt a ha
    have hb' : b < p.length := by rw [hp.len]; exact hq.lt b hb
    have e1 : at_ p a = p[a] := by simp [at_, ha']
    have e2 : at_ p b = p[b] := by simp [at_, hb']
    rw [e1, e2] at z
    have nd := List.pairwise_iff_getElem.mp (List.nodup_iff_pairwise_ne.mp hp.nd)
    rcases Nat.lt_trichotomy a b with c | c | c
    · exact nd a b ha' hb' c z
    · exact hab c
    · exact nd b a hb' ha' c z.symm
theorem nodup_of : ∀ {l : List Nat}, nodupB l = true → l.Nodup
  | [], _ => List.nodup_nil
  | x :: l, h => by
    unfold nodupB at h
    rw [Bool.and_eq_true, Bool.not_eq_true', List.contains_eq_mem] at h
    exact List.nodup_cons.mpr ⟨of_decide_eq_false h.1, nodup_of h.2⟩
theorem at_comp {p q : List Nat} {i : Nat} (h : i < q.length) : at_ (comp p q) i = at_ p (at_ q i) := by
  simp [at_, comp, h]
theorem comp_assoc {p q r : List Nat} {n : Nat} (hq : Ex q n) (hr : Ex r n) : comp (comp p q) r = comp p (comp q r) := by
  show r.map (at_ (comp p q)) = (r.map (at_ q)).map (at_ p)
  rw [List.map_map]
  apply List.map_congr_left
  intro i hi
  exact at_comp (by rw [hq.len]; exact hr.lt i hi)
theorem comp_id {p : List Nat} {n : Nat} (hp : Ex p n) : comp p (List.range n) = p := by
  apply List.ext_getElem (by simp [comp, hp.len])
  intro i h1 h2
  simp [comp, at_, h2]
/-- the exchange of two things side by side -/
def adj (n k : Nat) : List Nat := (List.range n).map fun i => if i = k then k + 1 else if i = k + 1 then k else i
end RX

set_option Elab.async false
set_option linter.all false
set_option maxRecDepth 100000
set_option maxHeartbeats 4000000
/-! RY: groups of exchanges of at most five things. -/
namespace RX
def insN (x : Nat) : List Nat → List Nat
  | [] => [x]
  | y :: l => if x ≤ y then x :: y :: l else y :: insN x l
def sortN (l : List Nat) : List Nat := l.foldr insN []
def kind (p : List Nat) : List Nat := sortN (lens p)
/-- what the makers make -/
inductive Gen (n : Nat) (ps : List (List Nat)) : List Nat → Prop where
  | one : Gen n ps (List.range n)
  | by_ {p q : List Nat} : p ∈ ps → Gen n ps q → Gen n ps (comp p q)
open Classical in
noncomputable def G (n : Nat) (ps : List (List Nat)) : List (List Nat) := (exs n).filter fun p => decide (Gen n ps p)
/-- the members of a group of exchanges, in order -/
structure IsG (n : Nat) (S : List (List Nat)) : Prop where
  n1 : 1 ≤ n
  n5 : n ≤ 5
  ord : S = (exs n).filter fun p => decide (p ∈ S)
  one : List.range n ∈ S
  mul : ∀ p q, p ∈ S → q ∈ S → comp p q ∈ S
def orb (n : Nat) (S : List (List Nat)) (t : Nat) : List Nat := (List.range n).filter fun u => S.any fun m => at_ m t == u
def orbsGo (n : Nat) (S : List (List Nat)) : Nat → List (List Nat)
  | 0 => []
  | k + 1 => if (orbsGo n S k).any (fun o => o.contains k) then orbsGo n S k else orbsGo n S k ++ [orb n S k]
def orbs (n : Nat) (S : List (List Nat)) : List (List Nat) := orbsGo n S n
def pow (p : List Nat) : Nat → List Nat
  | 0 => List.range p.length
  | k + 1 => comp p (pow p k)
def ordN (p : List Nat) : Nat := ((List.range 7).find? fun k => k != 0 && pow p k == List.range p.length).getD 0
def lcmN (l : List Nat) : Nat := ((List.range 61).find? fun k => k != 0 && l.all fun s => k % s == 0).getD 0
/-! ### counting -/
section
variable {α β : Type} [DecidableEq α] [DecidableEq β]
theorem sub_len : ∀ {l m : List α}, l.Nodup → (∀ x ∈ l, x ∈ m) → l.length ≤ m.length
  | [], _, _, _ => Nat.zero_le _
  | x :: l, m, h, hs => by
    rw [List.nodup_cons] at h
    have hx : x ∈ m := hs x List.mem_cons_self
    have := sub_len (l := l) (m := m.erase x) h.2 fun y hy => (List.mem_erase_of_ne (fun (e : y = x) => h.1 (e ▸ hy))).mpr (hs y (List.mem_cons_of_mem _ hy))
    rw [List.length_erase_of_mem hx] at this
    have hm : 0 < m.length := List.length_pos_of_mem hx
    simp only [List.length_cons]
    omega
theorem inj_len {l : List α} {m : List β} (f : α → β) (hl : l.Nodup) (hi : ∀ x ∈ l, ∀ y ∈ l, f x = f y → x = y) (hs : ∀ x ∈ l, f x ∈ m) : l.length ≤ m.length := by
  have nd : (l.map f).Nodup := by
    rw [List.nodup_iff_pairwise_ne, List.pairwise_map]
    exact List.Pairwise.imp_of_mem (fun ha hb hab z => hab (hi _ ha _ hb z)) (List.nodup_iff_pairwise_ne.mp hl)
  have := sub_len nd (m := m) fun x hx => by
    obtain ⟨y, hy, rfl⟩ := List.mem_map.mp hx
    exact hs y hy
  rwa [List.length_map] at this
theorem sum_add (f g : α → Nat) : ∀ l : List α, (l.map fun x => f x + g x).sum = (l.map f).sum + (l.map g).sum
  | [] => rfl
  | x :: l => by simp only [List.map_cons, List.sum_cons, sum_add f g l]; omega
theorem sum_const {c : Nat} (f : α → Nat) : ∀ l : List α, (∀ x ∈ l, f x = c) → (l.map f).sum = l.length * c
  | [], _ => by simp
  | x :: l, h => by
    simp only [List.map_cons, List.sum_cons, sum_const f l fun y hy => h y (List.mem_cons_of_mem _ hy), h x List.mem_cons_self, List.length_cons, Nat.succ_mul]; omega
theorem sum_ind (a : α) : ∀ {O : List α}, O.Nodup → ∀ c : Nat, (O.map fun u => if a = u then c else 0).sum = if a ∈ O then c else 0
  | [], _, _ => by simp
  | u :: O, h, c => by
    rw [List.nodup_cons] at h
    simp only [List.map_cons, List.sum_cons, sum_ind a h.2 c, List.mem_cons]
    by_cases e : a = u
    · subst e
      simp [h.1]
    · simp [e]
/-- a sum, part by part -/
theorem sum_parts (f : β → α) (c : β → Nat) {O : List α} (hO : O.Nodup) : ∀ {T : List β}, (∀ t ∈ T, f t ∈ O) → (T.map c).sum = (O.map fun o => ((T.filter fun t => decide (f t = o)).map c).sum).sum
  | [], _ => by
    have : (O.map fun o => (([] : List β).filter fun t => decide (f t = o)).map c |>.sum) = O.map fun _ => 0 := rfl
    rw [this, sum_const (c := 0) _ _ fun _ _ => rfl]; simp
  | t :: T, h => by
    have e : (O.map fun o => (((t :: T).filter fun t => decide (f t = o)).map c).sum) = O.map fun o => (if f t = o then c t else 0) + ((T.filter fun t => decide (f t = o)).map c).sum := by
      apply List.map_congr_left
      intro o _
      rw [List.filter_cons]
      by_cases z : f t = o
      · simp [z]
      · simp [z]
    rw [e, sum_add, sum_ind _ hO, if_pos (h t List.mem_cons_self), ← sum_parts f c hO fun u hu => h u (List.mem_cons_of_mem _ hu)]
    simp
theorem len_parts (f : β → α) {O : List α} (hO : O.Nodup) {T : List β} (h : ∀ t ∈ T, f t ∈ O) : T.length = (O.map fun o => (T.filter fun t => decide (f t = o)).length).sum := by
  have := sum_parts f (fun _ => 1) hO h
  rw [sum_const (c := 1) _ _ fun _ _ => rfl, Nat.mul_one] at this
  rw [this]
  congr 1
  apply List.map_congr_left
  intro o _
  rw [sum_const (c := 1) _ _ fun _ _ => rfl, Nat.mul_one]
/-- counted the other way round -/
theorem sum_swap (P : β → α → Bool) (T : List α) : ∀ S : List β, (S.map fun m => (T.filter (P m)).length).sum = (T.map fun t => (S.filter fun m => P m t).length).sum
  | [] => by
    simp only [List.map_nil, List.sum_nil, List.filter_nil, List.length_nil]
    rw [sum_const (c := 0) _ _ fun _ _ => rfl]; simp
  | m :: S => by
    have e : (T.map fun t => ((m :: S).filter fun m => P m t).length) = T.map fun t => (if P m t = true then 1 else 0) + (S.filter fun m => P m t).length := by
      apply List.map_congr_left
      intro t _
      rw [List.filter_cons]
      split <;> simp <;> omega
    have e2 : ∀ T : List α, (T.map fun t => if P m t = true then 1 else 0).sum = (T.filter (P m)).length := by
      intro T
      induction T with
      | nil => rfl
      | cons t T ih =>
        rw [List.filter_cons, List.map_cons, List.sum_cons, ih]
        split <;> simp <;> omega
    rw [e, sum_add, e2, List.map_cons, List.sum_cons, sum_swap P T S]
end
/-! ### exchanges -/
theorem words_mem {n : Nat} : ∀ {k : Nat} {p : List Nat}, p ∈ words k n → p.length = k ∧ ∀ i ∈ p, i < n
  | 0, p, h => by
    have : p = [] := List.mem_singleton.mp h
    subst this
    exact ⟨rfl, fun i hi => by cases hi⟩
  | k + 1, p, h => by
    obtain ⟨x, hx, h⟩ := List.mem_flatMap.mp h
    obtain ⟨q, hq, rfl⟩ := List.mem_map.mp h
    obtain ⟨h1, h2⟩ := words_mem hq
    refine ⟨by simp [h1], fun i hi => ?_⟩
    rcases List.mem_cons.mp hi with rfl | hi
    · exact List.mem_range.mp hx
    · exact h2 i hi
theorem ex_of {n : Nat} {p : List Nat} (h1 : 1 ≤ n) (h5 : n ≤ 5) (h : p ∈ exs n) : Ex p n := by
  obtain ⟨hw, hn⟩ := List.mem_filter.mp h
  obtain ⟨hl, ha⟩ := words_mem hw
  exact ⟨h1, h5, hl, ha, nodup_of hn⟩
theorem ex_range {n : Nat} (h1 : 1 ≤ n) (h5 : n ≤ 5) : Ex (List.range n) n := ⟨h1, h5, List.length_range, fun i hi => List.mem_range.mp hi, List.nodup_range⟩
theorem id_comp {p : List Nat} {n : Nat} (hp : Ex p n) : comp (List.range n) p = p := by
  unfold comp
  conv => rhs; rw [← List.map_id p]
  apply List.map_congr_left
  intro i hi
  have := hp.lt i hi
  simp [at_, this]
theorem inv_ok : all5 (fun n p => nodupB (inv p) && ((inv p).all fun i => decide (i < n)) && ((inv p).length == n) && (comp p (inv p) == List.range n) && (comp (inv p) p == List.range n) && (inv p == pow p (ordN p - 1))) = true := by decide +kernel
theorem ex_inv {p : List Nat} {n : Nat} (hp : Ex p n) : Ex (inv p) n ∧ comp p (inv p) = List.range n ∧ comp (inv p) p = List.range n ∧ inv p = pow p (ordN p - 1) := by
  have e := all5_of inv_ok hp
  simp only [Bool.and_eq_true, beq_iff_eq, List.all_eq_true, decide_eq_true_eq] at e
  obtain ⟨⟨⟨⟨⟨e1, e2⟩, e3⟩, e4⟩, e5⟩, e6⟩ := e
  exact ⟨⟨hp.n1, hp.n5, e3, e2, nodup_of e1⟩, e4, e5, e6⟩
/-! ### kinds of turned ones -/
/-! ### groups -/
theorem gen_ex {n : Nat} {ps : List (List Nat)} (h1 : 1 ≤ n) (h5 : n ≤ 5) (h : ∀ p ∈ ps, Ex p n) {p : List Nat} (g : Gen n ps p) : Ex p n := by
  induction g with
  | one => exact ex_range h1 h5
  | by_ hp _ ih => exact ex_comp (h _ hp) ih
theorem gen_mul {n : Nat} {ps : List (List Nat)} (h1 : 1 ≤ n) (h5 : n ≤ 5) (h : ∀ p ∈ ps, Ex p n) {p q : List Nat} (g : Gen n ps p) (k : Gen n ps q) : Gen n ps (comp p q) := by
  induction g with
  | one => rw [id_comp (gen_ex h1 h5 h k)]; exact k
  | by_ hp hg ih =>
    rw [comp_assoc (gen_ex h1 h5 h hg) (gen_ex h1 h5 h k)]
    exact .by_ hp ih
open Classical in
theorem mem_G {n : Nat} {ps : List (List Nat)} (h1 : 1 ≤ n) (h5 : n ≤ 5) (h : ∀ p ∈ ps, Ex p n) {p : List Nat} : p ∈ G n ps ↔ Gen n ps p := by
  unfold G
  rw [List.mem_filter]
  constructor
  · intro z; exact of_decide_eq_true z.2
  · intro z; exact ⟨(gen_ex h1 h5 h z).mem, decide_eq_true z⟩
theorem G_isG {n : Nat} {ps : List (List Nat)} (h1 : 1 ≤ n) (h5 : n ≤ 5) (h : ∀ p ∈ ps, Ex p n) : IsG n (G n ps) where
  n1 := h1
  n5 := h5
  ord := by
    conv => lhs; unfold G
    apply List.filter_congr
    intro p _
    rw [decide_eq_decide]
    exact (mem_G h1 h5 h).symm
  one := (mem_G h1 h5 h).mpr .one
  mul := fun p q hp hq => (mem_G h1 h5 h).mpr (gen_mul h1 h5 h ((mem_G h1 h5 h).mp hp) ((mem_G h1 h5 h).mp hq))
theorem exs_nd : (List.range 6).all (fun n => decide ((exs n).map fun p => p.foldl (fun a x => 5 * a + x) 0).Nodup) = true := by decide +kernel
theorem exs_nodup {n : Nat} (h5 : n ≤ 5) : (exs n).Nodup := by
  have e := of_decide_eq_true (List.all_eq_true.mp exs_nd n (List.mem_range.mpr (by omega)))
  rw [List.nodup_iff_pairwise_ne, List.pairwise_map] at e
  rw [List.nodup_iff_pairwise_ne]
  exact e.imp fun h z => h (by rw [z])
section
variable {n : Nat} {S : List (List Nat)} (g : IsG n S)
include g
theorem IsG.ex {p : List Nat} (h : p ∈ S) : Ex p n := by
  rw [g.ord] at h
  exact ex_of g.n1 g.n5 (List.mem_filter.mp h).1
theorem IsG.nodup : S.Nodup := by
  rw [g.ord]
  exact (exs_nodup g.n5).filter _
theorem IsG.powm {p : List Nat} (h : p ∈ S) : ∀ k, pow p k ∈ S
  | 0 => by
    have := (g.ex h).len
    show List.range p.length ∈ S
    rw [this]; exact g.one
  | k + 1 => g.mul _ _ h (IsG.powm h k)
theorem IsG.inv {p : List Nat} (h : p ∈ S) : RX.inv p ∈ S := by
  rw [(ex_inv (g.ex h)).2.2.2]
  exact g.powm h _
theorem IsG.eqG : G n S = S := by
  have hx : ∀ p ∈ S, Ex p n := fun p hp => g.ex hp
  rw [g.ord]
  have : ∀ p, p ∈ G n S ↔ p ∈ S := fun p => by
    rw [mem_G g.n1 g.n5 hx]
    constructor
    · intro z
      induction z with
      | one => exact g.one
      | by_ hp _ ih => exact g.mul _ _ hp ih
    · intro z
      have := Gen.by_ (n := n) (ps := S) z .one
      rwa [comp_id (hx p z)] at this
  have e := (G_isG g.n1 g.n5 hx).ord
  rw [← g.ord, e]
  conv => rhs; rw [g.ord]
  apply List.filter_congr
  intro p _
  rw [decide_eq_decide]
  exact this p
def stab (S : List (List Nat)) (t : Nat) : List (List Nat) := S.filter fun m => at_ m t == t
omit g in
theorem mem_stab {t : Nat} {m : List Nat} : m ∈ stab S t ↔ m ∈ S ∧ at_ m t = t := by
  unfold stab
  rw [List.mem_filter, beq_iff_eq]
theorem IsG.at_comp {p q : List Nat} {t : Nat} (hq : q ∈ S) (ht : t < n) : at_ (comp p q) t = at_ p (at_ q t) := RX.at_comp (by rw [(g.ex hq).len]; exact ht)
theorem IsG.stab {t : Nat} (ht : t < n) : IsG n (stab S t) where
  n1 := g.n1
  n5 := g.n5
  ord := by
    conv => lhs; unfold RX.stab; rw [g.ord, List.filter_filter]
    apply List.filter_congr
    intro p _
    rw [Bool.eq_iff_iff, Bool.and_eq_true, decide_eq_true_eq, decide_eq_true_eq, beq_iff_eq, mem_stab]
    exact And.comm
  one := mem_stab.mpr ⟨g.one, by simp [at_, ht]⟩
  mul := fun p q hp hq => by
    obtain ⟨h1, h2⟩ := mem_stab.mp hp
    obtain ⟨h3, h4⟩ := mem_stab.mp hq
    exact mem_stab.mpr ⟨g.mul _ _ h1 h3, by rw [g.at_comp h3 ht, h4, h2]⟩
omit g in
theorem mem_orb {t u : Nat} : u ∈ orb n S t ↔ u < n ∧ ∃ m ∈ S, at_ m t = u := by
  unfold orb
  rw [List.mem_filter, List.mem_range, List.any_eq_true]
  simp only [beq_iff_eq]
theorem IsG.orb_self {t : Nat} (ht : t < n) : t ∈ orb n S t := mem_orb.mpr ⟨ht, List.range n, g.one, by simp [at_, ht]⟩
theorem IsG.inv_at {m : List Nat} {t : Nat} (hm : m ∈ S) (ht : t < n) : at_ (RX.inv m) (at_ m t) = t := by
  have e := (ex_inv (g.ex hm)).2.2.1
  have := g.at_comp (p := RX.inv m) hm ht
  rw [← this, e]
  simp [at_, ht]
theorem IsG.orb_eq {t u : Nat} (ht : t < n) (h : u ∈ orb n S t) : orb n S u = orb n S t := by
  obtain ⟨hu, m, hm, rfl⟩ := mem_orb.mp h
  unfold orb
  apply List.filter_congr
  intro v _
  rw [Bool.eq_iff_iff, List.any_eq_true, List.any_eq_true]
  simp only [beq_iff_eq]
  constructor
  · rintro ⟨k, hk, rfl⟩
    exact ⟨comp k m, g.mul _ _ hk hm, g.at_comp hm ht⟩
  · rintro ⟨k, hk, rfl⟩
    refine ⟨comp k (RX.inv m), g.mul _ _ hk (g.inv hm), ?_⟩
    rw [g.at_comp (g.inv hm) hu, g.inv_at hm ht]
theorem IsG.cancel {a p q : List Nat} (ha : a ∈ S) (hp : p ∈ S) (hq : q ∈ S) (h : comp a p = comp a q) : p = q := by
  have e := (ex_inv (g.ex ha)).2.2.1
  have e1 := comp_assoc (p := RX.inv a) (g.ex ha) (g.ex hp)
  have e2 := comp_assoc (p := RX.inv a) (g.ex ha) (g.ex hq)
  rw [e, id_comp (g.ex hp)] at e1
  rw [e, id_comp (g.ex hq)] at e2
  rw [e1, e2, h]
omit g in
theorem orb_nodup {t : Nat} : (orb n S t).Nodup := List.nodup_range.filter _
/-- orbit and stabilizer -/
theorem IsG.orbit {t : Nat} (ht : t < n) : (orb n S t).length * (RX.stab S t).length = S.length := by
  have hf : ∀ m ∈ S, at_ m t ∈ orb n S t := fun m hm => mem_orb.mpr ⟨at_lt (g.ex hm) ht, m, hm, rfl⟩
  rw [len_parts (fun m => at_ m t) orb_nodup hf, ← sum_const (c := (RX.stab S t).length) (fun o => (S.filter fun m => decide (at_ m t = o)).length)]
  intro u hu
  obtain ⟨hun, a, ha, rfl⟩ := mem_orb.mp hu
  apply Nat.le_antisymm
  · refine inj_len (fun m => comp (RX.inv a) m) (g.nodup.filter _) (fun x hx y hy z => g.cancel (g.inv ha) (List.mem_filter.mp hx).1 (List.mem_filter.mp hy).1 z) fun m hm => ?_
    obtain ⟨hm, he⟩ := List.mem_filter.mp hm
    have he : at_ m t = at_ a t := by simpa using he
    exact mem_stab.mpr ⟨g.mul _ _ (g.inv ha) hm, by rw [g.at_comp hm ht, he, g.inv_at ha ht]⟩
  · refine inj_len (fun m => comp a m) ((g.stab ht).nodup) (fun x hx y hy z => g.cancel ha (mem_stab.mp hx).1 (mem_stab.mp hy).1 z) fun m hm => ?_
    obtain ⟨hm, he⟩ := mem_stab.mp hm
    exact List.mem_filter.mpr ⟨g.mul _ _ ha hm, by rw [g.at_comp hm ht, he]; simp⟩
/-- the orbits, as they are found -/
theorem IsG.go {k : Nat} (hk : k ≤ n) : (orbsGo n S k).Nodup ∧ (∀ o ∈ orbsGo n S k, ∃ t, t < k ∧ o = orb n S t) ∧ ∀ t, t < k → orb n S t ∈ orbsGo n S k := by
  induction k with
  | zero => exact ⟨List.nodup_nil, (fun o h => by cases h), fun t h => by omega⟩
  | succ k ih =>
    obtain ⟨h1, h2, h3⟩ := ih (by omega)
    unfold orbsGo
    split
    · rename_i h
      refine ⟨h1, fun o ho => ?_, fun t ht => ?_⟩
      · obtain ⟨t, ht, e⟩ := h2 o ho
        exact ⟨t, by omega, e⟩
      · by_cases e : t = k
        · subst e
          obtain ⟨o, ho, hc⟩ := List.any_eq_true.mp h
          obtain ⟨t', ht', rfl⟩ := h2 o ho
          rw [g.orb_eq (t := t') (by omega) (by simpa using hc)]
          exact ho
        · exact h3 t (by omega)
    · rename_i h
      refine ⟨?_, fun o ho => ?_, fun t ht => ?_⟩
      · rw [List.nodup_append]
        refine ⟨h1, by simp, fun a ha b hb z => ?_⟩
        have hb : b = orb n S k := by simpa using hb
        subst hb z
        exact h (List.any_eq_true.mpr ⟨_, ha, by simpa using g.orb_self (by omega)⟩)
      · rcases List.mem_append.mp ho with ho | ho
        · obtain ⟨t, ht, e⟩ := h2 o ho
          exact ⟨t, by omega, e⟩
        · exact ⟨k, by omega, by simpa using ho⟩
      · by_cases e : t = k
        · subst e; exact List.mem_append_right _ (by simp)
        · exact List.mem_append_left _ (h3 t (by omega))
/-- things that stay, counted over all members -/
theorem IsG.burnside : (S.map fun m => ((List.range n).filter fun t => at_ m t == t).length).sum = S.length * (orbs n S).length := by
  obtain ⟨h1, h2, h3⟩ := g.go (Nat.le_refl n)
  rw [sum_swap (fun m t => at_ m t == t) (List.range n) S]
  rw [sum_parts (fun t => orb n S t) (fun t => (S.filter fun m => at_ m t == t).length) h1 (T := List.range n) fun t ht => h3 t (List.mem_range.mp ht)]
  rw [sum_const (c := S.length) _ _ ?_, Nat.mul_comm]
  · rfl
  · intro o ho
    obtain ⟨u, hu, rfl⟩ := h2 o ho
    have e : ((List.range n).filter fun t => decide (orb n S t = orb n S u)) = orb n S u := by
      conv => rhs; unfold orb
      apply List.filter_congr
      intro v hv
      rw [Bool.eq_iff_iff, decide_eq_true_eq]
      constructor
      · intro z
        have := g.orb_self (List.mem_range.mp hv)
        rw [z] at this
        exact (List.mem_filter.mp this).2
      · intro z
        exact g.orb_eq hu (List.mem_filter.mpr ⟨hv, z⟩)
    rw [e]
    have c : ∀ t ∈ orb n S u, (S.filter fun m => at_ m t == t).length = (RX.stab S u).length := fun t ht => by
      have htn := (mem_orb.mp ht).1
      have a := g.orbit htn
      have b := g.orbit hu
      rw [g.orb_eq hu ht] at a
      have hpos : 0 < (orb n S u).length := List.length_pos_of_mem (g.orb_self hu)
      have : (orb n S u).length * (RX.stab S t).length = (orb n S u).length * (RX.stab S u).length := by rw [a, b]
      exact Nat.eq_of_mul_eq_mul_left hpos this
    rw [sum_const _ _ c]
    exact g.orbit hu
def rep (n : Nat) (S : List (List Nat)) (p : List Nat) : List Nat := ((exs n).find? fun q => S.any fun m => comp m p == q).getD []
omit g in
theorem exs_len : (List.range 6).all (fun n => (exs n).length == [1, 1, 2, 6, 24, 120].getD n 0) = true := by decide +kernel
theorem IsG.size_le : 0 < S.length ∧ S.length ≤ 120 := by
  refine ⟨List.length_pos_of_mem g.one, ?_⟩
  have h1 : S.length ≤ (exs n).length := sub_len g.nodup fun p hp => (g.ex hp).mem
  have e : (exs n).length = _ := beq_iff_eq.mp (List.all_eq_true.mp exs_len n (List.mem_range.mpr (by have := g.n5; omega)))
  have h5 := g.n5
  have : [1, 1, 2, 6, 24, 120].getD n 0 ≤ 120 := by
    match n, h5 with
    | 0, _ => decide
    | 1, _ => decide
    | 2, _ => decide
    | 3, _ => decide
    | 4, _ => decide
    | 5, _ => decide
  omega
end
end RX

set_option Elab.async false
set_option linter.all false
set_option maxRecDepth 100000
set_option maxHeartbeats 4000000
/-! RZ3: commutators' groups, their row. -/
namespace RX
open Classical in
theorem G_congr {n : Nat} {ps qs : List (List Nat)} (h : ∀ p, p ∈ ps ↔ p ∈ qs) : G n ps = G n qs := by
  have : ∀ p, Gen n ps p ↔ Gen n qs p := fun p => by
    constructor
    · intro g
      induction g with
      | one => exact .one
      | by_ hp _ ih => exact .by_ ((h _).mp hp) ih
    · intro g
      induction g with
      | one => exact .one
      | by_ hp _ ih => exact .by_ ((h _).mpr hp) ih
  unfold G
  apply List.filter_congr
  intro p _
  rw [decide_eq_decide]
  exact this p
def cmt (a b : List Nat) : List Nat := comp (comp (comp a b) (inv a)) (inv b)
def cmts (S : List (List Nat)) : List (List Nat) := S.flatMap fun a => S.map fun b => cmt a b
theorem mem_cmts {S : List (List Nat)} {p : List Nat} : p ∈ cmts S ↔ ∃ a ∈ S, ∃ b ∈ S, p = cmt a b := by
  unfold cmts
  rw [List.mem_flatMap]
  constructor
  · rintro ⟨a, ha, h⟩
    obtain ⟨b, hb, rfl⟩ := List.mem_map.mp h
    exact ⟨a, ha, b, hb, rfl⟩
  · rintro ⟨a, ha, b, hb, rfl⟩
    exact ⟨a, ha, List.mem_map.mpr ⟨b, hb, rfl⟩⟩
noncomputable def der (n : Nat) (S : List (List Nat)) : List (List Nat) := G n (cmts S)
open Classical in
noncomputable def rowF (n : Nat) : Nat → List (List Nat) → List (List (List Nat))
  | 0, S => [S]
  | k + 1, S => if der n S = S then [S] else S :: rowF n k (der n S)
noncomputable def row (n : Nat) (S : List (List Nat)) : List (List (List Nat)) := rowF n S.length S
theorem filt_eq {α : Type} {p q : α → Bool} : ∀ {l : List α}, (∀ x ∈ l, p x = true → q x = true) → (l.filter q).length ≤ (l.filter p).length → l.filter p = l.filter q
  | [], _, _ => rfl
  | a :: l, h, e => by
    have h' : ∀ x ∈ l, p x = true → q x = true := fun x hx => h x (List.mem_cons_of_mem _ hx)
    have le : (l.filter p).length ≤ (l.filter q).length := by
      have : l.filter p = (l.filter q).filter p := by
        rw [List.filter_filter]
        apply List.filter_congr
        intro x hx
        cases hp : p x with
        | false => rfl
        | true => rw [h' x hx hp]; rfl
      rw [this]
      exact List.length_filter_le _ _
    cases hp : p a with
    | true =>
      have hq := h a List.mem_cons_self hp
      rw [List.filter_cons_of_pos hp, List.filter_cons_of_pos hq] at e ⊢
      rw [filt_eq h' (by simpa using e)]
    | false =>
      cases hq : q a with
      | true =>
        have e1 : (a :: l).filter p = l.filter p := by simp [hp]
        have e2 : (a :: l).filter q = a :: l.filter q := by simp [hq]
        rw [e1, e2] at e
        simp at e; omega
      | false =>
        have e1 : (a :: l).filter p = l.filter p := by simp [hp]
        have e2 : (a :: l).filter q = l.filter q := by simp [hq]
        rw [e1, e2] at e ⊢
        exact filt_eq h' e
section
variable {n : Nat} {S : List (List Nat)} (g : IsG n S)
include g
theorem IsG.cm {p : List Nat} (h : p ∈ cmts S) : p ∈ S := by
  obtain ⟨a, ha, b, hb, rfl⟩ := mem_cmts.mp h
  exact g.mul _ _ (g.mul _ _ (g.mul _ _ ha hb) (g.inv ha)) (g.inv hb)
theorem IsG.cmx : ∀ p ∈ cmts S, Ex p n := fun p h => g.ex (g.cm h)
theorem IsG.der : IsG n (der n S) := G_isG g.n1 g.n5 g.cmx
end
end RX

set_option Elab.async false
set_option linter.all false
set_option maxRecDepth 100000
set_option maxHeartbeats 4000000
/-! RZ5: turned exchanges, turned groups, parts that are kept. -/
namespace RX
theorem IsG.ext {n : Nat} {S T : List (List Nat)} (g : IsG n S) (k : IsG n T) (h : ∀ p, p ∈ S ↔ p ∈ T) : S = T := by
  rw [g.ord]
  conv => rhs; rw [k.ord]
  apply List.filter_congr
  intro p _
  rw [decide_eq_decide]
  exact h p
theorem cancL {n : Nat} {a p q : List Nat} (ha : Ex a n) (hp : Ex p n) (hq : Ex q n) (h : comp a p = comp a q) : p = q := by
  have hi := ex_inv ha
  have e : comp (inv a) (comp a p) = comp (inv a) (comp a q) := by rw [h]
  rw [← comp_assoc ha hp, ← comp_assoc ha hq, hi.2.2.1, id_comp hp, id_comp hq] at e
  exact e
theorem inv_uniq {n : Nat} {a b : List Nat} (ha : Ex a n) (hb : Ex b n) (h : comp a b = List.range n) : b = inv a := by
  have hi := ex_inv ha
  exact cancL ha hb hi.1 (h.trans hi.2.1.symm)
theorem inv_comp {n : Nat} {a b : List Nat} (ha : Ex a n) (hb : Ex b n) : inv (comp a b) = comp (inv b) (inv a) := by
  have ia := ex_inv ha
  have ib := ex_inv hb
  refine (inv_uniq (ex_comp ha hb) (ex_comp ib.1 ia.1) ?_).symm
  rw [comp_assoc hb (ex_comp ib.1 ia.1), ← comp_assoc (p := b) ib.1 ia.1, ib.2.1, id_comp ia.1, ia.2.1]
def cj (e m : List Nat) : List Nat := comp (comp e m) (inv e)
section
variable {n : Nat} {e f p q : List Nat} (he : Ex e n)
include he
theorem ex_cj (hp : Ex p n) : Ex (cj e p) n := ex_comp (ex_comp he hp) (ex_inv he).1
theorem cj_mul (hp : Ex p n) (hq : Ex q n) : cj e (comp p q) = comp (cj e p) (cj e q) := by
  have hi := ex_inv he
  unfold cj
  rw [comp_assoc (p := comp e p) hi.1 (ex_comp (ex_comp he hq) hi.1), comp_assoc (p := e) hq hi.1, ← comp_assoc (p := inv e) he (ex_comp hq hi.1), hi.2.2.1, id_comp (ex_comp hq hi.1),
    ← comp_assoc (p := comp e p) hq hi.1, comp_assoc (p := e) hp hq]
theorem cj_one : cj e (List.range n) = List.range n := by
  unfold cj
  rw [comp_id he, (ex_inv he).2.1]
theorem cj_cj (hf : Ex f n) (hp : Ex p n) : cj e (cj f p) = cj (comp e f) p := by
  have ie := ex_inv he
  have jf := ex_inv hf
  unfold cj
  rw [inv_comp he hf, ← comp_assoc (p := comp (comp e f) p) jf.1 ie.1, comp_assoc (p := e) hf hp, comp_assoc (p := e) (ex_comp hf hp) jf.1]
theorem gen_cj {ps : List (List Nat)} (hps : ∀ p ∈ ps, Ex p n) : Gen n (ps.map (cj e)) p ↔ ∃ q, Gen n ps q ∧ p = cj e q := by
  constructor
  · intro g
    induction g with
    | one => exact ⟨_, .one, (cj_one he).symm⟩
    | by_ hq _ ih =>
      obtain ⟨r, hr, rfl⟩ := List.mem_map.mp hq
      obtain ⟨s, hs, rfl⟩ := ih
      exact ⟨_, .by_ hr hs, (cj_mul he (hps r hr) (gen_ex he.n1 he.n5 hps hs)).symm⟩
  · rintro ⟨q, g, rfl⟩
    induction g with
    | one => rw [cj_one he]; exact .one
    | by_ hq hg ih =>
      rw [cj_mul he (hps _ hq) (gen_ex he.n1 he.n5 hps hg)]
      exact .by_ (List.mem_map.mpr ⟨_, hq, rfl⟩) ih
end
noncomputable def turn (n : Nat) (e : List Nat) (S : List (List Nat)) : List (List Nat) := G n (S.map (cj e))
section
variable {n : Nat} {e : List Nat} {S R : List (List Nat)} (he : Ex e n)
include he
theorem cj_all {ps : List (List Nat)} (hps : ∀ p ∈ ps, Ex p n) : ∀ p ∈ ps.map (cj e), Ex p n := fun p hp => by
  obtain ⟨q, hq, rfl⟩ := List.mem_map.mp hp
  exact ex_cj he (hps q hq)
theorem turn_isG (hx : ∀ p ∈ S, Ex p n) : IsG n (turn n e S) := G_isG he.n1 he.n5 (cj_all he hx)
theorem mem_turn (g : IsG n S) {p : List Nat} : p ∈ turn n e S ↔ ∃ q ∈ S, p = cj e q := by
  have hx : ∀ p ∈ S, Ex p n := fun p hp => g.ex hp
  unfold turn
  rw [mem_G he.n1 he.n5 (cj_all he hx), gen_cj he hx]
  constructor
  · rintro ⟨q, hq, rfl⟩
    refine ⟨q, ?_, rfl⟩
    rw [← g.eqG]
    exact (mem_G he.n1 he.n5 hx).mpr hq
  · rintro ⟨q, hq, rfl⟩
    refine ⟨q, ?_, rfl⟩
    rw [← mem_G he.n1 he.n5 hx, g.eqG]
    exact hq
end
def kept (S R : List (List Nat)) : Bool := S.all fun m => R.all fun r => decide (cj m r ∈ R)
section
variable {n : Nat} {S R : List (List Nat)} (g : IsG n S)
include g
end
end RX

set_option Elab.async false
set_option linter.all false
set_option maxRecDepth 100000
set_option maxHeartbeats 4000000
/-! RZ7: groups by what they make; turned rows, turned orbits. -/
namespace RX
theorem G_sub {n : Nat} {ps S : List (List Nat)} (g : IsG n S) (h : ∀ p ∈ ps, p ∈ S) {p : List Nat} (hp : Gen n ps p) : p ∈ S := by
  induction hp with
  | one => exact g.one
  | by_ hq _ ih => exact g.mul _ _ (h _ hq) ih
theorem G_mk {n : Nat} {ps : List (List Nat)} (h1 : 1 ≤ n) (h5 : n ≤ 5) (hps : ∀ p ∈ ps, Ex p n) {p : List Nat} (hp : p ∈ ps) : p ∈ G n ps := by
  refine (mem_G h1 h5 hps).mpr ?_
  have := Gen.by_ (n := n) hp .one
  rwa [comp_id (hps p hp)] at this
section
variable {n : Nat} {S : List (List Nat)} (g : IsG n S)
include g
theorem IsG.rev : G n S.reverse = S := (G_congr fun p => List.mem_reverse).trans g.eqG
variable {e : List Nat} (he : Ex e n)
include he
theorem IsG.turn : IsG n (RX.turn n e S) := turn_isG he fun p hp => g.ex hp
end
/-! ### orbits -/
theorem filt_range_sorted {n : Nat} {f : Nat → Bool} : ((List.range n).filter f).Pairwise (· < ·) := List.Pairwise.filter _ List.pairwise_lt_range
section
variable {n : Nat} {S : List (List Nat)} {e : List Nat} (g : IsG n S) (he : Ex e n)
include g he
end
section
variable {n : Nat} {S : List (List Nat)} (g : IsG n S)
include g
theorem IsG.head_orb {t : Nat} (ht : t < n) : ∃ h l, orb n S t = h :: l ∧ h < n ∧ h ∈ orb n S t := by
  have := g.orb_self ht
  cases e : orb n S t with
  | nil => rw [e] at this; cases this
  | cons h l =>
    have hm : h ∈ orb n S t := by rw [e]; exact List.mem_cons_self
    exact ⟨h, l, rfl, (mem_orb.mp hm).1, by rw [← e]; exact hm⟩
/-- the heads rise -/
theorem IsG.heads {k : Nat} (hk : k ≤ n) : (orbsGo n S k).Pairwise (fun a b => a.headD 0 < b.headD 0) ∧ ∀ o ∈ orbsGo n S k, o.headD 0 < k := by
  induction k with
  | zero => exact ⟨List.Pairwise.nil, fun o h => nomatch h⟩
  | succ k ih =>
    obtain ⟨h1, h2⟩ := ih (by omega)
    have hkn : k < n := by omega
    unfold orbsGo
    split
    · exact ⟨h1, fun o ho => Nat.lt_succ_of_lt (h2 o ho)⟩
    · rename_i c
      have hd : (orb n S k).headD 0 = k := by
        obtain ⟨x, l, e, hx, hm⟩ := g.head_orb hkn
        rw [e]
        show x = k
        rcases Nat.lt_trichotomy x k with z | z | z
        · exfalso
          apply c
          have := (g.go (Nat.le_of_lt hkn)).2.2 x z
          rw [g.orb_eq hkn hm] at this
          exact List.any_eq_true.mpr ⟨_, this, by simpa using g.orb_self hkn⟩
        · exact z
        · exfalso
          have sr : (orb n S k).Pairwise (· < ·) := filt_range_sorted
          have hm : k ∈ orb n S k := g.orb_self hkn
          rw [e] at sr hm
          rcases List.mem_cons.mp hm with q | q
          · omega
          · have := (List.pairwise_cons.mp sr).1 k q; omega
      refine ⟨List.pairwise_append.mpr ⟨h1, by simp, fun a ha b hb => ?_⟩, fun o ho => ?_⟩
      · rw [List.mem_singleton.mp hb, hd]; exact h2 a ha
      · rcases List.mem_append.mp ho with ho | ho
        · exact Nat.lt_succ_of_lt (h2 o ho)
        · rw [List.mem_singleton.mp ho, hd]; omega
variable {e : List Nat} (he : Ex e n)
include he
end
end RX

set_option Elab.async false
set_option linter.all false
set_option maxRecDepth 100000
set_option maxHeartbeats 4000000
/-! RZ8: the parts of a group. -/
namespace RX
def subl {α : Type} : List α → List (List α)
  | [] => [[]]
  | a :: l => subl l ++ (subl l).map (a :: ·)
theorem subl_len {α : Type} : ∀ l : List α, (subl l).length = 2 ^ l.length
  | [] => rfl
  | a :: l => by
    rw [subl, List.length_append, List.length_map, subl_len l, List.length_cons, Nat.pow_succ]; omega
theorem mem_subl {α : Type} : ∀ {l r : List α}, r.Sublist l → r ∈ subl l
  | _, _, .slnil => by simp [subl]
  | _, _, .cons a h => by rw [subl]; exact List.mem_append_left _ (mem_subl h)
  | _, _, .cons₂ a h => by rw [subl]; exact List.mem_append_right _ (List.mem_map.mpr ⟨_, mem_subl h, rfl⟩)
theorem subl_sub {α : Type} : ∀ {l r : List α}, r ∈ subl l → r.Sublist l
  | [], r, h => by
    rw [subl, List.mem_singleton] at h
    rw [h]; exact .slnil
  | a :: l, r, h => by
    rw [subl, List.mem_append] at h
    rcases h with h | h
    · exact .cons a (subl_sub h)
    · obtain ⟨q, hq, rfl⟩ := List.mem_map.mp h
      exact .cons₂ a (subl_sub hq)
theorem subl_nd {α : Type} : ∀ {l : List α}, l.Nodup → (subl l).Nodup
  | [], _ => by simp [subl]
  | a :: l, h => by
    rw [List.nodup_cons] at h
    have ih := subl_nd h.2
    rw [subl, List.nodup_append]
    refine ⟨ih, ?_, fun x hx y hy e => ?_⟩
    · rw [List.nodup_iff_pairwise_ne, List.pairwise_map]
      exact (List.nodup_iff_pairwise_ne.mp ih).imp fun n z => n (List.cons.inj z).2
    · obtain ⟨q, _, rfl⟩ := List.mem_map.mp hy
      subst e
      exact h.1 ((subl_sub hx).subset List.mem_cons_self)
open Classical in
/-- all parts of a group, in some order -/
noncomputable def subs (n : Nat) (S : List (List Nat)) : List (List (List Nat)) := (subl S).filter fun R => decide (IsG n R)
section
variable {n : Nat} {S : List (List Nat)} (g : IsG n S)
include g
theorem IsG.sub_list {R : List (List Nat)} (k : IsG n R) (h : ∀ p ∈ R, p ∈ S) : R.Sublist S := by
  have e : R = S.filter fun p => decide (p ∈ R) := by
    have e2 := k.ord
    have e3 := g.ord
    rw [e3, List.filter_filter]
    conv => lhs; rw [e2]
    apply List.filter_congr
    intro p _
    rw [Bool.eq_iff_iff, Bool.and_eq_true, decide_eq_true_eq, decide_eq_true_eq]
    exact ⟨fun z => ⟨z, h p z⟩, fun z => z.1⟩
  rw [e]
  exact List.filter_sublist
open Classical in
theorem mem_subs {R : List (List Nat)} : R ∈ subs n S ↔ IsG n R ∧ ∀ p ∈ R, p ∈ S := by
  unfold subs
  rw [List.mem_filter]
  constructor
  · rintro ⟨h1, h2⟩
    exact ⟨of_decide_eq_true h2, fun p hp => (subl_sub h1).subset hp⟩
  · rintro ⟨h1, h2⟩
    exact ⟨mem_subl (g.sub_list h1 h2), decide_eq_true h1⟩
theorem subs_nd : (subs n S).Nodup := (subl_nd g.nodup).filter _
theorem subs_len (h : S.length ≤ 24) : (subs n S).length ≤ 16777216 := by
  unfold subs
  have h2 := subl_len S
  have h3 : 2 ^ S.length ≤ 2 ^ 24 := Nat.pow_le_pow_right (by decide) h
  have h4 : 2 ^ 24 = 16777216 := rfl
  refine Nat.le_trans (List.length_filter_le _ _) ?_
  omega
end
/-- what parts_made has found: parts, each with its makers -/
structure Prt (n : Nat) (S : List (List Nat)) (found : List (List (List Nat) × List (List Nat))) : Prop where
  nd : (found.map (·.1)).Nodup
  mak : ∀ e ∈ found, (∀ m ∈ e.2, m ∈ S) ∧ e.1 = G n e.2 ∧ e.2.length < e.1.length
  one : G n [] ∈ found.map (·.1)
section
variable {n : Nat} {S : List (List Nat)} (g : IsG n S)
include g
theorem Prt.isG {found : List (List (List Nat) × List (List Nat))} (f : Prt n S found) {e : List (List Nat) × List (List Nat)} (h : e ∈ found) : IsG n e.1 ∧ ∀ p ∈ e.1, p ∈ S := by
  obtain ⟨h1, h2, _⟩ := f.mak e h
  have hx : ∀ p ∈ e.2, Ex p n := fun p hp => g.ex (h1 p hp)
  rw [h2]
  exact ⟨G_isG g.n1 g.n5 hx, fun p hp => G_sub g h1 ((mem_G g.n1 g.n5 hx).mp hp)⟩
theorem Prt.sub {found : List (List (List Nat) × List (List Nat))} (f : Prt n S found) {R : List (List Nat)} (h : R ∈ found.map (·.1)) : R ∈ subs n S := by
  obtain ⟨e, he, rfl⟩ := List.mem_map.mp h
  exact (mem_subs g).mpr (f.isG g he)
theorem Prt.len {found : List (List (List Nat) × List (List Nat))} (f : Prt n S found) : found.length ≤ (subs n S).length := by
  have := sub_len f.nd fun R h => f.sub g h
  rwa [List.length_map] at this
theorem prt0 : Prt n S [(G n [], [])] where
  nd := by simp
  mak := fun e h => by
    rw [List.mem_singleton.mp h]
    refine ⟨by simp, rfl, ?_⟩
    exact (G_isG (ps := []) g.n1 g.n5 (by simp)).size_le.1
  one := by simp
/-- a part and a member that it has not make a greater one -/
theorem Prt.more {found : List (List (List Nat) × List (List Nat))} (f : Prt n S found) {e : List (List Nat) × List (List Nat)} (he : e ∈ found) {m : List Nat} (hm : m ∈ S) (hn : m ∉ e.1) : (∀ p ∈ e.2 ++ [m], p ∈ S) ∧ (e.2 ++ [m]).length < (G n (e.2 ++ [m])).length := by
  obtain ⟨h1, h2, h3⟩ := f.mak e he
  have h1' : ∀ p ∈ e.2 ++ [m], p ∈ S := fun p hp => by
    rcases List.mem_append.mp hp with hp | hp
    · exact h1 p hp
    · rw [List.mem_singleton.mp hp]; exact hm
  refine ⟨h1', ?_⟩
  have hx : ∀ p ∈ e.2, Ex p n := fun p hp => g.ex (h1 p hp)
  have hx' : ∀ p ∈ e.2 ++ [m], Ex p n := fun p hp => g.ex (h1' p hp)
  have g1 := G_isG g.n1 g.n5 hx
  have g2 := G_isG g.n1 g.n5 hx'
  have nd : (m :: G n e.2).Nodup := List.nodup_cons.mpr ⟨by rw [← h2]; exact hn, g1.nodup⟩
  have hs : ∀ p ∈ m :: G n e.2, p ∈ G n (e.2 ++ [m]) := fun p hp => by
    rcases List.mem_cons.mp hp with rfl | hp
    · exact G_mk g.n1 g.n5 hx' (by simp)
    · exact G_sub g2 (fun r hr => G_mk g.n1 g.n5 hx' (List.mem_append_left _ hr)) ((mem_G g.n1 g.n5 hx).mp hp)
  have := sub_len nd hs
  rw [List.length_cons, ← h2] at this
  rw [List.length_append, List.length_singleton]
  omega
theorem Prt.add {found : List (List (List Nat) × List (List Nat))} (f : Prt n S found) {e : List (List Nat) × List (List Nat)} (he : e ∈ found) {m : List Nat} (hm : m ∈ S) (hn : m ∉ e.1) (hc : G n (e.2 ++ [m]) ∉ found.map (·.1)) : Prt n S (found ++ [(G n (e.2 ++ [m]), e.2 ++ [m])]) where
  nd := by
    rw [List.map_append, List.nodup_append]
    refine ⟨f.nd, by simp, fun x hx y hy z => hc ?_⟩
    have e2 : y = G n (e.2 ++ [m]) := by simpa using hy
    rw [← e2, ← z]
    exact hx
  mak := fun e' h => by
    rcases List.mem_append.mp h with h | h
    · exact f.mak e' h
    · rw [List.mem_singleton.mp h]
      obtain ⟨h1, h2⟩ := f.more g he hm hn
      exact ⟨h1, rfl, h2⟩
  one := by rw [List.map_append]; exact List.mem_append_left _ f.one
/-- once nothing waits all parts are found -/
theorem Prt.all {found : List (List (List Nat) × List (List Nat))} (f : Prt n S found) (cl : ∀ e ∈ found, ∀ m ∈ S, m ∉ e.1 → G n (e.2 ++ [m]) ∈ found.map (·.1)) : (found.map (·.1)).Perm (subs n S) := by
  refine (List.perm_ext_iff_of_nodup f.nd (subs_nd g)).mpr fun R => ⟨fun h => f.sub g h, fun h => ?_⟩
  obtain ⟨k, hR⟩ := (mem_subs g).mp h
  -- from a part within R up to R
  have up : ∀ (d : Nat) (e : List (List Nat) × List (List Nat)), e ∈ found → (∀ p ∈ e.1, p ∈ R) → R.length - e.1.length ≤ d → R ∈ found.map (·.1) := by
    intro d
    induction d with
    | zero =>
      intro e he hs hd
      obtain ⟨ge, _⟩ := f.isG g he
      have : e.1 = R := ge.ext k fun p => ⟨hs p, fun hp => by
        refine Classical.byContradiction fun hn => ?_
        have nd : (p :: e.1).Nodup := List.nodup_cons.mpr ⟨hn, ge.nodup⟩
        have := sub_len nd fun q hq => (List.mem_cons.mp hq).elim (fun z => z ▸ hp) (hs q)
        rw [List.length_cons] at this
        omega⟩
      exact List.mem_map.mpr ⟨e, he, this⟩
    | succ d ih =>
      intro e he hs hd
      obtain ⟨ge, _⟩ := f.isG g he
      by_cases c : ∀ p ∈ R, p ∈ e.1
      · exact List.mem_map.mpr ⟨e, he, ge.ext k fun p => ⟨hs p, c p⟩⟩
      · obtain ⟨m, hm, hn⟩ : ∃ m, m ∈ R ∧ m ∉ e.1 := by
          refine Classical.byContradiction fun z => c fun p hp => ?_
          exact Classical.byContradiction fun q => z ⟨p, hp, q⟩
        have hmS := hR m hm
        obtain ⟨e', he', e1⟩ := List.mem_map.mp (cl e he m hmS hn)
        obtain ⟨h1, h2⟩ := f.more g he hmS hn
        have hx' : ∀ p ∈ e.2 ++ [m], Ex p n := fun p hp => g.ex (h1 p hp)
        obtain ⟨q1, q2, q3⟩ := f.mak e he
        refine ih e' he' (fun p hp => ?_) ?_
        · rw [e1] at hp
          refine G_sub k (fun r hr => ?_) ((mem_G g.n1 g.n5 hx').mp hp)
          rcases List.mem_append.mp hr with hr | hr
          · refine hs r ?_
            rw [q2]
            exact G_mk g.n1 g.n5 (fun p hp => g.ex (q1 p hp)) hr
          · rw [List.mem_singleton.mp hr]; exact hm
        · have nd : (m :: e.1).Nodup := List.nodup_cons.mpr ⟨hn, ge.nodup⟩
          have hsub : ∀ p ∈ m :: e.1, p ∈ e'.1 := fun p hp => by
            rw [e1]
            have g2 := G_isG g.n1 g.n5 hx'
            rcases List.mem_cons.mp hp with rfl | hp
            · exact G_mk g.n1 g.n5 hx' (by simp)
            · rw [q2] at hp
              exact G_sub g2 (fun r hr => G_mk g.n1 g.n5 hx' (List.mem_append_left _ hr)) ((mem_G g.n1 g.n5 fun p hp => g.ex (q1 p hp)).mp hp)
          have := sub_len nd hsub
          rw [List.length_cons] at this
          omega
  obtain ⟨e0, he0, e1⟩ := List.mem_map.mp f.one
  refine up _ e0 he0 (fun p hp => ?_) (Nat.le_refl _)
  rw [e1] at hp
  have := (mem_G (ps := []) g.n1 g.n5 (by simp)).mp hp
  cases this with
  | one => exact k.one
  | by_ h _ => exact nomatch h
end
end RX

set_option Elab.async false
set_option linter.all false
set_option maxRecDepth 100000
set_option maxHeartbeats 4000000
/-! RZ9: each group of exchanges of at most five things, the one alone left out, has a part of prime index. -/
namespace RX
def mulB (R : List (List Nat)) : Bool := R.all fun p => R.all fun q => R.contains (comp p q)
def isgB (n : Nat) (R : List (List Nat)) : Bool := decide (1 ≤ n) && (decide (n ≤ 5) && (R == ((exs n).filter fun p => R.contains p) && (R.contains (List.range n) && mulB R)))
def fx (n f : Nat) (p : List Nat) : Bool := decide (n ≤ f) || at_ p f == f
def A4 (n f : Nat) : List (List Nat) := (exs n).filter fun p => even p && fx n f p
def sq1 (n : Nat) (p : List Nat) : Bool := comp p p == List.range n
def V4 (n f : Nat) : List (List Nat) := (exs n).filter fun p => (even p && fx n f p) && sq1 n p
def ok4 (n f : Nat) : Bool := (A4 n f).length == 12 && ((V4 n f).length == 4 && (isgB n (V4 n f) && ((V4 n f).all (fun p => (A4 n f).contains p) && ((let R := (V4 n f).take 2; isgB n R && (R.length == 2 && R.all fun p => (V4 n f).contains p)) &&
  (A4 n f).all fun c => sq1 n c || (c != List.range n && (comp c c != c && (comp c c != List.range n && (List.range n).any fun t => t != f && (at_ c t == t && at_ (comp c c) t == t))))))))
structure Ok4 (n f : Nat) : Prop where
  a12 : (A4 n f).length = 12
  v4 : (V4 n f).length = 4
  vg : IsG n (V4 n f)
  va : ∀ p ∈ V4 n f, p ∈ A4 n f
  rg : IsG n ((V4 n f).take 2)
  r2 : ((V4 n f).take 2).length = 2
  rv : ∀ p ∈ (V4 n f).take 2, p ∈ V4 n f
  cc : ∀ c ∈ A4 n f, sq1 n c = false → c ≠ List.range n ∧ comp c c ≠ c ∧ comp c c ≠ List.range n ∧ ∃ t, t < n ∧ t ≠ f ∧ at_ c t = t ∧ at_ (comp c c) t = t
section
variable {n : Nat} {S : List (List Nat)} (g : IsG n S)
include g
/-- an orbit of four, all members even, a further thing left where it is -/
theorem IsG.four {f t : Nat} (o : Ok4 n f) (he : ∀ m ∈ S, even m = true ∧ fx n f m = true) (h4 : ∀ t, t < n → t ≠ f → (orb n S t).length = 4) (ht : t < n) (htf : t ≠ f) : ∃ R q, IsG n R ∧ (∀ p ∈ R, p ∈ S) ∧ (q = 2 ∨ q = 3 ∨ q = 5) ∧ S.length = q * R.length := by
  have hs : ∀ m ∈ S, m ∈ A4 n f := fun m hm => List.mem_filter.mpr ⟨(g.ex hm).mem, by rw [(he m hm).1, (he m hm).2]; rfl⟩
  by_cases c : ∃ c ∈ S, sq1 n c = false
  · obtain ⟨c, hc, hq⟩ := c
    obtain ⟨z1, z2, z3, u, hu, huf, y1, y2⟩ := o.cc c (hs c hc) hq
    have l3 : 3 ≤ (RX.stab S u).length := by
      have := sub_len (l := [List.range n, c, comp c c]) (m := RX.stab S u) (by
        simp only [List.nodup_cons, List.mem_cons, List.not_mem_nil, or_false, not_or, not_false_iff, List.nodup_nil, and_true]
        exact ⟨⟨fun e => z1 e.symm, fun e => z3 e.symm⟩, fun e => z2 e.symm⟩) fun p hp => by
          simp only [List.mem_cons, List.not_mem_nil, or_false] at hp
          rcases hp with rfl | rfl | rfl
          · exact (g.stab hu).one
          · exact mem_stab.mpr ⟨hc, y1⟩
          · exact mem_stab.mpr ⟨g.mul _ _ hc hc, y2⟩
      simpa using this
    have hor := g.orbit hu
    rw [h4 u hu huf] at hor
    have e : S = A4 n f := by
      rw [g.ord]
      refine filt_eq (fun x hx h => ?_) ?_
      · have := hs x (by simpa using h)
        exact (List.mem_filter.mp this).2
      · rw [← g.ord]
        have := o.a12
        unfold A4 at this
        rw [this]; omega
    refine ⟨V4 n f, 3, o.vg, fun p hp => ?_, .inr (.inl rfl), ?_⟩
    · rw [e]; exact o.va p hp
    · rw [e, o.a12, o.v4]
  · have c : ∀ m ∈ S, sq1 n m = true := fun m hm => by
      cases h : sq1 n m with
      | true => rfl
      | false => exact absurd ⟨m, hm, h⟩ c
    have hor := g.orbit ht
    rw [h4 t ht htf] at hor
    have hp := List.length_pos_of_mem (g.stab ht).one
    have e : S = V4 n f := by
      rw [g.ord]
      refine filt_eq (fun x hx h => ?_) ?_
      · have h : x ∈ S := by simpa using h
        rw [(he x h).1, (he x h).2, c x h]; rfl
      · rw [← g.ord]
        have := o.v4
        unfold V4 at this
        rw [this]; omega
    refine ⟨(V4 n f).take 2, 2, o.rg, fun p hp => ?_, .inl rfl, ?_⟩
    · rw [e]; exact o.rv p hp
    · rw [o.r2, e, o.v4]
end
end RX

set_option Elab.async false
set_option linter.all false
set_option maxRecDepth 100000
set_option maxHeartbeats 4000000
/-! RZ10: parts that lie together: turned parts counted, keepers, rows of parts, meets and joins. -/
namespace RX
section
variable {n : Nat} {S R : List (List Nat)} (g : IsG n S) (k : IsG n R)
include g k
theorem IsG.turn_comp {a b : List Nat} (ha : a ∈ S) (hb : b ∈ S) : RX.turn n a (RX.turn n b R) = RX.turn n (comp a b) R := by
  have kb := turn_isG (g.ex hb) fun p hp => k.ex hp
  refine IsG.ext (turn_isG (g.ex ha) fun p hp => kb.ex hp) (turn_isG (ex_comp (g.ex ha) (g.ex hb)) fun p hp => k.ex hp) fun p => ?_
  rw [mem_turn (g.ex ha) kb, mem_turn (ex_comp (g.ex ha) (g.ex hb)) k]
  constructor
  · rintro ⟨q, hq, rfl⟩
    obtain ⟨r, hr, rfl⟩ := (mem_turn (g.ex hb) k).mp hq
    exact ⟨r, hr, cj_cj (g.ex ha) (g.ex hb) (k.ex hr)⟩
  · rintro ⟨r, hr, rfl⟩
    exact ⟨cj b r, (mem_turn (g.ex hb) k).mpr ⟨r, hr, rfl⟩, (cj_cj (g.ex ha) (g.ex hb) (k.ex hr)).symm⟩
omit g in
theorem IsG.turn_id : RX.turn n (List.range n) R = R := by
  have he := ex_range k.n1 k.n5
  refine IsG.ext (turn_isG he fun p hp => k.ex hp) k fun p => ?_
  rw [mem_turn he k]
  have e : ∀ q ∈ R, cj (List.range n) q = q := fun q hq => by
    unfold cj
    rw [id_comp (k.ex hq)]
    have : RX.inv (List.range n) = List.range n := (inv_uniq he he (comp_id he)).symm
    rw [this, comp_id (k.ex hq)]
  constructor
  · rintro ⟨q, hq, rfl⟩; rw [e q hq]; exact hq
  · intro h; exact ⟨p, h, (e p h).symm⟩
/-- the members that turn a part into itself -/
noncomputable def keep (n : Nat) (S R : List (List Nat)) : List (List Nat) := S.filter fun m => decide (RX.turn n m R = R)
theorem IsG.keepG : IsG n (keep n S R) where
  n1 := g.n1
  n5 := g.n5
  ord := by
    conv => lhs; unfold keep; rw [g.ord, List.filter_filter]
    apply List.filter_congr
    intro p _
    rw [Bool.eq_iff_iff, Bool.and_eq_true, decide_eq_true_eq, decide_eq_true_eq, decide_eq_true_eq]
    unfold keep
    rw [List.mem_filter, decide_eq_true_eq]
    exact And.comm
  one := List.mem_filter.mpr ⟨g.one, decide_eq_true k.turn_id⟩
  mul := fun p q hp hq => by
    obtain ⟨h1, h2⟩ := List.mem_filter.mp hp
    obtain ⟨h3, h4⟩ := List.mem_filter.mp hq
    have h2 := of_decide_eq_true h2
    have h4 := of_decide_eq_true h4
    refine List.mem_filter.mpr ⟨g.mul _ _ h1 h3, decide_eq_true ?_⟩
    rw [← g.turn_comp k h1 h3, h4, h2]
/-- unlike turned parts, times the keepers -/
theorem IsG.turns {O : List (List (List Nat))} (nd : O.Nodup) (hO : ∀ T, T ∈ O ↔ ∃ m ∈ S, T = RX.turn n m R) : O.length * (keep n S R).length = S.length := by
  rw [len_parts (fun m => RX.turn n m R) nd (T := S) fun m hm => (hO _).mpr ⟨m, hm, rfl⟩, ← sum_const (c := (keep n S R).length) (fun o => (S.filter fun m => decide (RX.turn n m R = o)).length)]
  intro u hu
  obtain ⟨a, ha, rfl⟩ := (hO u).mp hu
  apply Nat.le_antisymm
  · refine inj_len (fun m => comp (RX.inv a) m) (g.nodup.filter _) (fun x hx y hy z => g.cancel (g.inv ha) (List.mem_filter.mp hx).1 (List.mem_filter.mp hy).1 z) fun m hm => ?_
    obtain ⟨hm, he⟩ := List.mem_filter.mp hm
    have he : RX.turn n m R = RX.turn n a R := by simpa using he
    refine List.mem_filter.mpr ⟨g.mul _ _ (g.inv ha) hm, decide_eq_true ?_⟩
    rw [← g.turn_comp k (g.inv ha) hm, he, g.turn_comp k (g.inv ha) ha, (ex_inv (g.ex ha)).2.2.1, k.turn_id]
  · refine inj_len (fun m => comp a m) ((g.keepG k).nodup) (fun x hx y hy z => g.cancel ha (List.mem_filter.mp hx).1 (List.mem_filter.mp hy).1 z) fun m hm => ?_
    obtain ⟨hm, he⟩ := List.mem_filter.mp hm
    have he := of_decide_eq_true he
    refine List.mem_filter.mpr ⟨g.mul _ _ ha hm, decide_eq_true ?_⟩
    show RX.turn n (comp a m) R = RX.turn n a R
    rw [← g.turn_comp k ha hm, he]
end
end RX

/-! SG1d: printed by mkSG.py. -/
set_option linter.all false
set_option maxRecDepth 100000
namespace RX
def Ka : List (List Nat) := [[0]]
def Ma : Nat := 0x0
def La : List (Nat × List Nat) := [
  (1, [0])]

def Kb : List (List Nat) := [[0, 1], [1, 0]]
def Mb : Nat := 0x420
def Lb : List (Nat × List Nat) := [
  (1, [0, 0]),
  (3, [0, 0])]

def Kc : List (List Nat) := [[0, 1, 2], [0, 2, 1], [1, 0, 2], [1, 2, 0], [2, 0, 1], [2, 1, 0]]
def Mc : Nat := 0x44321443004a40808510c8508062188a4004a418820
def Lc : List (Nat × List Nat) := [
  (1, [0, 0, 0, 99, 132, 0]),
  (3, [0, 0, 36766754, 35750947, 36766756, 35750949]),
  (5, [0, 36766754, 0, 36735043, 38930500, 38930501]),
  (33, [0, 35750949, 38930501, 37852259, 37852292, 0]),
  (25, [0, 36899, 35907, 0, 0, 36965]),
  (63, [0, 0, 0, 0, 0, 0])]

def Kd : List (List Nat) := [[0, 1, 2, 3], [0, 1, 3, 2], [0, 2, 1, 3], [0, 2, 3, 1], [0, 3, 1, 2], [0, 3, 2, 1], [1, 0, 2, 3], [1, 0, 3, 2], [1, 2, 0, 3], [1, 2, 3, 0], [1, 3, 0, 2], [1, 3, 2, 0], [2, 0, 1, 3], [2, 0, 3, 1], [2, 1, 0, 3], [2, 1, 3, 0], [2, 3, 0, 1], [2, 3, 1, 0], [3, 0, 1, 2], [3, 0, 2, 1], [3, 1, 0, 2], [3, 1, 2, 0], [3, 2, 0, 1], [3, 2, 1, 0]]
def Md : Nat := 0x443214c74254b635cf84653a56d731d0952c0110c8573d8d8c29594ef610c012918d73e1131d0952e72b5e95635cf84443004a4424c75aad79cab4424c75a9cf6363000443216b4bda5373d8d8c10931d6a10c01292f6ad2720808510ce652d0994e95b5d8d73e113994b4242021443a5653bd9cf636302142018a53a56d73994b425ac845cf94e95b5c850806252ce64a2116b1ee52ce64a29594ef60808510dee8c18da5653bd94b399282142018a307b9ac188a4005ac845cf9cad7a54c74254b6b21173c6229001b5e72ad10931d6a2906208272b5e956b21173ce652d099cad7a54a418820845ac7b94b39928845ac7bad79cab4188a4005285a8c7b5e72ad2116b1ee290620816a4a0e64a16a31dee8c18dad2f694c0110c857ba30635285a8c7bdab49c843004a45a92839ab4bda537ba306342021443ad2f694d6a4a0e68c1ee6b085080628c1ee6b2f6ad2724a16a31c6229001bdab49ca307b9ac5a928398a418820
def Ld : List (Nat × List Nat) := [
  (1, [0, 0, 0, 99, 132, 0, 0, 0, 264, 297, 330, 363, 396, 429, 0, 495, 0, 561, 594, 627, 660, 0, 726, 0]),
  (3, [0, 0, 36766754, 35750947, 36766756, 35750949, 38, 39, 0x26858308843142828, 0x9a160c6010c129, 0x9a160c2210dd4a, 0x2685831804304a42b, 0x2685831804366482c, 0x9a160c2210ddad, 49742894, 48727087, 40392752, 40497, 0x9a160c6010c252, 0x2685830884376b433, 49742900, 48727093, 40662, 41468983]),
  (5, [0, 36766754, 0, 36735043, 38930500, 38930501, 75696198, 89371719, 73664584, 0x154ed11d4214129, 89418, 0x57528504a4495884b, 75696204, 89517, 73664590, 0x57528504a44b4884f, 91564112, 0x154ed128e211e31, 0x154ed11d4214252, 0x57528509485490853, 0x575285094852a0854, 85, 0x154ed128e211ed6, 87]),
  (33, [0, 35750949, 38930501, 37852259, 37852292, 0, 179508390, 182700199, 0xae3c8a9394b2458a8, 180521, 0x2b8f229d252dd4a, 174429355, 0xae3c8a7494a9634ac, 0x2b8f229d252ddad, 174, 0xae3c8a9394b27c4af, 176, 0x2b8f22a4e529e31, 180818, 179508403, 0xae3c8a7494b7528b4, 174429365, 0x2b8f22a4e529ed6, 184853687]),
  (65, [0, 38, 75696198, 0x13986339a419863, 0x13986339a419884, 179508390, 0, 199, 75569352, 0x31e311a46618cc9, 0x139863386a210ca, 179476683, 82188492, 0x9a11342c635dad, 82188494, 0x4e618ce69063698cf, 40387792, 204337, 0x9a1135a0634252, 190421203, 0xc740c7419884918d4, 190421205, 204502, 209410263]),
  (129, [0, 39, 252086343, 0x3c18419c63, 0x3c18419c84, 259593383, 199, 0, 0x3c068210e8, 246057, 253258, 0x3dc8b18ceb, 0xf02506361cec, 253357, 259475694, 0x1bc68210e879cef, 240, 241, 246354, 0x1bc68210e879cf3, 0xf02506361cf4, 259437813, 246, 247]),
  (16385, [0, 49742894, 73664590, 0x742c650c761b863, 0x742c650c761b884, 174, 82188494, 183049454, 79968520, 475433, 0xbc2e73c975394a, 0x742216ad715b96b, 79968652, 0x1374a5b36b9ad, 0, 49330639, 464, 0xd68e75471211d1, 475730, 0x4dd296cdad9b9d3, 56244692, 56244693, 0x4dd296cdad9b9d6, 487147991]),
  (65537, [0, 561710128, 251988048, 0x85e841c063, 0x85e841c084, 176, 561551568, 240, 0x3c08c44108, 304, 548170, 0x85d935c16b, 0x3c08c4418c, 548269, 464, 0x3c2747c1ef, 0, 246321, 530, 0x85d9342213, 0x3c2745ae14, 561326613, 246486, 535]),
  (2097153, [0, 48727093, 85, 0xadd4a48c691d463, 0xadd4a48c691d484, 174429365, 190421205, 89562357, 0xadec19211645508, 0x11d425414a85529, 712010, 188077419, 0xadec1921164558c, 712109, 56244693, 55039471, 352659989, 0x5569cf53c631, 0x11d425414a85652, 188077683, 55039636, 0, 0xd68e7549618eb6, 695]),
  (8388609, [0, 561546295, 87, 0x3dd641dc63, 0x3dd641dc84, 259298487, 561715415, 247, 0x85e6c45d08, 548137, 343, 0x3dc735dd6b, 0x85e6c45d8c, 439, 259602903, 0x85c947ddef, 535, 253489, 548434, 0x3dc735de73, 0x85c947de94, 695, 253654, 0]),
  (25, [0, 36899, 35907, 0, 0, 36965, 0x1b06740c701a1631dc6f33466, 0x1c0683906f1ace31b067, 0x1bc6b38c6c19d031c068, 0x6f1ace31b06740c741c129, 0x6c19d031c06858c6b1dd4a, 0x1b06740c701a1631bc6b, 0x1c0683906f1ace31cc6c, 0x6c19d031c06858c6b1ddad, 0x1c0683906f1ace319c737586e, 0x1b06740c701a1631dc6f, 0x1bc6b38c6c19d031d070, 0x701a0e41bc6b38c6c19e31, 0x6f1ace31b06740c741c252, 0x1c0683906f1ace319c73, 0x1bc6b38c6c19d031a074, 0x1bc6b38c6c19d031d0704a475, 0x701a0e41bc6b38c6c19ed6, 0x1b06740c701a1631ac77]),
  (4353, [0, 0x4c1224b0a5010b028, 77896, 0x1bc6b38c731c06c1a063, 0x1bc6b38c731c06c1a084, 0x48321b42a9052b0a8, 73928, 0x1bc6b38c701b068210e8, 0, 0x4c4396d0a42843509, 0x4c122912a8a84450a, 0x1cc701bc6c1ac844410b, 0, 0x4c439530b42c0a10d, 78094, 0x1dc731c06f1b06818d0f, 0x1bc6b38c731c06c21110, 0x4c122cf2c4ac2a111, 0x1310e784350a24845512, 0x1ac771cc6818e6845113, 0x1ac771cc6818e6845d14, 0x1310e784350a24845915, 0x1310e784350a24844916, 0x1ac771cc6818e6844d17]),
  (526337, [0, 0x2ccab6a1210cc2b, 0xab32e4f1256214c4b, 0x1c068390671cc6f1ac63, 0x1c068390671cc6f1ac84, 183467, 175307, 0x1c0683906f1ac6718ceb, 0x1cc701bc6b2111042d08, 0xb35d5b04ad29, 0xab32ed752d4a, 0, 0x1d0731c06f2118b5bd6c, 0x2accb6d02e0adab5b96d, 0x2accb6d02e0adab5c56e, 0x1d0731c06f2118b5c16f, 0x1d0731c06f2118b5b170, 0x2accb6d02e0adab5b571, 0x2cd754b0320ad72, 0, 0x1a07419c731bc6b21174, 183669, 0xb32ae341585312d76, 0x1c068390671cc6b18d77]),
  (1081345, [0, 53295, 0xbdcfb2d221504f, 0x1b06740c771a0741bc63, 0x1b06740c771a0741bc84, 0xd1f58a1452d0af, 0xd1f590da6350cf, 0x1dc681d06f18d873d0ef, 0x1dc731bc6c1a06343d08, 0x340bed04bd29, 0xd02f8dcaf53d4a, 0x1d0731bc845d1705bd6b, 0x1dc731bc6c1a06343d8c, 0x2f73e576bdad, 48591, 0, 0x1dc7419c731bc637cdf0, 0x340bd721444f7c9f1, 0xd02f4cc5213df2, 0x1dc681d0671cc6f18df3, 0, 53749, 0x347d6282d8b42bdf6, 0x1b06740c771a074211f7]),
  (195, [0, 0, 0xc4d00c1841182310422, 0xc4d00c1841182218423, 0xc4d00c1841182310424, 0xc4d00c1841182218425, 0, 0, 0x303443142828, 0xc4d00c129, 0xc0d10dd4a, 0x31340304a42b, 0x31340366482c, 0xc0d10ddad, 0x31340366482c3382e, 0xc0d10ddad33c2f, 51593264, 50545713, 0xc4d00c252, 0x30344376b433, 0x31340366482c33834, 0xc0d10ddad33c35, 51593270, 50545719]),
  (81953, [0, 0xa7494b7b04300b825, 0xa9394a75085013845, 0x2a4e52ca820b82419463, 0x2a4e52ca820b82419484, 0, 0x29d252dd93338ab314a6, 177444007, 0xa9394b2458a8, 175412393, 0x29d252dd4a, 0x29d252dd93338a6594ab, 0xa7494a9634ac, 0x29d252ddad, 0, 0xa9394b27c4af, 0, 0x2a4e529e31, 177444018, 0x29d252dd93338ab314b3, 0xa7494b7528b4, 0x29d252dd93338a6594b5, 0x2a4e529ed6, 175412407]),
  (328193, [0, 0x2c8b04dec10c029, 0x2c0a93a54214049, 0x2c9374ba231a463, 0x2c9374ba231a484, 186826921, 0xb24dd2e6906618cc9, 184722665, 0x2c8b02a5a842508, 0, 0x2c8b04dd4a, 0xb24dd2e5b52b, 0xb02a4e9230634d52c, 0x2c8b04ddad, 186965294, 0xb22c0a97d92f, 0, 0x2c0a93a631, 0, 0xb22c137b04300a533, 0xb02a4e95085012534, 0xb24dd2e88c6918d35, 0x2c0a93a6d6, 186827063]),
  (4325505, [0, 56673319, 0x27844f068847, 0x9e113c18419c63, 0x9e113c18419c84, 0x27844f7914a7, 56673479, 0, 0x9e113c068210e8, 0x9e113c129, 0x9e113dd4a, 0x9e113dc8b18ceb, 0x27844f02506361cec, 0x9e113ddad, 0x27844f7748ee, 0x9e111bc68210e879cef, 41436400, 0, 0x9e113c252, 0x9e111bc68210e879cf3, 0x27844f02506361cf4, 0x27844f76b4f5, 0, 41436407]),
  (8397825, [0, 0x5713550884370b42a, 91305034, 0x4d5415590c6d1a863, 0x4d5415590c6d1a884, 0x57128ea494b72b4aa, 0x13550556431b46a210ca, 91302122, 0x135505562842908, 0x15c4d54129, 0, 0x571344a5d94b, 0x4d541554482c0a94c, 0, 0x4d5415590c6d2114e, 0x57128ea63cad2a94f, 91305296, 0x15c4a3aa31, 0x15c4d54252, 0x57128ea1cc8453953, 0x57128ea8c554, 81084757, 0x15c4a3aad6, 0]),
  (8454273, [0, 57720871, 91308103, 0x6b1dc741c06c19c63, 0x6b1dc741c06c19c84, 192069799, 57721031, 0, 0x6b1dc701b067210e8, 184720617, 91299050, 0x741c06c1ac6718ceb, 0x6b1dc741b06361cec, 84319469, 244784366, 0x771c067210e879cef, 0, 41436401, 244784370, 0x771c067210e879cf3, 0x6b1dc741b06361cf4, 84319477, 41436406, 0]),
  (10485765, [0, 0x4750850884370d422, 0, 0x11d42141e30d42308843, 0x11d42141e30d42520844, 0x11d42141e30d42520845, 0x11d421426c3544830846, 77826119, 0x11d421426c3544640848, 0x11d4214129, 74778698, 0x4a3884d5c44b, 0x11d421426c354483084c, 77826125, 0x11d421426c354464084e, 0x47508504a44f, 74778704, 0x128e211e31, 0x11d4214252, 0x475085094853, 0x4a3884da5854, 0, 0x128e211ed6, 0]),
  (63, [0, 0, 0, 0, 0, 0, 0x3112c2f1242930c301282e120283082d11c2c11826, 0x3112c2f1242930c301282e120283082d11c2c11827, 0x2d11c2c118264083112c2f12429404301282e12028, 0x2d11c2c11826408301282e120284843112c2f12429, 0x2d11c2c118264083112c2f12429404301282e1202a, 0x2d11c2c11826408301282e120284843112c2f1242b, 0x3112c2f1242930c301282e120283082d11c261302c, 0x3112c2f1242930c301282e120283082c118271342d, 0x2d11c2c118264083112c2f1242940430128281382e, 0x2d11c2c11826408301282e120284843112c2913c2f, 0x2d11c2c118264083112c2f124294042e1202a14030, 0x2d11c2c11826408301282e120284842f1242b14431, 0x3112c2f1242930c301282e120283082d11c2613032, 0x3112c2f1242930c301282e120283082c1182713433, 0x2d11c2c118264083112c2f12429404301282813834, 0x2d11c2c11826408301282e120284843112c2913c35, 0x2d11c2c118264083112c2f124294042e1202a14036, 0x2d11c2c11826408301282e120284842f1242b14437]),
  (20805, [0, 0x3112c2f1242930c301282d11c231042e0b02809822, 0, 0x3112c2f1242930c301282d11c2e0b0280982308843, 0x3112c2f1242930c301282d11c2e0b0280982520844, 0x3112c2f1242930c301282d11c2e0b0280982520845, 0, 0x3112c2f1242930c30128231042e0b42c0a02231c47, 0, 0x3112c301282d11c2f0b82c0a428098230884332449, 0x3112c2f1242930c2d11c300b82c09825208443284a, 0x301282f1242d11c310b82c0ac28098252084532c4b, 0, 0x3112c2f1242930c30128231042e0b42c0a02231c4d, 0, 0x3112c301282d11c2f0b82c0a42809823088433244f, 0x3112c2f1242930c2d11c300b82c098252084432850, 0x301282f1242d11c310b82c0ac28098252084532c51, 0x2913c370d8350cc2809825208449185534c5434852, 0x2913c370d8350cc2809825208449185534c5434853, 0x2913c370d8350cc2809825208449185534c5235054, 0x2913c370d8350cc280982520844918543485335455, 0x2913c370d8350cc2809825208449185534c5235056, 0x2913c370d8350cc280982520844918543485335457]),
  (2623585, [0, 0x301282e120283083112c2c11822184350cc2b09825, 0x301282e12028308350cc2b098252085514c4b11845, 0x301282e120283083112c2c118350cc2b0982419463, 0x301282e120283083112c2c118350cc2b0982419484, 0, 0, 0x301282e120283083112c22184350cc320ac2531ca7, 0x360d4330ac2809825208561545312c4811845320a8, 0x301282e120283082c118370d4330982419463324a9, 0x3112c301282c118350d0330ac2a0982419484328aa, 0, 0x300b8252085514c5013c4e13445618af334ae330ac, 0x300b8252085514c5013c4e13445618af334ae330ad, 0x300b8252085514c5013c4e13445618af334ac338ae, 0x300b8252085514c5013c4e13445618ae330ad33caf, 0x300b8252085514c5013c4e13445618af334ac338b0, 0x300b8252085514c5013c4e13445618ae330ad33cb1, 0x301282e120283083112c22184350cc320ac2531cb2, 0, 0x3112c301282c118350d0330ac2a0982419484328b4, 0, 0x360d4330ac2809825208561545312c4811845320b6, 0x301282e120283082c118370d4330982419463324b7]),
  (3194883, [0, 0, 0x2d11c2c118264083112c2913c30128281382310422, 0x2d11c2c118264083112c2913c30128281382218423, 0x2d11c2c118264083112c2913c30128281382310424, 0x2d11c2c118264083112c2913c30128281382218425, 0x3112c2913c301282813823104226182d33c2c33826, 0x3112c2913c301282813823104226182d33c2c33827, 0x2613023104224383042c314282d4242c4202940428, 0x2613023104224383042c314282d4242c4202848429, 0x2613023104224383042c314282d4242c420294042a, 0x2613023104224383042c314282d4242c420284842b, 0x2613023104224383042c3142829404286302d6042c, 0x2613023104224383042c3142829404286302c6842d, 0, 0, 0x2d11c2c118264083112c2913c28138221842574030, 0x2d11c2c118264082913c3012828138231042474431, 0x2613023104224383042c3142829404286302d60432, 0x2613023104224383042c3142829404286302c68433, 0, 0, 0x2d11c2c118264083112c2913c28138221842574036, 0x2d11c2c118264082913c3012828138231042474437]),
  (8733345, [0, 0x281382f1242d11c22184370c8300b82909c25, 0x370c8300b82909c2520857148501384911c45, 0x281382f1242d11c370c8300b82909c2419463, 0x281382f1242d11c370c8300b82909c2419484, 0, 0x2813822184370d4330c8300b82531cab314a6, 0, 0x2f1242d11c370c82e0a42809c24194843a0a8, 0, 0x370c82909c2520857150521384911c453a8aa, 0x281382d11c370d4320c02e09c24194633acab, 0x370a42520857150521384c124453a8b43b0ac, 0x370a42520857150521384c124453a8b43b0ad, 0, 0x2813822184330c8300b82531cab314b33bcaf, 0, 0x2813822184330c8300b82531cab314b33bcb1, 0, 0x2813822184370d4330c8300b82531cab314b3, 0x370c82909c2520857150521384911c453a8b4, 0x281382d11c370d4320c02e09c24194633acb5, 0x2f1242d11c370c82e0a42809c24194843a0b6, 0]),
  (10560645, [0, 0x2913c2e1202c11823104370d4300b42a09c22, 0, 0x2913c2e1202c118370d4300b42a09c2308843, 0x2913c2e1202c118370d4300b42a09c2520844, 0x2913c2e1202c118370d4300b42a09c2520845, 0x2913c23104370d4300b82d0b02231c4830846, 0, 0x2913c2c118370d4300b82d09c25208443a048, 0x2e1202c118370c02d0a82909c25208453a449, 0, 0x2e1202c118350c02d0ac2a09c23088433ac4b, 0x2913c23104370d4300b82d0b02231c483084c, 0, 0x2913c2c118370d4300b82d09c25208443a04e, 0x2e1202c118370c02d0a82909c25208453a44f, 0, 0x2e1202c118350c02d0ac2a09c23088433ac51, 0x2913c370d4320c02e09c25208443a04e3c852, 0x2913c370d4320c02e09c25208443a04e3c853, 0x2913c23104370d42d0b02231c483084c3d054, 0, 0x2913c23104370d42d0b02231c483084c3d056, 0]),
  (12779715, [0, 0, 0x2f1242b1442e1202a1402d11c2c1182310422, 0x2f1242b1442e1202a1402d11c2c1182218423, 0x2f1242b1442e1202a1402d11c2c1182310424, 0x2f1242b1442e1202a1402d11c2c1182218425, 0, 0, 0x2f1242b1442e1202d11c2c118231042232028, 0x2e1202a1402f1242d11c2c118221842332429, 0x2f1242b1442e1202d11c2c11823104223202a, 0x2e1202a1402f1242d11c2c11822184233242b, 0x2913c2813823104226182f3342d6042e3302c, 0x2913c2813823104226182e3302c6842f3342d, 0x2913c2813823104226182f3342d6042c3382e, 0x2913c2813823104226182e3302c6842d33c2f, 0, 0, 0x2913c2813823104226182f3342d6042e33032, 0x2913c2813823104226182e3302c6842f33433, 0x2913c2813823104226182f3342d6042c33834, 0x2913c2813823104226182e3302c6842d33c35, 0, 0]),
  (10066329, [0, 0x370d0330c02f0b02b0a02709023, 0x370d0330c02f0b02b0a02708c43, 0, 0, 0x370d0330c02f0b02b0a02709065, 0x2408cc71b86a310711a4c31b466, 0, 0, 0x340cc300b02809c24194e91c469, 0x370cc2f0b02b09c2310cea1b86a, 0, 0, 0x2408cc71b86a310711a4c31c86d, 0x370cc2f0b02b09c2310cea1d86e, 0, 0, 0x340cc300b02809c24194e91d471, 0x2408cc71b86a310711a4c319872, 0, 0, 0x340cc300b02809c24194e91a475, 0x370cc2f0b02b09c2310cea1a876, 0]),
  (16777215, [0, 0, 0, 0, 0, 0, 0, 0, 0, 0, 0, 0, 0, 0, 0, 0, 0, 0, 0, 0, 0, 0, 0, 0])]

def Ke : List (List Nat) := [[0, 1, 2, 3, 4], [0, 1, 3, 2, 4], [0, 2, 1, 3, 4], [0, 2, 3, 1, 4], [0, 3, 1, 2, 4], [0, 3, 2, 1, 4], [1, 0, 2, 3, 4], [1, 0, 3, 2, 4], [1, 2, 0, 3, 4], [1, 2, 3, 0, 4], [1, 3, 0, 2, 4], [1, 3, 2, 0, 4], [2, 0, 1, 3, 4], [2, 0, 3, 1, 4], [2, 1, 0, 3, 4], [2, 1, 3, 0, 4], [2, 3, 0, 1, 4], [2, 3, 1, 0, 4], [3, 0, 1, 2, 4], [3, 0, 2, 1, 4], [3, 1, 0, 2, 4], [3, 1, 2, 0, 4], [3, 2, 0, 1, 4], [3, 2, 1, 0, 4]]
def Me : Nat := 0x443214c74254b635cf84653a56d731d0952c0110c8573d8d8c29594ef610c012918d73e1131d0952e72b5e95635cf84443004a4424c75aad79cab4424c75a9cf6363000443216b4bda5373d8d8c10931d6a10c01292f6ad2720808510ce652d0994e95b5d8d73e113994b4242021443a5653bd9cf636302142018a53a56d73994b425ac845cf94e95b5c850806252ce64a2116b1ee52ce64a29594ef60808510dee8c18da5653bd94b399282142018a307b9ac188a4005ac845cf9cad7a54c74254b6b21173c6229001b5e72ad10931d6a2906208272b5e956b21173ce652d099cad7a54a418820845ac7b94b39928845ac7bad79cab4188a4005285a8c7b5e72ad2116b1ee290620816a4a0e64a16a31dee8c18dad2f694c0110c857ba30635285a8c7bdab49c843004a45a92839ab4bda537ba306342021443ad2f694d6a4a0e68c1ee6b085080628c1ee6b2f6ad2724a16a31c6229001bdab49ca307b9ac5a928398a418820
def Le : List (Nat × List Nat) := [
  (1, [0, 0, 0, 99, 132, 0, 0, 0, 264, 297, 330, 363, 396, 429, 0, 495, 0, 561, 594, 627, 660, 0, 726, 0]),
  (3, [0, 0, 36766754, 35750947, 36766756, 35750949, 38, 39, 0x26858308843142828, 0x9a160c6010c129, 0x9a160c2210dd4a, 0x2685831804304a42b, 0x2685831804366482c, 0x9a160c2210ddad, 49742894, 48727087, 40392752, 40497, 0x9a160c6010c252, 0x2685830884376b433, 49742900, 48727093, 40662, 41468983]),
  (5, [0, 36766754, 0, 36735043, 38930500, 38930501, 75696198, 89371719, 73664584, 0x154ed11d4214129, 89418, 0x57528504a4495884b, 75696204, 89517, 73664590, 0x57528504a44b4884f, 91564112, 0x154ed128e211e31, 0x154ed11d4214252, 0x57528509485490853, 0x575285094852a0854, 85, 0x154ed128e211ed6, 87]),
  (33, [0, 35750949, 38930501, 37852259, 37852292, 0, 179508390, 182700199, 0xae3c8a9394b2458a8, 180521, 0x2b8f229d252dd4a, 174429355, 0xae3c8a7494a9634ac, 0x2b8f229d252ddad, 174, 0xae3c8a9394b27c4af, 176, 0x2b8f22a4e529e31, 180818, 179508403, 0xae3c8a7494b7528b4, 174429365, 0x2b8f22a4e529ed6, 184853687]),
  (65, [0, 38, 75696198, 0x13986339a419863, 0x13986339a419884, 179508390, 0, 199, 75569352, 0x31e311a46618cc9, 0x139863386a210ca, 179476683, 82188492, 0x9a11342c635dad, 82188494, 0x4e618ce69063698cf, 40387792, 204337, 0x9a1135a0634252, 190421203, 0xc740c7419884918d4, 190421205, 204502, 209410263]),
  (129, [0, 39, 252086343, 0x3c18419c63, 0x3c18419c84, 259593383, 199, 0, 0x3c068210e8, 246057, 253258, 0x3dc8b18ceb, 0xf02506361cec, 253357, 259475694, 0x1bc68210e879cef, 240, 241, 246354, 0x1bc68210e879cf3, 0xf02506361cf4, 259437813, 246, 247]),
  (16385, [0, 49742894, 73664590, 0x742c650c761b863, 0x742c650c761b884, 174, 82188494, 183049454, 79968520, 475433, 0xbc2e73c975394a, 0x742216ad715b96b, 79968652, 0x1374a5b36b9ad, 0, 49330639, 464, 0xd68e75471211d1, 475730, 0x4dd296cdad9b9d3, 56244692, 56244693, 0x4dd296cdad9b9d6, 487147991]),
  (65537, [0, 561710128, 251988048, 0x85e841c063, 0x85e841c084, 176, 561551568, 240, 0x3c08c44108, 304, 548170, 0x85d935c16b, 0x3c08c4418c, 548269, 464, 0x3c2747c1ef, 0, 246321, 530, 0x85d9342213, 0x3c2745ae14, 561326613, 246486, 535]),
  (2097153, [0, 48727093, 85, 0xadd4a48c691d463, 0xadd4a48c691d484, 174429365, 190421205, 89562357, 0xadec19211645508, 0x11d425414a85529, 712010, 188077419, 0xadec1921164558c, 712109, 56244693, 55039471, 352659989, 0x5569cf53c631, 0x11d425414a85652, 188077683, 55039636, 0, 0xd68e7549618eb6, 695]),
  (8388609, [0, 561546295, 87, 0x3dd641dc63, 0x3dd641dc84, 259298487, 561715415, 247, 0x85e6c45d08, 548137, 343, 0x3dc735dd6b, 0x85e6c45d8c, 439, 259602903, 0x85c947ddef, 535, 253489, 548434, 0x3dc735de73, 0x85c947de94, 695, 253654, 0]),
  (25, [0, 36899, 35907, 0, 0, 36965, 0x1b06740c701a1631dc6f33466, 0x1c0683906f1ace31b067, 0x1bc6b38c6c19d031c068, 0x6f1ace31b06740c741c129, 0x6c19d031c06858c6b1dd4a, 0x1b06740c701a1631bc6b, 0x1c0683906f1ace31cc6c, 0x6c19d031c06858c6b1ddad, 0x1c0683906f1ace319c737586e, 0x1b06740c701a1631dc6f, 0x1bc6b38c6c19d031d070, 0x701a0e41bc6b38c6c19e31, 0x6f1ace31b06740c741c252, 0x1c0683906f1ace319c73, 0x1bc6b38c6c19d031a074, 0x1bc6b38c6c19d031d0704a475, 0x701a0e41bc6b38c6c19ed6, 0x1b06740c701a1631ac77]),
  (4353, [0, 0x4c1224b0a5010b028, 77896, 0x1bc6b38c731c06c1a063, 0x1bc6b38c731c06c1a084, 0x48321b42a9052b0a8, 73928, 0x1bc6b38c701b068210e8, 0, 0x4c4396d0a42843509, 0x4c122912a8a84450a, 0x1cc701bc6c1ac844410b, 0, 0x4c439530b42c0a10d, 78094, 0x1dc731c06f1b06818d0f, 0x1bc6b38c731c06c21110, 0x4c122cf2c4ac2a111, 0x1310e784350a24845512, 0x1ac771cc6818e6845113, 0x1ac771cc6818e6845d14, 0x1310e784350a24845915, 0x1310e784350a24844916, 0x1ac771cc6818e6844d17]),
  (526337, [0, 0x2ccab6a1210cc2b, 0xab32e4f1256214c4b, 0x1c068390671cc6f1ac63, 0x1c068390671cc6f1ac84, 183467, 175307, 0x1c0683906f1ac6718ceb, 0x1cc701bc6b2111042d08, 0xb35d5b04ad29, 0xab32ed752d4a, 0, 0x1d0731c06f2118b5bd6c, 0x2accb6d02e0adab5b96d, 0x2accb6d02e0adab5c56e, 0x1d0731c06f2118b5c16f, 0x1d0731c06f2118b5b170, 0x2accb6d02e0adab5b571, 0x2cd754b0320ad72, 0, 0x1a07419c731bc6b21174, 183669, 0xb32ae341585312d76, 0x1c068390671cc6b18d77]),
  (1081345, [0, 53295, 0xbdcfb2d221504f, 0x1b06740c771a0741bc63, 0x1b06740c771a0741bc84, 0xd1f58a1452d0af, 0xd1f590da6350cf, 0x1dc681d06f18d873d0ef, 0x1dc731bc6c1a06343d08, 0x340bed04bd29, 0xd02f8dcaf53d4a, 0x1d0731bc845d1705bd6b, 0x1dc731bc6c1a06343d8c, 0x2f73e576bdad, 48591, 0, 0x1dc7419c731bc637cdf0, 0x340bd721444f7c9f1, 0xd02f4cc5213df2, 0x1dc681d0671cc6f18df3, 0, 53749, 0x347d6282d8b42bdf6, 0x1b06740c771a074211f7]),
  (195, [0, 0, 0xc4d00c1841182310422, 0xc4d00c1841182218423, 0xc4d00c1841182310424, 0xc4d00c1841182218425, 0, 0, 0x303443142828, 0xc4d00c129, 0xc0d10dd4a, 0x31340304a42b, 0x31340366482c, 0xc0d10ddad, 0x31340366482c3382e, 0xc0d10ddad33c2f, 51593264, 50545713, 0xc4d00c252, 0x30344376b433, 0x31340366482c33834, 0xc0d10ddad33c35, 51593270, 50545719]),
  (81953, [0, 0xa7494b7b04300b825, 0xa9394a75085013845, 0x2a4e52ca820b82419463, 0x2a4e52ca820b82419484, 0, 0x29d252dd93338ab314a6, 177444007, 0xa9394b2458a8, 175412393, 0x29d252dd4a, 0x29d252dd93338a6594ab, 0xa7494a9634ac, 0x29d252ddad, 0, 0xa9394b27c4af, 0, 0x2a4e529e31, 177444018, 0x29d252dd93338ab314b3, 0xa7494b7528b4, 0x29d252dd93338a6594b5, 0x2a4e529ed6, 175412407]),
  (328193, [0, 0x2c8b04dec10c029, 0x2c0a93a54214049, 0x2c9374ba231a463, 0x2c9374ba231a484, 186826921, 0xb24dd2e6906618cc9, 184722665, 0x2c8b02a5a842508, 0, 0x2c8b04dd4a, 0xb24dd2e5b52b, 0xb02a4e9230634d52c, 0x2c8b04ddad, 186965294, 0xb22c0a97d92f, 0, 0x2c0a93a631, 0, 0xb22c137b04300a533, 0xb02a4e95085012534, 0xb24dd2e88c6918d35, 0x2c0a93a6d6, 186827063]),
  (4325505, [0, 56673319, 0x27844f068847, 0x9e113c18419c63, 0x9e113c18419c84, 0x27844f7914a7, 56673479, 0, 0x9e113c068210e8, 0x9e113c129, 0x9e113dd4a, 0x9e113dc8b18ceb, 0x27844f02506361cec, 0x9e113ddad, 0x27844f7748ee, 0x9e111bc68210e879cef, 41436400, 0, 0x9e113c252, 0x9e111bc68210e879cf3, 0x27844f02506361cf4, 0x27844f76b4f5, 0, 41436407]),
  (8397825, [0, 0x5713550884370b42a, 91305034, 0x4d5415590c6d1a863, 0x4d5415590c6d1a884, 0x57128ea494b72b4aa, 0x13550556431b46a210ca, 91302122, 0x135505562842908, 0x15c4d54129, 0, 0x571344a5d94b, 0x4d541554482c0a94c, 0, 0x4d5415590c6d2114e, 0x57128ea63cad2a94f, 91305296, 0x15c4a3aa31, 0x15c4d54252, 0x57128ea1cc8453953, 0x57128ea8c554, 81084757, 0x15c4a3aad6, 0]),
  (8454273, [0, 57720871, 91308103, 0x6b1dc741c06c19c63, 0x6b1dc741c06c19c84, 192069799, 57721031, 0, 0x6b1dc701b067210e8, 184720617, 91299050, 0x741c06c1ac6718ceb, 0x6b1dc741b06361cec, 84319469, 244784366, 0x771c067210e879cef, 0, 41436401, 244784370, 0x771c067210e879cf3, 0x6b1dc741b06361cf4, 84319477, 41436406, 0]),
  (10485765, [0, 0x4750850884370d422, 0, 0x11d42141e30d42308843, 0x11d42141e30d42520844, 0x11d42141e30d42520845, 0x11d421426c3544830846, 77826119, 0x11d421426c3544640848, 0x11d4214129, 74778698, 0x4a3884d5c44b, 0x11d421426c354483084c, 77826125, 0x11d421426c354464084e, 0x47508504a44f, 74778704, 0x128e211e31, 0x11d4214252, 0x475085094853, 0x4a3884da5854, 0, 0x128e211ed6, 0]),
  (63, [0, 0, 0, 0, 0, 0, 0x3112c2f1242930c301282e120283082d11c2c11826, 0x3112c2f1242930c301282e120283082d11c2c11827, 0x2d11c2c118264083112c2f12429404301282e12028, 0x2d11c2c11826408301282e120284843112c2f12429, 0x2d11c2c118264083112c2f12429404301282e1202a, 0x2d11c2c11826408301282e120284843112c2f1242b, 0x3112c2f1242930c301282e120283082d11c261302c, 0x3112c2f1242930c301282e120283082c118271342d, 0x2d11c2c118264083112c2f1242940430128281382e, 0x2d11c2c11826408301282e120284843112c2913c2f, 0x2d11c2c118264083112c2f124294042e1202a14030, 0x2d11c2c11826408301282e120284842f1242b14431, 0x3112c2f1242930c301282e120283082d11c2613032, 0x3112c2f1242930c301282e120283082c1182713433, 0x2d11c2c118264083112c2f12429404301282813834, 0x2d11c2c11826408301282e120284843112c2913c35, 0x2d11c2c118264083112c2f124294042e1202a14036, 0x2d11c2c11826408301282e120284842f1242b14437]),
  (20805, [0, 0x3112c2f1242930c301282d11c231042e0b02809822, 0, 0x3112c2f1242930c301282d11c2e0b0280982308843, 0x3112c2f1242930c301282d11c2e0b0280982520844, 0x3112c2f1242930c301282d11c2e0b0280982520845, 0, 0x3112c2f1242930c30128231042e0b42c0a02231c47, 0, 0x3112c301282d11c2f0b82c0a428098230884332449, 0x3112c2f1242930c2d11c300b82c09825208443284a, 0x301282f1242d11c310b82c0ac28098252084532c4b, 0, 0x3112c2f1242930c30128231042e0b42c0a02231c4d, 0, 0x3112c301282d11c2f0b82c0a42809823088433244f, 0x3112c2f1242930c2d11c300b82c098252084432850, 0x301282f1242d11c310b82c0ac28098252084532c51, 0x2913c370d8350cc2809825208449185534c5434852, 0x2913c370d8350cc2809825208449185534c5434853, 0x2913c370d8350cc2809825208449185534c5235054, 0x2913c370d8350cc280982520844918543485335455, 0x2913c370d8350cc2809825208449185534c5235056, 0x2913c370d8350cc280982520844918543485335457]),
  (2623585, [0, 0x301282e120283083112c2c11822184350cc2b09825, 0x301282e12028308350cc2b098252085514c4b11845, 0x301282e120283083112c2c118350cc2b0982419463, 0x301282e120283083112c2c118350cc2b0982419484, 0, 0, 0x301282e120283083112c22184350cc320ac2531ca7, 0x360d4330ac2809825208561545312c4811845320a8, 0x301282e120283082c118370d4330982419463324a9, 0x3112c301282c118350d0330ac2a0982419484328aa, 0, 0x300b8252085514c5013c4e13445618af334ae330ac, 0x300b8252085514c5013c4e13445618af334ae330ad, 0x300b8252085514c5013c4e13445618af334ac338ae, 0x300b8252085514c5013c4e13445618ae330ad33caf, 0x300b8252085514c5013c4e13445618af334ac338b0, 0x300b8252085514c5013c4e13445618ae330ad33cb1, 0x301282e120283083112c22184350cc320ac2531cb2, 0, 0x3112c301282c118350d0330ac2a0982419484328b4, 0, 0x360d4330ac2809825208561545312c4811845320b6, 0x301282e120283082c118370d4330982419463324b7]),
  (3194883, [0, 0, 0x2d11c2c118264083112c2913c30128281382310422, 0x2d11c2c118264083112c2913c30128281382218423, 0x2d11c2c118264083112c2913c30128281382310424, 0x2d11c2c118264083112c2913c30128281382218425, 0x3112c2913c301282813823104226182d33c2c33826, 0x3112c2913c301282813823104226182d33c2c33827, 0x2613023104224383042c314282d4242c4202940428, 0x2613023104224383042c314282d4242c4202848429, 0x2613023104224383042c314282d4242c420294042a, 0x2613023104224383042c314282d4242c420284842b, 0x2613023104224383042c3142829404286302d6042c, 0x2613023104224383042c3142829404286302c6842d, 0, 0, 0x2d11c2c118264083112c2913c28138221842574030, 0x2d11c2c118264082913c3012828138231042474431, 0x2613023104224383042c3142829404286302d60432, 0x2613023104224383042c3142829404286302c68433, 0, 0, 0x2d11c2c118264083112c2913c28138221842574036, 0x2d11c2c118264082913c3012828138231042474437]),
  (8733345, [0, 0x281382f1242d11c22184370c8300b82909c25, 0x370c8300b82909c2520857148501384911c45, 0x281382f1242d11c370c8300b82909c2419463, 0x281382f1242d11c370c8300b82909c2419484, 0, 0x2813822184370d4330c8300b82531cab314a6, 0, 0x2f1242d11c370c82e0a42809c24194843a0a8, 0, 0x370c82909c2520857150521384911c453a8aa, 0x281382d11c370d4320c02e09c24194633acab, 0x370a42520857150521384c124453a8b43b0ac, 0x370a42520857150521384c124453a8b43b0ad, 0, 0x2813822184330c8300b82531cab314b33bcaf, 0, 0x2813822184330c8300b82531cab314b33bcb1, 0, 0x2813822184370d4330c8300b82531cab314b3, 0x370c82909c2520857150521384911c453a8b4, 0x281382d11c370d4320c02e09c24194633acb5, 0x2f1242d11c370c82e0a42809c24194843a0b6, 0]),
  (10560645, [0, 0x2913c2e1202c11823104370d4300b42a09c22, 0, 0x2913c2e1202c118370d4300b42a09c2308843, 0x2913c2e1202c118370d4300b42a09c2520844, 0x2913c2e1202c118370d4300b42a09c2520845, 0x2913c23104370d4300b82d0b02231c4830846, 0, 0x2913c2c118370d4300b82d09c25208443a048, 0x2e1202c118370c02d0a82909c25208453a449, 0, 0x2e1202c118350c02d0ac2a09c23088433ac4b, 0x2913c23104370d4300b82d0b02231c483084c, 0, 0x2913c2c118370d4300b82d09c25208443a04e, 0x2e1202c118370c02d0a82909c25208453a44f, 0, 0x2e1202c118350c02d0ac2a09c23088433ac51, 0x2913c370d4320c02e09c25208443a04e3c852, 0x2913c370d4320c02e09c25208443a04e3c853, 0x2913c23104370d42d0b02231c483084c3d054, 0, 0x2913c23104370d42d0b02231c483084c3d056, 0]),
  (12779715, [0, 0, 0x2f1242b1442e1202a1402d11c2c1182310422, 0x2f1242b1442e1202a1402d11c2c1182218423, 0x2f1242b1442e1202a1402d11c2c1182310424, 0x2f1242b1442e1202a1402d11c2c1182218425, 0, 0, 0x2f1242b1442e1202d11c2c118231042232028, 0x2e1202a1402f1242d11c2c118221842332429, 0x2f1242b1442e1202d11c2c11823104223202a, 0x2e1202a1402f1242d11c2c11822184233242b, 0x2913c2813823104226182f3342d6042e3302c, 0x2913c2813823104226182e3302c6842f3342d, 0x2913c2813823104226182f3342d6042c3382e, 0x2913c2813823104226182e3302c6842d33c2f, 0, 0, 0x2913c2813823104226182f3342d6042e33032, 0x2913c2813823104226182e3302c6842f33433, 0x2913c2813823104226182f3342d6042c33834, 0x2913c2813823104226182e3302c6842d33c35, 0, 0]),
  (10066329, [0, 0x370d0330c02f0b02b0a02709023, 0x370d0330c02f0b02b0a02708c43, 0, 0, 0x370d0330c02f0b02b0a02709065, 0x2408cc71b86a310711a4c31b466, 0, 0, 0x340cc300b02809c24194e91c469, 0x370cc2f0b02b09c2310cea1b86a, 0, 0, 0x2408cc71b86a310711a4c31c86d, 0x370cc2f0b02b09c2310cea1d86e, 0, 0, 0x340cc300b02809c24194e91d471, 0x2408cc71b86a310711a4c319872, 0, 0, 0x340cc300b02809c24194e91a475, 0x370cc2f0b02b09c2310cea1a876, 0]),
  (16777215, [0, 0, 0, 0, 0, 0, 0, 0, 0, 0, 0, 0, 0, 0, 0, 0, 0, 0, 0, 0, 0, 0, 0, 0])]

def Kf : List (List Nat) := [[0, 1, 2, 3, 4], [0, 1, 2, 4, 3], [0, 2, 1, 3, 4], [0, 2, 1, 4, 3], [1, 0, 2, 3, 4], [1, 0, 2, 4, 3], [1, 2, 0, 3, 4], [1, 2, 0, 4, 3], [2, 0, 1, 3, 4], [2, 0, 1, 4, 3], [2, 1, 0, 3, 4], [2, 1, 0, 4, 3]]
def Mf : Nat := 0x443214c74254b08062290e64a16a214c70044352d09290e6080625a92810c014254b214c7188204a16a290e64254b10c0131c854a16a18820398a431c8552d0900443398a45a9280806252d0931c8510c015a928398a418820
def Lf : List (Nat × List Nat) := [
  (1, [0, 0, 0, 0, 0, 0, 198, 237799, 264, 206121, 0, 0]),
  (3, [0, 0, 34, 35, 36, 37, 42145830, 42145831, 40116264, 40116265, 42, 43]),
  (5, [0, 34, 0, 67, 73533508, 0x443084a2a445, 71501894, 0x11882120e7, 73533512, 0x110c211929, 71501898, 0x462084839c4b]),
  (9, [0, 35, 67, 0, 0x6530c6b22464, 107121765, 106105958, 0x198a31a0e7, 107121768, 0x194c319929, 0x6628c6839c6a, 106105963]),
  (17, [0, 36, 73533508, 0x854a86720c64, 0, 133, 73470086, 0x12904220e7, 77861000, 0x1184421929, 77861002, 0x8530c6b4908b]),
  (33, [0, 37, 0x854ac4728845, 107121765, 133, 0, 107058342, 0x1ad052a0e7, 112465064, 0x1986529929, 0x853084a494aa, 112465067]),
  (1025, [0, 42, 71501898, 0x52ce438c6a, 77861002, 0x52d22494aa, 75704518, 44277991, 75704584, 44246313, 0, 331]),
  (2049, [0, 43, 0x52ce53884b, 106105963, 0x52d234908b, 112465067, 109259974, 45326567, 109260040, 45294889, 331, 0]),
  (321, [0, 40998, 73798, 106598, 71814, 104614, 0, 206023, 0, 39113, 73930, 106699]),
  (15, [0, 0, 0, 0, 0x2a118262082811024, 0x2a118262082811025, 0x28110243082a11826, 0x28110243082a11827, 0x2a118262082412028, 0x2a118262082412029, 0x2811024308261282a, 0x2811024308261282b]),
  (51, [0, 0, 0x2a118262082811022, 0x2a118262082811023, 0, 0, 0x2a118281102221826, 0x2a118281102221827, 0x26128224102a22028, 0x26128224102a22029, 0x2612822410282282a, 0x2612822410282282b]),
  (3075, [0, 0, 0x28110243082612822, 0x28110243082612823, 0x26128224102822824, 0x26128224102822825, 0x24120223282831826, 0x24120223282831827, 0x24120223282642028, 0x24120223282642029, 0, 0]),
  (963, [0, 0, 0x241202a11822, 0x241202a11823, 0x2a1182221824, 0x2a1182221825, 0, 0, 0, 0, 0x24120223282a, 0x24120223282b]),
  (1365, [0, 0x2a0a02609022, 0, 0x2a0a02609043, 0, 0x2a0982221445, 0, 0x280904321c47, 0, 0x2a0982221449, 0, 0x280904321c4b]),
  (2409, [0, 0x2b0a02609423, 0x2b0a02609443, 0, 0x232146720c64, 0, 0, 0x280944329c67, 0, 0x232146720c69, 0x280944329c6a, 0]),
  (4095, [0, 0, 0, 0, 0, 0, 0, 0, 0, 0, 0, 0])]

def Kg : List (List Nat) := [[0, 1, 2, 3, 4], [0, 2, 4, 1, 3], [0, 3, 1, 4, 2], [0, 4, 3, 2, 1], [1, 0, 4, 3, 2], [1, 2, 3, 4, 0], [1, 3, 0, 2, 4], [1, 4, 2, 0, 3], [2, 0, 3, 1, 4], [2, 1, 0, 4, 3], [2, 3, 4, 0, 1], [2, 4, 1, 3, 0], [3, 0, 2, 4, 1], [3, 1, 4, 2, 0], [3, 2, 1, 0, 4], [3, 4, 0, 1, 2], [4, 0, 1, 2, 3], [4, 1, 3, 0, 2], [4, 2, 0, 3, 1], [4, 3, 2, 1, 0]]
def Mg : Nat := 0x443214c74254b635cf84653310a76b1cf008234a90b8ce124292b08803731af290c7942717358f5250b31487104039ca304a16a290e608062946137358f8465318022390a65a12a7b1ae08c0242d2a84a33214e6639ed394868ca134ad0a00c226bdcc10061635ee218e584e324292b21cc500c418c2726b1ee4a16a7b1ae9c23210c0131c8552d098ce12398857b58e180415a548639ed10460521699c251310a7942715a149184407b98d394861882084e5163dcd42d4921cc552d0973d8d94e1108860298e4298e44a9686b9ec8ca70004435a5489467029cc473dac08c026bdcc31ca49c65052568100619ca307b9ac5a928398a418820
def Lg : List (Nat × List Nat) := [
  (1, [0, 33, 66, 0, 0, 183675045, 198, 231, 264, 0, 178602314, 363, 396, 429, 0, 183670255, 173522448, 561, 594, 0]),
  (9, [0, 35, 67, 0, 0x6e23c692406520c64, 0x6e23c692406428c65, 0x8cee3186730c66, 0x8cee3186638c67, 0x10dcc4206b40c68, 0x6520c704b86a48c69, 0x6520c704b86950c6a, 0x10dcc4206858c6b, 0x10dcc4206b40c6c, 0x10dcc4206858c6d, 0x6520c704b86950c6e, 0x6520c704b86a48c6f, 0x6e23c692406520c70, 0x8cee3186638c71, 0x8cee3186730c72, 0x6e23c692406428c73]),
  (17, [0, 0x8b40c2408c21, 0x8b40c2410c42, 0x6e23c692406520c64, 0, 0x6e23c692406519085, 0x2486610886, 0x22d030902308487, 0x8b40c2141088, 0x6e23c691948549089, 0x85490905288e5108a, 139, 0x8b1b4426108c, 0x8b1b4426108d, 0x85490905288a7108e, 0x85490905288a7108f, 0x6e23c691948549090, 0x8b40c2141091, 146, 0x85490905288e51093]),
  (513, [0, 0x13190c2908c21, 0x13190c2910c42, 0x6520c704b86a48c69, 0x6e23c691948549089, 0x702ccaf2b8aa2a4a5, 0x4c44e324c6, 0x12d51ceb3a4e7, 0xac2a10c42508, 0, 0x6520c704b86a1a52a, 0x4b46b1092b, 0x131749086252c, 301, 0x702ccae2a8a57252e, 0x6e23c6428c737a52f, 0x702ccae2a8a572530, 305, 0x1317490862532, 0x6e23c6428c737a533]),
  (16385, [0, 0xce38c2e08c21, 0xce38c2e10c42, 0x6520c704b86950c6e, 0x85490905288a7108e, 0x701bcb32bcae2a8a5, 206, 0xce38c213b8e7, 270, 0x702ccae2a8a57252e, 0x6f2386520c705394a, 0x10e7c88e22d6b, 0x33a536398c, 0x10e8352e4b5ad, 0, 0x6520c704b86f1b9cf, 0x702cca572533839d0, 0xce1c8428b9d1, 0xce1c8428b9d2, 0x702cca572533839d3]),
  (524289, [0, 0x19368c3308c21, 0x19368c3310c42, 0x6e23c692406428c73, 0x85490905288e51093, 0x701bc6a2ccaf2a8a5, 0x193938d3338c6, 243, 0x193938d343908, 0x6e23c6428c737a533, 0x701bc6a2ccaa5414a, 0xf35489322d6b, 403, 0xf37b5334b5ad, 0x702cca572533839d3, 0x701bc6a2ccaf295ef, 0x701bc6a2cca57be10, 0xf37b5334c631, 0xf35489324a52, 0]),
  (15, [0, 0, 0, 0, 0x330ac2520c320a426208310a827204300a024, 0x300a02428c310a827288320a426284330ac25, 0x330ac2520c310a827204300a024304320a426, 0x300a02428c320a426284330ac25384310a827, 0x330ac2520c320a426208310a8272042c0c028, 0x330ac2520c310a827204300a0243042f0c829, 0x300a02428c320a426284330ac253842e0c42a, 0x300a02428c310a827288320a4262842d0cc2b, 0x330ac2520c320a426208310a827204280902c, 0x300a02428c310a827288320a4262842b0942d, 0x300a02428c320a426284330ac253842a09c2e, 0x330ac2520c310a827204300a024304290982f, 0x330ac2520c320a426208310a827204240b030, 0x300a02428c320a426284330ac25384270b831, 0x330ac2520c310a827204300a024304260bc32, 0x300a02428c310a827288320a426284250b433]),
  (16705, [0, 0x330ac2520c320b0300a8270b8290a02608c21, 0x330ac2520c320b0300a8270b8290a02610c42, 0x330ac2520c2c0a0433246f31c6730c6e1a066, 0x330ac2520c320c02a09c2e0a4280984310886, 0x2e0b02608c212c4af2b8ad2b0ab2a8a8298a5, 0, 0x2d0b02b0a0433246f1b86b1a067198cb33cc7, 0, 0x330ac2520c320b0300a8270b8290a043108c9, 0x330ac2520c320b0300b82a0a42809823084ca, 0x2d0b02b0a0433246f31c6730c6e1ac68198cb, 0x330ac2520c320a8270b82c0a42810c42324cc, 0x320b0300b82b0942d0a8290a02608c21328cd, 0, 0x2d0b02b0a0433246730c6f1b86b1a06632ccf, 0x250b4330c82c0c0270b82608c21818d3344d0, 0x250b4330c82c0c0270b82608c21818d234cd1, 0x250b4330c82c0c0270b82608c21818d1340d2, 0x250b4330c82c0c0270b82608c21818d0348d3]),
  (139777, [0, 0x300a02428c2f0c8270b8310ac250b42908c21, 0x300a02428c2f0c8270b8310ac250b42910c42, 0x300a02428c2d0ac433246e3186638c711b469, 0x2f0c8270b8310ac250b42908c214109123489, 0x240b0300bc2e09423084b12bcae2b4aa2a4a5, 0x300a02428c3209c2e0ac250b42910c42324c6, 0x2f0a42321c6428c731a8691a0ed3a8eb3a4e7, 0x2f0b82c09423084b12bcae2b4aa2950c42508, 0, 0x300a02428c2d0ac433246638c711b46a1a52a, 0x300a02428c2f0c8270b8310b42b0a4431092b, 0x2f0b82c09423084b12bcae2a8a5431086252c, 0, 0x2f0c8240b03009c2e0b42b0a4431092b6b92e, 0x2f0b82c09423084b12bcad2950c425086bd2f, 0x2f0c8240b03009c2e0b42b0a4431092b6b930, 0, 0x2f0b82c09423084b12bcae2a8a54310862532, 0x2f0b82c09423084b12bcad2950c425086bd33]),
  (264209, [0, 0x310a8272042d0cc260bc320c02b0a02408c21, 0x310a8272042d0cc260bc320c02b0a02410c42, 0x310a827204320c026090432186520c721ac64, 0, 0x310a827204320c02609043218721ac6519085, 0x310a8272042d0cc320c02b0a0260904310886, 0x2d0cc260bc320c4300ac2a0a0270902308487, 0x2d0cc260bc3209c2e0c4300ac2808c2141088, 0x310a8272043009043218721ac691948549089, 0x300b82a09043218721ac85490905288e5108a, 0, 0x260bc2a09c2e0b42b0a02410c426108e5b08c, 0x260bc2a09c2e0b42b0a02410c426108e5b08d, 0x260bc2a09c2e0b42b0a02410c426108d5b88e, 0x260bc2a09c2e0b42b0a02410c426108d5b88f, 0x310a8272043009043218721ac691948549090, 0x2d0cc260bc3209c2e0c4300ac2808c2141091, 0, 0x300b82a09043218721ac85490905288e51093]),
  (528513, [0, 0x320a426208250b4330c4280902c0a82708c21, 0x320a426208250b4330c4280902c0a82710c42, 0x320a426208330c4270942321c6428c731b067, 0x320a426208250b4330c42a0a0270902308487, 0x310982f0b02508c212c4af2b4ac2a8a829ca5, 0x250b4330a0240b02a0a42710c42324cc31cc6, 0, 0x2f0a42321c6428c731ac6a1a46741ceb3a4e8, 0x2f0a42321c6428c731ac6a1a46741cea3ace9, 0x2f0a42321c6428c731ac6a1a46741ce93a0ea, 0x2f0a42321c6428c731ac6a1a46741ce83a8eb, 0, 0x320a4262083109c2321c6428c731b46c19ced, 0x320a426208250b4330a0240b02a09c23084ee, 0x250b4330c4290982f0a0240b02a09c43108ef, 0x320a4262083109c2321c731c06d1b0673b4f0, 0x250b4330c4290982f0a0240b02710c423bcf1, 0x250b4330982f0c8280902c0a82708c213b8f2, 0]),
  (99361, [0, 0x701bc6a19421, 0x701bc6a19442, 0x1c06f1a865, 0x1bc6a19485, 0, 0x701bcb32b8c6, 0x701bc6a2cce7, 0x701bcb32b908, 0x1c0b32b8a9, 0, 0x6f1a8652156b, 0x701bc6a2cd8c, 0x702ccae2a5ad, 0x1c06f2ccae, 0, 0, 0x702ccae2a631, 0x6f1a86521652, 0x1c06f1a8b3]),
  (640569, [0, 0x330c02f0b82a0a42509023, 0x330c02f0b82a0a42509043, 0, 0, 0, 0x330c02e0a8250904321866, 0x330c02f0a4250902321c67, 0x330bc290942321c7122068, 0, 0, 0x300b82a090432187222c6b, 0x330bc290942321c712206c, 0x300b82a090432187222c6d, 0, 0, 0, 0x330c02f0a4250902321c71, 0x330c02e0a8250904321872, 0]),
  (1048575, [0, 0, 0, 0, 0, 0, 0, 0, 0, 0, 0, 0, 0, 0, 0, 0, 0, 0, 0, 0])]

def home : List (List Nat × List Nat × Bool) := [([0], [4, 0, 1, 2, 3], true), ([0, 1], [3, 4, 0, 1, 2], false), ([0, 2], [3, 0, 4, 1, 2], false), ([0, 3], [3, 0, 1, 4, 2], false), ([0, 4], [3, 0, 1, 2, 4], false), ([0, 1, 2], [0, 1, 2, 3, 4], false), ([0, 1, 3], [0, 1, 3, 2, 4], false), ([0, 1, 4], [0, 1, 3, 4, 2], false), ([0, 2, 3], [0, 3, 1, 2, 4], false), ([0, 2, 4], [0, 3, 1, 4, 2], false), ([0, 3, 4], [0, 3, 4, 1, 2], false), ([0, 1, 2, 3], [0, 1, 2, 3, 4], true), ([0, 1, 2, 4], [0, 1, 2, 4, 3], true), ([0, 1, 3, 4], [0, 1, 4, 2, 3], true), ([0, 2, 3, 4], [0, 4, 1, 2, 3], true)]
def wheel : List (List Nat × List Nat) := [([1, 2, 3, 4, 0], [0, 1, 2, 3, 4]), ([1, 2, 4, 0, 3], [0, 1, 2, 4, 3]), ([1, 3, 0, 4, 2], [0, 1, 4, 2, 3]), ([1, 3, 4, 2, 0], [0, 1, 3, 2, 4]), ([1, 4, 0, 2, 3], [0, 1, 4, 3, 2]), ([1, 4, 3, 0, 2], [0, 1, 3, 4, 2]), ([2, 0, 3, 4, 1], [0, 4, 1, 2, 3]), ([2, 0, 4, 1, 3], [0, 4, 1, 3, 2]), ([2, 3, 1, 4, 0], [0, 2, 1, 3, 4]), ([2, 3, 4, 0, 1], [0, 3, 1, 4, 2]), ([2, 4, 1, 0, 3], [0, 2, 1, 4, 3]), ([2, 4, 3, 1, 0], [0, 3, 1, 2, 4]), ([3, 0, 1, 4, 2], [0, 4, 3, 1, 2]), ([3, 0, 4, 2, 1], [0, 4, 2, 1, 3]), ([3, 2, 0, 4, 1], [0, 3, 4, 1, 2]), ([3, 2, 4, 1, 0], [0, 2, 3, 1, 4]), ([3, 4, 0, 1, 2], [0, 2, 4, 1, 3]), ([3, 4, 1, 2, 0], [0, 3, 2, 1, 4]), ([4, 0, 1, 2, 3], [0, 4, 3, 2, 1]), ([4, 0, 3, 1, 2], [0, 4, 2, 3, 1]), ([4, 2, 0, 1, 3], [0, 3, 4, 2, 1]), ([4, 2, 3, 0, 1], [0, 2, 3, 4, 1]), ([4, 3, 0, 2, 1], [0, 2, 4, 3, 1]), ([4, 3, 1, 0, 2], [0, 3, 2, 4, 1])]
end RX

set_option Elab.async false
set_option linter.all false
set_option maxRecDepth 100000
set_option maxHeartbeats 4000000
/-! SG1: a told list of all parts of a group, looked at through a table of its products. -/
namespace RX
/-- the table's entry -/
def tb (k M i j : Nat) : Nat := (M >>> (5 * (k * i + j))) % 32
/-- a chain of products, each of two that are there -/
def wrun (k M : Nat) : Nat → Nat → Nat → Nat
  | 0, _, W => W
  | f + 1, c, W => if c = 0 then W else if W.testBit (c % 1024 / 32) && W.testBit (c % 32) then wrun k M f (c / 1024) (W ||| (1 <<< tb k M (c % 1024 / 32) (c % 32))) else W
def chkR (k M : Nat) (L : List (Nat × List Nat)) (r : Nat) (cs : List Nat) : Bool :=
  decide (r < 2 ^ k) && (List.range k).all fun p => r.testBit p || (let W := wrun k M 24 (cs.getD p 0) (r ||| (1 <<< p)); L.any fun T => decide (r < T.1) && (r &&& T.1 == r) && (T.1 &&& W == T.1))
def chkL (k M : Nat) (L : List (Nat × List Nat)) : Bool := L.all (fun r => chkR k M L r.1 r.2) && ((L.getD 0 (0, [])).1 == 1)
def chkT (K : List (List Nat)) (M : Nat) : Bool := (List.range K.length).all fun i => (List.range K.length).all fun j => decide (tb K.length M i j < K.length) && (comp (K.getD i []) (K.getD j []) == K.getD (tb K.length M i j) [])
theorem bit_one {p i : Nat} : (1 <<< p).testBit i = decide (p = i) := by
  rw [Nat.one_shiftLeft, Nat.testBit_two_pow]
theorem wrun_in {k M : Nat} {P : Nat → Prop} (hP : ∀ i j, P i → P j → P (tb k M i j)) : ∀ (f c W : Nat), (∀ i, W.testBit i = true → P i) → ∀ i, (wrun k M f c W).testBit i = true → P i
  | 0, c, W, h, i, hi => h i hi
  | f + 1, c, W, h, i, hi => by
    rw [wrun] at hi
    by_cases c0 : c = 0
    · rw [if_pos c0] at hi; exact h i hi
    · rw [if_neg c0] at hi
      by_cases c1 : (W.testBit (c % 1024 / 32) && W.testBit (c % 32)) = true
      · rw [if_pos c1] at hi
        rw [Bool.and_eq_true] at c1
        refine wrun_in hP f _ _ (fun j hj => ?_) i hi
        rw [Nat.testBit_or, Bool.or_eq_true, bit_one, decide_eq_true_eq] at hj
        rcases hj with hj | rfl
        · exact h j hj
        · exact hP _ _ (h _ c1.1) (h _ c1.2)
      · rw [if_neg c1] at hi; exact h i hi
/-- what is closed is told -/
theorem told_of {k M : Nat} {L : List (Nat × List Nat)} (ok : chkL k M L = true) {P : Nat → Prop} (h0 : P 0) (hP : ∀ i j, P i → P j → P (tb k M i j)) : ∃ T ∈ L, ∀ i, i < k → (T.1.testBit i = true ↔ P i) := by
  unfold chkL at ok
  rw [Bool.and_eq_true, List.all_eq_true, beq_iff_eq] at ok
  obtain ⟨ok, o1⟩ := ok
  have go : ∀ (m : Nat) (r : Nat × List Nat), r ∈ L → 2 ^ k - r.1 ≤ m → (∀ i, r.1.testBit i = true → P i) → ∃ T ∈ L, ∀ i, i < k → (T.1.testBit i = true ↔ P i) := by
    intro m
    induction m with
    | zero =>
      intro r hr hm _
      have h := ok r hr
      unfold chkR at h
      rw [Bool.and_eq_true, decide_eq_true_eq] at h
      omega
    | succ m ih =>
      intro r hr hm hs
      have h := ok r hr
      unfold chkR at h
      rw [Bool.and_eq_true, decide_eq_true_eq, List.all_eq_true] at h
      obtain ⟨lt, h⟩ := h
      rcases Classical.em (∀ i, i < k → P i → r.1.testBit i = true) with full | miss
      · exact ⟨r, hr, fun i hi => ⟨hs i, full i hi⟩⟩
      · have : ∃ p, p < k ∧ P p ∧ r.1.testBit p = false := Classical.byContradiction fun z => miss fun i hi hp => by
          cases e : r.1.testBit i with
          | true => rfl
          | false => exact absurd ⟨i, hi, hp, e⟩ z
        obtain ⟨p, hp, pp, e⟩ := this
        have h2 := h p (List.mem_range.mpr hp)
        rw [e, Bool.false_or] at h2
        obtain ⟨T, hT, h3⟩ := List.any_eq_true.mp h2
        rw [Bool.and_eq_true, Bool.and_eq_true, decide_eq_true_eq, beq_iff_eq, beq_iff_eq] at h3
        obtain ⟨⟨l1, l2⟩, l3⟩ := h3
        refine ih T hT (by omega) fun i hi => ?_
        rw [← l3, Nat.testBit_and, Bool.and_eq_true] at hi
        refine wrun_in hP 24 _ _ (fun j hj => ?_) i hi.2
        rw [Nat.testBit_or, Bool.or_eq_true, bit_one, decide_eq_true_eq] at hj
        rcases hj with hj | rfl
        · exact hs j hj
        · exact pp
  cases L with
  | nil => simp at o1
  | cons r L =>
    have o1 : r.1 = 1 := o1
    refine go _ r List.mem_cons_self (Nat.le_refl _) fun i hi => ?_
    rw [o1, ← Nat.shiftLeft_zero (n := 1), bit_one, decide_eq_true_eq] at hi
    subst hi
    exact h0
/-- turned back by e -/
def bq (e x : List Nat) : List Nat := comp (comp (inv e) x) e
section
variable {n : Nat} {e : List Nat} (he : Ex e n)
include he
theorem bq_mul {x y : List Nat} (hx : Ex x n) (hy : Ex y n) : comp (bq e x) (bq e y) = bq e (comp x y) := by
  obtain ⟨ei, e1, e2, _⟩ := ex_inv he
  unfold bq
  rw [comp_assoc he (ex_comp (ex_comp ei hy) he), comp_assoc hy he (p := inv e), ← comp_assoc ei (ex_comp hy he) (p := e), e1, id_comp (ex_comp hy he), ← comp_assoc hy he, comp_assoc hx hy]
theorem bq_one : bq e (List.range n) = List.range n := by
  obtain ⟨ei, e1, e2, _⟩ := ex_inv he
  unfold bq
  rw [comp_id ei, e2]
theorem bq_back {m : List Nat} (hm : Ex m n) : bq e (comp (comp e m) (inv e)) = m := by
  obtain ⟨ei, e1, e2, _⟩ := ex_inv he
  unfold bq
  rw [comp_assoc hm ei, ← comp_assoc he (ex_comp hm ei), e2, id_comp (ex_comp hm ei), comp_assoc ei he, e2, comp_id hm]
end
open Classical in
/-- parts of a group that lies, turned by e, in a told one, are few -/
theorem few_parts {n : Nat} {K : List (List Nat)} {M : Nat} {L : List (Nat × List Nat)} (ok : chkL K.length M L = true) (okT : chkT K M = true) (one : K.getD 0 [] = List.range n) (pos : 0 < K.length) (ex : ∀ p ∈ K, Ex p n) {S : List (List Nat)} (g : IsG n S) {e : List Nat} (he : Ex e n) (hs : ∀ m ∈ S, comp (comp e m) (inv e) ∈ K) : (subs n S).length ≤ L.length := by
  have row : ∀ {i}, i < K.length → K.getD i [] ∈ K := fun {i} hi => by
    rw [List.getD_eq_getElem?_getD, List.getElem?_eq_getElem hi]
    exact List.getElem_mem hi
  have tab : ∀ i j, i < K.length → j < K.length → tb K.length M i j < K.length ∧ comp (K.getD i []) (K.getD j []) = K.getD (tb K.length M i j) [] := fun i j hi hj => by
    have h := List.all_eq_true.mp (List.all_eq_true.mp okT i (List.mem_range.mpr hi)) j (List.mem_range.mpr hj)
    rwa [Bool.and_eq_true, decide_eq_true_eq, beq_iff_eq] at h
  -- each part is told
  have each : ∀ R, IsG n R → ∃ T ∈ L, ∀ i, i < K.length → (T.1.testBit i = true ↔ (i < K.length ∧ bq e (K.getD i []) ∈ R)) := fun R r => by
    refine told_of ok ⟨pos, ?_⟩ fun i j hi hj => ?_
    · rw [one, bq_one he]; exact r.one
    · obtain ⟨t1, t2⟩ := tab i j hi.1 hj.1
      refine ⟨t1, ?_⟩
      rw [← t2, ← bq_mul he (ex _ (row hi.1)) (ex _ (row hj.1))]
      exact r.mul _ _ hi.2 hj.2
  let f : List (List Nat) → Nat × List Nat := fun R => if h : ∃ T ∈ L, ∀ i, i < K.length → (T.1.testBit i = true ↔ (i < K.length ∧ bq e (K.getD i []) ∈ R)) then Classical.choose h else (0, [])
  have fs : ∀ R, IsG n R → f R ∈ L ∧ ∀ i, i < K.length → ((f R).1.testBit i = true ↔ (i < K.length ∧ bq e (K.getD i []) ∈ R)) := fun R r => by
    have h := each R r
    have e1 : f R = Classical.choose h := dif_pos h
    rw [e1]
    exact Classical.choose_spec h
  refine inj_len f (subs_nd g) (fun R1 h1 R2 h2 ef => ?_) fun R hR => (fs R ((mem_subs g).mp hR).1).1
  obtain ⟨r1, s1⟩ := (mem_subs g).mp h1
  obtain ⟨r2, s2⟩ := (mem_subs g).mp h2
  have same : ∀ p ∈ S, (p ∈ R1 ↔ p ∈ R2) := fun p hp => by
    obtain ⟨i, hi, ei⟩ := List.mem_iff_getElem.mp (hs p hp)
    have e1 : bq e (K.getD i []) = p := by
      rw [List.getD_eq_getElem?_getD, List.getElem?_eq_getElem hi, Option.getD_some, ei]
      exact bq_back he (g.ex hp)
    have a1 := (fs R1 r1).2 i hi
    have a2 := (fs R2 r2).2 i hi
    rw [ef] at a1
    rw [e1] at a1 a2
    exact ⟨fun z => (a2.mp (a1.mpr ⟨hi, z⟩)).2, fun z => (a1.mp (a2.mpr ⟨hi, z⟩)).2⟩
  rw [r1.ord, r2.ord]
  refine List.filter_congr fun p _ => ?_
  rw [decide_eq_decide]
  exact ⟨fun z => (same p (s1 p z)).mp z, fun z => (same p (s2 p z)).mpr z⟩
end RX

set_option Elab.async false
set_option linter.all false
set_option maxRecDepth 100000
set_option maxHeartbeats 4000000
/-! SG2: the kernel's looks at the told lists. -/
namespace RX
def okX (n : Nat) (K : List (List Nat)) : Bool := K.all fun p => p.length == n && (p.all fun i => decide (i < n)) && nodupB p
theorem okX_of {n : Nat} {K : List (List Nat)} (h1 : 1 ≤ n) (h5 : n ≤ 5) (h : okX n K = true) : ∀ p ∈ K, Ex p n := fun p hp => by
  have h := List.all_eq_true.mp h p hp
  rw [Bool.and_eq_true, Bool.and_eq_true, beq_iff_eq, List.all_eq_true] at h
  exact ⟨h1, h5, h.1.1, fun i hi => of_decide_eq_true (h.1.2 i hi), nodup_of h.2⟩
def good (n : Nat) (K : List (List Nat)) (M : Nat) (L : List (Nat × List Nat)) : Bool := chkL K.length M L && chkT K M && (K.getD 0 [] == List.range n) && decide (0 < K.length) && okX n K && decide (L.length < 64)
theorem good_few {n : Nat} {K : List (List Nat)} {M : Nat} {L : List (Nat × List Nat)} (h : good n K M L = true) {S : List (List Nat)} (g : IsG n S) {e : List Nat} (he : Ex e n) (hs : ∀ m ∈ S, comp (comp e m) (inv e) ∈ K) : (subs n S).length < 64 := by
  unfold good at h
  simp only [Bool.and_eq_true, beq_iff_eq, decide_eq_true_eq] at h
  obtain ⟨⟨⟨⟨⟨a1, a2⟩, a3⟩, a4⟩, a5⟩, a6⟩ := h
  exact Nat.lt_of_le_of_lt (few_parts a1 a2 a3 a4 (okX_of g.n1 g.n5 a5) g he hs) a6
theorem good_a : good 1 Ka Ma La = true := by decide +kernel
theorem good_b : good 2 Kb Mb Lb = true := by decide +kernel
theorem good_c : good 3 Kc Mc Lc = true := by decide +kernel
theorem good_d : good 4 Kd Md Ld = true := by decide +kernel
theorem good_e : good 5 Ke Me Le = true := by decide +kernel
theorem good_f : good 5 Kf Mf Lf = true := by decide +kernel
theorem good_g : good 5 Kg Mg Lg = true := by decide +kernel
end RX

set_option Elab.async false
set_option linter.all false
set_option maxRecDepth 100000
set_option maxHeartbeats 4000000
/-! SG3: a group of at most 24 exchanges of at most five things has fewer than 64 parts. -/
namespace RX
def keeps (O m : List Nat) : Bool := O.all fun a => O.contains (at_ m a)
theorem home_ok : (home.all fun h => (okX 5 [h.2.1]) && (exs 5).all fun m => !keeps h.1 m || (if h.2.2 then Ke else Kf).contains (comp (comp h.2.1 m) (inv h.2.1))) = true := by decide +kernel
theorem home_all : ((subl (List.range 5)).all fun O => !O.contains 0 || O == List.range 5 || home.any fun h => h.1 == O) = true := by decide +kernel
def fixn (m : List Nat) : Nat := ((List.range 5).filter fun t => at_ m t == t).length
def isW (m : List Nat) : Bool := wheel.any fun h => h.1 == m
def sixB (m : List Nat) : Bool := fixn m == 0 && !isW m
def triB (m : List Nat) : Bool := fixn m == 2
def back6 (x : List Nat) : List Nat := comp (comp x x) ((List.range 5).map fun i => if at_ x i == i then ((List.range 5).filter fun j => at_ x j == j && j != i).getD 0 0 else i)
theorem weigh : ((exs 5).all fun m => isW m || (decide (1 + (if triB m then 1 else 0) + (if m == List.range 5 then 4 else 0) ≤ fixn m + (if sixB m then 1 else 0)) && (!sixB m || (triB (comp m m) && back6 (comp m m) == m)))) = true := by decide +kernel
def zc : List Nat := [1, 2, 3, 4, 0]
theorem wheel_ok : (wheel.all fun h => okX 5 [h.2] && comp (comp h.2 h.1) (inv h.2) == zc) = true := by decide +kernel
def codeN (p : List Nat) : Nat := p.foldl (fun a x => 5 * a + x) 0
def zs : List (List Nat) := [[0, 1, 2, 3, 4], [1, 2, 3, 4, 0], [2, 3, 4, 0, 1], [3, 4, 0, 1, 2], [4, 0, 1, 2, 3]]
def both (q : List Nat) : List (List Nat) := zs.flatMap fun a => zs.map fun b => comp (comp a q) b
theorem far : ((exs 5).all fun q => Kg.contains q || nodupB ((both q).map codeN)) = true := by decide +kernel
theorem zs_pow : ((List.range 5).map fun k => pow zc k) = zs := by decide +kernel
theorem sum_le {α : Type} (f g : α → Nat) : ∀ l : List α, (∀ x ∈ l, f x ≤ g x) → (l.map f).sum ≤ (l.map g).sum
  | [], _ => Nat.le_refl _
  | x :: l, h => by
    simp only [List.map_cons, List.sum_cons]
    exact Nat.add_le_add (h x List.mem_cons_self) (sum_le f g l fun y hy => h y (List.mem_cons_of_mem _ hy))
theorem sum_ite {α : Type} (p : α → Bool) : ∀ l : List α, (l.map fun x => if p x = true then 1 else 0).sum = (l.filter p).length
  | [] => rfl
  | x :: l => by
    simp only [List.map_cons, List.sum_cons, sum_ite p l]
    cases h : p x
    · simp [h]
    · simp [h]; omega
theorem le_sum {α : Type} (f : α → Nat) : ∀ {l : List α} {x : α}, x ∈ l → f x ≤ (l.map f).sum
  | y :: l, x, h => by
    simp only [List.map_cons, List.sum_cons]
    rcases List.mem_cons.mp h with rfl | h
    · omega
    · have := le_sum f h; omega
section
variable {S : List (List Nat)} (g : IsG 5 S)
include g
/-- one that leaves a part in its place -/
theorem few_home {h : List Nat × List Nat × Bool} (hh : h ∈ home) (k : ∀ m ∈ S, keeps h.1 m = true) : (subs 5 S).length < 64 := by
  have a := List.all_eq_true.mp home_ok h hh
  rw [Bool.and_eq_true, List.all_eq_true] at a
  have he : Ex h.2.1 5 := okX_of (by decide) (by decide) a.1 _ List.mem_cons_self
  have b : ∀ m ∈ S, comp (comp h.2.1 m) (inv h.2.1) ∈ (if h.2.2 = true then Ke else Kf) := fun m hm => by
    have c := a.2 m (g.ex hm).mem
    rw [k m hm, Bool.not_true, Bool.false_or] at c
    exact List.contains_iff_mem.mp c
  cases e : h.2.2 with
  | true =>
    rw [e, if_pos rfl] at b
    exact good_few good_e g he b
  | false =>
    rw [e, if_neg (by decide)] at b
    exact good_few good_f g he b
theorem keeps_orb {m : List Nat} (hm : m ∈ S) : keeps (orb 5 S 0) m = true := by
  refine List.all_eq_true.mpr fun a ha => List.contains_iff_mem.mpr ?_
  obtain ⟨h1, q, hq, rfl⟩ := (mem_orb).mp ha
  exact mem_orb.mpr ⟨at_lt (g.ex hm) h1, comp m q, g.mul _ _ hm hq, g.at_comp hq (by decide)⟩
/-- a group that takes each thing to each has a ring of five -/
theorem has_wheel (full : orb 5 S 0 = List.range 5) : ∃ c ∈ S, isW c = true := by
  refine Classical.byContradiction fun z => ?_
  have no : ∀ m ∈ S, isW m = false := fun m hm => by
    cases e : isW m with
    | false => rfl
    | true => exact absurd ⟨m, hm, e⟩ z
  have one : (orbs 5 S).length = 1 := by
    obtain ⟨h1, h2, h3⟩ := g.go (Nat.le_refl 5)
    have all : ∀ o ∈ orbsGo 5 S 5, o = orb 5 S 0 := fun o ho => by
      obtain ⟨t, ht, rfl⟩ := h2 o ho
      exact g.orb_eq (by decide) (by rw [full]; exact List.mem_range.mpr ht)
    have inn := h3 0 (by decide)
    unfold orbs
    generalize orbsGo 5 S 5 = l at h1 all inn
    match l, h1, all, inn with
    | [], _, _, inn => cases inn
    | [_], _, _, _ => rfl
    | x :: y :: l, h1, all, _ =>
      rw [List.nodup_cons] at h1
      exact absurd (by rw [all x List.mem_cons_self, ← all y (List.mem_cons_of_mem _ List.mem_cons_self)]; exact List.mem_cons_self) h1.1
  have b := g.burnside
  rw [one, Nat.mul_one] at b
  have w : ∀ m ∈ S, (1 + (if triB m then 1 else 0) + (if m == List.range 5 then 4 else 0) ≤ fixn m + (if sixB m then 1 else 0)) ∧ (sixB m = true → triB (comp m m) = true ∧ back6 (comp m m) = m) := fun m hm => by
    have h := List.all_eq_true.mp weigh m (g.ex hm).mem
    rw [no m hm, Bool.false_or, Bool.and_eq_true, decide_eq_true_eq] at h
    refine ⟨h.1, fun e => ?_⟩
    have h2 := h.2
    rw [e, Bool.not_true, Bool.false_or, Bool.and_eq_true, beq_iff_eq] at h2
    exact h2
  have le1 := sum_le (fun m => 1 + (if triB m then 1 else 0) + (if m == List.range 5 then 4 else 0)) (fun m => fixn m + (if sixB m then 1 else 0)) S fun m hm => (w m hm).1
  rw [sum_add, sum_add, sum_add, sum_ite, sum_ite, sum_const (c := 1) (fun _ => 1) S fun _ _ => rfl] at le1
  have b2 : (S.map fixn).sum = S.length := b
  have four := le_sum (fun m : List Nat => if m == List.range 5 then 4 else 0) g.one
  have four : 4 ≤ (S.map fun m : List Nat => if m == List.range 5 then 4 else 0).sum := by
    refine Nat.le_trans ?_ four
    simp
  have six : (S.filter sixB).length ≤ (S.filter triB).length := by
    refine inj_len (fun m => comp m m) (g.nodup.filter _) (fun x hx y hy e => ?_) fun m hm => ?_
    · have h1 := List.mem_filter.mp hx
      have h2 := List.mem_filter.mp hy
      rw [← ((w x h1.1).2 h1.2).2, ← ((w y h2.1).2 h2.2).2]
      exact congrArg back6 e
    · have h1 := List.mem_filter.mp hm
      exact List.mem_filter.mpr ⟨g.mul _ _ h1.1 h1.1, ((w m h1.1).2 h1.2).1⟩
  rw [b2] at le1
  omega
/-- .. and lies, turned, in the group of twenty -/
theorem few_wheel (h24 : S.length ≤ 24) {c : List Nat} (hc : c ∈ S) (w : isW c = true) : (subs 5 S).length < 64 := by
  obtain ⟨h, hh, e⟩ := List.any_eq_true.mp w
  have e : h.1 = c := beq_iff_eq.mp e
  have a := List.all_eq_true.mp wheel_ok h hh
  rw [Bool.and_eq_true, beq_iff_eq] at a
  have he : Ex h.2 5 := okX_of (by decide) (by decide) a.1 _ List.mem_cons_self
  rw [e] at a
  have hx : ∀ p ∈ S, Ex p 5 := fun p hp => g.ex hp
  have t := turn_isG he hx
  have hz : zc ∈ turn 5 h.2 S := (mem_turn he g).mpr ⟨c, hc, a.2.symm⟩
  have len : (turn 5 h.2 S).length ≤ 24 := by
    refine Nat.le_trans (sub_len t.nodup (m := S.map (cj h.2)) fun p hp => ?_) (by rw [List.length_map]; exact h24)
    obtain ⟨q, hq, rfl⟩ := (mem_turn he g).mp hp
    exact List.mem_map.mpr ⟨q, hq, rfl⟩
  have hzs : ∀ p ∈ zs, p ∈ turn 5 h.2 S := fun p hp => by
    rw [← zs_pow] at hp
    obtain ⟨k, _, rfl⟩ := List.mem_map.mp hp
    exact t.powm hz k
  refine good_few good_g g he fun m hm => ?_
  have inn : comp (comp h.2 m) (inv h.2) ∈ turn 5 h.2 S := (mem_turn he g).mpr ⟨m, hm, rfl⟩
  have f := List.all_eq_true.mp far _ (t.ex inn).mem
  rw [Bool.or_eq_true] at f
  rcases f with f | f
  · exact List.contains_iff_mem.mp f
  · exfalso
    have nd : (both (comp (comp h.2 m) (inv h.2))).Nodup := by
      have := nodup_of f
      exact List.Pairwise.of_map codeN (fun a b hne e => hne (congrArg codeN e)) this
    have := sub_len nd (m := turn 5 h.2 S) fun p hp => by
      obtain ⟨x, hx, hp⟩ := List.mem_flatMap.mp hp
      obtain ⟨y, hy, rfl⟩ := List.mem_map.mp hp
      exact t.mul _ _ (t.mul _ _ (hzs x hx) inn) (hzs y hy)
    have l25 : (both (comp (comp h.2 m) (inv h.2))).length = 25 := rfl
    omega
end
/-- FEWER THAN 64 PARTS -/
theorem few_subs {n : Nat} {S : List (List Nat)} (g : IsG n S) (h : S.length ≤ 24) : (subs n S).length < 64 := by
  have id4 : ∀ {k : Nat} {K : List (List Nat)} {M : Nat} {L : List (Nat × List Nat)}, good k K M L = true → n = k → ((exs k).all fun p => K.contains p) = true → (subs n S).length < 64 := fun {k K M L} ok e all => by
    subst e
    have hr := ex_range g.n1 g.n5
    refine good_few ok g hr fun m hm => ?_
    have hi : inv (List.range n) = List.range n := by
      have := ex_inv hr
      rw [← id_comp this.1, this.2.1]
    rw [hi, id_comp (g.ex hm), comp_id (g.ex hm)]
    exact List.contains_iff_mem.mp (List.all_eq_true.mp all m (g.ex hm).mem)
  have n1 := g.n1
  have n5 := g.n5
  rcases (show n = 1 ∨ n = 2 ∨ n = 3 ∨ n = 4 ∨ n = 5 by omega) with e | e | e | e | e
  · exact id4 good_a e (by decide +kernel)
  · exact id4 good_b e (by decide +kernel)
  · exact id4 good_c e (by decide +kernel)
  · exact id4 good_d e (by decide +kernel)
  · subst e
    by_cases full : orb 5 S 0 = List.range 5
    · obtain ⟨c, hc, w⟩ := has_wheel g full
      exact few_wheel g h hc w
    · have sl : orb 5 S 0 ∈ subl (List.range 5) := mem_subl List.filter_sublist
      have a := List.all_eq_true.mp home_all _ sl
      have h0 : (orb 5 S 0).contains 0 = true := List.contains_iff_mem.mpr (g.orb_self (by decide))
      have hf : (orb 5 S 0 == List.range 5) = false := by
        cases e : orb 5 S 0 == List.range 5 with
        | false => rfl
        | true => exact absurd (beq_iff_eq.mp e) full
      rw [h0, hf, Bool.not_true, Bool.false_or, Bool.false_or] at a
      obtain ⟨x, hx, ex⟩ := List.any_eq_true.mp a
      have ex : x.1 = orb 5 S 0 := beq_iff_eq.mp ex
      exact few_home g hx fun m hm => by rw [ex]; exact keeps_orb g hm
end RX

set_option Elab.async false
set_option linter.all false
set_option maxRecDepth 100000
set_option maxHeartbeats 4000000
set_option checkBinderAnnotations false
/-! DMm: a dict that changes no more (D.dct): k in d, for k in d; list(d); x is not True. -/
namespace DL
open PySem L2
open PySem.Spec PyProof.Rows
section
variable {X : Cx} {pins : List (Addr × Obj)} {σ : L2.St} {H B : Hp} {s : Shared} {p : Addr} {ks : List (List Int)} {vs : List V} {o : Obj}
theorem lockX (I : Inv X pins σ H s) (hp : H p = some (dxO p ks vs)) : ∃ o, Inv X pins σ (upd H p (.frz o (dxO p ks vs))) s := by
  have ok := I.hok p _ hp
  obtain ⟨_, ⟨o, hg⟩, _⟩ := id ok
  refine ⟨o, ?_⟩
  have neH : ∀ b u, H b = some u → u ≠ dxO p ks vs → b ≠ p := fun b u e n z => by
    rw [z, hp] at e
    exact n (Option.some.inj e).symm
  have neN : ∀ b, H b = none → b ≠ p := fun b e z => by rw [z, hp] at e; cases e
  refine ⟨I.ok, I.os, I.bare, ⟨I.base.keep, I.base.slot, fun b o e n hx => ?_, I.base.there, fun b xs e => ?_, fun b o u e => ?_, fun b ps e => ?_⟩, I.loc, I.cell, ?_, fun x c e => ?_, fun q hq => ?_, fun b u e => ?_, I.len⟩
  · have q := I.base.free b o e n hx
    rw [upd_ne (neN b q)]; exact q
  · have q := I.base.tups b xs e; rw [upd_ne (neH b _ q (fun z => by cases z))]; exact q
  · have q := I.base.frzs b o u e; rw [upd_ne (neH b _ q (fun z => by cases z))]; exact q
  · obtain ⟨m, q⟩ := I.base.tbls b ps e; exact ⟨m, by rw [upd_ne (neH b _ q (fun z => by cases z))]; exact q⟩
  · rw [upd_ne (neN _ I.free)]; exact I.free
  · rw [upd_ne (neN _ (I.freeC x c e))]; exact I.freeC x c e
  · obtain ⟨h1, h2, h3⟩ := I.pin q hq
    exact ⟨h1, by rw [upd_ne (neN _ h2)]; exact h2, h3⟩
  · have st : ∀ b u, H b = some u → ObjOk X.prog X.w (upd H p (.frz o (dxO p ks vs))) s.heap b u := fun b u e =>
      (I.hok b u e).stay (fun c v _ q => q) (fun c q => by rw [upd_ne (neH c _ q (fun z => by cases z))]; exact q) fun c xs q => by rw [upd_ne (neH c _ q (fun z => by cases z))]; exact q
    by_cases hb : b = p
    · subst hb
      rw [upd_same] at e
      cases e
      exact ⟨hg, st b _ hp⟩
    · rw [upd_ne hb] at e
      exact st b u e
theorem dx_obj (h : ∃ xs : List (List Key × Addr × Value), xs.map (·.1) = ks.map kT ∧ (xs.map fun x => V.ref x.2.1) = vs ∧ (p == sysModules) = false ∧ xs.length ≤ sizeLine ∧ (xs.map (·.1)).Nodup ∧
  ∃ o es ep, s.heap.get? p = some o ∧ o.ExactDict ∧ o.data = .dict es ep ∧ ∀ (P : Program) (w : World), es.toList = xs.map (entryOfKey (tupleKind (mixKind P w)))) (I : Inv X pins σ H s) (ia : IpAll X.K B H vs (ks.map tpxI)) :
    ∃ xs, xs.map (·.1) = ks.map kT ∧ (xs.map fun x => V.ref x.2.1) = vs ∧ (p == sysModules) = false ∧ xs.length ≤ sizeLine ∧ s.heap.DictOfH (tupleKind (mixKind X.prog X.w)) p xs := by
  obtain ⟨xs, h1, h2, h3, h4, h5, o, es, ep, ho, hx, hd, he⟩ := h
  refine ⟨xs, h1, h2, h3, h4, o, es, ep, ho, hx, hd, he _ _, fun x hx => ?_, h5⟩
  obtain ⟨i, hi, e⟩ := List.mem_iff_getElem.mp hx
  have hl : xs.length = ks.length := by have := congrArg List.length h1; simpa using this
  have ek : ks[i]? = some ks[i] := List.getElem?_eq_getElem (by omega)
  obtain ⟨b, hb, hq⟩ := tpx_at ia i _ ek
  have e1 : kT ks[i] = x.1 := by
    have := congrArg (fun l => l[i]?) h1
    simp [hi, e, ek] at this
    exact this.symm
  have e2 : b = x.2.1 := by
    rw [← h2] at hb
    simp [hi, e] at hb
    exact hb.symm
  rw [← e1, ← e2]
  exact key_is I hq
theorem dx_atF (I : Inv X pins σ H s) (hp : H p = some (.frz o (dxO p ks vs))) (ia : IpAll X.K B H vs (ks.map tpxI)) :
    ∃ xs, xs.map (·.1) = ks.map kT ∧ (xs.map fun x => V.ref x.2.1) = vs ∧ (p == sysModules) = false ∧ xs.length ≤ sizeLine ∧ s.heap.DictOfH (tupleKind (mixKind X.prog X.w)) p xs :=
  dx_obj (I.hok p _ hp).2.1 I ia
end
theorem pe_lockX {X : Cx} {e : Expr} {t : TE} (he : PE X e t) : PE X e (fun σ H Q => t σ H fun x H1 => ∃ p ks vs, x = .ref p ∧ H1 p = some (dxO p ks vs) ∧ ∀ o, Q x (upd H1 p (.frz o (dxO p ks vs)))) := by
  refine ⟨fun pins s σ H Q I h => thn (he.run pins s σ H _ I h) fun u s1 ⟨x, H1, I1, rx, p, ks, vs, ex, hp, q⟩ => ?_⟩
  obtain ⟨o, J⟩ := lockX I1 hp
  exact ⟨x, _, J, rx, q o⟩
/-- a new dict, from now on never changed -/
def wFd (we : EW) : EW := fun ρ Q X => we ρ (fun r ρ1 => match r with
  | .dic kvs => kvs.t = 2 ∧ Q (.dat (.dct (kvs.l.map (·.1)))) ρ1
  | _ => False) X
section
variable {X : Cx} {W : WX}
theorem de_fd {e : Expr} {we : EW} (he : DE X W e we) : DE X W e (wFd we) := by
  obtain ⟨t, pt, st⟩ := he.ok
  refine ⟨_, pe_lockX pt, ?_⟩
  intro B σ ρ H Qw Xw Q s h hx q
  refine st B σ ρ H _ Xw _ s h hx fun v r1 B1 ρ1 H1 s1 t1 rv1 q1 => ?_
  cases r1 with
  | dic kvs =>
    obtain ⟨t, l⟩ := kvs
    obtain ⟨rfl, q1⟩ := q1
    obtain ⟨p, vs, e, h0, nb, hp, ia, no⟩ := rv1
    have hp : H1 p = some (dxO p (l.map fun e => e.1) vs) := hp
    refine ⟨p, l.map (fun e => e.1), vs, e, hp, fun o => ?_⟩
    subst e
    have ext : ∀ b u, H1 b = some u → b ≠ p → upd H1 p (.frz o (dxO p (l.map fun e => e.1) vs)) b = some u := fun b u e hb => by rw [upd_ne hb]; exact e
    have tu : Tups H1 (upd H1 p (.frz o (dxO p (l.map fun e => e.1) vs))) := tups_at hp rfl ext
    have s2 : SR X.K B1 σ ρ1 (upd H1 p (.frz o (dxO p (l.map fun e => e.1) vs))) := s1.chg hp rfl nb no ext
    have t2 : Tr σ B ρ H B1 ρ1 (upd H1 p (.frz o (dxO p (l.map fun e => e.1) vs))) := ⟨fun b u e n => ext b u (t1.ext b u e n) (ne_of_none e h0), t1.bex, t1.bnew, t1.shp, t1.shi⟩
    have ia' : IpAll X.K B1 H1 vs ((l.map fun e => e.1).map tpxI) := by
      have e : ((l.map fun e => e.1).map tpxI) = Dc.dv ⟨2, l⟩ := by rw [List.map_map]; rfl
      rw [e]; exact ia
    exact q (.ref p) (Sl.dat (D.dct (l.map fun (e : List Int × D) => e.1))) B1 ρ1 _ s2 t2 (show Ip X.K B1 (upd H1 p (.frz o (dxO p (l.map fun e => e.1) vs))) (.ref p) (.dct _) from .dct (o := o) upd_same (ia'.mono (Same.refl _) tu)) q1
  | _ => exact q1.elim
end
/-! ### k in d -/
def rXInF (K : PySem.W.Frag) (neg : Bool) : R2 := fun x y H Q => ∃ (B : Hp) (b p : Addr) (o : Obj) (k : List Int) (ks : List (List Int)) (vs : List V), x = .ref b ∧ y = .ref p ∧ SqT K H b (k.map V.int) ∧ H p = some (.frz o (dxO p ks vs)) ∧ IpAll K B H vs (ks.map tpxI) ∧ Q (.bl (neg != decide (k ∈ ks))) H
section
variable {X : Cx}
theorem op_xinF (hu : X.A.units + 65 < cLine) : OpR X (compareOp .In) (rXInF X.K false) := by
  rintro pins s σ H x y u v Q I rx ry ⟨B, b, p, o, k, ks, vs, rfl, rfl, hq, hp, ia, q⟩
  cases (show u = Value.ref b from rx)
  cases (show v = Value.ref p from ry)
  obtain ⟨xs, h1, h2, h3, h4, dd⟩ := dx_atF I hp ia
  refine wpAny_in_heap (tupleKind_room_in1 (by omega)) (key_is I hq) h3 dd ?_
  rw [at_some h1]
  exact ⟨.bl (decide (k ∈ ks)), H, I.tok _, rfl, by simpa using q⟩
theorem op_xnotinF (hu : X.A.units + 65 < cLine) : OpR X (compareOp .NotIn) (rXInF X.K true) := by
  rintro pins s σ H x y u v Q I rx ry ⟨B, b, p, o, k, ks, vs, rfl, rfl, hq, hp, ia, q⟩
  cases (show u = Value.ref b from rx)
  cases (show v = Value.ref p from ry)
  obtain ⟨xs, h1, h2, h3, h4, dd⟩ := dx_atF I hp ia
  refine wpAny_notIn_heap (tupleKind_room_in1 (by omega)) (key_is I hq) h3 dd ?_
  rw [at_some h1]
  exact ⟨.bl (!decide (k ∈ ks)), H, I.tok _, rfl, by simpa using q⟩
end
def gInX (neg : Bool) : G2
  | d, .dct ks, Q => withOp (keyX d) fun k => Q (.dat (.bl (neg != decide (k ∈ ks))))
  | _, _, _ => False
theorem ops_inX {K : PySem.W.Frag} {neg : Bool} : OpS K (rXInF K neg) (gInX neg) := by
  intro B H x y d e Qw Q sub hx hy g p
  cases e with
  | dct ks =>
    obtain ⟨k, ek, g'⟩ := withOp_some g
    have hd := keyX_some ek
    subst hd
    have hx : Ip K B H x (tpxI k) := hx
    obtain ⟨b, rfl, hq⟩ := tpxI_sq hx
    cases hy with
    | dct hh ia => exact ⟨B, b, _, _, k, ks, _, rfl, rfl, hq, hh, ia, p.bl g'⟩
  | _ => exact g.elim
/-! ### for k in d -/
def Itx (d : Addr) (o : Obj) (ks : List (List Int)) (vs : List V) : It :=
  ⟨fun i H => H d = some (.frz o (dxO d ks vs)) ∧ i < vs.length, fun i H x H' => H' = H ∧ vs[i]? = some x, fun i H => H d = some (.frz o (dxO d ks vs)) ∧ vs.length ≤ i⟩
def iKeysX (td : TE) : TI := fun σ H R => td σ H fun x H1 => ∃ d o ks vs, x = .ref d ∧ H1 d = some (.frz o (dxO d ks vs)) ∧ R (Itx d o ks vs) H1
def wKeysX (we : EW) : IW := fun ρ Q X => we ρ (fun r ρ1 => match r with
  | .dat (.dct ks) => Q (ks.map tpxI) ρ1
  | _ => False) X
section
variable {K : PySem.W.Frag} {W : WX}
end
/-! ### list(d) -/
def rListX (K : PySem.W.Frag) : List V → Hp → VK → Prop := fun us H Q => ∃ (B : Hp) (a : Addr) (ks : List (List Int)) (vs : List V), us = [V.ref a] ∧ H a = some (dxO a ks vs) ∧ IpAll K B H vs (ks.map tpxI) ∧ ∀ p, H p = none → Q (.ref p) (upd H p (.lst vs))
def wXList (i : Nat) : EW := fun ρ Q _ => withOp (dicAt 2 ρ i) fun kvs => Q (.own ((kvs.map (·.1)).map tpxI)) ρ
/-! ### x is not True -/
def gIsNotB : G2
  | .bl a, .bl b, Q => Q (.dat (.bl (!decide (a = b))))
  | _, _, _ => False
section
variable {ρ : En} {Q : Sl → En → Prop} {QD : List D → En → Prop} {X : Value → En → Prop} {Qs : Sl → Prop}
@[simp ↓] theorem e_fd {we : EW} : wFd we ρ Q X = we ρ (fun r ρ1 => match r with
  | .dic kvs => kvs.t = 2 ∧ Q (.dat (.dct (kvs.l.map (·.1)))) ρ1
  | _ => False) X := id rfl
@[simp ↓] theorem g_inX {neg : Bool} {d : D} {ks : List (List Int)} : gInX neg d (.dct ks) Qs = @WOp _ (keyX d) fun k => Qs (.dat (.bl (neg != decide (k ∈ ks)))) := id rfl
@[simp ↓] theorem i_keysX {we : EW} : wKeysX we ρ QD X = we ρ (fun r ρ1 => match r with
  | .dat (.dct ks) => QD (ks.map tpxI) ρ1
  | _ => False) X := id rfl
@[simp ↓] theorem e_xlist {i : Nat} : wXList i ρ Q X = @WOp _ (dicAt 2 ρ i) fun kvs => Q (.own ((kvs.map (·.1)).map tpxI)) ρ := id rfl
@[simp ↓] theorem g_isNotB {a b : Bool} : gIsNotB (.bl a) (.bl b) Qs = Qs (.dat (.bl (!decide (a = b)))) := id rfl
end
end DL

set_option Elab.async false
set_option linter.all false
set_option maxRecDepth 100000
set_option maxHeartbeats 4000000
set_option checkBinderAnnotations false
/-! DMn: dict([(k, True), ..]) of tuples that have no dict. -/
namespace DL
open PySem L2
open PySem.Spec PyProof.Rows
def pairX (k : List Int) : D := .tup [tpxI k, .bl true]
theorem storedAll_new {xs : List (List Key × Addr × Value)} : ∀ {ps : List (List Key × Addr × Value)} {xs : List (List Key × Addr × Value)}, ((xs ++ ps).map (·.1)).Nodup → storedAllH xs ps = xs ++ ps
  | [], xs, _ => by simp [storedAllH]
  | p :: ps, xs, h => by
    have hn : atKey xs p.1 = none := by
      unfold atKey
      rw [Option.map_eq_none_iff, List.find?_eq_none]
      intro x hx z
      have e : x.1 = p.1 := of_decide_eq_true z
      rw [List.map_append, List.nodup_append] at h
      exact h.2.2 x.1 (List.mem_map.mpr ⟨x, hx, rfl⟩) p.1 (by simp) e
    have e : storedAllH xs (p :: ps) = storedAllH (storedH xs p.1 p.2.1 p.2.2) ps := rfl
    rw [e, storedH_new hn]
    have e2 : xs ++ [(p.1, p.2.1, p.2.2)] = xs ++ [p] := rfl
    rw [e2, storedAll_new (xs := xs) (by simpa using h)]
    simp
section
variable {X : Cx} {pins : List (Addr × Obj)} {σ : L2.St} {H B : Hp} {s : Shared}
theorem pairsX (I : Inv X pins σ H s) : ∀ {ks : List (List Int)} {xs : List V} {its : List Value}, IpAll X.K B H xs (ks.map pairX) → Vals xs its →
    ∃ (ps : List (List Key × Addr × Value)) (ts : List Addr), ps.map (·.1) = ks.map kT ∧ IpAll X.K B H (ps.map fun x => V.ref x.2.1) (ks.map tpxI) ∧ ps.length = ts.length ∧ its = ts.map Value.ref ∧ (∀ (j : Nat) (p : List Key × Addr × Value), ps[j]? = some p → ∃ t, ts[j]? = some t ∧ PairAt s.heap t (.ref p.2.1) p.2.2) ∧ ∀ x ∈ ps, (tupleKind (mixKind X.prog X.w)).is s.heap x.1 x.2.1
  | [], _, _, .nil, .nil => ⟨[], [], rfl, .nil, rfl, rfl, fun j p e => by simp at e, fun x hx => nomatch hx⟩
  | k :: ks, _, _, .cons h t, .cons r rr => by
    obtain ⟨ps, ts, h1, h2, h3, h4, h5, h6⟩ := pairsX I t rr
    cases h with
    | tup hh ia =>
      cases ia with
      | cons ik ia =>
        obtain ⟨b, rfl, hb⟩ := tpxI_sq ik
        cases ia with
        | cons iv ia =>
          cases ia
          obtain ⟨its, rv, ht, _⟩ := I.tuple hh.sq
          obtain ⟨u, y, ei, ru, ry⟩ := vals2 rv
          subst ei
          cases (show u = Value.ref b from ru)
          rename_i a _ _
          cases (show _ = Value.ref a from r)
          refine ⟨(kT k, b, y) :: ps, a :: ts, by simp [h1], .cons ik h2, by simp [h3], by rw [h4]; rfl, fun j p e => ?_, fun x hx => ?_⟩
          · cases j with
            | zero =>
              simp at e
              subst e
              obtain ⟨o, ho, hc, n, hd⟩ := ht
              exact ⟨a, rfl, .inl ⟨o, ho, hc, n, hd⟩⟩
            | succ j =>
              obtain ⟨t, e1, e2⟩ := h5 j p (by simpa using e)
              exact ⟨t, by simpa using e1, e2⟩
          · rcases List.mem_cons.mp hx with rfl | hx
            · exact key_is I hb
            · exact h6 x hx
end
def rDictX (K : PySem.W.Frag) : List V → Hp → VK → Prop := fun us H Q => ∃ (B : Hp) (l : Addr) (xs : List V) (ks : List (List Int)), us = [.ref l] ∧ SqL K H l xs ∧ IpAll K B H xs (ks.map pairX) ∧ ks.Nodup ∧ ∀ p vs, H p = none → IpAll K B H vs (ks.map tpxI) → Q (.ref p) (upd H p (dxO p ks vs))
theorem kT_nodup {ks : List (List Int)} (h : ks.Nodup) : (ks.map kT).Nodup := by
  rw [List.nodup_iff_pairwise_ne, List.pairwise_map]
  exact (List.nodup_iff_pairwise_ne.mp h).imp fun n z => n (kT_inj z)
theorem call_dictX {X : Cx} (hc : X.calm = true) (hu : X.A.units + 65 < cLine) : CallR X (.type "dict") (rDictX X.K) := by
  intro pins s σ H xs us Q I r h
  obtain ⟨B, l, xs, ks, rfl, hq, ia, nd, q⟩ := h
  obtain ⟨u, rfl, rx⟩ := vals1 r
  cases rx
  obtain ⟨its, rv, pl, hz⟩ := I.list hq
  obtain ⟨ps, ts, h1, h2, h3, h4, h5, h6⟩ := pairsX I ia rv
  subst h4
  obtain ⟨o, n, ho, hcl, hdc, hdat⟩ := pl
  have hnd : (ps.map (·.1)).Nodup := by rw [h1]; exact kT_nodup nd
  have hps : storedAllH [] ps = ps := by rw [storedAll_new (xs := []) (by simpa using hnd)]; rfl
  have lt : ts.length ≤ sizeLine := by rw [← List.length_map (f := Value.ref), ← rv.length]; exact hz
  let ps' : List (Value × Value) := ps.map fun x => (.ref x.2.1, x.2.2)
  have l' : ps'.length = ps.length := List.length_map _
  have pit : PairItems s.heap (ts.map Value.ref).toArray (fun j => ts.getD j 0) ps' := ⟨by simp [l', h3], fun j k v e => by
    rw [List.getElem?_map] at e
    obtain ⟨p, hp, e⟩ := Option.map_eq_some_iff.mp e
    cases e
    obtain ⟨t, ht, hpa⟩ := h5 j p hp
    have e1 : ts.getD j 0 = t := by rw [List.getD_eq_getElem?_getD, ht]; rfl
    exact ⟨by simp [ht], by show PairAt s.heap (ts.getD j 0) _ _; rw [e1]; exact hpa⟩⟩
  refine call_dict_pairsH (knd := tupleKind (mixKind X.prog X.w)) (ps := ps) (PairArg.list (prog := X.prog) (w := X.w) l (ts.map Value.ref).toArray (fun j => ts.getD j 0) ps') (I.ok.hd hc) (show X.A.units + 1 + 1 < cLine by omega) ⟨⟨o, n, ho, hcl, hdc, hdat⟩, pit⟩ ⟨l'.symm, fun i key v e => ?_⟩ (fun h' hk x hx => tupleKind_stays.stays (fun b o vs n e _ => hk b o (Nat.ne_of_lt (Heap.lt_size e)) (fun z => nomatch z) e) (h6 x hx)) (by rw [l', h3]; exact lt) fun h' tk dd hk => ?_
  · have e : ps'[i]? = some (key, v) := e
    rw [List.getElem?_map] at e
    obtain ⟨p, hp, e⟩ := Option.map_eq_some_iff.mp e
    cases e
    exact ⟨p.1, p.2.1, hp, rfl⟩
  · rw [hps] at dd
    obtain ⟨od, es, ep, hod, hx, hd, he, _, hn⟩ := dd
    have hsm : (s.heap.objs.size == sysModules) = false := beq_eq_false_iff_ne.mpr (Nat.ne_of_gt I.big)
    have kp : ∀ b o, s.heap.get? b = some o → h'.get? b = some o := fun b o e => hk b o (fun z => nomatch z) e
    refine ⟨.ref s.heap.objs.size, _, I.laid (t' := tk) (o := dxO s.heap.objs.size ks (ps.map fun x => V.ref x.2.1)) kp (Nat.le_refl _) ?_, rfl, q _ _ (I.hok.fresh (Nat.le_refl _)) h2⟩
    refine ⟨⟨ps, h1, rfl, hsm, by rw [h3]; exact lt, hn, od, es, ep, hod, hx, hd, fun P w => by rw [he]; exact ent_same h1⟩, ⟨od, hod⟩, ?_⟩
    rintro g1 g2 ⟨xs', a1, a2, a3, a4, a5, o', es', ep', b1, b2⟩ kp
    exact ⟨xs', a1, a2, a3, a4, a5, o', es', ep', kp _ b1, b2⟩
def gDictX : GN
  | [.lst ds], Q => ∃ ks : List (List Int), ds = ks.map pairX ∧ ks.Nodup ∧ Q (.dic ⟨2, ks.map fun k => (k, .non)⟩)
  | _, _ => False
theorem cs_dictX {K : PySem.W.Frag} : CallS K (rDictX K) gDictX := by
  intro B H xs ds Qw Q sub hr g p
  match ds, hr, g with
  | [.lst ds], hr, g =>
    obtain ⟨x, rfl, h⟩ := rd1 hr
    obtain ⟨ks, rfl, nd, g⟩ := g
    obtain ⟨a, xs, rfl, h1, h2⟩ := h
    refine ⟨B, a, xs, ks, rfl, h1, h2, nd, fun q vs hq iv => ?_⟩
    have sm : Same H (upd H q (dxO q ks vs)) := same_new hq
    have e0 : (ks.map fun k => (k, D.non)).map (·.1) = ks := by
      rw [List.map_map]
      conv => rhs; rw [← List.map_id ks]
      exact List.map_congr_left fun k _ => rfl
    refine p (.ref q) (.dic ⟨2, ks.map fun k => (k, .non)⟩) _ sm ⟨q, vs, rfl, hq, ?_, ?_⟩ g
    · rw [upd_same]
      show some (dxO q ks vs) = some (dxO q ((ks.map fun k => (k, D.non)).map (·.1)) vs)
      rw [e0]
    · show IpAll K B _ vs ((ks.map fun k => (k, D.non)).map fun e => D.tpx (e.1.map .int))
      rw [List.map_map]
      exact iv.mono (Same.refl _) (Tups.of sm)
def DcX (ds : List D) [Q : Sl → Prop] : Prop := ∃ ks : List (List Int), ds = ks.map pairX ∧ ks.Nodup ∧ Q (.dic ⟨2, ks.map fun k => (k, .non)⟩)
@[simp ↓] theorem g_dictX {Qs : Sl → Prop} {ds : List D} : gDictX [.lst ds] Qs = @DcX ds Qs := id rfl
end DL

set_option Elab.async false
set_option linter.all false
set_option maxRecDepth 100000
set_option maxHeartbeats 4000000
set_option checkBinderAnnotations false
/-! DMo: sorted of any data; xs[::-1]. -/
namespace DL
open PySem L2
open PySem.Spec PyProof.Rows PySem.W
/-! ### xs[::-1] -/
def rRevL (K : PySem.W.Frag) : V → Hp → VK → Prop := fun x H Q => ∃ a xs, x = .ref a ∧ SqL K H a xs ∧ ∀ p, H p = none → Q (.ref p) (upd H p (.lst xs.reverse))
def gRevL : G1
  | .lst ds, Q => Q (.own ds.reverse)
  | .fl ds, Q => Q (.own ds.reverse)
  | _, _ => False
theorem IpAll.rev {K : PySem.W.Frag} {B H : Hp} : ∀ {vs : List V} {ds : List D}, IpAll K B H vs ds → IpAll K B H vs.reverse ds.reverse
  | _, _, .nil => .nil
  | _, _, .cons h t => by
    rw [List.reverse_cons, List.reverse_cons]
    exact (IpAll.rev t).append (.cons h .nil)
/-! ### sorted -/
def alikeD (ds : List D) : Bool := ds.all fun d => ds.all fun e => alike d.py e.py
def kindD : D → Nat
  | .tup (_ :: _) => 1
  | .tpx (_ :: _) => 1
  | .bl _ => 2
  | .int _ => 2
  | .str _ => 2
  | .lst _ => 2
  | .fl _ => 2
  | _ => 0
def sortKD (ds : List D) : Bool := (ds.all fun d => kindD d == 1) || ds.all fun d => kindD d == 2
theorem alikeD_ok {ds : List D} (h : alikeD ds = true) : AllAlike (ds.map D.py) := by
  intro d hd d' hd'
  obtain ⟨x, hx, rfl⟩ := List.mem_map.mp hd
  obtain ⟨y, hy, rfl⟩ := List.mem_map.mp hd'
  exact List.all_eq_true.mp (List.all_eq_true.mp h x hx) y hy
theorem sortKD_ok {ds : List D} (h : sortKD ds = true) : Sortable (ds.map D.py) := by
  unfold sortKD at h
  rw [Bool.or_eq_true] at h
  rcases h with h | h
  · refine .inl fun d hd => ?_
    obtain ⟨x, hx, rfl⟩ := List.mem_map.mp hd
    have e := List.all_eq_true.mp h x hx
    match x, e with
    | .tup (y :: ys), _ => exact ⟨y.py, D.pys ys, by rw [D.py, D.pys]⟩
    | .tpx (y :: ys), _ => exact ⟨y.py, D.pys ys, by rw [D.py, D.pys]⟩
    | .tup [], e => (simp [kindD] at e)
    | .tpx [], e => (simp [kindD] at e)
    | .non, e => (simp [kindD] at e)
    | .bl _, e => (simp [kindD] at e)
    | .int _, e => (simp [kindD] at e)
    | .str _, e => (simp [kindD] at e)
    | .lst _, e => (simp [kindD] at e)
    | .adr _, e => (simp [kindD] at e)
    | .ty _, e => (simp [kindD] at e)
    | .fl _, e => (simp [kindD] at e)
    | .obj _ _ _, e => (simp [kindD] at e)
    | .exc _, e => (simp [kindD] at e)
    | .dct _, e => (simp [kindD] at e)
    | .dcu _, e => (simp [kindD] at e)
    | .ml _, e => (simp [kindD] at e)
    | .kl _, e => (simp [kindD] at e)
  · refine .inr fun d hd => ?_
    obtain ⟨x, hx, rfl⟩ := List.mem_map.mp hd
    have e := List.all_eq_true.mp h x hx
    match x, e with
    | .tup (y :: ys), e => (simp [kindD] at e)
    | .tpx (y :: ys), e => (simp [kindD] at e)
    | .tup [], e => (simp [kindD] at e)
    | .tpx [], e => (simp [kindD] at e)
    | .non, e => (simp [kindD] at e)
    | .bl _, e => exact ⟨by rw [D.py]; simp, fun xs => by rw [D.py]; simp⟩
    | .int _, e => exact ⟨by rw [D.py]; simp, fun xs => by rw [D.py]; simp⟩
    | .str _, e => exact ⟨by rw [D.py]; simp, fun xs => by rw [D.py]; simp⟩
    | .lst _, e => exact ⟨by rw [D.py]; simp, fun xs => by rw [D.py]; simp⟩
    | .fl _, e => exact ⟨by rw [D.py]; simp, fun xs => by rw [D.py]; simp⟩
    | .adr _, e => (simp [kindD] at e)
    | .ty _, e => (simp [kindD] at e)
    | .obj _ _ _, e => (simp [kindD] at e)
    | .exc _, e => (simp [kindD] at e)
    | .dct _, e => (simp [kindD] at e)
    | .dcu _, e => (simp [kindD] at e)
    | .ml _, e => (simp [kindD] at e)
    | .kl _, e => (simp [kindD] at e)
/-- sorted(xs): the data in order -/
def srtData (ds : List D) : List D := ds.mergeSort (dataLe false D.py)
def rSrtY (K : PySem.W.Frag) : List V → Hp → VK → Prop := fun us H Q => ∃ (B : Hp) (a : Addr) (xs : List V) (ds : List D), us = [V.ref a] ∧ SqL K H a xs ∧ Same B H ∧ IpAll K B H xs ds ∧ (D.plains ds = true ∧ D.deeps ds ≤ 60) ∧ alikeD ds = true ∧ sortKD ds = true ∧
  ∀ (zs : List V) (p : Addr), IpAll K B H zs (srtData ds) → H p = none → Q (.ref p) (upd H p (.lst zs))
theorem deeps_mem : ∀ {ds : List D} {d : D}, d ∈ ds → d.deep ≤ D.deeps ds
  | d0 :: ds, d, h => by
    rw [D.deeps]
    rcases List.mem_cons.mp h with rfl | h
    · omega
    · have := deeps_mem h; omega
section
variable {X : Cx} {pins : List (Addr × Obj)} {σ : L2.St} {H B : Hp} {s : Shared}
theorem each_ip (I : Inv X pins σ H s) (sub : Same B H) : ∀ {xs : List V} {its : List Value} {ds : List D}, Vals xs its → IpAll X.K B H xs ds → D.plains ds = true →
    EachIs (fun u d => ∃ x : V, RelV x u ∧ Ip X.K B H x d) its ds ∧ EachIs (fun u d => ∃ as, Reads s.heap u (D.py d) as) its ds
  | _, _, _, .nil, .nil, _ => ⟨.nil, .nil⟩
  | _, _, _, .cons r rr, .cons h t, e => by
    rw [D.plains, Bool.and_eq_true] at e
    obtain ⟨h1, h2⟩ := each_ip I sub rr t e.2
    exact ⟨.cons ⟨_, r, h⟩ h1, .cons (Dp.reads I _ _ _ (h.dp sub e.1) r) h2⟩
theorem each_back : ∀ {its : List Value} {ds : List D}, EachIs (fun u d => ∃ x : V, RelV x u ∧ Ip X.K B H x d) its ds → ∃ zs : List V, Vals zs its ∧ IpAll X.K B H zs ds
  | _, _, .nil => ⟨[], .nil, .nil⟩
  | _, _, .cons ⟨x, r, h⟩ t => by
    obtain ⟨zs, h1, h2⟩ := each_back t
    exact ⟨x :: zs, .cons r h1, .cons h h2⟩
end
theorem cr_srtY {X : Cx} (hu : X.A.units + 65 < cLine) : CallR X (.builtin "sorted") (rSrtY X.K) := by
  intro pins s σ H us ws Q I r h
  obtain ⟨B, a, xs, ds, rfl, hs, sub, ia, ⟨pl, dp⟩, al, sk, q⟩ := h
  rw [Vals.ref1 r]
  obtain ⟨its, rv, hl, hz⟩ := I.list hs
  obtain ⟨e1, e2⟩ := each_ip I sub rv ia pl
  have hlen : ds.length ≤ sizeLine := by rw [← ia.length]; exact hz
  refine sorted_data (bs := ds) (enc := D.py) hl.isList e1 e2 (alikeD_ok al) (sortKD_ok sk) hlen (fun b hb => ?_) fun out ol eo => ?_
  · have := deeps_mem hb
    rw [D.py_depth]
    omega
  · obtain ⟨zs, vz, iz⟩ := each_back eo
    obtain ⟨n, hn⟩ := sortedAll_at s.heap its (List.toArray out)
    have hzl : zs.length ≤ sizeLine := by rw [vz.length, ol]; exact hlen
    exact ⟨.ref (s.heap.objs.size + 1), upd H (s.heap.objs.size + 1) (.lst zs), I.laid (t' := s.toks) (o := .lst zs) (fun b o e => sortedAll_old e) (Nat.le_succ _) ⟨hzl, out, n, vz, hn⟩, rfl, q zs _ iz (I.hok.fresh (Nat.le_succ _))⟩
def gSrtY : GN
  | [.lst ds], Q => (D.plains ds = true ∧ D.deeps ds ≤ 60) ∧ alikeD ds = true ∧ sortKD ds = true ∧ Q (.own (srtData ds))
  | _, _ => False
theorem cs_srtY {K : PySem.W.Frag} : CallS K (rSrtY K) gSrtY := by
  intro B H xs ds Qw Q sub hr g p
  match ds, hr, g with
  | [.lst ds], hr, g =>
    obtain ⟨x, rfl, h⟩ := rd1 hr
    obtain ⟨a, xs, rfl, h1, h2⟩ := h
    obtain ⟨g1, g2, g3, g4⟩ := g
    exact ⟨B, a, xs, ds, rfl, h1, sub, h2, g1, g2, g3, fun zs q iz hq => p.lst iz g4 q hq⟩
def SrtY (ds : List D) [Q : Sl → Prop] : Prop := (D.plains ds = true ∧ D.deeps ds ≤ 60) ∧ alikeD ds = true ∧ sortKD ds = true ∧ Q (.own (srtData ds))
section
variable {Qs : Sl → Prop} {ds : List D}
@[simp ↓] theorem g_srtY : gSrtY [.lst ds] Qs = @SrtY ds Qs := id rfl
@[simp ↓] theorem g_revL : gRevL (.lst ds) Qs = Qs (.own ds.reverse) := id rfl
@[simp ↓] theorem g_revF : gRevL (.fl ds) Qs = Qs (.own ds.reverse) := id rfl
end
/-- srtData: a sorted list of the same data -/
theorem srt_perm (ds : List D) : (srtData ds).Perm ds := List.mergeSort_perm _ _
end DL

set_option Elab.async false
set_option linter.all false
set_option maxRecDepth 100000
set_option maxHeartbeats 4000000
set_option checkBinderAnnotations false
/-! DMp: a def that changes the list in its last argument. -/
namespace DL
open PySem L2
def lastS : List Sl → Option (List Sl × Sl)
  | [] => none
  | [r] => some ([], r)
  | r :: r' :: rs => (lastS (r' :: rs)).map fun p => (r :: p.1, p.2)
def spJ (K : PySem.W.Frag) (n : Nat) (f : FI) : Sp := fun vs H Q E => ∃ (B : Hp) (p : Addr) (ws vs' : List V) (dl ds : List D) (Qw : Sl → List D → Prop) (Xw : Value → List D → Prop), vs = vs' ++ [.ref p] ∧ Same B H ∧ B p = none ∧ H p = some (.lst ws) ∧ IpAll K H00 H ws dl ∧ IpAll K B H vs' ds ∧ ds.length + 1 = n ∧ f dl ds Qw Xw ∧
  (∀ v r dl' ws' H', (∀ b o, H b = some o → b ≠ p → H' b = some o) → H' p = some (.lst ws') → IpAll K H00 H' ws' dl' → ResR K H H' v r → Qw r dl' → Q v H') ∧
  ∀ c dl' ws' H', (∀ b o, H b = some o → b ≠ p → H' b = some o) → H' p = some (.lst ws') → IpAll K H00 H' ws' dl' → Xw c dl' → E c none H'
def wCallJ (f : FI) (wa : AW) : EW := fun ρ Q X => wa ρ (fun rs ρ1 => match lastS rs with
  | some (rs', .bor i) => withO ρ1 i fun dl => withP rs' fun ds => D.nolists dl = true ∧ f dl ds (fun r dl' => Q r (setOwn ρ1 i dl')) (fun c dl' => X c (setOwn ρ1 i dl'))
  | _ => False) X
section
variable {K : PySem.W.Frag} {B H : Hp} {σ : St} {ρ : En}
theorem RvAll.last : ∀ {rs rs' : List Sl} {vs : List V} {H0 : Hp} {i : Nat} {ds : List D}, RvAll K B σ ρ H H0 vs rs → lastS rs = some (rs', .bor i) → pureD rs' = some ds → ∃ vs' v, vs = vs' ++ [v] ∧ IpAll K B H vs' ds ∧ σ[i]? = some (some v)
  | [], _, _, _, _, _, _, e, _ => by cases e
  | [r], _, _, _, i, ds, .cons h1 _ _ t, e, ep => by
    cases t
    cases e
    cases ep
    exact ⟨[], _, rfl, .nil, h1.2⟩
  | r :: r' :: rs, _, _, _, i, ds, .cons (v := v) h1 _ _ t, e, ep => by
    cases e2 : lastS (r' :: rs) with
    | none => rw [lastS, e2] at e; cases e
    | some p =>
      obtain ⟨rs2, rl⟩ := p
      rw [lastS, e2] at e
      cases e
      cases r with
      | dat d =>
        cases e3 : pureD rs2 with
        | none => rw [pureD, e3] at ep; cases ep
        | some ds' =>
          rw [pureD, e3] at ep
          cases ep
          obtain ⟨vs', u, rfl, h2, h3⟩ := RvAll.last t e2 e3
          exact ⟨v :: vs', u, rfl, .cons h1 h2, h3⟩
      | own _ => cases ep
      | inn _ => cases ep
      | bor _ => cases ep
      | dic _ => cases ep
end
section
variable {X : Cx} {W : WX} {e : Expr} {es : List Expr} {wr : AW} {pos p : Pos} {k : Nat} {f : Addr} {fd : FuncData} {ps : List Str} {x : Str}
end
section
variable {P : Program} {w : World} {K : PySem.W.Frag} {mg : Str → Option Value} {base : Heap}
end
section
variable {ρ : En} {Q : Sl → En → Prop} {X : Value → En → Prop}
@[simp ↓] theorem e_callJ {f : FI} {wa : AW} : wCallJ f wa ρ Q X = wa ρ (fun rs ρ1 => match lastS rs with
  | some (rs', .bor i) => withO ρ1 i fun dl => withP rs' fun ds => D.nolists dl = true ∧ f dl ds (@Post2 fun r dl' => Q r (setOwn ρ1 i dl')) (@PostX2 fun c dl' => X c (setOwn ρ1 i dl'))
  | _ => False) X := id rfl
@[simp] theorem last_1 {r : Sl} : lastS [r] = some ([], r) := rfl
@[simp] theorem last_2 {a r : Sl} : lastS [a, r] = some ([a], r) := rfl
@[simp] theorem last_3 {a b r : Sl} : lastS [a, b, r] = some ([a, b], r) := rfl
@[simp] theorem last_4 {a b c r : Sl} : lastS [a, b, c, r] = some ([a, b, c], r) := rfl
@[simp] theorem last_5 {a b c d r : Sl} : lastS [a, b, c, d, r] = some ([a, b, c, d], r) := rfl
end
end DL

set_option Elab.async false
set_option linter.all false
set_option maxRecDepth 100000
set_option maxHeartbeats 4000000
set_option checkBinderAnnotations false
/-! DMq: x in a tuple; a locked list and another one. -/
namespace DL
open PySem L2
open PySem.Spec PyProof.Rows
def rInT (K : PySem.W.Frag) (neg : Bool) : R2 := fun x y H Q => ∃ d ds, Dp K H x d ∧ Dp K H y (.tuple ds) ∧ SeqAt.shaped d = true ∧ SeqAt.shaped (.tuple ds) = true ∧ Q (.bl (neg != ds.any fun z => PyData.eqv z d)) H
section
variable {X : Cx}
theorem op_notinT (hu : X.A.units + 65 < cLine) : OpR X (compareOp .NotIn) (rInT X.K true) := by
  intro pins s σ H x y v u Q I rx ry h
  obtain ⟨d, ds, hd, he, sd, se, q⟩ := h
  obtain ⟨as, r1⟩ := Dp.reads I d x v hd rx
  obtain ⟨bs, r2⟩ := Dp.reads I (.tuple ds) y u he ry
  exact SeqAt.notIn_tuple_reads r2 r1 (SeqAt.canLay_of_shaped se) (SeqAt.canLay_of_shaped sd) (room_in_shaped sd hu) ⟨.bl _, H, I, rfl, by simpa using q⟩
end
def gInT (neg : Bool) : G2
  | d, .tup ds, Q => (d.shp = true ∧ (D.tup ds).shp = true) ∧ Q (.dat (.bl (neg != ds.any fun z => z.eqb d)))
  | _, _, _ => False
theorem ops_inT {K : PySem.W.Frag} {neg : Bool} : OpS K (rInT K neg) (gInT neg) := by
  intro B H x y d e Qw Q sub hx hy g p
  cases e with
  | tup ds =>
    have h2 := Ip.dp sub hy (shp_plain g.1.2)
    have h3 := D.shp_shaped g.1.2
    rw [D.py] at h2 h3
    exact ⟨d.py, D.pys ds, hx.dp sub (shp_plain g.1.1), h2, D.shp_shaped g.1.1, h3, by rw [pys_any]; exact p.bl g.2⟩
  | _ => exact g.elim
def gAddF : G2
  | .fl a, .lst b, Q => a.length + b.length ≤ sizeLine ∧ Q (.own (a ++ b))
  | _, _, _ => False
theorem ops_addF {K : PySem.W.Frag} : OpS K (rAddA K) gAddF := by
  intro B H x y d e Qw Q sub hx hy g p
  cases d <;> cases e <;> first | exact g.elim | skip
  cases hx with
  | fl hh i1 =>
    obtain ⟨b, ys, rfl, h2, i2⟩ := hy
    exact .inr (.inl ⟨_, b, _, ys, rfl, rfl, .inl (.inr ⟨_, hh⟩), h2, by rw [i1.length, i2.length]; exact g.1, p.lst (i1.append i2) g.2⟩)
section
variable {Qs : Sl → Prop} {ds es : List D} {d : D} {neg : Bool}
@[simp ↓] theorem g_inT : gInT neg d (.tup ds) Qs = ((d.shp = true ∧ (D.tup ds).shp = true) ∧ Qs (.dat (.bl (neg != ds.any fun z => z.eqb d)))) := id rfl
@[simp ↓] theorem g_addF : gAddF (.fl ds) (.lst es) Qs = (ds.length + es.length ≤ sizeLine ∧ Qs (.own (ds ++ es))) := id rfl
end
end DL

set_option Elab.async false
set_option linter.all false
set_option maxRecDepth 100000
set_option maxHeartbeats 4000000
set_option checkBinderAnnotations false
/-! DMr: dicts whose keys are tuples of tuples. -/
namespace DL
open PySem L2
open PySem.Spec PyProof.Rows
theorem kTT_inj {a b : List (List Int)} (h : kTT a = kTT b) : a = b := by
  induction a generalizing b with
  | nil => cases b with
    | nil => rfl
    | cons => simp [kTT] at h
  | cons x a ih => cases b with
    | nil => simp [kTT] at h
    | cons y b =>
      have h : kT x :: kTT a = kT y :: kTT b := h
      rw [List.cons.injEq] at h
      rw [kT_inj h.1, ih h.2]
theorem hash_kT (P P' : Program) (w w' : World) (k : List Int) : tupleKeyHash (mixKind P w) (kT k) = tupleKeyHash (mixKind P' w') (kT k) := by
  unfold tupleKeyHash kT
  rw [List.map_map, List.map_map]
  rfl
theorem ent_same2 {P P' : Program} {w w' : World} {xs : List (List (List Key) × Addr × Value)} {ks : List (List (List Int))} (h : xs.map (·.1) = ks.map kTT) : xs.map (entryOfKey (kind2 (mixKind P w))) = xs.map (entryOfKey (kind2 (mixKind P' w'))) := by
  apply List.map_congr_left
  intro x hx
  obtain ⟨k, _, e⟩ := List.mem_map.mp (show x.1 ∈ ks.map kTT from h ▸ List.mem_map.mpr ⟨x, hx, rfl⟩)
  show DictEntry.mk (hash2 (mixKind P w) x.1) (.ref x.2.1) x.2.2 = DictEntry.mk (hash2 (mixKind P' w') x.1) (.ref x.2.1) x.2.2
  rw [← e]
  have : hash2 (mixKind P w) (kTT k) = hash2 (mixKind P' w') (kTT k) := by
    unfold hash2 kTT
    rw [List.map_map, List.map_map]
    congr 2
    exact List.map_congr_left fun z _ => hash_kT P P' w w' z
  rw [this]
section
variable {X : Cx} {pins : List (Addr × Obj)} {σ : L2.St} {H B : Hp} {s : Shared} {p : Addr} {ks : List (List (List Int))} {vs ws : List V} {o : Obj}
theorem its2_of (I : Inv X pins σ H s) : ∀ {xs : List V} {its : List Value} {k : List (List Int)}, Vals xs its → IpAll X.K B H xs (k.map tpxI) → Its2 (mixKind X.prog X.w) s.heap (kTT k) its
  | _, _, [], .nil, .nil => .nil
  | _, _, k0 :: k, .cons r rr, .cons h t => by
    obtain ⟨b, rfl, hb⟩ := tpxI_sq h
    cases (show _ = Value.ref b from r)
    exact .cons (key_is I hb) (its2_of I rr t)
theorem key2_is {k : List (List Int)} {b : Addr} (I : Inv X pins σ H s) (h : Ip X.K B H (.ref b) (ttD k)) : (kind2 (mixKind X.prog X.w)).is s.heap (kTT k) b := by
  cases h with
  | tup hh ia =>
    obtain ⟨its, rv, ⟨o, ho, hc, n, hd⟩, _⟩ := I.tuple hh.sq
    exact ⟨o, its.toArray, n, ho, hc, hd, by simpa using its2_of I rv ia⟩
theorem tt_at {K : PySem.W.Frag} : ∀ {vs : List V} {ks : List (List (List Int))}, IpAll K B H vs (ks.map ttD) → ∀ (i : Nat) (k : List (List Int)), ks[i]? = some k → ∃ b, vs[i]? = some (.ref b) ∧ Ip K B H (.ref b) (ttD k)
  | _, [], _, i, k, h => by simp at h
  | _, k0 :: ks, .cons h t, 0, k, e => by
    simp at e
    subst e
    cases h with
    | tup hh ia => exact ⟨_, rfl, .tup hh ia⟩
  | _, k0 :: ks, .cons h t, i + 1, k, e => by
    simp at e
    obtain ⟨b, h1, h2⟩ := tt_at t i k e
    exact ⟨b, by simpa using h1, h2⟩
/-- what a dict of this kind is in the heap -/
def DdX (s : Shared) (p : Addr) (ks : List (List (List Int))) (vs ws : List V) (xs : List (List (List Key) × Addr × Value)) : Prop :=
  xs.map (·.1) = ks.map kTT ∧ (xs.map fun x => V.ref x.2.1) = vs ∧ Vals ws (xs.map fun x => x.2.2) ∧ (p == sysModules) = false ∧ xs.length ≤ sizeLine
theorem dd_obj (h : ∃ xs : List (List (List Key) × Addr × Value), xs.map (·.1) = ks.map kTT ∧ (xs.map fun x => V.ref x.2.1) = vs ∧ Vals ws (xs.map fun x => x.2.2) ∧ (p == sysModules) = false ∧ xs.length ≤ sizeLine ∧ (xs.map (·.1)).Nodup ∧
  ∃ o es ep, s.heap.get? p = some o ∧ o.ExactDict ∧ o.data = .dict es ep ∧ ∀ (P : Program) (w : World), es.toList = xs.map (entryOfKey (kind2 (mixKind P w)))) (I : Inv X pins σ H s) (ia : IpAll X.K B H vs (ks.map ttD)) :
    ∃ xs, DdX s p ks vs ws xs ∧ s.heap.DictOfH (kind2 (mixKind X.prog X.w)) p xs := by
  obtain ⟨xs, h1, h2, hv, h3, h4, h5, o, es, ep, ho, hx, hd, he⟩ := h
  refine ⟨xs, ⟨h1, h2, hv, h3, h4⟩, o, es, ep, ho, hx, hd, he _ _, fun x hx => ?_, h5⟩
  obtain ⟨i, hi, e⟩ := List.mem_iff_getElem.mp hx
  have hl : xs.length = ks.length := by have := congrArg List.length h1; simpa using this
  have ek : ks[i]? = some ks[i] := List.getElem?_eq_getElem (by omega)
  obtain ⟨b, hb, hq⟩ := tt_at ia i _ ek
  have e1 : kTT ks[i] = x.1 := by
    have := congrArg (fun l => l[i]?) h1
    simp [hi, e, ek] at this
    exact this.symm
  have e2 : b = x.2.1 := by
    rw [← h2] at hb
    simp [hi, e] at hb
    exact hb.symm
  rw [← e1, ← e2]
  exact key2_is I hq
theorem dd_at (I : Inv X pins σ H s) (hp : H p = some (ddO p ks vs ws)) (ia : IpAll X.K B H vs (ks.map ttD)) : ∃ xs, DdX s p ks vs ws xs ∧ s.heap.DictOfH (kind2 (mixKind X.prog X.w)) p xs := dd_obj (I.hok p _ hp).1 I ia
theorem dd_atF (I : Inv X pins σ H s) (hp : H p = some (.frz o (ddO p ks vs ws))) (ia : IpAll X.K B H vs (ks.map ttD)) : ∃ xs, DdX s p ks vs ws xs ∧ s.heap.DictOfH (kind2 (mixKind X.prog X.w)) p xs := dd_obj (I.hok p _ hp).2.1 I ia
theorem at_some2 {xs : List (List (List Key) × Addr × Value)} {k : List (List Int)} (h : xs.map (·.1) = ks.map kTT) : (atKey xs (kTT k)).isSome = decide (k ∈ ks) := by
  unfold atKey
  rw [Option.isSome_map, Bool.eq_iff_iff, List.find?_isSome, decide_eq_true_eq]
  constructor
  · rintro ⟨x, hx, e⟩
    have e : x.1 = kTT k := of_decide_eq_true e
    obtain ⟨q, hq, z⟩ := List.mem_map.mp (show x.1 ∈ ks.map kTT from h ▸ List.mem_map.mpr ⟨x, hx, rfl⟩)
    rw [← z] at e
    exact kTT_inj e ▸ hq
  · intro hk
    obtain ⟨x, hx, e⟩ := List.mem_map.mp (show kTT k ∈ xs.map (·.1) from h ▸ List.mem_map.mpr ⟨k, hk, rfl⟩)
    exact ⟨x, hx, decide_eq_true e⟩
/-! ### k in d -/
def rUIn (K : PySem.W.Frag) (neg : Bool) : R2 := fun x y H Q => ∃ (B : Hp) (b p : Addr) (k : List (List Int)) (ks : List (List (List Int))) (vs ws : List V), x = .ref b ∧ y = .ref p ∧ Ip K B H (.ref b) (ttD k) ∧ (H p = some (ddO p ks vs ws) ∨ ∃ o, H p = some (.frz o (ddO p ks vs ws))) ∧ IpAll K B H vs (ks.map ttD) ∧ Q (.bl (neg != decide (k ∈ ks))) H
theorem room2 {A : Around} (hu : A.units + 65 < cLine) {knd : PySem.KeyKind X.prog X.w Key} : (kind2 knd).room A.in1 := by
  show A.in1.units + 2 < cLine
  have : A.in1.units = A.units + 1 := rfl
  omega
theorem op_unotin (hu : X.A.units + 65 < cLine) : OpR X (compareOp .NotIn) (rUIn X.K true) := by
  rintro pins s σ H x y u v Q I rx ry ⟨B, b, p, k, ks, vs, ws, rfl, rfl, hq, hp, ia, q⟩
  cases (show u = Value.ref b from rx)
  cases (show v = Value.ref p from ry)
  obtain ⟨xs, ⟨h1, h2, hv, h3, h4⟩, dd⟩ := hp.elim (fun hp => dd_at I hp ia) fun ⟨o, hp⟩ => dd_atF I hp ia
  refine wpAny_notIn_heap (room2 hu) (key2_is I hq) h3 dd ?_
  rw [at_some2 h1]
  exact ⟨.bl (!decide (k ∈ ks)), H, I.tok _, rfl, by simpa using q⟩
/-! ### d[k] -/
def rUGet (K : PySem.W.Frag) : R2 := fun x y H Q => ∃ (B : Hp) (b p : Addr) (k : List (List Int)) (ks : List (List (List Int))) (vs ws : List V) (i : Nat) (v : V), x = .ref p ∧ y = .ref b ∧ Ip K B H (.ref b) (ttD k) ∧ H p = some (ddO p ks vs ws) ∧ IpAll K B H vs (ks.map ttD) ∧ ks[i]? = some k ∧ ws[i]? = some v ∧ Q v H
theorem ix_u (hu : X.A.units + 65 < cLine) : IxR X (rUGet X.K) := by
  intro value slice pins s σ H x y v u Q I rx ry h hs
  obtain ⟨B, b, p, k, ks, vs, ws, i, r, rfl, rfl, hq, hp, ia, ek, ew, q⟩ := h
  cases (show u = Value.ref b from ry)
  cases (show v = Value.ref p from rx)
  obtain ⟨xs, ⟨h1, h2, hv, h3, h4⟩, dd⟩ := dd_at I hp ia
  have hi : i < xs.length := by
    have := congrArg List.length h1
    have := (List.getElem?_eq_some_iff.mp ek).1
    simp at *
    omega
  have e1 : (xs.map (·.1))[i]? = some (kTT k) := by rw [h1, List.getElem?_map, ek]; rfl
  have e2 : xs[i]? = some xs[i] := List.getElem?_eq_getElem hi
  have e3 : xs[i].1 = kTT k := by
    rw [List.getElem?_map, e2] at e1
    exact Option.some.inj e1
  obtain ⟨w', ew', rw'⟩ := hv.get ew
  have e4 : w' = xs[i].2.2 := by
    rw [List.getElem?_map, e2] at ew'
    exact (Option.some.inj ew').symm
  subst e4
  have hn : (xs.map (·.1)).Nodup := let ⟨_, _, _, _, _, _, _, _, hn⟩ := dd; hn
  have ha : atKey xs (kTT k) = some xs[i].2 := atKey_of_get hn (i := i) (by rw [← e3]; exact e2)
  exact tail_any dd.typeIs slot_dict_getitem.lookup (wpAny_getItem_heap (room2 hu) (key2_is I hq) dd ha ⟨r, H, I.tok _, rw', q⟩) hs
end
end DL

set_option Elab.async false
set_option linter.all false
set_option maxRecDepth 100000
set_option maxHeartbeats 4000000
set_option checkBinderAnnotations false
/-! DMs: the same on data: {k: v}, {}, k in d, d[k], d[k] = v, list(d); a dict that changes no more. -/
namespace DL
open PySem L2
open PySem.Spec PyProof.Rows
abbrev K2 := List (List Int)
def addK2 (ks : List K2) (k : K2) : List K2 := if k ∈ ks then ks else ks ++ [k]
def addV2 (ks : List K2) (vs : List V) (k : K2) (b : Addr) : List V := if k ∈ ks then vs else vs ++ [.ref b]
/-- the values behind d[k] = v -/
def addW {α : Type} (ks : List K2) (ws : List α) (k : K2) (v : α) : List α := if k ∈ ks then (ks.zip ws).map fun e => if e.1 = k then v else e.2 else ws ++ [v]
section
variable {X : Cx} {pins : List (Addr × Obj)} {σ : L2.St} {H B : Hp} {s : Shared} {p : Addr} {ks : List K2} {vs ws : List V}
theorem vals_put {k : K2} {v : V} {r : Value} (rv : RelV v r) : ∀ {xs : List (List (List Key) × Addr × Value)} {ks : List K2} {ws : List V}, xs.map (·.1) = ks.map kTT → Vals ws (xs.map fun x => x.2.2) →
    Vals ((ks.zip ws).map fun e => if e.1 = k then v else e.2) ((xs.map (putAt (kTT k) r)).map fun x => x.2.2)
  | [], [], _, _, .nil => .nil
  | [], k0 :: ks, _, h, _ => by simp at h
  | x :: xs, [], _, h, _ => by simp at h
  | x :: xs, k0 :: ks, _, h, .cons r1 rr => by
    have h : x.1 :: xs.map (·.1) = kTT k0 :: ks.map kTT := h
    rw [List.cons.injEq] at h
    rw [List.zip_cons_cons, List.map_cons, List.map_cons, List.map_cons]
    refine .cons ?_ (vals_put rv h.2 rr)
    show RelV (if k0 = k then v else _) (putAt (kTT k) r x).2.2
    unfold putAt
    by_cases c : k0 = k
    · rw [if_pos c, if_pos (by rw [h.1, c])]; exact rv
    · rw [if_neg c, if_neg (by rw [h.1]; exact fun z => c (kTT_inj z))]; exact r1
theorem dd_new {h' : Heap} {xs : List (List (List Key) × Addr × Value)} {k : K2} {b : Addr} {v : V} {r : Value} (rv : RelV v r) (h1 : xs.map (·.1) = ks.map kTT) (h2 : (xs.map fun x => V.ref x.2.1) = vs) (hv : Vals ws (xs.map fun x => x.2.2)) (h3 : (p == sysModules) = false) (h4 : xs.length < sizeLine)
    (dd : h'.DictOfH (kind2 (mixKind X.prog X.w)) p (storedH xs (kTT k) b r)) (H' : Hp) : ObjOk X.prog X.w H' h' p (ddO p (addK2 ks k) (addV2 ks vs k b) (addW ks ws k v)) := by
  obtain ⟨o, es, ep, ho, hx, hd, he, _, hn⟩ := dd
  have e1 : (storedH xs (kTT k) b r).map (·.1) = (addK2 ks k).map kTT := by
    unfold storedH addK2
    rw [at_some2 h1]
    by_cases c : k ∈ ks
    · rw [if_pos (decide_eq_true c), if_pos c, List.map_map, ← h1]
      apply List.map_congr_left
      intro x _
      show (putAt (kTT k) r x).1 = x.1
      unfold putAt
      split <;> rfl
    · rw [if_neg (by simpa using c), if_neg c, List.map_append, List.map_append, h1]; rfl
  have e2 : ((storedH xs (kTT k) b r).map fun x => V.ref x.2.1) = addV2 ks vs k b := by
    unfold storedH addV2
    rw [at_some2 h1]
    by_cases c : k ∈ ks
    · rw [if_pos (decide_eq_true c), if_pos c, List.map_map, ← h2]
      apply List.map_congr_left
      intro x _
      show V.ref (putAt (kTT k) r x).2.1 = V.ref x.2.1
      unfold putAt
      split <;> rfl
    · rw [if_neg (by simpa using c), if_neg c, List.map_append, h2]; rfl
  have e4 : Vals (addW ks ws k v) ((storedH xs (kTT k) b r).map fun x => x.2.2) := by
    unfold storedH addW
    rw [at_some2 h1]
    by_cases c : k ∈ ks
    · have c' : decide (k ∈ ks) = true := decide_eq_true c
      rw [if_pos c', if_pos c]
      exact vals_put rv h1 hv
    · have c' : ¬ decide (k ∈ ks) = true := by simpa using c
      rw [if_neg c', if_neg c, List.map_append]
      exact hv.append (.cons rv .nil)
  have e3 : (storedH xs (kTT k) b r).length ≤ sizeLine := by
    unfold storedH
    split
    · rw [List.length_map]; omega
    · rw [List.length_append, List.length_singleton]; omega
  refine ⟨⟨_, e1, e2, e4, h3, e3, hn, o, es, ep, ho, hx, hd, fun P w => by rw [he]; exact ent_same2 e1⟩, ⟨o, ho⟩, ?_⟩
  rintro g1 g2 ⟨xs', a1, a2, a0, a3, a4, a5, o', es', ep', b1, b2⟩ kp
  exact ⟨xs', a1, a2, a0, a3, a4, a5, o', es', ep', kp _ b1, b2⟩
def sUPut (K : PySem.W.Frag) (td ty tv : TE) : TS := fun D σ H => tv σ H fun v H1 => td σ H1 fun x H2 => ty σ H2 fun y H3 => ∃ (B : Hp) (b p : Addr) (k : K2) (ks : List K2) (vs ws : List V), x = .ref p ∧ y = .ref b ∧ Ip K B H3 (.ref b) (ttD k) ∧ H3 p = some (ddO p ks vs ws) ∧ IpAll K B H3 vs (ks.map ttD) ∧ ks.length < sizeLine ∧
  D.nx σ (upd H3 p (ddO p (addK2 ks k) (addV2 ks vs k b) (addW ks ws k v)))
theorem ps_uput {o i value : Expr} {td ty tv : TE} {pos pos' : Pos} (hu : X.A.units + 65 < cLine) (ho : PE X o td) (hi : PE X i ty) (hv : PE X value tv) (hs : swapsWith value (some (.Subscript o i pos')) pos.line X.env = pure false) : PS X (.Assign [.Subscript o i pos'] value pos) (sUPut X.K td ty tv) := by
  refine ⟨fun pins s σ H D I h => wpAny_Assign_Subscript (thn (hv.run pins s σ H _ I h) fun r s1 ⟨v, H1, I1, rv, q1⟩ => thn (ho.run pins s1 σ H1 _ I1 q1) fun u s2 ⟨x, H2, I2, rx, q2⟩ => thn (hi.run pins s2 σ H2 _ I2 q2) fun iv s3 ⟨y, H3, I3, ry, B, b, p, k, ks, vs, ws, ex, ey, hq, hp, ia, hz, q3⟩ => ?_) hs⟩
  subst ex ey
  cases (show u = Value.ref p from rx)
  cases (show iv = Value.ref b from ry)
  obtain ⟨xs, ⟨h1, h2, hw, h3, h4⟩, dd⟩ := dd_at I3 hp ia
  have hl : xs.length = ks.length := by have := congrArg List.length h1; simpa using this
  refine wpAny_setItem_heap (hsz := h4) (room2 hu) (key2_is I3 hq) dd fun h' dd' hs' => ⟨σ, _, ?_, q3⟩
  have he : ∃ q, h'.get? p = some q := let ⟨q, _, _, hq, _⟩ := dd'; ⟨q, hq⟩
  exact d_write I3 (by rw [hp]; trivial) hs' he (dd_new rv h1 h2 hw h3 (by omega) dd' _)
end
/-! ### on data -/
def kssOf : List D → Option K2
  | [] => some []
  | .tpx es :: ds => match intsOf es, kssOf ds with
    | some k, some ks => some (k :: ks)
    | _, _ => none
  | _ => none
theorem kssOf_some : ∀ {ds : List D} {k : K2}, kssOf ds = some k → ds = k.map tpxI
  | [], k, h => by cases h; rfl
  | .tpx es :: ds, k, h => by
    rw [kssOf] at h
    split at h
    · rename_i k0 ks e1 e2
      cases h
      rw [List.map_cons, ← kssOf_some e2, intsOf_eq e1]; rfl
    · cases h
  | .tup _ :: _, _, h => by simp [kssOf] at h
  | .non :: _, _, h => by simp [kssOf] at h
  | .bl _ :: _, _, h => by simp [kssOf] at h
  | .int _ :: _, _, h => by simp [kssOf] at h
  | .str _ :: _, _, h => by simp [kssOf] at h
  | .lst _ :: _, _, h => by simp [kssOf] at h
  | .adr _ :: _, _, h => by simp [kssOf] at h
  | .ty _ :: _, _, h => by simp [kssOf] at h
  | .fl _ :: _, _, h => by simp [kssOf] at h
  | .obj _ _ _ :: _, _, h => by simp [kssOf] at h
  | .exc _ :: _, _, h => by simp [kssOf] at h
  | .dct _ :: _, _, h => by simp [kssOf] at h
  | .dcu _ :: _, _, h => by simp [kssOf] at h
  | .ml _ :: _, _, h => by simp [kssOf] at h
  | .kl _ :: _, _, h => by simp [kssOf] at h
theorem kssOf_map : ∀ k : K2, kssOf (k.map tpxI) = some k
  | [] => rfl
  | k0 :: k => by
    show kssOf (.tpx (k0.map .int) :: k.map tpxI) = _
    rw [kssOf, intsOf_map, kssOf_map k]
def keyU : D → Option K2
  | .tup ds => kssOf ds
  | _ => none
theorem keyU_some {d : D} {k : K2} (h : keyU d = some k) : d = ttD k := by
  cases d with
  | tup ds => rw [kssOf_some (show kssOf ds = some k from h)]; rfl
  | _ => cases h
theorem keyU_ttD (k : K2) : keyU (ttD k) = some k := kssOf_map k
/-- such a dict, its keys told as one list each -/
def kU (l : List (K2 × D)) : List (List Int × D) := l.map fun e => (enc e.1, e.2)
def unU (l : List (List Int × D)) : List (K2 × D) := l.map fun e => (dec e.1, e.2)
theorem unU_kU (l : List (K2 × D)) : unU (kU l) = l := by
  unfold unU kU
  rw [List.map_map]
  conv => rhs; rw [← List.map_id l]
  exact List.map_congr_left fun e _ => by show (dec (enc e.1), e.2) = e; rw [dec_enc]
def dicU (ρ : En) (i : Nat) : Option (List (K2 × D)) := (dicAt 3 ρ i).map unU
theorem dicU_some {ρ : En} {i : Nat} {l : List (K2 × D)} (h : dicU ρ i = some l) : ∃ kvs, ρ[i]? = some (some (.dic ⟨3, kvs⟩)) ∧ unU kvs = l := by
  obtain ⟨kvs, h1, h2⟩ := Option.map_eq_some_iff.mp h
  exact ⟨kvs, dicAt_some h1, h2⟩
def putU (l : List (K2 × D)) (k : K2) (d : D) : List (K2 × D) := if k ∈ l.map (·.1) then l.map fun e => if e.1 = k then (e.1, d) else e else l ++ [(k, d)]
theorem putU_keys (l : List (K2 × D)) (k : K2) (d : D) : (putU l k d).map (·.1) = addK2 (l.map (·.1)) k := by
  unfold putU addK2
  split
  · rw [List.map_map]
    apply List.map_congr_left
    intro e _
    show (if e.1 = k then (e.1, d) else e).1 = e.1
    split <;> rfl
  · simp
theorem putU_vals (l : List (K2 × D)) (k : K2) (d : D) : (putU l k d).map (·.2) = addW (l.map (·.1)) (l.map (·.2)) k d := by
  unfold putU addW
  split
  · rw [List.map_map, List.zip_map', List.map_map]
    apply List.map_congr_left
    intro e _
    show (if e.1 = k then (e.1, d) else e).2 = if e.1 = k then d else e.2
    split <;> rfl
  · simp
theorem dv3 (kvs : List (List Int × D)) : Dc.dv ⟨3, kvs⟩ = ((unU kvs).map (·.1)).map ttD ++ (unU kvs).map (·.2) := by
  show kvs.map (fun e => ttD (dec e.1)) ++ kvs.map (·.2) = _
  unfold unU
  simp [Function.comp_def]
theorem ho3 (kvs : List (List Int × D)) (p : Addr) (vs : List V) : Dc.ho ⟨3, kvs⟩ p vs = ddO p ((unU kvs).map (·.1)) (vs.take kvs.length) (vs.drop kvs.length) := by
  show ddO p (kvs.map fun e => dec e.1) (vs.take kvs.length) (vs.drop kvs.length) = _
  unfold unU
  simp [Function.comp_def]
section
variable {K : PySem.W.Frag} {B H : Hp}
theorem IpAll.split {vs : List V} {a b : List D} (h : IpAll K B H vs (a ++ b)) : IpAll K B H (vs.take a.length) a ∧ IpAll K B H (vs.drop a.length) b := by
  have h1 := h.take a.length
  have h2 := h.drop a.length
  rw [List.take_left] at h1
  rw [List.drop_left] at h2
  exact ⟨h1, h2⟩
theorem own3 {v : V} {kvs : List (List Int × D)} (h : OwnD K B H v ⟨3, kvs⟩) : ∃ p vs ws, v = V.ref p ∧ B p = none ∧ H p = some (ddO p ((unU kvs).map (·.1)) vs ws) ∧ IpAll K B H vs (((unU kvs).map (·.1)).map ttD) ∧ IpAll K B H ws ((unU kvs).map (·.2)) := by
  obtain ⟨p, vs, rfl, h1, h2, h3⟩ := h
  rw [ho3] at h2
  rw [dv3] at h3
  obtain ⟨i1, i2⟩ := h3.split
  have e : (((unU kvs).map (·.1)).map ttD).length = kvs.length := by simp [unU]
  rw [e] at i1 i2
  exact ⟨p, _, _, rfl, h1, h2, i1, i2⟩
theorem mk3 {p : Addr} {vs ws : List V} {l : List (K2 × D)} (h : H p = some (ddO p (l.map (·.1)) vs ws)) (i1 : IpAll K B H vs ((l.map (·.1)).map ttD)) (i2 : IpAll K B H ws (l.map (·.2))) : H p = some (Dc.ho ⟨3, kU l⟩ p (vs ++ ws)) ∧ IpAll K B H (vs ++ ws) (Dc.dv ⟨3, kU l⟩) := by
  rw [ho3, dv3, unU_kU]
  have e : vs.length = (kU l).length := by rw [i1.length]; simp [kU]
  rw [← e, List.take_left, List.drop_left]
  exact ⟨h, i1.append i2⟩
theorem SR.dicU {σ : L2.St} {ρ : En} {i : Nat} {l : List (K2 × D)} (s : SR K B σ ρ H) (h : dicU ρ i = some l) : ∃ p vs ws, σ[i]? = some (some (.ref p)) ∧ B p = none ∧ H p = some (ddO p (l.map (·.1)) vs ws) ∧ IpAll K B H vs ((l.map (·.1)).map ttD) ∧ IpAll K B H ws (l.map (·.2)) := by
  obtain ⟨kvs, e, rfl⟩ := dicU_some h
  obtain ⟨v, hv, r⟩ := s.slot i _ e
  obtain ⟨p, vs, ws, rfl, h1, h2, h3, h4⟩ := own3 r
  exact ⟨p, vs, ws, hv, h1, h2, h3, h4⟩
theorem ip_put {k : K2} {v : V} {d : D} (h : Ip K B H v d) : ∀ {ks : List K2} {ws : List V} {es : List D}, IpAll K B H ws es → IpAll K B H ((ks.zip ws).map fun e => if e.1 = k then v else e.2) ((ks.zip es).map fun e => if e.1 = k then d else e.2)
  | [], _, _, _ => by rw [List.zip_nil_left, List.zip_nil_left]; exact .nil
  | k0 :: ks, _, _, .nil => .nil
  | k0 :: ks, _, _, .cons h1 t => by
    rw [List.zip_cons_cons, List.zip_cons_cons, List.map_cons, List.map_cons]
    refine .cons ?_ (ip_put h t)
    show Ip K B H (if k0 = k then v else _) (if k0 = k then d else _)
    split
    · exact h
    · exact h1
theorem ttD_ref {v : V} {k : K2} (h : Ip K B H v (ttD k)) : ∃ b, v = .ref b := by
  cases h with
  | tup _ _ => exact ⟨_, rfl⟩
end
def wUIn (neg : Bool) (i : Nat) (wk : EW) : EW := fun ρ Q X => wk ρ (fun r ρ1 => match r with
  | .dat d => withOp (keyU d) fun k => withOp (dicU ρ1 i) fun l => Q (.dat (.bl (neg != decide (k ∈ l.map (·.1))))) ρ1
  | _ => False) X
def wUGet (i : Nat) (wk : EW) : EW := fun ρ Q X => isOwn ρ[i]? = true ∧ wk ρ (fun r ρ1 => match r with
  | .dat d => withOp (keyU d) fun k => withOp (dicU ρ1 i) fun l => ∃ (j : Nat) (e : D), l[j]? = some (k, e) ∧ Q (.dat e) ρ1
  | _ => False) X
def wUPut (i : Nat) (wk wv : EW) : SW := fun E ρ => wv ρ (fun r ρ1 => match r with
  | .dat d => isOwn ρ1[i]? = true ∧ wk ρ1 (fun rk ρ2 => match rk with
    | .dat dk => withOp (keyU dk) fun k => withOp (dicU ρ2 i) fun l => l.length < sizeLine ∧ E.nx (ρ2.set i (some (.dic ⟨3, kU (putU l k d)⟩)))
    | _ => False) E.ex
  | _ => False) E.ex
section
variable {K : PySem.W.Frag} {W : WX}
theorem sim_uin (neg : Bool) (i : Nat) {tk : TE} {wk : EW} (hk : SimE K W tk wk) : SimE K W (tOp (rUIn K neg) tk (tVar i)) (wUIn neg i wk) := by
  intro B σ ρ H Qw Xw Q s h hx q
  refine hk B σ ρ H _ Xw _ s h hx fun v r B1 ρ1 H1 s1 t1 rv1 q1 => ?_
  cases r with
  | dat d =>
    obtain ⟨k, ek, qa⟩ := withOp_some q1
    obtain ⟨l, ed, qb⟩ := withOp_some qa
    have rv1 : Ip K B1 H1 v d := rv1
    rw [keyU_some ek] at rv1
    obtain ⟨b, rfl⟩ := ttD_ref rv1
    obtain ⟨p, vs, ws, hp, nb, hh, ia, iw⟩ := s1.dicU ed
    refine ⟨_, hp, B1, b, p, k, _, vs, ws, rfl, rfl, rv1, .inl hh, ia, ?_⟩
    exact q (.bl _) (.dat (.bl (neg != decide (k ∈ l.map (·.1))))) B1 ρ1 H1 s1 t1 (show Ip K B1 H1 (.bl _) (.bl _) from .bl _) qb
  | _ => exact q1.elim
theorem sim_uget (i : Nat) {tk : TE} {wk : EW} (hk : SimE K W tk wk) : SimE K W (tOp (rUGet K) (tVar i) tk) (wUGet i wk) := by
  intro B σ ρ H Qw Xw Q s h hx q
  obtain ⟨ho, h⟩ := h
  obtain ⟨sl, e, _⟩ := isOwn_some ho
  obtain ⟨u, hu, _⟩ := s.slot i sl e
  refine ⟨u, hu, ?_⟩
  refine hk B σ ρ H _ Xw _ s h hx fun v r B1 ρ1 H1 s1 t1 rv1 q1 => ?_
  cases r with
  | dat d =>
    obtain ⟨k, ek, qa⟩ := withOp_some q1
    obtain ⟨l, ed, j, e, ej, qb⟩ := withOp_some qa
    have rv1 : Ip K B1 H1 v d := rv1
    rw [keyU_some ek] at rv1
    obtain ⟨b, rfl⟩ := ttD_ref rv1
    obtain ⟨p, vs, ws, hp, nb, hh, ia, iw⟩ := s1.dicU ed
    have eu : u = .ref p := Option.some.inj (Option.some.inj (hu.symm.trans hp))
    subst eu
    obtain ⟨w, hw, ww⟩ := iw.get (i := j) (d := e) (by rw [List.getElem?_map, ej]; rfl)
    exact ⟨B1, b, p, k, _, vs, ws, j, w, rfl, rfl, rv1, hh, ia, by rw [List.getElem?_map, ej]; rfl, hw, q w (.dat e) B1 ρ1 H1 s1 t1 ww qb⟩
  | _ => exact q1.elim
theorem sim_uput (i : Nat) {tk tv : TE} {wk wv : EW} (hk : SimE K W tk wk) (hv : SimE K W tv wv) : SimS K W (sUPut K (tVar i) tk tv) (wUPut i wk wv) := by
  intro H0 B0 L B σ ρ H E Ew f h n r b c x
  refine hv B σ ρ H _ _ _ f.toSR h (xw f x) fun v rr B1 ρ1 H1 s1 t1 rv q => ?_
  have f1 := f.step s1 t1
  have g1 := t1.gr f.toSR
  cases rr with
  | dat d =>
    obtain ⟨ho, q⟩ := q
    obtain ⟨sl, e, ht⟩ := isOwn_some ho
    obtain ⟨u, hu, _⟩ := s1.slot i sl e
    refine ⟨u, hu, ?_⟩
    refine hk B1 σ ρ1 H1 _ _ _ s1 q (xw f1 (fun c B9 σ9 ρ9 H9 f9 g9 => x c B9 σ9 ρ9 H9 f9 (g1.trans g9))) fun vk rk B2 ρ2 H2 s2 t2 rvk q2 => ?_
    have f2 := f1.step s2 t2
    cases rk with
    | dat dk =>
      obtain ⟨k, ek, qa⟩ := withOp_some q2
      obtain ⟨l, ed, hz, qb⟩ := withOp_some qa
      have rvk : Ip K B2 H2 vk dk := rvk
      rw [keyU_some ek] at rvk
      obtain ⟨t, rfl⟩ := ttD_ref rvk
      have rvd : Ip K B2 H2 v d := Ip.step s1 t2 rv
      obtain ⟨p, vs, ws, hp, nb, hh, ia, iw⟩ := s2.dicU ed
      obtain ⟨kvs, er, eu0⟩ := dicU_some ed
      have eu : u = .ref p := Option.some.inj (Option.some.inj (hu.symm.trans hp))
      subst eu
      refine ⟨B2, t, p, k, _, vs, ws, rfl, rfl, rvk, hh, ia, by rw [List.length_map]; exact hz, ?_⟩
      have ho2 : isOwn ρ2[i]? = true := by rw [er]; rfl
      obtain ⟨s3, t3⟩ := s2.mutG (H' := upd H2 p (ddO p (addK2 (l.map (·.1)) k) (addV2 (l.map (·.1)) vs k t) (addW (l.map (·.1)) ws k v))) (sl' := .dic ⟨3, kU (putU l k d)⟩) ho2 hp (fun b o e hb => by rw [upd_ne hb]; exact e) rfl (fun ds z => by rw [er] at z; cases z) fun tu => by
        have j1 : IpAll K B2 H2 (addV2 (l.map (·.1)) vs k t) (((putU l k d).map (·.1)).map ttD) := by
          rw [putU_keys]
          unfold addV2 addK2
          split
          · exact ia
          · rw [List.map_append]
            exact ia.append (.cons rvk .nil)
        have j2 : IpAll K B2 H2 (addW (l.map (·.1)) ws k v) ((putU l k d).map (·.2)) := by
          rw [putU_vals]
          unfold addW
          split
          · exact ip_put rvd iw
          · exact iw.append (.cons rvd .nil)
        have i1 := j1.mono (Same.refl _) tu
        have i2 := j2.mono (Same.refl _) tu
        obtain ⟨m1, m2⟩ := mk3 (l := putU l k d) (by rw [putU_keys]; exact upd_same) i1 i2
        exact ⟨p, _, rfl, nb, m1, m2⟩
      exact n B2 σ _ _ (f2.step s3 t3) ((g1.trans (t2.gr s1)).trans (t3.gr s2)) qb
    | _ => exact q2.elim
  | _ => exact q.elim
end
end DL

set_option Elab.async false
set_option linter.all false
set_option maxRecDepth 100000
set_option maxHeartbeats 4000000
set_option checkBinderAnnotations false
/-! DMt: {}, {k: v}, list(d); a dict that changes no more (D.dcu). -/
namespace DL
open PySem L2
open PySem.Spec PyProof.Rows
/-! ### {}, {k: v} -/
theorem dd_empty {P : Program} {w : World} {H : Hp} (h : Heap) (hb : sysModules < h.objs.size) : ObjOk P w H (h.push { cls := .type "dict", data := .dict #[] }) h.objs.size (ddO h.objs.size [] [] []) := by
  obtain ⟨_, hd, xs, pr, o, es, ep, ho, hx, hdt, he, hn⟩ := dt_empty (P := P) (w := w) (H := H) h hb
  have e0 : xs = [] := by cases pr; rfl
  subst e0
  have h1 : (([] : List (List (List Key) × Addr × Value)).map (·.1)) = ([] : List K2).map kTT := by rw [List.map_nil, List.map_nil]
  have h2 : (([] : List (List (List Key) × Addr × Value)).map fun x => V.ref x.2.1) = [] := List.map_nil
  have h0 : Vals [] (([] : List (List (List Key) × Addr × Value)).map fun x => x.2.2) := .nil
  have h6 : ∀ (P' : Program) (w' : World), es.toList = ([] : List (List (List Key) × Addr × Value)).map (entryOfKey (kind2 (mixKind P' w'))) := fun P' w' => by rw [he, List.map_nil, List.map_nil]
  refine ⟨⟨[], h1, h2, h0, hd, Nat.zero_le _, by rw [List.map_nil]; exact List.nodup_nil, o, es, ep, ho, hx, hdt, h6⟩, ⟨o, ho⟩, ?_⟩
  rintro g1 g2 ⟨xs', a1, a2, a0, a3, a4, a5, o', es', ep', b1, b2⟩ kp
  exact ⟨xs', a1, a2, a0, a3, a4, a5, o', es', ep', kp _ b1, b2⟩
def wUNew : EW := fun ρ Q _ => Q (.dic ⟨3, kU []⟩) ρ
def tUNew : TE := fun _ H Q => ∀ p, H p = none → Q (.ref p) (upd H p (ddO p [] [] []))
def tUDisp1 (K : PySem.W.Frag) (tk tv : TE) : TE := fun σ H Q => ∀ p, H p = none → tk σ (upd H p (ddO p [] [] [])) fun x H1 => tv σ H1 fun y H2 => H2 p = some (ddO p [] [] []) ∧ ∃ B b k, x = .ref b ∧ Ip K B H2 (.ref b) (ttD k) ∧ Q (.ref p) (upd H2 p (ddO p [k] [.ref b] [y]))
theorem pe_udisp1 {X : Cx} {k v : Expr} {tk tv : TE} {pos : Pos} (hu : X.A.units + 65 < cLine) (hk : PE X k tk) (hv : PE X v tv) : PE X (.Dict [some k] [v] pos) (tUDisp1 X.K tk tv) := by
  refine ⟨fun pins s σ H Q I q => ?_⟩
  have hn := I.hok.fresh (Nat.le_refl s.heap.objs.size)
  have I1 := I.laid (a := s.heap.objs.size) (o := ddO s.heap.objs.size [] [] []) (h' := s.heap.push { cls := .type "dict", data := .dict #[] }) (t' := s.toks) (fun _ _ q => Heap.get?_push_of_some _ q) (Nat.le_refl _) (dd_empty s.heap I.big)
  rw [arm_eval_Dict, zip_pairTrees [some k] [v] X.env pos rfl rfl, dictDisplay_pairs (pairTrees [some k] [v] X.env pos) (by simp [pairTrees]) (by simp [pairTrees])]
  refine wpAny_bind (wpAny_standAt (wpAny_bind ?_))
  unfold subDict
  refine wpAny_bind (wpAny_alloc ?_)
  refine wpAny_bind (wpAny_holding ?_)
  rw [if_pos (by simp [pairTrees])]
  refine wpAny_bind (pairTrees_cons_walk (thn (hk.run pins _ σ _ _ I1 (q _ hn)) fun u s1 ⟨x, H1, I2, rx, q1⟩ => thn (hv.run pins s1 σ H1 _ I2 q1) fun w2 s2 ⟨y, H2, I3, ry, q2⟩ => pairTrees_nil_walk ?_))
  obtain ⟨hp, B, b, kk, rfl, hb, q2⟩ := q2
  cases (show u = Value.ref b from rx)
  have ia0 : IpAll X.K B H2 [] (([] : List K2).map ttD) := by
    rw [List.map_nil]
    exact .nil
  obtain ⟨xs, ⟨h1, h2, hw, h3, h4⟩, dd⟩ := dd_at I3 hp ia0
  clear h4
  have e0 : xs = [] := by cases xs with | nil => rfl | cons => cases h1
  subst e0
  refine wpAny_holding ?_
  rw [List.forIn_cons]
  refine wpAny_bind (wpAny_bind (wpAny_bind (wpAny_dictSet_heap (knd := kind2 (mixKind X.prog X.w)) (show X.A.units + 2 < cLine by omega) (key2_is I3 hb) dd (hsz := by rw [DL.sizeLine_eq]; simp) fun h' dd' hs => wpAny_pure ?_)))
  dsimp only
  rw [List.forIn_nil]
  refine wpAny_pure (wpAny_pure (wpAny_pure (wpAny_pure ?_)))
  have he : ∃ q, h'.get? s.heap.objs.size = some q := let ⟨q, _, _, hq, _⟩ := dd'; ⟨q, hq⟩
  have hz : ([] : List (List (List Key) × Addr × Value)).length < sizeLine := by rw [DL.sizeLine_eq]; simp
  have ea : addK2 [] kk = [kk] := by simp [addK2]
  have ev : addV2 [] [] kk b = [.ref b] := by simp [addV2]
  have ew : addW ([] : List K2) ([] : List V) kk y = [y] := by simp [addW]
  have nw := dd_new (X := X) (p := s.heap.objs.size) (k := kk) (b := b) (v := y) ry h1 h2 hw h3 hz dd' (upd H2 s.heap.objs.size (ddO s.heap.objs.size [kk] [.ref b] [y]))
  rw [ea, ev, ew] at nw
  exact ⟨.ref s.heap.objs.size, _, d_write I3 (by rw [hp]; trivial) hs he nw, rfl, q2⟩
def wUDisp1 (wk wv : EW) : EW := fun ρ Q X => wk ρ (fun r ρ1 => wv ρ1 (fun r' ρ2 => match r, r' with
  | .dat dk, .dat d => withOp (keyU dk) fun k => Q (.dic ⟨3, kU [(k, d)]⟩) ρ2
  | _, _ => False) X) X
section
variable {K : PySem.W.Frag} {W : WX}
theorem sim_udisp1 {tk tv : TE} {wk wv : EW} (hk : SimE K W tk wk) (hv : SimE K W tv wv) : SimE K W (tUDisp1 K tk tv) (wUDisp1 wk wv) := by
  intro B σ ρ H Qw Xw Q s h hx q p hp
  have sm : Same H (upd H p (ddO p [] [] [])) := same_new hp
  have s0 := s.same sm
  have t0 : Tr σ B ρ H B ρ (upd H p (ddO p [] [] [])) := Tr.same sm
  have no : ¬ OwnAt σ ρ p := fun z => by obtain ⟨o, e, _⟩ := s.own z; rw [hp] at e; cases e
  have nb : B p = none := Same.bnone s.sub hp
  refine hk B σ ρ _ _ Xw _ s0 h (hx.lift s0 t0) fun v r B1 ρ1 H1 s1 t1 rv1 q1 => ?_
  refine hv B1 σ ρ1 H1 _ Xw _ s1 q1 ((hx.lift s0 t0).lift s1 t1) fun v2 r2 B2 ρ2 H2 s2 t2 rv2 q2 => ?_
  have t12 := t1.trans s1 t2
  have hp2 : H2 p = some (ddO p [] [] []) := t12.ext p _ upd_same no
  have no2 : ¬ OwnAt σ ρ2 p := fun z => no (t12.ownAt.mp z)
  have nb2 : B2 p = none := by
    cases e : B2 p with
    | none => rfl
    | some o =>
      exfalso
      rcases t12.bnew p (by rw [e]; simp) with z | z
      · exact z nb
      · rw [upd_same] at z; cases z
  refine ⟨hp2, ?_⟩
  cases r with
  | dat dk =>
    cases r2 with
    | dat d =>
      obtain ⟨k, ek, qb⟩ := withOp_some q2
      have rk : Ip K B2 H2 v dk := Ip.step s1 t2 rv1
      have rd : Ip K B2 H2 v2 d := rv2
      rw [keyU_some ek] at rk
      obtain ⟨t, rfl⟩ := ttD_ref rk
      refine ⟨B2, t, k, rfl, rk, ?_⟩
      have ext : ∀ b o, H2 b = some o → b ≠ p → (upd H2 p (ddO p [k] [.ref t] [v2])) b = some o := fun b o e hb => by rw [upd_ne hb]; exact e
      have s3 := s2.chg hp2 rfl nb2 no2 ext
      have t3 : Tr σ B ρ H B2 ρ2 (upd H2 p (ddO p [k] [.ref t] [v2])) := ⟨fun b o e n => ext b o (t12.ext b o (sm b o e) n) (ne_of_none e hp), t12.bex, fun b hb => (t12.bnew b hb).imp id fun z => by
        by_cases hbp : b = p
        · subst hbp; exact hp
        · rw [upd_ne hbp] at z; exact z, t12.shp, t12.shi⟩
      have tu := tups_at hp2 rfl ext
      obtain ⟨m1, m2⟩ := mk3 (K := K) (B := B2) (H := upd H2 p (ddO p [k] [.ref t] [v2])) (p := p) (vs := [.ref t]) (ws := [v2]) (l := [(k, d)]) upd_same (.cons (rk.mono (Same.refl _) tu) .nil) (.cons (rd.mono (Same.refl _) tu) .nil)
      exact q (.ref p) (.dic ⟨3, kU [(k, d)]⟩) B2 ρ2 _ s3 t3 ⟨p, _, rfl, hp, nb2, m1, m2, no2⟩ qb
    | _ => exact q2.elim
  | _ => exact q2.elim
end
/-! ### list(d) -/
def rListU (K : PySem.W.Frag) : List V → Hp → VK → Prop := fun us H Q => ∃ (B : Hp) (a : Addr) (ks : List K2) (vs ws : List V), us = [V.ref a] ∧ (H a = some (ddO a ks vs ws) ∨ ∃ o, H a = some (.frz o (ddO a ks vs ws))) ∧ IpAll K B H vs (ks.map ttD) ∧ ∀ p, H p = none → Q (.ref p) (upd H p (.lst vs))
theorem cr_listU {X : Cx} (hc : X.calm = true) : CallR X (.type "list") (rListU X.K) := by
  intro pins s σ H xs us Q I r h
  obtain ⟨B, d, ks, vs, ws, rfl, hp, ia, q⟩ := h
  obtain ⟨u, rfl, rx⟩ := r.one
  cases rx
  obtain ⟨zs, ⟨h1, h2, hw, hsm, h4⟩, o, es, ep, ho, hx, hdt, he, _, hn⟩ := hp.elim (fun hp => dd_at I hp ia) fun ⟨o, hp⟩ => dd_atF I hp ia
  have l1 : es.size = zs.length := size_of_entries he
  refine PySem.W.kdl_call (kdl_raw hsm hx hdt) (I.ok.hd hc) ho (by omega) fun h' tk acc' c' kp e it => ?_
  have ea : acc'.toList = zs.map fun x => Value.ref x.2.1 := by
    have hl : acc'.toList.length = zs.length := by rw [Array.length_toList, it.1]; exact l1
    apply List.ext_getElem?
    intro j
    rw [List.getElem?_map]
    cases hj : acc'.toList[j]? with
    | none =>
      have h1 := List.getElem?_eq_none_iff.mp hj
      rw [List.getElem?_eq_none (by omega)]
      all_goals rfl
    | some v =>
      obtain ⟨en, hen, hv⟩ := it.2 j v (by rw [← Array.getElem?_toList]; exact hj)
      have qe := entry_at he j
      rw [hen] at qe
      cases hb : zs[j]? with
      | none =>
        rw [hb] at qe
        exact nomatch (show some en = none from qe)
      | some b =>
        rw [hb] at qe
        have e2 : en = entryOfKey (kind2 (mixKind X.prog X.w)) b := Option.some.inj qe
        rw [hv, e2]
        all_goals rfl
  have ev : (zs.map fun x => x.2.1).map V.ref = vs := by rw [List.map_map, ← h2]; rfl
  have eb : acc'.toList = (zs.map fun x => x.2.1).map Value.ref := by rw [ea, List.map_map]; all_goals rfl
  have rv : Vals vs acc'.toList := by rw [eb, ← ev]; exact vals_refs _
  have hz : vs.length ≤ sizeLine := by rw [← ev, List.length_map, List.length_map]; omega
  refine ⟨.ref s.heap.objs.size, _, I.laid (t' := tk) (o := .lst vs) kp (Nat.le_refl _) ?_, rfl, q _ (I.hok.fresh (Nat.le_refl _))⟩
  exact ⟨hz, acc'.toList, c', rv, by rw [Array.toArray_toList]; exact e⟩
def wUList (i : Nat) : EW := fun ρ Q _ => withOp (dicU ρ i) fun l => Q (.own ((l.map (·.1)).map ttD)) ρ
theorem sim_ulist {K : PySem.W.Frag} {W : WX} (i : Nat) : SimE K W (tCB (rListU K) (tCons (tVar i) tNil)) (wUList i) := by
  intro B σ ρ H Qw Xw Q s h hx q
  obtain ⟨l, ed, q1⟩ := withOp_some h
  obtain ⟨p, vs, ws, hp, nb, hh, ia, iw⟩ := s.dicU ed
  refine ⟨_, hp, B, p, _, vs, ws, rfl, .inl hh, ia, fun l hl' => ?_⟩
  have sm : Same H (upd H l (.lst vs)) := same_new hl'
  have rv : RvV K B H (upd H l (.lst vs)) (.ref l) (.own _) := ⟨l, _, rfl, hl', upd_same, ia.mono (Same.refl _) (Tups.of sm)⟩
  exact q _ _ B ρ _ (s.same sm) (Tr.same sm) (rv.rv s sm) q1
end DL

set_option Elab.async false
set_option linter.all false
set_option maxRecDepth 100000
set_option maxHeartbeats 4000000
set_option checkBinderAnnotations false
/-! DMu: a dict of tuples of tuples that changes no more (D.dcu): locked in a slot, k in d, for k in d, len(d); derivations. -/
namespace DL
open PySem L2
open PySem.Spec PyProof.Rows
section
variable {X : Cx} {pins : List (Addr × Obj)} {σ : L2.St} {H B : Hp} {s : Shared} {p : Addr} {ks : List K2} {vs ws : List V} {o : Obj}
theorem lockU (I : Inv X pins σ H s) (hp : H p = some (ddO p ks vs ws)) : ∃ o, Inv X pins σ (upd H p (.frz o (ddO p ks vs ws))) s := by
  have ok := I.hok p _ hp
  obtain ⟨_, ⟨o, hg⟩, _⟩ := id ok
  refine ⟨o, ?_⟩
  have neH : ∀ b u, H b = some u → u ≠ ddO p ks vs ws → b ≠ p := fun b u e n z => by
    rw [z, hp] at e
    exact n (Option.some.inj e).symm
  have neN : ∀ b, H b = none → b ≠ p := fun b e z => by rw [z, hp] at e; cases e
  refine ⟨I.ok, I.os, I.bare, ⟨I.base.keep, I.base.slot, fun b o e n hx => ?_, I.base.there, fun b xs e => ?_, fun b o u e => ?_, fun b ps e => ?_⟩, I.loc, I.cell, ?_, fun x c e => ?_, fun q hq => ?_, fun b u e => ?_, I.len⟩
  · have q := I.base.free b o e n hx
    rw [upd_ne (neN b q)]; exact q
  · have q := I.base.tups b xs e; rw [upd_ne (neH b _ q (fun z => by cases z))]; exact q
  · have q := I.base.frzs b o u e; rw [upd_ne (neH b _ q (fun z => by cases z))]; exact q
  · obtain ⟨m, q⟩ := I.base.tbls b ps e; exact ⟨m, by rw [upd_ne (neH b _ q (fun z => by cases z))]; exact q⟩
  · rw [upd_ne (neN _ I.free)]; exact I.free
  · rw [upd_ne (neN _ (I.freeC x c e))]; exact I.freeC x c e
  · obtain ⟨h1, h2, h3⟩ := I.pin q hq
    exact ⟨h1, by rw [upd_ne (neN _ h2)]; exact h2, h3⟩
  · have st : ∀ b u, H b = some u → ObjOk X.prog X.w (upd H p (.frz o (ddO p ks vs ws))) s.heap b u := fun b u e =>
      (I.hok b u e).stay (fun c v _ q => q) (fun c q => by rw [upd_ne (neH c _ q (fun z => by cases z))]; exact q) fun c xs q => by rw [upd_ne (neH c _ q (fun z => by cases z))]; exact q
    by_cases hb : b = p
    · subst hb
      rw [upd_same] at e
      cases e
      exact ⟨hg, st b _ hp⟩
    · rw [upd_ne hb] at e
      exact st b u e
theorem dd_frz (I : Inv X pins σ H s) (hp : H p = some (.frz o (ddO p ks vs ws))) : (p == sysModules) = false ∧ s.heap.get? p = some o ∧ o.ExactDict ∧ ∃ (es : Array DictEntry) (ep : Nat), o.data = .dict es ep ∧ es.size = vs.length ∧
    ∀ (i : Nat) (v : V), vs[i]? = some v → ∃ (en : DictEntry) (q : Addr), es[i]? = some en ∧ en.key = .ref q ∧ v = .ref q := by
  obtain ⟨hd, ⟨xs, h1, h2, hw, h3, h4, h5, o', es, ep, ho, hx, hdt, he⟩, _⟩ := I.hok p _ hp
  rw [hd] at ho
  cases ho
  have he := he X.prog X.w
  refine ⟨h3, hd, hx, es, ep, hdt, ?_, fun i v e => ?_⟩
  · have l1 : es.size = xs.length := size_of_entries he
    rw [← h2, List.length_map]; omega
  · rw [← h2, List.getElem?_map] at e
    obtain ⟨b, hb, rfl⟩ := Option.map_eq_some_iff.mp e
    have q := entry_at he i
    rw [hb] at q
    exact ⟨_, b.2.1, q, rfl, rfl⟩
end
/-! ### locked in its slot -/
theorem ps_lockU {X : Cx} {st : Stmt} {t : TS} (i : Nat) (hp : PS X st t) : PS X st (fun D σ H => ∃ p ks vs ws, σ[i]? = some (some (.ref p)) ∧ H p = some (ddO p ks vs ws) ∧ ∀ o, t D σ (upd H p (.frz o (ddO p ks vs ws)))) := by
  refine ⟨fun pins s σ H D I h => ?_⟩
  obtain ⟨p, ks, vs, ws, _, hh, q⟩ := h
  obtain ⟨o, J⟩ := lockU I hh
  exact hp.run pins s σ _ D J (q o)
def wLkU (i : Nat) (w : SW) : SW := fun E ρ => withOp (dicU ρ i) fun l => w E (ρ.set i (some (.dat (.dcu (l.map (·.1))))))
section
variable {K : PySem.W.Frag} {W : WX}
theorem FR.lockU {H0 B0 B H : Hp} {L : Nat → Addr → Prop} {σ : L2.St} {ρ : En} {i : Nat} {l : List (K2 × D)} (f : FR K H0 B0 L B σ ρ H) (ed : dicU ρ i = some l) {p : Addr} {vs ws : List V} (hv : σ[i]? = some (some (.ref p))) (nb : B p = none) (hp : H p = some (ddO p (l.map (·.1)) vs ws)) (ia : IpAll K B H vs ((l.map (·.1)).map ttD)) (o : Obj) :
    FR K H0 B0 L B σ (ρ.set i (some (.dat (.dcu (l.map (·.1)))))) (upd H p (.frz o (ddO p (l.map (·.1)) vs ws))) ∧ Gr B H B (upd H p (.frz o (ddO p (l.map (·.1)) vs ws))) := by
  obtain ⟨kvs, e, rfl⟩ := dicU_some ed
  have hi : i < ρ.length := (List.getElem?_eq_some_iff.mp e).1
  have own : OwnAt σ ρ p := ⟨i, by rw [e]; rfl, hv⟩
  have ext : ∀ b u, H b = some u → b ≠ p → upd H p (.frz o (ddO p ((unU kvs).map (·.1)) vs ws)) b = some u := fun b u e hb => by rw [upd_ne hb]; exact e
  have tu : Tups H (upd H p (.frz o (ddO p ((unU kvs).map (·.1)) vs ws))) := tups_at hp rfl ext
  have shp : ∀ j, isOwn (ρ.set i (some (.dat (.dcu ((unU kvs).map (·.1))))))[j]? = true → j ≠ i ∧ isOwn ρ[j]? = true := fun j h => by
    by_cases hj : j = i
    · subst hj; rw [List.getElem?_set_self hi] at h; cases h
    · rw [List.getElem?_set_ne (Ne.symm hj)] at h; exact ⟨hj, h⟩
  have ownp : ∀ b, OwnAt σ (ρ.set i (some (.dat (.dcu ((unU kvs).map (·.1)))))) b → OwnAt σ ρ b ∧ b ≠ p := fun b ⟨j, h1, h2⟩ => by
    obtain ⟨hj, h1⟩ := shp j h1
    exact ⟨⟨j, h1, h2⟩, fun z => hj (f.inj j i p h1 (by rw [e]; rfl) (z ▸ h2) hv)⟩
  have h0 : ∀ u, H0 p = some u → ∃ j, L j p := fun u z => by
    rcases f.fresh p own with q | q
    · rw [z] at q; cases q
    · exact q
  refine ⟨⟨⟨by simp [f.len], ?_, ?_, ?_⟩, fun b u h1 h2 => ?_, fun b z => f.fresh b (ownp b z).1, fun j b h => ?_, f.bnew⟩, ⟨Same.refl _, tu⟩⟩
  · intro b u q
    exact ext b u (f.sub b u q) (ne_of_none q nb)
  · intro j sl h
    by_cases hj : j = i
    · subst hj
      rw [List.getElem?_set_self hi] at h; cases h
      exact ⟨.ref p, hv, .dcu (o := o) upd_same (ia.mono (Same.refl _) tu)⟩
    · rw [List.getElem?_set_ne (Ne.symm hj)] at h
      obtain ⟨u, hu, r⟩ := f.slot j sl h
      refine ⟨u, hu, ?_⟩
      have oth : ∀ dl, OwnL K B H u dl → isOwn ρ[j]? = true → OwnL K B (upd H p (.frz o (ddO p ((unU kvs).map (·.1)) vs ws))) u dl := fun dl ⟨p', us, a, b, c, d⟩ hoj => by
        subst a
        have hne : p' ≠ p := fun z => hj (f.inj j i p hoj (by rw [e]; rfl) (z ▸ hu) hv)
        exact ⟨p', us, rfl, b, ext _ _ c hne, d.mono (Same.refl _) tu⟩
      cases sl with
      | dat d => exact Ip.mono (Same.refl _) tu r
      | own dl => exact oth dl r (by rw [h]; rfl)
      | inn dl => exact oth dl r (by rw [h]; rfl)
      | bor k => exact r.elim
      | dic kvs' =>
        obtain ⟨p', us, a, b, c, d⟩ := r
        subst a
        have hne : p' ≠ p := fun z => hj (f.inj j i p (by rw [h]; rfl) (by rw [e]; rfl) (z ▸ hu) hv)
        exact ⟨p', us, rfl, b, ext _ _ c hne, d.mono (Same.refl _) tu⟩
  · intro a b q h1 h2 h3 h4
    exact f.inj a b q (shp a h1).2 (shp b h2).2 h3 h4
  · refine ext b u (f.ext0 b u h1 h2) fun z => ?_
    subst z
    obtain ⟨j, hj⟩ := h0 u h1
    exact h2 j hj
  · obtain ⟨h1, dl, h2⟩ := f.keep j b h
    have hj : j ≠ i := fun z => by subst z; rw [e] at h2; cases h2
    rw [List.getElem?_set_ne (Ne.symm hj)]
    exact ⟨h1, dl, h2⟩
theorem sim_lkU (i : Nat) {t : TS} {w : SW} (h : SimS K W t w) : SimS K W (fun D σ H => ∃ p ks vs ws, σ[i]? = some (some (.ref p)) ∧ H p = some (ddO p ks vs ws) ∧ ∀ o, t D σ (upd H p (.frz o (ddO p ks vs ws)))) (wLkU i w) := by
  intro H0 B0 L B σ ρ H E Ew f hw n r b c x
  obtain ⟨l, ed, hw⟩ := withOp_some hw
  obtain ⟨p, vs, ws, hv, nb, hp, ia, iw⟩ := f.toSR.dicU ed
  refine ⟨p, _, vs, ws, hv, hp, fun o => ?_⟩
  obtain ⟨f1, g1⟩ := f.lockU ed hv nb hp ia o
  exact h H0 B0 L B σ _ _ E Ew f1 hw (fun B2 σ2 ρ2 H2 f2 g2 => n B2 σ2 ρ2 H2 f2 (g1.trans g2)) r (fun B2 σ2 ρ2 H2 f2 g2 => b B2 σ2 ρ2 H2 f2 (g1.trans g2)) (fun B2 σ2 ρ2 H2 f2 g2 => c B2 σ2 ρ2 H2 f2 (g1.trans g2)) (fun c B9 σ9 ρ9 H9 f9 g9 => x c B9 σ9 ρ9 H9 f9 (g1.trans g9))
end
theorem ds_lkU {X : Cx} {W : WX} {st : Stmt} {w : SW} (i : Nat) (h : DS X W st w) : DS X W st (wLkU i w) := by
  obtain ⟨t, p, s⟩ := h.ok
  exact ⟨_, ps_lockU i p, sim_lkU i s⟩
/-! ### k in d -/
def gInU (neg : Bool) : G2
  | d, .dcu ks, Q => withOp (keyU d) fun k => Q (.dat (.bl (neg != decide (k ∈ ks))))
  | _, _, _ => False
theorem ops_inU {K : PySem.W.Frag} {neg : Bool} : OpS K (rUIn K neg) (gInU neg) := by
  intro B H x y d e Qw Q sub hx hy g p
  cases e with
  | dcu ks =>
    obtain ⟨k, ek, g'⟩ := withOp_some g
    have hd := keyU_some ek
    subst hd
    have hx : Ip K B H x (ttD k) := hx
    obtain ⟨b, rfl⟩ := ttD_ref hx
    cases hy with
    | dcu hh ia => exact ⟨B, b, _, k, ks, _, _, rfl, rfl, hx, .inr ⟨_, hh⟩, ia, p.bl g'⟩
  | _ => exact g.elim
/-! ### for k in d -/
def Itu (d : Addr) (o : Obj) (ks : List K2) (vs ws : List V) : It :=
  ⟨fun i H => H d = some (.frz o (ddO d ks vs ws)) ∧ i < vs.length, fun i H x H' => H' = H ∧ vs[i]? = some x, fun i H => H d = some (.frz o (ddO d ks vs ws)) ∧ vs.length ≤ i⟩
theorem turn_keysU {P : Program} {w : World} {K : PySem.W.Frag} {tg : Expr} {d : Addr} {o : Obj} {ks : List K2} {vs ws : List V} {es : Array DictEntry} {ep : Nat} (it : Addr) (hod : o.data = .dict es ep) : Turn P w K tg (Itu d o ks vs ws) [it] it (fun i h => h.IsKeyIter it d i vs.length ep) where
  mem := by simp
  obj := fun i h st b hb => by
    have e : b = it := by simpa using hb
    subst e
    obtain ⟨oi, e, c, dd⟩ := st
    exact ⟨oi, e, fun v z => by rw [dd] at z; cases z⟩
  keep := fun i h h' st k => st.at fun oi e => k it (by simp) oi e
  item := by
    intro X hP hw hK hc i pins s σ H E I hf st hg
    subst hP hw hK
    obtain ⟨hd, hi⟩ := hg
    obtain ⟨f0, f1, f2, f3, f4, f5⟩ := hf it (by simp)
    obtain ⟨hs, hgd, hx, es', ep', hdt, hsz, ent⟩ := dd_frz I hd
    obtain ⟨rfl, rfl⟩ := dict_ep hod hdt
    have hv : vs[i]? = some vs[i] := List.getElem?_eq_getElem hi
    obtain ⟨en, q, hen, hkey, hq⟩ := ent i _ hv
    refine next_key_item st hgd hdt hsz hen fun h' st' sb => ?_
    have I1 : Inv X pins σ H { s with heap := h' } := I.turned (t' := s.toks) (fun b ob hb e => (sb.2 b hb).trans e) f0 f1 f3 f4 f5
    obtain ⟨oi, e, c, dd⟩ := id st'
    exact ⟨en.key, rfl, go_of (s := { s with heap := h' }) e c dd (by decide) ⟨.ref q, H, I1, hkey, ⟨rfl, by rw [hv, hq]⟩, st', fun b hb => (hf b hb).1⟩⟩
  done := by
    intro X hP hw hK hc i pins s σ H E I hf st hg
    subst hP hw hK
    obtain ⟨hd, hi⟩ := hg
    obtain ⟨f0, f1, f2, f3, f4, f5⟩ := hf it (by simp)
    obtain ⟨hs, hgd, hx, es', ep', hdt, hsz, ent⟩ := dd_frz I hd
    obtain ⟨rfl, rfl⟩ := dict_ep hod hdt
    exact next_key_end (I.ok.hd hc) st hgd hdt hsz hi fun h' eb => ⟨rfl, I.turned (t' := s.toks) (fun b ob hb e => eb b ob hb e) f0 f1 f3 f4 f5⟩
  self := fun A i s Q E st h => by
    refine wpAny_pyIter_slot st.typeIs PySem.F.slot_dict_keyiterator_iter (wpAny_call_entry PySem.F.slot_dict_keyiterator_iter st.typeIs PySem.F.entry_dict_keyiterator_iter ?_ (PySem.F.args_dict_keyiterator_iter_1 _))
    show wpAny _ _ (ret (.ref it)) _ _ s
    exact wpAny_pure ⟨_, rfl, "dict_keyiterator", _, st.typeIs, PySem.F.slot_dict_keyiterator_next.lookup, h⟩
def iKeysU (td : TE) : TI := fun σ H R => td σ H fun x H1 => ∃ d o ks vs ws, x = .ref d ∧ H1 d = some (.frz o (ddO d ks vs ws)) ∧ R (Itu d o ks vs ws) H1
theorem pi_keysU {X : Cx} {tg e : Expr} {td : TE} (he : PE X e td) : PI X tg e (iKeysU td) := by
  refine ⟨fun pins s σ H R I h => ?_⟩
  refine thn (he.run pins s σ H _ I h) fun u s1 ⟨x, H1, I1, rx, d, o, ks, vs, ws, ex, hd, q⟩ => ?_
  subst ex
  obtain rfl : u = Value.ref d := rx
  obtain ⟨hs, hgd, hx, es, ep, hdt, hsz, ent⟩ := dd_frz I1 hd
  refine iter_keys hs hgd hx hdt (pi_one (tk := s1.toks) I1 _ (turn_keysU _ hdt) ⟨_, Heap.get?_push_size _ rfl, rfl, ?_⟩ q)
  rw [hsz] <;> rfl
def wKeysU (we : EW) : IW := fun ρ Q X => we ρ (fun r ρ1 => match r with
  | .dat (.dcu ks) => Q (ks.map ttD) ρ1
  | _ => False) X
section
variable {K : PySem.W.Frag} {W : WX}
theorem wk_keysU {d : Addr} {o : Obj} {ks : List K2} {vs ws : List V} {B0 H0 : Hp} (h : H0 d = some (.frz o (ddO d ks vs ws))) (ia : IpAll K B0 H0 vs (ks.map ttD)) : Wk K (Itu d o ks vs ws) (ks.map ttD) (okS B0 H0) where
  go := fun k B H ⟨bb, tu, sub⟩ hk => ⟨tu _ _ h rfl, by rw [ia.length]; exact hk⟩
  yld := fun k B H v H' ⟨bb, tu, sub⟩ hy hk => by
    obtain ⟨rfl, hv⟩ := hy
    obtain ⟨e, he, ie⟩ := ia.getV hv
    exact ⟨e, he, Same.refl _, ie.mono bb tu⟩
  stop := fun k B H ⟨bb, tu, sub⟩ hk => ⟨tu _ _ h rfl, by rw [ia.length]; exact hk⟩
theorem sim_keysU {te : TE} {we : EW} (he : SimE K W te we) : SimI K W (iKeysU te) (wKeysU we) := by
  intro B σ ρ H Qw Xw R s h hx q
  refine he B σ ρ H _ Xw _ s h hx fun v r B1 ρ1 H1 s1 t1 rv1 q1 => ?_
  cases r with
  | dat d =>
    cases d with
    | dcu ks =>
      cases rv1 with
      | dcu hh ia => exact ⟨_, _, _, _, _, rfl, hh, q _ _ B1 ρ1 H1 s1 t1 (wk_keysU hh ia) q1⟩
    | _ => exact q1.elim
  | _ => exact q1.elim
end
theorem di_keysU {X : Cx} {W : WX} {tg e : Expr} {we : EW} (he : DE X W e we) : DI X W tg e (wKeysU we) := by
  obtain ⟨t, pa, sa⟩ := he.ok
  exact ⟨_, pi_keysU pa, sim_keysU sa⟩
/-! ### derivations -/
section
variable {X : Cx} {W : WX} {e k v : Expr} {wk wv : EW} {x : Str} {pos p p2 : Pos}
theorem de_udisp1 (hu : X.A.units + 65 < cLine) (hk : DE X W k wk) (hv : DE X W v wv) : DE X W (.Dict [some k] [v] pos) (wUDisp1 wk wv) := by
  obtain ⟨t, pk, sk⟩ := hk.ok
  obtain ⟨t2, pv, sv⟩ := hv.ok
  exact ⟨_, pe_udisp1 hu pk pv, sim_udisp1 sk sv⟩
theorem dt_unotin (hu : X.A.units + 65 < cLine) (i : Nat) (hk : DE X W k wk) (hN : X.N[i]? = some x := by rfl) (hv : Vis X.env.scope x := by first | exact Or.inl rfl | exact Or.inr (Or.inl rfl) | exact Or.inr (Or.inr rfl)) (hd : (x == ("__debug__" : Str)) = false := by decide)
    (hcd : (x == ("__classdict__" : Str)) = false := by decide) (hm : behindInMarks .NotIn (.Name x p) = false := by rfl) : DT X W (.Compare k [.NotIn] [.Name x p] pos) (wTb (wUIn true i wk)) := by
  obtain ⟨t, pk, sk⟩ := hk.ok
  exact ⟨_, pt_cmpR (op_unotin hu) pk (pe_var hN hv hd hcd) hm, sim_trub (sim_uin true i sk)⟩
theorem de_uget (hu : X.A.units + 65 < cLine) (i : Nat) (hk : DE X W k wk) (hN : X.N[i]? = some x := by rfl) (hv : Vis X.env.scope x := by first | exact Or.inl rfl | exact Or.inr (Or.inl rfl) | exact Or.inr (Or.inr rfl)) (hd : (x == ("__debug__" : Str)) = false := by decide)
    (hcd : (x == ("__classdict__" : Str)) = false := by decide) (hs : PlainIx k := by intro _ _; rfl) : DE X W (.Subscript (.Name x p) k pos) (wUGet i wk) := by
  obtain ⟨t, pk, sk⟩ := hk.ok
  exact ⟨_, pe_ix (ix_u hu) (pe_var hN hv hd hcd) pk hs, sim_uget i sk⟩
theorem ds_uput (hu : X.A.units + 65 < cLine) (i : Nat) (hk : DE X W k wk) (hv : DE X W v wv) (hN : X.N[i]? = some x := by rfl) (hvx : Vis X.env.scope x := by first | exact Or.inl rfl | exact Or.inr (Or.inl rfl) | exact Or.inr (Or.inr rfl)) (hd : (x == ("__debug__" : Str)) = false := by decide)
    (hcd : (x == ("__classdict__" : Str)) = false := by decide) (hs : swapsWith v (some (.Subscript (.Name x p) k p2)) pos.line X.env = pure false := by rfl) : DS X W (.Assign [.Subscript (.Name x p) k p2] v pos) (wUPut i wk wv) := by
  obtain ⟨t, pk, sk⟩ := hk.ok
  obtain ⟨t2, pv, sv⟩ := hv.ok
  exact ⟨_, ps_uput hu (pe_var hN hvx hd hcd) pk pv hs, sim_uput i sk sv⟩
theorem de_ulist (hc : X.calm = true) (hg : Gl X "list") (hm : X.mg "list" = none) (i : Nat) (hN : X.N[i]? = some x := by rfl) (hv : Vis X.env.scope x := by first | exact Or.inl rfl | exact Or.inr (Or.inl rfl) | exact Or.inr (Or.inr rfl)) (hd : (x == ("__debug__" : Str)) = false := by decide)
    (hcd : (x == ("__classdict__" : Str)) = false := by decide) (hs : starEach [.Name x p2] X.env = (false, eval (.Name x p2) X.env) :: starEach [] X.env := by rfl) : DE X W (.Call (.Name "list" p) [.Name x p2] [] pos) (wUList i) :=
  ⟨_, pe_callTy (cr_listU hc) hg hm (by decide +kernel) (pa_cons (pe_var hN hv hd hcd) pa_nil hs) (by decide) (by decide) hs rfl, sim_ulist i⟩
end
/-! ### for simp -/
section
variable {ρ : En} {E : EndsW} {Q : Sl → En → Prop} {QD : List D → En → Prop} {X : Value → En → Prop} {Qs : Sl → Prop}
@[simp ↓] theorem e_unew : wUNew ρ Q X = Q (.dic ⟨3, kU []⟩) ρ := id rfl
@[simp ↓] theorem e_udisp1 {wk wv : EW} : wUDisp1 wk wv ρ Q X = wk ρ (fun r ρ1 => wv ρ1 (fun r' ρ2 => match r, r' with
  | .dat dk, .dat d => @WOp _ (keyU dk) fun k => Q (.dic ⟨3, kU [(k, d)]⟩) ρ2
  | _, _ => False) X) X := id rfl
@[simp ↓] theorem e_uin {neg : Bool} {i : Nat} {wk : EW} : wUIn neg i wk ρ Q X = wk ρ (fun r ρ1 => match r with
  | .dat d => @WOp _ (keyU d) fun k => @WOp _ (dicU ρ1 i) fun l => Q (.dat (.bl (neg != decide (k ∈ l.map (·.1))))) ρ1
  | _ => False) X := id rfl
def UGet (l : List (K2 × D)) (k : K2) [Q : D → Prop] : Prop := ∃ (j : Nat) (e : D), l[j]? = some (k, e) ∧ Q e
@[simp ↓] theorem e_uget {i : Nat} {wk : EW} : wUGet i wk ρ Q X = (isOwn ρ[i]? = true ∧ wk ρ (fun r ρ1 => match r with
  | .dat d => @WOp _ (keyU d) fun k => @WOp _ (dicU ρ1 i) fun l => @UGet l k fun e => Q (.dat e) ρ1
  | _ => False) X) := id rfl
@[simp ↓] theorem s_uput {i : Nat} {wk wv : EW} : wUPut i wk wv E ρ = wv ρ (fun r ρ1 => match r with
  | .dat d => isOwn ρ1[i]? = true ∧ wk ρ1 (fun rk ρ2 => match rk with
    | .dat dk => @WOp _ (keyU dk) fun k => @WOp _ (dicU ρ2 i) fun l => l.length < sizeLine ∧ E.nx (ρ2.set i (some (.dic ⟨3, kU (putU l k d)⟩)))
    | _ => False) E.ex
  | _ => False) E.ex := id rfl
@[simp ↓] theorem e_ulist {i : Nat} : wUList i ρ Q X = @WOp _ (dicU ρ i) fun l => Q (.own ((l.map (·.1)).map ttD)) ρ := id rfl
@[simp ↓] theorem s_lkU {i : Nat} {w : SW} : wLkU i w E ρ = @WOp _ (dicU ρ i) fun l => w E (ρ.set i (some (.dat (.dcu (l.map (·.1)))))) := id rfl
@[simp ↓] theorem g_inU {neg : Bool} {d : D} {ks : List K2} : gInU neg d (.dcu ks) Qs = @WOp _ (keyU d) fun k => Qs (.dat (.bl (neg != decide (k ∈ ks)))) := id rfl
@[simp ↓] theorem i_keysU {we : EW} : wKeysU we ρ QD X = we ρ (fun r ρ1 => match r with
  | .dat (.dcu ks) => QD (ks.map ttD) ρ1
  | _ => False) X := id rfl
theorem dicU_kU {ρ : En} {i : Nat} {l : List (K2 × D)} (h : ρ[i]? = some (some (.dic ⟨3, kU l⟩))) : dicU ρ i = some l := by
  unfold dicU dicAt
  rw [h]
  show Option.map unU (some (kU l)) = some l
  rw [Option.map_some, unU_kU]
end
/-! ### a module's number, a module's text -/
section
variable {X : Cx} {W : WX} {pos : Pos} {x : Str}
theorem de_gint {i : Int} (hg : Gl X x) (hm : ∃ t, X.mg x = some (.int i t)) (hd : (x == ("__debug__" : Str)) = false := by decide) : DE X W (.Name x pos) (wC (.int i)) := by
  obtain ⟨t, hm⟩ := hm
  exact ⟨_, pe_glob (v := .int i) hg hm ⟨t, rfl⟩ hd, sim_c fun B H => .int i⟩
end
end DL

set_option Elab.async false
set_option linter.all false
set_option maxRecDepth 100000
set_option maxHeartbeats 4000000
set_option checkBinderAnnotations false
/-! DMv: lists of other lengths are not alike, whatever is in them. -/
namespace DL
open PySem L2
open PySem.Spec PyProof.Rows
def rEqLen (K : PySem.W.Frag) : R2 := fun x y H Q => ∃ a b xs ys, x = .ref a ∧ y = .ref b ∧ SqL K H a xs ∧ SqL K H b ys ∧ xs.length ≠ ys.length ∧ Q (.bl false) H
section
variable {X : Cx}
end
def gEqLen : G2 := fun d e Q => match lsD d, lsD e with
  | some ds, some es => ds.length ≠ es.length ∧ Q (.dat (.bl false))
  | _, _ => False
section
variable {Qs : Sl → Prop} {ds es : List D}
@[simp ↓] theorem g_eqLen : gEqLen (.lst ds) (.lst es) Qs = (ds.length ≠ es.length ∧ Qs (.dat (.bl false))) := id rfl
end
end DL

set_option Elab.async false
set_option linter.all false
set_option maxRecDepth 100000
set_option maxHeartbeats 4000000
set_option checkBinderAnnotations false
/-! DMw: dict([(k, True), ..]) of tuples of tuples; len of a dict that changes no more; repr of a truth. -/
namespace DL
open PySem L2
open PySem.Spec PyProof.Rows
/-! ### dict(pairs) -/
def pairU (k : K2) : D := .tup [ttD k, .bl true]
theorem storedAll_new2 : ∀ {ps xs : List (List (List Key) × Addr × Value)}, ((xs ++ ps).map (·.1)).Nodup → storedAllH xs ps = xs ++ ps
  | [], xs, _ => by simp [storedAllH]
  | p :: ps, xs, h => by
    have hn : atKey xs p.1 = none := by
      unfold atKey
      rw [Option.map_eq_none_iff, List.find?_eq_none]
      intro x hx z
      have e : x.1 = p.1 := of_decide_eq_true z
      rw [List.map_append, List.nodup_append] at h
      exact h.2.2 x.1 (List.mem_map.mpr ⟨x, hx, rfl⟩) p.1 (by simp) e
    have e : storedAllH xs (p :: ps) = storedAllH (storedH xs p.1 p.2.1 p.2.2) ps := rfl
    rw [e, storedH_new hn]
    have e2 : xs ++ [(p.1, p.2.1, p.2.2)] = xs ++ [p] := rfl
    rw [e2, storedAll_new2 (xs := xs ++ [p]) (by simpa using h)]
    simp
theorem Key2.stay {prog : Program} {w : World} {knd : PySem.KeyKind prog w Key} {h h' : Heap} {kss : List (List Key)} {a : Addr} (x : Key2 knd h kss a) (hk : ∀ b o vs n, h.get? b = some o → o.data = .seq vs n → h'.get? b = some o) : Key2 knd h' kss a := by
  obtain ⟨o, its, n, ho, hc, hd, hi⟩ := x
  exact ⟨o, its, n, hk _ _ _ _ ho hd, hc, hd, hi.keep fun k b q => tupleKind_stays.stays hk q⟩
section
variable {X : Cx} {pins : List (Addr × Obj)} {σ : L2.St} {H B : Hp} {s : Shared}
theorem pairsU (I : Inv X pins σ H s) : ∀ {ks : List K2} {xs : List V} {its : List Value}, IpAll X.K B H xs (ks.map pairU) → Vals xs its →
    ∃ (ps : List (List (List Key) × Addr × Value)) (ts : List Addr) (ws : List V), ps.map (·.1) = ks.map kTT ∧ IpAll X.K B H (ps.map fun x => V.ref x.2.1) (ks.map ttD) ∧ Vals ws (ps.map fun x => x.2.2) ∧ IpAll X.K B H ws (ks.map fun _ => D.bl true) ∧ ps.length = ts.length ∧ its = ts.map Value.ref ∧ (∀ (j : Nat) (p : List (List Key) × Addr × Value), ps[j]? = some p → ∃ t, ts[j]? = some t ∧ PairAt s.heap t (.ref p.2.1) p.2.2) ∧ ∀ x ∈ ps, (kind2 (mixKind X.prog X.w)).is s.heap x.1 x.2.1
  | [], _, _, .nil, .nil => ⟨[], [], [], rfl, .nil, .nil, .nil, rfl, rfl, fun j p e => by simp at e, fun x hx => nomatch hx⟩
  | k :: ks, _, _, .cons h t, .cons r rr => by
    obtain ⟨ps, ts, ws, h1, h2, hw, hi, h3, h4, h5, h6⟩ := pairsU I t rr
    cases h with
    | tup hh ia =>
      cases ia with
      | cons ik ia =>
        obtain ⟨b, rfl⟩ := ttD_ref ik
        cases ia with
        | cons iv ia =>
          cases ia
          obtain ⟨its, rv, ht, _⟩ := I.tuple hh.sq
          obtain ⟨u, y, ei, ru, ry⟩ := vals2 rv
          subst ei
          cases (show u = Value.ref b from ru)
          rename_i a _ _
          cases (show _ = Value.ref a from r)
          refine ⟨(kTT k, b, y) :: ps, a :: ts, _ :: ws, by simp [h1], .cons ik h2, .cons ry hw, .cons iv hi, by simp [h3], by rw [h4]; rfl, fun j p e => ?_, fun x hx => ?_⟩
          · cases j with
            | zero =>
              simp at e
              subst e
              obtain ⟨o, ho, hc, n, hd⟩ := ht
              exact ⟨a, rfl, .inl ⟨o, ho, hc, n, hd⟩⟩
            | succ j =>
              obtain ⟨t, e1, e2⟩ := h5 j p (by simpa using e)
              exact ⟨t, by simpa using e1, e2⟩
          · rcases List.mem_cons.mp hx with rfl | hx
            · exact key2_is I ik
            · exact h6 x hx
end
def rDictU (K : PySem.W.Frag) : List V → Hp → VK → Prop := fun us H Q => ∃ (B : Hp) (l : Addr) (xs : List V) (ks : List K2), us = [.ref l] ∧ SqL K H l xs ∧ IpAll K B H xs (ks.map pairU) ∧ ks.Nodup ∧ ∀ p vs ws, H p = none → IpAll K B H vs (ks.map ttD) → IpAll K B H ws (ks.map fun _ => D.bl true) → Q (.ref p) (upd H p (ddO p ks vs ws))
theorem kTT_nodup {ks : List K2} (h : ks.Nodup) : (ks.map kTT).Nodup := by
  rw [List.nodup_iff_pairwise_ne, List.pairwise_map]
  exact (List.nodup_iff_pairwise_ne.mp h).imp fun n z => n (kTT_inj z)
theorem call_dictU {X : Cx} (hc : X.calm = true) (hu : X.A.units + 65 < cLine) : CallR X (.type "dict") (rDictU X.K) := by
  intro pins s σ H xs us Q I r h
  obtain ⟨B, l, xs, ks, rfl, hq, ia, nd, q⟩ := h
  obtain ⟨u, rfl, rx⟩ := vals1 r
  cases rx
  obtain ⟨its, rv, pl, hz⟩ := I.list hq
  obtain ⟨ps, ts, ws, h1, h2, hw, hi, h3, h4, h5, h6⟩ := pairsU I ia rv
  subst h4
  obtain ⟨o, n, ho, hcl, hdc, hdat⟩ := pl
  have hnd : (ps.map (·.1)).Nodup := by rw [h1]; exact kTT_nodup nd
  have hps : storedAllH [] ps = ps := by rw [storedAll_new2 (xs := []) (by simpa using hnd)]; rfl
  have lt : ts.length ≤ sizeLine := by rw [← List.length_map (f := Value.ref), ← rv.length]; exact hz
  let ps' : List (Value × Value) := ps.map fun x => (.ref x.2.1, x.2.2)
  have l' : ps'.length = ps.length := List.length_map _
  have pit : PairItems s.heap (ts.map Value.ref).toArray (fun j => ts.getD j 0) ps' := ⟨by simp [l', h3], fun j k v e => by
    rw [List.getElem?_map] at e
    obtain ⟨p, hp, e⟩ := Option.map_eq_some_iff.mp e
    cases e
    obtain ⟨t, ht, hpa⟩ := h5 j p hp
    have e1 : ts.getD j 0 = t := by rw [List.getD_eq_getElem?_getD, ht]; rfl
    exact ⟨by simp [ht], by show PairAt s.heap (ts.getD j 0) _ _; rw [e1]; exact hpa⟩⟩
  refine call_dict_pairsH (knd := kind2 (mixKind X.prog X.w)) (ps := ps) (PairArg.list (prog := X.prog) (w := X.w) l (ts.map Value.ref).toArray (fun j => ts.getD j 0) ps') (I.ok.hd hc) (show X.A.in1.in1.units + 2 < cLine by have : X.A.in1.in1.units = X.A.units + 1 + 1 := rfl; omega) ⟨⟨o, n, ho, hcl, hdc, hdat⟩, pit⟩ ⟨l'.symm, fun i key v e => ?_⟩ (fun h' hk x hx => ?_) (by rw [l', h3]; exact lt) fun h' tk dd hk => ?_
  · have e : ps'[i]? = some (key, v) := e
    rw [List.getElem?_map] at e
    obtain ⟨p, hp, e⟩ := Option.map_eq_some_iff.mp e
    cases e
    exact ⟨p.1, p.2.1, hp, rfl⟩
  · exact (h6 x hx).stay fun b o vs n e _ => hk b o (Nat.ne_of_lt (Heap.lt_size e)) (fun z => nomatch z) e
  · rw [hps] at dd
    obtain ⟨od, es, ep, hod, hx, hd, he, _, hn⟩ := dd
    have hsm : (s.heap.objs.size == sysModules) = false := beq_eq_false_iff_ne.mpr (Nat.ne_of_gt I.big)
    have kp : ∀ b o, s.heap.get? b = some o → h'.get? b = some o := fun b o e => hk b o (fun z => nomatch z) e
    refine ⟨.ref s.heap.objs.size, _, I.laid (t' := tk) (o := ddO s.heap.objs.size ks (ps.map fun x => V.ref x.2.1) ws) kp (Nat.le_refl _) ?_, rfl, q _ _ _ (I.hok.fresh (Nat.le_refl _)) h2 hi⟩
    refine ⟨⟨ps, h1, rfl, hw, hsm, by rw [h3]; exact lt, hn, od, es, ep, hod, hx, hd, fun P w => by rw [he]; exact ent_same2 h1⟩, ⟨od, hod⟩, ?_⟩
    rintro g1 g2 ⟨xs', a1, a2, aw, a3, a4, a5, o', es', ep', b1, b2⟩ kp
    exact ⟨xs', a1, a2, aw, a3, a4, a5, o', es', ep', kp _ b1, b2⟩
def gDictU : GN
  | [.lst ds], Q => ∃ ks : List K2, ds = ks.map pairU ∧ ks.Nodup ∧ Q (.dic ⟨3, kU (ks.map fun k => (k, .bl true))⟩)
  | _, _ => False
theorem cs_dictU {K : PySem.W.Frag} : CallS K (rDictU K) gDictU := by
  intro B H xs ds Qw Q sub hr g p
  match ds, hr, g with
  | [.lst ds], hr, g =>
    obtain ⟨x, rfl, h⟩ := rd1 hr
    obtain ⟨ks, rfl, nd, g⟩ := g
    obtain ⟨a, xs, rfl, h1, h2⟩ := h
    refine ⟨B, a, xs, ks, rfl, h1, h2, nd, fun q vs ws hq iv iw => ?_⟩
    have sm : Same H (upd H q (ddO q ks vs ws)) := same_new hq
    have e0 : (ks.map fun k => (k, D.bl true)).map (·.1) = ks := by
      rw [List.map_map]
      conv => rhs; rw [← List.map_id ks]
      exact List.map_congr_left fun k _ => rfl
    have e1 : (ks.map fun k => (k, D.bl true)).map (·.2) = ks.map fun _ => D.bl true := by
      rw [List.map_map]
      exact List.map_congr_left fun k _ => rfl
    obtain ⟨m1, m2⟩ := mk3 (K := K) (B := B) (H := upd H q (ddO q ks vs ws)) (p := q) (vs := vs) (ws := ws) (l := ks.map fun k => (k, D.bl true)) (by rw [e0]; exact upd_same) (by rw [e0]; exact iv.mono (Same.refl _) (Tups.of sm)) (by rw [e1]; exact iw.mono (Same.refl _) (Tups.of sm))
    exact p (.ref q) (.dic ⟨3, kU (ks.map fun k => (k, .bl true))⟩) _ sm ⟨q, _, rfl, hq, m1, m2⟩ g
def DcU (ds : List D) [Q : Sl → Prop] : Prop := ∃ ks : List K2, ds = ks.map pairU ∧ ks.Nodup ∧ Q (.dic ⟨3, kU (ks.map fun k => (k, .bl true))⟩)
@[simp ↓] theorem g_dictU {Qs : Sl → Prop} {ds : List D} : gDictU [.lst ds] Qs = @DcU ds Qs := id rfl
/-! ### len(d) -/
section
variable {prog : Program} {w : World} {A : Around} {E : Value → Shared → Prop} {s : Shared} {d : Addr} {es : Array DictEntry} {ep : Nat}
end
def rLenU (K : PySem.W.Frag) : List V → Hp → VK → Prop := fun us H Q => ∃ (B : Hp) (p : Addr) (ks : List K2) (vs ws : List V) (o : Obj), us = [V.ref p] ∧ H p = some (.frz o (ddO p ks vs ws)) ∧ IpAll K B H vs (ks.map ttD) ∧ Q (.int ks.length) H
def gLenU : GN
  | [.dcu ks], Q => Q (.dat (.int ks.length))
  | _, _ => False
@[simp ↓] theorem g_lenU {Qs : Sl → Prop} {ks : List K2} : gLenU [.dcu ks] Qs = Qs (.dat (.int ks.length)) := id rfl
/-! ### repr(b) -/
def bTx (b : Bool) : Str := if b then "True" else "False"
def gReprB : GN
  | [.bl b], Q => Q (.dat (.str (bTx b)))
  | _, _ => False
@[simp ↓] theorem g_reprB {Qs : Sl → Prop} {b : Bool} : gReprB [.bl b] Qs = Qs (.dat (.str (bTx b))) := id rfl
/-! ### texts alike or not -/
def gEqS : G2
  | .str a, .str b, Q => Q (.dat (.bl (decide (a = b))))
  | _, _, _ => False
def gNeS : G2
  | .str a, .str b, Q => Q (.dat (.bl (!decide (a = b))))
  | _, _, _ => False
@[simp ↓] theorem g_eqS {Qs : Sl → Prop} {a b : Str} : gEqS (.str a) (.str b) Qs = Qs (.dat (.bl (decide (a = b)))) := id rfl
@[simp ↓] theorem g_neS {Qs : Sl → Prop} {a b : Str} : gNeS (.str a) (.str b) Qs = Qs (.dat (.bl (!decide (a = b)))) := id rfl
end DL

set_option Elab.async false
set_option linter.all false
set_option maxRecDepth 100000
set_option maxHeartbeats 4000000
set_option checkBinderAnnotations false
/-! DMx: x += e, xs[i] += e, xs.extend(ys), xs.insert(i, y), is None, a < b < c, targets in targets. -/
namespace DL
open PySem L2
open PySem.Spec PyProof.Rows
/-! ### is None -/
def isNon : D → Bool
  | .non => true
  | _ => false
def gIsN : G2
  | d, .non, Q => Q (.dat (.bl (isNon d)))
  | _, _, _ => False
def gNotN : G2
  | d, .non, Q => Q (.dat (.bl (!isNon d)))
  | _, _, _ => False
section
variable {Qs : Sl → Prop} {d : D}
@[simp ↓] theorem g_isN : gIsN d .non Qs = Qs (.dat (.bl (isNon d))) := id rfl
@[simp ↓] theorem g_notN : gNotN d .non Qs = Qs (.dat (.bl (!isNon d))) := id rfl
@[simp] theorem isNon_non : isNon .non = true := rfl
@[simp] theorem isNon_int {i : Int} : isNon (.int i) = false := rfl
@[simp] theorem isNon_tup {ds : List D} : isNon (.tup ds) = false := rfl
@[simp] theorem isNon_lst {ds : List D} : isNon (.lst ds) = false := rfl
@[simp] theorem isNon_fl {ds : List D} : isNon (.fl ds) = false := rfl
@[simp] theorem isNon_str {z : Str} : isNon (.str z) = false := rfl
@[simp] theorem isNon_bl {b : Bool} : isNon (.bl b) = false := rfl
end
/-! ### a op1 b op2 c -/
def wChain (g g' : G2) (wa wb wc : EW) : EW := fun ρ Q X => wa ρ (fun a ρ1 => wb ρ1 (fun b ρ2 => withC ρ2 a fun d => match b with
  | .dat e => g d e fun r => match r with
    | .dat (.bl true) => wc ρ2 (fun c ρ3 => withC ρ3 c fun f => g' e f fun r => Q r ρ3) X
    | .dat (.bl false) => Q (.dat (.bl false)) ρ2
    | _ => False
  | _ => False) X) X
/-! ### x += e -/
def wAugN (f : Int → Int → Int) (i : Nat) (we : EW) : SW := fun E ρ => match ρ[i]? with
  | some (some (.dat (.int a))) => we ρ (fun r ρ1 => match r with
    | .dat (.int b) => notInn ρ1 i ∧ E.nx (ρ1.set i (some (.dat (.int (f a b)))))
    | _ => False) E.ex
  | _ => False
section
variable {K : PySem.W.Frag} {W : WX}
end
section
variable {X : Cx} {W : WX} {e : Expr} {we : EW} {pos pos' : Pos}
end
/-! ### xs[j] += e -/
def wAugIt (f : Int → Int → Int) (i : Nat) (wj we : EW) : SW := fun E ρ => isLst ρ[i]? = true ∧ wj ρ (fun rj ρ1 => match rj with
  | .dat (.int k) => withO ρ1 i fun ds => 0 ≤ k ∧ withOp (atI ds k) fun d => match d with
    | .int a => we ρ1 (fun r ρ2 => match r with
      | .dat (.int b) => withO ρ2 i fun ds' => withOp (ixN ds'.length k) fun j => E.nx (setOwn ρ2 i (ds'.set j (.int (f a b))))
      | _ => False) E.ex
    | _ => False
  | _ => False) E.ex
section
variable {X : Cx}
/-- o[i], by values: a list, the index from 0 on -/
def rGetL (K : PySem.W.Frag) : V → V → Hp → VK → Prop := fun o i H Q => ∃ p xs k v, o = .ref p ∧ i = .int k ∧ 0 ≤ k ∧ H p = some (.lst xs) ∧ atI xs k = some v ∧ Q v H
end
section
variable {K : PySem.W.Frag} {W : WX}
end
section
variable {X : Cx} {W : WX} {e j : Expr} {we wj : EW} {pos tpos xp : Pos}
end
/-! ### xs.extend(ys) -/
def rExtendS : V → List V → Hp → VK → Prop := fun x vs H Q => ∃ l b xs zs, x = .ref l ∧ vs = [.ref b] ∧ H l = some (.lst xs) ∧ (H b = some (.lst zs) ∨ ∃ o, H b = some (.frz o (.lst zs))) ∧ xs.length + zs.length ≤ sizeLine ∧ Q .non (upd H l (.lst (xs ++ zs)))
def wExt (i : Nat) (we : EW) : EW := fun ρ Q X => isLst ρ[i]? = true ∧ we ρ (fun r ρ1 => withO ρ1 i fun ds => match r with
  | .own es => ds.length + es.length ≤ sizeLine ∧ Q (.dat .non) (setOwn ρ1 i (ds ++ es))
  | .dat (.fl es) => ds.length + es.length ≤ sizeLine ∧ Q (.dat .non) (setOwn ρ1 i (ds ++ es))
  | _ => False) X
section
variable {K : PySem.W.Frag} {W : WX}
end
section
variable {X : Cx} {W : WX} {e : Expr} {we : EW} {pos apos cpos : Pos}
end
/-! ### xs.insert(i, y) -/
def mInsert : GM
  | ds, [.int i, d], Q => ds.length < sizeLine ∧ (0 ≤ i ∧ i < 2 ^ 63) ∧ Q .non (ds.take i.toNat ++ [d] ++ ds.drop i.toNat)
  | _, _, _ => False
/-! ### a op1 b op2 c -/
section
variable {K : PySem.W.Frag} {W : WX}
end
section
variable {X : Cx} {W : WX} {a b c : Expr} {wa wb wc : EW} {pos : Pos}
end
/-! ### targets in targets -/
def spMix : List (D → Option (List D)) → List D → Option (List D)
  | [], [] => some []
  | sp :: sps, d :: ds => match sp d, spMix sps ds with
    | some es, some fs => some (es ++ fs)
    | _, _ => none
  | _, _ => none
def spTupM (sps : List (D → Option (List D))) : D → Option (List D)
  | .tup ds => spMix sps ds
  | _ => none
structure DGm (X : Cx) (es : List Expr) (is : List Nat) (sps : List (D → Option (List D))) : Prop where
  ok : ∃ g : TGs, PGs X es g ∧ sps.length = es.length ∧ ∀ (B H : Hp) (σ : L2.St) (vs : List V) (ds fs : List D) (Q : L2.St → Hp → Prop), IpAll X.K B H vs ds → spMix sps ds = some fs → (∀ us, us.length = is.length → IpAll X.K B H us fs → Q (setsS σ is us) H) → g vs σ H Q
section
variable {X : Cx} {pos : Pos}
end
/-! ### a def that an expression tells, called -/
def wCallE (w0 : EW) (S : Addr → FD → Prop) (wr : AW) : EW := fun ρ Q X => w0 ρ (fun r ρ1 => match r with
  | .dat (.adr a) => ∃ g, S a g ∧ wCallD g wr ρ1 Q X
  | _ => False) X
section
variable {X : Cx} {W : WX} {k n : Nat} {S : Addr → FD → Prop} {pos : Pos} {f e : Expr} {es : List Expr} {w0 : EW} {wr : AW}
open PySem.Spec PyProof.Rows in
end
/-! ### for simp -/
section
variable {ρ : En} {E : EndsW} {Q : Sl → En → Prop} {X : Value → En → Prop} {Qs : Sl → Prop}
@[simp ↓] theorem e_chain {g g' : G2} {wa wb wc : EW} : wChain g g' wa wb wc ρ Q X = wa ρ (fun a ρ1 => wb ρ1 (fun b ρ2 => withC ρ2 a fun d => match b with
  | .dat e => g d e fun r => match r with
    | .dat (.bl true) => wc ρ2 (fun c ρ3 => withC ρ3 c fun f => g' e f fun r => Q r ρ3) X
    | .dat (.bl false) => Q (.dat (.bl false)) ρ2
    | _ => False
  | _ => False) X) X := id rfl
def AugK (o : Option (Option Sl)) [k : Int → Prop] : Prop := match o with
  | some (some (.dat (.int a))) => k a
  | _ => False
@[simp ↓] theorem s_augN {f : Int → Int → Int} {i : Nat} {we : EW} : wAugN f i we E ρ = @AugK ρ[i]? fun a => we ρ (fun r ρ1 => match r with
    | .dat (.int b) => notInn ρ1 i ∧ E.nx (ρ1.set i (some (.dat (.int (f a b)))))
    | _ => False) E.ex := id rfl
@[simp ↓] theorem augK_int {a : Int} {k : Int → Prop} : @AugK (some (some (.dat (.int a)))) k = k a := id rfl
@[simp ↓] theorem s_augIt {f : Int → Int → Int} {i : Nat} {wj we : EW} : wAugIt f i wj we E ρ = (isLst ρ[i]? = true ∧ wj ρ (fun rj ρ1 => match rj with
  | .dat (.int k) => withO ρ1 i fun ds => 0 ≤ k ∧ @WOp _ (atI ds k) fun d => match d with
    | .int a => we ρ1 (fun r ρ2 => match r with
      | .dat (.int b) => withO ρ2 i fun ds' => @WOp _ (ixN ds'.length k) fun j => E.nx (setOwn ρ2 i (ds'.set j (.int (f a b))))
      | _ => False) E.ex
    | _ => False
  | _ => False) E.ex) := id rfl
@[simp ↓] theorem e_callE {w0 : EW} {S : Addr → FD → Prop} {wr : AW} : wCallE w0 S wr ρ Q X = w0 ρ (fun r ρ1 => match r with
  | .dat (.adr a) => ∃ g, S a g ∧ wCallD g wr ρ1 Q X
  | _ => False) X := id rfl
@[simp ↓] theorem e_ext {i : Nat} {we : EW} : wExt i we ρ Q X = (isLst ρ[i]? = true ∧ we ρ (fun r ρ1 => withO ρ1 i fun ds => match r with
  | .own es => ds.length + es.length ≤ sizeLine ∧ Q (.dat .non) (setOwn ρ1 i (ds ++ es))
  | .dat (.fl es) => ds.length + es.length ≤ sizeLine ∧ Q (.dat .non) (setOwn ρ1 i (ds ++ es))
  | _ => False) X) := id rfl
@[simp ↓] theorem m_insert {ds : List D} {i : Int} {d : D} {Qm : D → List D → Prop} : mInsert ds [.int i, d] Qm = (ds.length < sizeLine ∧ (0 ≤ i ∧ i < 2 ^ 63) ∧ Qm .non (ds.take i.toNat ++ [d] ++ ds.drop i.toNat)) := id rfl
@[simp] theorem spTupM_tup {sps : List (D → Option (List D))} {ds : List D} : spTupM sps (.tup ds) = spMix sps ds := rfl
end
end DL

set_option Elab.async false
set_option linter.all false
set_option maxRecDepth 100000
set_option maxHeartbeats 4000000
set_option checkBinderAnnotations false
/-! DMy: any(..) of truths within an except suite. -/
namespace DL
open PySem L2
open PySem.Spec PyProof.Rows HotX L2H
theorem takesN0 {X : Cx} : L2N.Takes X (fun _ _ _ _ => False) := fun _ _ x => by
  obtain ⟨_, _, _, _, _, _, _, _, _, _, _, _, _, _, _, _, z⟩ := x
  exact z.elim
section
variable {prog : Program} {w : World} {A : Around} {E : Value → Shared → Prop} {s : Shared}
end
end DL

set_option Elab.async false
set_option linter.all false
set_option maxRecDepth 100000
set_option maxHeartbeats 4000000
set_option checkBinderAnnotations false
/-! DMz: max of a list of ints. -/
namespace DL
open PySem L2
def gMaxL : GN
  | [.lst ds], Q => withOp (intsOf ds) fun ns => 0 < ns.length ∧ ∀ m, m ∈ ns → (∀ y ∈ ns, y ≤ m) → Q (.dat (.int m))
  | _, _ => False
def MaxW (ns : List Int) [Q : Int → Prop] : Prop := 0 < ns.length ∧ ∀ m, m ∈ ns → (∀ y ∈ ns, y ≤ m) → Q m
@[simp ↓] theorem g_maxL {ds : List D} {Qs : Sl → Prop} : gMaxL [.lst ds] Qs = @WOp _ (intsOf ds) fun ns => @MaxW ns fun m => Qs (.dat (.int m)) := id rfl
end DL

set_option Elab.async false
set_option linter.all false
set_option maxRecDepth 100000
set_option maxHeartbeats 4000000
set_option checkBinderAnnotations false
/-! DN1: an object in the making: its fields are set, one of them a list that grows. -/
namespace DL
open PySem L2
open PySem.Spec PyProof.Rows
/-- x in the making, its fields so far; no slot holds a list of its own -/
structure OR (K : PySem.W.Frag) (H0 : Hp) (x C dx : Addr) (ns : List Str) (B : Hp) (σ : L2.St) (ρ : En) (H : Hp) (vs : List V) (ds : List D) : Prop where
  len : σ.length = ρ.length + 1
  sub : Same B H
  s0 : σ[0]? = some (some (.ref x))
  slot : ∀ (i : Nat) (sl : Sl), ρ[i]? = some (some sl) → ∃ d v, sl = .dat d ∧ d.noobj = true ∧ σ[i + 1]? = some (some v) ∧ Ip K B H v d
  hx : H x = some (.ins C dx (ns.zip vs))
  bx : B x = none
  hl : ns.length = vs.length
  ia : IpAll K B H vs ds
  no : D.noobjs ds = true
  ext0 : ∀ b o, H0 b = some o → b ≠ x → H b = some o
abbrev oe (C : Addr) (ns : List Str) (ds : List D) : Option Sl := some (.dat (.obj C ns ds))
/-- a list of its own -/
structure OL (K : PySem.W.Frag) (H0 : Hp) (B H : Hp) (p : Addr) (us : List V) (es : List D) : Prop where
  hp : H p = some (.lst us)
  nb : B p = none
  ia : IpAll K B H us es
  no : D.noobjs es = true
  h0 : H0 p = none
section
variable {K : PySem.W.Frag} {H0 : Hp} {x C dx : Addr} {ns ns' : List Str} {B B' H H' : Hp} {σ : L2.St} {ρ : En} {vs vs' us : List V} {ds ds' es : List D} {p : Addr} {W : WX}
theorem OR.isOwn (o : OR K H0 x C dx ns B σ ρ H vs ds) (i : Nat) : DL.isOwn (oe C ns ds :: ρ)[i]? = false := by
  cases i with
  | zero => rfl
  | succ i =>
    rw [List.getElem?_cons_succ]
    cases e : ρ[i]? with
    | none => rfl
    | some q =>
      cases q with
      | none => rfl
      | some sl => obtain ⟨d, v, rfl, _⟩ := o.slot i sl e; rfl
theorem OR.noown (o : OR K H0 x C dx ns B σ ρ H vs ds) (b : Addr) : ¬ OwnAt σ (oe C ns ds :: ρ) b := fun ⟨i, h, _⟩ => by rw [o.isOwn i] at h; cases h
theorem OR.sr (o : OR K H0 x C dx ns B σ ρ H vs ds) : SR K B σ (oe C ns ds :: ρ) H where
  len := by rw [o.len]; rfl
  sub := o.sub
  slot := fun i sl h => by
    cases i with
    | zero => cases h; exact ⟨_, o.s0, .obj o.hx o.hl o.ia⟩
    | succ i => obtain ⟨d, v, rfl, _, h1, h2⟩ := o.slot i sl h; exact ⟨v, h1, h2⟩
  inj := fun i j p h => by rw [o.isOwn i] at h; cases h
theorem OR.ex (o : OR K H0 x C dx ns B σ ρ H vs ds) {te : TE} {we : EW} (he : SimE K W te we) {Qw : Sl → Prop} {Xw : Value → Prop} {Q : VK} (hw : we (oe C ns ds :: ρ) (fun r ρ' => ρ' = oe C ns ds :: ρ ∧ Qw r) (fun c _ => Xw c))
    (hX : ∀ c H', (∀ b o, H0 b = some o → b ≠ x → H' b = some o) → Xw c → W c none σ H')
    (hq : ∀ v r B' H', OR K H0 x C dx ns B' σ ρ H' vs ds → Same H H' → Same B B' → (∀ b, B' b ≠ none → B b ≠ none ∨ H b = none) → RvR K B' σ (oe C ns ds :: ρ) H H' v r → Qw r → Q v H') : te σ H Q := by
  refine he B σ _ H _ _ Q o.sr hw (fun c B' ρ' H' s' t' z => hX c H' (fun b u e hb => t'.ext b u (o.ext0 b u e hb) (o.noown b)) z) fun v r B' ρ' H' s' t' rv ⟨e, q⟩ => ?_
  subst e
  have sm : Same H H' := fun b u e => t'.ext b u e (o.noown b)
  refine hq v r B' H' ⟨o.len, s'.sub, o.s0, fun i sl h => ?_, sm _ _ o.hx, ?_, o.hl, o.ia.mono t'.bex (Tups.of sm), o.no, fun b u e hb => sm _ _ (o.ext0 b u e hb)⟩ sm t'.bex t'.bnew rv q
  · obtain ⟨d, w, h1, h2, h3, h4⟩ := o.slot i sl h
    exact ⟨d, w, h1, h2, h3, h4.mono t'.bex (Tups.of sm)⟩
  · cases z : B' x with
    | none => rfl
    | some u =>
      exfalso
      rcases t'.bnew x (by rw [z]; simp) with q | q
      · exact q o.bx
      · rw [o.hx] at q; cases q
theorem OL.step (l : OL K H0 B H p us es) (sm : Same H H') (sb : Same B B') (bn : ∀ b, B' b ≠ none → B b ≠ none ∨ H b = none) : OL K H0 B' H' p us es where
  hp := sm _ _ l.hp
  nb := by
    cases z : B' p with
    | none => rfl
    | some u =>
      exfalso
      rcases bn p (by rw [z]; simp) with q | q
      · exact q l.nb
      · rw [l.hp] at q; cases q
  ia := l.ia.mono sb (Tups.of sm)
  no := l.no
  h0 := l.h0
theorem OR.put (o : OR K H0 x C dx ns B σ ρ H vs ds) {fs : List (Str × V)} (hf : fs = ns'.zip vs') (hl' : ns'.length = vs'.length) (ia' : IpAll K B H vs' ds') (no' : D.noobjs ds' = true) : OR K H0 x C dx ns' B σ ρ (upd H x (.ins C dx fs)) vs' ds' where
  len := o.len
  sub := fun b u e => by rw [upd_ne (fun z => by rw [z, o.bx] at e; cases e)]; exact o.sub b u e
  s0 := o.s0
  slot := fun i sl h => by
    obtain ⟨d, w, h1, h2, h3, h4⟩ := o.slot i sl h
    exact ⟨d, w, h1, h2, h3, Ip.off ⟨C, dx, _, o.hx⟩ (fun b u e _ hb => by rw [upd_ne hb]; exact e) h4 h2⟩
  hx := by rw [upd_same, hf]
  bx := o.bx
  hl := hl'
  ia := IpAll.off ⟨C, dx, _, o.hx⟩ (fun b u e _ hb => by rw [upd_ne hb]; exact e) ia' no'
  no := no'
  ext0 := fun b u e hb => by rw [upd_ne hb]; exact o.ext0 b u e hb
theorem OL.put (l : OL K H0 B H p us es) (o : OR K H0 x C dx ns B σ ρ H vs ds) {fs : List (Str × V)} : OL K H0 B (upd H x (.ins C dx fs)) p us es where
  hp := by rw [upd_ne (fun z => by have := o.hx; rw [← z, l.hp] at this; cases this)]; exact l.hp
  nb := l.nb
  ia := IpAll.off ⟨C, dx, _, o.hx⟩ (fun b u e _ hb => by rw [upd_ne hb]; exact e) l.ia l.no
  no := l.no
  h0 := l.h0
end
/-- a statement, then a list locked -/
def lockS (t : TS) : TS := fun D σ H => t { D with nx := fun σ' H' => ∃ p xs, H' p = some (.lst xs) ∧ ∀ o, D.nx σ' (upd H' p (.frz o (.lst xs))) } σ H
/-- Steps.__init__ -/
def tInit (K : PySem.W.Frag) (t0 t1 t2 t3 t4 t5 t6 : TE) : TS := tSeq (tDrop t0) (tSeq (sFld K (tVar 0) t1 "kept") (tSeq (sFld K (tVar 0) t2 "weights") (tSeq (sFld K (tVar 0) t3 "whole") (lockS (tFor (iSeq K (tFld K (tVar 0) "kept")) (gName 2)
  (tSeq (tAsg t4 (gName 3)) (tSeq (tDrop (tBM K "list" rAppend (tFld K (tVar 0) "whole") (tCons t5 tNil))) (sFld K (tVar 0) t6 "weights"))))))))
abbrev nsS : List Str := ["kept", "weights", "whole"]
/-- what is asked of the expressions in it -/
def wInit (C : Addr) (w0 w1 w2 w3 w4 w5 w6 : EW) (ρ : En) (Qw : List D → Prop) (Xw : Value → Prop) : Prop :=
  w0 (oe C [] [] :: ρ) (fun _ ρ' => ρ' = oe C [] [] :: ρ ∧
    w1 (oe C [] [] :: ρ) (fun r ρ' => ρ' = oe C [] [] :: ρ ∧ ∃ ks, r = .dat (.fl ks) ∧ D.noobjs ks = true ∧ D.nolists ks = true ∧
      w2 (oe C ["kept"] [.fl ks] :: ρ) (fun r ρ' => ρ' = oe C ["kept"] [.fl ks] :: ρ ∧ ∃ W0, r = .dat (.fl W0) ∧ D.noobjs W0 = true ∧ D.nolists W0 = true ∧
        w3 (oe C ["kept", "weights"] [.fl ks, .fl W0] :: ρ) (fun r ρ' => ρ' = oe C ["kept", "weights"] [.fl ks, .fl W0] :: ρ ∧ r = .own [] ∧
          ∃ I : Nat → En → List D → List D → Prop, I 0 ρ W0 [] ∧ (∀ ρ W V, I ks.length ρ W V → D.nolists W = true ∧ D.nolists V = true ∧ Qw [.fl ks, .fl W, .fl V]) ∧
            ∀ i d ρ W V p, ks[i]? = some d → I i ρ W V → 3 ≤ ρ.length ∧ V.length < sizeLine ∧
              w4 (oe C nsS [.fl ks, .fl W, .adr p] :: ρ.set 1 (some (.dat d))) (fun r ρ' => ρ' = oe C nsS [.fl ks, .fl W, .adr p] :: ρ.set 1 (some (.dat d)) ∧ ∃ sc, r = .dat sc ∧ sc.noobj = true ∧
                w5 (oe C nsS [.fl ks, .fl W, .adr p] :: (ρ.set 1 (some (.dat d))).set 2 (some (.dat sc))) (fun r ρ' => ρ' = oe C nsS [.fl ks, .fl W, .adr p] :: (ρ.set 1 (some (.dat d))).set 2 (some (.dat sc)) ∧ ∃ wv, r = .dat wv ∧ wv.noobj = true ∧
                  w6 (oe C nsS [.fl ks, .fl W, .adr p] :: (ρ.set 1 (some (.dat d))).set 2 (some (.dat sc))) (fun r ρ' => ρ' = oe C nsS [.fl ks, .fl W, .adr p] :: (ρ.set 1 (some (.dat d))).set 2 (some (.dat sc)) ∧ ∃ W', r = .dat (.fl W') ∧ D.noobjs W' = true ∧
                    I (i + 1) ((ρ.set 1 (some (.dat d))).set 2 (some (.dat sc))) W' (V ++ [wv])) (fun c _ => Xw c)) (fun c _ => Xw c)) (fun c _ => Xw c)) (fun c _ => Xw c)) (fun c _ => Xw c)) (fun c _ => Xw c)) (fun c _ => Xw c)
section
variable {P : Program} {w : World} {K : PySem.W.Frag} {mg : Str → Option Value} {base : Heap}
end
end DL

set_option Elab.async false
set_option linter.all false
set_option maxRecDepth 100000
set_option maxHeartbeats 4000000
set_option checkBinderAnnotations false
/-! DN2: zip of a tuple and a list; tuple + tuple, tuple * int; a def by another name. -/
namespace DL
open PySem L2
open PySem.Spec PyProof.Rows
/-! ### zip(tuple, list) -/
def ItzM (K : PySem.W.Frag) (a b : Addr) : It where
  go := fun i H => ∃ (us ws : List V) (u w : V), (SqT K H a us ∧ us[i]? = some u) ∧ SqL K H b ws ∧ ws[i]? = some w
  yld := fun i H v G => ∃ p u w, (v = .ref p ∧ H p = none ∧ G = upd H p (.tup [u, w])) ∧ (∀ us, SqT K H a us → us[i]? = some u) ∧ ∀ ws, SqL K H b ws → ws[i]? = some w
  stop := fun i H => ∃ us ws : List V, SqT K H a us ∧ SqL K H b ws ∧ (us.length ≤ i ∨ ws.length ≤ i)
section
variable {P : Program} {w : World} {A : Around}
end
def iZipM (K : PySem.W.Frag) (ta : TA) : TI := fun σ H R => ta σ H fun vs G => ∃ a b us ws, vs = [.ref a, .ref b] ∧ (SqT K G a us ∧ SqL K G b ws) ∧ R (ItzM K a b) G
def zipTL (a b : D) : Option (List D) := match tsD a, lsD b with
  | some ds, some es => some (zipD ds es)
  | _, _ => none
def wZipM (wa : AW) : IW := fun ρ Q X => wa ρ (fun rs ρ1 => withOp (dats rs) fun l => match l with
  | [a, b] => withOp (zipTL a b) fun ds => Q ds ρ1
  | _ => False) X
section
variable {K : PySem.W.Frag} {W : WX}
end
section
variable {X : Cx} {W : WX} {e e2 : Expr} {wa : AW} {pos p tpos : Pos} {elts : List Expr} {kk : Nat}
end
section
variable {ρ : En} {QD : List D → En → Prop} {X : Value → En → Prop} {ds es : List D}
@[simp ↓] theorem i_zipM {wa : AW} : wZipM wa ρ QD X = wa ρ (fun rs ρ1 => @WOp _ (dats rs) fun l => match l with
  | [a, b] => @WOp _ (zipTL a b) fun ds => QD ds ρ1
  | _ => False) X := id rfl
@[simp] theorem zipTL_tl : zipTL (.tup ds) (.lst es) = some (zipD ds es) := rfl
@[simp] theorem zipTL_tf : zipTL (.tup ds) (.fl es) = some (zipD ds es) := rfl
@[simp] theorem zipO_ff : zipO (.fl ds) (.fl es) = some (zipD ds es) := rfl
@[simp] theorem zipO_fll : zipO (.fl ds) (.lst es) = some (zipD ds es) := rfl
@[simp] theorem zipO_lfl : zipO (.lst ds) (.fl es) = some (zipD ds es) := rfl
end
/-! ### t + u, t * k -/
def gCatT : G2
  | .tup a, .tup b, Q => a.length + b.length ≤ sizeLine ∧ Q (.dat (.tup (a ++ b)))
  | _, _, _ => False
def gRepT : G2
  | .tup a, .int k, Q => (a ≠ [] ∧ a.length ≤ 1000) ∧ (2 ≤ k ∧ k ≤ 1000) ∧ Q (.dat (.tup (List.replicate k.toNat a).flatten))
  | _, _, _ => False
section
variable {Q : Sl → Prop} {a b : List D} {k : Int}
@[simp ↓] theorem g_catT : gCatT (.tup a) (.tup b) Q = (a.length + b.length ≤ sizeLine ∧ Q (.dat (.tup (a ++ b)))) := id rfl
@[simp ↓] theorem g_repT : gRepT (.tup a) (.int k) Q = ((a ≠ [] ∧ a.length ≤ 1000) ∧ (2 ≤ k ∧ k ≤ 1000) ∧ Q (.dat (.tup (List.replicate k.toNat a).flatten))) := id rfl
end
end DL

set_option Elab.async false
set_option linter.all false
set_option maxRecDepth 100000
set_option maxHeartbeats 4000000
set_option checkBinderAnnotations false
/-! DN3: the body of Steps.__init__ by its expressions. -/
namespace DL
open PySem L2
open PySem.Spec PyProof.Rows
end DL

set_option Elab.async false
set_option linter.all false
set_option maxRecDepth 100000
set_option maxHeartbeats 4000000
set_option checkBinderAnnotations false
/-! DN4: slices of locked lists; xs == []; a, b, .. = a list. -/
namespace DL
open PySem L2
open PySem.Spec PyProof.Rows
/-! ### slices -/
def gSlF (d : D) (lo hi : Option Int) (Q : Sl → Prop) : Prop := match d with
  | .lst ds => Q (.own (cutD ds lo hi))
  | .fl ds => Q (.own (cutD ds lo hi))
  | _ => False
def wSlF (we : EW) (wl wh : OW) : EW := fun ρ Q X => we ρ (fun r ρ1 => wl ρ1 (fun lo ρ2 => wh ρ2 (fun hi ρ3 => withC ρ3 r fun d => gSlF d lo hi fun s => Q s ρ3) X) X) X
section
variable {K : PySem.W.Frag} {W : WX}
end
section
variable {X : Cx} {W : WX} {e : Expr} {we : EW} {lo hi : Option Expr} {wl wh : OW} {pos p2 : Pos}
end
/-! ### xs == [] -/
def gEqN : G2 := fun d e Q => match lsD d, lsD e with
  | some ds, some [] => Q (.dat (.bl ds.isEmpty))
  | _, _ => False
/-! ### a, b, .. = a list -/
def gLstT (K : PySem.W.Frag) (n : Nat) (t : TGs) : TG := fun v σ H Q => ∃ a us, v = .ref a ∧ (SqL K H a us ∧ us.length = n) ∧ t us σ H Q
section
variable {X : Cx}
end
def wSetL (is : List Nat) (we : EW) : SW := fun E ρ => we ρ (fun r ρ1 => match r with
  | .own ds => (ds.length = is.length ∧ notInns ρ1 is) ∧ E.nx (setsE ρ1 is ds)
  | _ => False) E.ex
section
variable {X : Cx} {W : WX} {es : List Expr} {is : List Nat} {e : Expr} {we : EW} {pos : Pos}
end
section
variable {ρ : En} {E : EndsW} {Q : Sl → En → Prop} {Qs : Sl → Prop} {X : Value → En → Prop} {ds : List D}
@[simp ↓] theorem e_slF {we : EW} {wl wh : OW} : wSlF we wl wh ρ Q X = we ρ (fun r ρ1 => wl ρ1 (fun lo ρ2 => wh ρ2 (fun hi ρ3 => withC ρ3 r fun d => gSlF d lo hi fun s => Q s ρ3) X) X) X := id rfl
@[simp ↓] theorem g_slFl {lo hi : Option Int} : gSlF (.lst ds) lo hi Qs = Qs (.own (cutD ds lo hi)) := id rfl
@[simp ↓] theorem g_slFf {lo hi : Option Int} : gSlF (.fl ds) lo hi Qs = Qs (.own (cutD ds lo hi)) := id rfl
@[simp ↓] theorem g_eqNl : gEqN (.lst ds) (.lst []) Qs = Qs (.dat (.bl ds.isEmpty)) := id rfl
@[simp ↓] theorem g_eqNf : gEqN (.fl ds) (.lst []) Qs = Qs (.dat (.bl ds.isEmpty)) := id rfl
@[simp ↓] theorem s_setL {is : List Nat} {we : EW} : wSetL is we E ρ = we ρ (fun r ρ1 => match r with
  | .own ds => (ds.length = is.length ∧ notInns ρ1 is) ∧ E.nx (setsE ρ1 is ds)
  | _ => False) E.ex := id rfl
end
end DL

set_option Elab.async false
set_option linter.all false
set_option maxRecDepth 100000
set_option maxHeartbeats 4000000
set_option checkBinderAnnotations false
/-! DN5: a new list is locked, data goes as it is; slices of tuples and lists; sums of lists, locked or not. -/
namespace DL
open PySem L2
open PySem.Spec PyProof.Rows
/-- a new list, from now on never changed; data as it is -/
def wFlO (we : EW) : EW := fun ρ Q X => we ρ (fun r ρ1 => match r with
  | .own ds => Q (.dat (.fl ds)) ρ1
  | .dat d => Q (.dat d) ρ1
  | _ => False) X
section
variable {X : Cx} {W : WX}
end
/-! ### slices -/
def gSlG (d : D) (lo hi : Option Int) (Q : Sl → Prop) : Prop := match d with
  | .lst ds => Q (.own (cutD ds lo hi))
  | .fl ds => Q (.own (cutD ds lo hi))
  | .kl ds => Q (.own (cutD ds lo hi))
  | .tup ds => Q (.dat (.tup (cutD ds lo hi)))
  | _ => False
def wSlG (we : EW) (wl wh : OW) : EW := fun ρ Q X => we ρ (fun r ρ1 => wl ρ1 (fun lo ρ2 => wh ρ2 (fun hi ρ3 => withC ρ3 r fun d => gSlG d lo hi fun s => Q s ρ3) X) X) X
section
variable {K : PySem.W.Frag} {W : WX}
end
section
variable {X : Cx} {W : WX} {e : Expr} {we : EW} {lo hi : Option Expr} {wl wh : OW} {pos p2 : Pos}
end
/-! ### sums of lists -/
def gAddG : G2
  | .fl a, .lst b, Q => a.length + b.length ≤ sizeLine ∧ Q (.own (a ++ b))
  | .lst a, .fl b, Q => a.length + b.length ≤ sizeLine ∧ Q (.own (a ++ b))
  | .fl a, .fl b, Q => a.length + b.length ≤ sizeLine ∧ Q (.own (a ++ b))
  | .lst a, .lst b, Q => a.length + b.length ≤ sizeLine ∧ Q (.own (a ++ b))
  | _, _, _ => False
section
variable {ρ : En} {Q : Sl → En → Prop} {Qs : Sl → Prop} {X : Value → En → Prop} {a b : List D} {lo hi : Option Int}
@[simp ↓] theorem e_flO {we : EW} : wFlO we ρ Q X = we ρ (fun r ρ1 => match r with
  | .own ds => Q (.dat (.fl ds)) ρ1
  | .dat d => Q (.dat d) ρ1
  | _ => False) X := id rfl
@[simp ↓] theorem e_slG {we : EW} {wl wh : OW} : wSlG we wl wh ρ Q X = we ρ (fun r ρ1 => wl ρ1 (fun lo ρ2 => wh ρ2 (fun hi ρ3 => withC ρ3 r fun d => gSlG d lo hi fun s => Q s ρ3) X) X) X := id rfl
@[simp ↓] theorem g_slGl : gSlG (.lst a) lo hi Qs = Qs (.own (cutD a lo hi)) := id rfl
@[simp ↓] theorem g_slGk : gSlG (.kl a) lo hi Qs = Qs (.own (cutD a lo hi)) := id rfl
@[simp ↓] theorem g_slGf : gSlG (.fl a) lo hi Qs = Qs (.own (cutD a lo hi)) := id rfl
@[simp ↓] theorem g_slGt : gSlG (.tup a) lo hi Qs = Qs (.dat (.tup (cutD a lo hi))) := id rfl
@[simp ↓] theorem g_addGfl : gAddG (.fl a) (.lst b) Qs = (a.length + b.length ≤ sizeLine ∧ Qs (.own (a ++ b))) := id rfl
@[simp ↓] theorem g_addGlf : gAddG (.lst a) (.fl b) Qs = (a.length + b.length ≤ sizeLine ∧ Qs (.own (a ++ b))) := id rfl
@[simp ↓] theorem g_addGff : gAddG (.fl a) (.fl b) Qs = (a.length + b.length ≤ sizeLine ∧ Qs (.own (a ++ b))) := id rfl
@[simp ↓] theorem g_addGll : gAddG (.lst a) (.lst b) Qs = (a.length + b.length ≤ sizeLine ∧ Qs (.own (a ++ b))) := id rfl
end
end DL

set_option Elab.async false
set_option linter.all false
set_option maxRecDepth 100000
set_option maxHeartbeats 4000000
set_option checkBinderAnnotations false
/-! DN6: tuple * 0, tuple * 1. -/
namespace DL
open PySem L2
open PySem.Spec PyProof.Rows
def rRepS (K : PySem.W.Frag) : R2 := fun x y H Q => ∃ l k xs, x = .ref l ∧ y = .int k ∧ SqT K H l xs ∧ xs ≠ [] ∧ ((k = 1 ∧ Q (.ref l) H) ∨ (k = 0 ∧ ∀ p, H p = none → Q (.ref p) (upd H p (.tup []))))
section
variable {X : Cx}
end
def gRepA : G2
  | .tup a, .int k, Q => (a ≠ [] ∧ a.length ≤ 1000) ∧ (0 ≤ k ∧ k ≤ 1000) ∧ Q (.dat (.tup (List.replicate k.toNat a).flatten))
  | _, _, _ => False
section
variable {Q : Sl → Prop} {a : List D} {k : Int}
@[simp ↓] theorem g_repA : gRepA (.tup a) (.int k) Q = ((a ≠ [] ∧ a.length ≤ 1000) ∧ (0 ≤ k ∧ k ≤ 1000) ∧ Q (.dat (.tup (List.replicate k.toNat a).flatten))) := id rfl
end
end DL

set_option Elab.async false
set_option linter.all false
set_option maxRecDepth 100000
set_option maxHeartbeats 4000000
set_option checkBinderAnnotations false
/-! DN7: zip of a list and a tuple. -/
namespace DL
open PySem L2
open PySem.Spec PyProof.Rows
/-! ### zip(list, tuple) -/
def ItzN (K : PySem.W.Frag) (a b : Addr) : It where
  go := fun i H => ∃ (us ws : List V) (u w : V), (SqL K H a us ∧ us[i]? = some u) ∧ SqT K H b ws ∧ ws[i]? = some w
  yld := fun i H v G => ∃ p u w, (v = .ref p ∧ H p = none ∧ G = upd H p (.tup [u, w])) ∧ (∀ us, SqL K H a us → us[i]? = some u) ∧ ∀ ws, SqT K H b ws → ws[i]? = some w
  stop := fun i H => ∃ us ws : List V, SqL K H a us ∧ SqT K H b ws ∧ (us.length ≤ i ∨ ws.length ≤ i)
def iZipN (K : PySem.W.Frag) (ta : TA) : TI := fun σ H R => ta σ H fun vs G => ∃ a b us ws, vs = [.ref a, .ref b] ∧ (SqL K G a us ∧ SqT K G b ws) ∧ R (ItzN K a b) G
def zipLT (a b : D) : Option (List D) := match lsD a, tsD b with
  | some ds, some es => some (zipD ds es)
  | _, _ => none
def wZipN (wa : AW) : IW := fun ρ Q X => wa ρ (fun rs ρ1 => withOp (dats rs) fun l => match l with
  | [a, b] => withOp (zipLT a b) fun ds => Q ds ρ1
  | _ => False) X
section
variable {K : PySem.W.Frag} {W : WX}
end
section
variable {X : Cx} {W : WX} {e e2 : Expr} {wa : AW} {pos p tpos : Pos} {elts : List Expr} {kk : Nat}
end
section
variable {ρ : En} {QD : List D → En → Prop} {X : Value → En → Prop} {ds es : List D}
@[simp ↓] theorem i_zipN {wa : AW} : wZipN wa ρ QD X = wa ρ (fun rs ρ1 => @WOp _ (dats rs) fun l => match l with
  | [a, b] => @WOp _ (zipLT a b) fun ds => QD ds ρ1
  | _ => False) X := id rfl
@[simp] theorem zipLT_lt : zipLT (.lst ds) (.tup es) = some (zipD ds es) := rfl
@[simp] theorem zipLT_ft : zipLT (.fl ds) (.tup es) = some (zipD ds es) := rfl
end
/-! ### tuple(a locked list) -/
def gTupF : GN
  | [.fl ds], Q => Q (.dat (.tup ds))
  | _, _ => False
theorem cs_tupF {K : PySem.W.Frag} : CallS K (fun xs H Q => ∃ p ys, xs = [.ref p] ∧ ((SqL K H p ys ∧ ∀ l, H l = none → Q (.ref l) (upd H l (.tup ys))) ∨ (SqT K H p ys ∧ Q (.ref p) H))) gTupF := by
  intro B H xs ds Qw Q sub hr g p
  match ds, hr, g with
  | [.fl ds], hr, g =>
    obtain ⟨x, rfl, h⟩ := rd1 hr
    cases h with
    | fl hh i => exact ⟨_, _, rfl, .inl ⟨.inl (.inr ⟨_, hh⟩), p.tup i g⟩⟩
@[simp ↓] theorem g_tupFl {ds : List D} {Q : Sl → Prop} : gTupF [.fl ds] Q = Q (.dat (.tup ds)) := id rfl
end DL

set_option Elab.async false
set_option linter.all false
set_option maxRecDepth 100000
set_option maxHeartbeats 4000000
set_option checkBinderAnnotations false
/-! DN8: lists in lists that change: D.ml; statements behind which less of the lists is known; a loop that changes its items. -/
namespace DL
open PySem L2
open PySem.Spec PyProof.Rows
/-! ### a new list that may be changed later -/
def wMl (we : EW) : EW := fun ρ Q X => we ρ (fun r ρ1 => match r with
  | .own ds => Q (.dat (.ml ds)) ρ1
  | _ => False) X
section
variable {X : Cx} {W : WX}
end
/-- in, of such lists too -/
def gInM : G2
  | d, .ml ds, Q => (d.shp = true ∧ (D.ml ds).shp = true) ∧ Q (.dat (.bl (ds.any fun z => z.eqb d)))
  | d, e, Q => gInL d e Q
/-! ### a method of a new list, at once -/
def wMtT (m : GM) (we : EW) (wa : AW) : EW := fun ρ Q X => we ρ (fun r ρ1 => match r with
  | .own ds => wa ρ1 (fun rs ρ2 => match pureD rs with
    | some args => m ds args fun d _ => Q (.dat d) ρ2
    | none => False) X
  | _ => False) X
def wMtT0 (m : GM) (we : EW) : EW := fun ρ Q X => we ρ (fun r ρ1 => match r with
  | .own ds => m ds [] fun d _ => Q (.dat d) ρ1
  | _ => False) X
section
variable {K : PySem.W.Frag} {W : WX}
end
/-! ### statements behind which less of the lists is known -/
def pureSl : Sl → Prop
  | .dat d => d.nolist = true
  | .own ds => D.nolists ds = true
  | .inn ds => D.nolists ds = true
  | .bor _ => False
  | .dic kvs => D.nolists kvs.dv = true
def pureEn : En → Prop
  | [] => True
  | none :: r => pureEn r
  | some sl :: r => pureSl sl ∧ pureEn r
theorem pureEn_get : ∀ {ρ : En} {i : Nat} {sl : Sl}, pureEn ρ → ρ[i]? = some (some sl) → pureSl sl
  | none :: r, 0, sl, h, e => by cases e
  | some s :: r, 0, sl, h, e => by cases e; exact h.1
  | none :: r, i + 1, sl, h, e => pureEn_get (ρ := r) (i := i) h (by simpa using e)
  | some s :: r, i + 1, sl, h, e => pureEn_get (ρ := r) (i := i) h.2 (by simpa using e)
  | [], i, sl, h, e => by simp at e
theorem FR.rebase {K : PySem.W.Frag} {H0 B B' H : Hp} {L : Nat → Addr → Prop} {σ : L2.St} {ρ : En} (f : FR K H0 H00 L B σ ρ H) (pe : pureEn ρ) (bb : ∀ b o, B' b = some o → B b = some o) : FR K H0 H00 L B' σ ρ H where
  len := f.len
  sub := fun b o e => f.sub b o (bb b o e)
  slot := fun i sl h => by
    obtain ⟨v, hv, r⟩ := f.slot i sl h
    have pp := pureEn_get pe h
    have bn : ∀ p, B p = none → B' p = none := fun p n => by
      cases q : B' p with
      | none => rfl
      | some o => rw [bb p o q] at n; cases n
    refine ⟨v, hv, ?_⟩
    cases sl with
    | dat d => exact Ip.pure r pp
    | own ds => obtain ⟨p, vs, a, b, c, dd⟩ := r; exact ⟨p, vs, a, bn p b, c, dd.pure pp⟩
    | inn ds => obtain ⟨p, vs, a, b, c, dd⟩ := r; exact ⟨p, vs, a, bn p b, c, dd.pure pp⟩
    | bor i => exact r.elim
    | dic kvs => obtain ⟨p, vs, a, b, c, dd⟩ := r; exact ⟨p, vs, a, bn p b, c, dd.pure pp⟩
  inj := f.inj
  ext0 := f.ext0
  fresh := f.fresh
  keep := f.keep
  bnew := fun b h => by
    cases q : B' b with
    | none => exact absurd q h
    | some o => exact f.bnew b (by rw [bb b o q]; simp)
def SimS0 (K : PySem.W.Frag) (W : WX) (t : TS) (w : SW) : Prop := ∀ (H0 : Hp) (L : Nat → Addr → Prop) (B : Hp) (σ : L2.St) (ρ : En) (H : Hp) (E : Ends) (Ew : EndsW), FR K H0 H00 L B σ ρ H → w Ew ρ →
  (∀ B' σ' ρ' H', FR K H0 H00 L B' σ' ρ' H' → Ew.nx ρ' → E.nx σ' H') →
  (∀ v r B' σ' ρ' H', FR K H0 H00 L B' σ' ρ' H' → RtR K H0 B' H' v r → Ew.rt r ρ' → E.rt v H') →
  (∀ B' σ' ρ' H', FR K H0 H00 L B' σ' ρ' H' → Ew.bk ρ' → E.bk σ' H') →
  (∀ B' σ' ρ' H', FR K H0 H00 L B' σ' ρ' H' → Ew.ct ρ' → E.ct σ' H') →
  (∀ c B' σ' ρ' H', FR K H0 H00 L B' σ' ρ' H' → Ew.ex c ρ' → W c none σ' H') → t E σ H
structure DS0 (X : Cx) (W : WX) (st : Stmt) (w : SW) : Prop where
  ok : ∃ t, PS X st t ∧ SimS0 X.K W t w
structure DSs0 (X : Cx) (W : WX) (st : List Stmt) (w : SW) : Prop where
  ok : ∃ t, PSs X st t ∧ SimS0 X.K W t w
theorem SimS.s0 {K : PySem.W.Frag} {W : WX} {t : TS} {w : SW} (h : SimS K W t w) : SimS0 K W t w := fun H0 L B σ ρ H E Ew f hw n r b c x =>
  h H0 H00 L B σ ρ H E Ew f hw (fun B' σ' ρ' H' f' _ q => n B' σ' ρ' H' f' q) r (fun B' σ' ρ' H' f' _ q => b B' σ' ρ' H' f' q) (fun B' σ' ρ' H' f' _ q => c B' σ' ρ' H' f' q) (fun e B' σ' ρ' H' f' _ q => x e B' σ' ρ' H' f' q)
section
variable {X : Cx} {W : WX} {st : Stmt} {rest : List Stmt} {w z : SW}
theorem DS.s0 (h : DS X W st w) : DS0 X W st w := by
  obtain ⟨t, p, s⟩ := h.ok
  exact ⟨t, p, s.s0⟩
theorem dss0_cons (h1 : DS0 X W st w) (h2 : DSs0 X W rest z) : DSs0 X W (st :: rest) (wSeq w z) := by
  obtain ⟨t, pt, s1⟩ := h1.ok
  obtain ⟨u, pu, s2⟩ := h2.ok
  refine ⟨_, pss_cons pt pu, ?_⟩
  intro H0 L B σ ρ H E Ew f h n r b c x
  exact s1 H0 L B σ ρ H _ _ f h (fun B1 σ1 ρ1 H1 f1 h1 => s2 H0 L B1 σ1 ρ1 H1 E Ew f1 h1 n r b c x) r b c x
theorem dss0_one (h1 : DS0 X W st w) : DSs0 X W [st] w := by
  obtain ⟨t, pt, s1⟩ := h1.ok
  exact ⟨_, pss_one pt, s1⟩
end
/-! ### for x in xs: body, the items of xs lists that the body may change -/
def wForM (i j : Nat) (wb : SW) : SW := fun E ρ => ∃ dss : List (List Int), (ρ[i]? = some (some (.own (dss.map fun ns => .ml (ns.map .int)))) ∧ i ≠ j ∧ dss.Nodup) ∧ ∀ (p : Addr) (as : List Addr), as.length = dss.length →
  ∃ Wd : Nat → En → Prop, Wd 0 (ρ.set i (some (.dat (.adr p)))) ∧ (∀ ρ2, Wd dss.length ρ2 → pureEn ρ2 ∧ ρ2[i]? = some (some (.dat (.adr p))) ∧ E.nx (ρ2.set i (some (.own (as.map .adr))))) ∧
  ∀ k ns ρ2, dss[k]? = some ns → Wd k ρ2 → pureEn ρ2 ∧ notInn ρ2 j ∧ wb { E with nx := Wd (k + 1), ct := Wd (k + 1), bk := fun _ => False } (ρ2.set j (some (.own (ns.map .int))))
section
variable {K : PySem.W.Frag} {W : WX}
end
section
variable {X : Cx} {W : WX} {body : List Stmt} {wb : SW} {pos : Pos}
/-! a def's body -/
theorem fn_D0 {P : Program} {w : World} {K : PySem.W.Frag} {mg : Str → Option Value} {base : Heap} {x qual : Str} {st : Stmt} {f : Addr} {fd : FuncData} {N ps : List Str} {k : Nat} {g : FD} {wb : SW} (F : FunD K x qual (defArgs st) (defBody st) (defScope st) [] [] f fd) (S : FnScope N ps (defScope st))
    (hbody : ∀ (cdv : Value) (A : Around) (outer : List Env) (s : Shared) (H : Hp) (E : XK), Room k (A.deeper (PyProof.Rows.envOfC qual (defScope st) s.heap.objs.size f cdv)) →
      DSs0 (cxOf (L2N.CX P w) P w K mg base N qual (defScope st) f cdv A outer s H E) (fun c d _ H => E c d H) (defBody st) wb)
    (hw : ∀ ds Qw Xw, ds.length = ps.length → g ds Qw Xw → D.nolists ds = true ∧ wb { nx := fun _ => Qw (.dat .non), rt := fun r _ => retOk true r ∧ Qw r, ex := fun c _ => Xw c } (startE N (ds.map .dat))) :
    FnOk P w K mg base (L2N.CX P w) (k + 1) f fd ps (spD K ps.length g) := by
  refine F.ok (CX := L2N.CX P w) S (fun vs H Q E h => ?_) (fun cdv A outer s H vs Q E hr h => ?_)
  · obtain ⟨B, ds, Qw, Xw, _, ia, hl, _⟩ := h
    exact ia.length.trans hl
  · obtain ⟨B, ds, Qw, Xw, sub, ia, hl, hg, hq, hx⟩ := h
    obtain ⟨t, pt, stt⟩ := (hbody cdv A outer s H E hr).ok
    refine ⟨t, pt, ?_⟩
    obtain ⟨hn, hw⟩ := hw ds Qw Xw hl hg
    have ia0 : IpAll K H00 H vs ds := ia.pure hn
    have hlen : vs.length = (ds.map Sl.dat).length := by rw [List.length_map]; exact ia.length
    have sr : SR K H00 (start N vs) (startE N (ds.map .dat)) H := by
      refine ⟨?_, same00, fun i sl h => ?_, fun i j p h1 _ _ _ => ?_⟩
      · simp [L2.start, startE, ia.length]
      · obtain ⟨h1, v, h2, h3⟩ := start_get hlen i sl h
        obtain ⟨v', h4, h5⟩ := ia0.map_get h1
        rw [h2] at h4; cases h4
        exact ⟨v, h3, h5⟩
      · exfalso
        obtain ⟨es, e, he⟩ := isOwn_start h1
        rw [List.getElem?_map] at e
        cases q : ds[i]? with
        | none => rw [q] at e; cases e
        | some d => rw [q] at e; cases e; cases he
    have noown : ∀ b, ¬ OwnAt (start N vs) (startE N (ds.map .dat)) b := fun b ⟨i, h1, _⟩ => by
      obtain ⟨es, e, he⟩ := isOwn_start h1
      rw [List.getElem?_map] at e
      cases q : ds[i]? with
      | none => rw [q] at e; cases e
      | some d => rw [q] at e; cases e; cases he
    have fr : FR K H H00 (fun _ _ => False) H00 (start N vs) (startE N (ds.map .dat)) H := ⟨sr, fun b o e _ => e, fun b z => absurd z (noown b), fun i b z => z.elim, fun b h => .inl h⟩
    refine stt H (fun _ _ => False) H00 _ _ H _ _ fr hw ?_ ?_ ?_ ?_ ?_
    · intro B' σ' ρ' H' f' q
      exact hq .non (.dat .non) H' (fun b o e => f'.ext0 b o e fun _ z => z) ⟨H00, same00, fun a h => absurd rfl h, .non⟩ q
    · intro v r B' σ' ρ' H' f' rr ⟨ok, q⟩
      refine hq v r H' (fun b o e => f'.ext0 b o e fun _ z => z) (res_of (nl := true) f'.sub (fun _ b hb => ?_) rr ok) q
      rcases f'.bnew b hb with z | z
      · exact absurd rfl z
      · exact z
    · intro B' σ' ρ' H' f' q; exact q.elim
    · intro B' σ' ρ' H' f' q; exact q.elim
    · intro c B' σ' ρ' H' f' q
      exact hx c H' (fun b o e => f'.ext0 b o e fun _ z => z) q
end
end DL

set_option Elab.async false
set_option linter.all false
set_option maxRecDepth 100000
set_option maxHeartbeats 4000000
set_option checkBinderAnnotations false
/-! DN9: tuple(reversed(range(n))); derivations for DN8's methods. -/
namespace DL
open PySem L2
open PySem.Spec PyProof.Rows
section
variable {prog : Program} {w : World} {A : Around} {E : Value → Shared → Prop} {s : Shared}
end
def rcV (lo c : Int) (n : Nat) : List V := (List.range n).map fun i => .int (lo + (i : Nat) * c)
section
variable {X : Cx}
end
/-- tuple(reversed(range(n))) -/
def wTupRR (we : EW) : EW := fun ρ Q X => we ρ (fun r ρ1 => match r with
  | .dat (.int j) => (0 ≤ j ∧ j ≤ 16777216) ∧ Q (.dat (.tup (rcD (j - 1) (-1) j.toNat))) ρ1
  | _ => False) X
section
variable {X : Cx} {W : WX} {o e : Expr} {es : List Expr} {we : EW} {wr : AW} {name : Str} {apos cpos : Pos} {id : String} {r : V → List V → Hp → VK → Prop} {m : GM}
end
/-! ### for simp -/
section
variable {ρ : En} {E : EndsW} {Q : Sl → En → Prop} {X : Value → En → Prop} {Qs : Sl → Prop} {ds : List D}
@[simp ↓] theorem e_ml {we : EW} : wMl we ρ Q X = we ρ (fun r ρ1 => match r with
  | .own ds => Q (.dat (.ml ds)) ρ1
  | _ => False) X := id rfl
@[simp ↓] theorem g_inMl {d : D} {es : List D} : gInM d (.ml es) Qs = ((d.shp = true ∧ (D.ml es).shp = true) ∧ Qs (.dat (.bl (es.any fun z => z.eqb d)))) := id rfl
@[simp ↓] theorem e_mtT {m : GM} {we : EW} {wa : AW} : wMtT m we wa ρ Q X = we ρ (fun r ρ1 => match r with
  | .own ds => wa ρ1 (fun rs ρ2 => match pureD rs with
    | some args => m ds args fun d _ => Q (.dat d) ρ2
    | none => False) X
  | _ => False) X := id rfl
@[simp ↓] theorem e_mtT0 {m : GM} {we : EW} : wMtT0 m we ρ Q X = we ρ (fun r ρ1 => match r with
  | .own ds => m ds [] fun d _ => Q (.dat d) ρ1
  | _ => False) X := id rfl
@[simp ↓] theorem e_tupRR {we : EW} : wTupRR we ρ Q X = we ρ (fun r ρ1 => match r with
  | .dat (.int j) => (0 ≤ j ∧ j ≤ 16777216) ∧ Q (.dat (.tup (rcD (j - 1) (-1) j.toNat))) ρ1
  | _ => False) X := id rfl
@[simp] theorem pureEn_nil : pureEn [] = True := id rfl
@[simp] theorem pureEn_none {r : En} : pureEn (none :: r) = pureEn r := id rfl
@[simp] theorem pureEn_some {sl : Sl} {r : En} : pureEn (some sl :: r) = (pureSl sl ∧ pureEn r) := id rfl
@[simp] theorem pureSl_dat {d : D} : pureSl (.dat d) = (d.nolist = true) := id rfl
@[simp] theorem pureSl_own {ds : List D} : pureSl (.own ds) = (D.nolists ds = true) := id rfl
end
end DL

set_option Elab.async false
set_option linter.all false
set_option maxRecDepth 100000
set_option maxHeartbeats 4000000
set_option checkBinderAnnotations false
/-! DN10: for x in e: x.clear(), e's items lists that may be changed; a law whose script is locked or written. -/
namespace DL
open PySem L2
open PySem.Spec PyProof.Rows
/-- slot i's items are lists of which nothing more is known than their places -/
def wForC (i j : Nat) (we : EW) : SW := fun E ρ => we ρ (fun r ρ1 => match r with
  | .own ds => ∃ hs es : List (List D), (ds = es.map .ml ∧ ρ1[i]? = some (some (.own (hs.map .ml))) ∧ i ≠ j ∧ notInn ρ1 j) ∧ ∀ as : List Addr, as.length = hs.length →
    pureEn (ρ1.set i (some (.own (as.map .adr)))) ∧ E.nx (ρ1.set i (some (.own (as.map .adr)))) ∧ ∀ a, E.nx ((ρ1.set i (some (.own (as.map .adr)))).set j (some (.dat (.adr a))))
  | _ => False) E.ex
section
variable {K : PySem.W.Frag} {W : WX}
end
section
variable {X : Cx} {W : WX} {e : Expr} {we : EW} {pos : Pos}
end
/-! ### a law whose script is locked or written -/
def spL (K : PySem.W.Frag) : Sp := fun vs H Q _ => ∃ (a : Addr) (ns : List Int), vs = [.ref a] ∧ Only H ∧ SqL K H a (ns.map V.int) ∧ ∀ H', Q (.bl true) H'
/-! ### for simp -/
section
variable {ρ : En} {E : EndsW} {Q : Sl → En → Prop} {X : Value → En → Prop}
@[simp ↓] theorem s_forC {i j : Nat} {we : EW} : wForC i j we E ρ = we ρ (fun r ρ1 => match r with
  | .own ds => ∃ hs es : List (List D), (ds = es.map .ml ∧ ρ1[i]? = some (some (.own (hs.map .ml))) ∧ i ≠ j ∧ notInn ρ1 j) ∧ ∀ as : List Addr, as.length = hs.length →
    pureEn (ρ1.set i (some (.own (as.map .adr)))) ∧ E.nx (ρ1.set i (some (.own (as.map .adr)))) ∧ ∀ a, E.nx ((ρ1.set i (some (.own (as.map .adr)))).set j (some (.dat (.adr a))))
  | _ => False) E.ex := id rfl
end
end DL

set_option Elab.async false
set_option linter.all false
set_option maxRecDepth 100000
set_option maxHeartbeats 4000000
set_option checkBinderAnnotations false
/-! DN11: a slot's own list locked, ahead of a statement. -/
namespace DL
open PySem L2
open PySem.Spec PyProof.Rows
def wLkL (i : Nat) (w : SW) : SW := fun E ρ => match ρ[i]? with
  | some (some (.own ds)) => w E (ρ.set i (some (.dat (.fl ds))))
  | _ => False
section
variable {K : PySem.W.Frag} {W : WX}
end
section
variable {ρ : En} {E : EndsW}
@[simp ↓] theorem s_lkL {i : Nat} {w : SW} : wLkL i w E ρ = (match ρ[i]? with
  | some (some (.own ds)) => w E (ρ.set i (some (.dat (.fl ds))))
  | _ => False) := id rfl
end
end DL

set_option Elab.async false
set_option linter.all false
set_option maxRecDepth 100000
set_option maxHeartbeats 4000000
set_option checkBinderAnnotations false
/-! DN12: t.count(i); a tuple's display, known to have no dict. -/
namespace DL
open PySem L2
open PySem.Spec PyProof.Rows
/-! ### a display -/
def tTupX (t : TA) : TE := fun σ H Q => t σ H fun xs H1 => xs.length ≤ sizeLine ∧ ∀ p o, H1 p = none → o.dict = none → Q (.ref p) (upd H1 p (.frz o (.tup xs)))
def wTupX (wa : AW) : EW := fun ρ Q X => wa ρ (fun rs ρ1 => withD rs fun ds => ds.length ≤ sizeLine ∧ Q (.dat (.tpx ds)) ρ1) X
section
variable {X : Cx} {W : WX} {es : List Expr} {wa : AW} {t : TA} {pos : Pos}
end
/-! ### t.count(i) -/
def wCnt (wo we : EW) : EW := fun ρ Q X => wo ρ (fun r ρ1 => match r with
  | .dat (.tpx ds) => we ρ1 (fun r2 ρ2 => match r2 with
    | .dat (.int k) => withOp (intsOf ds) fun ns => Q (.dat (.int (ns.count k : Nat))) ρ2
    | _ => False) X
  | _ => False) X
def tCnt (to te : TE) : TE := fun σ H Q => to σ H fun x H1 => ∃ a o xs, x = .ref a ∧ H1 a = some (.frz o (.tup xs)) ∧ o.dict = none ∧ te σ H1 fun y H2 => ∃ (k : Int) (ns : List Int) (o' : Obj), y = .int k ∧ H2 a = some (.frz o' (.tup (ns.map V.int))) ∧ Q (.int (ns.count k : Nat)) H2
def isK (k : Int) : Value → Bool
  | .int i _ => i == k
  | _ => false
section
variable {X : Cx} {W : WX} {o e : Expr} {wo we : EW} {apos cpos : Pos}
end
/-! ### for simp -/
section
variable {ρ : En} {E : EndsW} {Q : Sl → En → Prop} {X : Value → En → Prop}
@[simp ↓] theorem e_tupD {wa : AW} : wTupX wa ρ Q X = wa ρ (fun rs ρ1 => withD rs fun ds => ds.length ≤ sizeLine ∧ Q (.dat (.tpx ds)) ρ1) X := id rfl
@[simp ↓] theorem e_cnt {wo we : EW} : wCnt wo we ρ Q X = wo ρ (fun r ρ1 => match r with
  | .dat (.tpx ds) => we ρ1 (fun r2 ρ2 => match r2 with
    | .dat (.int k) => @WOp _ (intsOf ds) fun ns => Q (.dat (.int (ns.count k : Nat))) ρ2
    | _ => False) X
  | _ => False) X := id rfl
end
end DL

set_option Elab.async false
set_option linter.all false
set_option maxRecDepth 100000
set_option maxHeartbeats 4000000
set_option checkBinderAnnotations false
/-! DN13: t[::-1] of a tuple. -/
namespace DL
open PySem L2
open PySem.Spec PyProof.Rows
section
variable {prog : Program} {w : World} {A : Around} {E : Value → Shared → Prop} {s : Shared}
end
def tRevT (K : PySem.W.Frag) (te : TE) : TE := fun σ H Q => te σ H fun x H1 => ∃ a xs, x = .ref a ∧ SqT K H1 a xs ∧ ∀ p, H1 p = none → Q (.ref p) (upd H1 p (.tup xs.reverse))
def gRevT : G1
  | .tup ds, Q => Q (.dat (.tup ds.reverse))
  | _, _ => False
section
variable {X : Cx} {W : WX} {e : Expr} {we : EW} {te : TE} {k : Nat} {p1 p2 p3 pos : Pos}
end
@[simp ↓] theorem g_revT {ds : List D} {Qs : Sl → Prop} : gRevT (.tup ds) Qs = Qs (.dat (.tup ds.reverse)) := id rfl
/-! ### list(t) of a tuple known to have no dict -/
def gListX : GN
  | [.tpx ds], Q => Q (.own ds)
  | _, _ => False
@[simp ↓] theorem g_listX {ds : List D} {Qs : Sl → Prop} : gListX [.tpx ds] Qs = Qs (.own ds) := id rfl
end DL

set_option Elab.async false
set_option linter.all false
set_option maxRecDepth 100000
set_option maxHeartbeats 4000000
set_option checkBinderAnnotations false
/-! DN14: texts: str(i), slices, split, partition, join, index, signs one by one, a sign in a text, a text once or not at all, one text or another. -/
namespace DL
open PySem L2
open PySem.Spec PyProof.Rows
/-! ### str(i) -/
def gStr : GN
  | [.int i], Q => i.natAbs.log2 < 1920 ∧ Q (.dat (.str (toString i)))
  | _, _ => False
@[simp ↓] theorem g_str {Qs : Sl → Prop} {i : Int} : gStr [.int i] Qs = (i.natAbs.log2 < 1920 ∧ Qs (.dat (.str (toString i)))) := id rfl
/-! ### len of a text -/
def gLenS : GN
  | [.str z], Q => z.length ≤ sizeLine ∧ Q (.dat (.int z.length))
  | _, _ => False
@[simp ↓] theorem g_lenS {Qs : Sl → Prop} {z : Str} : gLenS [.str z] Qs = (z.length ≤ sizeLine ∧ Qs (.dat (.int z.length))) := id rfl
/-! ### slices -/
def gSlS (d : D) (lo hi : Option Int) (Q : Sl → Prop) : Prop := match d with
  | .str z => z.length ≤ sizeLine ∧ Q (.dat (.str (cutS z lo hi)))
  | _ => False
def wSlS (we : EW) (wl wh : OW) : EW := fun ρ Q X => we ρ (fun r ρ1 => wl ρ1 (fun lo ρ2 => wh ρ2 (fun hi ρ3 => withC ρ3 r fun d => gSlS d lo hi fun s => Q s ρ3) X) X) X
section
variable {K : PySem.W.Frag} {W : WX}
end
section
variable {X : Cx} {W : WX} {e : Expr} {we : EW} {lo hi : Option Expr} {wl wh : OW} {pos p2 : Pos}
end
/-! ### methods of a text with one argument -/
abbrev GT := Str → D → (Sl → Prop) → Prop
def wTm (g : GT) (wo we : EW) : EW := fun ρ Q X => wo ρ (fun r ρ1 => match r with
  | .dat (.str a) => we ρ1 (fun r2 ρ2 => withC ρ2 r2 fun e => g a e fun s => Q s ρ2) X
  | _ => False) X
def TmS (K : PySem.W.Frag) (r : V → List V → Hp → VK → Prop) (g : GT) : Prop := ∀ (B H : Hp) (a : Str) (y : V) (e : D) (Qw : Sl → Prop) (Q : VK), Same B H → RdB K B H y e → g a e Qw → PP K B H Qw Q → r (.str a) [y] H Q
section
variable {K : PySem.W.Frag} {W : WX}
def strsOf : List D → Option (List Str)
  | [] => some []
  | .str b :: ds => (strsOf ds).map (b :: ·)
  | _ => none
@[simp] theorem strsOf_map (n : List Str) : strsOf (n.map D.str) = some n := by
  induction n with
  | nil => rfl
  | cons a n ih => rw [List.map_cons, strsOf, ih]; rfl
def gSplit : GT := fun a e Q => match e with
  | .str b => (b.length == 0) = false ∧ a.length + 2 ≤ sizeLine ∧ Q (.own ((Txt.split a b).map D.str))
  | _ => False
def gPart : GT := fun a e Q => match e with
  | .str b => (b.length == 0) = false ∧ a.length ≤ sizeLine ∧ Q (.dat (.tup [.str (Txt.partition a b).1, .str (Txt.partition a b).2.1, .str (Txt.partition a b).2.2]))
  | _ => False
def gJoin : GT := fun a e Q => withOp (seqD e) fun ds => withOp (strsOf ds) fun ys => (ys.map (·.length)).sum + ys.length * a.length ≤ 16777216 ∧ Q (.dat (.str (Txt.join a ys)))
def gIdxS : GT := fun a e Q => match e with
  | .str b => ∃ i rest, Builtin.Str.occurrences a b 0 a.length 1 = i :: rest ∧ Q (.dat (.int (i : Nat)))
  | _ => False
end
section
variable {X : Cx} {W : WX} {o e : Expr} {wo we : EW} {apos pos : Pos}
end
/-! ### the signs of a text -/
def chs (x : Str) : List D := x.cps.toList.map fun c => D.str ⟨#[c]⟩
def wSrcS (we : EW) : IW := fun ρ Q X => we ρ (fun r ρ1 => match r with
  | .dat (.str x) => Q (chs x) ρ1
  | _ => False) X
section
variable {X : Cx} {W : WX} {tg e : Expr} {we : EW}
end
/-! ### a sign in a text -/
def gInS : G2
  | .str c, .str z, Q => ∃ k, c = ⟨#[k]⟩ ∧ Q (.dat (.bl (decide (k ∈ z.cps.toList))))
  | _, _, _ => False
/-! ### a text once or not at all -/
def gMulS : G2
  | .str z, .int n, Q => (n = 0 ∨ n = 1) ∧ Q (.dat (.str (if n = 1 then z else Str.empty)))
  | _, _, _ => False
def rMulS : R2 := fun x y H Q => ∃ (z : Str) (n : Int), x = .str z ∧ y = .int n ∧ (n = 0 ∨ n = 1) ∧ Q (.str (if n = 1 then z else Str.empty)) H
/-! ### one text or another -/
def wOrT (wa wb : EW) : EW := fun ρ Q X => wa ρ (fun a ρ1 => match a with
  | .dat (.str z) => z.length ≤ sizeLine ∧ (if z.length = 0 then wb ρ1 Q X else Q (.dat (.str z)) ρ1)
  | _ => False) X
section
variable {X : Cx} {W : WX} {a b : Expr} {rest : List Expr} {wa wb : EW} {pos : Pos}
end
section
variable {ρ : En} {Q : Sl → En → Prop} {QD : List D → En → Prop} {X : Value → En → Prop} {Qs : Sl → Prop} {we wo wa wb : EW} {wl wh : OW}
@[simp ↓] theorem e_slS : wSlS we wl wh ρ Q X = we ρ (fun r ρ1 => wl ρ1 (fun lo ρ2 => wh ρ2 (fun hi ρ3 => withC ρ3 r fun d => gSlS d lo hi fun s => Q s ρ3) X) X) X := id rfl
@[simp ↓] theorem g_slS {z : Str} {lo hi : Option Int} : gSlS (.str z) lo hi Qs = (z.length ≤ sizeLine ∧ Qs (.dat (.str (cutS z lo hi)))) := id rfl
@[simp ↓] theorem e_tm {g : GT} : wTm g wo we ρ Q X = wo ρ (fun r ρ1 => match r with
  | .dat (.str a) => we ρ1 (fun r2 ρ2 => withC ρ2 r2 fun e => g a e fun s => Q s ρ2) X
  | _ => False) X := id rfl
@[simp ↓] theorem g_split {a b : Str} : gSplit a (.str b) Qs = ((b.length == 0) = false ∧ a.length + 2 ≤ sizeLine ∧ Qs (.own ((Txt.split a b).map D.str))) := id rfl
@[simp ↓] theorem g_part {a b : Str} : gPart a (.str b) Qs = ((b.length == 0) = false ∧ a.length ≤ sizeLine ∧ Qs (.dat (.tup [.str (Txt.partition a b).1, .str (Txt.partition a b).2.1, .str (Txt.partition a b).2.2]))) := id rfl
@[simp ↓] theorem g_join {a : Str} {e : D} : gJoin a e Qs = @WOp _ (seqD e) fun ds => @WOp _ (strsOf ds) fun ys => (ys.map (·.length)).sum + ys.length * a.length ≤ 16777216 ∧ Qs (.dat (.str (Txt.join a ys))) := id rfl
@[simp ↓] theorem g_idxS {a b : Str} : gIdxS a (.str b) Qs = (∃ i rest, Builtin.Str.occurrences a b 0 a.length 1 = i :: rest ∧ Qs (.dat (.int (i : Nat)))) := id rfl
@[simp ↓] theorem i_srcS : wSrcS we ρ QD X = we ρ (fun r ρ1 => match r with
  | .dat (.str x) => QD (chs x) ρ1
  | _ => False) X := id rfl
@[simp ↓] theorem g_inS {c z : Str} : gInS (.str c) (.str z) Qs = (∃ k, c = ⟨#[k]⟩ ∧ Qs (.dat (.bl (decide (k ∈ z.cps.toList))))) := id rfl
@[simp ↓] theorem g_mulS {z : Str} {n : Int} : gMulS (.str z) (.int n) Qs = ((n = 0 ∨ n = 1) ∧ Qs (.dat (.str (if n = 1 then z else Str.empty)))) := id rfl
@[simp ↓] theorem e_orT : wOrT wa wb ρ Q X = wa ρ (fun a ρ1 => match a with
  | .dat (.str z) => z.length ≤ sizeLine ∧ (if z.length = 0 then wb ρ1 Q X else Q (.dat (.str z)) ρ1)
  | _ => False) X := id rfl
end
end DL

set_option Elab.async false
set_option linter.all false
set_option maxRecDepth 100000
set_option maxHeartbeats 4000000
set_option checkBinderAnnotations false
/-! DN15: lstrip of some signs, a sign that is not in a text. -/
namespace DL
open PySem L2
open PySem.Spec PyProof.Rows
def gLstC : GT := fun a e Q => match e with
  | .str b => a.length ≤ sizeLine ∧ Q (.dat (.str (Txt.lstripChars a b)))
  | _ => False
section
variable {X : Cx} {W : WX} {o e : Expr} {wo we : EW} {apos pos : Pos}
end
def gNiS : G2
  | .str c, .str z, Q => ∃ k, c = ⟨#[k]⟩ ∧ Q (.dat (.bl (!decide (k ∈ z.cps.toList))))
  | _, _, _ => False
section
variable {Qs : Sl → Prop}
@[simp ↓] theorem g_lstC {a b : Str} : gLstC a (.str b) Qs = (a.length ≤ sizeLine ∧ Qs (.dat (.str (Txt.lstripChars a b)))) := id rfl
@[simp ↓] theorem g_niS {c z : Str} : gNiS (.str c) (.str z) Qs = (∃ k, c = ⟨#[k]⟩ ∧ Qs (.dat (.bl (!decide (k ∈ z.cps.toList))))) := id rfl
end
end DL

set_option Elab.async false
set_option linter.all false
set_option maxRecDepth 100000
set_option maxHeartbeats 4000000
set_option checkBinderAnnotations false
/-! DN16: a list of lists that are changed in place, each at a place of its own: statements over slot n. -/
namespace DL
open PySem L2
open PySem.Spec PyProof.Rows
def nestD (dss : List (List D)) : List D := dss.map .ml
def wk1 : D → D
  | .ml ds => .lst ds
  | d => d
/-- such a list, read: its lists as data -/
def wWk (we : EW) : EW := fun ρ Q X => we ρ (fun r ρ1 => match r with
  | .dat (.ml ds) => Q (.dat (.lst (ds.map wk1))) ρ1
  | r => Q r ρ1) X
section
variable {K : PySem.W.Frag} {B B' H H' : Hp}
theorem Ip.wk1 {v : V} {d : D} (h : Ip K B H v d) : Ip K B H v (wk1 d) := by
  cases d with
  | ml ds => cases h with | ml a b => exact .lst (.inl (.inl a)) b
  | _ => exact h
theorem IpAll.wk1 : ∀ {ds : List D} {vs : List V}, IpAll K B H vs ds → IpAll K B H vs (ds.map DL.wk1)
  | [], _, .nil => .nil
  | d :: ds, _, .cons a b => .cons a.wk1 (IpAll.wk1 b)
end
/-- at p stands a list of lists at places of their own -/
def Nst (K : PySem.W.Frag) (H : Hp) (p : Addr) (as : List Addr) (dss : List (List D)) : Prop :=
  H p = some (.lst (as.map V.ref)) ∧ as.length = dss.length ∧ (p :: as).Nodup ∧ ∀ (k : Nat) (a : Addr) (ds : List D), as[k]? = some a → dss[k]? = some ds → ∃ ys, H a = some (.lst ys) ∧ IpAll K H00 H ys ds
def NI (n : Nat) (p : Addr) (σ : L2.St) (B : Hp) : Prop := σ[n]? = some (some (.ref p)) ∧ ∃ as, B p = some (.lst (as.map V.ref)) ∧ (p :: as).Nodup ∧ ∀ a ∈ as, ∃ ys, B a = some (.lst ys)
theorem NI.mono {n : Nat} {p : Addr} {σ : L2.St} {B B' : Hp} (h : NI n p σ B) (bb : Same B B') : NI n p σ B' := by
  obtain ⟨a, as, b, c, d⟩ := h
  exact ⟨a, as, bb _ _ b, c, fun x hx => (d x hx).imp fun ys e => bb _ _ e⟩
/-- the heap at a def's entry, put right behind a change -/
def FrN (B0 H0 H0' : Hp) : Prop := (∀ b, B0 b = none → H0' b = H0 b) ∧ ∀ b, H0' b = none → H0 b = none
theorem FrN.refl (B0 H0 : Hp) : FrN B0 H0 H0 := ⟨fun _ _ => rfl, fun _ h => h⟩
theorem FrN.trans {B0 H0 H1 H2 : Hp} (a : FrN B0 H0 H1) (b : FrN B0 H1 H2) : FrN B0 H0 H2 := ⟨fun x h => (b.1 x h).trans (a.1 x h), fun x h => a.2 x (b.2 x h)⟩
theorem FrN.eq {H0 H0' : Hp} (a : FrN H00 H0 H0') : H0' = H0 := funext fun b => a.1 b rfl
structure NR (n : Nat) (p : Addr) (K : PySem.W.Frag) (H0 B0 : Hp) (L : Nat → Addr → Prop) (B : Hp) (σ : L2.St) (ρ : En) (H : Hp) : Prop where
  fr : FR K H0 B0 L B σ ρ H
  ni : NI n p σ B
  b0 : ∀ b, B0 b ≠ none → H0 b ≠ none
section
variable {K : PySem.W.Frag} {H0 B0 B B' H H' : Hp} {L : Nat → Addr → Prop} {σ : L2.St} {ρ ρ' : En} {n : Nat} {p : Addr}
theorem NR.step (r : NR n p K H0 B0 L B σ ρ H) (s' : SR K B' σ ρ' H') (t : Tr σ B ρ H B' ρ' H') : NR n p K H0 B0 L B' σ ρ' H' := ⟨r.fr.step s' t, r.ni.mono t.bex, r.b0⟩
theorem NR.set (r : NR n p K H0 B0 L B σ ρ H) {m : Nat} {v : V} {sl : Sl} (hmn : m ≠ n) (hm : notInn ρ m) (hv : SlR K B H v sl) (no : ∀ q, isOwn (some (some sl)) = true → v = .ref q → ¬ OwnAt σ ρ q ∧ H0 q = none) : NR n p K H0 B0 L B (σ.set m (some v)) (ρ.set m (some sl)) H :=
  ⟨r.fr.set hm hv no, ⟨by rw [List.getElem?_set_ne hmn]; exact r.ni.1, r.ni.2⟩, r.b0⟩
theorem setsS_ne : ∀ {is : List Nat} {vs : List V} {σ : L2.St}, n ∉ is → (setsS σ is vs)[n]? = σ[n]?
  | [], vs, σ, _ => by cases vs <;> rfl
  | i :: is, [], σ, _ => rfl
  | i :: is, v :: vs, σ, h => by
    simp at h
    show (setsS (σ.set i (some v)) is vs)[n]? = _
    rw [setsS_ne h.2, List.getElem?_set_ne (Ne.symm h.1)]
theorem NR.sets (r : NR n p K H0 B0 L B σ ρ H) {is : List Nat} {vs : List V} {ds : List D} (hn : n ∉ is) (hi : notInns ρ is) (ia : IpAll K B H vs ds) : NR n p K H0 B0 L B (setsS σ is vs) (setsE ρ is ds) H :=
  ⟨r.fr.sets hi ia, ⟨by rw [setsS_ne hn]; exact r.ni.1, r.ni.2⟩, r.b0⟩
end
def SimN (n : Nat) (K : PySem.W.Frag) (W : WX) (t : TS) (w : SW) : Prop := ∀ (p : Addr) (H0 B0 : Hp) (L : Nat → Addr → Prop) (B : Hp) (σ : L2.St) (ρ : En) (H : Hp) (E : Ends) (Ew : EndsW), NR n p K H0 B0 L B σ ρ H → w Ew ρ →
  (∀ H0' B' σ' ρ' H', NR n p K H0' B0 L B' σ' ρ' H' → FrN B0 H0 H0' → Tups H H' → Ew.nx ρ' → E.nx σ' H') →
  (∀ d H0' B' σ' ρ' H', NR n p K H0' B0 L B' σ' ρ' H' → FrN B0 H0 H0' → ρ'[n]? = some (some (.dat d)) → Ew.rt (.dat d) ρ' → E.rt (.ref p) H') →
  (∀ c H0' B' σ' ρ' H', NR n p K H0' B0 L B' σ' ρ' H' → FrN B0 H0 H0' → Ew.ex c ρ' → W c none σ' H') → t E σ H
structure DN (n : Nat) (X : Cx) (W : WX) (st : Stmt) (w : SW) : Prop where
  ok : ∃ t, PS X st t ∧ SimN n X.K W t w
structure DNs (n : Nat) (X : Cx) (W : WX) (st : List Stmt) (w : SW) : Prop where
  ok : ∃ t, PSs X st t ∧ SimN n X.K W t w
/-- what is walked, whatever becomes of lists -/
def SimIr (K : PySem.W.Frag) (W : WX) (wi : TI) (w : IW) : Prop := ∀ (B : Hp) (σ : L2.St) (ρ : En) (H : Hp) (Qw : List D → En → Prop) (Xw : Value → En → Prop) (R : It → Hp → Prop), SR K B σ ρ H → w ρ Qw Xw → XWof K W σ B ρ H Xw →
  (∀ J ds B' ρ' H', SR K B' σ ρ' H' → Tr σ B ρ H B' ρ' H' → Wk K J ds (fun _ H => Tups H' H) → Qw ds ρ' → R J H') → wi σ H R
structure DIr (X : Cx) (W : WX) (tg iter : Expr) (w : IW) : Prop where
  ok : ∃ wi, PI X tg iter wi ∧ SimIr X.K W wi w
/-- a def that changes the lists in its first argument's list; nothing is handed back -/
abbrev FN := List (List D) → List D → (List (List D) → Prop) → Prop
def spN (K : PySem.W.Frag) (n : Nat) (f : FN) : Sp := fun vs H Q _ => ∃ (p : Addr) (as : List Addr) (vs' : List V) (dss : List (List D)) (ds : List D) (Qw : List (List D) → Prop), vs = .ref p :: vs' ∧ Nst K H p as dss ∧ IpAll K H00 H vs' ds ∧ ds.length + 1 = n ∧ f dss ds Qw ∧
  ∀ dss' as' H', (∀ b o, H b = some o → b ≠ p → b ∉ as → H' b = some o) → Nst K H' p as' dss' → (∀ a ∈ as', a ∈ as ∨ H a = none) → (∀ b, H b ≠ none → H' b ≠ none) → Qw dss' → Q .non H'
/-- a def that changes the list in its first argument and hands back a new list of new lists -/
abbrev FIN := List D → List D → (List (List D) → List D → Prop) → Prop
def spIN (K : PySem.W.Frag) (n : Nat) (f : FIN) : Sp := fun vs H Q _ => ∃ (p : Addr) (ws vs' : List V) (dl ds : List D) (Qw : List (List D) → List D → Prop), vs = .ref p :: vs' ∧ H p = some (.lst ws) ∧ IpAll K H00 H ws dl ∧ IpAll K H00 H vs' ds ∧ ds.length + 1 = n ∧ f dl ds Qw ∧
  ∀ q as dss dl' ws' H', (∀ b o, H b = some o → b ≠ p → H' b = some o) → H' p = some (.lst ws') → IpAll K H00 H' ws' dl' → H q = none → (∀ a ∈ as, H a = none) → Nst K H' q as dss → Qw dss dl' → Q (.ref q) H'
def pureN (dss : List (List D)) : Prop := ∀ ds ∈ dss, D.nolists ds = true
/-- xs[i][k] = v -/
def wSetNN (n : Nat) (wi wj we : EW) : SW := fun E ρ => we ρ (fun r ρ1 => wi ρ1 (fun ri ρ2 => match ri with
  | .dat (.int a) => ∃ dss i ds, (ρ2[n]? = some (some (.dat (.ml (nestD dss)))) ∧ ixN dss.length a = some i ∧ dss[i]? = some ds) ∧ wj ρ2 (fun rj ρ3 => match r, rj with
    | .dat d, .dat (.int b) => ∃ j, (d.nolist = true ∧ ρ3[n]? = some (some (.dat (.ml (nestD dss)))) ∧ pureN dss ∧ pureEn (ρ3.set n none) ∧ ixN ds.length b = some j) ∧ E.nx (ρ3.set n (some (.dat (.ml (nestD (dss.set i (ds.set j d)))))))
    | _, _ => False) E.ex
  | _ => False) E.ex) E.ex
/-- f(xs, ..) -/
def wNCall (n : Nat) (f : FN) (wa : AW) : SW := fun E ρ => wa ρ (fun rs ρ1 => withP rs fun ds => ∃ dss, (ρ1[n]? = some (some (.dat (.ml (nestD dss)))) ∧ pureN dss ∧ pureEn (ρ1.set n none) ∧ D.nolists ds = true) ∧ f dss ds fun dss' => E.nx (ρ1.set n (some (.dat (.ml (nestD dss')))))) E.ex
/-- xs.append(e), e a new list -/
def wNApp (n : Nat) (wa : AW) : SW := fun E ρ => wa ρ (fun rs ρ1 => match rs with
  | [.own ds] => ∃ dss, (ρ1[n]? = some (some (.dat (.ml (nestD dss)))) ∧ pureN dss ∧ pureEn (ρ1.set n none) ∧ D.nolists ds = true ∧ dss.length < sizeLine) ∧ E.nx (ρ1.set n (some (.dat (.ml (nestD (dss ++ [ds]))))))
  | _ => False) E.ex
/-- return xs -/
def wNRet (n : Nat) : SW := fun E ρ => ∃ d, ρ[n]? = some (some (.dat d)) ∧ E.rt (.dat d) ρ
section
variable {K : PySem.W.Frag} {W : WX} {n : Nat}
end
section
variable {X : Cx} {W : WX} {st : Stmt} {rest a b body : List Stmt} {w z wb : SW} {we wi wj : EW} {wc : TWs} {e c o : Expr} {es : List Expr} {tg iter : Expr} {wr : AW} {is : List Nat} {sp : D → Option (List D)} {wit : IW} {pos : Pos} {n : Nat}
end
section
variable {X : Cx} {W : WX} {e tg : Expr} {es : List Expr} {wr : AW} {name : Str} {apos cpos pos spos : Pos} {n : Nat}
/-- over a tuple without lists -/
def wSrcT (we : EW) : IW := fun ρ Q X => we ρ (fun r ρ1 => match r with
  | .dat (.tup ds) => D.nolists ds = true ∧ Q ds ρ1
  | _ => False) X
end
/-! ### from a def's state to such a one -/
def SimE0 (n : Nat) (K : PySem.W.Frag) (W : WX) (t : TS) (w : SW) : Prop := ∀ (H0 B0 : Hp) (L : Nat → Addr → Prop) (B : Hp) (σ : L2.St) (ρ : En) (H : Hp) (E : Ends) (Ew : EndsW), FR K H0 B0 L B σ ρ H → (∀ b, B0 b ≠ none → H0 b ≠ none) → w Ew ρ →
  (∀ p B' σ' ρ' H', NR n p K H0 B0 L B' σ' ρ' H' → Ew.nx ρ' → E.nx σ' H') →
  (∀ c B' σ' ρ' H', FR K H0 B0 L B' σ' ρ' H' → Ew.ex c ρ' → W c none σ' H') → t E σ H
structure DNe (n : Nat) (X : Cx) (W : WX) (st : Stmt) (w : SW) : Prop where
  ok : ∃ t, PS X st t ∧ SimE0 n X.K W t w
/-- xs = [] -/
def wNNew (n : Nat) : SW := fun E ρ => notInn ρ n ∧ E.nx (ρ.set n (some (.dat (.ml (nestD [])))))
/-- xs = f(ys, ..), f telling such a list -/
def wNMake (n : Nat) (f : FIN) (wa : AW) : SW := fun E ρ => wa ρ (fun rs ρ1 => match rs with
  | .bor i :: rs' => withO ρ1 i fun dl => withP rs' fun ds => (D.nolists dl = true ∧ D.nolists ds = true ∧ notInn ρ1 n) ∧ f dl ds fun dss dl' => E.nx ((setOwn ρ1 i dl').set n (some (.dat (.ml (nestD dss)))))
  | _ => False) E.ex
section
variable {K : PySem.W.Frag} {W : WX} {n : Nat}
end
/-- a def's body that ends with return xs -/
def SimF (n : Nat) (K : PySem.W.Frag) (W : WX) (t : TS) (w : SW) : Prop := ∀ (H0 B0 : Hp) (L : Nat → Addr → Prop) (B : Hp) (σ : L2.St) (ρ : En) (H : Hp) (E : Ends) (Ew : EndsW), FR K H0 B0 L B σ ρ H → (∀ b, B0 b ≠ none → H0 b ≠ none) → w Ew ρ → (∀ ρ', ¬ Ew.nx ρ') →
  (∀ p d H0' B' σ' ρ' H', NR n p K H0' B0 L B' σ' ρ' H' → FrN B0 H0 H0' → ρ'[n]? = some (some (.dat d)) → Ew.rt (.dat d) ρ' → E.rt (.ref p) H') →
  (∀ c ρ', ¬ Ew.ex c ρ') → t E σ H
structure DFs (n : Nat) (X : Cx) (W : WX) (st : List Stmt) (w : SW) : Prop where
  ok : ∃ t, PSs X st t ∧ SimF n X.K W t w
section
variable {X : Cx} {W : WX} {st : Stmt} {rest : List Stmt} {w z : SW} {we : EW} {wr : AW} {e : Expr} {es : List Expr} {pos : Pos} {n : Nat}
end
/-! ### a law's body: such statements between others -/
def SimX (n : Nat) (K : PySem.W.Frag) (W : WX) (t : TS) (w : SW) : Prop := ∀ (p : Addr) (H0 : Hp) (L : Nat → Addr → Prop) (B : Hp) (σ : L2.St) (ρ : En) (H : Hp) (E : Ends) (Ew : EndsW), NR n p K H0 H00 L B σ ρ H → w Ew ρ →
  (∀ B' σ' ρ' H', FR K H0 H00 L B' σ' ρ' H' → Ew.nx ρ' → E.nx σ' H') →
  (∀ v r B' σ' ρ' H', FR K H0 H00 L B' σ' ρ' H' → RtR K H0 B' H' v r → Ew.rt r ρ' → E.rt v H') →
  (∀ B' σ' ρ' H', FR K H0 H00 L B' σ' ρ' H' → Ew.bk ρ' → E.bk σ' H') →
  (∀ B' σ' ρ' H', FR K H0 H00 L B' σ' ρ' H' → Ew.ct ρ' → E.ct σ' H') →
  (∀ c B' σ' ρ' H', FR K H0 H00 L B' σ' ρ' H' → Ew.ex c ρ' → W c none σ' H') → t E σ H
structure DXs (n : Nat) (X : Cx) (W : WX) (st : List Stmt) (w : SW) : Prop where
  ok : ∃ t, PSs X st t ∧ SimX n X.K W t w
/-- from here on the lists change no more -/
def wExit (n : Nat) (z : SW) : SW := fun E ρ => ∃ dss, ρ[n]? = some (some (.dat (.ml (nestD dss)))) ∧ z E (ρ.set n (some (.dat (.lst (dss.map .lst)))))
section
variable {X : Cx} {W : WX} {st : Stmt} {rest : List Stmt} {w z : SW} {n : Nat}
end
/-! ### defs' bodies -/
end DL

set_option Elab.async false
set_option linter.all false
set_option maxRecDepth 100000
set_option maxHeartbeats 4000000
set_option checkBinderAnnotations false
/-! DN17: {k: v, ..}[e] with keys told in the text; x is True. -/
namespace DL
open PySem PySem.Spec PyProof.Rows L2
/-- the pairs of a display, its keys whole numbers told in the text -/
def wPairs : List (Int × EW) → En → (List (Int × D) → En → Prop) → (Value → En → Prop) → Prop
  | [], ρ, Q, _ => Q [] ρ
  | (k, we) :: r, ρ, Q, X => we ρ (fun rr ρ1 => match rr with
    | .dat d => wPairs r ρ1 (fun l ρ2 => Q ((k, d) :: l) ρ2) X
    | _ => False) X
def selI (l : List (Int × D)) (k : Int) : Option D := (l.find? fun e => decide (e.1 = k)).map (·.2)
def wSel (ws : List (Int × EW)) (we : EW) : EW := fun ρ Q X => wPairs ws ρ (fun l ρ1 => we ρ1 (fun r ρ2 => match r with
  | .dat (.int k) => withOp (selI l k) fun d => Q (.dat d) ρ2
  | _ => False) X) X
def SimPs (K : PySem.W.Frag) (W : WX) (trs : List (TE × TE)) (ws : List (Int × EW)) : Prop := ∀ (B : Hp) (σ : L2.St) (ρ : En) (H : Hp) (Qw : List (Int × D) → En → Prop) (Xw : Value → En → Prop) (R : List (V × V) → Hp → Prop), SR K B σ ρ H → wPairs ws ρ Qw Xw → XWof K W σ B ρ H Xw →
  (∀ l vs B' ρ' H', SR K B' σ ρ' H' → Tr σ B ρ H B' ρ' H' → IpAll K B' H' vs (l.map (·.2)) → l.map (·.1) = ws.map (·.1) → Qw l ρ' → R ((l.zip vs).map fun e => (V.int e.1.1, e.2)) H') → tPairs trs σ H R
structure DPs (X : Cx) (W : WX) (pos : Pos) (keys : List (Option Expr)) (values : List Expr) (ws : List (Int × EW)) : Prop where
  ok : ∃ trs, PPs X pos keys values trs ∧ SimPs X.K W trs ws
section
variable {K : PySem.W.Frag} {W : WX}
end
section
variable {X : Cx} {W : WX} {pos pos2 : Pos} {k v e : Expr} {ks : List (Option Expr)} {vs : List Expr} {ws : List (Int × EW)} {wv we : EW} {n : Int}
end
/-! ### x is True -/
def gIsB : G2
  | .bl a, .bl b, Q => Q (.dat (.bl (decide (a = b))))
  | _, _, _ => False
section
variable {ρ : En} {Q : Sl → En → Prop} {QP : List (Int × D) → En → Prop} {X : Value → En → Prop} {Qs : Sl → Prop}
@[simp ↓] theorem e_sel {ws : List (Int × EW)} {we : EW} : wSel ws we ρ Q X = wPairs ws ρ (fun l ρ1 => we ρ1 (fun r ρ2 => match r with
  | .dat (.int k) => @WOp _ (selI l k) fun d => Q (.dat d) ρ2
  | _ => False) X) X := id rfl
@[simp ↓] theorem wPairs_nil : wPairs [] ρ QP X = QP [] ρ := id rfl
@[simp ↓] theorem wPairs_cons {k : Int} {we : EW} {r : List (Int × EW)} : wPairs ((k, we) :: r) ρ QP X = we ρ (fun rr ρ1 => match rr with
    | .dat d => wPairs r ρ1 (fun l ρ2 => QP ((k, d) :: l) ρ2) X
    | _ => False) X := id rfl
@[simp ↓] theorem g_isB {a b : Bool} : gIsB (.bl a) (.bl b) Qs = Qs (.dat (.bl (decide (a = b)))) := id rfl
end
end DL

set_option Elab.async false
set_option linter.all false
set_option maxRecDepth 100000
set_option maxHeartbeats 4000000
set_option checkBinderAnnotations false
/-! DN18: simp lemmas for lists of lists that are changed in place. -/
namespace DL
open PySem L2
def PostN [Q : List (List D) → Prop] : List (List D) → Prop := Q
def PostIN [Q : List (List D) → List D → Prop] : List (List D) → List D → Prop := Q
@[simp ↓] theorem postN_app {Q : List (List D) → Prop} {r : List (List D)} : @PostN Q r = Q r := id rfl
@[simp ↓] theorem postIN_app {Q : List (List D) → List D → Prop} {r : List (List D)} {l : List D} : @PostIN Q r l = Q r l := id rfl
section
variable {ρ : En} {E : EndsW} {Q : Sl → En → Prop} {QI : List D → En → Prop} {X : Value → En → Prop}
@[simp ↓] theorem e_wk {we : EW} : wWk we ρ Q X = we ρ (fun r ρ1 => match r with
  | .dat (.ml ds) => Q (.dat (.lst (ds.map wk1))) ρ1
  | r => Q r ρ1) X := id rfl
@[simp ↓] theorem s_setNN {n : Nat} {wi wj we : EW} : wSetNN n wi wj we E ρ = we ρ (fun r ρ1 => wi ρ1 (fun ri ρ2 => match ri with
  | .dat (.int a) => ∃ dss i ds, (ρ2[n]? = some (some (.dat (.ml (nestD dss)))) ∧ ixN dss.length a = some i ∧ dss[i]? = some ds) ∧ wj ρ2 (fun rj ρ3 => match r, rj with
    | .dat d, .dat (.int b) => ∃ j, (d.nolist = true ∧ ρ3[n]? = some (some (.dat (.ml (nestD dss)))) ∧ pureN dss ∧ pureEn (ρ3.set n none) ∧ ixN ds.length b = some j) ∧ E.nx (ρ3.set n (some (.dat (.ml (nestD (dss.set i (ds.set j d)))))))
    | _, _ => False) E.ex
  | _ => False) E.ex) E.ex := id rfl
@[simp ↓] theorem s_nCall {n : Nat} {f : FN} {wa : AW} : wNCall n f wa E ρ = wa ρ (fun rs ρ1 => withP rs fun ds => ∃ dss, (ρ1[n]? = some (some (.dat (.ml (nestD dss)))) ∧ pureN dss ∧ pureEn (ρ1.set n none) ∧ D.nolists ds = true) ∧ f dss ds (@PostN fun dss' => E.nx (ρ1.set n (some (.dat (.ml (nestD dss'))))))) E.ex := id rfl
@[simp ↓] theorem s_nApp {n : Nat} {wa : AW} : wNApp n wa E ρ = wa ρ (fun rs ρ1 => match rs with
  | [.own ds] => ∃ dss, (ρ1[n]? = some (some (.dat (.ml (nestD dss)))) ∧ pureN dss ∧ pureEn (ρ1.set n none) ∧ D.nolists ds = true ∧ dss.length < sizeLine) ∧ E.nx (ρ1.set n (some (.dat (.ml (nestD (dss ++ [ds]))))))
  | _ => False) E.ex := id rfl
@[simp ↓] theorem s_nRet {n : Nat} : wNRet n E ρ = (∃ d, ρ[n]? = some (some (.dat d)) ∧ E.rt (.dat d) ρ) := id rfl
@[simp ↓] theorem i_srcT {we : EW} : wSrcT we ρ QI X = we ρ (fun r ρ1 => match r with
  | .dat (.tup ds) => D.nolists ds = true ∧ QI ds ρ1
  | _ => False) X := id rfl
@[simp ↓] theorem s_nNew {n : Nat} : wNNew n E ρ = (notInn ρ n ∧ E.nx (ρ.set n (some (.dat (.ml (nestD [])))))) := id rfl
@[simp ↓] theorem s_nMake {n : Nat} {f : FIN} {wa : AW} : wNMake n f wa E ρ = wa ρ (fun rs ρ1 => match rs with
  | .bor i :: rs' => withO ρ1 i fun dl => withP rs' fun ds => (D.nolists dl = true ∧ D.nolists ds = true ∧ notInn ρ1 n) ∧ f dl ds (@PostIN fun dss dl' => E.nx ((setOwn ρ1 i dl').set n (some (.dat (.ml (nestD dss))))))
  | _ => False) E.ex := id rfl
@[simp ↓] theorem s_exit {n : Nat} {z : SW} : wExit n z E ρ = (∃ dss, ρ[n]? = some (some (.dat (.ml (nestD dss)))) ∧ z E (ρ.set n (some (.dat (.lst (dss.map .lst)))))) := id rfl
end
end DL

set_option Elab.async false
set_option linter.all false
set_option maxRecDepth 100000
set_option maxHeartbeats 4000000
set_option checkBinderAnnotations false
/-! DN19: xs = [.., L], then xs[i][j] = v in that last list, behind which it is locked. -/
namespace DL
open PySem L2
open PySem.Spec PyProof.Rows
def wDispSet (n : Nat) (wa : AW) (i j : Int) (we : EW) : SW := fun E ρ => wa ρ (fun rs ρ1 => ∃ (ds0 ds : List D) (l : Nat), (rs = ds0.map .dat ++ [.own ds] ∧ notInn ρ1 n ∧ ds0.length + 1 ≤ sizeLine ∧ ixN (ds0.length + 1) i = some ds0.length ∧ ixN ds.length j = some l) ∧ ∀ p, we (ρ1.set n (some (.dat (.adr p)))) (fun r ρ2 => match r with
  | .dat d => notInn ρ2 n ∧ E.nx (ρ2.set n (some (.own (ds0 ++ [.fl (ds.set l d)]))))
  | _ => False) E.ex) E.ex
section
variable {K : PySem.W.Frag} {W : WX} {B H H0 : Hp} {σ : L2.St} {ρ : En}
end
section
variable {X : Cx} {W : WX} {es : List Expr} {wa : AW} {we : EW} {e : Expr} {rest : List Stmt} {z : SW} {pos pos' lp xp : Pos} {x : Str}
end
section
variable {ρ : En} {E : EndsW}
@[simp ↓] theorem s_dispSet {n : Nat} {wa : AW} {i j : Int} {we : EW} : wDispSet n wa i j we E ρ = wa ρ (fun rs ρ1 => ∃ (ds0 ds : List D) (l : Nat), (rs = ds0.map .dat ++ [.own ds] ∧ notInn ρ1 n ∧ ds0.length + 1 ≤ sizeLine ∧ ixN (ds0.length + 1) i = some ds0.length ∧ ixN ds.length j = some l) ∧ ∀ p, we (ρ1.set n (some (.dat (.adr p)))) (fun r ρ2 => match r with
  | .dat d => notInn ρ2 n ∧ E.nx (ρ2.set n (some (.own (ds0 ++ [.fl (ds.set l d)]))))
  | _ => False) E.ex) E.ex := id rfl
end
end DL

set_option Elab.async false
set_option linter.all false
set_option maxRecDepth 100000
set_option maxHeartbeats 4000000
/-! DN20: a module's list of tuples; list.pop, len(set(..)). -/
namespace DL
open PySem PySem.Spec PyProof.Rows L2
/-- a list of the module's -/
def lstB (K : PySem.W.Frag) (a : Addr) (vs : List V) : Bool := match K.lookup a with
  | some ⟨.type c, none, .seq its _, _⟩ => decide (c = "list") && (decide (its.size ≤ sizeLine) && He.relAll vs its.toList)
  | _ => false
/-- where an item of a module's list stands -/
def itA (K : PySem.W.Frag) (a : Addr) (i : Nat) : Addr := match K.lookup a with
  | some ⟨_, _, .seq its _, _⟩ => match its[i]? with
    | some (.ref b) => b
    | _ => 0
  | _ => 0
section
variable {X : Cx}
def rSetI2 (K : PySem.W.Frag) (w : World) : List V → Hp → VK → Prop := fun xs H Q => ∃ (l : Addr) (ns : List Int), xs = [.ref l] ∧ SqL K H l (ns.map V.int) ∧ ns.length < 1000 ∧ ∀ a c, H a = none → (∃ ks : List Int, ks.Nodup ∧ ks.length = c ∧ ∀ k, k ∈ ks ↔ k ∈ ns) → Q (.ref a) (upd H a (SetO w a (fun j => decide (j ∈ ns)) c))
/-- len of a set of ints -/
def rLenSet (w : World) : List V → Hp → VK → Prop := fun vs H Q => ∃ (a : Addr) (S : Int → Bool) (n : Nat), vs = [V.ref a] ∧ H a = some (SetO w a S n) ∧ Q (.int (n : Nat)) H
end
/-- how many unlike ones -/
def unl (ns : List Int) (c : Nat) : Prop := ∃ ks : List Int, ks.Nodup ∧ ks.length = c ∧ ∀ k, k ∈ ks ↔ k ∈ ns
def gLS : GN
  | [.lst ds], Q => withOp (intsOf ds) fun ns => ns.length < 1000 ∧ ∀ c : Nat, unl ns c → Q (.dat (.int (c : Nat)))
  | [.fl ds], Q => withOp (intsOf ds) fun ns => ns.length < 1000 ∧ ∀ c : Nat, unl ns c → Q (.dat (.int (c : Nat)))
  | _, _ => False
section
variable {X : Cx} {W : WX} {e : Expr} {we : EW} {p p2 q pos : Pos}
end
/-! ### powers of any size -/
def PowOk (i j : Int) : Prop := 0 ≤ j ∧ (Builtin.Int.intBits i : Int) * j ≤ 2 ^ 27
def gPowB : G2
  | .int i, .int j, Q => PowOk i j ∧ Q (.dat (.int (i ^ j.toNat)))
  | _, _, _ => False
@[simp ↓] theorem g_powB {i j : Int} {Q : Sl → Prop} : gPowB (.int i) (.int j) Q = (PowOk i j ∧ Q (.dat (.int (i ^ j.toNat)))) := id rfl
end DL

set_option Elab.async false
set_option linter.all false
set_option maxRecDepth 100000
set_option maxHeartbeats 4000000
/-! DN21: a, b, .. = a list that was handed in. -/
namespace DL
open PySem L2 PySem.Spec PyProof.Rows
def wSetM (is : List Nat) (we : EW) : SW := fun E ρ => we ρ (fun r ρ1 => match r with
  | .dat (.lst ds) => (ds.length = is.length ∧ notInns ρ1 is) ∧ E.nx (setsE ρ1 is ds)
  | .dat (.fl ds) => (ds.length = is.length ∧ notInns ρ1 is) ∧ E.nx (setsE ρ1 is ds)
  | _ => False) E.ex
section
variable {X : Cx} {W : WX} {es : List Expr} {is : List Nat} {e : Expr} {we : EW} {pos : Pos}
end
section
variable {ρ : En} {E : EndsW}
@[simp ↓] theorem s_setM {is : List Nat} {we : EW} : wSetM is we E ρ = we ρ (fun r ρ1 => match r with
  | .dat (.lst ds) => (ds.length = is.length ∧ notInns ρ1 is) ∧ E.nx (setsE ρ1 is ds)
  | .dat (.fl ds) => (ds.length = is.length ∧ notInns ρ1 is) ∧ E.nx (setsE ρ1 is ds)
  | _ => False) E.ex := id rfl
end
end DL

set_option Elab.async false
set_option linter.all false
set_option maxRecDepth 100000
set_option maxHeartbeats 4000000
/-! DN22: x[j], x[k] = a, b, x a list of one's own. -/
namespace DL
open PySem L2 PySem.Spec PyProof.Rows
def wSwp (i : Nat) (we wj wk : EW) : SW := fun E ρ => we ρ (fun r ρ1 => match r with
  | .dat (.tup [d, e]) => isOwn ρ1[i]? = true ∧ wj ρ1 (fun rj ρ2 => match rj with
    | .dat (.int k) => withO ρ2 i fun ds => match ixN ds.length k with
      | some j => wk (setOwn ρ2 i (ds.set j d)) (fun rk ρ3 => match rk with
        | .dat (.int k2) => withO ρ3 i fun ds2 => match ixN ds2.length k2 with
          | some j2 => E.nx (setOwn ρ3 i (ds2.set j2 e))
          | none => False
        | _ => False) E.ex
      | none => False
    | _ => False) E.ex
  | _ => False) E.ex
section
variable {K : PySem.W.Frag} {W : WX}
end
section
variable {X : Cx} {W : WX} {we wj wk : EW} {e o ej ek : Expr} {pos : Pos}
end
section
variable {ρ : En} {E : EndsW}
@[simp ↓] theorem s_swp {i : Nat} {we wj wk : EW} : wSwp i we wj wk E ρ = we ρ (fun r ρ1 => match r with
  | .dat (.tup [d, e]) => isOwn ρ1[i]? = true ∧ wj ρ1 (fun rj ρ2 => match rj with
    | .dat (.int k) => withO ρ2 i fun ds => match ixN ds.length k with
      | some j => wk (setOwn ρ2 i (ds.set j d)) (fun rk ρ3 => match rk with
        | .dat (.int k2) => withO ρ3 i fun ds2 => match ixN ds2.length k2 with
          | some j2 => E.nx (setOwn ρ3 i (ds2.set j2 e))
          | none => False
        | _ => False) E.ex
      | none => False
    | _ => False) E.ex
  | _ => False) E.ex := id rfl
end
/-! ### x[j], y = a pair -/
def wSubN (i l : Nat) (we wj : EW) : SW := fun E ρ => we ρ (fun r ρ1 => match r with
  | .dat (.tup [d, e]) => isOwn ρ1[i]? = true ∧ wj ρ1 (fun rj ρ2 => match rj with
    | .dat (.int k) => withO ρ2 i fun ds => match ixN ds.length k with
      | some j => notInn (setOwn ρ2 i (ds.set j d)) l ∧ E.nx ((setOwn ρ2 i (ds.set j d)).set l (some (.dat e)))
      | none => False
    | _ => False) E.ex
  | _ => False) E.ex
section
variable {K : PySem.W.Frag} {W : WX}
end
section
variable {X : Cx} {W : WX} {we wj wk : EW} {e o ej ek : Expr} {pos : Pos}
end
section
variable {ρ : En} {E : EndsW}
@[simp ↓] theorem s_subN {i l : Nat} {we wj : EW} : wSubN i l we wj E ρ = we ρ (fun r ρ1 => match r with
  | .dat (.tup [d, e]) => isOwn ρ1[i]? = true ∧ wj ρ1 (fun rj ρ2 => match rj with
    | .dat (.int k) => withO ρ2 i fun ds => match ixN ds.length k with
      | some j => notInn (setOwn ρ2 i (ds.set j d)) l ∧ E.nx ((setOwn ρ2 i (ds.set j d)).set l (some (.dat e)))
      | none => False
    | _ => False) E.ex
  | _ => False) E.ex := id rfl
end
/-! ### a slot's list locked ahead of a statement, where it is not yet -/
def wLkM (i : Nat) (w : SW) : SW := fun E ρ => match ρ[i]? with
  | some (some (.own ds)) => w E (ρ.set i (some (.dat (.fl ds))))
  | some (some (.dat d)) => w E ρ
  | _ => False
section
variable {ρ : En} {E : EndsW}
@[simp ↓] theorem s_lkM {i : Nat} {w : SW} : wLkM i w E ρ = (match ρ[i]? with
  | some (some (.own ds)) => w E (ρ.set i (some (.dat (.fl ds))))
  | some (some (.dat d)) => w E ρ
  | _ => False) := id rfl
end
end DL

set_option Elab.async false
set_option linter.all false
set_option maxRecDepth 100000
set_option maxHeartbeats 4000000
/-! DN23: a slot's list, lent for one expression that makes a new list and may change other slots. -/
namespace DL
open PySem L2 PySem.Spec PyProof.Rows
/-- behind it the other slots hold no lists -/
def lendN (ρ : En) (i : Nat) : Prop := ∀ (j : Nat) (sl : Sl), ρ[j]? = some (some sl) → j ≠ i → match sl with
  | .dat d => d.nolist = true
  | .own ds => D.nolists ds = true
  | .inn ds => D.nolists ds = true
  | _ => False
def BorO (i : Nat) (we : EW) (ρ : En) (Q : Sl → En → Prop) : Prop := ∃ ds, ρ[i]? = some (some (.own ds)) ∧ lendOk ρ i ∧ we (ρ.set i (some (.dat (.lst ds)))) (fun r ρ1 => match r with
  | .own es => D.nolists es = true ∧ lendN ρ1 i ∧ Q (.own es) (ρ1.set i (some (.own ds)))
  | _ => False) (fun _ _ => False)
def wBorO (i : Nat) (we : EW) : EW := fun ρ Q _ => BorO i we ρ Q
section
variable {K : PySem.W.Frag} {W : WX}
end
section
variable {ρ : En} {Q : Sl → En → Prop} {X : Value → En → Prop}
@[simp ↓] theorem e_borO {i : Nat} {we : EW} : wBorO i we ρ Q X = BorO i we ρ Q := id rfl
end
section
variable {X : Cx} {W : WX} {elt tg iter : Expr} {ifs : List Expr} {scope : Scope} {own : List (Str × Nat)} {pos : Pos} {w : IW} {is : List Nat} {sp : D → Option (List D)} {wt : TWs} {we : EW}
end
end DL

set_option Elab.async false
set_option linter.all false
set_option maxRecDepth 100000
set_option maxHeartbeats 4000000
set_option checkBinderAnnotations false
/-! DN24: nested tuples of whole numbers as elements of a set: the small questions; the search. -/
namespace DL
open PySem L2 PySem.Spec PyProof.Rows
mutual
/-- whole numbers, and tuples of such -/
def numK : NestedKey → Bool
  | .num _ => true
  | .tup ks => numKs ks
  | .none => false
  | .text _ => false
def numKs : List NestedKey → Bool
  | [] => true
  | k :: ks => numK k && numKs ks
end
section
variable {P : Program} {w : World}
/-- a question that is answered so, and leaves all -/
def Ans (P : Program) (w : World) (b : Bool) (s : Shared) (m : Sem Bool) : Prop := ∀ (A : Around) (E : Value → Shared → Prop) (Q : Bool → Shared → Prop), Q b s → wpAny (model P w) A m Q E s
theorem Ans.pure {b : Bool} {s : Shared} {m : Sem Bool} (h : m = Pure.pure b) : Ans P w b s m := fun A E Q q => by
  rw [h]; exact wpAny_pure q
theorem cls_tup {n : Nat} {s : Shared} {a : Addr} {o : Obj} {vs : Array Value} {m : Nat} (ho : s.heap.get? a = some o) (hc : o.cls = .type "tuple") (hd : o.data = .seq vs m) (hq : ∀ v ∈ vs.toList, Ans P w false s (ofAClassStatement n v)) : Ans P w false s (ofAClassStatement (n + 1) (.ref a)) := fun A E Q q => by
  have ht : s.TypeIs (.ref a) "tuple" := ⟨o, ho, hc⟩
  unfold ofAClassStatement
  refine wpAny_bind (wpAny_typeOf ht ?_)
  dsimp only
  have yes : (("tuple" : String) == "tuple") = true := by decide
  simp only [yes, if_true, Bool.not_true, Bool.false_eq_true, if_false]
  try refine wpAny_bind (wpAny_pure ?_)
  try simp only [Bool.not_true, Bool.false_eq_true, if_false]
  show wpAny _ _ (seqItems? (.ref a) >>= _) _ _ s
  refine wpAny_bind (wpAny_seqItems ho hd ?_)
  dsimp only
  refine wpAny_bind ?_
  show wpAny _ _ (forIn vs _ _) _ _ s
  rw [← Array.forIn_toList]
  refine wpAny_forIn_list _ (fun left acc s1 => acc.1 = none ∧ s1 = s ∧ ∀ v ∈ left, Ans P w false s (ofAClassStatement n v)) _ (fun v left acc s1 hh => ?_) (fun acc s1 hh => ?_) _ _ ⟨rfl, rfl, hq⟩
  · obtain ⟨_, rfl, al⟩ := hh
    refine wpAny_bind (al v List.mem_cons_self _ _ _ ?_)
    simp only [Bool.false_eq_true, if_false]
    exact wpAny_pure ⟨rfl, rfl, fun u hu => al u (List.mem_cons_of_mem _ hu)⟩
  · obtain ⟨a1, a2⟩ := acc
    obtain ⟨e, rfl, _⟩ := hh
    dsimp only at e
    subst e
    exact wpAny_pure q
theorem hbv_tup {n : Nat} {s : Shared} {a : Addr} {o : Obj} {vs : Array Value} {m : Nat} (ho : s.heap.get? a = some o) (hc : o.cls = .type "tuple") (hd : o.data = .seq vs m) (hq : ∀ v ∈ vs.toList, Ans P w true s (hashByValue n v)) : Ans P w true s (hashByValue (n + 1) (.ref a)) := fun A E Q q => by
  have ht : s.TypeIs (.ref a) "tuple" := ⟨o, ho, hc⟩
  unfold hashByValue
  refine wpAny_bind (wpAny_specialOf ht F.slot_tuple_hash.lookup ?_)
  show wpAny _ _ (seqItems? (.ref a) >>= _) _ _ s
  refine wpAny_bind (wpAny_seqItems ho hd ?_)
  refine wpAny_bind ?_
  show wpAny _ _ (forIn vs _ _) _ _ s
  rw [← Array.forIn_toList]
  refine wpAny_forIn_list _ (fun left acc s1 => acc.1 = none ∧ s1 = s ∧ ∀ v ∈ left, Ans P w true s (hashByValue n v)) _ (fun v left acc s1 hh => ?_) (fun acc s1 hh => ?_) _ _ ⟨rfl, rfl, hq⟩
  · obtain ⟨_, rfl, al⟩ := hh
    refine wpAny_bind (al v List.mem_cons_self _ _ _ ?_)
    simp only [Bool.not_true, Bool.false_eq_true, if_false]
    exact wpAny_pure ⟨rfl, rfl, fun u hu => al u (List.mem_cons_of_mem _ hu)⟩
  · obtain ⟨a1, a2⟩ := acc
    obtain ⟨e, rfl, _⟩ := hh
    dsimp only at e
    subst e
    exact wpAny_pure q
mutual
theorem cls_key : ∀ (k : NestedKey) (v : Value) (n : Nat) (s : Shared), NestedIs s.heap k v → k.depth ≤ n → Ans P w false s (ofAClassStatement n v)
  | .none, _, n, s, x, _ => by cases x; exact .pure (by cases n <;> rfl)
  | .num i, _, n, s, x, _ => by cases x <;> exact .pure (by cases n <;> rfl)
  | .text y, _, n, s, x, _ => by cases x; exact .pure (by cases n <;> rfl)
  | .tup ks, _, n, s, x, hn => by
    cases x with
    | tup hg hc hd hk =>
      simp only [NestedKey.depth] at hn
      match n, hn with
      | 0, hn => omega
      | n + 1, hn => exact cls_tup hg hc hd (cls_keys ks _ n s hk (by omega))
theorem cls_keys : ∀ (ks : List NestedKey) (vs : List Value) (n : Nat) (s : Shared), NestedAll s.heap ks vs → NestedKey.depthAll ks ≤ n → ∀ v ∈ vs, Ans P w false s (ofAClassStatement n v)
  | [], _, n, s, x, _, v, hv => by cases x; cases hv
  | k :: ks, _, n, s, x, hn, v, hv => by
    cases x with
    | cons x1 x2 =>
      simp only [NestedKey.depthAll] at hn
      rcases List.mem_cons.mp hv with rfl | hv
      · exact cls_key k _ n s x1 (by omega)
      · exact cls_keys ks _ n s x2 (by omega) v hv
end
mutual
theorem hbv_key : ∀ (k : NestedKey) (v : Value) (n : Nat) (s : Shared), NestedIs s.heap k v → k.depth ≤ n → numK k = true → Ans P w true s (hashByValue n v)
  | .none, _, n, s, x, _, e => by simp [numK] at e
  | .num i, _, n, s, x, _, _ => by cases x <;> exact .pure (by cases n <;> rfl)
  | .text y, _, n, s, x, _, e => by simp [numK] at e
  | .tup ks, _, n, s, x, hn, e => by
    cases x with
    | tup hg hc hd hk =>
      simp only [NestedKey.depth] at hn
      rw [numK] at e
      match n, hn with
      | 0, hn => omega
      | n + 1, hn => exact hbv_tup hg hc hd (hbv_keys ks _ n s hk (by omega) e)
theorem hbv_keys : ∀ (ks : List NestedKey) (vs : List Value) (n : Nat) (s : Shared), NestedAll s.heap ks vs → NestedKey.depthAll ks ≤ n → numKs ks = true → ∀ v ∈ vs, Ans P w true s (hashByValue n v)
  | [], _, n, s, x, _, _, v, hv => by cases x; cases hv
  | k :: ks, _, n, s, x, hn, e, v, hv => by
    cases x with
    | cons x1 x2 =>
      simp only [NestedKey.depthAll] at hn
      rw [numKs, Bool.and_eq_true] at e
      rcases List.mem_cons.mp hv with rfl | hv
      · exact hbv_key k _ n s x1 (by omega) e.1
      · exact hbv_keys ks _ n s x2 (by omega) e.2 v hv
end
/-- the key at an address: a tuple of numbers, not too deep -/
structure KeyAt (h : Heap) (k : NestedKey) (a : Addr) : Prop where
  is : NestedIs h k (.ref a)
  dep : k.depth ≤ 8
  num : numK k = true
theorem KeyAt.knd {h : Heap} {k : NestedKey} {a : Addr} (x : KeyAt h k a) : (nestedKind P w).is h k a := ⟨x.is, x.dep⟩
theorem KeyAt.keep {h h' : Heap} {k : NestedKey} {a : Addr} (x : KeyAt h k a) (hk : ∀ b o, h.get? b = some o → h'.get? b = some o) : KeyAt h' k a := ⟨NestedIs.at (fun b o _ _ e _ => hk b o e) _ _ x.is, x.dep, x.num⟩
/-- a key stays while a set changes -/
theorem KeyAt.off {h h' : Heap} {k : NestedKey} {a c : Addr} {o : Obj} {es : Array (Int × Value)} {ep : Nat} {t : SetTable} (x : KeyAt h k a) (ho : h.get? c = some o) (hd : o.data = .set es ep t) (hs : Heap.SameBut c h h') : KeyAt h' k a :=
  ⟨NestedIs.at (fun b ob vs n hb hq => by
    refine (hs.2 b fun e => ?_).trans hb
    subst e
    rw [ho] at hb
    cases hb
    rw [hd] at hq
    cases hq) _ _ x.is, x.dep, x.num⟩
/-- a search among keys shows nothing -/
theorem seenK {A : Around} {E : Value → Shared → Prop} {s : Shared} {k : NestedKey} {b : Addr} {Q : Bool → Shared → Prop} (hk : KeyAt s.heap k b) {ys : List Value} (hy : ∀ y ∈ ys, ∃ k' c, y = Value.ref c ∧ KeyAt s.heap k' c) (q : Q false s) :
    wpAny (model P w) A (searchCouldBeSeen (.ref b) ys) Q E s := by
  unfold searchCouldBeSeen
  refine wpAny_bind ?_
  refine wpAny_forIn_list _ (fun left acc s1 => acc.1 = none ∧ s1 = s ∧ ∀ y ∈ left, ∃ k' c, y = Value.ref c ∧ KeyAt s.heap k' c) _ (fun v left acc s1 hh => ?_) (fun acc s1 hh => ?_) _ _ ⟨rfl, rfl, hy⟩
  · obtain ⟨_, rfl, al⟩ := hh
    obtain ⟨k', c, rfl, hc⟩ := al v List.mem_cons_self
    have next : ∀ y ∈ left, ∃ k' c, y = Value.ref c ∧ KeyAt s1.heap k' c := fun y hy => al y (List.mem_cons_of_mem _ hy)
    dsimp only
    by_cases same : (b == c || (carriedByValue (.ref b) && carriedByValue (.ref c))) = true
    · refine wp_if_pos same ?_
      exact wpAny_pure ⟨rfl, rfl, next⟩
    · refine wp_if_neg same ?_
      refine wpAny_bind ((nestedKind P w).quiet hk.knd ?_)
      simp only [Bool.not_true, Bool.false_eq_true, if_false]
      refine wpAny_bind ((nestedKind P w).quiet hc.knd ?_)
      simp only [Bool.not_true, Bool.false_eq_true, if_false]
      refine wpAny_bind (cls_key _ _ 8 s1 hk.is hk.dep _ _ _ ?_)
      simp only [Bool.false_eq_true, if_false]
      refine wpAny_bind (cls_key _ _ 8 s1 hc.is hc.dep _ _ _ ?_)
      simp only [Bool.false_eq_true, if_false]
      exact wpAny_pure ⟨rfl, rfl, next⟩
  · obtain ⟨a1, a2⟩ := acc
    obtain ⟨e, rfl, _⟩ := hh
    dsimp only at e
    subst e
    exact wpAny_pure q
end
end DL

set_option Elab.async false
set_option linter.all false
set_option maxRecDepth 100000
set_option maxHeartbeats 4000000
set_option checkBinderAnnotations false
/-! DN25: a set of nested tuples that is made of unlike ones: the search ends at a free place; adding. -/
namespace DL
open PySem L2 PySem.Spec PyProof.Rows
abbrev kh (P : Program) (w : World) (k : NestedKey) : Int := (nestedKind P w).hash k
abbrev AK := Addr × NestedKey
def rwK (P : Program) (w : World) (L : List AK) : List (Int × Value) := L.map fun p => (kh P w p.2, Value.ref p.1)
/-- at a stands a set of these keys, laid so -/
structure SetK (P : Program) (w : World) (h : Heap) (a : Addr) (L : List AK) (es : Array (Int × Value)) (ep : Nat) (t : SetTable) : Prop where
  obj : ∃ o, h.get? a = some o ∧ o.ExactSet ∧ o.data = .set es ep t
  row : es.toList = rwK P w L
  tab : TabOk t (L.map fun p => kh P w p.2)
  key : ∀ p ∈ L, KeyAt h p.2 p.1
  pla : t.plain = true
  led : w.params.followText "set-order" = true ∨ t.led = true
  big : L.length * 5 < t.mask * 3
  few : L.length < 64
section
variable {P : Program} {w : World} {A : Around} {E : Value → Shared → Prop} {s : Shared} {a : Addr} {L : List AK} {es : Array (Int × Value)} {ep : Nat} {t : SetTable}
theorem rw_len {l : List AK} {e : Array (Int × Value)} (h : e.toList = rwK P w l) : e.size = l.length := by
  rw [← Array.length_toList, h]; simp [rwK]
theorem rw_at {l : List AK} {e : Array (Int × Value)} (h : e.toList = rwK P w l) {i : Nat} {p : AK} (hp : l[i]? = some p) : e[i]? = some (kh P w p.2, Value.ref p.1) := by
  rw [← Array.getElem?_toList, h]
  simp [rwK, hp]
theorem fits_of {t : SetTable} {n : Nat} (h1 : t.place.size = n) (h2 : t.dummies = #[]) (h3 : n ≤ t.mask) : t.fits n = true := by
  unfold SetTable.fits SetTable.fill
  rw [h2, Bool.and_eq_true, beq_iff_eq, decide_eq_true_eq]
  show t.place.size = n ∧ t.place.size + 0 ≤ t.mask
  omega
theorem SetK.psz (R : SetK P w s.heap a L es ep t) : t.place.size = L.length := by
  have := R.tab.sz
  rwa [List.length_map] at this
theorem SetK.fit (R : SetK P w s.heap a L es ep t) : t.fits es.size = true := by
  have h1 := R.psz
  have h2 := rw_len R.row
  have h3 := R.big
  exact fits_of (by omega) R.tab.dm (by omega)
theorem SetK.stands (R : SetK P w s.heap a L es ep t) : ¬ t.gaveWay = true := by
  unfold SetTable.gaveWay
  rw [mask_odd R.tab.mok]
  decide
/-- the k-th place on the way of a hash -/
abbrev wst (t : SetTable) (h : Int) (c : Nat) : SetTable.Probe := nth t.mask (runAt t.mask (SetTable.bits h % (t.mask + 1)) (SetTable.bits h)) c
theorem wst_dummy (t : SetTable) (h : Int) : ∀ c, (wst t h c).dummy = none := by
  have key : ∀ (n : Nat) (p : SetTable.Probe), p.dummy = none → (nth t.mask p n).dummy = none := by
    intro n
    induction n with
    | zero => exact fun p e => e
    | succ n ih =>
      refine fun p e => ih (adv t.mask p) ?_
      unfold adv
      split <;> exact e
  exact fun c => key c _ rfl
theorem wst_add (t : SetTable) (h : Int) (c q : Nat) : nth t.mask (wst t h c) q = wst t h (c + q) := (nth_add t.mask c _ q).symm
/-- THE SEARCH of a key that isn't there -/
theorem find_free (R : SetK P w s.heap a L es ep t) {x : Addr} {k : NestedKey} (hx : KeyAt s.heap k x) (hu : A.units + 8 < cLine) (hnew : ∀ p ∈ L, p.2 ≠ k) {K : Nat} (hKf : K < 10 * SetTable.turns t.mask)
    (hK : way t.mask (kh P w k) K ∉ t.place.toList) (hKb : ∀ c, c < K → way t.mask (kh P w k) c ∈ t.place.toList) {Q : SetFound → Shared → Prop} (q : Q (.free (way t.mask (kh P w k) K) false) s) :
    ∀ (f c : Nat) (stand : Option SetTable.Probe), stand.getD (t.probeStart (kh P w k)) = wst t (kh P w k) c → c ≤ K → K - c < f → wpAny (model P w) A (setSearchFrom a (.ref x) (kh P w k) true f stand) Q E s
  | 0, c, stand, _, _, hf => absurd hf (Nat.not_lt_zero _)
  | f + 1, c, stand, hst, hc, hf => by
    obtain ⟨o, ho, hex, hd⟩ := R.obj
    rw [setSearchFrom_succ]
    refine wpAny_bind (wpAny_setState_of ho hd R.fit ?_)
    dsimp only
    refine wp_if_neg R.stands ?_
    try refine wpAny_bind (wpAny_pure ?_)
    have ej : ∀ r, (nth t.mask (wst t (kh P w k) c) r).j = way t.mask (kh P w k) (c + r) := fun r => congrArg SetTable.Probe.j (wst_add t (kh P w k) c r)
    have far : c + (K - c) = K := by omega
    have told := go_spec t R.tab.ris R.tab.dm (fun i => (es[i]?.map (·.1)).getD 0) (kh P w k) (10 * SetTable.turns t.mask) (K - c) _ (wst_dummy t (kh P w k) c) (by omega)
      (fun r hr => by rw [ej]; exact hKb (c + r) (by omega)) (by rw [ej, far]; exact hK)
    rcases told with ⟨r, i, hr, hi, hh, hno, hpr⟩ | ⟨hno, hpr⟩
    · -- some key of this hash: it is another one
      have met : t.probe (fun i => (es[i]?.map (·.1)).getD 0) (kh P w k) (stand.getD (t.probeStart (kh P w k))) = some (.candidate (way t.mask (kh P w k) (c + r)) i (wst t (kh P w k) (c + (r + 1)))) := by
        rw [hst, ← ej, ← wst_add]
        exact hpr
      rw [met]
      dsimp only
      rw [ej] at hi
      have hil : i < L.length := by
        have h1 := (List.getElem?_eq_some_iff.mp hi).1
        have h2 := R.psz
        rw [Array.length_toList] at h1
        omega
      have hp : L[i]? = some L[i] := List.getElem?_eq_getElem hil
      generalize L[i] = p at hp
      have hpm : p ∈ L := List.mem_of_getElem? hp
      have hne : p.2 ≠ k := hnew p hpm
      have after : wpAny (model P w) A (searchRest a (.ref x) (kh P w k) true f es t (way t.mask (kh P w k) (c + r)) i (wst t (kh P w k) (c + (r + 1)))) Q E s := by
        unfold searchRest
        rw [rw_at R.row hp]
        dsimp only
        refine wpAny_bind (wpAny_holding ((nestedKind P w).eqBool hu (R.key p hpm).knd hx.knd ?_))
        rw [decide_eq_false hne]
        refine wpAny_bind (wpAny_setState_of ho hd R.fit ?_)
        dsimp only
        refine wp_if_neg (by decide) ?_
        try refine wpAny_bind (wpAny_pure ?_)
        rw [sameMem]
        dsimp only
        have live : t.slot (way t.mask (kh P w k) (c + r)) = .live i := slot_live R.tab.ris hi
        simp only [if_true, live, rw_at R.row hp]
        refine wpAny_bind (wpAny_isSame_ref_self (wpAny_bind (wpAny_pure ?_)))
        simp only [if_true]
        refine wp_if_neg (by decide) ?_
        exact find_free R hx hu hnew hKf hK hKb q f (c + (r + 1)) _ rfl (by omega) (by omega)
      by_cases hl : t.led = true
      · refine wp_if_neg (by simp [hl]) ?_
        try refine wpAny_bind (wpAny_pure ?_)
        exact after
      · refine wp_if_pos (by simp [hl]) ?_
        refine wpAny_bind (seenK hx (fun y hy => ?_) ?_)
        · obtain ⟨e, he, rfl⟩ := List.mem_map.mp hy
          have he2 : e ∈ es.toList := by
            have : e ∈ es ∧ e.1 = kh P w k := by simpa using he
            simpa using this.1
          rw [R.row] at he2
          obtain ⟨p2, hp2, rfl⟩ := List.mem_map.mp he2
          exact ⟨p2.2, p2.1, rfl, R.key p2 hp2⟩
        · refine wp_if_neg (by decide) ?_
          try refine wpAny_bind (wpAny_pure ?_)
          exact after
    · have met : t.probe (fun i => (es[i]?.map (·.1)).getD 0) (kh P w k) (stand.getD (t.probeStart (kh P w k))) = some (.empty (way t.mask (kh P w k) K) none) := by
        have e2 : way t.mask (kh P w k) K = (nth t.mask (wst t (kh P w k) c) (K - c)).j := by rw [ej, far]
        rw [hst, e2]
        exact hpr
      rw [met]
      dsimp only
      exact wpAny_pure q
theorem find_new (R : SetK P w s.heap a L es ep t) {x : Addr} {k : NestedKey} (hx : KeyAt s.heap k x) (hu : A.units + 8 < cLine) (hnew : ∀ p ∈ L, p.2 ≠ k) {Q : SetFound → Shared → Prop}
    (q : ∀ K, way t.mask (kh P w k) K ∉ t.place.toList → (∀ c, c < K → way t.mask (kh P w k) c ∈ t.place.toList) → Q (.free (way t.mask (kh P w k) K) false) s) :
    wpAny (model P w) A (setSearch a (.ref x) (kh P w k) true) Q E s := by
  have hb := R.big
  obtain ⟨K, h1, h2, h3⟩ := R.tab.first (by rw [List.length_map]; omega) (kh P w k)
  have hfew : K < 100000 := by
    have : 10 * SetTable.turns t.mask ≤ 1420 := by
      unfold SetTable.turns
      rcases R.tab.mok with e | e | e <;> omega
    omega
  unfold setSearch
  exact find_free R hx hu hnew h1 h2 h3 (q K h2 h3) 100000 0 none rfl (Nat.zero_le _) (by omega)
/-- rows in another order -/
theorem rw_order {l : List AK} {e : Array (Int × Value)} {order : Array Nat} (h : e.toList = rwK P w l) (hp : order.toList.Perm (List.range l.length)) :
    ∃ l2, (order.filterMap (e[·]?)).toList = rwK P w l2 ∧ l2.Perm l ∧ (l2.map fun p => kh P w p.2) = order.toList.map fun i => (e.map (·.1)).getD i 0 := by
  refine ⟨order.toList.filterMap fun i => l[i]?, ?_, ?_, ?_⟩
  · have e1 : (order.filterMap (e[·]?)).toList = order.toList.filterMap fun i => e[i]? := by simp
    rw [e1]
    unfold rwK
    rw [List.map_filterMap]
    refine congrArg (fun f => List.filterMap f order.toList) (funext fun i => ?_)
    rw [← Array.getElem?_toList, h]
    simp [rwK]
  · have e2 : (List.range l.length).filterMap (fun i => l[i]?) = l := by
      have : ∀ n, n ≤ l.length → (List.range n).filterMap (fun i => l[i]?) = l.take n := fun n => by
        induction n with
        | zero => intro _; rfl
        | succ n ih =>
          intro hn
          rw [List.range_succ, List.filterMap_append, ih (by omega), List.take_succ, List.getElem?_eq_getElem (show n < l.length by omega)]
          simp [List.getElem?_eq_getElem (show n < l.length by omega)]
      rw [this _ (Nat.le_refl _), List.take_length]
    have := hp.filterMap fun i => l[i]?
    rw [e2] at this
    exact this
  · have lt : ∀ i ∈ order.toList, i < l.length := fun i hi => List.mem_range.mp (hp.mem_iff.mp hi)
    have hs := rw_len h
    generalize order.toList = ol at lt
    induction ol with
    | nil => rfl
    | cons i ol ih =>
      have hi := lt i List.mem_cons_self
      have e3 : (e.map (·.1)).getD i 0 = kh P w l[i].2 := by
        have := rw_at h (List.getElem?_eq_getElem hi)
        simp [Array.getD_eq_getD_getElem?, this]
      rw [List.filterMap_cons_some (List.getElem?_eq_getElem hi), List.map_cons, List.map_cons, e3, ih fun j hj => lt j (List.mem_cons_of_mem _ hj)]
end
end DL

set_option Elab.async false
set_option linter.all false
set_option maxRecDepth 100000
set_option maxHeartbeats 4000000
set_option checkBinderAnnotations false
/-! DN26: a key goes into the set; set(xs) of unlike keys. -/
namespace DL
open PySem L2 PySem.Spec PyProof.Rows
section
variable {P : Program} {w : World} {A : Around} {E : Value → Shared → Prop} {s : Shared} {a : Addr} {L : List AK} {es : Array (Int × Value)} {ep : Nat} {t : SetTable}
/-- what a set's table must be ahead of a new laying -/
structure Pre (P : Program) (w : World) (h : Heap) (a : Addr) (L : List AK) (es : Array (Int × Value)) (ep : Nat) (t : SetTable) : Prop where
  obj : ∃ o, h.get? a = some o ∧ o.ExactSet ∧ o.data = .set es ep t
  row : es.toList = rwK P w L
  tab : TabOk t (L.map fun p => kh P w p.2)
  key : ∀ p ∈ L, KeyAt h p.2 p.1
  pla : t.plain = true
  led : w.params.followText "set-order" = true ∨ t.led = true
  few : L.length < 64
  low : L.length ≤ t.mask
theorem Pre.set (R : Pre P w s.heap a L es ep t) (hb : L.length * 5 < t.mask * 3) : SetK P w s.heap a L es ep t := ⟨R.obj, R.row, R.tab, R.key, R.pla, R.led, hb, R.few⟩
theorem SetK.pre {h : Heap} (R : SetK P w h a L es ep t) : Pre P w h a L es ep t := ⟨R.obj, R.row, R.tab, R.key, R.pla, R.led, R.few, by have := R.big; omega⟩
theorem Pre.fit {h : Heap} (R : Pre P w h a L es ep t) : t.fits es.size = true := by
  have h1 := R.tab.sz
  rw [List.length_map] at h1
  have h2 := rw_len R.row
  have h3 := R.low
  exact fits_of (by omega) R.tab.dm (by omega)
/-- a larger table -/
theorem relayK (R : Pre P w s.heap a L es ep t) {n M : Nat} (e1 : SetTable.sizeAbove n - 1 = M) (e2 : MaskOk M) (e3 : SetTable.sizeAbove n ≤ 128) (e4 : L.length * 5 < M * 3) {Q : Unit → Shared → Prop}
    (q : ∀ h2 l2 es2 ep2 t2, Heap.SameBut a s.heap h2 → SetK P w h2 a l2 es2 ep2 t2 → l2.Perm L → Q () { s with heap := h2 }) : wpAny (model P w) A (setRelay a n) Q E s := by
  obtain ⟨o, ho, hex, hd⟩ := R.obj
  have el := rw_len R.row
  have em : (es.map (·.1)).size = L.length := by rw [Array.size_map]; exact el
  obtain ⟨t2, order, x1, x2, x3, x4, x5, x6, x7⟩ := relaid_ok t (hs := es.map (·.1)) e1 e2 (by rw [em]; omega)
  rw [em] at x2
  obtain ⟨l2, y1, y2, y3⟩ := rw_order R.row x2
  rw [← y3] at x3
  have ez := rw_len y1
  rw [y2.length_eq] at ez
  rw [setRelay_eq]
  refine wpAny_bind (wpAny_setState_of ho hd R.fit ?_)
  dsimp only
  refine wp_if_neg (by rw [sizeLine_eq]; omega) ?_
  try refine wpAny_bind (wpAny_pure ?_)
  rw [x1]
  dsimp only
  refine wpAny_bind ?_
  refine wp_if_neg (by rw [ez, el]; simp) ?_
  try refine wpAny_bind (wpAny_pure ?_)
  refine wpAny_pure ?_
  dsimp only
  have few := R.few
  refine wpAny_storeSet_of ho hd ?_ (by rw [ez, sizeLine_eq]; omega)
  have sb : Heap.SameBut a s.heap (s.heap.update a (Obj.putSet (order.filterMap (es[·]?)) t2)) := Heap.SameBut.update ..
  refine q _ l2 (order.filterMap (es[·]?)) (ep + 1) t2 sb ⟨⟨_, store_at ho hd, ⟨hex.1, hex.2.1, hex.2.2⟩, rfl⟩, y1, x3, fun p hp => (R.key p (y2.mem_iff.mp hp)).off ho hd sb, x6.trans R.pla, ?_, ?_, ?_⟩ y2
  · rw [x5]; exact R.led
  · rw [y2.length_eq, x4]; exact e4
  · rw [y2.length_eq]; exact few
theorem rw_put (l : List AK) (i : Nat) (p : AK) : rwK P w (l.take i ++ p :: l.drop i) = (rwK P w l).take i ++ (kh P w p.2, Value.ref p.1) :: (rwK P w l).drop i := by
  simp [rwK, List.map_take, List.map_drop]
/-- a new key goes in -/
theorem setK_add (R : SetK P w s.heap a L es ep t) {x : Addr} {k : NestedKey} (hx : KeyAt s.heap k x) (hu : A.units + 8 < cLine) (hnew : ∀ p ∈ L, p.2 ≠ k) (hfew : L.length + 1 < 64) {Q : Bool → Shared → Prop}
    (q : ∀ h2 l2 es2 ep2 t2, Heap.SameBut a s.heap h2 → SetK P w h2 a l2 es2 ep2 t2 → l2.Perm ((x, k) :: L) → Q true { s with heap := h2 }) :
    wpAny (model P w) A (setAddHashed a (.ref x) (kh P w k)) Q E s := by
  obtain ⟨o, ho, hex, hd⟩ := R.obj
  have el := rw_len R.row
  have big := R.big
  unfold setAddHashed
  refine wpAny_holding ?_
  rw [show (100000 : Nat) = 99999 + 1 from rfl, setAddHashedIn_succ]
  refine wpAny_bind (wpAny_setState_of ho hd R.fit ?_)
  dsimp only
  refine wp_if_neg (by simp [byScan, Value.scannable]) ?_
  try refine wpAny_bind (wpAny_pure ?_)
  refine wpAny_bind (find_new R hx hu hnew fun K hK hb => ?_)
  dsimp only
  refine wpAny_bind (wpAny_setState_of ho hd R.fit ?_)
  dsimp only
  obtain ⟨q1, q2, q3, q4, q5, q6, q7, q8, q9⟩ := R.tab.put hK hb
  have pl1 : (t.put (way t.mask (kh P w k) K)).1.plain = true := q6.trans R.pla
  generalize t.put (way t.mask (kh P w k) K) = both at q1 q3 q4 q5 q6 q7 q8 q9 pl1 ⊢
  obtain ⟨t1, i⟩ := both
  dsimp only at q1 q3 q4 q5 q6 q7 q8 q9 pl1 ⊢
  subst q1
  have go : ∀ (Q2 : Bool → Shared → Prop), Q2 true s → wpAny (model P w) A (hashByValue 8 (.ref x)) Q2 E s := fun Q2 z => hbv_key k _ 8 s hx.is hx.dep hx.num A E Q2 z
  first
    | (refine wpAny_bind ?_; refine wp_if_pos pl1 ?_; refine go _ ?_)
    | refine wp_if_pos pl1 (wpAny_bind (go _ ?_))
  simp only [if_true]
  have row1 : (SetTable.insertAt es (SetTable.below t.place (way t.mask (kh P w k) K)) (kh P w k, Value.ref x)).toList = rwK P w (L.take (SetTable.below t.place (way t.mask (kh P w k) K)) ++ (x, k) :: L.drop (SetTable.below t.place (way t.mask (kh P w k) K))) := by
    rw [SetTable.toList_insertAt, rw_put, R.row]
  generalize SetTable.below t.place (way t.mask (kh P w k) K) = i at q2 q3 row1 ⊢
  have pm := put_perm L i (x, k)
  have hm : (L.take i ++ (x, k) :: L.drop i).map (fun p => kh P w p.2) = (L.map fun p => kh P w p.2).take i ++ kh P w k :: (L.map fun p => kh P w p.2).drop i := by
    simp [List.map_take, List.map_drop]
  rw [← hm] at q3
  generalize SetTable.insertAt es i (kh P w k, Value.ref x) = es1 at row1 ⊢
  generalize L.take i ++ (x, k) :: L.drop i = l1 at pm q3 row1
  have n1 : l1.length = L.length + 1 := pm.length_eq
  have z1 : es1.size = L.length + 1 := (rw_len row1).trans n1
  refine wpAny_bind (wpAny_storeSet_of ho hd ?_ (by rw [z1, sizeLine_eq]; omega))
  have sb : Heap.SameBut a s.heap (s.heap.update a (Obj.putSet es1 t1)) := Heap.SameBut.update ..
  have ho1 := store_at (es' := es1) (t' := t1) ho hd
  generalize s.heap.update a (Obj.putSet es1 t1) = h1 at sb ho1 ⊢
  have low1 : l1.length ≤ t1.mask := by rw [n1, q4]; omega
  have R1 : Pre P w h1 a l1 es1 (ep + 1) t1 := by
    refine ⟨⟨_, ho1, ⟨hex.1, hex.2.1, hex.2.2⟩, rfl⟩, row1, q3, fun p hp => ?_, pl1, ?_, by omega, low1⟩
    · rcases List.mem_cons.mp (pm.mem_iff.mp hp) with e | hp
      · rw [e]; exact hx.off ho hd sb
      · exact (R.key p hp).off ho hd sb
    · rw [q5]; exact R.led
  rw [List.length_map] at q9
  by_cases hf : t1.tooFull = true
  · first
      | (refine wpAny_bind ?_; refine wp_if_pos (by simp [hf]) ?_)
      | (refine wp_if_pos (by simp [hf]) ?_; refine wpAny_bind ?_)
    have full : (L.length + 1) * 5 ≥ t1.mask * 3 := by
      unfold SetTable.tooFull at hf
      rwa [decide_eq_true_eq, q9] at hf
    rw [q4] at full
    have two : (t.mask = 7 ∧ L.length = 4) ∨ (t.mask = 31 ∧ L.length = 18) := by
      rcases R.tab.mok with e | e | e <;> rw [e] at full big <;> omega
    rw [el]
    rcases two with ⟨_, e⟩ | ⟨_, e⟩
    · refine relayK (s := { s with heap := h1 }) (M := 31) R1 (by rw [e, size_20]) (.inr (.inl rfl)) (by rw [e, size_20]; decide) (by omega) ?_
      exact fun h2 l2 es2 ep2 t2 sb2 R2 pm2 => wpAny_pure (q h2 l2 es2 ep2 t2 (sb.trans sb2) R2 (pm2.trans pm))
    · refine relayK (s := { s with heap := h1 }) (M := 127) R1 (by rw [e, size_76]) (.inr (.inr rfl)) (by rw [e, size_76]; decide) (by omega) ?_
      exact fun h2 l2 es2 ep2 t2 sb2 R2 pm2 => wpAny_pure (q h2 l2 es2 ep2 t2 (sb.trans sb2) R2 (pm2.trans pm))
  · first
      | refine wp_if_neg (by simp [hf]) ?_
      | (refine wpAny_bind ?_; refine wp_if_neg (by simp [hf]) ?_; refine wpAny_pure ?_)
    refine wpAny_pure (q h1 l1 es1 (ep + 1) t1 sb (R1.set (s := { s with heap := h1 }) ?_) pm)
    unfold SetTable.tooFull at hf
    rw [decide_eq_true_eq, q9] at hf
    rw [n1]
    omega
theorem SetK.keep {h h' : Heap} (R : SetK P w h a L es ep t) (hk : ∀ b o, h.get? b = some o → h'.get? b = some o) : SetK P w h' a L es ep t := by
  obtain ⟨o, ho, r⟩ := R.obj
  exact ⟨⟨o, hk _ _ ho, r⟩, R.row, R.tab, fun p hp => (R.key p hp).keep hk, R.pla, R.led, R.big, R.few⟩
theorem SetK.move {h h' : Heap} (R : SetK P w h a L es ep t) (ha : ∀ o, h.get? a = some o → h'.get? a = some o) (hk : ∀ p ∈ L, KeyAt h' p.2 p.1) : SetK P w h' a L es ep t := by
  obtain ⟨o, ho, r⟩ := R.obj
  exact ⟨⟨o, ha _ ho, r⟩, R.row, R.tab, hk, R.pla, R.led, R.big, R.few⟩
theorem setK_new {h : Heap} (ho : h.get? a = some (set0 w)) : SetK P w h a [] #[] 0 (.fresh 0 0 (!w.params.followText "set-order")) := by
  refine ⟨⟨_, ho, ⟨rfl, rfl, rfl⟩, rfl⟩, rfl, ⟨List.Pairwise.nil, rfl, rfl, .inl rfl, fun x hx => (by cases hx), fun i h j hi => (by simp at hi)⟩, fun p hp => (by cases hp), rfl, ?_, (show 0 * 5 < 7 * 3 by decide), (show 0 < 64 by decide)⟩
  show _ ∨ (!w.params.followText "set-order") = true
  cases w.params.followText "set-order"
  · exact .inr rfl
  · exact .inl rfl
end
end DL

set_option Elab.async false
set_option linter.all false
set_option maxRecDepth 100000
set_option maxHeartbeats 4000000
set_option checkBinderAnnotations false
/-! DN27: set(xs) of unlike nested keys. -/
namespace DL
open PySem L2 PySem.Spec PyProof.Rows
section
variable {P : Program} {w : World} {A : Around} {E : Value → Shared → Prop} {s : Shared}
theorem take_one {α : Type} {l : List α} {i : Nat} {x : α} (h : l[i]? = some x) : (x :: l.take i).Perm (l.take (i + 1)) := by
  rw [List.take_succ, h]
  exact (List.perm_append_singleton x _).symm
/-- the loop of an update -/
theorem updK {I : Addr} {fp wr : List Addr} {G : Array GenState → Array GenState → Prop} {n : Nat} {Pv : Nat → Value → Prop} {St : Nat → Shared → Prop} {R : Result → Shared → Prop}
    (W : WalksS P w A.in1 I fp wr G n Pv St) (S : Addr) (c1 : S ∉ fp) (ks : List AK) (hn : n = ks.length) (few : ks.length < 64) (nd : (ks.map (·.2)).Nodup) (val : ∀ i v, Pv i v → ∃ p, ks[i]? = some p ∧ v = .ref p.1)
    (h0 : Heap) (hk : ∀ p ∈ ks, KeyAt h0 p.2 p.1) (c2 : h0.get? S = none) (c3 : ∀ b ∈ wr, h0.get? b = none) (hu : A.in1.units + 8 < cLine) :
    ∀ (k i : Nat) (s : Shared), n - i = k → i ≤ n → St i s → (∀ b o, h0.get? b = some o → s.heap.get? b = some o) → (∃ L es ep t, SetK P w s.heap S L es ep t ∧ L.Perm (ks.take i)) →
      (∀ s' L es ep t, Moved (S :: wr) G s s' → SetK P w s'.heap S L es ep t → L.Perm ks → (∀ b o, h0.get? b = some o → s'.heap.get? b = some o) → R (.ok (.ret .none)) s') →
      codeAny (model P w) A (.builtin "set.update.loop" ⟨[.ref S, .ref I], []⟩) R s := by
  have c4 : S ∉ wr := fun h => c1 (W.sub _ h)
  have more : ∀ b ∈ wr, b ∈ S :: wr := fun b hb => List.mem_cons_of_mem _ hb
  have old : ∀ {s s' : Shared}, Moved wr G s s' → (∀ b o, h0.get? b = some o → s.heap.get? b = some o) → ∀ b o, h0.get? b = some o → s'.heap.get? b = some o := fun m g b o e =>
    m.heap b o (fun hb => by rw [c3 b hb] at e; cases e) (g b o e)
  intro k
  induction k with
  | zero =>
    intro i s hk0 hi st g0 ⟨L, es, ep, t, hS, pm⟩ q
    obtain rfl : i = n := by omega
    refine codeAny_builtin F.entry_set_update_loop ?_
    rw [Around.under_plainId F.plain_set_update_loop _]
    show wpAny _ A.in1 (pyNext (.ref I) >>= _) _ _ s
    refine wpAny_bind (W.done s _ _ st fun s' m => ?_)
    show wpAny _ A.in1 (ret Value.none) _ _ s'
    have g1 := old m g0
    rw [hn, List.take_length] at pm
    exact wpAny_pure (q s' L es ep t (m.mono more) (hS.move (fun o e => m.heap S o c4 e) fun p hp => (hk p (pm.mem_iff.mp hp)).keep g1) pm g1)
  | succ k ih =>
    intro i s hk0 hi st g0 ⟨L, es, ep, t, hS, pm⟩ q
    have lt : i < n := by omega
    refine codeAny_builtin F.entry_set_update_loop ?_
    rw [Around.under_plainId F.plain_set_update_loop _]
    show wpAny _ A.in1 (pyNext (.ref I) >>= _) _ _ s
    refine wpAny_bind (W.item i s _ _ lt st fun v s' hv st' m => ?_)
    obtain ⟨p, hp, rfl⟩ := val i v hv
    have g1 := old m g0
    have inks : ∀ y ∈ L, y ∈ ks := fun y hy => List.mem_of_mem_take (pm.mem_iff.mp hy)
    have hS1 : SetK P w s'.heap S L es ep t := hS.move (fun o e => m.heap S o c4 e) fun y hy => (hk y (inks y hy)).keep g1
    have hx : KeyAt s'.heap p.2 p.1 := (hk p (List.mem_of_getElem? hp)).keep g1
    have fresh : ∀ y ∈ L, y.2 ≠ p.2 := fun y hy e => by
      have hy2 := pm.mem_iff.mp hy
      obtain ⟨j, hj, ej⟩ := List.mem_iff_getElem.mp hy2
      have hj2 : j < i ∧ j < ks.length := by rw [List.length_take] at hj; omega
      rw [List.getElem_take] at ej
      have e1 : (ks.map (·.2))[j]? = (ks.map (·.2))[i]? := by
        rw [List.getElem?_map, List.getElem?_map, hp, List.getElem?_eq_getElem hj2.2, ej]
        exact congrArg some e
      have := (List.getElem?_inj (by rw [List.length_map]; exact hj2.2) nd).mp e1
      omega
    have ll : L.length ≤ i := by rw [pm.length_eq, List.length_take]; omega
    show wpAny _ A.in1 (holding [Value.ref p.1] (setAdd S (.ref p.1)) >>= _) _ _ s'
    refine wpAny_bind (wpAny_holding ?_)
    unfold setAdd
    refine wpAny_holding ?_
    have hd := hx.dep
    refine wpAny_bind (pyHash_key p.2 _ _ _ _ hx.is (by omega) ?_)
    refine setK_add (s := { s' with toks := s'.toks + p.2.draws }) hS1 hx hu fresh (by omega) fun h2 l2 es2 ep2 t2 sb R2 pm2 => ?_
    have g2 : ∀ b o, h0.get? b = some o → h2.get? b = some o := fun b o e => (sb.2 b fun z => by rw [z, c2] at e; cases e).trans (g1 b o e)
    refine wpAny_pure ⟨plainId_quiet F.plain_set_update_loop _, ih (i + 1) _ (by omega) lt (W.frame _ s' _ _ st' (Nat.le_add_right _ _) fun b hb o e => ?_) g2 ⟨l2, es2, ep2, t2, R2, pm2.trans ((pm.cons _).trans (take_one hp))⟩ fun s3 l3 es3 ep3 t3 m3 R3 pm3 g3 => ?_⟩
    · rw [sb.2 b fun (h : b = S) => c1 (by rw [← h]; exact hb)]; exact e
    · refine q s3 l3 es3 ep3 t3 (Moved.trans W.gtrans ((m.mono more).then_heap (Nat.le_add_right _ _) fun b o hb e => ?_) m3) R3 pm3 g3
      rw [sb.2 b fun (h : b = S) => hb (by rw [h]; exact List.mem_cons_self)]; exact e
/-- set(xs), xs a list of unlike keys -/
theorem setK_of_list {l : Addr} {items : Array Value} (ks : List AK) {Q : Value → Shared → Prop} (hh : A.handled = none) (hl : s.heap.IsList l items) (hit : items.toList = ks.map fun p => Value.ref p.1)
    (hk : ∀ p ∈ ks, KeyAt s.heap p.2 p.1) (few : ks.length < 64) (nd : (ks.map (·.2)).Nodup) (hu : A.units + 12 < cLine)
    (h : ∀ (h' : Heap) (tk : Nat) L es ep t, SetK P w h' s.heap.objs.size L es ep t → L.Perm ks → (∀ b o, s.heap.get? b = some o → h'.get? b = some o) → Q (.ref s.heap.objs.size) { s with heap := h', toks := tk }) :
    wpAny (model P w) A (call (.type "set") [.ref l]) Q E s := by
  have hisz : items.size = ks.length := by
    have q := congrArg List.length hit
    rwa [Array.length_toList, List.length_map] at q
  obtain ⟨c, tl, hmro⟩ := F.called_set.mro
  have hmade := F.called_set.made
  have hsub := F.called_set.sub
  refine wpAny_call (codeAny_of_tree ?_)
  show wpAny _ _ (callAny (.type "set") _) _ _ _
  refine wpAny_pure ⟨Code.quiet_builtin _ (by decide +kernel), codeAny_builtin F.entry_type_call ?_⟩
  rw [Around.under_plain (weight_type_call_type "set" [.ref l] []) rfl]
  have h1 := F.called_set.notType
  have h2 := F.called_set.canCreate
  have hct := F.typeCall_set_1 (.ref l)
  repeat (any_goals (first | assumption | wp_step))
  refine codeAny_mono (code_set_led1 (.ref l) (E := E) (Q₁ := fun obj s₁ => obj = .ref s.heap.objs.size ∧ s₁ = { s with heap := s.heap.push (set0 w) }) ⟨rfl, rfl⟩) fun r s₁ hr => ?_
  cases r with
  | error e => exact hr
  | ok fl =>
    cases fl with
    | ret obj =>
      obtain ⟨rfl, rfl⟩ := hr
      have hS : (s.heap.push (set0 w)).get? s.heap.objs.size = some (set0 w) := Heap.get?_push_size _ rfl
      have hT : Shared.TypeIs { s with heap := s.heap.push (set0 w) } (.ref s.heap.objs.size) "set" := ⟨_, hS, rfl⟩
      have hli := F.called_set.init.lookup
      have hbi := F.called_set.init.bind (.ref s.heap.objs.size)
      repeat (any_goals (first | assumption | wp_step))
      refine codeAny_mono (codeAny_call_builtin (R := wants (fun r s₂ => r = .none ∧ ∃ h' tk L es ep t, s₂ = { s with heap := h', toks := tk } ∧ SetK P w h' s.heap.objs.size L es ep t ∧ L.Perm ks ∧
          (∀ b o, s.heap.get? b = some o → h'.get? b = some o)) E) F.called_set.init.plain F.entry_set_init (check_set_init_1 hT ?_)) fun r₂ s₂ hr₂ => ?_
      · obtain ⟨⟨ocls, odict, odata, oslots⟩, hol, hcl, nl, hdl⟩ := hl
        simp only at hcl hdl
        subst hcl; subst hdl
        have hol' : (s.heap.push (set0 w)).get? l = some { cls := .type "list", dict := odict, data := .seq items nl, slots := oslots } := Heap.get?_push_of_some _ hol
        have hsls := F.sub_list_set
        have hslf := F.sub_list_frozenset
        have hne : (Value.type "list" == Value.type "dict") = false := by decide
        have hl1 : (s.heap.push (set0 w)).IsList l items := ⟨_, hol', rfl, nl, rfl⟩
        unfold Builtin.«set.__init__» noKeywords Builtin.Frozenset.updateFrom
        generalize hPI : pyIter = PI
        wp_walk
        subst hPI
        refine wpAny_pyIter_list hl1 (wpAny_bind (wpAny_runValue ?_))
        have hlS : l < s.heap.objs.size := Heap.lt_size hol
        have hh3 : A.in1.in1.in1.handled = none := by simp [hh]
        have hneI : l ≠ (s.heap.push (set0 w)).objs.size := by rw [Heap.size_push]; exact Nat.ne_of_lt (Nat.lt_succ_of_lt hlS)
        have hSf : s.heap.objs.size ∉ [(s.heap.push (set0 w)).objs.size, l] := by
          rw [Heap.size_push]; simp only [List.mem_cons, List.mem_singleton, List.not_mem_nil, or_false, not_or]
          exact ⟨Nat.ne_of_lt (Nat.lt_succ_self _), Nat.ne_of_gt hlS⟩
        have val : ∀ (i : Nat) (v : Value), items[i]? = some v → ∃ p, ks[i]? = some p ∧ v = .ref p.1 := fun i v hv => by
          rw [← Array.getElem?_toList, hit, List.getElem?_map, Option.map_eq_some_iff] at hv
          obtain ⟨p, e1, e2⟩ := hv
          exact ⟨p, e1, e2.symm⟩
        have gone : ∀ b, s.heap.objs.size ≤ b → s.heap.get? b = none := fun b hb => by
          cases e : s.heap.get? b with
          | none => rfl
          | some o => exact absurd (Heap.lt_size e) (Nat.not_lt.mpr hb)
        refine updK ((Walks.list hh3 _ l hneI items).toS) s.heap.objs.size hSf ks hisz few nd val s.heap hk (gone _ (Nat.le_refl _)) (fun b hb => gone b ?_) (show A.units + 3 + 8 < cLine by omega) (items.size - 0) 0 _ (by omega) (Nat.zero_le _)
          ⟨⟨_, Heap.get?_push_size _ rfl, rfl, rfl⟩, (hl1.push _)⟩ (fun b o e => Heap.get?_push_of_some _ (Heap.get?_push_of_some _ e)) ⟨[], #[], 0, _, setK_new (Heap.get?_push_of_some _ hS), List.Perm.refl _⟩ fun s' L es ep t hm R1 pm hk' => ?_
        · rw [List.mem_singleton.mp hb, Heap.size_push]
          exact Nat.le_succ _
        obtain ⟨h', g2, d', tk', os'⟩ := s'
        have eg : g2 = s.gens := hm.gens
        have ed : d' = s.drawn := hm.drawn
        have eo : os' = s.os := hm.os
        subst eg; subst ed; subst eo
        show wpAny _ _ _ _ _ _
        refine wpAny_pure ?_
        show wpAny _ _ (ret Value.none) _ _ _
        exact wpAny_pure ⟨rfl, h', tk', L, es, ep, t, rfl, R1, pm, hk'⟩
      · cases r₂ with
        | error e => exact hr₂
        | ok fl₂ =>
          cases fl₂ with
          | ret r =>
            obtain ⟨rfl, h', tk, L, es, ep, t, rfl, R1, pm, hk'⟩ := hr₂
            repeat (any_goals (first | assumption | wp_step))
            exact h _ _ _ _ _ _ R1 pm hk'
          | _ => exact hr₂.elim
    | _ => exact hr.elim
end
end DL

set_option Elab.async false
set_option linter.all false
set_option maxRecDepth 100000
set_option maxHeartbeats 4000000
set_option checkBinderAnnotations false
/-! DN28: sorted(set(xs)), xs a list of unlike nested tuples of whole numbers. -/
namespace DL
open PySem L2 PySem.W PySem.Spec PyProof.Rows
mutual
def dN : D → NestedKey
  | .int i => .num i
  | .tup ds => .tup (dNs ds)
  | .tpx ds => .tup (dNs ds)
  | _ => .none
def dNs : List D → List NestedKey
  | [] => []
  | d :: ds => dN d :: dNs ds
end
def isTp : D → Bool
  | .tup _ => true
  | .tpx _ => true
  | _ => false
/-- fit to be an element here -/
def okN (d : D) : Bool := isTp d && numK (dN d) && decide ((dN d).depth ≤ 8)
section
variable {X : Cx} {pins : List (Addr × Obj)} {σ : L2.St} {H B : Hp} {s : Shared}
mutual
theorem ip_key (I : Inv X pins σ H s) : ∀ {x : V} {d : D} {u : Value}, Ip X.K B H x d → numK (dN d) = true → RelV x u → NestedIs s.heap (dN d) u
  | _, _, u, .int i, _, r => by
    obtain ⟨t, rfl⟩ := r
    rw [dN]; exact .int _ _
  | _, _, u, .tup h t, e, r => by
    rw [dN, numK] at e
    rw [dN]
    cases r
    obtain ⟨its, rv, ⟨o, ho, hc, n, hd⟩, _⟩ := I.tuple h.sq
    exact .tup ho hc hd (by simpa using ip_keys I t e rv)
  | _, _, u, .tpx h _ t, e, r => by
    rw [dN, numK] at e
    rw [dN]
    cases r
    obtain ⟨its, rv, ⟨o, ho, hc, n, hd⟩, _⟩ := I.tuple (.inl (.inr ⟨_, h⟩))
    exact .tup ho hc hd (by simpa using ip_keys I t e rv)
  | _, _, _, .non, e, _ => by simp [dN, numK] at e
  | _, _, _, .bl _, e, _ => by simp [dN, numK] at e
  | _, _, _, .str _, e, _ => by simp [dN, numK] at e
  | _, _, _, .adr _, e, _ => by simp [dN, numK] at e
  | _, _, _, .ty _, e, _ => by simp [dN, numK] at e
  | _, _, _, .fl _ _, e, _ => by simp [dN, numK] at e
  | _, _, _, .obj _ _ _, e, _ => by simp [dN, numK] at e
  | _, _, _, .lst _ _, e, _ => by simp [dN, numK] at e
  | _, _, _, .exc _ _ _, e, _ => by simp [dN, numK] at e
  | _, _, _, .dct _ _, e, _ => by simp [dN, numK] at e
  | _, _, _, .dcu _ _, e, _ => by simp [dN, numK] at e
  | _, _, _, .ml _ _, e, _ => by simp [dN, numK] at e
  | _, _, _, .kl _ _, e, _ => by simp [dN, numK] at e
theorem ip_keys (I : Inv X pins σ H s) : ∀ {xs : List V} {ds : List D} {us : List Value}, IpAll X.K B H xs ds → numKs (dNs ds) = true → Vals xs us → NestedAll s.heap (dNs ds) us
  | _, _, _, .nil, _, .nil => by rw [dNs]; exact .nil
  | _, _, _, .cons h t, e, .cons r rr => by
    rw [dNs, numKs, Bool.and_eq_true] at e
    rw [dNs]
    exact .cons (ip_key I h e.1 r) (ip_keys I t e.2 rr)
end
theorem ip_ref {K : PySem.W.Frag} {x : V} {d : D} (h : Ip K B H x d) (e : isTp d = true) : ∃ a, x = .ref a := by
  cases h with
  | tup _ _ => exact ⟨_, rfl⟩
  | tpx _ _ _ => exact ⟨_, rfl⟩
  | _ => simp [isTp] at e
theorem okN_at (I : Inv X pins σ H s) {x : V} {d : D} {u : Value} (h : Ip X.K B H x d) (e : okN d = true) (r : RelV x u) : ∃ a, x = .ref a ∧ u = .ref a ∧ KeyAt s.heap (dN d) a := by
  unfold okN at e
  rw [Bool.and_eq_true, Bool.and_eq_true, decide_eq_true_eq] at e
  obtain ⟨a, rfl⟩ := ip_ref h e.1.1
  have := ip_key I h e.1.2 r
  cases r
  exact ⟨a, rfl, rfl, this, e.2, e.1.2⟩
theorem okN_all (I : Inv X pins σ H s) : ∀ {xs : List V} {ds : List D} {us : List Value}, IpAll X.K B H xs ds → (∀ d ∈ ds, okN d = true) → Vals xs us → ∃ ks : List AK, xs = (ks.map fun p => V.ref p.1) ∧ us = (ks.map fun p => Value.ref p.1) ∧ ks.map (·.2) = ds.map dN ∧ ∀ p ∈ ks, KeyAt s.heap p.2 p.1
  | _, _, _, .nil, _, .nil => ⟨[], rfl, rfl, rfl, fun p hp => nomatch hp⟩
  | _, _, _, .cons h t, e, .cons r rr => by
    obtain ⟨a, rfl, rfl, ka⟩ := okN_at I h (e _ List.mem_cons_self) r
    obtain ⟨ks, rfl, rfl, e1, e2⟩ := okN_all I t (fun d hd => e d (List.mem_cons_of_mem _ hd)) rr
    refine ⟨(a, _) :: ks, rfl, rfl, by rw [List.map_cons, List.map_cons, e1], fun p hp => ?_⟩
    rcases List.mem_cons.mp hp with rfl | hp
    · exact ka
    · exact e2 p hp
mutual
theorem reads_none {h : Heap} : ∀ (d : D) {v : Value} {as : List Addr}, numK (dN d) = true → Reads h v d.py as → as = []
  | .int i, _, _, _, r => by rw [D.py] at r; cases r; rfl
  | .tup ds, _, _, e, r => by
    rw [D.py] at r
    rw [dN, numK] at e
    cases r with
    | tuple _ _ _ t => exact reads_nones ds e t
  | .tpx ds, _, _, e, r => by
    rw [D.py] at r
    rw [dN, numK] at e
    cases r with
    | tuple _ _ _ t => exact reads_nones ds e t
  | .non, _, _, e, _ => by simp [dN, numK] at e
  | .bl _, _, _, e, _ => by simp [dN, numK] at e
  | .str _, _, _, e, _ => by simp [dN, numK] at e
  | .adr _, _, _, e, _ => by simp [dN, numK] at e
  | .ty _, _, _, e, _ => by simp [dN, numK] at e
  | .fl _, _, _, e, _ => by simp [dN, numK] at e
  | .obj _ _ _, _, _, e, _ => by simp [dN, numK] at e
  | .lst _, _, _, e, _ => by simp [dN, numK] at e
  | .exc _, _, _, e, _ => by simp [dN, numK] at e
  | .dct _, _, _, e, _ => by simp [dN, numK] at e
  | .dcu _, _, _, e, _ => by simp [dN, numK] at e
  | .ml _, _, _, e, _ => by simp [dN, numK] at e
  | .kl _, _, _, e, _ => by simp [dN, numK] at e
theorem reads_nones {h : Heap} : ∀ (ds : List D) {vs : List Value} {as : List Addr}, numKs (dNs ds) = true → ReadsAll h vs (D.pys ds) as → as = []
  | [], _, _, _, r => by rw [D.pys] at r; cases r; rfl
  | d :: ds, _, _, e, r => by
    rw [D.pys] at r
    rw [dNs, numKs, Bool.and_eq_true] at e
    cases r with
    | cons r1 r2 => rw [reads_none d e.1 r1, reads_nones ds e.2 r2]; rfl
end
end
/-- values in another order: their data too -/
theorem each_perm {α β : Type} {R : α → β → Prop} {vs its : List α} (p : vs.Perm its) : ∀ {ds : List β}, EachIs R its ds → ∃ es, es.Perm ds ∧ EachIs R vs es := by
  induction p with
  | nil => intro ds h; cases h; exact ⟨[], .refl _, .nil⟩
  | cons x _ ih =>
    intro ds h
    cases h with
    | cons h1 h2 =>
      obtain ⟨es, e1, e2⟩ := ih h2
      exact ⟨_ :: es, e1.cons _, .cons h1 e2⟩
  | swap x y l =>
    intro ds h
    cases h with
    | cons h1 h2 =>
      cases h2 with
      | cons h2 h3 => exact ⟨_, List.Perm.swap .., .cons h2 (.cons h1 h3)⟩
  | trans _ _ i1 i2 =>
    intro ds h
    obtain ⟨es, e1, e2⟩ := i2 h
    obtain ⟨fs, f1, f2⟩ := i1 e2
    exact ⟨fs, f1.trans e1, f2⟩
end DL

set_option Elab.async false
set_option linter.all false
set_option maxRecDepth 100000
set_option maxHeartbeats 4000000
set_option checkBinderAnnotations false
/-! DN29: sorted(set(xs)) of nested tuples, as a word over data. -/
namespace DL
open PySem L2 PySem.W PySem.Spec PyProof.Rows
/-- a set that holds these addresses, in its own order -/
def SetLO (w : World) (a : Addr) (bs : List Addr) : HO := .ext fun h => ∃ (o : Obj) (es : Array (Int × Value)) (ep : Nat) (t : SetTable), h.get? a = some o ∧ o.cls = .type "set" ∧ o.data = .set es ep t ∧ t.fits es.size = true ∧ es.size < 64 ∧ Ris t.place.toList ∧ (w.params.followText "set-order" = true ∨ t.led = true) ∧ es.toList.map (·.2) = bs.map Value.ref
theorem rwK_refs {P : Program} {w : World} (L : List AK) : (rwK P w L).map (·.2) = (L.map (·.1)).map Value.ref := by
  unfold rwK
  rw [List.map_map, List.map_map]
  rfl
section
variable {X : Cx}
theorem setLO_new {P : Program} {w : World} {H : Hp} {h : Heap} {a : Addr} {L : List AK} {es : Array (Int × Value)} {ep : Nat} {t : SetTable} (R : SetK P w h a L es ep t) : ObjOk P w H h a (SetLO w a (L.map (·.1))) := by
  obtain ⟨o, ho, hex, hd⟩ := R.obj
  refine ⟨⟨o, es, ep, t, ho, hex.1, hd, R.pre.fit, by rw [rw_len R.row]; exact R.few, R.tab.ris, R.led, by rw [R.row, rwK_refs]⟩, ⟨o, ho⟩, ?_⟩
  rintro g1 g2 ⟨o1, e1, p1, t1, b1, b2⟩ k
  exact ⟨o1, e1, p1, t1, k _ b1, b2⟩
/-- set(xs) -/
def rSetN (K : PySem.W.Frag) (w : World) : List V → Hp → VK → Prop := fun us H Q => ∃ (B : Hp) (l : Addr) (xs : List V) (ds : List D), us = [.ref l] ∧ SqL K H l xs ∧ IpAll K B H xs ds ∧ (∀ d ∈ ds, okN d = true) ∧ (ds.map dN).Nodup ∧ ds.length < 64 ∧
  ∀ a bs, H a = none → (∃ cs : List Addr, xs = cs.map V.ref ∧ bs.Perm cs) → Q (.ref a) (upd H a (SetLO w a bs))
theorem cr_setN (hc : X.calm = true) (hu : X.A.units + 65 < cLine) : CallR X (.type "set") (rSetN X.K X.w) := by
  intro pins s σ H us ws Q I r h
  obtain ⟨B, l, xs, ds, rfl, hq, ia, ok, nd, few, q⟩ := h
  rw [Vals.ref1 r]
  obtain ⟨its, rv, pl, hz⟩ := I.list hq
  obtain ⟨ks, e1, e2, e3, e4⟩ := okN_all I ia ok rv
  have kl : ks.length = ds.length := by have := congrArg List.length e3; simpa using this
  refine setK_of_list (P := X.prog) (w := X.w) ks (I.ok.hd hc) pl.isList (by simpa using e2) e4 (by omega) (by rw [e3]; exact nd) (by omega) fun h' tk L es ep t R pm hk => ?_
  exact ⟨.ref s.heap.objs.size, upd H s.heap.objs.size (SetLO X.w s.heap.objs.size (L.map (·.1))), I.laid (t' := tk) hk (Nat.le_refl _) (setLO_new R), rfl, q _ _ (I.hok.fresh (Nat.le_refl _)) ⟨ks.map (·.1), by rw [e1, List.map_map]; rfl, pm.map _⟩⟩
/-- sorted of it -/
def rSortN (K : PySem.W.Frag) (w : World) : List V → Hp → VK → Prop := fun us H Q => ∃ (B : Hp) (a : Addr) (bs : List Addr) (ds : List D), us = [V.ref a] ∧ H a = some (SetLO w a bs) ∧ Same B H ∧ IpAll K B H (bs.map V.ref) ds ∧ (D.plains ds = true ∧ D.deeps ds ≤ 60) ∧ alikeD ds = true ∧ sortKD ds = true ∧ (∀ d ∈ ds, okN d = true) ∧
  ∀ (es : List D) (zs : List V) (p : Addr), es.Perm ds → IpAll K B H zs (srtData es) → H p = none → Q (.ref p) (upd H p (.lst zs))
theorem vals_refs : ∀ bs : List Addr, Vals (bs.map V.ref) (bs.map Value.ref)
  | [] => .nil
  | b :: bs => .cons rfl (vals_refs bs)
theorem cr_sortN (hc : X.calm = true) (hu : X.A.units + 65 < cLine) : CallR X (.builtin "sorted") (rSortN X.K X.w) := by
  intro pins s σ H us ws Q I r h
  obtain ⟨B, a, bs, ds, rfl, ha, sub, ia, ⟨pl, dp⟩, al, sk, ok, q⟩ := h
  rw [Vals.ref1 r]
  obtain ⟨o, es, ep, t, ho, hcl, hd, fit, few, ris, led, refs⟩ := (I.hok a _ ha).1
  have el : es.size = ds.length := by
    have h1 := congrArg List.length refs
    have h2 := ia.length
    simp at h1 h2
    omega
  refine Calls.call_function_entry kind_sorted plain_sorted entry_sorted (args_sorted1 _) ?_
  unfold Builtin.«sorted»
  refine wpAny_bind (m := checkCount "sorted" 1 1 _) (wpAny_pure ?_)
  refine wpAny_bind (collect_set (A := X.A.in1) (I.ok.hd hc) ⟨o, ho, hcl, hd⟩ fit (by unfold scanBound; omega) ris led fun s1 vs k1 hz g1 o1 pm => ?_)
  rw [refs] at pm
  obtain ⟨e1, e2⟩ := each_ip I sub (vals_refs bs) ia pl
  have e3 : EachIs (fun u d => (∃ x : V, RelV x u ∧ Ip X.K B H x d) ∧ ∃ as, Reads s.heap u (D.py d) as) (bs.map Value.ref) ds := by
    clear q al sk ok pl dp ia el pm refs
    generalize bs.map Value.ref = us at e1 e2
    induction e1 with
    | nil => exact .nil
    | cons h t ih =>
      cases e2 with
      | cons h2 t2 => exact .cons ⟨h, h2⟩ (ih t2)
  obtain ⟨fs, pf, e4⟩ := each_perm pm e3
  have fin : ∀ {d : D}, d ∈ fs → d ∈ ds := fun h => pf.mem_iff.mp h
  have vl : vs.length ≤ sizeLine := by
    rw [e4.length, pf.length_eq, ← el, sizeLine_eq]
    omega
  refine wpAny_bind (wpAny_newList ?_ vl)
  have hoL : (s1.heap.push (seqObj "list" vs.toArray 0)).get? s1.heap.objs.size = some (seqObj "list" vs.toArray 0) := Heap.get?_push_size _ rfl
  have kp : ∀ b u, s.heap.get? b = some u → (s1.heap.push (seqObj "list" vs.toArray 0)).get? b = some u := fun b u e => Heap.get?_push_of_some _ (k1 b u e)
  have num : ∀ d ∈ fs, numK (dN d) = true := fun d hd => by
    have := ok d (fin hd)
    unfold okN at this
    rw [Bool.and_eq_true, Bool.and_eq_true] at this
    exact this.1.2
  have er : EachIs (fun v b => ∃ as, Reads (s1.heap.push (seqObj "list" vs.toArray 0)) v (D.py b) as ∧ s1.heap.objs.size ∉ as) vs fs := by
    have al2 : AllAlike (fs.map D.py) := fun x hx y hy => by
      obtain ⟨d, hd, rfl⟩ := List.mem_map.mp hx
      obtain ⟨e, he, rfl⟩ := List.mem_map.mp hy
      exact alikeD_ok al _ (List.mem_map.mpr ⟨d, fin hd, rfl⟩) _ (List.mem_map.mpr ⟨e, fin he, rfl⟩)
    refine (each_mem e4).mono fun v d ⟨⟨_, as, rd⟩, hd⟩ => ⟨as, PyProof.Rows.Reads.keeps kp rd, ?_⟩
    rw [reads_none d (num d hd) rd]
    exact fun z => nomatch z
  have al2 : AllAlike (fs.map D.py) := fun x hx y hy => by
    obtain ⟨d, hd, rfl⟩ := List.mem_map.mp hx
    obtain ⟨e, he, rfl⟩ := List.mem_map.mp hy
    exact alikeD_ok al _ (List.mem_map.mpr ⟨d, fin hd, rfl⟩) _ (List.mem_map.mpr ⟨e, fin he, rfl⟩)
  have sk2 : Sortable (fs.map D.py) := by
    rcases sortKD_ok sk with h | h
    · refine .inl fun x hx => ?_
      obtain ⟨d, hd, rfl⟩ := List.mem_map.mp hx
      exact h _ (List.mem_map.mpr ⟨d, fin hd, rfl⟩)
    · refine .inr fun x hx => ?_
      obtain ⟨d, hd, rfl⟩ := List.mem_map.mp hx
      exact h _ (List.mem_map.mpr ⟨d, fin hd, rfl⟩)
  refine wpAny_bind (wpAny_holding (list_sort_data (s := { s1 with heap := s1.heap.push (seqObj "list" vs.toArray 0) }) (bs := fs) (enc := D.py) (R := fun u d => ∃ x : V, RelV x u ∧ Ip X.K B H x d) hoL (e4.mono fun _ _ h => h.1) er al2 sk2 (by rw [← e4.length]; exact vl) (fun b hb => ?_) fun out ol eo => ?_))
  · have := deeps_mem (fin hb)
    rw [D.py_depth]
    show X.A.units + _ + _ + _ < cLine
    omega
  · obtain ⟨zs, vz, iz⟩ := each_back eo
    obtain ⟨c, hc2⟩ := sortedHeap_at (vs := vs) (out := List.toArray out) hoL
    have hn : H s1.heap.objs.size = none := I.hok.fresh hz
    have kp2 : ∀ b u, s.heap.get? b = some u → (sortedHeap (s1.heap.push (seqObj "list" vs.toArray 0)) s1.heap.objs.size vs (List.toArray out)).get? b = some u := fun b u e => by
      have e5 := k1 b u e
      have lt := Heap.lt_size e5
      rw [sortedHeap_old (Nat.ne_of_lt lt) (by rw [size_push']; exact Nat.lt_succ_of_lt lt)]
      exact Heap.get?_push_of_some _ e5
    have hlen : zs.length ≤ sizeLine := by rw [vz.length, ol, ← e4.length]; exact vl
    have J : Inv X pins σ (upd H s1.heap.objs.size (.lst zs)) { s with heap := sortedHeap (s1.heap.push (seqObj "list" vs.toArray 0)) s1.heap.objs.size vs (List.toArray out), gens := s1.gens, drawn := s1.drawn, toks := s1.toks } :=
      I.call (ch := []) (Un.laid kp2 hz hn) (I.hok.laid kp2 hz ⟨hlen, out, c, vz, hc2⟩) (by rw [g1]; exact I.bare) (fun _ z => nomatch z)
    have e6 : ({ s1 with heap := sortedHeap (s1.heap.push (seqObj "list" vs.toArray 0)) s1.heap.objs.size vs (List.toArray out) } : Shared) = { s with heap := sortedHeap (s1.heap.push (seqObj "list" vs.toArray 0)) s1.heap.objs.size vs (List.toArray out), gens := s1.gens, drawn := s1.drawn, toks := s1.toks } := by
      cases s1
      cases s
      cases o1
      rfl
    refine wpAny_pure ⟨_, rfl, ?_⟩
    show EP X pins σ Q (Value.ref s1.heap.objs.size) ({ s1 with heap := sortedHeap (s1.heap.push (seqObj "list" vs.toArray 0)) s1.heap.objs.size vs (List.toArray out) } : Shared)
    rw [e6]
    exact ⟨.ref s1.heap.objs.size, _, J, rfl, q fs zs _ pf iz hn⟩
end
def gSSN : GN
  | [.lst ds], Q => ((∀ d ∈ ds, okN d = true) ∧ (ds.map dN).Nodup ∧ ds.length < 64) ∧ ((D.plains ds = true ∧ D.deeps ds ≤ 60) ∧ alikeD ds = true ∧ sortKD ds = true) ∧ ∀ es : List D, es.Perm ds → Q (.own (srtData es))
  | _, _ => False
theorem ipAll_perm {K : PySem.W.Frag} {B H : Hp} {vs xs : List V} (p : vs.Perm xs) : ∀ {ds : List D}, IpAll K B H xs ds → ∃ es, es.Perm ds ∧ IpAll K B H vs es := by
  induction p with
  | nil => intro ds h; cases h; exact ⟨[], .refl _, .nil⟩
  | cons x _ ih =>
    intro ds h
    cases h with
    | cons h1 h2 =>
      obtain ⟨es, e1, e2⟩ := ih h2
      exact ⟨_ :: es, e1.cons _, .cons h1 e2⟩
  | swap x y l =>
    intro ds h
    cases h with
    | cons h1 h2 =>
      cases h2 with
      | cons h2 h3 => exact ⟨_, List.Perm.swap .., .cons h2 (.cons h1 h3)⟩
  | trans _ _ i1 i2 =>
    intro ds h
    obtain ⟨es, e1, e2⟩ := i2 h
    obtain ⟨fs, f1, f2⟩ := i1 e2
    exact ⟨fs, f1.trans e1, f2⟩
theorem plains_iff : ∀ {ds : List D}, D.plains ds = true ↔ ∀ d ∈ ds, d.plain = true
  | [] => by simp [D.plains]
  | d :: ds => by rw [D.plains, Bool.and_eq_true, plains_iff]; simp
theorem deeps_iff {n : Nat} : ∀ {ds : List D}, D.deeps ds ≤ n ↔ ∀ d ∈ ds, d.deep ≤ n
  | [] => by simp [D.deeps]
  | d :: ds => by
    rw [D.deeps, Nat.max_le, deeps_iff]
    simp
theorem all_perm {α : Type} {p : α → Bool} {es ds : List α} (h : es.Perm ds) (e : ds.all p = true) : es.all p = true := by
  rw [List.all_eq_true] at e ⊢
  exact fun x hx => e x (h.mem_iff.mp hx)
theorem sort_perm {es ds : List D} (h : es.Perm ds) (a : (D.plains ds = true ∧ D.deeps ds ≤ 60) ∧ alikeD ds = true ∧ sortKD ds = true) : (D.plains es = true ∧ D.deeps es ≤ 60) ∧ alikeD es = true ∧ sortKD es = true := by
  obtain ⟨⟨a1, a2⟩, a3, a4⟩ := a
  rw [plains_iff] at a1
  rw [deeps_iff] at a2
  refine ⟨⟨plains_iff.mpr fun d hd => a1 d (h.mem_iff.mp hd), deeps_iff.mpr fun d hd => a2 d (h.mem_iff.mp hd)⟩, ?_, ?_⟩
  · unfold alikeD at a3 ⊢
    refine all_perm h (List.all_eq_true.mpr fun x hx => all_perm h (List.all_eq_true.mp a3 x hx))
  · unfold sortKD at a4 ⊢
    rw [Bool.or_eq_true] at a4 ⊢
    exact a4.imp (all_perm h) (all_perm h)
section
variable {X : Cx} {W : WX} {e : Expr} {we : EW} {p p2 q pos : Pos}
theorem de_sortSetN (hc : X.calm = true) (hu : X.A.units + 65 < cLine) (hg : Gl X "sorted") (hm : X.mg "sorted" = none) (hg2 : Gl X "set") (hm2 : X.mg "set" = none) (he : DE X W e we)
    (hs : starEach [e] X.env = (false, eval e X.env) :: starEach [] X.env := by rfl) (hs2 : starEach [.Call (.Name "set" p2) [e] [] q] X.env = (false, eval (.Call (.Name "set" p2) [e] [] q) X.env) :: starEach [] X.env := by rfl) :
    DE X W (.Call (.Name "sorted" p) [.Call (.Name "set" p2) [e] [] q] [] pos) (wCB gSSN (wCons we wNil)) := by
  obtain ⟨t, pt, st⟩ := he.ok
  have pin := pe_callTy (x := "set") (T := "set") (p := p2) (pos := q) (cr_setN hc hu) hg2 hm2 PyProof.Rows.boot_set (pa_cons pt pa_nil hs) (by decide) (by decide) hs rfl
  refine ⟨_, pe_callB (cr_sortN hc hu) hg hm (by decide +kernel) (pa_cons pin pa_nil hs2) (by decide) (by decide) hs2 rfl, ?_⟩
  intro B σ ρ H Qw Xw Q s h hx k
  show tCons t tNil σ H (fun vs H1 => rSetN X.K X.w vs H1 fun x H2 => rSortN X.K X.w [x] H2 Q)
  refine (sim_cons st sim_nil) B σ ρ H _ Xw _ s h hx fun vs rs B1 ρ1 H1 s1 t1 rv1 q1 => ?_
  obtain ⟨ds, e1, q1⟩ := withCs_some q1
  have hr := rv1.rd s1 e1
  match ds, hr, q1 with
  | [.lst ds], hr, q1 =>
    obtain ⟨x, rfl, a, xs, rfl, h1, h2⟩ := rd1 hr
    obtain ⟨⟨g1, g2, g3⟩, g4, q1⟩ := q1
    refine ⟨B1, a, xs, ds, rfl, h1, h2, g1, g2, g3, fun b bs hb ⟨cs, ex, pb⟩ => ?_⟩
    have sm1 : Same H1 (upd H1 b (SetLO X.w b bs)) := same_upd hb
    subst ex
    obtain ⟨es, pe, ie⟩ := ipAll_perm (pb.map V.ref) h2
    obtain ⟨s4, s5, s6⟩ := sort_perm pe g4
    refine ⟨B1, b, bs, es, rfl, upd_same, (s1.same sm1).sub, ie.mono (Same.refl _) (Tups.of sm1), s4, s5, s6, fun d hd => g1 d (pe.mem_iff.mp hd), fun fs zs p' pf iz hp' => ?_⟩
    have sm2 := same_upd (o := HO.lst zs) hp'
    have sm := sm1.trans sm2
    have hp0 : H1 p' = none := by
      by_cases z : p' = b
      · rw [z]; exact hb
      · rw [upd_ne z] at hp'; exact hp'
    refine k (.ref p') (.own (srtData fs)) B1 ρ1 _ (s1.same sm) (t1.trans s1 (Tr.same sm)) ?_ (q1 fs (pf.trans pe))
    have np : ¬ OwnAt σ ρ1 p' := fun z => by
      obtain ⟨o, e, _⟩ := s1.own z
      rw [hp0] at e; cases e
    have nb : B1 p' = none := by
      cases z : B1 p' with
      | none => rfl
      | some o => have := s1.sub p' o z; rw [hp0] at this; cases this
    have h0 : H p' = none := by
      cases z : H p' with
      | none => rfl
      | some o => exact absurd hp0 (by
          intro hn
          exact absurd (t1.free s1 hn) (by rw [z]; simp))
    exact ⟨p', zs, rfl, h0, nb, upd_same, iz.mono (Same.refl _) (Tups.of sm2), np⟩
end
def SSN (ds : List D) [Q : Sl → Prop] : Prop := ((∀ d ∈ ds, okN d = true) ∧ (ds.map dN).Nodup ∧ ds.length < 64) ∧ ((D.plains ds = true ∧ D.deeps ds ≤ 60) ∧ alikeD ds = true ∧ sortKD ds = true) ∧ ∀ es : List D, es.Perm ds → Q (.own (srtData es))
@[simp ↓] theorem g_ssN {Qs : Sl → Prop} {ds : List D} : gSSN [.lst ds] Qs = @SSN ds Qs := id rfl
end DL

set_option Elab.async false
set_option linter.all false
set_option maxRecDepth 100000
set_option maxHeartbeats 4000000
set_option checkBinderAnnotations false
/-! DN30: for x in xs, xs a list of the def's own that is changed behind the loop. -/
namespace DL
open PySem L2 PySem.Spec PyProof.Rows
def wForO (i j : Nat) (wb : SW) : SW := fun E ρ => ∃ ds : List D, (ρ[i]? = some (some (.own ds)) ∧ i ≠ j ∧ D.nolists ds = true) ∧ ∀ p : Addr,
  ∃ Wd : Nat → En → Prop, Wd 0 (ρ.set i (some (.dat (.adr p)))) ∧ (∀ ρ2, Wd ds.length ρ2 → pureEn ρ2 ∧ ρ2[i]? = some (some (.dat (.adr p))) ∧ E.nx (ρ2.set i (some (.own ds)))) ∧
  ∀ k d ρ2, ds[k]? = some d → Wd k ρ2 → notInn ρ2 j ∧ wb { E with nx := Wd (k + 1), ct := Wd (k + 1), bk := fun _ => False } (ρ2.set j (some (.dat d)))
theorem ipAll_at {K : PySem.W.Frag} {B H : Hp} : ∀ {vs : List V} {ds : List D} {k : Nat} {d : D}, IpAll K B H vs ds → ds[k]? = some d → ∃ v, vs[k]? = some v ∧ Ip K B H v d
  | _, _, k, d, .nil, e => by simp at e
  | _, _, 0, d, .cons h t, e => by
    simp at e
    subst e
    exact ⟨_, rfl, h⟩
  | _, _, k + 1, d, .cons h t, e => by
    obtain ⟨v, h1, h2⟩ := ipAll_at t (k := k) (by simpa using e)
    exact ⟨v, by simpa using h1, h2⟩
section
variable {K : PySem.W.Frag} {W : WX}
theorem sim_forO (i j : Nat) {tb : TS} {wb : SW} (hb : SimS K W tb wb) : SimS0 K W (tFor (iSeq K (tVar i)) (gName j) tb) (wForO i j wb) := by
  intro H0 L B σ ρ H E Ew f h n r b c x
  obtain ⟨ds, ⟨ei, hij, nl⟩, h⟩ := h
  obtain ⟨v, hv, p, vs, ev, nb, hp, ia⟩ := f.slot i _ ei
  subst ev
  obtain ⟨Wd, w0, wend, turn⟩ := h p
  have hi : i < ρ.length := (List.getElem?_eq_some_iff.mp ei).1
  have len : vs.length = ds.length := ia.length
  have frp : H0 p = none := by
    rcases f.fresh p ⟨i, by rw [ei]; rfl, hv⟩ with z | ⟨l, z⟩
    · exact z
    · obtain ⟨h1, dl, h2⟩ := f.keep l p z
      have e := f.inj l i p (by rw [h2]; rfl) (by rw [ei]; rfl) h1 hv
      rw [e, ei] at h2; cases h2
  have bb : Same B (upd B p (.lst vs)) := upd_same_sub nb
  -- the list lies in B while the loop goes
  have f0 : FR K H0 H00 L (upd B p (.lst vs)) σ (ρ.set i (some (.dat (.adr p)))) H := by
    have shp : ∀ l, isOwn (ρ.set i (some (.dat (.adr p))))[l]? = true → l ≠ i ∧ isOwn ρ[l]? = true := fun l h => by
      by_cases hl : l = i
      · subst hl; rw [List.getElem?_set_self hi] at h; cases h
      · rw [List.getElem?_set_ne (Ne.symm hl)] at h; exact ⟨hl, h⟩
    have oth : ∀ q, OwnAt σ (ρ.set i (some (.dat (.adr p)))) q → OwnAt σ ρ q := fun q ⟨l, h1, h2⟩ => ⟨l, (shp l h1).2, h2⟩
    refine ⟨⟨by simp [f.len], fun q o e => ?_, fun l sl h => ?_, fun a q z h1 h2 h3 h4 => f.inj a q z (shp a h1).2 (shp q h2).2 h3 h4⟩, f.ext0, fun q z => f.fresh q (oth q z), fun l q h => ?_, fun q hq => ?_⟩
    · by_cases hq : q = p
      · subst hq; rw [upd_same] at e; cases e; exact hp
      · rw [upd_ne hq] at e; exact f.sub q o e
    · by_cases hl : l = i
      · subst hl
        rw [List.getElem?_set_self hi] at h; cases h
        exact ⟨.ref p, hv, .adr p⟩
      · rw [List.getElem?_set_ne (Ne.symm hl)] at h
        obtain ⟨u, hu, r⟩ := f.slot l sl h
        have np : ∀ q, isOwn (some (some sl)) = true → u = .ref q → q ≠ p := fun q ho e z => by
          subst e z
          exact hl (f.inj l i q (by rw [h]; exact ho) (by rw [ei]; rfl) hu hv)
        refine ⟨u, hu, ?_⟩
        cases sl with
        | dat d => exact Ip.mono bb (Tups.of (Same.refl _)) r
        | own dl => obtain ⟨p', us, a, b, c, d⟩ := r; exact ⟨p', us, a, by rw [upd_ne (np p' rfl a)]; exact b, c, d.mono bb (Tups.of (Same.refl _))⟩
        | inn dl => obtain ⟨p', us, a, b, c, d⟩ := r; exact ⟨p', us, a, by rw [upd_ne (np p' rfl a)]; exact b, c, d.mono bb (Tups.of (Same.refl _))⟩
        | bor k => exact r.elim
        | dic kvs => obtain ⟨p', us, a, b, c, d⟩ := r; exact ⟨p', us, a, by rw [upd_ne (np p' rfl a)]; exact b, c, d.mono bb (Tups.of (Same.refl _))⟩
    · obtain ⟨h1, dl, h2⟩ := f.keep l q h
      exact ⟨h1, dl, by rw [List.getElem?_set_ne fun z => by rw [← z, ei] at h2; cases h2]; exact h2⟩
    · by_cases hqp : q = p
      · subst hqp; exact .inr frp
      · rw [upd_ne hqp] at hq; exact f.bnew q hq
  refine ⟨.ref p, hv, p, vs, rfl, .inl ⟨.inl (.inl hp), ?_⟩⟩
  refine ⟨fun k m σ2 H2 => k + m = ds.length ∧ ∃ B2 ρ2, FR K H0 H00 L B2 σ2 ρ2 H2 ∧ Gr (upd B p (.lst vs)) H B2 H2 ∧ Wd k ρ2, ⟨ds.length, by omega, _, _, f0, Gr.refl .., w0⟩, ?_⟩
  rintro k m σ2 H2 ⟨hm, B2, ρ2, f2, g2, w2⟩
  have hp2 : B2 p = some (.lst vs) := g2.bex _ _ upd_same
  have sq2 : SqL K H2 p vs := .inl (.inl (f2.sub _ _ hp2))
  by_cases hlt : k < ds.length
  · right
    have ed : ds[k]? = some ds[k] := List.getElem?_eq_getElem hlt
    generalize ds[k] = d at ed
    obtain ⟨hn, tn⟩ := turn k d ρ2 ed w2
    obtain ⟨v, ev, iv⟩ := ipAll_at ia ed
    refine ⟨⟨_, v, sq2, ev⟩, fun σ' H' => ∃ B' ρ', FR K H0 H00 L B' σ' ρ' H' ∧ Gr (upd B p (.lst vs)) H B' H' ∧ Wd (k + 1) ρ', fun σ' H' z => ⟨m - 1, by omega, by omega, z⟩, fun v3 H3 hy => ?_⟩
    obtain ⟨rfl, hx⟩ := hy
    have hx := hx _ sq2
    rw [ev] at hx
    cases hx
    have f4 := f2.set hn (v := v) (sl := .dat d) ((iv.mono bb (Tups.of (Same.refl _))).mono g2.bex g2.tups) fun q a => by cases a
    refine hb H0 H00 L _ _ _ H3 _ _ f4 tn ?_ r ?_ ?_ (fun c B9 σ9 ρ9 H9 f9 g9 => x c B9 σ9 ρ9 H9 f9)
    · exact fun B4 σ4 ρ4 H4 f4 g4 q4 => ⟨B4, ρ4, f4, g2.trans g4, q4⟩
    · exact fun B4 σ4 ρ4 H4 f4 g4 q4 => q4.elim
    · exact fun B4 σ4 ρ4 H4 f4 g4 q4 => ⟨B4, ρ4, f4, g2.trans g4, q4⟩
  · left
    obtain rfl : k = ds.length := by omega
    obtain ⟨pe, ei2, q⟩ := wend ρ2 w2
    refine ⟨⟨_, sq2, by omega⟩, ?_⟩
    have f3 : FR K H0 H00 L (fun b => if b = p then none else B2 b) σ2 ρ2 H2 := f2.rebase pe fun b o e => by
      by_cases hb : b = p
      · rw [if_pos hb] at e; cases e
      · rw [if_neg hb] at e; exact e
    obtain ⟨v2, hv2, r2⟩ := f2.slot i _ ei2
    obtain rfl : v2 = .ref p := by cases r2; rfl
    have ia2 : IpAll K (fun b => if b = p then none else B2 b) H2 vs ds := ((ia.mono bb (Tups.of (Same.refl _))).mono g2.bex g2.tups).pure nl
    have f4 := f3.set (i := i) (v := .ref p) (sl := .own ds) (by unfold notInn; rw [ei2]; trivial) ⟨p, _, rfl, if_pos rfl, f2.sub _ _ hp2, ia2⟩ fun q _ e => by
      cases e
      refine ⟨fun z => ?_, frp⟩
      obtain ⟨_, _, nz, _⟩ := f2.own z
      rw [hp2] at nz; cases nz
    have es : σ2.set i (some (.ref p)) = σ2 := by
      apply List.ext_getElem?
      intro l
      by_cases hl : l = i
      · subst hl
        rw [List.getElem?_set_self (List.getElem?_eq_some_iff.mp hv2).1, hv2]
      · rw [List.getElem?_set_ne (Ne.symm hl)]
    rw [es] at f4
    exact n _ _ _ _ f4 q
end
section
variable {X : Cx} {W : WX} {body : List Stmt} {wb : SW} {pos : Pos}
theorem ds_forO (i j : Nat) {x y : Str} {px py : Pos} (hp : PassesOwn (model X.prog X.w) X.A X.env X.xe) (hc : X.calm = true) (hNd : X.N.Nodup) (hb : DSs X W body wb)
    (hN : X.N[i]? = some x := by rfl) (hv : Vis X.env.scope x := by first | exact Or.inl rfl | exact Or.inr (Or.inl rfl) | exact Or.inr (Or.inr rfl)) (hd : (x == ("__debug__" : Str)) = false := by decide) (hcd : (x == ("__classdict__" : Str)) = false := by decide)
    (hi : X.N[j]? = some y := by rfl) (hx : Loc X.env.scope y := by first | exact Or.inl rfl | exact Or.inr rfl) (hf : X.fn y = true ∨ X.env.scope.names.lookup y = some .local := by first | exact .inl rfl | exact .inr rfl | assumption)
    (hs : ∀ z, foldedSetIterable (.Name x px) X.env z = pure z := by intro _; rfl) : DS0 X W (.For (.Name y py) (.Name x px) body [] pos) (wForO i j wb) := by
  obtain ⟨tb, pb, sb⟩ := hb.ok
  exact ⟨_, ps_for hp hc (pi_seq (pe_var hN hv hd hcd)) (pg_name hNd hi hx hf) pb hs, sim_forO i j sb⟩
end
theorem forO_by {i j : Nat} {wb : SW} {E : EndsW} {ρ : En} {ds : List D} (e : ρ[i]? = some (some (.own ds))) (hij : i ≠ j) (nl : D.nolists ds = true) (Wd : Addr → Nat → En → Prop) (h0 : ∀ p, Wd p 0 (ρ.set i (some (.dat (.adr p)))))
    (he : ∀ p ρ2, Wd p ds.length ρ2 → pureEn ρ2 ∧ ρ2[i]? = some (some (.dat (.adr p))) ∧ E.nx (ρ2.set i (some (.own ds))))
    (ht : ∀ p k d ρ2, ds[k]? = some d → Wd p k ρ2 → notInn ρ2 j ∧ wb { E with nx := Wd p (k + 1), ct := Wd p (k + 1), bk := fun _ => False } (ρ2.set j (some (.dat d)))) : wForO i j wb E ρ :=
  ⟨ds, ⟨e, hij, nl⟩, fun p => ⟨Wd p, h0 p, he p, ht p⟩⟩
end DL

set_option Elab.async false
set_option linter.all false
set_option maxRecDepth 100000
set_option maxHeartbeats 4000000
namespace K34
open PySem L2 DL RX
def nI (l : List Nat) : List D := l.map fun i : Nat => D.int (Int.ofNat i)
def exD (p : List Nat) : D := .tup (nI p)
def exX (p : List Nat) : D := .tpx (nI p)
def Pt (b : Int) : Prop := 0 ≤ b ∧ b < 2147483647
/-- an exchange, whichever kind of tuple it is -/
def isE (d : D) (p : List Nat) : Prop := d = .tup (nI p) ∨ d = .tpx (nI p)
inductive Mk : List D → List (List Nat) → Prop where
  | nil : Mk [] []
  | cons {d : D} {p : List Nat} {ds : List D} {ps : List (List Nat)} : isE d p → Mk ds ps → Mk (d :: ds) (p :: ps)
/-- a list, locked or not -/
def isL (d : D) (es : List D) : Prop := d = .lst es ∨ d = .fl es
def grp (C : Addr) (n : Nat) (S : List (List Nat)) : D := .obj C ["things", "all_members"] [.int (n : Nat), .fl (S.map exX)]
/-- the law's list of members -/
def due (S : List (List Nat)) : D := .fl (S.map exX)
def f_behind : FD := fun ds Q _ => ∃ d p q n, ds = [d, exX q] ∧ isE d p ∧ Ex p n ∧ Ex q n ∧ Q (.dat (exX (comp p q)))
def f_back_of : FD := fun ds Q _ => ∃ p n, ds = [exX p] ∧ Ex p n ∧ Q (.dat (exX (inv p)))
def f_turned_by : FD := fun ds Q _ => ∃ p q n, ds = [exX p, exX q] ∧ Ex p n ∧ Ex q n ∧ Q (.dat (exX (cj p q)))
def f_all_made : FD := fun ds Q _ => ∃ (n : Nat) (dl : D) (es : List D) (ps : List (List Nat)), ds = [.int (n : Nat), dl] ∧ isL dl es ∧ 1 ≤ n ∧ n ≤ 5 ∧ Mk es ps ∧ (∀ p ∈ ps, Ex p n) ∧ Q (.own ((G n ps).map exX))
def f_Group___init__ : FC := fun ds Q _ => ∃ (n : Nat) (dl : D) (es : List D) (ps : List (List Nat)), ds = [.int (n : Nat), dl] ∧ isL dl es ∧ Mk es ps ∧ 1 ≤ n ∧ n ≤ 5 ∧ (∀ p ∈ ps, Ex p n) ∧ ps.length ≤ 1000 ∧ Q [.int (n : Nat), .fl ((G n ps).map exX)]
def f_Group_members (C : Addr) : FD := fun ds Q _ => ∃ n S, ds = [grp C n S] ∧ Q (.own (S.map exX))
def f_Group_size (C : Addr) : FD := fun ds Q _ => ∃ n S, ds = [grp C n S] ∧ Q (.dat (.int (S.length : Nat)))
def f_Group_commutator (C : Addr) : FD := fun ds Q _ => ∃ n S, ds = [grp C n S] ∧ IsG n S ∧ Q (.dat (grp C n (der n S)))
def f_Group_row (C : Addr) : FD := fun ds Q _ => ∃ n S, ds = [grp C n S] ∧ IsG n S ∧ Q (.own ((row n S).map (grp C n)))
def f_Group_ends (C : Addr) : FD := fun ds Q _ => ∃ n S, ds = [grp C n S] ∧ IsG n S ∧ Q (.dat (.bl (decide (((row n S).getLastD []).length = 1))))
def f_Group_turned (C : Addr) : FD := fun ds Q _ => ∃ n S e, ds = [grp C n S, exX e] ∧ IsG n S ∧ Ex e n ∧ Q (.dat (grp C n (turn n e S)))
def f_Group_keeps (C : Addr) : FD := fun ds Q _ => ∃ n S R, ds = [grp C n S, grp C n R] ∧ IsG n S ∧ IsG n R ∧ Q (.dat (.bl (kept S R)))
def f__law_pot : FD := fun ds Q _ => ∃ c : Int, ds = [.int c] ∧ ∀ a b : Int, Pt b → Q (.own [.int a, .int b])
def f__law_digit : FI := fun dl ds Q _ => ∃ a b m : Int, dl = [.int a, .int b] ∧ Pt b ∧ ds = [.int m] ∧ 0 < m ∧ m < 1000000000 ∧ ∀ d a' b' : Int, 0 ≤ d → d < m → Pt b' → Q (.dat (.int d)) [.int a', .int b']
def f__law_exchange : FI := fun dl ds Q _ => ∃ (a b : Int) (n : Nat), dl = [.int a, .int b] ∧ Pt b ∧ ds = [.int (n : Int)] ∧ 1 ≤ n ∧ n ≤ 5 ∧ ∀ (p : List Nat) (a' b' : Int), Ex p n → Pt b' → Q (.dat (.tpx (nI p))) [.int a', .int b']
def f__law_behind : FD := fun ds Q _ => ∃ d e p q n, ds = [d, e] ∧ isE d p ∧ isE e q ∧ Ex p n ∧ Ex q n ∧ Q (.dat (exX (comp p q)))
def f__law_back : FD := fun ds Q _ => ∃ p n, ds = [.tpx (nI p)] ∧ Ex p n ∧ Q (.dat (exX (inv p)))
def f__law_turned : FD := fun ds Q _ => ∃ d p q n, ds = [.tpx (nI p), d] ∧ isE d q ∧ Ex p n ∧ Ex q n ∧ Q (.dat (exX (cj p q)))
def f__law_made : FD := fun ds Q _ => ∃ (n : Nat) (dl : D) (ps : List (List Nat)), ds = [.int (n : Nat), dl] ∧ isL dl (ps.map exX) ∧ 1 ≤ n ∧ n ≤ 5 ∧ (∀ p ∈ ps, Ex p n) ∧ ps.length ≤ 1000 ∧ Q (.own ((G n ps).map exX))
def f__law_planted : FI := fun dl ds Q _ => ∃ (a b : Int) (n : Nat), dl = [.int a, .int b] ∧ Pt b ∧ ds = [.int (n : Int)] ∧ 1 ≤ n ∧ n ≤ 5 ∧ ∀ (ps : List (List Nat)) (a' b' : Int), (∀ p ∈ ps, Ex p n) → ps.length ≤ 3 → Pt b' → Q (.own (ps.map exX)) [.int a', .int b']
def f__law_makers : FI := fun dl ds Q _ => ∃ (a b : Int) (n : Nat), dl = [.int a, .int b] ∧ Pt b ∧ ds = [.int (n : Int)] ∧ 1 ≤ n ∧ n ≤ 5 ∧ ∀ (ps : List (List Nat)) (a' b' : Int), (∀ p ∈ ps, Ex p n) → ps.length ≤ 3 → Pt b' → Q (.own (ps.map exX)) [.int a', .int b']
def f_law : FD := fun ds Q _ => ∃ ns : List Int, ds = [.lst (ns.map .int)] ∧ Q (.dat (.bl true))
theorem len_behind : ∀ ds Qw Xw, f_behind ds Qw Xw → ds.length = 2 := by rintro ds Q X ⟨d, p, q, n, rfl, _⟩; rfl
theorem len_all_made : ∀ ds Qw Xw, f_all_made ds Qw Xw → ds.length = 2 := by rintro ds Q X ⟨a, dl, es, n, rfl, _⟩; rfl
theorem len_Group___init__ : ∀ ds Qw Xw, f_Group___init__ ds Qw Xw → ds.length + 1 = 3 := by rintro ds Q X ⟨a, b, es, n, rfl, _⟩; rfl
theorem len_Group_members {C : Addr} : ∀ ds Qw Xw, f_Group_members C ds Qw Xw → ds.length = 1 := by rintro ds Q X ⟨a, n, rfl, _⟩; rfl
theorem len_Group_size {C : Addr} : ∀ ds Qw Xw, f_Group_size C ds Qw Xw → ds.length = 1 := by rintro ds Q X ⟨a, n, rfl, _⟩; rfl
theorem len__law_pot : ∀ ds Qw Xw, f__law_pot ds Qw Xw → ds.length = 1 := by rintro ds Q X ⟨a, rfl, _⟩; rfl
theorem len__law_digit : ∀ dl ds Qw Xw, f__law_digit dl ds Qw Xw → ds.length + 1 = 2 := by rintro dl ds Q X ⟨a, b, m, _, _, rfl, _⟩; rfl
theorem len__law_exchange : ∀ dl ds Qw Xw, f__law_exchange dl ds Qw Xw → ds.length + 1 = 2 := by rintro dl ds Q X ⟨a, b, m, _, _, rfl, _⟩; rfl
theorem len__law_behind : ∀ ds Qw Xw, f__law_behind ds Qw Xw → ds.length = 2 := by rintro ds Q X ⟨a, b, p, q, n, rfl, _⟩; rfl
theorem len__law_back : ∀ ds Qw Xw, f__law_back ds Qw Xw → ds.length = 1 := by rintro ds Q X ⟨a, n, rfl, _⟩; rfl
theorem len__law_turned : ∀ ds Qw Xw, f__law_turned ds Qw Xw → ds.length = 2 := by rintro ds Q X ⟨a, b, p, q, rfl, _⟩; rfl
theorem len__law_made : ∀ ds Qw Xw, f__law_made ds Qw Xw → ds.length = 2 := by rintro ds Q X ⟨a, n, ps, rfl, _⟩; rfl
theorem len__law_planted : ∀ dl ds Qw Xw, f__law_planted dl ds Qw Xw → ds.length + 1 = 2 := by rintro dl ds Q X ⟨a, b, m, _, _, rfl, _⟩; rfl
theorem len__law_makers : ∀ dl ds Qw Xw, f__law_makers dl ds Qw Xw → ds.length + 1 = 2 := by rintro dl ds Q X ⟨a, b, m, _, _, rfl, _⟩; rfl
/-- a part, as a tuple -/
def ptD (R : List (List Nat)) : D := .tup (R.map exX)
/-- a part with its size -/
def prD (R : List (List Nat)) : D := .tup [.int (R.length : Nat), ptD R]
def leP (a b : List (List Nat)) : Bool := PySem.W.dataLe false D.py (prD a) (prD b)
/-- the parts, in order -/
noncomputable def prts (n : Nat) (S : List (List Nat)) : List (List (List Nat)) := (subs n S).mergeSort leP
def f_parts_made : FD := fun ds Q _ => ∃ (n : Nat) (S : List (List Nat)), ds = [.int (n : Nat), due S] ∧ IsG n S ∧ S.length ≤ 24 ∧ Q (.own ((prts n S).map ptD))
def f_Group_subgroups (C E : Addr) : FD := fun ds Q X => ∃ (n : Nat) (S : List (List Nat)), ds = [grp C n S] ∧ IsG n S ∧ S.length ≤ 24 ∧ Q (.own ((prts n S).map (grp C n)))
theorem len_parts_made : ∀ ds Qw Xw, f_parts_made ds Qw Xw → ds.length = 2 := by rintro ds Q X ⟨a, n, rfl, _⟩; rfl
theorem len_Group_subgroups {C E : Addr} : ∀ ds Qw Xw, f_Group_subgroups C E ds Qw Xw → ds.length = 1 := by rintro ds Q X ⟨a, n, rfl, _⟩; rfl
def f__law_small : FI := fun dl ds Q _ => ∃ (a b : Int) (n : Nat), dl = [.int a, .int b] ∧ Pt b ∧ ds = [.int (n : Int)] ∧ 1 ≤ n ∧ n ≤ 5 ∧ ∀ (ps : List (List Nat)) (a' b' : Int), (∀ p ∈ ps, Ex p n) → ps.length ≤ 3 → (G n ps).length ≤ 24 → Pt b' → Q (.own (ps.map exX)) [.int a', .int b']
def f_Group_many (C : Addr) : FD := fun ds Q _ => ∃ n S, ds = [grp C n S] ∧ Q (.dat (.int (n : Nat)))
def f_Group_orbits (C : Addr) : FD := fun ds Q _ => ∃ n S, ds = [grp C n S] ∧ IsG n S ∧ Q (.own ((orbs n S).map fun o => .fl (nI o)))
def f__law_whole : FD := fun ds Q _ => ∃ k : Int, ds = [.int k] ∧ Q (.dat (.bl true))
def f__law_is_exchange : FD := fun ds Q _ => ∃ p n, ds = [exX p, .int (n : Nat)] ∧ Ex p n ∧ Q (.dat (.bl true))
def f__law_orbits : FD := fun ds Q _ => ∃ n S, ds = [.int (n : Nat), due S] ∧ IsG n S ∧ Q (.own ((orbs n S).map fun o => .fl (nI o)))
def f__law_is_group (C : Addr) : FD := fun ds Q _ => ∃ n S, ds = [grp C n S, .int (n : Nat), due S] ∧ IsG n S ∧ Q (.dat (.bl true))
theorem len_Group_many {C : Addr} : ∀ ds Qw Xw, f_Group_many C ds Qw Xw → ds.length = 1 := by rintro ds Q X ⟨a, n, rfl, _⟩; rfl
theorem len_Group_orbits {C : Addr} : ∀ ds Qw Xw, f_Group_orbits C ds Qw Xw → ds.length = 1 := by rintro ds Q X ⟨a, n, rfl, _⟩; rfl
theorem len__law_whole : ∀ ds Qw Xw, f__law_whole ds Qw Xw → ds.length = 1 := by rintro ds Q X ⟨a, rfl, _⟩; rfl
theorem len__law_is_exchange : ∀ ds Qw Xw, f__law_is_exchange ds Qw Xw → ds.length = 2 := by rintro ds Q X ⟨a, n, rfl, _⟩; rfl
theorem len__law_orbits : ∀ ds Qw Xw, f__law_orbits ds Qw Xw → ds.length = 2 := by rintro ds Q X ⟨a, n, rfl, _⟩; rfl
theorem len__law_is_group {C : Addr} : ∀ ds Qw Xw, f__law_is_group C ds Qw Xw → ds.length = 3 := by rintro ds Q X ⟨a, n, rfl, _⟩; rfl
def f__law_closed : FD := fun ds Q _ => ∃ (n : Nat) (S : List (List Nat)), ds = [.int (n : Nat), due S] ∧ IsG n S ∧ Q (.dat (.bl true))
def f__law_all_told : FD := fun ds Q _ => ∃ (n : Nat) (S : List (List Nat)), ds = [.int (n : Nat), due S, .lst ((prts n S).map ptD)] ∧ IsG n S ∧ S.length ≤ 24 ∧ Q (.dat (.bl true))
def f__law_right (C : Addr) : FD := fun ds Q _ => ∃ (n : Nat) (S : List (List Nat)), ds = [grp C n S, .int (n : Nat), due S] ∧ IsG n S ∧ S.length ≤ 24 ∧ Q (.dat (.bl true))
theorem len__law_closed : ∀ ds Qw Xw, f__law_closed ds Qw Xw → ds.length = 2 := by rintro ds Q X ⟨a, n, rfl, _⟩; rfl
theorem len__law_all_told : ∀ ds Qw Xw, f__law_all_told ds Qw Xw → ds.length = 3 := by rintro ds Q X ⟨a, n, rfl, _⟩; rfl
theorem len__law_right {C : Addr} : ∀ ds Qw Xw, f__law_right C ds Qw Xw → ds.length = 3 := by rintro ds Q X ⟨a, n, rfl, _⟩; rfl
theorem len__law_small : ∀ dl ds Qw Xw, f__law_small dl ds Qw Xw → ds.length + 1 = 2 := by rintro dl ds Q X ⟨a, b, m, _, _, rfl, _⟩; rfl
end K34


set_option Elab.async false
set_option linter.all false
set_option maxRecDepth 100000
set_option maxHeartbeats 4000000
/-! printed by gen2.py: the text by places, names by slot -/
namespace K34
open PySem L2 DL RX
theorem sc_behind : FnScope ["one", "other", "place"] ["one", "other"] (defScope s_behind) := ⟨rfl, rfl, rfl, by decide +kernel, rfl, by decide +kernel, by decide +kernel⟩
theorem sc_all_made : FnScope ["many", "makers", "begin", "found", "waiting", "here", "maker", "more"] ["many", "makers"] (defScope s_all_made) := ⟨rfl, rfl, rfl, by decide +kernel, rfl, by decide +kernel, by decide +kernel⟩
theorem sc_parts_made : FnScope ["many", "members", "found", "waiting", "here", "member", "makers", "more", "size", "part"] ["many", "members"] (defScope s_parts_made) := ⟨rfl, rfl, rfl, by decide +kernel, rfl, by decide +kernel, by decide +kernel⟩
theorem sc_Group___init__ : FnScope ["self", "many", "makers", "maker"] ["self", "many", "makers"] (defScope s_Group___init__) := ⟨rfl, rfl, rfl, by decide +kernel, rfl, by decide +kernel, by decide +kernel⟩
theorem sc_Group_many : FnScope ["self"] ["self"] (defScope s_Group_many) := ⟨rfl, rfl, rfl, by decide +kernel, rfl, by decide +kernel, by decide +kernel⟩
theorem sc_Group_members : FnScope ["self"] ["self"] (defScope s_Group_members) := ⟨rfl, rfl, rfl, by decide +kernel, rfl, by decide +kernel, by decide +kernel⟩
theorem sc_Group_size : FnScope ["self"] ["self"] (defScope s_Group_size) := ⟨rfl, rfl, rfl, by decide +kernel, rfl, by decide +kernel, by decide +kernel⟩
theorem sc_Group_orbits : FnScope ["self", "found", "thing", "orbit", "member"] ["self"] (defScope s_Group_orbits) := ⟨rfl, rfl, rfl, by decide +kernel, rfl, by decide +kernel, by decide +kernel⟩
theorem sc_Group_subgroups : FnScope ["self", "part"] ["self"] (defScope s_Group_subgroups) := ⟨rfl, rfl, rfl, by decide +kernel, rfl, by decide +kernel, by decide +kernel⟩
theorem sc__law_pot : FnScope ["_law_cell"] ["_law_cell"] (defScope s__law_pot) := ⟨rfl, rfl, rfl, by decide +kernel, rfl, by decide +kernel, by decide +kernel⟩
theorem sc__law_digit : FnScope ["_law_pot_here", "_law_many", "_law_mixed", "_law_digit_here"] ["_law_pot_here", "_law_many"] (defScope s__law_digit) := ⟨rfl, rfl, rfl, by decide +kernel, rfl, by decide +kernel, by decide +kernel⟩
theorem sc__law_exchange : FnScope ["_law_pot_here", "_law_n", "_law_left", "_law_k"] ["_law_pot_here", "_law_n"] (defScope s__law_exchange) := ⟨rfl, rfl, rfl, by decide +kernel, rfl, by decide +kernel, by decide +kernel⟩
theorem sc__law_behind : FnScope ["_law_one", "_law_other", "_law_place"] ["_law_one", "_law_other"] (defScope s__law_behind) := ⟨rfl, rfl, rfl, by decide +kernel, rfl, by decide +kernel, by decide +kernel⟩
theorem sc__law_back : FnScope ["_law_one", "_law_thing"] ["_law_one"] (defScope s__law_back) := ⟨rfl, rfl, rfl, by decide +kernel, rfl, by decide +kernel, by decide +kernel⟩
theorem sc__law_turned : FnScope ["_law_e", "_law_member"] ["_law_e", "_law_member"] (defScope s__law_turned) := ⟨rfl, rfl, rfl, by decide +kernel, rfl, by decide +kernel, by decide +kernel⟩
theorem sc__law_made : FnScope ["_law_n", "_law_makers_here", "_law_found", "_law_have", "_law_at", "_law_maker", "_law_more"] ["_law_n", "_law_makers_here"] (defScope s__law_made) := ⟨rfl, rfl, rfl, by decide +kernel, rfl, by decide +kernel, by decide +kernel⟩
theorem sc__law_planted : FnScope ["_law_pot_here", "_law_n", "_law_some", "_law_row", "_law_e", "_law_one", "_law_two", "_law_three", "_law_four", "_law_five", "_law_maker"] ["_law_pot_here", "_law_n"] (defScope s__law_planted) := ⟨rfl, rfl, rfl, by decide +kernel, rfl, by decide +kernel, by decide +kernel⟩
theorem sc__law_makers : FnScope ["_law_pot_here", "_law_n", "_law_k"] ["_law_pot_here", "_law_n"] (defScope s__law_makers) := ⟨rfl, rfl, rfl, by decide +kernel, rfl, by decide +kernel, by decide +kernel⟩
theorem sc__law_small : FnScope ["_law_pot_here", "_law_n", "_law_makers_here"] ["_law_pot_here", "_law_n"] (defScope s__law_small) := ⟨rfl, rfl, rfl, by decide +kernel, rfl, by decide +kernel, by decide +kernel⟩
theorem sc__law_whole : FnScope ["_law_found"] ["_law_found"] (defScope s__law_whole) := ⟨rfl, rfl, rfl, by decide +kernel, rfl, by decide +kernel, by decide +kernel⟩
theorem sc__law_is_exchange : FnScope ["_law_found", "_law_n", "_law_one"] ["_law_found", "_law_n"] (defScope s__law_is_exchange) := ⟨rfl, rfl, rfl, by decide +kernel, rfl, by decide +kernel, by decide +kernel⟩
theorem sc__law_orbits : FnScope ["_law_n", "_law_members", "_law_found", "_law_thing", "_law_orbit", "_law_member"] ["_law_n", "_law_members"] (defScope s__law_orbits) := ⟨rfl, rfl, rfl, by decide +kernel, rfl, by decide +kernel, by decide +kernel⟩
theorem sc__law_is_group : FnScope ["_law_group", "_law_n", "_law_due", "_law_found", "_law_one"] ["_law_group", "_law_n", "_law_due"] (defScope s__law_is_group) := ⟨rfl, rfl, rfl, by decide +kernel, rfl, by decide +kernel, by decide +kernel⟩
theorem sc__law_closed : FnScope ["_law_n", "_law_members", "_law_have", "_law_one", "_law_other"] ["_law_n", "_law_members"] (defScope s__law_closed) := ⟨rfl, rfl, rfl, by decide +kernel, rfl, by decide +kernel, by decide +kernel⟩
theorem sc__law_all_told : FnScope ["_law_n", "_law_due", "_law_told", "_law_have", "_law_part", "_law_member"] ["_law_n", "_law_due", "_law_told"] (defScope s__law_all_told) := ⟨rfl, rfl, rfl, by decide +kernel, rfl, by decide +kernel, by decide +kernel⟩
theorem sc__law_right : FnScope ["_law_group", "_law_n", "_law_due", "_law_parts", "_law_told", "_law_part", "_law_keys", "_law_members", "_law_one"] ["_law_group", "_law_n", "_law_due"] (defScope s__law_right) := ⟨rfl, rfl, rfl, by decide +kernel, rfl, by decide +kernel, by decide +kernel⟩
theorem sc_law : FnScope ["_law_script", "_law_cell", "_law_pot_here", "_law_n", "_law_makers_here"] ["_law_script"] (defScope s_law) := ⟨rfl, rfl, rfl, by decide +kernel, rfl, by decide +kernel, by decide +kernel⟩
structure Txt (K : PySem.W.Frag) (mg : Str → Option Value) where
  a_behind : At K mg "behind" s_behind ["one", "other"]
  a_all_made : At K mg "all_made" s_all_made ["many", "makers"]
  a_parts_made : At K mg "parts_made" s_parts_made ["many", "members"]
  a_Group___init__ : AtM K "__init__" "Group.__init__" s_Group___init__ ["self", "many", "makers"]
  a_Group_many : AtM K "many" "Group.many" s_Group_many ["self"]
  a_Group_members : AtM K "members" "Group.members" s_Group_members ["self"]
  a_Group_size : AtM K "size" "Group.size" s_Group_size ["self"]
  a_Group_orbits : AtM K "orbits" "Group.orbits" s_Group_orbits ["self"]
  a_Group_subgroups : AtM K "subgroups" "Group.subgroups" s_Group_subgroups ["self"]
  a__law_pot : At K mg "_law_pot" s__law_pot ["_law_cell"]
  a__law_digit : At K mg "_law_digit" s__law_digit ["_law_pot_here", "_law_many"]
  a__law_exchange : At K mg "_law_exchange" s__law_exchange ["_law_pot_here", "_law_n"]
  a__law_behind : At K mg "_law_behind" s__law_behind ["_law_one", "_law_other"]
  a__law_back : At K mg "_law_back" s__law_back ["_law_one"]
  a__law_turned : At K mg "_law_turned" s__law_turned ["_law_e", "_law_member"]
  a__law_made : At K mg "_law_made" s__law_made ["_law_n", "_law_makers_here"]
  a__law_planted : At K mg "_law_planted" s__law_planted ["_law_pot_here", "_law_n"]
  a__law_makers : At K mg "_law_makers" s__law_makers ["_law_pot_here", "_law_n"]
  a__law_small : At K mg "_law_small" s__law_small ["_law_pot_here", "_law_n"]
  a__law_whole : At K mg "_law_whole" s__law_whole ["_law_found"]
  a__law_is_exchange : At K mg "_law_is_exchange" s__law_is_exchange ["_law_found", "_law_n"]
  a__law_orbits : At K mg "_law_orbits" s__law_orbits ["_law_n", "_law_members"]
  a__law_is_group : At K mg "_law_is_group" s__law_is_group ["_law_group", "_law_n", "_law_due"]
  a__law_closed : At K mg "_law_closed" s__law_closed ["_law_n", "_law_members"]
  a__law_all_told : At K mg "_law_all_told" s__law_all_told ["_law_n", "_law_due", "_law_told"]
  a__law_right : At K mg "_law_right" s__law_right ["_law_group", "_law_n", "_law_due"]
  a_law : At K mg "law" s_law ["_law_script"]
  n_tuple : mg "tuple" = none
  n_range : mg "range" = none
  n_sorted : mg "sorted" = none
  n_list : mg "list" = none
  n_len : mg "len" = none
  x_Group : Addr
  g_Group : mg "Group" = some (.ref x_Group)
  c_Group : Cls K x_Group
  na_Group_things : NoAttr K x_Group "things"
  na_Group_all_members : NoAttr K x_Group "all_members"
  n_any : mg "any" = none
  n_set : mg "set" = none
  c_MOST_WITH_PARTS : ∃ t, mg "MOST_WITH_PARTS" = some (.int 24 t)
  x_TooMany : Addr
  g_TooMany : mg "TooMany" = some (.ref x_TooMany)
  q_TooMany : PySem.W.excIn K x_TooMany [.type "ValueError", .type "Exception", .type "BaseException", .type "object"] "ValueError.__new__" = true
  k_TooMany : PySem.W.keepIn K (.ref x_TooMany) = true
  b_TooMany : PySem.W.subIn K (.ref x_TooMany) (.type "BaseException") = some true
  t_TooMany : PySem.W.typeIn K (.ref x_TooMany) = some (.type "type")
  mk_Group : L2.Mk K x_Group a_Group___init__.f
  n_max : mg "max" = none
  sr : seerB K = true
  n_int : mg "int" = none
  n_isinstance : mg "isinstance" = none
  n_bool : mg "bool" = none
  n_all : mg "all" = none
  m_Group_members : Meth K x_Group "members" a_Group_members.f
  oc_Group : ObjC K x_Group
  m_Group_size : Meth K x_Group "size" a_Group_size.f
  m_Group_many : Meth K x_Group "many" a_Group_many.f
  m_Group_orbits : Meth K x_Group "orbits" a_Group_orbits.f
  n_dict : mg "dict" = none
  m_Group_subgroups : Meth K x_Group "subgroups" a_Group_subgroups.f
section
variable {P : Program} [PlP P] {w : World} {K : PySem.W.Frag} {mg : Str → Option Value} {base : Heap}
def w_behind : SW := (wRet (wCB gTupX (wCons (wLc (wSrc (wVar 1)) [2] spName wYes (wOp gIx (wVar 0) (wVar 2)) [2]) wNil)))
theorem d_behind (T : Txt K mg) : ∀ (cdv : Value) (A : Around) (outer : List PySem.Env) (s : Shared) (H : Hp) (E : XK), Room 40 (A.deeper (PyProof.Rows.envOfC "behind" (defScope s_behind) s.heap.objs.size T.a_behind.f cdv)) → DSs (cxOf (L2N.CX P w) P w K mg base ["one", "other", "place"] "behind" (defScope s_behind) T.a_behind.f cdv A outer s H E) (fun c d _ H => E c d H) (defBody s_behind) (w_behind) := by
  intro cdv A outer s H E hr
  exact (dss_one (ds_ret (de_ct call_tupX cs_tupX (by rfl) T.n_tuple (by decide +kernel) (da_cons (de_lc (own := [("place", 2)]) rfl sc_behind.nd (di_seq (de_var 1)) (blkOk_by (own := [("place", 2)]) (N := ["one", "other", "place"]) (sc := defScope s_behind) (by decide +kernel)) (fun _ _ _ _ _ => (dg_name 2 sc_behind.nd)) (by decide) (fun _ _ _ _ _ => dts_nil) (fun _ _ _ _ _ => (de_ix (de_var 0) (de_var 2)))) da_nil))))
def w_all_made : SW := (wSeq (wSet 2 (wTupRgX (wRg1 (wVar 0)))) (wSeq (wSet 3 (wXDisp1 (wVar 2) (wC (.bl true)))) (wSeq (wSet 4 (wLst (wCons (wVar 2) wNil))) (wSeq (wWhile (wTb (wOp gNe (wVar 4) (wLst wNil))) (wSeq (wSet 5 (wMt0 mPop 4)) (wFor (wSrc (wVar 1)) [6] spName (wSeq (wSet 7 (wCallD f_behind (wCons (wVar 6) (wCons (wVar 5) wNil)))) (wIf (wTb (wXIn true 3 (wVar 7))) (wSeq (wXPut 3 (wVar 7) (wC (.bl true))) (wDrop (wMt mAppend 4 (wCons (wVar 7) wNil)))) wNext))))) (wRet (wXSort 3))))))
theorem d_all_made (T : Txt K mg) (h_behind : FnOk P w K mg base (L2N.CX P w) 41 T.a_behind.f T.a_behind.fd ["one", "other"] (spD K 2 f_behind)) : ∀ (cdv : Value) (A : Around) (outer : List PySem.Env) (s : Shared) (H : Hp) (E : XK), Room 41 (A.deeper (PyProof.Rows.envOfC "all_made" (defScope s_all_made) s.heap.objs.size T.a_all_made.f cdv)) → DSs (cxOf (L2N.CX P w) P w K mg base ["many", "makers", "begin", "found", "waiting", "here", "maker", "more"] "all_made" (defScope s_all_made) T.a_all_made.f cdv A outer s H E) (fun c d _ H => E c d H) (defBody s_all_made) (w_all_made) := by
  intro cdv A outer s H E hr
  exact (dss_cons (ds_set 2 sc_all_made.nd (de_tupRgX rfl (by rfl) T.n_tuple (by rfl) T.n_range (de_var 0))) (dss_cons (ds_set 3 sc_all_made.nd (de_xdisp1 (hu65 hr) (de_var 2) de_bl)) (dss_cons (ds_set 4 sc_all_made.nd (de_lst (da_cons (de_var 2) da_nil))) (dss_cons (ds_while (passes_of rfl) (dt_cmp (op_neD hr.units) ops_ne (de_var 4) (de_lst da_nil) (nomark _)) (dss_cons (ds_set 5 sc_all_made.nd (de_mt0 4 PySem.F.slot_list_pop PySem.F.type_list_pop mt_pop ms_pop)) (dss_one (ds_for (passes_of rfl) rfl (di_seq (de_var 1)) (dg_name 6 sc_all_made.nd) (dss_cons (ds_set 7 sc_all_made.nd (de_callD h_behind (hr.mono (by decide)) (by rfl) T.a_behind.g T.a_behind.F.kp T.a_behind.b (L2N.takes_of rfl rfl rfl rfl) len_behind (da_cons (de_var 6) (da_cons (de_var 5) da_nil)))) (dss_one (ds_if (dt_xnotin (hu65 hr) 3 (de_var 7)) (dss_cons (ds_xput (hu65 hr) 3 (de_var 7) de_bl) (dss_one (ds_expr (de_mt 4 PySem.F.slot_list_append PySem.F.type_list_append mt_append ms_append (da_cons (de_var 7) da_nil))))) dss_nil))))))) (dss_one (ds_ret (de_xsort rfl (by rfl) T.n_sorted 3)))))))
def w_parts_made : SW := (wSeq (wSet 2 (wUDisp1 (wCB gTuple (wCons (wCallD f_all_made (wCons (wVar 0) (wCons (wLst wNil) wNil))) wNil)) (wFl (wLst wNil)))) (wSeq (wSet 3 (wUList 2)) (wSeq (wWhile (wTb (wOp gNe (wVar 3) (wLst wNil))) (wSeq (wSet 4 (wMt0 mPop 3)) (wFor (wSrc (wVar 1)) [5] spName (wIf (wTb (wOp (gInT true) (wVar 5) (wVar 4))) (wSeq (wSet 6 (wFl (wOp gAddF (wUGet 2 (wVar 4)) (wLst (wCons (wVar 5) wNil))))) (wSeq (wSet 7 (wCB gTuple (wCons (wCallD f_all_made (wCons (wVar 0) (wCons (wVar 6) wNil))) wNil))) (wIf (wTb (wUIn true 2 (wVar 7))) (wSeq (wUPut 2 (wVar 7) (wVar 6)) (wDrop (wMt mAppend 3 (wCons (wVar 7) wNil)))) wNext))) wNext)))) (wLkU 2 (wRet (wLc (wSrc (wCB gSrtY (wCons (wLc (wKeysU (wVar 2)) [9] spName wYes (wTup (wCons (wCB gLen (wCons (wVar 9) wNil)) (wCons (wVar 9) wNil))) [9]) wNil))) [8, 9] (spTup 2) wYes (wVar 9) [8, 9]))))))
theorem d_parts_made (T : Txt K mg) (h_all_made : FnOk P w K mg base (L2N.CX P w) 42 T.a_all_made.f T.a_all_made.fd ["many", "makers"] (spD K 2 f_all_made)) : ∀ (cdv : Value) (A : Around) (outer : List PySem.Env) (s : Shared) (H : Hp) (E : XK), Room 42 (A.deeper (PyProof.Rows.envOfC "parts_made" (defScope s_parts_made) s.heap.objs.size T.a_parts_made.f cdv)) → DSs (cxOf (L2N.CX P w) P w K mg base ["many", "members", "found", "waiting", "here", "member", "makers", "more", "size", "part"] "parts_made" (defScope s_parts_made) T.a_parts_made.f cdv A outer s H E) (fun c d _ H => E c d H) (defBody s_parts_made) (w_parts_made) := by
  intro cdv A outer s H E hr
  exact (dss_cons (ds_set 2 sc_parts_made.nd (de_udisp1 (hu65 hr) (de_ct call_tuple_of cs_tuple (by rfl) T.n_tuple (by decide +kernel) (da_cons (de_callD h_all_made (hr.mono (by decide)) (by rfl) T.a_all_made.g T.a_all_made.F.kp T.a_all_made.b (L2N.takes_of rfl rfl rfl rfl) len_all_made (da_cons (de_var 0) (da_cons (de_lst da_nil) da_nil))) da_nil)) (de_fl (de_lst da_nil)))) (dss_cons (ds_set 3 sc_parts_made.nd (de_ulist rfl (by rfl) T.n_list 2)) (dss_cons (ds_while (passes_of rfl) (dt_cmp (op_neD hr.units) ops_ne (de_var 3) (de_lst da_nil) (nomark _)) (dss_cons (ds_set 4 sc_parts_made.nd (de_mt0 3 PySem.F.slot_list_pop PySem.F.type_list_pop mt_pop ms_pop)) (dss_one (ds_for (passes_of rfl) rfl (di_seq (de_var 1)) (dg_name 5 sc_parts_made.nd) (dss_one (ds_if (dt_cmp (op_notinT (hu65 hr)) ops_inT (de_var 5) (de_var 4) (by rfl)) (dss_cons (ds_set 6 sc_parts_made.nd (de_fl (de_op op_addA ops_addF (de_uget (hu65 hr) 2 (de_var 4)) (de_lst (da_cons (de_var 5) da_nil))))) (dss_cons (ds_set 7 sc_parts_made.nd (de_ct call_tuple_of cs_tuple (by rfl) T.n_tuple (by decide +kernel) (da_cons (de_callD h_all_made (hr.mono (by decide)) (by rfl) T.a_all_made.g T.a_all_made.F.kp T.a_all_made.b (L2N.takes_of rfl rfl rfl rfl) len_all_made (da_cons (de_var 0) (da_cons (de_var 6) da_nil))) da_nil))) (dss_one (ds_if (dt_unotin (hu65 hr) 2 (de_var 7)) (dss_cons (ds_uput (hu65 hr) 2 (de_var 7) (de_var 6)) (dss_one (ds_expr (de_mt 3 PySem.F.slot_list_append PySem.F.type_list_append mt_append ms_append (da_cons (de_var 7) da_nil))))) dss_nil)))) dss_nil)))))) (dss_one (ds_lkU 2 (ds_ret (de_lc (own := [("size", 8), ("part", 9)]) rfl sc_parts_made.nd (di_seq (de_cb (cr_srtY (hu65 hr)) cs_srtY (by rfl) T.n_sorted (by decide +kernel) (da_cons (de_lc (own := [("part", 9)]) rfl sc_parts_made.nd (di_keysU (de_var 2)) (blkOk_by (own := [("part", 9)]) (N := ["many", "members", "found", "waiting", "here", "member", "makers", "more", "size", "part"]) (sc := defScope s_parts_made) (by decide +kernel)) (fun _ _ _ _ _ => (dg_name 9 sc_parts_made.nd)) (by decide) (fun _ _ _ _ _ => dts_nil) (fun _ _ _ _ _ => (de_tup (da_cons (de_cb call_len_seq cs_len (by rfl) T.n_len (by decide +kernel) (da_cons (de_var 9) da_nil)) (da_cons (de_var 9) da_nil))))) da_nil))) (blkOk_by (own := [("size", 8), ("part", 9)]) (N := ["many", "members", "found", "waiting", "here", "member", "makers", "more", "size", "part"]) (sc := defScope s_parts_made) (by decide +kernel)) (fun _ _ _ _ _ => (dg_tup rfl (dgs_cons 8 sc_parts_made.nd (dgs_cons 9 sc_parts_made.nd dgs_nil)))) (by decide) (fun _ _ _ _ _ => dts_nil) (fun _ _ _ _ _ => (de_var 9)))))))))
def w_Group___init__ : EW := (wCallD f_all_made (wCons (wVar 1) (wCons (wLc (wSrc (wVar 2)) [3] spName wYes (wCB gTuple (wCons (wVar 3) wNil)) [3]) wNil)))
theorem ok_Group___init___of (T : Txt K mg) (h_all_made : FnOk P w K mg base (L2N.CX P w) 42 T.a_all_made.f T.a_all_made.fd ["many", "makers"] (spD K 2 f_all_made)) (hw : ∀ a ds Qw Xw, ds.length + 1 = (["self", "many", "makers"] : List Str).length → f_Group___init__ ds Qw Xw → D.noobjs ds = true ∧ ∃ d1, (startE ["self", "many", "makers", "maker"] (((.adr a) :: ds).map .dat))[1]? = some (some (.dat d1)) ∧ d1 ∈ ds ∧ d1.nolist = true ∧ (startE ["self", "many", "makers", "maker"] (((.adr a) :: ds).map .dat))[0]? = some (some (.dat (.adr a))) ∧ w_Group___init__ (startE ["self", "many", "makers", "maker"] (((.adr a) :: ds).map .dat)) (fun r ρ => match r with | .own es => ρ = startE ["self", "many", "makers", "maker"] (((.adr a) :: ds).map .dat) ∧ (D.nolists es = true ∧ D.noobjs es = true) ∧ Qw [d1, .fl es] | _ => False) (fun c _ => Xw c)) : FnOk P w K mg base (L2N.CX P w) 43 T.a_Group___init__.f T.a_Group___init__.fd ["self", "many", "makers"] (spC K T.x_Group ["things", "all_members"] 3 f_Group___init__) :=
  fn_C2 T.a_Group___init__.F sc_Group___init__ (by rfl) T.c_Group T.na_Group_things T.na_Group_all_members (by decide) (fun cdv A outer s H E hr => ⟨⟨de_var 0, de_var 0⟩, ⟨de_var 1, (de_callD h_all_made (hr.mono (by decide)) (by rfl) T.a_all_made.g T.a_all_made.F.kp T.a_all_made.b (L2N.takes_of rfl rfl rfl rfl) len_all_made (da_cons (de_var 1) (da_cons (de_lc (own := [("maker", 3)]) rfl sc_Group___init__.nd (di_seq (de_var 2)) (blkOk_by (own := [("maker", 3)]) (N := ["self", "many", "makers", "maker"]) (sc := defScope s_Group___init__) (by decide +kernel)) (fun _ _ _ _ _ => (dg_name 3 sc_Group___init__.nd)) (by decide) (fun _ _ _ _ _ => dts_nil) (fun _ _ _ _ _ => (de_ct call_tuple_of cs_tuple (by rfl) T.n_tuple (by decide +kernel) (da_cons (de_var 3) da_nil)))) da_nil)))⟩, rfl, rfl⟩) hw
def w_Group_many (T : Txt K mg) : SW := (wRet (wFld T.x_Group "things" (wVar 0)))
theorem d_Group_many (T : Txt K mg) : ∀ (cdv : Value) (A : Around) (outer : List PySem.Env) (s : Shared) (H : Hp) (E : XK), Room 40 (A.deeper (PyProof.Rows.envOfC "Group.many" (defScope s_Group_many) s.heap.objs.size T.a_Group_many.f cdv)) → DSs (cxOf (L2N.CX P w) P w K mg base ["self"] "Group.many" (defScope s_Group_many) T.a_Group_many.f cdv A outer s H E) (fun c d _ H => E c d H) (defBody s_Group_many) (w_Group_many T) := by
  intro cdv A outer s H E hr
  exact (dss_one (ds_ret (de_fld T.c_Group T.na_Group_things (de_var 0))))
def w_Group_members (T : Txt K mg) : SW := (wRet (wCB gList (wCons (wFld T.x_Group "all_members" (wVar 0)) wNil)))
theorem d_Group_members (T : Txt K mg) : ∀ (cdv : Value) (A : Around) (outer : List PySem.Env) (s : Shared) (H : Hp) (E : XK), Room 40 (A.deeper (PyProof.Rows.envOfC "Group.members" (defScope s_Group_members) s.heap.objs.size T.a_Group_members.f cdv)) → DSs (cxOf (L2N.CX P w) P w K mg base ["self"] "Group.members" (defScope s_Group_members) T.a_Group_members.f cdv A outer s H E) (fun c d _ H => E c d H) (defBody s_Group_members) (w_Group_members T) := by
  intro cdv A outer s H E hr
  exact (dss_one (ds_ret (de_ct call_list_of cs_list (by rfl) T.n_list (by decide +kernel) (da_cons (de_fld T.c_Group T.na_Group_all_members (de_var 0)) da_nil))))
def w_Group_size (T : Txt K mg) : SW := (wRet (wCB gLen (wCons (wFld T.x_Group "all_members" (wVar 0)) wNil)))
theorem d_Group_size (T : Txt K mg) : ∀ (cdv : Value) (A : Around) (outer : List PySem.Env) (s : Shared) (H : Hp) (E : XK), Room 40 (A.deeper (PyProof.Rows.envOfC "Group.size" (defScope s_Group_size) s.heap.objs.size T.a_Group_size.f cdv)) → DSs (cxOf (L2N.CX P w) P w K mg base ["self"] "Group.size" (defScope s_Group_size) T.a_Group_size.f cdv A outer s H E) (fun c d _ H => E c d H) (defBody s_Group_size) (w_Group_size T) := by
  intro cdv A outer s H E hr
  exact (dss_one (ds_ret (de_cb call_len_seq cs_len (by rfl) T.n_len (by decide +kernel) (da_cons (de_fld T.c_Group T.na_Group_all_members (de_var 0)) da_nil))))
def w_Group_orbits (T : Txt K mg) : SW := (wSeq (wSet 1 (wLst wNil)) (wSeq (wFor (wRg1 (wFld T.x_Group "things" (wVar 0))) [2] spName (wIf (wNot (wTru (wBor 1 (wCB gAny (wCons (wLc (wSrc (wVar 1)) [3] spName wYes (wOp gInL (wVar 2) (wVar 3)) [3]) wNil))))) (wDrop (wMt mAppend 1 (wCons (wFl (wCB gSS (wCons (wLc (wSrc (wFld T.x_Group "all_members" (wVar 0))) [4] spName wYes (wOp gIx (wVar 4) (wVar 2)) [4]) wNil))) wNil))) wNext)) (wRet (wVar 1))))
theorem d_Group_orbits (T : Txt K mg) : ∀ (cdv : Value) (A : Around) (outer : List PySem.Env) (s : Shared) (H : Hp) (E : XK), Room 40 (A.deeper (PyProof.Rows.envOfC "Group.orbits" (defScope s_Group_orbits) s.heap.objs.size T.a_Group_orbits.f cdv)) → DSs (cxOf (L2N.CX P w) P w K mg base ["self", "found", "thing", "orbit", "member"] "Group.orbits" (defScope s_Group_orbits) T.a_Group_orbits.f cdv A outer s H E) (fun c d _ H => E c d H) (defBody s_Group_orbits) (w_Group_orbits T) := by
  intro cdv A outer s H E hr
  exact (dss_cons (ds_set 1 sc_Group_orbits.nd (de_lst da_nil)) (dss_cons (ds_for (passes_of rfl) rfl (di_range1 (by rfl) T.n_range (de_fld T.c_Group T.na_Group_things (de_var 0))) (dg_name 2 sc_Group_orbits.nd) (dss_one (ds_if (dt_not (dt_tru (de_bor 1 (de_cb (cr_any rfl) cs_any (by rfl) T.n_any (by decide +kernel) (da_cons (de_lc (own := [("orbit", 3)]) rfl sc_Group_orbits.nd (di_seq (de_var 1)) (blkOk_by (own := [("orbit", 3)]) (N := ["self", "found", "thing", "orbit", "member"]) (sc := defScope s_Group_orbits) (by decide +kernel)) (fun _ _ _ _ _ => (dg_name 3 sc_Group_orbits.nd)) (by decide) (fun _ _ _ _ _ => dts_nil) (fun _ _ _ _ _ => (de_cmp (op_inD (hu65 hr)) ops_in (de_var 2) (de_var 3) (by rfl)))) da_nil))))) (dss_one (ds_expr (de_mt 1 PySem.F.slot_list_append PySem.F.type_list_append mt_append ms_append (da_cons (de_fl (de_sortSet rfl (by rfl) T.n_sorted (by rfl) T.n_set (de_lc (own := [("member", 4)]) rfl sc_Group_orbits.nd (di_seq (de_fld T.c_Group T.na_Group_all_members (de_var 0))) (blkOk_by (own := [("member", 4)]) (N := ["self", "found", "thing", "orbit", "member"]) (sc := defScope s_Group_orbits) (by decide +kernel)) (fun _ _ _ _ _ => (dg_name 4 sc_Group_orbits.nd)) (by decide) (fun _ _ _ _ _ => dts_nil) (fun _ _ _ _ _ => (de_ix (de_var 4) (de_var 2)))))) da_nil)))) dss_nil))) (dss_one (ds_ret (de_var 1)))))
def w_Group_subgroups (T : Txt K mg) : SW := (wSeq (wIf (wTb (wOp gGt (wCB gLen (wCons (wFld T.x_Group "all_members" (wVar 0)) wNil)) (wC (.int 24)))) (wRaise (.ref T.x_TooMany)) wNext) (wRet (wLc (wSrc (wCallD f_parts_made (wCons (wFld T.x_Group "things" (wVar 0)) (wCons (wFld T.x_Group "all_members" (wVar 0)) wNil)))) [1] spName wYes (wMake T.x_Group ["things", "all_members"] f_Group___init__ (wCons (wFld T.x_Group "things" (wVar 0)) (wCons (wCB gList (wCons (wVar 1) wNil)) wNil))) [1])))
theorem d_Group_subgroups (T : Txt K mg) (h_parts_made : FnOk P w K mg base (L2N.CX P w) 43 T.a_parts_made.f T.a_parts_made.fd ["many", "members"] (spD K 2 f_parts_made)) (h_Group___init__ : FnOk P w K mg base (L2N.CX P w) 43 T.a_Group___init__.f T.a_Group___init__.fd ["self", "many", "makers"] (spC K T.x_Group ["things", "all_members"] 3 f_Group___init__)) : ∀ (cdv : Value) (A : Around) (outer : List PySem.Env) (s : Shared) (H : Hp) (E : XK), Room 44 (A.deeper (PyProof.Rows.envOfC "Group.subgroups" (defScope s_Group_subgroups) s.heap.objs.size T.a_Group_subgroups.f cdv)) → DSs (cxOf (L2N.CX P w) P w K mg base ["self", "part"] "Group.subgroups" (defScope s_Group_subgroups) T.a_Group_subgroups.f cdv A outer s H E) (fun c d _ H => E c d H) (defBody s_Group_subgroups) (w_Group_subgroups T) := by
  intro cdv A outer s H E hr
  exact (dss_cons (ds_if (dt_cmp op_gt ops_gt (de_cb call_len_seq cs_len (by rfl) T.n_len (by decide +kernel) (da_cons (de_fld T.c_Group T.na_Group_all_members (de_var 0)) da_nil)) (de_gint (by rfl) T.c_MOST_WITH_PARTS) (nomark _)) (dss_one (ds_raise rfl (L2N.takes_of rfl rfl rfl rfl) (L2N.pmk_own PySem.F.excBase_ValueError T.q_TooMany T.g_TooMany T.k_TooMany (raises_own T.b_TooMany T.t_TooMany) rfl))) dss_nil) (dss_one (ds_ret (de_lc (own := [("part", 1)]) rfl sc_Group_subgroups.nd (di_seq (de_callD h_parts_made (hr.mono (by decide)) (by rfl) T.a_parts_made.g T.a_parts_made.F.kp T.a_parts_made.b (L2N.takes_of rfl rfl rfl rfl) len_parts_made (da_cons (de_fld T.c_Group T.na_Group_things (de_var 0)) (da_cons (de_fld T.c_Group T.na_Group_all_members (de_var 0)) da_nil)))) (blkOk_by (own := [("part", 1)]) (N := ["self", "part"]) (sc := defScope s_Group_subgroups) (by decide +kernel)) (fun _ _ _ _ _ => (dg_name 1 sc_Group_subgroups.nd)) (by decide) (fun _ _ _ _ _ => dts_nil) (fun _ _ _ _ _ => (de_make T.mk_Group h_Group___init__ (hr.mono (by decide)) (by rfl) T.g_Group T.a_Group___init__.b takesN0 len_Group___init__ (da_cons (de_fld T.c_Group T.na_Group_things (de_var 0)) (da_cons (de_ct call_list_of cs_list (by rfl) T.n_list (by decide +kernel) (da_cons (de_var 1) da_nil)) da_nil))))))))
def w__law_pot : SW := (wRet (wLst (wCons (wCB gMax (wCons (wC (.int 0)) (wCons (wOp gSub2 (wVar 0) (wOp gPow (wC (.int 10)) (wC (.int 18)))) wNil))) (wCons (wOp gAdd (wOp gMod (wVar 0) (wC (.int 2147483629))) (wC (.int 7))) wNil))))
theorem d__law_pot (T : Txt K mg) : ∀ (cdv : Value) (A : Around) (outer : List PySem.Env) (s : Shared) (H : Hp) (E : XK), Room 40 (A.deeper (PyProof.Rows.envOfC "_law_pot" (defScope s__law_pot) s.heap.objs.size T.a__law_pot.f cdv)) → DSs (cxOf (L2N.CX P w) P w K mg base ["_law_cell"] "_law_pot" (defScope s__law_pot) T.a__law_pot.f cdv A outer s H E) (fun c d _ H => E c d H) (defBody s__law_pot) (w__law_pot) := by
  intro cdv A outer s H E hr
  exact (dss_one (ds_ret (de_lst (da_cons (de_cb (call_max2 rfl) cs_max (by rfl) T.n_max (by decide +kernel) (da_cons de_int (da_cons (de_op op_sub ops_sub (de_var 0) (de_op op_pow ops_pow de_int de_int)) da_nil))) (da_cons (de_op op_addA ops_add (de_op op_modN ops_mod (de_var 0) de_int) de_int) da_nil)))))
def w__law_digit : SW := (wSeq (wIf (wTb (wOp gGt (wOp gIx (wVar 0) (wC (.int 0))) (wC (.int 0)))) (wSeq (wSet 3 (wOp gMod (wOp gIx (wVar 0) (wC (.int 0))) (wVar 1))) (wSeq (wSetIt 0 (wOp gDivP (wOp gIx (wVar 0) (wC (.int 0))) (wVar 1)) (wC (.int 0))) (wRet (wVar 3)))) wNext) (wSeq (wSetIt 0 (wOp gMod (wOp gAdd (wOp gMul (wOp gIx (wVar 0) (wC (.int 1))) (wC (.int 48271))) (wC (.int 11))) (wC (.int 2147483647))) (wC (.int 1))) (wSeq (wSet 2 (wOp gMod (wOp gMul (wOp gIx (wVar 0) (wC (.int 1))) (wOp gIx (wVar 0) (wC (.int 1)))) (wC (.int 2147483629)))) (wRet (wOp gMod (wOp gDivP (wOp gMod (wOp gMul (wVar 2) (wOp gIx (wVar 0) (wC (.int 1)))) (wC (.int 2147483587))) (wC (.int 5))) (wVar 1))))))
theorem d__law_digit (T : Txt K mg) : ∀ (cdv : Value) (A : Around) (outer : List PySem.Env) (s : Shared) (H : Hp) (E : XK), Room 40 (A.deeper (PyProof.Rows.envOfC "_law_digit" (defScope s__law_digit) s.heap.objs.size T.a__law_digit.f cdv)) → DSs (cxOf (L2N.CX P w) P w K mg base ["_law_pot_here", "_law_many", "_law_mixed", "_law_digit_here"] "_law_digit" (defScope s__law_digit) T.a__law_digit.f cdv A outer s H E) (fun c d _ H => E c d H) (defBody s__law_digit) (w__law_digit) := by
  intro cdv A outer s H E hr
  exact (dss_cons (ds_if (dt_cmp op_gt ops_gt (de_ix (de_var 0) de_int) de_int (nomark _)) (dss_cons (ds_set 3 sc__law_digit.nd (de_op op_modN ops_mod (de_ix (de_var 0) de_int) (de_var 1))) (dss_cons (ds_setIt 0 (de_op (op_fdivP ‹PlP P› (hr.mono (by decide)) ⟨_, _, rfl, rfl, rfl, rfl, rfl⟩ T.sr) ops_divP (de_ix (de_var 0) de_int) (de_var 1)) de_int (hp := fun p1 p2 => ps_asg p1 (pg_sub (pv 0) p2 set_list))) (dss_one (ds_ret (de_var 3))))) dss_nil) (dss_cons (ds_setIt 0 (de_op op_modN ops_mod (de_op op_addA ops_add (de_op op_mulI ops_mul (de_ix (de_var 0) de_int) de_int) de_int) de_int) de_int (hp := fun p1 p2 => ps_asg p1 (pg_sub (pv 0) p2 set_list))) (dss_cons (ds_set 2 sc__law_digit.nd (de_op op_modN ops_mod (de_op op_mulI ops_mul (de_ix (de_var 0) de_int) (de_ix (de_var 0) de_int)) de_int)) (dss_one (ds_ret (de_op op_modN ops_mod (de_op (op_fdivP ‹PlP P› (hr.mono (by decide)) ⟨_, _, rfl, rfl, rfl, rfl, rfl⟩ T.sr) ops_divP (de_op op_modN ops_mod (de_op op_mulI ops_mul (de_var 2) (de_ix (de_var 0) de_int)) de_int) de_int) (de_var 1)))))))
def w__law_exchange : SW := (wSeq (wSet 2 (wLstRg (wRg1 (wVar 1)))) (wRet (wCB gTupX (wCons (wLc (wRg1 (wVar 1)) [3] spName wYes (wMt mPopAt 2 (wCons (wCallI f__law_digit (wCons (wVar 0) (wCons (wOp gSub2 (wVar 1) (wVar 3)) wNil))) wNil)) [3]) wNil))))
theorem d__law_exchange (T : Txt K mg) (h__law_digit : FnOk P w K mg base (L2N.CX P w) 41 T.a__law_digit.f T.a__law_digit.fd ["_law_pot_here", "_law_many"] (spI K 2 f__law_digit)) : ∀ (cdv : Value) (A : Around) (outer : List PySem.Env) (s : Shared) (H : Hp) (E : XK), Room 41 (A.deeper (PyProof.Rows.envOfC "_law_exchange" (defScope s__law_exchange) s.heap.objs.size T.a__law_exchange.f cdv)) → DSs (cxOf (L2N.CX P w) P w K mg base ["_law_pot_here", "_law_n", "_law_left", "_law_k"] "_law_exchange" (defScope s__law_exchange) T.a__law_exchange.f cdv A outer s H E) (fun c d _ H => E c d H) (defBody s__law_exchange) (w__law_exchange) := by
  intro cdv A outer s H E hr
  exact (dss_cons (ds_set 2 sc__law_exchange.nd (de_lstRg1 rfl (by rfl) T.n_list (by rfl) T.n_range (de_var 1))) (dss_one (ds_ret (de_ct call_tupX cs_tupX (by rfl) T.n_tuple (by decide +kernel) (da_cons (de_lc (own := [("_law_k", 3)]) rfl sc__law_exchange.nd (di_range1 (by rfl) T.n_range (de_var 1)) (blkOk_by (own := [("_law_k", 3)]) (N := ["_law_pot_here", "_law_n", "_law_left", "_law_k"]) (sc := defScope s__law_exchange) (by decide +kernel)) (fun _ _ _ _ _ => (dg_name 3 sc__law_exchange.nd)) (by decide) (fun _ _ _ _ _ => dts_nil) (fun _ _ _ _ _ => (de_mt 2 PySem.F.slot_list_pop PySem.F.type_list_pop mt_popAt ms_popAt (da_cons (de_callI h__law_digit (hr.mono (by decide)) (by rfl) T.a__law_digit.g T.a__law_digit.F.kp T.a__law_digit.b takesN0 len__law_digit (da_cons (de_var 0) (da_cons (de_op op_sub ops_sub (de_var 1) (de_var 3)) da_nil))) da_nil)))) da_nil)))))
def w__law_behind : SW := (wRet (wCB gTupX (wCons (wLc (wSrc (wVar 1)) [2] spName wYes (wOp gIx (wVar 0) (wVar 2)) [2]) wNil)))
theorem d__law_behind (T : Txt K mg) : ∀ (cdv : Value) (A : Around) (outer : List PySem.Env) (s : Shared) (H : Hp) (E : XK), Room 40 (A.deeper (PyProof.Rows.envOfC "_law_behind" (defScope s__law_behind) s.heap.objs.size T.a__law_behind.f cdv)) → DSs (cxOf (L2N.CX P w) P w K mg base ["_law_one", "_law_other", "_law_place"] "_law_behind" (defScope s__law_behind) T.a__law_behind.f cdv A outer s H E) (fun c d _ H => E c d H) (defBody s__law_behind) (w__law_behind) := by
  intro cdv A outer s H E hr
  exact (dss_one (ds_ret (de_ct call_tupX cs_tupX (by rfl) T.n_tuple (by decide +kernel) (da_cons (de_lc (own := [("_law_place", 2)]) rfl sc__law_behind.nd (di_seq (de_var 1)) (blkOk_by (own := [("_law_place", 2)]) (N := ["_law_one", "_law_other", "_law_place"]) (sc := defScope s__law_behind) (by decide +kernel)) (fun _ _ _ _ _ => (dg_name 2 sc__law_behind.nd)) (by decide) (fun _ _ _ _ _ => dts_nil) (fun _ _ _ _ _ => (de_ix (de_var 0) (de_var 2)))) da_nil))))
def w__law_back : SW := (wRet (wCB gTupX (wCons (wLc (wRg1 (wCB gLen (wCons (wVar 0) wNil))) [1] spName wYes (wIdx (wVar 0) (wVar 1)) [1]) wNil)))
theorem d__law_back (T : Txt K mg) : ∀ (cdv : Value) (A : Around) (outer : List PySem.Env) (s : Shared) (H : Hp) (E : XK), Room 40 (A.deeper (PyProof.Rows.envOfC "_law_back" (defScope s__law_back) s.heap.objs.size T.a__law_back.f cdv)) → DSs (cxOf (L2N.CX P w) P w K mg base ["_law_one", "_law_thing"] "_law_back" (defScope s__law_back) T.a__law_back.f cdv A outer s H E) (fun c d _ H => E c d H) (defBody s__law_back) (w__law_back) := by
  intro cdv A outer s H E hr
  exact (dss_one (ds_ret (de_ct call_tupX cs_tupX (by rfl) T.n_tuple (by decide +kernel) (da_cons (de_lc (own := [("_law_thing", 1)]) rfl sc__law_back.nd (di_range1 (by rfl) T.n_range (de_cb call_len_seq cs_len (by rfl) T.n_len (by decide +kernel) (da_cons (de_var 0) da_nil))) (blkOk_by (own := [("_law_thing", 1)]) (N := ["_law_one", "_law_thing"]) (sc := defScope s__law_back) (by decide +kernel)) (fun _ _ _ _ _ => (dg_name 1 sc__law_back.nd)) (by decide) (fun _ _ _ _ _ => dts_nil) (fun _ _ _ _ _ => (de_idx (de_var 0) (de_var 1)))) da_nil))))
def w__law_turned : SW := (wRet (wCallD f__law_behind (wCons (wCallD f__law_behind (wCons (wVar 0) (wCons (wVar 1) wNil))) (wCons (wCallD f__law_back (wCons (wVar 0) wNil)) wNil))))
theorem d__law_turned (T : Txt K mg) (h__law_behind : FnOk P w K mg base (L2N.CX P w) 41 T.a__law_behind.f T.a__law_behind.fd ["_law_one", "_law_other"] (spD K 2 f__law_behind)) (h__law_back : FnOk P w K mg base (L2N.CX P w) 41 T.a__law_back.f T.a__law_back.fd ["_law_one"] (spD K 1 f__law_back)) : ∀ (cdv : Value) (A : Around) (outer : List PySem.Env) (s : Shared) (H : Hp) (E : XK), Room 41 (A.deeper (PyProof.Rows.envOfC "_law_turned" (defScope s__law_turned) s.heap.objs.size T.a__law_turned.f cdv)) → DSs (cxOf (L2N.CX P w) P w K mg base ["_law_e", "_law_member"] "_law_turned" (defScope s__law_turned) T.a__law_turned.f cdv A outer s H E) (fun c d _ H => E c d H) (defBody s__law_turned) (w__law_turned) := by
  intro cdv A outer s H E hr
  exact (dss_one (ds_ret (de_callD h__law_behind (hr.mono (by decide)) (by rfl) T.a__law_behind.g T.a__law_behind.F.kp T.a__law_behind.b (L2N.takes_of rfl rfl rfl rfl) len__law_behind (da_cons (de_callD h__law_behind (hr.mono (by decide)) (by rfl) T.a__law_behind.g T.a__law_behind.F.kp T.a__law_behind.b (L2N.takes_of rfl rfl rfl rfl) len__law_behind (da_cons (de_var 0) (da_cons (de_var 1) da_nil))) (da_cons (de_callD h__law_back (hr.mono (by decide)) (by rfl) T.a__law_back.g T.a__law_back.F.kp T.a__law_back.b (L2N.takes_of rfl rfl rfl rfl) len__law_back (da_cons (de_var 0) da_nil)) da_nil)))))
def w__law_made : SW := (wSeq (wSet 2 (wLst (wCons (wTupRgX (wRg1 (wVar 0))) wNil))) (wSeq (wSet 3 (wXDisp1 (wOp gIx (wVar 2) (wC (.int 0))) (wC (.bl true)))) (wSeq (wSet 4 (wC (.int 0))) (wSeq (wWhile (wTb (wOp gLt (wVar 4) (wCB gLen (wCons (wVar 2) wNil)))) (wSeq (wFor (wSrc (wVar 1)) [5] spName (wSeq (wSet 6 (wCallD f__law_behind (wCons (wOp gIx (wVar 2) (wVar 4)) (wCons (wVar 5) wNil)))) (wIf (wTb (wXIn true 3 (wVar 6))) (wSeq (wXPut 3 (wVar 6) (wC (.bl true))) (wDrop (wMt mAppend 2 (wCons (wVar 6) wNil)))) wNext))) (wSet 4 (wOp gAdd (wVar 4) (wC (.int 1)))))) (wRet (wCB gSrtX (wCons (wVar 2) wNil)))))))
theorem d__law_made (T : Txt K mg) (h__law_behind : FnOk P w K mg base (L2N.CX P w) 41 T.a__law_behind.f T.a__law_behind.fd ["_law_one", "_law_other"] (spD K 2 f__law_behind)) : ∀ (cdv : Value) (A : Around) (outer : List PySem.Env) (s : Shared) (H : Hp) (E : XK), Room 41 (A.deeper (PyProof.Rows.envOfC "_law_made" (defScope s__law_made) s.heap.objs.size T.a__law_made.f cdv)) → DSs (cxOf (L2N.CX P w) P w K mg base ["_law_n", "_law_makers_here", "_law_found", "_law_have", "_law_at", "_law_maker", "_law_more"] "_law_made" (defScope s__law_made) T.a__law_made.f cdv A outer s H E) (fun c d _ H => E c d H) (defBody s__law_made) (w__law_made) := by
  intro cdv A outer s H E hr
  exact (dss_cons (ds_set 2 sc__law_made.nd (de_lst (da_cons (de_tupRgX rfl (by rfl) T.n_tuple (by rfl) T.n_range (de_var 0)) da_nil))) (dss_cons (ds_set 3 sc__law_made.nd (de_xdisp1 (hu65 hr) (de_ix (de_var 2) de_int) de_bl)) (dss_cons (ds_set 4 sc__law_made.nd de_int) (dss_cons (ds_while (passes_of rfl) (dt_cmp op_lt ops_lt (de_var 4) (de_cb call_len_seq cs_len (by rfl) T.n_len (by decide +kernel) (da_cons (de_var 2) da_nil)) (nomark _)) (dss_cons (ds_for (passes_of rfl) rfl (di_seq (de_var 1)) (dg_name 5 sc__law_made.nd) (dss_cons (ds_set 6 sc__law_made.nd (de_callD h__law_behind (hr.mono (by decide)) (by rfl) T.a__law_behind.g T.a__law_behind.F.kp T.a__law_behind.b (L2N.takes_of rfl rfl rfl rfl) len__law_behind (da_cons (de_ix (de_var 2) (de_var 4)) (da_cons (de_var 5) da_nil)))) (dss_one (ds_if (dt_xnotin (hu65 hr) 3 (de_var 6)) (dss_cons (ds_xput (hu65 hr) 3 (de_var 6) de_bl) (dss_one (ds_expr (de_mt 2 PySem.F.slot_list_append PySem.F.type_list_append mt_append ms_append (da_cons (de_var 6) da_nil))))) dss_nil)))) (dss_one (ds_set 4 sc__law_made.nd (de_op op_addA ops_add (de_var 4) de_int))))) (dss_one (ds_ret (de_cb cr_srtT cs_srtX (by rfl) T.n_sorted (by decide +kernel) (da_cons (de_var 2) da_nil))))))))
def w__law_planted : SW := (wSeq (wSetT [5, 6, 7] (wTup (wCons (wTup (wCons (wC (.int 1)) (wCons (wC (.int 0)) (wCons (wC (.int 2)) (wCons (wC (.int 3)) (wCons (wC (.int 4)) wNil)))))) (wCons (wTup (wCons (wC (.int 1)) (wCons (wC (.int 0)) (wCons (wC (.int 3)) (wCons (wC (.int 2)) (wCons (wC (.int 4)) wNil)))))) (wCons (wTup (wCons (wC (.int 1)) (wCons (wC (.int 2)) (wCons (wC (.int 0)) (wCons (wC (.int 3)) (wCons (wC (.int 4)) wNil)))))) wNil))))) (wSeq (wSetT [8, 9] (wTup (wCons (wTup (wCons (wC (.int 1)) (wCons (wC (.int 2)) (wCons (wC (.int 3)) (wCons (wC (.int 0)) (wCons (wC (.int 4)) wNil)))))) (wCons (wTup (wCons (wC (.int 1)) (wCons (wC (.int 2)) (wCons (wC (.int 3)) (wCons (wC (.int 4)) (wCons (wC (.int 0)) wNil)))))) wNil)))) (wSeq (wSet 2 (wLst (wCons (wLst (wCons (wVar 5) wNil)) (wCons (wLst (wCons (wVar 6) wNil)) (wCons (wLst (wCons (wVar 7) wNil)) (wCons (wLst (wCons (wVar 8) wNil)) (wCons (wLst (wCons (wVar 9) wNil)) (wCons (wLst (wCons (wVar 6) (wCons (wTup (wCons (wC (.int 2)) (wCons (wC (.int 3)) (wCons (wC (.int 0)) (wCons (wC (.int 1)) (wCons (wC (.int 4)) wNil)))))) wNil))) (wCons (wLst (wCons (wVar 5) (wCons (wTup (wCons (wC (.int 0)) (wCons (wC (.int 1)) (wCons (wC (.int 3)) (wCons (wC (.int 2)) (wCons (wC (.int 4)) wNil)))))) wNil))) wNil))))))))) (wSeq (wSet 2 (wOp gAdd (wVar 2) (wLst (wCons (wLst (wCons (wVar 8) (wCons (wTup (wCons (wC (.int 2)) (wCons (wC (.int 1)) (wCons (wC (.int 0)) (wCons (wC (.int 3)) (wCons (wC (.int 4)) wNil)))))) wNil))) (wCons (wLst (wCons (wVar 7) (wCons (wVar 5) wNil))) (wCons (wLst (wCons (wVar 7) (wCons (wTup (wCons (wC (.int 1)) (wCons (wC (.int 0)) (wCons (wC (.int 2)) (wCons (wC (.int 4)) (wCons (wC (.int 3)) wNil)))))) wNil))) (wCons (wLst (wCons (wTup (wCons (wC (.int 1)) (wCons (wC (.int 2)) (wCons (wC (.int 0)) (wCons (wC (.int 4)) (wCons (wC (.int 3)) wNil)))))) wNil)) wNil))))))) (wSeq (wSet 2 (wOp gAdd (wVar 2) (wLst (wCons (wLst (wCons (wVar 7) (wCons (wVar 5) (wCons (wTup (wCons (wC (.int 0)) (wCons (wC (.int 1)) (wCons (wC (.int 2)) (wCons (wC (.int 4)) (wCons (wC (.int 3)) wNil)))))) wNil)))) (wCons (wLst (wCons (wVar 7) (wCons (wVar 6) wNil))) (wCons (wLst (wCons (wVar 8) (wCons (wVar 5) wNil))) (wCons (wLst (wCons (wVar 9) (wCons (wTup (wCons (wC (.int 0)) (wCons (wC (.int 4)) (wCons (wC (.int 3)) (wCons (wC (.int 2)) (wCons (wC (.int 1)) wNil)))))) wNil))) wNil))))))) (wSeq (wSet 2 (wOp gAdd (wVar 2) (wLst (wCons (wLst (wCons (wVar 9) (wCons (wTup (wCons (wC (.int 0)) (wCons (wC (.int 2)) (wCons (wC (.int 4)) (wCons (wC (.int 1)) (wCons (wC (.int 3)) wNil)))))) wNil))) (wCons (wLst (wCons (wVar 9) (wCons (wVar 7) wNil))) (wCons (wLst (wCons (wVar 9) (wCons (wVar 5) wNil))) (wCons (wLst (wCons (wVar 7) (wCons (wTup (wCons (wC (.int 0)) (wCons (wC (.int 1)) (wCons (wC (.int 2)) (wCons (wC (.int 4)) (wCons (wC (.int 3)) wNil)))))) wNil))) wNil))))))) (wSeq (wSet 3 (wLc (wSrc (wOp gIx (wVar 2) (wCallI f__law_digit (wCons (wVar 0) (wCons (wCB gLen (wCons (wVar 2) wNil)) wNil))))) [10] spName wYes (wSl (wVar 10) wNoPart (wPart (wVar 1))) [10])) (wSeq (wSet 4 (wCallI f__law_exchange (wCons (wVar 0) (wCons (wVar 1) wNil)))) (wFrz 3 (wRet (wLc (wSrc (wVar 3)) [10] spName (wTb (wOp gEq (wCB gSrt (wCons (wVar 10) wNil)) (wLstRg (wRg1 (wVar 1))))) (wCallD f__law_turned (wCons (wVar 4) (wCons (wVar 10) wNil))) [10])))))))))))
theorem d__law_planted (T : Txt K mg) (h__law_digit : FnOk P w K mg base (L2N.CX P w) 41 T.a__law_digit.f T.a__law_digit.fd ["_law_pot_here", "_law_many"] (spI K 2 f__law_digit)) (h__law_exchange : FnOk P w K mg base (L2N.CX P w) 42 T.a__law_exchange.f T.a__law_exchange.fd ["_law_pot_here", "_law_n"] (spI K 2 f__law_exchange)) (h__law_turned : FnOk P w K mg base (L2N.CX P w) 42 T.a__law_turned.f T.a__law_turned.fd ["_law_e", "_law_member"] (spD K 2 f__law_turned)) : ∀ (cdv : Value) (A : Around) (outer : List PySem.Env) (s : Shared) (H : Hp) (E : XK), Room 42 (A.deeper (PyProof.Rows.envOfC "_law_planted" (defScope s__law_planted) s.heap.objs.size T.a__law_planted.f cdv)) → DSs (cxOf (L2N.CX P w) P w K mg base ["_law_pot_here", "_law_n", "_law_some", "_law_row", "_law_e", "_law_one", "_law_two", "_law_three", "_law_four", "_law_five", "_law_maker"] "_law_planted" (defScope s__law_planted) T.a__law_planted.f cdv A outer s H E) (fun c d _ H => E c d H) (defBody s__law_planted) (w__law_planted) := by
  intro cdv A outer s H E hr
  exact (dss_cons (ds_setT rfl (de_tup (da_cons (de_tup (da_cons de_int (da_cons de_int (da_cons de_int (da_cons de_int (da_cons de_int da_nil)))))) (da_cons (de_tup (da_cons de_int (da_cons de_int (da_cons de_int (da_cons de_int (da_cons de_int da_nil)))))) (da_cons (de_tup (da_cons de_int (da_cons de_int (da_cons de_int (da_cons de_int (da_cons de_int da_nil)))))) da_nil)))) (dgs_cons 5 sc__law_planted.nd (dgs_cons 6 sc__law_planted.nd (dgs_cons 7 sc__law_planted.nd dgs_nil)))) (dss_cons (ds_setT rfl (de_tup (da_cons (de_tup (da_cons de_int (da_cons de_int (da_cons de_int (da_cons de_int (da_cons de_int da_nil)))))) (da_cons (de_tup (da_cons de_int (da_cons de_int (da_cons de_int (da_cons de_int (da_cons de_int da_nil)))))) da_nil))) (dgs_cons 8 sc__law_planted.nd (dgs_cons 9 sc__law_planted.nd dgs_nil))) (dss_cons (ds_set 2 sc__law_planted.nd (de_lst (da_cons (de_lst (da_cons (de_var 5) da_nil)) (da_cons (de_lst (da_cons (de_var 6) da_nil)) (da_cons (de_lst (da_cons (de_var 7) da_nil)) (da_cons (de_lst (da_cons (de_var 8) da_nil)) (da_cons (de_lst (da_cons (de_var 9) da_nil)) (da_cons (de_lst (da_cons (de_var 6) (da_cons (de_tup (da_cons de_int (da_cons de_int (da_cons de_int (da_cons de_int (da_cons de_int da_nil)))))) da_nil))) (da_cons (de_lst (da_cons (de_var 5) (da_cons (de_tup (da_cons de_int (da_cons de_int (da_cons de_int (da_cons de_int (da_cons de_int da_nil)))))) da_nil))) da_nil))))))))) (dss_cons (ds_set 2 sc__law_planted.nd (de_op op_addA ops_add (de_var 2) (de_lst (da_cons (de_lst (da_cons (de_var 8) (da_cons (de_tup (da_cons de_int (da_cons de_int (da_cons de_int (da_cons de_int (da_cons de_int da_nil)))))) da_nil))) (da_cons (de_lst (da_cons (de_var 7) (da_cons (de_var 5) da_nil))) (da_cons (de_lst (da_cons (de_var 7) (da_cons (de_tup (da_cons de_int (da_cons de_int (da_cons de_int (da_cons de_int (da_cons de_int da_nil)))))) da_nil))) (da_cons (de_lst (da_cons (de_tup (da_cons de_int (da_cons de_int (da_cons de_int (da_cons de_int (da_cons de_int da_nil)))))) da_nil)) da_nil))))))) (dss_cons (ds_set 2 sc__law_planted.nd (de_op op_addA ops_add (de_var 2) (de_lst (da_cons (de_lst (da_cons (de_var 7) (da_cons (de_var 5) (da_cons (de_tup (da_cons de_int (da_cons de_int (da_cons de_int (da_cons de_int (da_cons de_int da_nil)))))) da_nil)))) (da_cons (de_lst (da_cons (de_var 7) (da_cons (de_var 6) da_nil))) (da_cons (de_lst (da_cons (de_var 8) (da_cons (de_var 5) da_nil))) (da_cons (de_lst (da_cons (de_var 9) (da_cons (de_tup (da_cons de_int (da_cons de_int (da_cons de_int (da_cons de_int (da_cons de_int da_nil)))))) da_nil))) da_nil))))))) (dss_cons (ds_set 2 sc__law_planted.nd (de_op op_addA ops_add (de_var 2) (de_lst (da_cons (de_lst (da_cons (de_var 9) (da_cons (de_tup (da_cons de_int (da_cons de_int (da_cons de_int (da_cons de_int (da_cons de_int da_nil)))))) da_nil))) (da_cons (de_lst (da_cons (de_var 9) (da_cons (de_var 7) da_nil))) (da_cons (de_lst (da_cons (de_var 9) (da_cons (de_var 5) da_nil))) (da_cons (de_lst (da_cons (de_var 7) (da_cons (de_tup (da_cons de_int (da_cons de_int (da_cons de_int (da_cons de_int (da_cons de_int da_nil)))))) da_nil))) da_nil))))))) (dss_cons (ds_setLc 3 (own := [("_law_maker", 10)]) rfl sc__law_planted.nd (di_seq (de_ix (de_var 2) (de_callI h__law_digit (hr.mono (by decide)) (by rfl) T.a__law_digit.g T.a__law_digit.F.kp T.a__law_digit.b (L2N.takes_of rfl rfl rfl rfl) len__law_digit (da_cons (de_var 0) (da_cons (de_cb call_len_seq cs_len (by rfl) T.n_len (by decide +kernel) (da_cons (de_var 2) da_nil)) da_nil))))) (blkOk_by (own := [("_law_maker", 10)]) (N := ["_law_pot_here", "_law_n", "_law_some", "_law_row", "_law_e", "_law_one", "_law_two", "_law_three", "_law_four", "_law_five", "_law_maker"]) (sc := defScope s__law_planted) (by decide +kernel)) (fun _ _ _ _ _ => (dg_name 10 sc__law_planted.nd)) (by decide) (fun _ _ _ _ _ => dts_nil) (fun _ _ _ _ _ => (de_sl (de_var 10) do_none (do_some (de_var 1)))) (sw_true rfl rfl rfl (by decide +kernel))) (dss_cons (ds_set 4 sc__law_planted.nd (de_callI h__law_exchange (hr.mono (by decide)) (by rfl) T.a__law_exchange.g T.a__law_exchange.F.kp T.a__law_exchange.b (L2N.takes_of rfl rfl rfl rfl) len__law_exchange (da_cons (de_var 0) (da_cons (de_var 1) da_nil)))) (dss_one (ds_frz 3 (ds_ret (de_lc (own := [("_law_maker", 10)]) rfl sc__law_planted.nd (di_seq (de_var 3)) (blkOk_by (own := [("_law_maker", 10)]) (N := ["_law_pot_here", "_law_n", "_law_some", "_law_row", "_law_e", "_law_one", "_law_two", "_law_three", "_law_four", "_law_five", "_law_maker"]) (sc := defScope s__law_planted) (by decide +kernel)) (fun _ _ _ _ _ => (dg_name 10 sc__law_planted.nd)) (by decide) (fun _ _ _ _ _ => (dts_one (dt_cmp (op_eqD hr.units) ops_eq (de_cb cr_srt cs_srt (by rfl) T.n_sorted (by decide +kernel) (da_cons (de_var 10) da_nil)) (de_lstRg1 rfl (by rfl) T.n_list (by rfl) T.n_range (de_var 1)) (nomark _)))) (fun _ _ _ _ _ => (de_callD h__law_turned (hr.mono (by decide)) (by rfl) T.a__law_turned.g T.a__law_turned.F.kp T.a__law_turned.b takesN0 len__law_turned (da_cons (de_var 4) (da_cons (de_var 10) da_nil))))))))))))))))
def w__law_makers : SW := (wSeq (wIf (wTb (wOp gEq (wCallI f__law_digit (wCons (wVar 0) (wCons (wC (.int 2)) wNil))) (wC (.int 1)))) (wRet (wCallI f__law_planted (wCons (wVar 0) (wCons (wVar 1) wNil)))) wNext) (wRet (wLc (wRg1 (wCallI f__law_digit (wCons (wVar 0) (wCons (wC (.int 4)) wNil)))) [2] spName wYes (wCallI f__law_exchange (wCons (wVar 0) (wCons (wVar 1) wNil))) [2])))
theorem d__law_makers (T : Txt K mg) (h__law_digit : FnOk P w K mg base (L2N.CX P w) 41 T.a__law_digit.f T.a__law_digit.fd ["_law_pot_here", "_law_many"] (spI K 2 f__law_digit)) (h__law_planted : FnOk P w K mg base (L2N.CX P w) 43 T.a__law_planted.f T.a__law_planted.fd ["_law_pot_here", "_law_n"] (spI K 2 f__law_planted)) (h__law_exchange : FnOk P w K mg base (L2N.CX P w) 42 T.a__law_exchange.f T.a__law_exchange.fd ["_law_pot_here", "_law_n"] (spI K 2 f__law_exchange)) : ∀ (cdv : Value) (A : Around) (outer : List PySem.Env) (s : Shared) (H : Hp) (E : XK), Room 43 (A.deeper (PyProof.Rows.envOfC "_law_makers" (defScope s__law_makers) s.heap.objs.size T.a__law_makers.f cdv)) → DSs (cxOf (L2N.CX P w) P w K mg base ["_law_pot_here", "_law_n", "_law_k"] "_law_makers" (defScope s__law_makers) T.a__law_makers.f cdv A outer s H E) (fun c d _ H => E c d H) (defBody s__law_makers) (w__law_makers) := by
  intro cdv A outer s H E hr
  exact (dss_cons (ds_if (dt_cmp (op_eqD hr.units) ops_eq (de_callI h__law_digit (hr.mono (by decide)) (by rfl) T.a__law_digit.g T.a__law_digit.F.kp T.a__law_digit.b (L2N.takes_of rfl rfl rfl rfl) len__law_digit (da_cons (de_var 0) (da_cons de_int da_nil))) de_int (nomark _)) (dss_one (ds_ret (de_callI h__law_planted (hr.mono (by decide)) (by rfl) T.a__law_planted.g T.a__law_planted.F.kp T.a__law_planted.b (L2N.takes_of rfl rfl rfl rfl) len__law_planted (da_cons (de_var 0) (da_cons (de_var 1) da_nil))))) dss_nil) (dss_one (ds_ret (de_lc (own := [("_law_k", 2)]) rfl sc__law_makers.nd (di_range1 (by rfl) T.n_range (de_callI h__law_digit (hr.mono (by decide)) (by rfl) T.a__law_digit.g T.a__law_digit.F.kp T.a__law_digit.b (L2N.takes_of rfl rfl rfl rfl) len__law_digit (da_cons (de_var 0) (da_cons de_int da_nil)))) (blkOk_by (own := [("_law_k", 2)]) (N := ["_law_pot_here", "_law_n", "_law_k"]) (sc := defScope s__law_makers) (by decide +kernel)) (fun _ _ _ _ _ => (dg_name 2 sc__law_makers.nd)) (by decide) (fun _ _ _ _ _ => dts_nil) (fun _ _ _ _ _ => (de_callI h__law_exchange (hr.mono (by decide)) (by rfl) T.a__law_exchange.g T.a__law_exchange.F.kp T.a__law_exchange.b takesN0 len__law_exchange (da_cons (de_var 0) (da_cons (de_var 1) da_nil))))))))
def w__law_small : SW := (wSeq (wSet 2 (wCallI f__law_makers (wCons (wVar 0) (wCons (wVar 1) wNil)))) (wSeq (wWhile (wTb (wOp gGt (wCB gLen (wCons (wCallD f__law_made (wCons (wVar 1) (wCons (wVar 2) wNil))) wNil)) (wC (.int 24)))) (wSet 2 (wSl (wVar 2) wNoPart (wPart (wUn gNeg (wC (.int 1))))))) (wRet (wVar 2))))
theorem d__law_small (T : Txt K mg) (h__law_makers : FnOk P w K mg base (L2N.CX P w) 44 T.a__law_makers.f T.a__law_makers.fd ["_law_pot_here", "_law_n"] (spI K 2 f__law_makers)) (h__law_made : FnOk P w K mg base (L2N.CX P w) 42 T.a__law_made.f T.a__law_made.fd ["_law_n", "_law_makers_here"] (spD K 2 f__law_made)) : ∀ (cdv : Value) (A : Around) (outer : List PySem.Env) (s : Shared) (H : Hp) (E : XK), Room 44 (A.deeper (PyProof.Rows.envOfC "_law_small" (defScope s__law_small) s.heap.objs.size T.a__law_small.f cdv)) → DSs (cxOf (L2N.CX P w) P w K mg base ["_law_pot_here", "_law_n", "_law_makers_here"] "_law_small" (defScope s__law_small) T.a__law_small.f cdv A outer s H E) (fun c d _ H => E c d H) (defBody s__law_small) (w__law_small) := by
  intro cdv A outer s H E hr
  exact (dss_cons (ds_set 2 sc__law_small.nd (de_callI h__law_makers (hr.mono (by decide)) (by rfl) T.a__law_makers.g T.a__law_makers.F.kp T.a__law_makers.b (L2N.takes_of rfl rfl rfl rfl) len__law_makers (da_cons (de_var 0) (da_cons (de_var 1) da_nil)))) (dss_cons (ds_while (passes_of rfl) (dt_cmp op_gt ops_gt (de_cb call_len_seq cs_len (by rfl) T.n_len (by decide +kernel) (da_cons (de_callD h__law_made (hr.mono (by decide)) (by rfl) T.a__law_made.g T.a__law_made.F.kp T.a__law_made.b (L2N.takes_of rfl rfl rfl rfl) len__law_made (da_cons (de_var 1) (da_cons (de_var 2) da_nil))) da_nil)) de_int (nomark _)) (dss_one (ds_set 2 sc__law_small.nd (de_sl (de_var 2) do_none (do_some (de_un un_neg uns_neg de_int)))))) (dss_one (ds_ret (de_var 2)))))
def w__law_whole : SW := (wRet (wAndV (wCB gIsi (wCons (wVar 0) (wCons (wC (.ty "int")) wNil))) (wNotV (wCB gIsi (wCons (wVar 0) (wCons (wC (.ty "bool")) wNil))))))
theorem d__law_whole (T : Txt K mg) : ∀ (cdv : Value) (A : Around) (outer : List PySem.Env) (s : Shared) (H : Hp) (E : XK), Room 40 (A.deeper (PyProof.Rows.envOfC "_law_whole" (defScope s__law_whole) s.heap.objs.size T.a__law_whole.f cdv)) → DSs (cxOf (L2N.CX P w) P w K mg base ["_law_found"] "_law_whole" (defScope s__law_whole) T.a__law_whole.f cdv A outer s H E) (fun c d _ H => E c d H) (defBody s__law_whole) (w__law_whole) := by
  intro cdv A outer s H E hr
  exact (dss_one (ds_ret (de_and (de_cb call_isi cs_isi (by rfl) T.n_isinstance (by decide +kernel) (da_cons (de_var 0) (da_cons (de_ty (by rfl) T.n_int (by decide +kernel)) da_nil))) (de_one (de_not (de_cb call_isi cs_isi (by rfl) T.n_isinstance (by decide +kernel) (da_cons (de_var 0) (da_cons (de_ty (by rfl) T.n_bool (by decide +kernel)) da_nil))))))))
def w__law_is_exchange : SW := (wRet (wAndV (wCB gIsi (wCons (wVar 0) (wCons (wC (.ty "tuple")) wNil))) (wAndV (wCB gAll (wCons (wLc (wSrc (wVar 0)) [2] spName wYes (wCallD f__law_whole (wCons (wVar 2) wNil)) [2]) wNil)) (wOp gEq (wCB gSrt (wCons (wVar 0) wNil)) (wLstRg (wRg1 (wVar 1)))))))
theorem d__law_is_exchange (T : Txt K mg) (h__law_whole : FnOk P w K mg base (L2N.CX P w) 41 T.a__law_whole.f T.a__law_whole.fd ["_law_found"] (spD K 1 f__law_whole)) : ∀ (cdv : Value) (A : Around) (outer : List PySem.Env) (s : Shared) (H : Hp) (E : XK), Room 41 (A.deeper (PyProof.Rows.envOfC "_law_is_exchange" (defScope s__law_is_exchange) s.heap.objs.size T.a__law_is_exchange.f cdv)) → DSs (cxOf (L2N.CX P w) P w K mg base ["_law_found", "_law_n", "_law_one"] "_law_is_exchange" (defScope s__law_is_exchange) T.a__law_is_exchange.f cdv A outer s H E) (fun c d _ H => E c d H) (defBody s__law_is_exchange) (w__law_is_exchange) := by
  intro cdv A outer s H E hr
  exact (dss_one (ds_ret (de_and (de_cb call_isi cs_isi (by rfl) T.n_isinstance (by decide +kernel) (da_cons (de_var 0) (da_cons (de_ty (by rfl) T.n_tuple (by decide +kernel)) da_nil))) (de_and (de_cb (cr_all rfl) cs_all (by rfl) T.n_all (by decide +kernel) (da_cons (de_lc (own := [("_law_one", 2)]) rfl sc__law_is_exchange.nd (di_seq (de_var 0)) (blkOk_by (own := [("_law_one", 2)]) (N := ["_law_found", "_law_n", "_law_one"]) (sc := defScope s__law_is_exchange) (by decide +kernel)) (fun _ _ _ _ _ => (dg_name 2 sc__law_is_exchange.nd)) (by decide) (fun _ _ _ _ _ => dts_nil) (fun _ _ _ _ _ => (de_callD h__law_whole (hr.mono (by decide)) (by rfl) T.a__law_whole.g T.a__law_whole.F.kp T.a__law_whole.b takesN0 len__law_whole (da_cons (de_var 2) da_nil)))) da_nil)) (de_one (de_cmp (op_eqD hr.units) ops_eq (de_cb cr_srt cs_srt (by rfl) T.n_sorted (by decide +kernel) (da_cons (de_var 0) da_nil)) (de_lstRg1 rfl (by rfl) T.n_list (by rfl) T.n_range (de_var 1)) (nomark _)))))))
def w__law_orbits : SW := (wSeq (wSet 2 (wLst wNil)) (wSeq (wFor (wRg1 (wVar 0)) [3] spName (wSeq (wSet 4 (wFl (wCB gSS (wCons (wLc (wSrc (wVar 1)) [5] spName wYes (wOp gIx (wVar 5) (wVar 3)) [5]) wNil)))) (wIf (wTb (wOp gNotInL (wVar 4) (wVar 2))) (wDrop (wMt mAppend 2 (wCons (wVar 4) wNil))) wNext))) (wRet (wVar 2))))
theorem d__law_orbits (T : Txt K mg) : ∀ (cdv : Value) (A : Around) (outer : List PySem.Env) (s : Shared) (H : Hp) (E : XK), Room 40 (A.deeper (PyProof.Rows.envOfC "_law_orbits" (defScope s__law_orbits) s.heap.objs.size T.a__law_orbits.f cdv)) → DSs (cxOf (L2N.CX P w) P w K mg base ["_law_n", "_law_members", "_law_found", "_law_thing", "_law_orbit", "_law_member"] "_law_orbits" (defScope s__law_orbits) T.a__law_orbits.f cdv A outer s H E) (fun c d _ H => E c d H) (defBody s__law_orbits) (w__law_orbits) := by
  intro cdv A outer s H E hr
  exact (dss_cons (ds_set 2 sc__law_orbits.nd (de_lst da_nil)) (dss_cons (ds_for (passes_of rfl) rfl (di_range1 (by rfl) T.n_range (de_var 0)) (dg_name 3 sc__law_orbits.nd) (dss_cons (ds_set 4 sc__law_orbits.nd (de_fl (de_sortSet rfl (by rfl) T.n_sorted (by rfl) T.n_set (de_lc (own := [("_law_member", 5)]) rfl sc__law_orbits.nd (di_seq (de_var 1)) (blkOk_by (own := [("_law_member", 5)]) (N := ["_law_n", "_law_members", "_law_found", "_law_thing", "_law_orbit", "_law_member"]) (sc := defScope s__law_orbits) (by decide +kernel)) (fun _ _ _ _ _ => (dg_name 5 sc__law_orbits.nd)) (by decide) (fun _ _ _ _ _ => dts_nil) (fun _ _ _ _ _ => (de_ix (de_var 5) (de_var 3))))))) (dss_one (ds_if (dt_cmp (op_notInD (hu65 hr)) ops_notin (de_var 4) (de_var 2) (by rfl)) (dss_one (ds_expr (de_mt 2 PySem.F.slot_list_append PySem.F.type_list_append mt_append ms_append (da_cons (de_var 4) da_nil)))) dss_nil)))) (dss_one (ds_ret (de_var 2)))))
def w__law_is_group (T : Txt K mg) : SW := (wSeq (wSet 3 (wMeth T.x_Group "members" (f_Group_members T.x_Group) (wVar 0) wNil)) (wSeq (wFrz 3 (wIf (wOr (wNot (wTru (wCB (gIsO K T.x_Group) (wCons (wVar 0) (wCons (wC (.adr T.x_Group)) wNil))))) (wOr (wNot (wTru (wCB gIsi (wCons (wVar 3) (wCons (wC (.ty "list")) wNil))))) (wTb (wOp gNe (wVar 3) (wVar 2))))) (wRet (wC (.bl false))) wNext)) (wSeq (wIf (wOr (wNot (wTru (wCB gAll (wCons (wLc (wSrc (wVar 3)) [4] spName wYes (wCallD f__law_is_exchange (wCons (wVar 4) (wCons (wVar 1) wNil))) [4]) wNil)))) (wNot (wTru (wCallD f__law_whole (wCons (wMeth T.x_Group "size" (f_Group_size T.x_Group) (wVar 0) wNil) wNil))))) (wRet (wC (.bl false))) wNext) (wSeq (wIf (wOr (wTb (wOp gNe (wMeth T.x_Group "size" (f_Group_size T.x_Group) (wVar 0) wNil) (wCB gLen (wCons (wVar 2) wNil)))) (wOr (wNot (wTru (wCallD f__law_whole (wCons (wMeth T.x_Group "many" (f_Group_many T.x_Group) (wVar 0) wNil) wNil)))) (wTb (wOp gNe (wMeth T.x_Group "many" (f_Group_many T.x_Group) (wVar 0) wNil) (wVar 1))))) (wRet (wC (.bl false))) wNext) (wRet (wOp gEq (wMeth T.x_Group "orbits" (f_Group_orbits T.x_Group) (wVar 0) wNil) (wCallD f__law_orbits (wCons (wVar 1) (wCons (wVar 2) wNil)))))))))
theorem d__law_is_group (T : Txt K mg) (h_Group_members : FnOk P w K mg base (L2N.CX P w) 41 T.a_Group_members.f T.a_Group_members.fd ["self"] (spD K 1 (f_Group_members T.x_Group))) (h__law_is_exchange : FnOk P w K mg base (L2N.CX P w) 42 T.a__law_is_exchange.f T.a__law_is_exchange.fd ["_law_found", "_law_n"] (spD K 2 f__law_is_exchange)) (h__law_whole : FnOk P w K mg base (L2N.CX P w) 41 T.a__law_whole.f T.a__law_whole.fd ["_law_found"] (spD K 1 f__law_whole)) (h_Group_size : FnOk P w K mg base (L2N.CX P w) 41 T.a_Group_size.f T.a_Group_size.fd ["self"] (spD K 1 (f_Group_size T.x_Group))) (h_Group_many : FnOk P w K mg base (L2N.CX P w) 41 T.a_Group_many.f T.a_Group_many.fd ["self"] (spD K 1 (f_Group_many T.x_Group))) (h_Group_orbits : FnOk P w K mg base (L2N.CX P w) 41 T.a_Group_orbits.f T.a_Group_orbits.fd ["self"] (spD K 1 (f_Group_orbits T.x_Group))) (h__law_orbits : FnOk P w K mg base (L2N.CX P w) 41 T.a__law_orbits.f T.a__law_orbits.fd ["_law_n", "_law_members"] (spD K 2 f__law_orbits)) : ∀ (cdv : Value) (A : Around) (outer : List PySem.Env) (s : Shared) (H : Hp) (E : XK), Room 42 (A.deeper (PyProof.Rows.envOfC "_law_is_group" (defScope s__law_is_group) s.heap.objs.size T.a__law_is_group.f cdv)) → DSs (cxOf (L2N.CX P w) P w K mg base ["_law_group", "_law_n", "_law_due", "_law_found", "_law_one"] "_law_is_group" (defScope s__law_is_group) T.a__law_is_group.f cdv A outer s H E) (fun c d _ H => E c d H) (defBody s__law_is_group) (w__law_is_group T) := by
  intro cdv A outer s H E hr
  exact (dss_cons (ds_set 3 sc__law_is_group.nd (de_meth0 T.c_Group T.m_Group_members h_Group_members (hr.mono (by decide)) T.a_Group_members.b (L2N.takes_of rfl rfl rfl rfl) len_Group_members (de_var 0))) (dss_cons (ds_frz 3 (ds_if (dt_w (dw_or (dt_not (dt_tru (de_cb call_isi (cs_isO T.oc_Group) (by rfl) T.n_isinstance (by decide +kernel) (da_cons (de_var 0) (da_cons (de_glob (by rfl) T.g_Group fun _ _ => .adr _) da_nil))))) (dw_or (dt_not (dt_tru (de_cb call_isi cs_isi (by rfl) T.n_isinstance (by decide +kernel) (da_cons (de_var 3) (da_cons (de_ty (by rfl) T.n_list (by decide +kernel)) da_nil))))) (dw_or1 (dt_cmp (op_neD hr.units) ops_ne (de_var 3) (de_var 2) (nomark _)))))) (dss_one (ds_ret de_bl)) dss_nil)) (dss_cons (ds_if (dt_w (dw_or (dt_not (dt_tru (de_cb (cr_all rfl) cs_all (by rfl) T.n_all (by decide +kernel) (da_cons (de_lc (own := [("_law_one", 4)]) rfl sc__law_is_group.nd (di_seq (de_var 3)) (blkOk_by (own := [("_law_one", 4)]) (N := ["_law_group", "_law_n", "_law_due", "_law_found", "_law_one"]) (sc := defScope s__law_is_group) (by decide +kernel)) (fun _ _ _ _ _ => (dg_name 4 sc__law_is_group.nd)) (by decide) (fun _ _ _ _ _ => dts_nil) (fun _ _ _ _ _ => (de_callD h__law_is_exchange (hr.mono (by decide)) (by rfl) T.a__law_is_exchange.g T.a__law_is_exchange.F.kp T.a__law_is_exchange.b takesN0 len__law_is_exchange (da_cons (de_var 4) (da_cons (de_var 1) da_nil))))) da_nil)))) (dw_or1 (dt_not (dt_tru (de_callD h__law_whole (hr.mono (by decide)) (by rfl) T.a__law_whole.g T.a__law_whole.F.kp T.a__law_whole.b (L2N.takes_of rfl rfl rfl rfl) len__law_whole (da_cons (de_meth0 T.c_Group T.m_Group_size h_Group_size (hr.mono (by decide)) T.a_Group_size.b (L2N.takes_of rfl rfl rfl rfl) len_Group_size (de_var 0)) da_nil))))))) (dss_one (ds_ret de_bl)) dss_nil) (dss_cons (ds_if (dt_w (dw_or (dt_cmp (op_neD hr.units) ops_ne (de_meth0 T.c_Group T.m_Group_size h_Group_size (hr.mono (by decide)) T.a_Group_size.b (L2N.takes_of rfl rfl rfl rfl) len_Group_size (de_var 0)) (de_cb call_len_seq cs_len (by rfl) T.n_len (by decide +kernel) (da_cons (de_var 2) da_nil)) (nomark _)) (dw_or (dt_not (dt_tru (de_callD h__law_whole (hr.mono (by decide)) (by rfl) T.a__law_whole.g T.a__law_whole.F.kp T.a__law_whole.b (L2N.takes_of rfl rfl rfl rfl) len__law_whole (da_cons (de_meth0 T.c_Group T.m_Group_many h_Group_many (hr.mono (by decide)) T.a_Group_many.b (L2N.takes_of rfl rfl rfl rfl) len_Group_many (de_var 0)) da_nil)))) (dw_or1 (dt_cmp (op_neD hr.units) ops_ne (de_meth0 T.c_Group T.m_Group_many h_Group_many (hr.mono (by decide)) T.a_Group_many.b (L2N.takes_of rfl rfl rfl rfl) len_Group_many (de_var 0)) (de_var 1) (nomark _)))))) (dss_one (ds_ret de_bl)) dss_nil) (dss_one (ds_ret (de_cmp (op_eqD hr.units) ops_eq (de_meth0 T.c_Group T.m_Group_orbits h_Group_orbits (hr.mono (by decide)) T.a_Group_orbits.b (L2N.takes_of rfl rfl rfl rfl) len_Group_orbits (de_var 0)) (de_callD h__law_orbits (hr.mono (by decide)) (by rfl) T.a__law_orbits.g T.a__law_orbits.F.kp T.a__law_orbits.b (L2N.takes_of rfl rfl rfl rfl) len__law_orbits (da_cons (de_var 1) (da_cons (de_var 2) da_nil))) (nomark _))))))))
def w__law_closed : SW := (wSeq (wSet 2 (wFd (wCB gDictX (wCons (wLc (wSrc (wVar 1)) [3] spName wYes (wTup (wCons (wVar 3) (wCons (wC (.bl true)) wNil))) [3]) wNil)))) (wSeq (wIf (wTb (wOp (gInX true) (wTupRgX (wRg1 (wVar 0))) (wVar 2))) (wRet (wC (.bl false))) wNext) (wSeq (wFor (wSrc (wVar 1)) [3] spName (wIf (wNot (wTru (wCB gAll (wCons (wLc (wSrc (wVar 1)) [4] spName wYes (wOp (gInX false) (wCallD f__law_behind (wCons (wVar 3) (wCons (wVar 4) wNil))) (wVar 2)) [4]) wNil)))) (wRet (wC (.bl false))) wNext)) (wRet (wC (.bl true))))))
theorem d__law_closed (T : Txt K mg) (h__law_behind : FnOk P w K mg base (L2N.CX P w) 41 T.a__law_behind.f T.a__law_behind.fd ["_law_one", "_law_other"] (spD K 2 f__law_behind)) : ∀ (cdv : Value) (A : Around) (outer : List PySem.Env) (s : Shared) (H : Hp) (E : XK), Room 41 (A.deeper (PyProof.Rows.envOfC "_law_closed" (defScope s__law_closed) s.heap.objs.size T.a__law_closed.f cdv)) → DSs (cxOf (L2N.CX P w) P w K mg base ["_law_n", "_law_members", "_law_have", "_law_one", "_law_other"] "_law_closed" (defScope s__law_closed) T.a__law_closed.f cdv A outer s H E) (fun c d _ H => E c d H) (defBody s__law_closed) (w__law_closed) := by
  intro cdv A outer s H E hr
  exact (dss_cons (ds_set 2 sc__law_closed.nd (de_fd (de_ct (call_dictX rfl (hu65 hr)) cs_dictX (by rfl) T.n_dict (by decide +kernel) (da_cons (de_lc (own := [("_law_one", 3)]) rfl sc__law_closed.nd (di_seq (de_var 1)) (blkOk_by (own := [("_law_one", 3)]) (N := ["_law_n", "_law_members", "_law_have", "_law_one", "_law_other"]) (sc := defScope s__law_closed) (by decide +kernel)) (fun _ _ _ _ _ => (dg_name 3 sc__law_closed.nd)) (by decide) (fun _ _ _ _ _ => dts_nil) (fun _ _ _ _ _ => (de_tup (da_cons (de_var 3) (da_cons de_bl da_nil))))) da_nil)))) (dss_cons (ds_if (dt_cmp (op_xnotinF (hu65 hr)) ops_inX (de_tupRgX rfl (by rfl) T.n_tuple (by rfl) T.n_range (de_var 0)) (de_var 2) (by rfl)) (dss_one (ds_ret de_bl)) dss_nil) (dss_cons (ds_for (passes_of rfl) rfl (di_seq (de_var 1)) (dg_name 3 sc__law_closed.nd) (dss_one (ds_if (dt_not (dt_tru (de_cb (cr_all rfl) cs_all (by rfl) T.n_all (by decide +kernel) (da_cons (de_lc (own := [("_law_other", 4)]) rfl sc__law_closed.nd (di_seq (de_var 1)) (blkOk_by (own := [("_law_other", 4)]) (N := ["_law_n", "_law_members", "_law_have", "_law_one", "_law_other"]) (sc := defScope s__law_closed) (by decide +kernel)) (fun _ _ _ _ _ => (dg_name 4 sc__law_closed.nd)) (by decide) (fun _ _ _ _ _ => dts_nil) (fun _ _ _ _ _ => (de_cmp (op_xinF (hu65 hr)) ops_inX (de_callD h__law_behind (hr.mono (by decide)) (by rfl) T.a__law_behind.g T.a__law_behind.F.kp T.a__law_behind.b takesN0 len__law_behind (da_cons (de_var 3) (da_cons (de_var 4) da_nil))) (de_var 2) (by rfl)))) da_nil)))) (dss_one (ds_ret de_bl)) dss_nil))) (dss_one (ds_ret de_bl)))))
def w__law_all_told : SW := (wSeq (wSet 3 (wCB gDictU (wCons (wLc (wSrc (wVar 2)) [4] spName wYes (wTup (wCons (wVar 4) (wCons (wC (.bl true)) wNil))) [4]) wNil))) (wSeq (wLkU 3 (wIf (wOr (wTb (wOp (gInU true) (wTup (wCons (wTupRgX (wRg1 (wVar 0))) wNil)) (wVar 3))) (wTb (wOp (gInU true) (wCB gTupF (wCons (wVar 1) wNil)) (wVar 3)))) (wRet (wC (.bl false))) wNext)) (wSeq (wFor (wSrc (wVar 2)) [4] spName (wFor (wSrc (wVar 1)) [5] spName (wIf (wAnd (wTb (wOp (gInT true) (wVar 5) (wVar 4))) (wTb (wOp (gInU true) (wCB gTuple (wCons (wCallD f__law_made (wCons (wVar 0) (wCons (wOp gAdd (wCB gList (wCons (wSl (wVar 4) (wPart (wC (.int 1))) wNoPart) wNil)) (wLst (wCons (wVar 5) wNil))) wNil))) wNil)) (wVar 3)))) (wRet (wC (.bl false))) wNext))) (wRet (wC (.bl true))))))
theorem d__law_all_told (T : Txt K mg) (h__law_made : FnOk P w K mg base (L2N.CX P w) 42 T.a__law_made.f T.a__law_made.fd ["_law_n", "_law_makers_here"] (spD K 2 f__law_made)) : ∀ (cdv : Value) (A : Around) (outer : List PySem.Env) (s : Shared) (H : Hp) (E : XK), Room 42 (A.deeper (PyProof.Rows.envOfC "_law_all_told" (defScope s__law_all_told) s.heap.objs.size T.a__law_all_told.f cdv)) → DSs (cxOf (L2N.CX P w) P w K mg base ["_law_n", "_law_due", "_law_told", "_law_have", "_law_part", "_law_member"] "_law_all_told" (defScope s__law_all_told) T.a__law_all_told.f cdv A outer s H E) (fun c d _ H => E c d H) (defBody s__law_all_told) (w__law_all_told) := by
  intro cdv A outer s H E hr
  exact (dss_cons (ds_set 3 sc__law_all_told.nd (de_ct (call_dictU rfl (hu65 hr)) cs_dictU (by rfl) T.n_dict (by decide +kernel) (da_cons (de_lc (own := [("_law_part", 4)]) rfl sc__law_all_told.nd (di_seq (de_var 2)) (blkOk_by (own := [("_law_part", 4)]) (N := ["_law_n", "_law_due", "_law_told", "_law_have", "_law_part", "_law_member"]) (sc := defScope s__law_all_told) (by decide +kernel)) (fun _ _ _ _ _ => (dg_name 4 sc__law_all_told.nd)) (by decide) (fun _ _ _ _ _ => dts_nil) (fun _ _ _ _ _ => (de_tup (da_cons (de_var 4) (da_cons de_bl da_nil))))) da_nil))) (dss_cons (ds_lkU 3 (ds_if (dt_w (dw_or (dt_cmp (op_unotin (hu65 hr)) ops_inU (de_tup (da_cons (de_tupRgX rfl (by rfl) T.n_tuple (by rfl) T.n_range (de_var 0)) da_nil)) (de_var 3) (by rfl)) (dw_or1 (dt_cmp (op_unotin (hu65 hr)) ops_inU (de_ct call_tuple_of cs_tupF (by rfl) T.n_tuple (by decide +kernel) (da_cons (de_var 1) da_nil)) (de_var 3) (by rfl))))) (dss_one (ds_ret de_bl)) dss_nil)) (dss_cons (ds_for (passes_of rfl) rfl (di_seq (de_var 2)) (dg_name 4 sc__law_all_told.nd) (dss_one (ds_for (passes_of rfl) rfl (di_seq (de_var 1)) (dg_name 5 sc__law_all_told.nd) (dss_one (ds_if (dt_w (dw_and (dt_cmp (op_notinT (hu65 hr)) ops_inT (de_var 5) (de_var 4) (by rfl)) (dw_and1 (dt_cmp (op_unotin (hu65 hr)) ops_inU (de_ct call_tuple_of cs_tuple (by rfl) T.n_tuple (by decide +kernel) (da_cons (de_callD h__law_made (hr.mono (by decide)) (by rfl) T.a__law_made.g T.a__law_made.F.kp T.a__law_made.b (L2N.takes_of rfl rfl rfl rfl) len__law_made (da_cons (de_var 0) (da_cons (de_op op_addA ops_add (de_ct call_list_of cs_list (by rfl) T.n_list (by decide +kernel) (da_cons (de_sl (de_var 4) (do_some de_int) do_none) da_nil)) (de_lst (da_cons (de_var 5) da_nil))) da_nil))) da_nil)) (de_var 3) (by rfl))))) (dss_one (ds_ret de_bl)) dss_nil))))) (dss_one (ds_ret de_bl)))))
def w__law_right (T : Txt K mg) : SW := (wSeq (wSet 3 (wMeth T.x_Group "subgroups" (f_Group_subgroups T.x_Group T.x_TooMany) (wVar 0) wNil)) (wSeq (wIf (wNot (wTru (wCB gIsi (wCons (wVar 3) (wCons (wC (.ty "list")) wNil))))) (wRet (wC (.bl false))) wNext) (wSeq (wSet 4 (wLst wNil)) (wSeq (wForO 3 5 (wSeq (wSet 7 (wFl (wCB gSrtX (wCons (wLc (wSrc (wVar 2)) [8] spName (wTb (wOp gInL (wVar 8) (wMeth T.x_Group "members" (f_Group_members T.x_Group) (wVar 5) wNil))) (wVar 8) [8]) wNil)))) (wSeq (wIf (wOr (wNot (wTru (wCallD (f__law_is_group T.x_Group) (wCons (wVar 5) (wCons (wVar 1) (wCons (wVar 7) wNil)))))) (wNot (wTru (wCallD f__law_closed (wCons (wVar 1) (wCons (wVar 7) wNil)))))) (wRet (wC (.bl false))) wNext) (wDrop (wMt mAppend 4 (wCons (wCB gTupF (wCons (wVar 7) wNil)) wNil)))))) (wSeq (wFrz 4 (wSet 6 (wLc (wSrc (wVar 4)) [5] spName wYes (wTup (wCons (wCB gLen (wCons (wVar 5) wNil)) (wCons (wVar 5) wNil))) [5]))) (wSeq (wFrz 6 (wIf (wOr (wTb (wOp gNe (wVar 6) (wFl (wCB gSSN (wCons (wVar 6) wNil))))) (wNot (wTru (wCallD f__law_all_told (wCons (wVar 1) (wCons (wVar 2) (wCons (wVar 4) wNil))))))) (wRet (wC (.bl false))) wNext)) (wSeq (wDrop (wMt0 mClear 3)) (wRet (wAndV (wOp gEq (wCB gLen (wCons (wMeth T.x_Group "subgroups" (f_Group_subgroups T.x_Group T.x_TooMany) (wVar 0) wNil) wNil)) (wCB gLen (wCons (wVar 4) wNil))) (wCallD (f__law_is_group T.x_Group) (wCons (wVar 0) (wCons (wVar 1) (wCons (wVar 2) wNil)))))))))))))
theorem d__law_right (T : Txt K mg) (h_Group_subgroups : FnOk P w K mg base (L2N.CX P w) 45 T.a_Group_subgroups.f T.a_Group_subgroups.fd ["self"] (spD K 1 (f_Group_subgroups T.x_Group T.x_TooMany))) (h_Group_members : FnOk P w K mg base (L2N.CX P w) 41 T.a_Group_members.f T.a_Group_members.fd ["self"] (spD K 1 (f_Group_members T.x_Group))) (h__law_is_group : FnOk P w K mg base (L2N.CX P w) 43 T.a__law_is_group.f T.a__law_is_group.fd ["_law_group", "_law_n", "_law_due"] (spD K 3 (f__law_is_group T.x_Group))) (h__law_closed : FnOk P w K mg base (L2N.CX P w) 42 T.a__law_closed.f T.a__law_closed.fd ["_law_n", "_law_members"] (spD K 2 f__law_closed)) (h__law_all_told : FnOk P w K mg base (L2N.CX P w) 43 T.a__law_all_told.f T.a__law_all_told.fd ["_law_n", "_law_due", "_law_told"] (spD K 3 f__law_all_told)) : ∀ (cdv : Value) (A : Around) (outer : List PySem.Env) (s : Shared) (H : Hp) (E : XK), Room 45 (A.deeper (PyProof.Rows.envOfC "_law_right" (defScope s__law_right) s.heap.objs.size T.a__law_right.f cdv)) → DSs0 (cxOf (L2N.CX P w) P w K mg base ["_law_group", "_law_n", "_law_due", "_law_parts", "_law_told", "_law_part", "_law_keys", "_law_members", "_law_one"] "_law_right" (defScope s__law_right) T.a__law_right.f cdv A outer s H E) (fun c d _ H => E c d H) (defBody s__law_right) (w__law_right T) := by
  intro cdv A outer s H E hr
  exact (dss0_cons (DS.s0 (ds_set 3 sc__law_right.nd (de_meth0 T.c_Group T.m_Group_subgroups h_Group_subgroups (hr.mono (by decide)) T.a_Group_subgroups.b (L2N.takes_of rfl rfl rfl rfl) len_Group_subgroups (de_var 0)))) (dss0_cons (DS.s0 (ds_if (dt_not (dt_tru (de_cb call_isi cs_isi (by rfl) T.n_isinstance (by decide +kernel) (da_cons (de_var 3) (da_cons (de_ty (by rfl) T.n_list (by decide +kernel)) da_nil))))) (dss_one (ds_ret de_bl)) dss_nil)) (dss0_cons (DS.s0 (ds_set 4 sc__law_right.nd (de_lst da_nil))) (dss0_cons (ds_forO 3 5 (passes_of rfl) rfl sc__law_right.nd (dss_cons (ds_set 7 sc__law_right.nd (de_fl (de_cb cr_srtT cs_srtX (by rfl) T.n_sorted (by decide +kernel) (da_cons (de_lc (own := [("_law_one", 8)]) rfl sc__law_right.nd (di_seq (de_var 2)) (blkOk_by (own := [("_law_one", 8)]) (N := ["_law_group", "_law_n", "_law_due", "_law_parts", "_law_told", "_law_part", "_law_keys", "_law_members", "_law_one"]) (sc := defScope s__law_right) (by decide +kernel)) (fun _ _ _ _ _ => (dg_name 8 sc__law_right.nd)) (by decide) (fun _ _ _ _ _ => (dts_one (dt_cmp (op_inD (hu65 hr)) ops_in (de_var 8) (de_meth0 T.c_Group T.m_Group_members h_Group_members (hr.mono (by decide)) T.a_Group_members.b takesN0 len_Group_members (de_var 5)) (by rfl)))) (fun _ _ _ _ _ => (de_var 8))) da_nil)))) (dss_cons (ds_if (dt_w (dw_or (dt_not (dt_tru (de_callD h__law_is_group (hr.mono (by decide)) (by rfl) T.a__law_is_group.g T.a__law_is_group.F.kp T.a__law_is_group.b (L2N.takes_of rfl rfl rfl rfl) len__law_is_group (da_cons (de_var 5) (da_cons (de_var 1) (da_cons (de_var 7) da_nil)))))) (dw_or1 (dt_not (dt_tru (de_callD h__law_closed (hr.mono (by decide)) (by rfl) T.a__law_closed.g T.a__law_closed.F.kp T.a__law_closed.b (L2N.takes_of rfl rfl rfl rfl) len__law_closed (da_cons (de_var 1) (da_cons (de_var 7) da_nil)))))))) (dss_one (ds_ret de_bl)) dss_nil) (dss_one (ds_expr (de_mt 4 PySem.F.slot_list_append PySem.F.type_list_append mt_append ms_append (da_cons (de_ct call_tuple_of cs_tupF (by rfl) T.n_tuple (by decide +kernel) (da_cons (de_var 7) da_nil)) da_nil))))))) (dss0_cons (DS.s0 (ds_frz 4 (ds_setLc 6 (own := [("_law_part", 5)]) rfl sc__law_right.nd (di_seq (de_var 4)) (blkOk_by (own := [("_law_part", 5)]) (N := ["_law_group", "_law_n", "_law_due", "_law_parts", "_law_told", "_law_part", "_law_keys", "_law_members", "_law_one"]) (sc := defScope s__law_right) (by decide +kernel)) (fun _ _ _ _ _ => (dg_name 5 sc__law_right.nd)) (by decide) (fun _ _ _ _ _ => dts_nil) (fun _ _ _ _ _ => (de_tup (da_cons (de_cb call_len_seq cs_len (by rfl) T.n_len (by decide +kernel) (da_cons (de_var 5) da_nil)) (da_cons (de_var 5) da_nil)))) (sw_true rfl rfl rfl (by decide +kernel))))) (dss0_cons (DS.s0 (ds_frz 6 (ds_if (dt_w (dw_or (dt_cmp (op_neD hr.units) ops_ne (de_var 6) (de_fl (de_sortSetN rfl (hu65 hr) (by rfl) T.n_sorted (by rfl) T.n_set (de_var 6))) (nomark _)) (dw_or1 (dt_not (dt_tru (de_callD h__law_all_told (hr.mono (by decide)) (by rfl) T.a__law_all_told.g T.a__law_all_told.F.kp T.a__law_all_told.b (L2N.takes_of rfl rfl rfl rfl) len__law_all_told (da_cons (de_var 1) (da_cons (de_var 2) (da_cons (de_var 4) da_nil))))))))) (dss_one (ds_ret de_bl)) dss_nil))) (dss0_cons (DS.s0 (ds_expr (de_mt0 3 PySem.F.slot_list_clear PySem.F.type_list_clear mt_clear ms_clear))) (dss0_one (DS.s0 (ds_ret (de_and (de_cmp (op_eqD hr.units) ops_eq (de_cb call_len_seq cs_len (by rfl) T.n_len (by decide +kernel) (da_cons (de_meth0 T.c_Group T.m_Group_subgroups h_Group_subgroups (hr.mono (by decide)) T.a_Group_subgroups.b (L2N.takes_of rfl rfl rfl rfl) len_Group_subgroups (de_var 0)) da_nil)) (de_cb call_len_seq cs_len (by rfl) T.n_len (by decide +kernel) (da_cons (de_var 4) da_nil)) (nomark _)) (de_one (de_callD h__law_is_group (hr.mono (by decide)) (by rfl) T.a__law_is_group.g T.a__law_is_group.F.kp T.a__law_is_group.b (L2N.takes_of rfl rfl rfl rfl) len__law_is_group (da_cons (de_var 0) (da_cons (de_var 1) (da_cons (de_var 2) da_nil))))))))))))))))
def w_law (T : Txt K mg) : SW := (wSeq (wFor (wSrc (wOrL (wSl (wVar 0) wNoPart (wPart (wC (.int 3)))) (wLst (wCons (wC (.int 0)) wNil)))) [1] spName (wSeq (wSet 2 (wCallD f__law_pot (wCons (wVar 1) wNil))) (wSeq (wSet 3 (wOp gAdd (wC (.int 1)) (wCallI f__law_digit (wCons (wVar 2) (wCons (wC (.int 5)) wNil))))) (wSeq (wSet 4 (wCallI f__law_small (wCons (wVar 2) (wCons (wVar 3) wNil)))) (wIf (wNot (wTru (wCallD (f__law_right T.x_Group) (wCons (wMake T.x_Group ["things", "all_members"] f_Group___init__ (wCons (wVar 3) (wCons (wVar 4) wNil))) (wCons (wVar 3) (wCons (wFl (wCallD f__law_made (wCons (wVar 3) (wCons (wVar 4) wNil)))) wNil)))))) (wRet (wC (.bl false))) wNext))))) (wRet (wC (.bl true))))
theorem d_law (T : Txt K mg) (h__law_pot : FnOk P w K mg base (L2N.CX P w) 41 T.a__law_pot.f T.a__law_pot.fd ["_law_cell"] (spD K 1 f__law_pot)) (h__law_digit : FnOk P w K mg base (L2N.CX P w) 41 T.a__law_digit.f T.a__law_digit.fd ["_law_pot_here", "_law_many"] (spI K 2 f__law_digit)) (h__law_small : FnOk P w K mg base (L2N.CX P w) 45 T.a__law_small.f T.a__law_small.fd ["_law_pot_here", "_law_n"] (spI K 2 f__law_small)) (h__law_right : FnOk P w K mg base (L2N.CX P w) 46 T.a__law_right.f T.a__law_right.fd ["_law_group", "_law_n", "_law_due"] (spD K 3 (f__law_right T.x_Group))) (h_Group___init__ : FnOk P w K mg base (L2N.CX P w) 43 T.a_Group___init__.f T.a_Group___init__.fd ["self", "many", "makers"] (spC K T.x_Group ["things", "all_members"] 3 f_Group___init__)) (h__law_made : FnOk P w K mg base (L2N.CX P w) 42 T.a__law_made.f T.a__law_made.fd ["_law_n", "_law_makers_here"] (spD K 2 f__law_made)) : ∀ (cdv : Value) (A : Around) (outer : List PySem.Env) (s : Shared) (H : Hp) (E : XK), Room 46 (A.deeper (PyProof.Rows.envOfC "law" (defScope s_law) s.heap.objs.size T.a_law.f cdv)) → DSs (cxOf (L2N.CX P w) P w K mg base ["_law_script", "_law_cell", "_law_pot_here", "_law_n", "_law_makers_here"] "law" (defScope s_law) T.a_law.f cdv A outer s H E) (fun c d _ H => E c d H) (defBody s_law) (w_law T) := by
  intro cdv A outer s H E hr
  exact (dss_cons (ds_for (passes_of rfl) rfl (di_seq (de_orL (de_sl (de_var 0) do_none (do_some de_int)) (de_one (de_lst (da_cons de_int da_nil))))) (dg_name 1 sc_law.nd) (dss_cons (ds_set 2 sc_law.nd (de_callD h__law_pot (hr.mono (by decide)) (by rfl) T.a__law_pot.g T.a__law_pot.F.kp T.a__law_pot.b (L2N.takes_of rfl rfl rfl rfl) len__law_pot (da_cons (de_var 1) da_nil))) (dss_cons (ds_set 3 sc_law.nd (de_op op_addA ops_add de_int (de_callI h__law_digit (hr.mono (by decide)) (by rfl) T.a__law_digit.g T.a__law_digit.F.kp T.a__law_digit.b (L2N.takes_of rfl rfl rfl rfl) len__law_digit (da_cons (de_var 2) (da_cons de_int da_nil))))) (dss_cons (ds_set 4 sc_law.nd (de_callI h__law_small (hr.mono (by decide)) (by rfl) T.a__law_small.g T.a__law_small.F.kp T.a__law_small.b (L2N.takes_of rfl rfl rfl rfl) len__law_small (da_cons (de_var 2) (da_cons (de_var 3) da_nil)))) (dss_one (ds_if (dt_not (dt_tru (de_callD h__law_right (hr.mono (by decide)) (by rfl) T.a__law_right.g T.a__law_right.F.kp T.a__law_right.b (L2N.takes_of rfl rfl rfl rfl) len__law_right (da_cons (de_make T.mk_Group h_Group___init__ (hr.mono (by decide)) (by rfl) T.g_Group T.a_Group___init__.b (L2N.takes_of rfl rfl rfl rfl) len_Group___init__ (da_cons (de_var 3) (da_cons (de_var 4) da_nil))) (da_cons (de_var 3) (da_cons (de_fl (de_callD h__law_made (hr.mono (by decide)) (by rfl) T.a__law_made.g T.a__law_made.F.kp T.a__law_made.b (L2N.takes_of rfl rfl rfl rfl) len__law_made (da_cons (de_var 3) (da_cons (de_var 4) da_nil)))) da_nil)))))) (dss_one (ds_ret de_bl)) dss_nil)))))) (dss_one (ds_ret de_bl)))
end
end K34

set_option Elab.async false
set_option linter.all false
set_option maxRecDepth 100000
set_option maxHeartbeats 4000000
namespace K34
open PySem L2 DL RX
theorem nI_len (l : List Nat) : (nI l).length = l.length := by simp [nI]
theorem nI_get {l : List Nat} {i : Nat} {d : D} (h : (nI l)[i]? = some d) : ∃ k, l[i]? = some k ∧ d = .int (k : Int) := by
  unfold nI at h
  rw [List.getElem?_map] at h
  obtain ⟨k, hk, rfl⟩ := Option.map_eq_some_iff.mp h
  exact ⟨k, hk, rfl⟩
theorem at_nI {l : List Nat} {i : Nat} (h : i < l.length) : atI (nI l) (i : Int) = some (.int (at_ l i : Nat)) := by
  have e : ixN (nI l).length (i : Int) = some i := by
    rw [nI_len]
    simp [ixN, h]
  unfold atI
  rw [e]
  simp [nI, at_, h]
@[simp] theorem nI_nl (l : List Nat) : D.nolists (nI l) = true := by
  induction l with
  | nil => rfl
  | cons a l ih => show (true && D.nolists (nI l)) = true; rw [ih]; rfl
section
variable {P : Program} [PlP P] {w : World} {K : PySem.W.Frag} {mg : Str → Option Value} {base : Heap}
theorem ok_behind (T : Txt K mg) : FnOk P w K mg base (L2N.CX P w) 41 T.a_behind.f T.a_behind.fd ["one", "other"] (spD K 2 f_behind) :=
  fn_D (wb := w_behind) T.a_behind.F sc_behind (d_behind T) (by
    rintro ds Q X hl ⟨d, p, q, n, rfl, hd, hp, hq, h⟩
    rcases hd with rfl | rfl
    all_goals
      simp [w_behind, startE, exX]
      refine lcm_by (res := nI (comp p q)) (by simp) (by simp [nI, comp]) ?_ ?_ ?_
      · rw [nI_len, hq.len, DL.sizeLine_eq]; have := hq.n5; omega
      · intro i d d' hd hd'
        obtain ⟨k, hk, rfl⟩ := nI_get hd
        obtain ⟨k', hk', rfl⟩ := nI_get hd'
        have hkn : k < n := hq.lt k (List.mem_of_getElem? hk)
        have e : k' = at_ p k := by
          unfold comp at hk'
          rw [List.getElem?_map, hk] at hk'
          exact (Option.some.inj hk').symm
        subst e
        refine ⟨_, rfl, by simp, fun Q' X' hq' => ?_⟩
        simp [at_nI (l := p) (i := k) (by rw [hp.len]; exact hkn)]
        exact hq' _ (by simp)
      · simpa [exX] using h)
theorem ok__law_behind (T : Txt K mg) : FnOk P w K mg base (L2N.CX P w) 41 T.a__law_behind.f T.a__law_behind.fd ["_law_one", "_law_other"] (spD K 2 f__law_behind) :=
  fn_D (wb := w__law_behind) T.a__law_behind.F sc__law_behind (d__law_behind T) (by
    rintro ds Q X hl ⟨d, e, p, q, n, rfl, hd, he, hp, hq, h⟩
    rcases hd with rfl | rfl <;> rcases he with rfl | rfl
    all_goals
      simp [w__law_behind, startE, exD]
      refine lcm_by (res := nI (comp p q)) (by simp) (by simp [nI, comp]) ?_ ?_ ?_
      · rw [nI_len, hq.len, DL.sizeLine_eq]; have := hq.n5; omega
      · intro i d d' hd hd'
        obtain ⟨k, hk, rfl⟩ := nI_get hd
        obtain ⟨k', hk', rfl⟩ := nI_get hd'
        have hkn : k < n := hq.lt k (List.mem_of_getElem? hk)
        have e : k' = at_ p k := by
          unfold comp at hk'
          rw [List.getElem?_map, hk] at hk'
          exact (Option.some.inj hk').symm
        subst e
        refine ⟨_, rfl, by simp, fun Q' X' hq' => ?_⟩
        simp [at_nI (l := p) (i := k) (by rw [hp.len]; exact hkn)]
        exact hq' _ (by simp)
      · simpa [exD, exX] using h)
/-- the loop of back_of, its first k turns -/
def bkGo (p : List Nat) : Nat → List Nat
  | 0 => List.replicate p.length 0
  | k + 1 => (bkGo p k).set (at_ p k) k
def Wb (p : List Nat) (k : Nat) (ρ : En) : Prop := ∃ a b, ρ = [some (.dat (exX p)), some (.own (nI (bkGo p k))), a, b] ∧ free a ∧ free b
end
/-! ### [x for x in ds if test] -/
theorem lc_filter {ds : List D} {v : Nat} {wt : TWs} {Q : Sl → En → Prop} {ρ1 : En} (f : D → Bool) (no : noOwns ρ1 [v]) (hv : v < ρ1.length) (hz : ds.length ≤ sizeLine)
    (hs : ∀ d ∈ ds, ∀ (QT : Bool → En → Prop) (X' : Value → En → Prop), QT (f d) ((ρ1.set v none).set v (some (.dat d))) → wt ((ρ1.set v none).set v (some (.dat d))) QT X')
    (q : Q (.own (ds.filter f)) (ρ1.set v none)) : @LcOk ds [v] spName wt (wVar v) [v] Q ρ1 := by
  refine lc_by no (fun i acc ρ => acc = (ds.take i).filter f ∧ ρ = ρ1.set v none) ⟨by simp, rfl⟩ ?_ ?_
  · rintro acc ρ2 ⟨rfl, rfl⟩
    rw [List.take_length]; exact q
  · rintro i d acc ρ2 hd ⟨rfl, rfl⟩
    have hi : i < ds.length := (List.getElem?_eq_some_iff.mp hd).1
    have ht : ds.take (i + 1) = ds.take i ++ [d] := by
      rw [List.take_succ, hd]; rfl
    have e : wipeE (ρ1.set v none) [v] = ρ1.set v none := by simp [List.set_set]
    rw [e]
    refine ⟨⟨?_, trivial⟩, ?_⟩
    · unfold notInn
      simp [hv]
    refine hs d (List.mem_of_getElem? hd) _ _ ?_
    have e2 : wipeE ((ρ1.set v none).set v (some (Sl.dat d))) [v] = ρ1.set v none := by simp [List.set_set]
    cases hf : f d with
    | true =>
      simp only [if_true]
      have e3 : ((ρ1.set v none).set v (some (Sl.dat d)))[v]? = some (some (Sl.dat d)) := by simp [hv]
      rw [e_var, e3, vk_dat]
      show ((ds.take i).filter f).length < sizeLine ∧ _
      refine ⟨?_, ?_, e2⟩
      · have := List.length_filter_le f (ds.take i)
        have h2 : (ds.take i).length ≤ i := by simp; omega
        omega
      · rw [ht, List.filter_append]
        simp [hf]
    | false =>
      simp only [Bool.false_eq_true, if_false]
      refine ⟨?_, e2⟩
      rw [ht, List.filter_append]
      simp [hf]
/-! ### ints as data -/
theorem eqv_nI : ∀ a b : List Nat, PyData.eqvAll (D.pys (nI a)) (D.pys (nI b)) = decide (a = b)
  | [], [] => by simp [nI, D.pys, PyData.eqvAll]
  | [], y :: b => by simp [nI, D.pys, PyData.eqvAll]
  | x :: a, [] => by simp [nI, D.pys, PyData.eqvAll]
  | x :: a, y :: b => by
    show PyData.eqvAll (PyData.int (x : Nat) :: D.pys (nI a)) (PyData.int (y : Nat) :: D.pys (nI b)) = _
    rw [PyData.eqvAll, eqv_nI a b, Bool.eq_iff_iff]
    simp [PyData.eqv]
    omega
theorem pl_nI : ∀ l : List Nat, D.plains (nI l) = true
  | [] => by simp [nI, D.plains]
  | r :: l => by
    show (D.plain (.int (r : Nat)) && D.plains (nI l)) = true
    rw [pl_nI l]; simp [D.plain]
theorem dp_nI : ∀ l : List Nat, D.deeps (nI l) = 0
  | [] => by simp [nI, D.deeps]
  | r :: l => by
    show max (D.deep (.int (r : Nat))) (D.deeps (nI l)) = 0
    rw [dp_nI l]; simp [D.deep]
theorem shp_tN (l : List Nat) : (D.tup (nI l)).shp = true := by simp [D.shp, D.plain, pl_nI, D.deep, dp_nI]
theorem shp_lN (l : List Nat) : (D.lst (nI l)).shp = true := by simp [D.shp, D.plain, pl_nI, D.deep, dp_nI]
theorem eqb_tN (a b : List Nat) : (D.tup (nI a)).eqb (.tup (nI b)) = decide (a = b) := by
  unfold D.eqb
  rw [D.py, D.py, PyData.eqv]
  exact eqv_nI a b
theorem eqb_lN (a b : List Nat) : (D.lst (nI a)).eqb (.lst (nI b)) = decide (a = b) := by
  unfold D.eqb
  rw [D.py, D.py, PyData.eqv]
  exact eqv_nI a b
section
variable {Q : Sl → Prop} {a b : List Nat}
@[simp ↓] theorem g_neLN : gNe (.lst (nI a)) (.lst (nI b)) Q = Q (.dat (.bl (!decide (a = b)))) := by
  unfold gNe
  rw [eqb_lN, shp_lN, shp_lN]; simp
@[simp ↓] theorem g_neL0 : gNe (.lst (nI a)) (.lst []) Q = Q (.dat (.bl (!decide (a = [])))) := g_neLN (b := [])
@[simp ↓] theorem g_neTN : gNe (.tup (nI a)) (.tup (nI b)) Q = Q (.dat (.bl (!decide (a = b)))) := by
  unfold gNe
  rw [eqb_tN, shp_tN, shp_tN]; simp
@[simp ↓] theorem g_eqTN : gEq (.tup (nI a)) (.tup (nI b)) Q = Q (.dat (.bl (decide (a = b)))) := by
  unfold gEq
  rw [eqb_tN, shp_tN, shp_tN]; simp
theorem any_nI (x : Nat) : ∀ l : List Nat, ((nI l).any fun z => z.eqb (.int (x : Nat))) = decide (x ∈ l)
  | [] => by simp [nI]
  | y :: l => by
    show ((D.int (y : Nat)).eqb (.int (x : Nat)) || (nI l).any fun z => z.eqb (.int (x : Nat))) = _
    rw [any_nI x l, Bool.eq_iff_iff]
    have e : ((y : Int) = (x : Int)) = (x = y) := propext ⟨fun h => by omega, fun h => by omega⟩
    simp [D.eqb, D.py, PyData.eqv, e]
@[simp ↓] theorem g_notinN {x : Nat} {l : List Nat} : gNotInL (.int (x : Nat)) (.lst (nI l)) Q = Q (.dat (.bl (!decide (x ∈ l)))) := by
  show (((D.int (x : Nat)).shp = true ∧ (D.lst (nI l)).shp = true) ∧ Q (.dat (.bl (!(nI l).any fun z => z.eqb (.int (x : Nat)))))) = _
  rw [any_nI, shp_lN]; simp [D.shp, D.plain, D.deep]
end
theorem nI_app (a b : List Nat) : nI (a ++ b) = nI a ++ nI b := by simp [nI]
theorem nI_one (x : Nat) : nI [x] = [.int (x : Nat)] := rfl
theorem rg_nI (n : Nat) : rgD 0 n = nI (List.range n) := by
  apply List.ext_getElem?
  intro i
  by_cases h : i < n
  · rw [rgD_get h]; simp [nI, h]
  · rw [List.getElem?_eq_none (by rw [rgD_len]; omega), List.getElem?_eq_none (by rw [nI_len, List.length_range]; omega)]
theorem nI_ints (l : List Nat) : nI l = (l.map fun i : Nat => (i : Int)).map D.int := by simp [nI]
/-! ### sorted -/
theorem insN_perm (x : Nat) : ∀ l : List Nat, (insN x l).Perm (x :: l)
  | [] => List.Perm.refl _
  | y :: l => by
    unfold insN
    split
    · exact List.Perm.refl _
    · exact ((insN_perm x l).cons y).trans (List.Perm.swap x y l)
theorem sortN_perm : ∀ l : List Nat, (sortN l).Perm l
  | [] => List.Perm.refl _
  | x :: l => (insN_perm x _).trans ((sortN_perm l).cons x)
theorem insN_le {x : Nat} : ∀ {l : List Nat}, l.Pairwise (· ≤ ·) → (insN x l).Pairwise (· ≤ ·)
  | [], _ => by simp [insN]
  | y :: l, h => by
    unfold insN
    rw [List.pairwise_cons] at h
    split
    · rename_i hxy
      refine List.pairwise_cons.mpr ⟨?_, List.pairwise_cons.mpr h⟩
      intro z hz
      rcases List.mem_cons.mp hz with rfl | hz
      · exact hxy
      · exact Nat.le_trans hxy (h.1 z hz)
    · rename_i hxy
      refine List.pairwise_cons.mpr ⟨?_, insN_le h.2⟩
      intro z hz
      rcases List.mem_cons.mp ((insN_perm x l).mem_iff.mp hz) with rfl | hz
      · omega
      · exact h.1 z hz
theorem sortN_le : ∀ l : List Nat, (sortN l).Pairwise (· ≤ ·)
  | [] => List.Pairwise.nil
  | x :: l => insN_le (sortN_le l)
/-- what sorted answers of ints -/
theorem sort_eq {ns : List Int} {l : List Nat} (hp : ns.Perm (l.map fun i : Nat => (i : Int))) (hs : ns.Pairwise (· ≤ ·)) : ns.map D.int = nI (sortN l) := by
  have e : ns = (sortN l).map fun i : Nat => (i : Int) := by
    refine (hp.trans ((sortN_perm l).symm.map _)).eq_of_pairwise (le := (· ≤ ·)) ?_ hs ?_
    · intro a b _ _ h1 h2; omega
    · rw [List.pairwise_map]
      exact (sortN_le l).imp fun h => by omega
  rw [e, nI_ints]
theorem sort_range (p : List Nat) (n : Nat) (h : Ex p n) : sortN p = List.range n := by
  have e : all5 (fun n p => sortN p == List.range n) = true := by decide +kernel
  have := all5_of e h
  simpa using this
/-! ### rings -/
def rg (p : List Nat) (t k : Nat) : List Nat := (List.range k).map fun k => itr p k t
section
variable {P : Program} [PlP P] {w : World} {K : PySem.W.Frag} {mg : Str → Option Value} {base : Heap}
def notIn (l : List Nat) : D → Bool
  | .int x => !decide (x.toNat ∈ l)
  | _ => true
theorem ok__law_pot (T : Txt K mg) : FnOk P w K mg base (L2N.CX P w) 41 T.a__law_pot.f T.a__law_pot.fd ["_law_cell"] (spD K 1 f__law_pot) :=
  fn_D (wb := w__law_pot) T.a__law_pot.F sc__law_pot (d__law_pot T) (by
    rintro ds Q X hl ⟨c, rfl, h⟩
    simp [w__law_pot, startE, CPow]
    have h1 : 0 ≤ c.fmod 2147483629 := Int.fmod_nonneg_of_pos _ (by decide)
    have h2 : c.fmod 2147483629 < 2147483629 := Int.fmod_lt_of_pos _ (by decide)
    exact h _ _ ⟨by omega, by omega⟩)
theorem at20 (x y : D) : atI [x, y] 0 = some x := rfl
theorem at21 (x y : D) : atI [x, y] 1 = some y := rfl
theorem ix20 : ixN 2 0 = some 0 := rfl
theorem ix21 : ixN 2 1 = some 1 := rfl
theorem ok__law_digit (T : Txt K mg) : FnOk P w K mg base (L2N.CX P w) 41 T.a__law_digit.f T.a__law_digit.fd ["_law_pot_here", "_law_many"] (spI K 2 f__law_digit) :=
  fn_I (wb := w__law_digit) T.a__law_digit.F sc__law_digit (d__law_digit T) (by
    rintro dl ds Q X hl ⟨a, b, m, rfl, hb, rfl, hm0, hm, h⟩
    have h4 : m ≠ 0 := by omega
    simp [w__law_digit, startE, h4, at20, at21, ix20, ix21]
    obtain ⟨x, hx⟩ : ∃ x, x = (b * 48271 + 11).fmod 2147483647 := ⟨_, rfl⟩
    have hx0 : 0 ≤ x := by rw [hx]; exact Int.fmod_nonneg_of_pos _ (by decide)
    have hx1 : x < 2147483647 := by rw [hx]; exact Int.fmod_lt_of_pos _ (by decide)
    rw [← hx]
    have hxa : x.natAbs < 2 ^ 64 := by omega
    split
    · exact h _ _ _ (Int.fmod_nonneg_of_pos _ hm0) (Int.fmod_lt_of_pos _ hm0) hb
    · exact ⟨mul_small (by decide), mul_small hxa, mul_small hxa, h _ _ _ (Int.fmod_nonneg_of_pos _ hm0) (Int.fmod_lt_of_pos _ hm0) ⟨hx0, hx1⟩⟩)
theorem srtW_nI {Qs : Sl → Prop} {l : List Nat} (h : Qs (.own (nI (sortN l)))) : @SrtW (nI l) Qs := by
  rw [nI_ints]
  exact srtW_ints fun ns' hp' hs' => by rw [sort_eq hp' hs']; exact h
@[simp ↓] theorem g_allL {ds : List D} {Q : Sl → Prop} : gAll [.lst ds] Q = @WOp _ (blsOf ds) fun bs => Q (.dat (.bl (bs.all id))) := id rfl
@[simp ↓] theorem m_popAt {ds : List D} {i : Int} {Q : D → List D → Prop} : mPopAt ds [.int i] Q = ((-(2 ^ 63) ≤ i ∧ i < 2 ^ 63) ∧ @WOp _ (seqIndex? i ds.length) fun k => @WOp _ ds[k]? fun d => Q d (ds.eraseIdx k)) := id rfl
theorem erase_nI : ∀ (l : List Nat) (j : Nat), (nI l).eraseIdx j = nI (l.eraseIdx j)
  | [], _ => rfl
  | x :: l, 0 => rfl
  | x :: l, j + 1 => by
    show D.int (x : Nat) :: (nI l).eraseIdx j = D.int (x : Nat) :: nI (l.eraseIdx j)
    rw [erase_nI l j]
theorem er_perm : ∀ (l : List Nat) (j : Nat) (h : j < l.length), ([l[j]] ++ l.eraseIdx j).Perm l
  | x :: l, 0, _ => List.Perm.refl _
  | x :: l, j + 1, h => (List.Perm.swap x (l[j]'(by simpa using h)) (l.eraseIdx j)).trans ((er_perm l j (by simpa using h)).cons x)
theorem ints_nI (l : List Nat) : intsOf (nI l) = some (l.map fun i : Nat => (i : Int)) := by
  rw [nI_ints]
  exact intsOf_map _
theorem isi_tt : isiB "tuple" "tuple" = true := by decide
theorem isi_ii : isiB "int" "int" = true := by decide
theorem isi_ib : isiB "int" "bool" = false := by decide
theorem bls_true (n : Nat) : blsOf (List.replicate n (.bl true)) = some (List.replicate n true) := by
  induction n with
  | zero => rfl
  | succ n ih => rw [List.replicate_succ, blsOf, ih]; rfl
theorem perm_ex {l : List Nat} {n : Nat} (h1 : 1 ≤ n) (h5 : n ≤ 5) (h : l.Perm (List.range n)) : Ex l n :=
  ⟨h1, h5, by rw [h.length_eq, List.length_range], fun i hi => List.mem_range.mp (h.mem_iff.mp hi), h.symm.nodup List.nodup_range⟩
def Wx (n : Nat) (i : Nat) (acc : List D) (ρ : En) : Prop := ∃ (a b : Int) (left done : List Nat), acc = nI done ∧ done.length = i ∧ Pt b ∧ (done ++ left).Perm (List.range n) ∧ ρ = [some (.inn [.int a, .int b]), some (.dat (.int (n : Nat))), some (.own (nI left)), none]
theorem ok__law_exchange (T : Txt K mg) : FnOk P w K mg base (L2N.CX P w) 42 T.a__law_exchange.f T.a__law_exchange.fd ["_law_pot_here", "_law_n"] (spI K 2 f__law_exchange) :=
  fn_I (wb := w__law_exchange) T.a__law_exchange.F sc__law_exchange (d__law_exchange T (ok__law_digit T)) (by
    rintro dl ds Q X hl ⟨a, b, n, rfl, hb, rfl, h1, h5, h⟩
    simp [w__law_exchange, startE, rg_nI, nI_len]
    refine ⟨by omega, by omega, by omega, ?_⟩
    refine lc_by (by simp) (Wx n) ⟨a, b, List.range n, [], rfl, rfl, hb, by simp, by simp⟩ ?_ ?_
    · rintro acc ρ ⟨a, b, left, don, rfl, hd, hb, hp, rfl⟩
      rw [nI_len, List.length_range] at hd
      have hl0 : left = [] := by
        have := hp.length_eq
        rw [List.length_append, List.length_range] at this
        exact List.length_eq_zero_iff.mp (by omega)
      subst hl0
      rw [List.append_nil] at hp
      simpa using h don a b (perm_ex h1 h5 hp) hb
    · rintro i d acc ρ hd ⟨a, b, left, don, rfl, hdl, hb, hp, rfl⟩
      obtain ⟨k, hk, rfl⟩ := nI_get hd
      have hi : i < n := by
        have := (List.getElem?_eq_some_iff.mp hk).1
        rwa [List.length_range] at this
      have hki : k = i := by
        rw [List.getElem?_range hi] at hk
        exact (Option.some.inj hk).symm
      subst hki
      have hll : left.length = n - k := by
        have := hp.length_eq
        rw [List.length_append, List.length_range] at this
        omega
      simp
      refine ⟨a, b, (n : Int) - (k : Int), rfl, hb, rfl, by omega, by omega, ?_⟩
      intro d a' b' hd0 hdm hb'
      obtain ⟨j, rfl⟩ := Int.eq_ofNat_of_zero_le hd0
      have hj : j < left.length := by omega
      have ej : seqIndex? (j : Int) (nI left).length = some j := by
        rw [nI_len]
        have hn : ¬ ((j : Int) < 0) := by omega
        have hj2 : (j : Int) < (left.length : Int) := by omega
        simp [seqIndex?, hn, hj]
      have eg : (nI left)[j]? = some (.int (left[j] : Nat)) := by simp [nI, hj]
      simp [ej, eg, erase_nI]
      refine ⟨by omega, by rw [nI_len]; omega, a', b', left.eraseIdx j, don ++ [left[j]], by rw [nI_app, nI_one], by simp [hdl], hb', ?_, rfl⟩
      rw [List.append_assoc]
      refine List.Perm.trans (List.Perm.append_left don ?_) hp
      exact er_perm left j hj)
end
end K34



set_option Elab.async false
set_option linter.all false
set_option maxRecDepth 100000
set_option maxHeartbeats 4000000
namespace K34
open PySem L2 DL RX
def iZ (p : List Nat) : List Int := p.map fun i : Nat => (i : Int)
theorem iZ_inj {p q : List Nat} (h : iZ p = iZ q) : p = q := by
  have := congrArg (List.map Int.toNat) h
  simp only [iZ, List.map_map] at this
  have e : (Int.toNat ∘ fun i : Nat => (i : Int)) = id := by funext i; simp
  rw [e] at this
  simpa using this
theorem tpx_iZ (p : List Nat) : tpxI (iZ p) = exX p := by
  simp [tpxI, iZ, exX, nI]
theorem keyX_ex (p : List Nat) : keyX (exX p) = some (iZ p) := by
  show intsOf (nI p) = _
  rw [ints_nI]; rfl
def kX (found : List (List Nat)) : List (List Int × D) := found.map fun p => (iZ p, .non)
theorem kX_keys (found : List (List Nat)) : (kX found).map (·.1) = found.map iZ := by simp [kX]
theorem mem_iZ {found : List (List Nat)} {p : List Nat} : iZ p ∈ found.map iZ ↔ p ∈ found := by
  rw [List.mem_map]
  exact ⟨fun ⟨q, hq, e⟩ => iZ_inj e ▸ hq, fun h => ⟨p, h, rfl⟩⟩
theorem has_kX (found : List (List Nat)) (p : List Nat) : hasK (kX found) (iZ p) = decide (p ∈ found) := by
  unfold hasK
  rw [kX_keys, decide_eq_decide]
  exact mem_iZ
def addN (found : List (List Nat)) (p : List Nat) : List (List Nat) := if p ∈ found then found else found ++ [p]
theorem put_kX (found : List (List Nat)) (p : List Nat) : putX (kX found) (iZ p) = kX (addN found p) := by
  unfold putX addN
  rw [kX_keys]
  by_cases h : p ∈ found
  · rw [if_pos (mem_iZ.mpr h), if_pos h]
  · rw [if_neg (fun z => h (mem_iZ.mp z)), if_neg h]; simp [kX]
theorem exx_get {S : List (List Nat)} {i : Nat} {d : D} (h : (S.map exX)[i]? = some d) : ∃ m, S[i]? = some m ∧ d = exX m := by
  rw [List.getElem?_map] at h
  obtain ⟨m, hm, rfl⟩ := Option.map_eq_some_iff.mp h
  exact ⟨m, hm, rfl⟩
@[simp] theorem nl_exx : ∀ l : List (List Nat), D.nolists (l.map exX) = true
  | [] => by simp
  | p :: l => by
    show (D.nolist (exX p) && D.nolists (l.map exX)) = true
    rw [nl_exx l]; simp [exX, D.nolist]
/-! ### sorted keys -/
def cN : List Nat → Nat
  | [] => 0
  | x :: l => x * 5 ^ l.length + cN l
theorem code_iZ : ∀ p : List Nat, TS.code 5 (iZ p) = (cN p : Nat)
  | [] => rfl
  | x :: l => by
    show (x : Int) * 5 ^ (iZ l).length + TS.code 5 (iZ l) = _
    rw [code_iZ l]
    simp [cN, iZ]
theorem exs_lt : (List.range 6).all (fun n => decide ((exs n).Pairwise fun a b => cN a < cN b)) = true := by decide +kernel
theorem exs_pw {n : Nat} (h5 : n ≤ 5) : (exs n).Pairwise fun a b => cN a < cN b := of_decide_eq_true (List.all_eq_true.mp exs_lt n (List.mem_range.mpr (by omega)))
theorem cN_inj {n : Nat} (h5 : n ≤ 5) {a b : List Nat} (ha : a ∈ exs n) (hb : b ∈ exs n) (h : cN a = cN b) : a = b := by
  obtain ⟨i, hi, rfl⟩ := List.mem_iff_getElem.mp ha
  obtain ⟨j, hj, rfl⟩ := List.mem_iff_getElem.mp hb
  have pw := List.pairwise_iff_getElem.mp (exs_pw h5)
  rcases Nat.lt_trichotomy i j with c | c | c
  · have := pw i j hi hj c; omega
  · subst c; rfl
  · have := pw j i hj hi c; omega
theorem sort_Gx {n : Nat} {ps found : List (List Nat)} (h1 : 1 ≤ n) (h5 : n ≤ 5) (hps : ∀ p ∈ ps, Ex p n) (nd : found.Nodup) (hf : ∀ p, p ∈ found ↔ Gen n ps p) {ts : List (List Int)} (hp : ts.Perm (found.map iZ)) (hs : ts.Pairwise fun a b => TS.code 5 a ≤ TS.code 5 b) :
    ts.map tpxI = (G n ps).map exX := by
  have g := G_isG h1 h5 hps
  have pm : found.Perm (G n ps) := by
    refine (List.perm_ext_iff_of_nodup nd g.nodup).mpr fun p => ?_
    rw [hf p, mem_G h1 h5 hps]
  have e1 : ts = (G n ps).map iZ := by
    refine (hp.trans (pm.map iZ)).eq_of_pairwise (le := fun a b => TS.code 5 a ≤ TS.code 5 b) ?_ hs ?_
    · intro a b ha hb h1' h2'
      obtain ⟨p, hp', rfl⟩ := List.mem_map.mp (hp.mem_iff.mp ha)
      obtain ⟨q, hq', rfl⟩ := List.mem_map.mp hb
      rw [code_iZ, code_iZ] at h1' h2'
      rw [cN_inj h5 ((gen_ex h1 h5 hps ((hf p).mp hp')).mem) ((g.ex hq').mem) (by omega)]
    · rw [List.pairwise_map, g.ord]
      refine List.Pairwise.filter _ ((exs_pw h5).imp fun {a b} h => ?_)
      rw [code_iZ, code_iZ]
      omega
  rw [e1, List.map_map]
  apply List.map_congr_left
  intro p _
  exact tpx_iZ p
theorem bd_iZ {p : List Nat} {n : Nat} (h : Ex p n) : (iZ p).length = n ∧ TS.Bd 5 (iZ p) := by
  refine ⟨by simp [iZ, h.len], fun x hx' => ?_⟩
  obtain ⟨i, hi, rfl⟩ := List.mem_map.mp hx'
  have := h.lt i hi
  have := h.n5
  constructor <;> omega
theorem Mk.length : ∀ {es : List D} {ps : List (List Nat)}, Mk es ps → es.length = ps.length
  | _, _, .nil => rfl
  | _, _, .cons _ t => by simp [Mk.length t]
theorem Mk.get : ∀ {es : List D} {ps : List (List Nat)} {i : Nat} {d : D}, Mk es ps → es[i]? = some d → ∃ p, ps[i]? = some p ∧ isE d p
  | _, _, _, _, .nil, h => by simp at h
  | _, _, 0, _, .cons e _, h => by simp at h; subst h; exact ⟨_, rfl, e⟩
  | _, _, i + 1, _, .cons _ t, h => by simp at h; obtain ⟨p, h1, h2⟩ := Mk.get t h; exact ⟨p, by simpa using h1, h2⟩
theorem Mk.exX : ∀ ps : List (List Nat), Mk (ps.map K34.exX) ps
  | [] => .nil
  | p :: ps => .cons (.inr rfl) (Mk.exX ps)
/-! ### all_made -/
structure Fnd (n : Nat) (ps found wait : List (List Nat)) : Prop where
  nd : found.Nodup
  gen : ∀ p ∈ found, Gen n ps p
  sub : ∀ p ∈ wait, p ∈ found
  one : List.range n ∈ found
theorem Fnd.size {n : Nat} {ps found wait : List (List Nat)} (h1 : 1 ≤ n) (h5 : n ≤ 5) (hps : ∀ p ∈ ps, Ex p n) (f : Fnd n ps found wait) : found.length ≤ 120 := by
  have a : found.length ≤ (G n ps).length := sub_len f.nd fun p hp => (mem_G h1 h5 hps).mpr (f.gen p hp)
  have b := (G_isG h1 h5 hps).size_le.2
  omega
def Wo (n : Nat) (ps : List (List Nat)) (dl : D) (m : Nat) (ρ : En) : Prop := ∃ (found wait : List (List Nat)) (a b c : Option Sl), Fnd n ps found wait ∧ (∀ p ∈ found, p ∉ wait → ∀ q ∈ ps, comp q p ∈ found) ∧ (2 * (121 - found.length) + wait.length ≤ m ∧ m ≤ 241) ∧
  ρ = [some (.dat (.int (n : Nat))), some (.dat dl), some (.dat (exX (List.range n))), some (.dic ⟨2, kX found⟩), some (.own (wait.map exX)), a, b, c] ∧ free a ∧ free b ∧ free c
def Wi (n : Nat) (ps : List (List Nat)) (dl : D) (here : List Nat) (m i : Nat) (ρ : En) : Prop := ∃ (found wait : List (List Nat)) (b c : Option Sl), Fnd n ps found wait ∧ here ∈ found ∧ (∀ p ∈ found, p ∉ wait → p ≠ here → ∀ q ∈ ps, comp q p ∈ found) ∧ (∀ j q, j < i → ps[j]? = some q → comp q here ∈ found) ∧ 2 * (121 - found.length) + wait.length < m ∧
  ρ = [some (.dat (.int (n : Nat))), some (.dat dl), some (.dat (exX (List.range n))), some (.dic ⟨2, kX found⟩), some (.own (wait.map exX)), some (.dat (exX here)), b, c] ∧ free b ∧ free c
theorem pl_exx : ∀ l : List (List Nat), D.plains (l.map exX) = true
  | [] => by simp [D.plains]
  | p :: l => by simp [D.plains, pl_exx l, exX, D.plain, pl_nI]
theorem dp_exx : ∀ l : List (List Nat), D.deeps (l.map exX) ≤ 1
  | [] => by simp [D.deeps]
  | p :: l => by
    show max (D.deep (exX p)) (D.deeps (l.map exX)) ≤ 1
    have : D.deep (exX p) = 1 := by simp [exX, D.deep, dp_nI]
    have := dp_exx l
    omega
theorem shp_exs (l : List (List Nat)) : (D.lst (l.map exX)).shp = true := by
  have := dp_exx l
  simp [D.shp, D.plain, pl_exx, D.deep]
  omega
theorem ne_lex {l : List (List Nat)} {Q : Sl → Prop} : gNe (.lst (l.map exX)) (.lst []) Q = Q (.dat (.bl (!decide (l = [])))) := by
  have s2 : (D.lst []).shp = true := by decide +kernel
  have s1 := shp_exs l
  have e : (D.lst (l.map exX)).eqb (.lst []) = decide (l = []) := by
    cases l with
    | nil => simp [D.eqb, D.py, D.pys, PyData.eqv, PyData.eqvAll]
    | cons p l => simp [D.eqb, D.py, D.pys, PyData.eqv, PyData.eqvAll]
  unfold gNe
  rw [e, s1, s2]; simp
section
variable {P : Program} [PlP P] {w : World} {K : PySem.W.Frag} {mg : Str → Option Value} {base : Heap}
theorem ok_all_made (T : Txt K mg) : FnOk P w K mg base (L2N.CX P w) 42 T.a_all_made.f T.a_all_made.fd ["many", "makers"] (spD K 2 f_all_made) :=
  fn_D (wb := w_all_made) T.a_all_made.F sc_all_made (d_all_made T (ok_behind T)) (by
    rintro ds Q X hl ⟨n, dl, es, ps, rfl, hdl, h1, h5, mk, hps, h⟩
    rcases hdl with rfl | rfl
    all_goals
      simp [w_all_made, startE, rg_nI, nI_len]
      have hr := ex_range h1 h5
      refine ⟨by omega, by omega, ?_⟩
      rw [show D.tpx (nI (List.range n)) = exX (List.range n) from rfl]
      simp [keyX_ex]
      refine while_by (Wo n ps _) (2 * 120 + 1) ⟨[List.range n], [List.range n], none, none, none, ⟨by simp, fun p hp => ?_, fun p hp => hp, by simp⟩, fun p hp hn => absurd hp hn, ⟨by simp, by omega⟩, (by simp [kX] <;> rfl), trivial, trivial, trivial⟩ ?_
      · rw [List.mem_singleton.mp hp]; exact .one
      rintro m ρ ⟨found, wait, a, b, c, fd, cl, ⟨hm, hm241⟩, rfl, fa, fb, fc⟩
      simp [ne_lex]
      by_cases hw : wait = []
      · rw [if_pos hw]
        simp [dicAt]
        have hcl : ∀ p, p ∈ found ↔ Gen n ps p := fun p => ⟨fd.gen p, fun g => by
          induction g with
          | one => exact fd.one
          | by_ hq _ ih => exact cl _ ih (by rw [hw]; simp) _ hq⟩
        refine ⟨n, 5, ⟨h1, fun t ht => ?_⟩, fun ts hp hs => ?_⟩
        · rw [kX_keys] at ht
          obtain ⟨p, hp, rfl⟩ := List.mem_map.mp ht
          exact bd_iZ (gen_ex h1 h5 hps (fd.gen p hp))
        · rw [kX_keys] at hp
          have es' := sort_Gx h1 h5 hps fd.nd hcl hp hs
          first
          | (show D.nolists (ts.map tpxI) = true ∧ Q (Sl.own (ts.map tpxI))
             rw [es']
             exact ⟨nl_exx _, h⟩)
          | (show (D.nolists es = true ∨ D.nolists (ts.map tpxI) = true) ∧ Q (Sl.own (ts.map tpxI))
             rw [es']
             exact ⟨.inr (nl_exx _), h⟩)
      · rw [if_neg hw]
        obtain ⟨wt, here, rfl⟩ : ∃ wt here, wait = wt ++ [here] := ⟨wait.dropLast, wait.getLast hw, (List.dropLast_concat_getLast hw).symm⟩
        have hh : here ∈ found := fd.sub here (by simp)
        have hhx := gen_ex h1 h5 hps (fd.gen here hh)
        simp [fa]
        refine loop_by (Wi n ps _ here m) ⟨found, wt, b, c, ⟨fd.nd, fd.gen, fun p hp => fd.sub p (by simp [hp]), fd.one⟩, hh, fun p hp hn hne q hq => cl p hp (by simp [hn, hne]) q hq, fun j q hj => by omega, by simp at hm; omega, (by simp <;> rfl), fb, fc⟩ ?_ ?_
        · rintro ρ ⟨found', wt', b, c, fd', hh', cl', al, hm', rfl, fb, fc⟩
          refine ⟨_, hm', found', wt', _, _, _, fd', fun p hp hn q hq => ?_, ⟨Nat.le_refl _, by omega⟩, rfl, trivial, fb, fc⟩
          by_cases hne : p = here
          · subst hne
            obtain ⟨j, hj, e⟩ := List.mem_iff_getElem.mp hq
            exact al j q (by rw [mk.length]; exact hj) (by rw [← e]; exact List.getElem?_eq_getElem hj)
          · exact cl' p hp hn hne q hq
        · rintro i d ρ hd ⟨found', wt', b, c, fd', hh', cl', al, hm', rfl, fb, fc⟩
          obtain ⟨q, hq, eq⟩ := mk.get hd
          have hqx := hps q (List.mem_of_getElem? hq)
          simp [fb, fc]
          refine ⟨d, q, here, n, rfl, eq, hqx, hhx, ?_⟩
          have hnx := ex_comp hqx hhx
          simp [fc, keyX_ex, dicAt, has_kX]
          have al' : ∀ found2 : List (List Nat), (∀ p ∈ found', p ∈ found2) → comp q here ∈ found2 → ∀ j q', j < i + 1 → ps[j]? = some q' → comp q' here ∈ found2 := fun f2 hs hc j q' hj e => by
            by_cases z : j = i
            · subst z
              rw [hq] at e; cases e
              exact hc
            · exact hs _ (al j q' (by omega) e)
          by_cases hc : comp q here ∈ found'
          · simp [hc]
            exact ⟨found', wt', _, _, fd', hh', cl', al' found' (fun p hp => hp) hc, hm', rfl, trivial, trivial⟩
          · simp [hc]
            have gq : Gen n ps (comp q here) := .by_ (List.mem_of_getElem? hq) (fd'.gen here hh')
            have fd2 : Fnd n ps (found' ++ [comp q here]) (wt' ++ [comp q here]) := by
              refine ⟨?_, fun p hp => ?_, fun p hp => ?_, by simp [fd'.one]⟩
              · rw [List.nodup_append]
                exact ⟨fd'.nd, by simp, fun x hx y hy z => hc (by
                  have e : y = comp q here := by simpa using hy
                  rw [← e, ← z]
                  exact hx)⟩
              · rcases List.mem_append.mp hp with hp | hp
                · exact fd'.gen p hp
                · rw [List.mem_singleton.mp hp]; exact gq
              · rcases List.mem_append.mp hp with hp | hp
                · exact List.mem_append_left _ (fd'.sub p hp)
                · exact List.mem_append_right _ hp
            have sz := fd2.size h1 h5 hps
            rw [List.length_append, List.length_singleton] at sz
            refine ⟨by simp [kX]; omega, ?_, ?_⟩
            · omega
            · refine ⟨found' ++ [comp q here], wt' ++ [comp q here], some (.dat d), some (.dat (exX (comp q here))), fd2, by simp [hh'], fun p hp hn hne q' hq' => ?_, al' _ (fun p hp => by simp [hp]) (by simp), by simp; omega, ?_, trivial, trivial⟩
              · rw [List.mem_append, List.mem_singleton] at hn hp
                rcases hp with hp | hp
                · exact List.mem_append_left _ (cl' p hp (fun z => hn (.inl z)) hne q' hq')
                · exact absurd (.inr hp) hn
              · rw [put_kX]
                simp [addN, hc])
end
structure Fnx (n : Nat) (ps found : List (List Nat)) : Prop where
  nd : found.Nodup
  gen : ∀ p ∈ found, Gen n ps p
  one : List.range n ∈ found
theorem Fnx.size {n : Nat} {ps found : List (List Nat)} (h1 : 1 ≤ n) (h5 : n ≤ 5) (hps : ∀ p ∈ ps, Ex p n) (f : Fnx n ps found) : found.length ≤ 120 := by
  have a : found.length ≤ (G n ps).length := sub_len f.nd fun p hp => (mem_G h1 h5 hps).mpr (f.gen p hp)
  have b := (G_isG h1 h5 hps).size_le.2
  omega
theorem Fnx.all {n : Nat} {ps found : List (List Nat)} (h1 : 1 ≤ n) (h5 : n ≤ 5) (hps : ∀ p ∈ ps, Ex p n) (f : Fnx n ps found) (cl : ∀ p ∈ found, ∀ q ∈ ps, comp p q ∈ found) : ∀ p, p ∈ found ↔ Gen n ps p := fun p => ⟨f.gen p, fun z => by
  have : ∀ p, Gen n ps p → ∀ f ∈ found, comp f p ∈ found := fun p z => by
    induction z with
    | one => intro u hu; rw [comp_id (gen_ex h1 h5 hps (f.gen u hu))]; exact hu
    | by_ hq hg ih =>
      intro u hu
      rw [← comp_assoc (hps _ hq) (gen_ex h1 h5 hps hg)]
      exact ih _ (cl u hu _ hq)
  have := this p z _ f.one
  rwa [id_comp (gen_ex h1 h5 hps z)] at this⟩
def Wm (n : Nat) (ps : List (List Nat)) (dl : D) (m : Nat) (ρ : En) : Prop := ∃ (found : List (List Nat)) (k : Nat) (a b : Option Sl), Fnx n ps found ∧ (∀ p ∈ found.take k, ∀ q ∈ ps, comp p q ∈ found) ∧ k ≤ found.length ∧ 121 - k ≤ m ∧
  ρ = [some (.dat (.int (n : Nat))), some (.dat dl), some (.own (found.map exX)), some (.dic ⟨2, kX found⟩), some (.dat (.int (k : Nat))), a, b] ∧ free a ∧ free b
def Wm2 (n : Nat) (ps : List (List Nat)) (dl : D) (k : Nat) (here : List Nat) (i : Nat) (ρ : En) : Prop := ∃ (found : List (List Nat)) (a b : Option Sl), Fnx n ps found ∧ (∀ p ∈ found.take k, ∀ q ∈ ps, comp p q ∈ found) ∧ found[k]? = some here ∧ (∀ q ∈ ps.take i, comp here q ∈ found) ∧
  ρ = [some (.dat (.int (n : Nat))), some (.dat dl), some (.own (found.map exX)), some (.dic ⟨2, kX found⟩), some (.dat (.int (k : Nat))), a, b] ∧ free a ∧ free b
theorem at_exx {l : List (List Nat)} {k : Nat} {p : List Nat} (h : l[k]? = some p) : atI (l.map exX) (k : Int) = some (exX p) := by
  have hk := (List.getElem?_eq_some_iff.mp h).1
  have e : ixN (l.map exX).length (k : Int) = some k := by
    rw [List.length_map]; simp [ixN, hk]
  unfold atI
  rw [e]
  simp [h]
section
variable {P : Program} [PlP P] {w : World} {K : PySem.W.Frag} {mg : Str → Option Value} {base : Heap}
theorem ok__law_made (T : Txt K mg) : FnOk P w K mg base (L2N.CX P w) 42 T.a__law_made.f T.a__law_made.fd ["_law_n", "_law_makers_here"] (spD K 2 f__law_made) :=
  fn_D (wb := w__law_made) T.a__law_made.F sc__law_made (d__law_made T (ok__law_behind T)) (by
    rintro ds Q X hl ⟨n, dl, ps, rfl, hdl, h1, h5, hps, hlen, h⟩
    rcases hdl with rfl | rfl
    all_goals
      simp [w__law_made, startE, rg_nI, nI_len]
      have hr := ex_range h1 h5
      have ea : atI [D.tpx (nI (List.range n))] 0 = some (exX (List.range n)) := rfl
      refine ⟨by omega, by omega, ?_⟩
      rw [ea]
      simp [keyX_ex]
      refine while_by (Wm n ps _) 121 ⟨[List.range n], 0, none, none, ⟨by simp, fun p hp => ?_, by simp⟩, by simp, by simp, by omega, (by simp [kX, exX] <;> rfl), trivial, trivial⟩ ?_
      · rw [List.mem_singleton.mp hp]; exact .one
      rintro m ρ ⟨found, k, a, b, fx, cl, hk, hm, rfl, fa, fb⟩
      simp
      have sz := fx.size h1 h5 hps
      by_cases c : k < found.length
      · rw [if_pos c]
        have eh : found[k]? = some found[k] := List.getElem?_eq_getElem c
        generalize found[k] = here at eh
        refine loop_by (Wm2 n ps _ k here) ⟨found, a, b, fx, cl, eh, by simp, rfl, fa, fb⟩ ?_ ?_
        · rintro ρ ⟨found, a, b, fx, cl, eh, al, rfl, fa, fb⟩
          rw [List.length_map, List.take_length] at al
          have c := (List.getElem?_eq_some_iff.mp eh).1
          have sz := fx.size h1 h5 hps
          simp
          refine ⟨121 - (k + 1), by omega, found, k + 1, _, _, fx, fun p hp q hq => ?_, c, Nat.le_refl _, by simp, fa, fb⟩
          rw [List.take_add_one, eh] at hp
          rcases List.mem_append.mp hp with hp | hp
          · exact cl p hp q hq
          · have e : p = here := by simpa using hp
            rw [e]; exact al q hq
        · rintro i d ρ hd ⟨found, a, b, fx, cl, eh, al, rfl, fa, fb⟩
          obtain ⟨q, hq, rfl⟩ := exx_get hd
          have hqp := List.mem_of_getElem? hq
          have hhx := gen_ex h1 h5 hps (fx.gen here (List.mem_of_getElem? eh))
          simp [fa, fb, at_exx eh]
          refine ⟨_, _, here, q, n, rfl, .inr rfl, .inr rfl, hhx, hps q hqp, ?_⟩
          simp [fb, keyX_ex, dicAt, has_kX]
          have al' : ∀ f2 : List (List Nat), (∀ p ∈ found, p ∈ f2) → comp here q ∈ f2 → ∀ q' ∈ ps.take (i + 1), comp here q' ∈ f2 := fun f2 hs hc q' hq' => by
            rw [List.take_add_one, hq] at hq'
            rcases List.mem_append.mp hq' with z | z
            · exact hs _ (al q' z)
            · have e : q' = q := by simpa using z
              rw [e]; exact hc
          by_cases hc : comp here q ∈ found
          · simp [hc]
            exact ⟨found, _, _, fx, cl, eh, al' found (fun p hp => hp) hc, rfl, trivial, trivial⟩
          · simp [hc]
            have gq : Gen n ps (comp here q) := gen_mul h1 h5 hps (fx.gen here (List.mem_of_getElem? eh)) (by
              have := Gen.by_ (n := n) hqp .one
              rwa [comp_id (hps q hqp)] at this)
            have fx2 : Fnx n ps (found ++ [comp here q]) := ⟨by
              rw [List.nodup_append]
              exact ⟨fx.nd, by simp, fun x hx y hy z => hc (by
                have e : y = comp here q := by simpa using hy
                rw [← e, ← z]
                exact hx)⟩, fun p hp => by
              rcases List.mem_append.mp hp with hp | hp
              · exact fx.gen p hp
              · rw [List.mem_singleton.mp hp]; exact gq, by simp [fx.one]⟩
            have sz := fx2.size h1 h5 hps
            rw [List.length_append, List.length_singleton] at sz
            have ck := (List.getElem?_eq_some_iff.mp eh).1
            refine ⟨by simp [kX]; omega, by omega, found ++ [comp here q], some (.dat (exX q)), some (.dat (exX (comp here q))), fx2, fun p hp q' hq' => ?_, by rw [List.getElem?_append_left ck]; exact eh, al' _ (fun p hp => by simp [hp]) (by simp), ?_, trivial, trivial⟩
            · rw [List.take_append_of_le_length (by omega)] at hp
              exact List.mem_append_left _ (cl p hp q' hq')
            · rw [put_kX]
              simp [addN, hc]
      · rw [if_neg c]
        have e : k = found.length := by omega
        subst e
        rw [List.take_length] at cl
        have hf := fx.all h1 h5 hps cl
        refine ⟨found.map iZ, n, 5, ?_, h1, fun t ht => ?_, fun ts hp hs => ?_⟩
        · rw [List.map_map]; exact List.map_congr_left fun p _ => (tpx_iZ p).symm
        · obtain ⟨p, hp, rfl⟩ := List.mem_map.mp ht
          exact bd_iZ (gen_ex h1 h5 hps (fx.gen p hp))
        · rw [sort_Gx h1 h5 hps fx.nd hf hp hs]
          simp
          exact h)
end
end K34


set_option Elab.async false
set_option linter.all false
set_option maxRecDepth 100000
set_option maxHeartbeats 4000000
namespace K34
open PySem L2 DL RX
@[simp ↓] theorem g_srtTX {ds : List D} {Qs : Sl → Prop} : gSrt [.tpx ds] Qs = @SrtW ds Qs := id rfl
theorem lkT (a b : D) : List.lookup ("things" : Str) [(("things" : Str), a), (("all_members" : Str), b)] = some a := rfl
theorem lkM (a b : D) : List.lookup ("all_members" : Str) [(("things" : Str), a), (("all_members" : Str), b)] = some b := rfl
theorem noobj_nI : ∀ l : List Nat, D.noobjs (nI l) = true
  | [] => by simp [nI, D.noobjs]
  | x :: l => by
    show (D.noobj (.int (x : Nat)) && D.noobjs (nI l)) = true
    rw [noobj_nI l]; simp [D.noobj]
theorem noobj_exx : ∀ l : List (List Nat), D.noobjs (l.map exX) = true
  | [] => by simp [D.noobjs]
  | p :: l => by
    show (D.noobj (exX p) && D.noobjs (l.map exX)) = true
    rw [noobj_exx l]; simp [exX, D.noobj, noobj_nI]
section
variable {P : Program} [PlP P] {w : World} {K : PySem.W.Frag} {mg : Str → Option Value} {base : Heap}
theorem Mk.noobj : ∀ {es : List D} {ps : List (List Nat)}, Mk es ps → D.noobjs es = true
  | _, _, .nil => by simp [D.noobjs]
  | _, _, .cons e t => by
    rw [D.noobjs, Mk.noobj t]
    rcases e with rfl | rfl <;> simp [D.noobj, noobj_nI]
theorem ok_Group___init__ (T : Txt K mg) : FnOk P w K mg base (L2N.CX P w) 43 T.a_Group___init__.f T.a_Group___init__.fd ["self", "many", "makers"] (spC K T.x_Group ["things", "all_members"] 3 f_Group___init__) :=
  ok_Group___init___of T (ok_all_made T) (by
    rintro a ds Q X hl ⟨n, dl, es, ps, rfl, hdl, mk, h1, h5, hps, hlen, h⟩
    rcases hdl with rfl | rfl
    all_goals
      refine ⟨by simp [D.noobjs, D.noobj, mk.noobj], .int (n : Nat), by simp [startE], by simp, by simp, by simp [startE], ?_⟩
      simp [w_Group___init__, startE]
      refine lcm_by (res := es) (by simp) (by simp) (by rw [mk.length, DL.sizeLine_eq]; omega) ?_ ?_
      · intro i d d' hd hd'
        rw [hd] at hd'
        cases hd'
        obtain ⟨p, hp, e⟩ := mk.get hd
        refine ⟨_, rfl, by simp, fun Q' X' hq' => ?_⟩
        rcases e with rfl | rfl <;> (simp; exact hq' _ (by simp))
      · simp
        refine ⟨n, _, es, ps, rfl, .inl rfl, h1, h5, mk, hps, ?_⟩
        simp [noobj_exx]
        exact h)
theorem ok_Group_many (T : Txt K mg) : FnOk P w K mg base (L2N.CX P w) 41 T.a_Group_many.f T.a_Group_many.fd ["self"] (spD K 1 (f_Group_many T.x_Group)) :=
  fn_D (wb := w_Group_many T) T.a_Group_many.F sc_Group_many (d_Group_many T) (by
    rintro ds Q X hl ⟨n, S, rfl, h⟩
    simp [w_Group_many, startE, grp, lkT, lkM]
    exact h)
theorem ok_Group_members (T : Txt K mg) : FnOk P w K mg base (L2N.CX P w) 41 T.a_Group_members.f T.a_Group_members.fd ["self"] (spD K 1 (f_Group_members T.x_Group)) :=
  fn_D (wb := w_Group_members T) T.a_Group_members.F sc_Group_members (d_Group_members T) (by
    rintro ds Q X hl ⟨n, S, rfl, h⟩
    simp [w_Group_members, startE, grp, lkT, lkM]
    exact h)
theorem ok_Group_size (T : Txt K mg) : FnOk P w K mg base (L2N.CX P w) 41 T.a_Group_size.f T.a_Group_size.fd ["self"] (spD K 1 (f_Group_size T.x_Group)) :=
  fn_D (wb := w_Group_size T) T.a_Group_size.F sc_Group_size (d_Group_size T) (by
    rintro ds Q X hl ⟨n, S, rfl, h⟩
    simp [w_Group_size, startE, grp, lkT, lkM]
    exact h)
theorem ok__law_back (T : Txt K mg) : FnOk P w K mg base (L2N.CX P w) 41 T.a__law_back.f T.a__law_back.fd ["_law_one"] (spD K 1 f__law_back) :=
  fn_D (wb := w__law_back) T.a__law_back.F sc__law_back (d__law_back T) (by
    rintro ds Q X hl ⟨p, n, rfl, hp, h⟩
    have h5 := hp.n5
    have hlen := hp.len
    simp [w__law_back, startE, rg_nI, nI_len]
    refine ⟨by omega, lcm_by (res := nI (inv p)) (by simp) (by simp [nI, inv]) (by rw [nI_len, List.length_range, DL.sizeLine_eq]; omega) ?_ ?_⟩
    · intro i d d' hd hd'
      obtain ⟨k, hk, rfl⟩ := nI_get hd
      obtain ⟨k', hk', rfl⟩ := nI_get hd'
      have hi : i < p.length := by
        have := (List.getElem?_eq_some_iff.mp hk).1
        rwa [List.length_range] at this
      have hki : k = i := by
        rw [List.getElem?_range hi] at hk
        exact (Option.some.inj hk).symm
      subst hki
      have e : k' = p.idxOf k := by
        unfold inv at hk'
        rw [List.getElem?_map, List.getElem?_range hi] at hk'
        exact (Option.some.inj hk').symm
      subst e
      have hm : k ∈ p := by
        have e2 := sort_range p n hp
        have := (sortN_perm p).mem_iff (a := k)
        rw [e2] at this
        exact this.mp (List.mem_range.mpr (by omega))
      refine ⟨_, rfl, by simp, fun Q' X' hq' => ?_⟩
      have ei : (p.map fun i : Nat => (i : Int)).idxOf (k : Int) = p.idxOf k := by
        clear hq' hm hi hk' hd hd' hk h h5 hlen hp hl
        induction p with
        | nil => rfl
        | cons x p ih =>
          have e : ((x : Int) == (k : Int)) = (x == k) := by
            rw [Bool.eq_iff_iff, beq_iff_eq, beq_iff_eq]
            constructor <;> intro z <;> omega
          rw [List.map_cons, List.idxOf_cons, List.idxOf_cons, ih, e]
      simp [ints_nI, ei]
      exact ⟨⟨k, hm, rfl⟩, hq' _ (by simp)⟩
    · simpa [exX] using h)
theorem ok__law_turned (T : Txt K mg) : FnOk P w K mg base (L2N.CX P w) 42 T.a__law_turned.f T.a__law_turned.fd ["_law_e", "_law_member"] (spD K 2 f__law_turned) :=
  fn_D (wb := w__law_turned) T.a__law_turned.F sc__law_turned (d__law_turned T (ok__law_behind T) (ok__law_back T)) (by
    rintro ds Q X hl ⟨d, p, q, n, rfl, hd, hp, hq, h⟩
    simp [w__law_turned, startE]
    refine ⟨_, _, p, q, n, rfl, .inr rfl, hd, hp, hq, ?_⟩
    simp
    refine ⟨p, n, rfl, hp, ?_⟩
    simp
    refine ⟨_, _, comp p q, inv p, n, rfl, .inr rfl, .inr rfl, ex_comp hp hq, (ex_inv hp).1, ?_⟩
    simpa [exX, cj] using h)
end
@[simp ↓] theorem g_eqLN {a b : List Nat} {Q : Sl → Prop} : gEq (.lst (nI a)) (.lst (nI b)) Q = Q (.dat (.bl (decide (a = b)))) := by
  unfold gEq
  rw [eqb_lN, shp_lN, shp_lN]; simp
/-- a comprehension that leaves the env as it is -/
theorem lcs_by {ds : List D} {is : List Nat} {sp : D → Option (List D)} {wt : TWs} {we : EW} {vs : List Nat} {Q : Sl → En → Prop} {ρ1 : En} (no : noOwns ρ1 vs) (R : Nat → List D → Prop) (h0 : R 0 []) (hd : ∀ acc, R ds.length acc → Q (.own acc) (wipeE ρ1 vs))
    (hs : ∀ i d acc, ds[i]? = some d → R i acc → withS (sp d) fun es => notInns (wipeE (wipeE ρ1 vs) vs) is ∧ wt (setsE (wipeE (wipeE ρ1 vs) vs) is es) (fun b ρ3 => if b = true then we ρ3 (fun r ρ4 => withD [r] fun rs => acc.length < sizeLine ∧ R (i + 1) (acc ++ rs) ∧ wipeE ρ4 vs = wipeE ρ1 vs) (fun _ _ => False) else R (i + 1) acc ∧ wipeE ρ3 vs = wipeE ρ1 vs) (fun _ _ => False)) : @LcOk ds is sp wt we vs Q ρ1 :=
  lc_by no (fun i acc ρ => R i acc ∧ ρ = wipeE ρ1 vs) ⟨h0, rfl⟩ (fun acc ρ ⟨h, e⟩ => by subst e; exact hd acc h) (fun i d acc ρ hd ⟨h, e⟩ => by subst e; exact hs i d acc hd h)
def plL : List (List (List Nat)) :=
  let one := [1, 0, 2, 3, 4]
  let two := [1, 0, 3, 2, 4]
  let three := [1, 2, 0, 3, 4]
  let four := [1, 2, 3, 0, 4]
  let five := [1, 2, 3, 4, 0]
  [[one], [two], [three], [four], [five], [two, [2, 3, 0, 1, 4]], [one, [0, 1, 3, 2, 4]], [four, [2, 1, 0, 3, 4]], [three, one], [three, [1, 0, 2, 4, 3]], [[1, 2, 0, 4, 3]], [three, one, [0, 1, 2, 4, 3]], [three, two], [four, one], [five, [0, 4, 3, 2, 1]], [five, [0, 2, 4, 1, 3]], [five, three], [five, one], [three, [0, 1, 2, 4, 3]]]
theorem plL_len : ∀ l ∈ plL, l.length ≤ 3 := by decide
def plD : List D := plL.map fun l => .lst (l.map exD)
section
variable {P : Program} [PlP P] {w : World} {K : PySem.W.Frag} {mg : Str → Option Value} {base : Heap}
def Rp (n : Nat) (i : Nat) (acc : List D) : Prop := ∃ ms : List (List Nat), acc = ms.map exX ∧ (∀ m ∈ ms, Ex m n) ∧ ms.length ≤ i
theorem ok__law_planted (T : Txt K mg) : FnOk P w K mg base (L2N.CX P w) 43 T.a__law_planted.f T.a__law_planted.fd ["_law_pot_here", "_law_n"] (spI K 2 f__law_planted) :=
  fn_I (wb := w__law_planted) T.a__law_planted.F sc__law_planted (d__law_planted T (ok__law_digit T) (ok__law_exchange T) (ok__law_turned T)) (by
    rintro dl ds Q X hl ⟨a, b, n, rfl, hb, rfl, h1, h5, h⟩
    simp [w__law_planted, startE]
    refine ⟨a, b, 19, rfl, hb, rfl, by decide, by decide, fun d a1 b1 hd0 hd1 hb1 => ?_⟩
    obtain ⟨j, rfl⟩ := Int.eq_ofNat_of_zero_le hd0
    have hj : j < plL.length := by have : plL.length = 19 := rfl; omega
    have ea : atI plD (j : Int) = some (.lst ((plL[j]).map exD)) := by
      have e : ixN plD.length (j : Int) = some j := by
        have : plD.length = plL.length := by simp [plD]
        rw [this]
        simp [ixN, hj]
      unfold atI
      rw [e]
      simp [plD, hj]
    simp
    conv in (atI _ _) => change atI plD (j : Int)
    rw [ea]
    have hl3 : (plL[j]).length ≤ 3 := plL_len _ (List.getElem_mem hj)
    generalize plL[j] = ml at hl3 ⊢
    simp
    refine lcm_by (res := ml.map fun p => .tup (nI (p.take n))) (by simp) (by simp) (by rw [DL.sizeLine_eq, List.length_map]; omega) ?_ ?_
    · intro i d d' hd hd'
      rw [List.getElem?_map] at hd hd'
      obtain ⟨p, hp, rfl⟩ := Option.map_eq_some_iff.mp hd
      rw [hp] at hd'
      obtain rfl : d' = .tup (nI (p.take n)) := (Option.some.inj hd').symm
      refine ⟨_, rfl, by simp, fun Q' X' hq' => ?_⟩
      have ec : cutD (nI p) none (some (n : Int)) = nI (p.take n) := by rw [cut_take]; simp [nI]
      simp [exD, ec]
      exact hq' _ (by simp)
    simp
    refine ⟨a1, b1, n, rfl, hb1, rfl, h1, h5, fun p a2 b2 hp hb2 => ?_⟩
    simp
    refine lcs_by (by simp) (Rp n) ⟨[], rfl, by simp, by simp⟩ ?_ ?_
    · rintro acc ⟨ms, rfl, hms, hml⟩
      rw [List.length_map] at hml
      simp
      exact h ms a2 b2 hms (by omega) hb2
    · rintro i d acc hd ⟨ms, rfl, hms, hml⟩
      rw [List.getElem?_map] at hd
      obtain ⟨q, hq, rfl⟩ := Option.map_eq_some_iff.mp hd
      have hi : i < ml.length := (List.getElem?_eq_some_iff.mp hq).1
      simp
      refine srtW_nI ?_
      simp [rg_nI, nI_len]
      refine ⟨by omega, by omega, ?_⟩
      by_cases c : sortN (q.take n) = List.range n
      · have hx : Ex (q.take n) n := perm_ex h1 h5 (by rw [← c]; exact (sortN_perm _).symm)
        simp [c]
        refine ⟨_, p, q.take n, n, rfl, .inl rfl, hp, hx, ?_⟩
        simp
        exact ⟨by omega, ms ++ [cj p (q.take n)], by simp, fun m hm => by
          rcases List.mem_append.mp hm with hm | hm
          · exact hms m hm
          · rw [List.mem_singleton.mp hm]; exact ex_cj hp hx, by simp; omega⟩
      · simp [c]
        exact ⟨ms, rfl, hms, by omega⟩)
def Rm (n : Nat) (i : Nat) (acc : List D) (ρ : En) : Prop := ∃ (ps : List (List Nat)) (a b : Int), acc = ps.map exX ∧ (∀ p ∈ ps, Ex p n) ∧ acc.length = i ∧ Pt b ∧ ρ = [some (.inn [.int a, .int b]), some (.dat (.int (n : Nat))), none]
theorem ok__law_makers (T : Txt K mg) : FnOk P w K mg base (L2N.CX P w) 44 T.a__law_makers.f T.a__law_makers.fd ["_law_pot_here", "_law_n"] (spI K 2 f__law_makers) :=
  fn_I (wb := w__law_makers) T.a__law_makers.F sc__law_makers (d__law_makers T (ok__law_digit T) (ok__law_planted T) (ok__law_exchange T)) (by
    rintro dl ds Q X hl ⟨a, b, n, rfl, hb, rfl, h1, h5, h⟩
    simp [w__law_makers, startE]
    refine ⟨a, b, 2, rfl, hb, rfl, by decide, by decide, fun d a1 b1 hd0 hd1 hb1 => ?_⟩
    simp
    by_cases c : d = 1
    · rw [if_pos c]
      refine ⟨a1, b1, n, rfl, hb1, rfl, h1, h5, fun ps a2 b2 hps hl3 hb2 => ?_⟩
      simp
      exact h ps a2 b2 hps hl3 hb2
    · rw [if_neg c]
      refine ⟨a1, b1, 4, rfl, hb1, rfl, by decide, by decide, fun d a2 b2 hd0 hd4 hb2 => ?_⟩
      obtain ⟨k, rfl⟩ := Int.eq_ofNat_of_zero_le hd0
      simp [rg_nI]
      refine ⟨by omega, lc_by (by simp) (Rm n) ⟨[], a2, b2, rfl, by simp, rfl, hb2, by simp⟩ ?_ ?_⟩
      · rintro acc ρ ⟨ps, a3, b3, rfl, hps, hlen, hb3, rfl⟩
        rw [nI_len, List.length_range, List.length_map] at hlen
        simp
        exact h ps a3 b3 hps (by omega) hb3
      · rintro i d acc ρ hd ⟨ps, a3, b3, rfl, hps, hlen, hb3, rfl⟩
        have hi : i < k := by
          have := (List.getElem?_eq_some_iff.mp hd).1
          rwa [nI_len, List.length_range] at this
        simp
        refine ⟨a3, b3, n, rfl, hb3, rfl, h1, h5, fun p a4 b4 hp hb4 => ?_⟩
        simp
        rw [List.length_map] at hlen
        refine ⟨by omega, ps ++ [p], a4, b4, by simp [exX], fun q hq => ?_, by simp [hlen], hb4, by simp⟩
        rcases List.mem_append.mp hq with hq | hq
        · exact hps q hq
        · rw [List.mem_singleton.mp hq]; exact hp)
theorem ok__law_whole (T : Txt K mg) : FnOk P w K mg base (L2N.CX P w) 41 T.a__law_whole.f T.a__law_whole.fd ["_law_found"] (spD K 1 f__law_whole) :=
  fn_D (wb := w__law_whole) T.a__law_whole.F sc__law_whole (d__law_whole T) (by
    rintro ds Q X hl ⟨k, rfl, h⟩
    simp [w__law_whole, startE, tyS, isi_ii, isi_ib]
    exact h)
theorem ok__law_is_exchange (T : Txt K mg) : FnOk P w K mg base (L2N.CX P w) 42 T.a__law_is_exchange.f T.a__law_is_exchange.fd ["_law_found", "_law_n"] (spD K 2 f__law_is_exchange) :=
  fn_D (wb := w__law_is_exchange) T.a__law_is_exchange.F sc__law_is_exchange (d__law_is_exchange T (ok__law_whole T)) (by
    rintro ds Q X hl ⟨p, n, rfl, hp, h⟩
    have h5 := hp.n5
    simp [w__law_is_exchange, startE, exX, tyS, isi_tt]
    refine lcm_by (res := List.replicate p.length (.bl true)) (by simp) (by simp [nI_len]) (by rw [nI_len, hp.len, DL.sizeLine_eq]; omega) ?_ ?_
    · intro i d d' hd hd'
      obtain ⟨k, hk, rfl⟩ := nI_get hd
      obtain rfl : d' = .bl true := by
        have := List.mem_of_getElem? hd'
        exact List.eq_of_mem_replicate this
      refine ⟨_, rfl, by simp, fun Q' X' hq' => ?_⟩
      simp
      refine ⟨_, rfl, ?_⟩
      simp
      exact hq' _ (by simp)
    · simp [bls_true]
      refine srtW_nI ?_
      simp [rg_nI, nI_len, sort_range p n hp]
      refine ⟨by omega, by omega, ?_⟩
      simpa using h)
end
/-! ### what commutators are met -/
def Met (S : List (List Nat)) (i : Nat) (found : List (List Nat)) : Prop := found.Nodup ∧ ∀ p, p ∈ found ↔ ∃ a ∈ S.take i, ∃ b ∈ S, p = cmt a b
def Met2 (S : List (List Nat)) (i j : Nat) (a0 : List Nat) (found : List (List Nat)) : Prop := found.Nodup ∧ ∀ p, p ∈ found ↔ (∃ a ∈ S.take i, ∃ b ∈ S, p = cmt a b) ∨ ∃ b ∈ S.take j, p = cmt a0 b
theorem mem_take1 {S : List (List Nat)} {i : Nat} {a b : List Nat} (h : S[i]? = some a) : b ∈ S.take (i + 1) ↔ b ∈ S.take i ∨ b = a := by
  rw [List.take_add_one, h]; simp
def Wc (C : Addr) (n : Nat) (S : List (List Nat)) (i : Nat) (ρ : En) : Prop := ∃ (found : List (List Nat)) (a b : Option Sl), Met S i found ∧ ρ = [some (.dat (grp C n S)), some (.dic ⟨2, kX found⟩), a, b] ∧ free a ∧ free b
def Wc2 (C : Addr) (n : Nat) (S : List (List Nat)) (i : Nat) (a0 : List Nat) (j : Nat) (ρ : En) : Prop := ∃ (found : List (List Nat)) (b : Option Sl), Met2 S i j a0 found ∧ ρ = [some (.dat (grp C n S)), some (.dic ⟨2, kX found⟩), some (.dat (exX a0)), b] ∧ free b
section
variable {P : Program} [PlP P] {w : World} {K : PySem.W.Frag} {mg : Str → Option Value} {base : Heap}
end
end K34


set_option Elab.async false
set_option linter.all false
set_option maxRecDepth 100000
set_option maxHeartbeats 4000000
namespace K34
open PySem L2 DL RX
@[simp] theorem no_size (a b : D) : NoLk ["things", "all_members"] [a, b] "size" = True := eq_true rfl
@[simp] theorem no_members (a b : D) : NoLk ["things", "all_members"] [a, b] "members" = True := eq_true rfl
@[simp] theorem no_many (a b : D) : NoLk ["things", "all_members"] [a, b] "many" = True := eq_true rfl
@[simp] theorem no_orbits (a b : D) : NoLk ["things", "all_members"] [a, b] "orbits" = True := eq_true rfl
def flD (o : List Nat) : D := .fl (nI o)
theorem shp_fN (l : List Nat) : (D.fl (nI l)).shp = true := by simp [D.shp, D.plain, pl_nI, D.deep, dp_nI]
theorem shp_int (i : Int) : (D.int i).shp = true := by simp [D.shp, D.plain, D.deep]
@[simp ↓] theorem g_inF {t : Nat} {l : List Nat} {Q : Sl → Prop} : gInL (.int (t : Nat)) (.fl (nI l)) Q = Q (.dat (.bl (decide (t ∈ l)))) := by
  show (((D.int (t : Nat)).shp = true ∧ (D.fl (nI l)).shp = true) ∧ Q (.dat (.bl ((nI l).any fun z => z.eqb (.int (t : Nat)))))) = _
  rw [any_nI, shp_fN, shp_int]; simp
theorem bls_map (f : α → Bool) (l : List α) : blsOf (l.map fun o => D.bl (f o)) = some (l.map f) := by
  induction l with
  | nil => rfl
  | cons x l ih => rw [List.map_cons, blsOf, ih]; rfl
@[simp ↓] theorem g_anyL {ds : List D} {Q : Sl → Prop} : gAny [.lst ds] Q = @WOp _ (blsOf ds) fun bs => Q (.dat (.bl (bs.any id))) := id rfl
/-- what sorted(set(..)) answers: the orbit -/
theorem orb_sort {n : Nat} {S : List (List Nat)} {t : Nat} (g : IsG n S) (ht : t < n) {ns : List Int} (hs : ns.Pairwise (· < ·)) (hm : ∀ k, k ∈ ns ↔ k ∈ S.map fun m => ((at_ m t : Nat) : Int)) : ns.map D.int = nI (orb n S t) := by
  have e : ns = (orb n S t).map fun i : Nat => (i : Int) := by
    have nd1 : ns.Nodup := List.nodup_iff_pairwise_ne.mpr (hs.imp fun h z => by omega)
    have pw2 : ((orb n S t).map fun i : Nat => (i : Int)).Pairwise (· < ·) := by
      rw [List.pairwise_map]
      refine List.Pairwise.filter _ (List.pairwise_lt_range.imp fun h => by omega)
    have nd2 : ((orb n S t).map fun i : Nat => (i : Int)).Nodup := List.nodup_iff_pairwise_ne.mpr (pw2.imp fun h z => by omega)
    refine ((List.perm_ext_iff_of_nodup nd1 nd2).mpr fun k => ?_).eq_of_pairwise (le := (· < ·)) (fun a b _ _ h1 h2 => by omega) hs pw2
    rw [hm k, List.mem_map, List.mem_map]
    constructor
    · rintro ⟨m, hm, rfl⟩
      exact ⟨at_ m t, mem_orb.mpr ⟨at_lt (g.ex hm) ht, m, hm, rfl⟩, rfl⟩
    · rintro ⟨u, hu, rfl⟩
      obtain ⟨_, m, hm, rfl⟩ := mem_orb.mp hu
      exact ⟨m, hm, rfl⟩
  rw [e, nI_ints]
@[simp] theorem no_commutator (a b : D) : NoLk ["things", "all_members"] [a, b] "commutator" = True := eq_true rfl
@[simp] theorem no_row (a b : D) : NoLk ["things", "all_members"] [a, b] "row" = True := eq_true rfl
@[simp] theorem no_ends (a b : D) : NoLk ["things", "all_members"] [a, b] "ends" = True := eq_true rfl
@[simp] theorem no_turned (a b : D) : NoLk ["things", "all_members"] [a, b] "turned" = True := eq_true rfl
@[simp] theorem no_keeps (a b : D) : NoLk ["things", "all_members"] [a, b] "keeps" = True := eq_true rfl
@[simp] theorem no_subgroups (a b : D) : NoLk ["things", "all_members"] [a, b] "subgroups" = True := eq_true rfl
theorem isi_ll : isiB "list" "list" = true := by decide
theorem eqv_exs : ∀ a b : List (List Nat), PyData.eqvAll (D.pys (a.map exX)) (D.pys (b.map exX)) = decide (a = b)
  | [], [] => by simp [D.pys, PyData.eqvAll]
  | [], y :: b => by simp [D.pys, PyData.eqvAll]
  | x :: a, [] => by simp [D.pys, PyData.eqvAll]
  | x :: a, y :: b => by
    show PyData.eqvAll (D.py (exX x) :: D.pys (a.map exX)) (D.py (exX y) :: D.pys (b.map exX)) = _
    rw [PyData.eqvAll, eqv_exs a b]
    have : PyData.eqv (D.py (exX x)) (D.py (exX y)) = decide (x = y) := by
      unfold exX
      rw [D.py, D.py, PyData.eqv]
      exact eqv_nI x y
    rw [this, Bool.eq_iff_iff]
    simp
theorem eqv_fls : ∀ a b : List (List Nat), PyData.eqvAll (D.pys (a.map flD)) (D.pys (b.map flD)) = decide (a = b)
  | [], [] => by simp [D.pys, PyData.eqvAll]
  | [], y :: b => by simp [D.pys, PyData.eqvAll]
  | x :: a, [] => by simp [D.pys, PyData.eqvAll]
  | x :: a, y :: b => by
    show PyData.eqvAll (D.py (flD x) :: D.pys (a.map flD)) (D.py (flD y) :: D.pys (b.map flD)) = _
    rw [PyData.eqvAll, eqv_fls a b]
    have : PyData.eqv (D.py (flD x)) (D.py (flD y)) = decide (x = y) := by
      unfold flD
      rw [D.py, D.py, PyData.eqv]
      exact eqv_nI x y
    rw [this, Bool.eq_iff_iff]
    simp
theorem pl_fls : ∀ l : List (List Nat), D.plains (l.map flD) = true
  | [] => by simp [D.plains]
  | p :: l => by simp [D.plains, pl_fls l, flD, D.plain, pl_nI]
theorem dp_fls : ∀ l : List (List Nat), D.deeps (l.map flD) ≤ 1
  | [] => by simp [D.deeps]
  | p :: l => by
    show max (D.deep (flD p)) (D.deeps (l.map flD)) ≤ 1
    have : D.deep (flD p) = 1 := by simp [flD, D.deep, dp_nI]
    have := dp_fls l
    omega
theorem shp_due (l : List (List Nat)) : (due l).shp = true := by
  have := dp_exx l
  simp [due, D.shp, D.plain, pl_exx, D.deep]
  omega
theorem shp_fls (l : List (List Nat)) : (D.lst (l.map flD)).shp = true := by
  have := dp_fls l
  simp [D.shp, D.plain, pl_fls, D.deep]
  omega
theorem shp_flD (l : List Nat) : (flD l).shp = true := by simp [flD, D.shp, D.plain, pl_nI, D.deep, dp_nI]
theorem g_neFound {a b : List (List Nat)} {Q : Sl → Prop} : gNe (.lst (a.map exX)) (due b) Q = Q (.dat (.bl (!decide (a = b)))) := by
  unfold gNe
  rw [shp_due, shp_exs]
  have : (D.lst (a.map exX)).eqb (due b) = decide (a = b) := by
    unfold due D.eqb
    rw [D.py, D.py, PyData.eqv]
    exact eqv_exs a b
  rw [this]; simp
theorem g_eqOrbs {a b : List (List Nat)} {Q : Sl → Prop} : gEq (.lst (a.map flD)) (.lst (b.map flD)) Q = Q (.dat (.bl (decide (a = b)))) := by
  unfold gEq
  rw [shp_fls, shp_fls]
  have : (D.lst (a.map flD)).eqb (.lst (b.map flD)) = decide (a = b) := by
    unfold D.eqb
    rw [D.py, D.py, PyData.eqv]
    exact eqv_fls a b
  rw [this]; simp
theorem g_notinF {o : List Nat} {l : List (List Nat)} {Q : Sl → Prop} : gNotInL (flD o) (.lst (l.map flD)) Q = Q (.dat (.bl (!decide (o ∈ l)))) := by
  show (((flD o).shp = true ∧ (D.lst (l.map flD)).shp = true) ∧ Q (.dat (.bl (!(l.map flD).any fun z => z.eqb (flD o))))) = _
  have : ((l.map flD).any fun z => z.eqb (flD o)) = decide (o ∈ l) := by
    rw [List.any_map, Bool.eq_iff_iff, List.any_eq_true, decide_eq_true_eq]
    have e : ∀ x : List Nat, ((fun z => D.eqb z (flD o)) ∘ flD) x = decide (x = o) := fun x => by
      show D.eqb (flD x) (flD o) = _
      unfold flD D.eqb
      rw [D.py, D.py, PyData.eqv]
      exact eqv_nI x o
    constructor
    · rintro ⟨x, hx, h⟩
      rw [e x, decide_eq_true_eq] at h
      exact h ▸ hx
    · intro h
      exact ⟨o, h, by rw [e o]; simp⟩
  rw [this, shp_flD, shp_fls]; simp
/-- the orbit is there just where one that has the thing is -/
theorem go_step {n t : Nat} {S : List (List Nat)} (g : IsG n S) (ht : t < n) : orbsGo n S (t + 1) = if orb n S t ∈ orbsGo n S t then orbsGo n S t else orbsGo n S t ++ [orb n S t] := by
  show (if (orbsGo n S t).any (fun o => o.contains t) then _ else _) = _
  have : (orbsGo n S t).any (fun o => o.contains t) = true ↔ orb n S t ∈ orbsGo n S t := by
    rw [List.any_eq_true]
    constructor
    · rintro ⟨o, ho, hc⟩
      obtain ⟨u, hu, rfl⟩ := (g.go (Nat.le_of_lt ht)).2.1 o ho
      have hc : t ∈ orb n S u := by simpa using hc
      rw [g.orb_eq (by omega) hc]
      exact ho
    · intro h
      exact ⟨_, h, by simpa using g.orb_self ht⟩
  by_cases c : orb n S t ∈ orbsGo n S t
  · rw [if_pos c, if_pos (this.mpr c)]
  · rw [if_neg c, if_neg (fun z => c (this.mp z))]
section
variable {P : Program} [PlP P] {w : World} {K : PySem.W.Frag} {mg : Str → Option Value} {base : Heap}
def Wb2 (C : Addr) (n : Nat) (S : List (List Nat)) (k : Nat) (ρ : En) : Prop := ∃ a, ρ = [some (.dat (grp C n S)), some (.own ((orbsGo n S k).map flD)), a, none, none] ∧ free a ∧ (∀ ds, a ≠ some (.own ds)) ∧ (∀ ds, a ≠ some (.dic ds)) ∧ (∀ i, a ≠ some (.bor i))
theorem go_len (n : Nat) (S : List (List Nat)) : ∀ k, (orbsGo n S k).length ≤ k
  | 0 => by simp [orbsGo]
  | k + 1 => by
    have := go_len n S k
    unfold orbsGo
    split <;> simp <;> omega
theorem nl_fls : ∀ l : List (List Nat), D.nolists (l.map flD) = true
  | [] => by simp
  | p :: l => by
    show (D.nolist (flD p) && D.nolists (l.map flD)) = true
    rw [nl_fls l]; simp [flD]
theorem ok_Group_orbits (T : Txt K mg) : FnOk P w K mg base (L2N.CX P w) 41 T.a_Group_orbits.f T.a_Group_orbits.fd ["self"] (spD K 1 (f_Group_orbits T.x_Group)) :=
  fn_D (wb := w_Group_orbits T) T.a_Group_orbits.F sc_Group_orbits (d_Group_orbits T) (by
    rintro ds Q X hl ⟨n, S, rfl, g, h⟩
    have h5 := g.n5
    have hsz := g.size_le.2
    simp [w_Group_orbits, startE, grp, lkT, lkM]
    refine ⟨by omega, loop_by (Wb2 T.x_Group n S) ⟨none, by simp [orbsGo, grp], trivial, by simp, by simp, by simp⟩ ?_ ?_⟩
    · rintro ρ ⟨a, rfl, _⟩
      rw [rgD_len]
      simp
      exact h
    · rintro t d ρ hd ⟨a, rfl, fa, na1, na2, na3⟩
      obtain ⟨rfl, ht⟩ := rg_get hd
      have e0 : ((0 : Int) + (t : Int)) = (t : Int) := by omega
      rw [e0]
      simp [fa]
      refine ⟨⟨_, rfl⟩, ?_, ?_⟩
      · intro j sl hj hne
        match j, hj with
        | 0, hj => simp at hj; subst hj; trivial
        | 1, hj => exact absurd rfl hne
        | 2, hj => simp at hj; subst hj; trivial
        | 3, hj => simp at hj
        | 4, hj => simp at hj
        | j + 5, hj => simp at hj
      · simp [frz]
        refine lcm_by (res := (orbsGo n S t).map fun o => .bl (decide (t ∈ o))) (by simp) (by simp) ?_ ?_ ?_
        · rw [List.length_map, DL.sizeLine_eq]
          have := go_len n S t
          omega
        · intro i d d' hd hd'
          rw [List.getElem?_map] at hd hd'
          obtain ⟨o, ho, rfl⟩ := Option.map_eq_some_iff.mp hd
          rw [ho] at hd'
          obtain rfl : d' = .bl (decide (t ∈ o)) := (Option.some.inj hd').symm
          refine ⟨_, rfl, by simp, fun Q' X' hq' => ?_⟩
          simp [flD]
          exact hq' _ (by simp)
        · simp [bls_map]
          by_cases c : ∃ o, o ∈ orbsGo n S t ∧ t ∈ o
          · rw [if_pos c]
            have e : orbsGo n S (t + 1) = orbsGo n S t := by
              show (if (orbsGo n S t).any (fun o => o.contains t) then _ else _) = _
              rw [if_pos]
              obtain ⟨o, ho, hc⟩ := c
              exact List.any_eq_true.mpr ⟨o, ho, by simpa using hc⟩
            exact ⟨some (.dat (.int (t : Nat))), by rw [e], trivial, by simp, by simp, by simp⟩
          · rw [if_neg c]
            have e : orbsGo n S (t + 1) = orbsGo n S t ++ [orb n S t] := by
              show (if (orbsGo n S t).any (fun o => o.contains t) then _ else _) = _
              rw [if_neg]
              intro z
              obtain ⟨o, ho, hc⟩ := List.any_eq_true.mp z
              exact c ⟨o, ho, by simpa using hc⟩
            simp [grp, lkM]
            refine lcm_by (res := S.map fun m => .int ((at_ m t : Nat) : Int)) (by simp) (by simp) (by rw [List.length_map, DL.sizeLine_eq]; omega) ?_ ?_
            · intro i d d' hd hd'
              obtain ⟨m, hm, rfl⟩ := exx_get hd
              rw [List.getElem?_map, hm] at hd'
              obtain rfl : d' = .int ((at_ m t : Nat) : Int) := (Option.some.inj hd').symm
              have hmS := List.mem_of_getElem? hm
              refine ⟨_, rfl, by simp, fun Q' X' hq' => ?_⟩
              simp [exX, at_nI (l := m) (i := t) (by rw [(g.ex hmS).len]; exact ht)]
              exact hq' _ (by simp)
            · have ei : intsOf (S.map fun m => D.int ((at_ m t : Nat) : Int)) = some (S.map fun m => ((at_ m t : Nat) : Int)) := by
                rw [show (S.map fun m => D.int ((at_ m t : Nat) : Int)) = (S.map fun m => ((at_ m t : Nat) : Int)).map D.int from by rw [List.map_map]; rfl]
                exact intsOf_map _
              simp [ei]
              refine ⟨⟨by rw [List.length_map]; omega, fun k hk => ?_⟩, fun ns hs hm => ?_⟩
              · obtain ⟨m, hm, rfl⟩ := List.mem_map.mp hk
                have := at_lt (g.ex hm) ht
                constructor <;> omega
              · show (orbsGo n S t).length < 16777216 ∧ Wb2 T.x_Group n S (t + 1) _
                rw [orb_sort g ht hs hm]
                have := go_len n S t
                refine ⟨by omega, some (.dat (.int (t : Nat))), ?_, trivial, by simp, by simp, by simp⟩
                rw [e]
                simp [grp, flD])
end
def Wob (n : Nat) (S : List (List Nat)) (k : Nat) (ρ : En) : Prop := ∃ a b, ρ = [some (.dat (.int (n : Nat))), some (.dat (due S)), some (.own ((orbsGo n S k).map flD)), a, b, none] ∧ free a ∧ free b
section
variable {P : Program} [PlP P] {w : World} {K : PySem.W.Frag} {mg : Str → Option Value} {base : Heap}
theorem ok__law_orbits (T : Txt K mg) : FnOk P w K mg base (L2N.CX P w) 41 T.a__law_orbits.f T.a__law_orbits.fd ["_law_n", "_law_members"] (spD K 2 f__law_orbits) :=
  fn_D (wb := w__law_orbits) T.a__law_orbits.F sc__law_orbits (d__law_orbits T) (by
    rintro ds Q X hl ⟨n, S, rfl, g, h⟩
    have h5 := g.n5
    have hsz := g.size_le.2
    simp [w__law_orbits, startE]
    refine ⟨by omega, loop_by (Wob n S) ⟨none, none, by simp [orbsGo], trivial, trivial⟩ ?_ ?_⟩
    · rintro ρ ⟨a, b, rfl, _⟩
      rw [rgD_len]
      simp [nl_fls]
      exact h
    · rintro t d ρ hd ⟨a, b, rfl, fa, fb⟩
      obtain ⟨rfl, ht⟩ := rg_get hd
      have e0 : ((0 : Int) + (t : Int)) = (t : Int) := by omega
      rw [e0]
      simp [fa, fb, due]
      refine lcm_by (res := S.map fun m => .int ((at_ m t : Nat) : Int)) (by simp) (by simp) (by rw [List.length_map, DL.sizeLine_eq]; omega) ?_ ?_
      · intro i d d' hd hd'
        obtain ⟨m, hm, rfl⟩ := exx_get hd
        rw [List.getElem?_map, hm] at hd'
        obtain rfl : d' = .int ((at_ m t : Nat) : Int) := (Option.some.inj hd').symm
        have hmS := List.mem_of_getElem? hm
        refine ⟨_, rfl, by simp, fun Q' X' hq' => ?_⟩
        simp [exX, at_nI (l := m) (i := t) (by rw [(g.ex hmS).len]; exact ht)]
        exact hq' _ (by simp)
      · have ei : intsOf (S.map fun m => D.int ((at_ m t : Nat) : Int)) = some (S.map fun m => ((at_ m t : Nat) : Int)) := by
          rw [show (S.map fun m => D.int ((at_ m t : Nat) : Int)) = (S.map fun m => ((at_ m t : Nat) : Int)).map D.int from by rw [List.map_map]; rfl]
          exact intsOf_map _
        simp [ei]
        refine ⟨⟨by rw [List.length_map]; omega, fun k hk => ?_⟩, fun ns hs hm => ?_⟩
        · obtain ⟨m, hm, rfl⟩ := List.mem_map.mp hk
          have := at_lt (g.ex hm) ht
          constructor <;> omega
        · simp [fb]
          rw [orb_sort g ht hs hm]
          rw [show D.fl (nI (orb n S t)) = flD (orb n S t) from rfl, g_notinF]
          simp
          have e := go_step g ht
          by_cases c : orb n S t ∈ orbsGo n S t
          · rw [if_pos c] at e ⊢
            exact ⟨some (.dat (.int (t : Nat))), some (.dat (flD (orb n S t))), by rw [e]; rfl, trivial, trivial⟩
          · rw [if_neg c] at e ⊢
            have := go_len n S t
            refine ⟨by omega, some (.dat (.int (t : Nat))), some (.dat (flD (orb n S t))), by rw [e]; simp [due], trivial, trivial⟩)
def Wr (C : Addr) (n : Nat) (S : List (List Nat)) (m : Nat) (ρ : En) : Prop := ∃ (pre : List (List (List Nat))) (cur : List (List Nat)), IsG n cur ∧ pre ++ row n cur = row n S ∧ cur.length ≤ m ∧ ρ = [some (.dat (grp C n S)), some (.own ((pre ++ [cur]).map (grp C n))), some (.dat (grp C n (der n cur)))]
theorem ok__law_is_group (T : Txt K mg) : FnOk P w K mg base (L2N.CX P w) 43 T.a__law_is_group.f T.a__law_is_group.fd ["_law_group", "_law_n", "_law_due"] (spD K 3 (f__law_is_group T.x_Group)) :=
  fn_D (wb := w__law_is_group T) T.a__law_is_group.F sc__law_is_group (d__law_is_group T (ok_Group_members T) (ok__law_is_exchange T) (ok__law_whole T) (ok_Group_size T) (ok_Group_many T) (ok_Group_orbits T) (ok__law_orbits T)) (by
    rintro ds Q X hl ⟨n, S, rfl, g, h⟩
    have hsz := g.size_le.2
    simp [w__law_is_group, startE, grp]
    refine ⟨n, S, rfl, ?_⟩
    simp [frz, tyS, isi_ll, g_neFound]
    refine lcm_by (res := List.replicate S.length (.bl true)) (by simp) (by simp) (by rw [List.length_map, DL.sizeLine_eq]; omega) ?_ ?_
    · intro i d d' hd hd'
      obtain ⟨m, hm, rfl⟩ := exx_get hd
      obtain rfl : d' = .bl true := List.eq_of_mem_replicate (List.mem_of_getElem? hd')
      refine ⟨_, rfl, by simp, fun Q' X' hq' => ?_⟩
      simp
      refine ⟨m, n, rfl, g.ex (List.mem_of_getElem? hm), ?_⟩
      simp
      exact hq' _ (by simp)
    · simp [bls_true]
      refine ⟨n, S, rfl, ?_⟩
      simp
      refine ⟨_, rfl, ?_⟩
      simp
      refine ⟨n, S, rfl, ?_⟩
      simp [due]
      refine ⟨n, S, rfl, ?_⟩
      simp
      refine ⟨_, rfl, ?_⟩
      simp
      refine ⟨n, S, rfl, ?_⟩
      simp
      refine ⟨n, S, rfl, g, ?_⟩
      simp
      refine ⟨n, S, rfl, g, ?_⟩
      have := g_eqOrbs (a := orbs n S) (b := orbs n S) (Q := fun r => Q r)
      simp
      rw [show (fun o : List Nat => D.fl (nI o)) = flD from rfl, g_eqOrbs]
      simpa using h)
end
end K34


set_option Elab.async false
set_option linter.all false
set_option maxRecDepth 100000
set_option maxHeartbeats 4000000
namespace K34
open PySem L2 DL RX
theorem pairs_iZ (R : List (List Nat)) : (R.map fun r => D.tup [exX r, .bl true]) = (R.map iZ).map pairX := by
  rw [List.map_map]
  exact List.map_congr_left fun r _ => by
    show D.tup [exX r, .bl true] = D.tup [tpxI (iZ r), .bl true]
    rw [tpx_iZ]
theorem iZ_nd {R : List (List Nat)} (h : R.Nodup) : (R.map iZ).Nodup := by
  rw [List.nodup_iff_pairwise_ne, List.pairwise_map]
  exact (List.nodup_iff_pairwise_ne.mp h).imp fun n z => n (iZ_inj z)
theorem non_keys (R : List (List Nat)) : ((R.map iZ).map fun k => (k, D.non)).map (·.1) = R.map iZ := by
  rw [List.map_map]
  conv => rhs; rw [← List.map_id (R.map iZ)]
  exact List.map_congr_left fun k _ => rfl
theorem dec_ex (R : List (List Nat)) (p : List Nat) [Decidable (∃ a, a ∈ R ∧ iZ a = iZ p)] : decide (∃ a, a ∈ R ∧ iZ a = iZ p) = decide (p ∈ R) := by
  rw [decide_eq_decide]
  exact ⟨fun ⟨a, h, e⟩ => iZ_inj e ▸ h, fun h => ⟨p, h, rfl⟩⟩
def Wk (C : Addr) (n : Nat) (S R : List (List Nat)) (k : Nat) (ρ : En) : Prop := ∃ a, ρ = [some (.dat (grp C n S)), some (.dat (grp C n R)), some (.dat (.dct (R.map iZ))), a, none] ∧ free a ∧ ∀ m ∈ S.take k, ∀ r ∈ R, cj m r ∈ R
def Wk2 (S R : List (List Nat)) (k : Nat) (ρ : En) : Prop := ∃ a, ρ = [some (.dat (due S)), some (.dat (due R)), some (.dat (.dct (R.map iZ))), a, none] ∧ free a ∧ ∀ m ∈ S.take k, ∀ r ∈ R, cj m r ∈ R
section
variable {P : Program} [PlP P] {w : World} {K : PySem.W.Frag} {mg : Str → Option Value} {base : Heap}
end
end K34


set_option Elab.async false
set_option linter.all false
set_option maxRecDepth 100000
set_option maxHeartbeats 4000000
namespace K34
open PySem L2 DL RX
/-! ### parts as keys -/
def kP (R : List (List Nat)) : K2 := R.map iZ
theorem ptD_tt (R : List (List Nat)) : ptD R = ttD (kP R) := by
  show D.tup (R.map exX) = D.tup ((R.map iZ).map tpxI)
  rw [List.map_map]
  congr 1
  exact List.map_congr_left fun p _ => (tpx_iZ p).symm
theorem keyU_pt (R : List (List Nat)) : keyU (ptD R) = some (kP R) := by rw [ptD_tt, keyU_ttD]
theorem keyU_tupx (R : List (List Nat)) : keyU (.tup (R.map exX)) = some (kP R) := keyU_pt R
theorem kP_inj {a b : List (List Nat)} (h : kP a = kP b) : a = b := by
  unfold kP at h
  induction a generalizing b with
  | nil => cases b with
    | nil => rfl
    | cons => simp at h
  | cons x a ih => cases b with
    | nil => simp at h
    | cons y b =>
      rw [List.map_cons, List.map_cons, List.cons.injEq] at h
      rw [iZ_inj h.1, ih h.2]
def fnd (found : List (List (List Nat) × List (List Nat))) : List (K2 × D) := found.map fun e => (kP e.1, .fl (e.2.map exX))
theorem fnd_keys (found : List (List (List Nat) × List (List Nat))) : (fnd found).map (·.1) = (found.map (·.1)).map kP := by simp [fnd]
theorem mem_kP {R : List (List Nat)} {l : List (List (List Nat))} : kP R ∈ l.map kP ↔ R ∈ l := by
  rw [List.mem_map]
  exact ⟨fun ⟨a, h, e⟩ => kP_inj e ▸ h, fun h => ⟨R, h, rfl⟩⟩
theorem fnd_put {found : List (List (List Nat) × List (List Nat))} {R ms : List (List Nat)} (h : R ∉ found.map (·.1)) : putU (fnd found) (kP R) (.fl (ms.map exX)) = fnd (found ++ [(R, ms)]) := by
  unfold putU
  rw [fnd_keys, if_neg (fun z => h (mem_kP.mp z))]
  simp [fnd]
theorem any_exx (p : List Nat) (l : List (List Nat)) : ((l.map exX).any fun z => z.eqb (exX p)) = decide (p ∈ l) := by
  induction l with
  | nil => simp
  | cons q l ih =>
    rw [List.map_cons, List.any_cons, ih, Bool.eq_iff_iff]
    have e : (exX q).eqb (exX p) = decide (q = p) := by
      unfold exX D.eqb
      rw [D.py, D.py, PyData.eqv]
      exact eqv_nI q p
    rw [e]
    simp
    constructor
    · rintro (h | h)
      · exact .inl h.symm
      · exact .inr h
    · rintro (h | h)
      · exact .inl h.symm
      · exact .inr h
theorem shp_exX (p : List Nat) : (exX p).shp = true := by simp [exX, D.shp, D.plain, pl_nI, D.deep, dp_nI]
theorem shp_pt (l : List (List Nat)) : (ptD l).shp = true := by
  have := dp_exx l
  simp [ptD, D.shp, D.plain, pl_exx, D.deep]
  omega
@[simp ↓] theorem g_inTp {neg : Bool} {p : List Nat} {l : List (List Nat)} {Q : Sl → Prop} : gInT neg (exX p) (ptD l) Q = Q (.dat (.bl (neg != decide (p ∈ l)))) := by
  show (((exX p).shp = true ∧ (ptD l).shp = true) ∧ Q (.dat (.bl (neg != (l.map exX).any fun z => z.eqb (exX p))))) = _
  rw [any_exx, shp_exX, shp_pt]; simp
/-! ### pairs (size, part), sorted -/
theorem pl_pr : ∀ l : List (List (List Nat)), D.plains (l.map prD) = true
  | [] => by simp [D.plains]
  | R :: l => by simp [D.plains, pl_pr l, prD, ptD, D.plain, pl_exx]
theorem dp_pr : ∀ l : List (List (List Nat)), D.deeps (l.map prD) ≤ 3
  | [] => by simp [D.deeps]
  | R :: l => by
    show max (D.deep (prD R)) (D.deeps (l.map prD)) ≤ 3
    have h1 := dp_exx R
    have h2 := dp_pr l
    have : D.deep (prD R) ≤ 3 := by simp [prD, ptD, D.deep, D.deeps]; omega
    omega
theorem al_exx : ∀ a b : List (List Nat), PySem.W.alikeAll (D.pys (a.map exX)) (D.pys (b.map exX)) = true
  | [], [] => by simp [D.pys, PySem.W.alikeAll]
  | [], y :: b => by simp [D.pys, PySem.W.alikeAll]
  | x :: a, [] => by simp [D.pys, PySem.W.alikeAll]
  | x :: a, y :: b => by
    show PySem.W.alikeAll (D.py (exX x) :: D.pys (a.map exX)) (D.py (exX y) :: D.pys (b.map exX)) = true
    rw [PySem.W.alikeAll, al_exx a b]
    have : PySem.W.alike (D.py (exX x)) (D.py (exX y)) = true := by
      unfold exX
      rw [D.py, D.py, PySem.W.alike]
      have e : ∀ o : List Nat, D.pys (nI o) = (o.map fun i : Nat => (i : Int)).map PyData.int := fun o => by
        induction o with
        | nil => simp [nI, D.pys]
        | cons x o ih =>
          show D.py (.int (x : Nat)) :: D.pys (nI o) = _
          rw [ih, D.py]; rfl
      rw [e, e]
      exact PySem.W.alike_ints _ _
    rw [this]; rfl
theorem al_pr (l : List (List (List Nat))) : alikeD (l.map prD) = true := by
  unfold alikeD
  rw [List.all_eq_true]
  intro d hd
  rw [List.all_eq_true]
  intro e he
  obtain ⟨a, _, rfl⟩ := List.mem_map.mp hd
  obtain ⟨b, _, rfl⟩ := List.mem_map.mp he
  unfold prD ptD
  simp only [D.py, D.pys, PySem.W.alike, PySem.W.alikeAll, al_exx, Bool.and_self]
theorem sk_pr (l : List (List (List Nat))) : sortKD (l.map prD) = true := by
  unfold sortKD
  rw [Bool.or_eq_true]
  refine .inl (List.all_eq_true.mpr fun d hd => ?_)
  obtain ⟨a, _, rfl⟩ := List.mem_map.mp hd
  rfl
theorem perm_pr {l : List (List (List Nat))} {ds : List D} (h : ds.Perm (l.map prD)) : ∃ l' : List (List (List Nat)), l'.Perm l ∧ ds = l'.map prD := by
  induction l generalizing ds with
  | nil => exact ⟨[], .nil, by simpa using h⟩
  | cons R l ih =>
    have hm : prD R ∈ ds := h.mem_iff.mpr (by simp)
    obtain ⟨a, b, rfl⟩ := List.append_of_mem hm
    have h2 : (a ++ b).Perm (l.map prD) := by
      have h3 : (prD R :: (a ++ b)).Perm (prD R :: l.map prD) := List.perm_middle.symm.trans h
      exact List.Perm.cons_inv h3
    obtain ⟨l', p1, e1⟩ := ih h2
    have ea : a = (l'.take a.length).map prD := by
      have := congrArg (List.take a.length) e1
      rw [List.take_left, ← List.map_take] at this
      exact this
    have eb : b = (l'.drop a.length).map prD := by
      have := congrArg (List.drop a.length) e1
      rw [List.drop_left, ← List.map_drop] at this
      exact this
    refine ⟨l'.take a.length ++ R :: l'.drop a.length, ?_, ?_⟩
    · refine List.perm_middle.trans (List.Perm.cons R ?_)
      rw [List.take_append_drop]
      exact p1
    · rw [List.map_append, List.map_cons, ← ea, ← eb]
/-! ### their order -/
open PyProof.Rows PySem.W in
theorem leP_eq (a b : List (List Nat)) : leP a b = !PySem.W.dataLt (D.py (prD b)) (D.py (prD a)) := by
  unfold leP
  rw [PySem.W.dataLe_eq]; rfl
open PyProof.Rows PySem.W in
theorem leP_trans (a b c : List (List Nat)) : leP a b = true → leP b c = true → leP a c = true := by
  rw [leP_eq, leP_eq, leP_eq]
  simp only [Bool.not_eq_true']
  intro h1 h2
  cases h3 : PySem.W.dataLt (D.py (prD c)) (D.py (prD a)) with
  | false => rfl
  | true =>
    rcases lex_negTrans _ (PySem.W.keyToks (D.py (prD b))) _ h3 with z | z
    · exact absurd (z.symm.trans h2) (by simp)
    · exact absurd (z.symm.trans h1) (by simp)
open PyProof.Rows PySem.W in
theorem leP_total (a b : List (List Nat)) : (leP a b || leP b a) = true := by
  rw [leP_eq, leP_eq]
  cases h1 : PySem.W.dataLt (D.py (prD b)) (D.py (prD a)) with
  | false => rfl
  | true =>
    cases h2 : PySem.W.dataLt (D.py (prD a)) (D.py (prD b)) with
    | false => rfl
    | true =>
      have := lex_trans _ _ _ h1 h2
      rw [lex_irrefl] at this
      cases this
theorem toks_nI : ∀ (a b : List Nat) (l m : List (Int ⊕ List Nat)), PySem.W.keyToksAll (D.pys (nI a)) ++ l = PySem.W.keyToksAll (D.pys (nI b)) ++ m → a = b ∧ l = m
  | [], [], l, m, h => by simpa [nI, D.pys, PySem.W.keyToksAll] using h
  | [], y :: b, l, m, h => by simp [nI, D.pys, PySem.W.keyToksAll] at h
  | x :: a, [], l, m, h => by simp [nI, D.pys, PySem.W.keyToksAll] at h
  | x :: a, y :: b, l, m, h => by
    have h : Sum.inl 1 :: (PySem.W.keyToks (D.py (.int (x : Nat))) ++ PySem.W.keyToksAll (D.pys (nI a))) ++ l = Sum.inl 1 :: (PySem.W.keyToks (D.py (.int (y : Nat))) ++ PySem.W.keyToksAll (D.pys (nI b))) ++ m := h
    rw [D.py, D.py, PySem.W.keyToks, PySem.W.keyToks] at h
    simp at h
    obtain ⟨h1, h2⟩ := toks_nI a b l m h.2
    exact ⟨by rw [h1, show x = y by omega], h2⟩
theorem toks_ex : ∀ (a b : List (List Nat)) (l m : List (Int ⊕ List Nat)), PySem.W.keyToksAll (D.pys (a.map exX)) ++ l = PySem.W.keyToksAll (D.pys (b.map exX)) ++ m → a = b ∧ l = m
  | [], [], l, m, h => by simpa [D.pys, PySem.W.keyToksAll] using h
  | [], y :: b, l, m, h => by simp [D.pys, PySem.W.keyToksAll] at h
  | x :: a, [], l, m, h => by simp [D.pys, PySem.W.keyToksAll] at h
  | x :: a, y :: b, l, m, h => by
    have h : Sum.inl 1 :: (PySem.W.keyToks (D.py (exX x)) ++ PySem.W.keyToksAll (D.pys (a.map exX))) ++ l = Sum.inl 1 :: (PySem.W.keyToks (D.py (exX y)) ++ PySem.W.keyToksAll (D.pys (b.map exX))) ++ m := h
    unfold exX at h
    rw [D.py, D.py, PySem.W.keyToks, PySem.W.keyToks] at h
    simp only [List.cons_append, List.cons.injEq, true_and, List.append_assoc] at h
    obtain ⟨h1, h2⟩ := toks_nI x y _ _ h
    obtain ⟨h3, h4⟩ := toks_ex a b l m h2
    exact ⟨by rw [h1, h3], h4⟩
theorem leP_anti (a b : List (List Nat)) (h1 : leP a b = true) (h2 : leP b a = true) : a = b := by
  rw [leP_eq, Bool.not_eq_true'] at h1 h2
  have e := PyProof.Rows.lex_total _ _ h2 h1
  unfold prD ptD at e
  simp only [D.py, D.pys, PySem.W.keyToks, PySem.W.keyToksAll] at e
  simp at e
  exact (toks_ex a b [] [] (by rw [e.2])).1
theorem prts_perm (n : Nat) (S : List (List Nat)) : (prts n S).Perm (subs n S) := List.mergeSort_perm _ _
theorem prts_le (n : Nat) (S : List (List Nat)) : (prts n S).Pairwise fun a b => leP a b = true := List.pairwise_mergeSort (fun a b c => leP_trans a b c) leP_total _
theorem perm_le {l m : List (List (List Nat))} (p : l.Perm m) (h1 : l.Pairwise fun a b => leP a b = true) (h2 : m.Pairwise fun a b => leP a b = true) : l = m :=
  p.eq_of_pairwise (le := fun a b => leP a b = true) (fun a b _ _ x y => leP_anti a b x y) h1 h2
theorem srt_prts {n : Nat} {S : List (List Nat)} (g : IsG n S) {F : List (List (List Nat))} (pm : F.Perm (subs n S)) : srtData (F.map prD) = (prts n S).map prD := by
  obtain ⟨l, p, e⟩ := perm_pr (srt_perm (F.map prD))
  rw [e]
  have h1 : l.Pairwise fun a b => leP a b = true := by
    have h := List.pairwise_mergeSort (le := PySem.W.dataLe false D.py) (fun a b c h1 h2 => ?_) (fun a b => ?_) (F.map prD)
    · have h : (srtData (F.map prD)).Pairwise fun a b => PySem.W.dataLe false D.py a b = true := h
      rw [e, List.pairwise_map] at h
      exact h
    · rw [PySem.W.dataLe_eq] at h1 h2 ⊢
      simp only [cond_false, Bool.not_eq_true'] at h1 h2 ⊢
      cases h3 : PySem.W.dataLt (D.py c) (D.py a) with
      | false => rfl
      | true =>
        rcases PyProof.Rows.lex_negTrans _ (PySem.W.keyToks (D.py b)) _ h3 with z | z
        · exact absurd (z.symm.trans h2) (by simp)
        · exact absurd (z.symm.trans h1) (by simp)
    · rw [PySem.W.dataLe_eq]
      simp only [cond_false]
      cases h1 : PySem.W.dataLt (D.py b) (D.py a) with
      | false => rfl
      | true =>
        cases h2 : PySem.W.dataLt (D.py a) (D.py b) with
        | false => rfl
        | true =>
          have := PyProof.Rows.lex_trans _ _ _ h1 h2
          rw [PyProof.Rows.lex_irrefl] at this
          cases this
  rw [perm_le (p.trans (pm.trans (prts_perm n S).symm)) h1 (prts_le n S)]
def Wp (n : Nat) (S : List (List Nat)) (m : Nat) (ρ : En) : Prop := ∃ (found : List (List (List Nat) × List (List Nat))) (wait : List (List (List Nat))) (a b c d : Option Sl), Prt n S found ∧ (wait.Nodup ∧ ∀ R ∈ wait, R ∈ found.map (·.1)) ∧ (∀ e ∈ found, e.1 ∉ wait → ∀ m ∈ S, m ∉ e.1 → G n (e.2 ++ [m]) ∈ found.map (·.1)) ∧ 2 * ((subs n S).length + 1 - found.length) + wait.length ≤ m ∧
  ρ = [some (.dat (.int (n : Nat))), some (.dat (due S)), some (.dic ⟨3, kU (fnd found)⟩), some (.own (wait.map ptD)), a, b, c, d, none, none] ∧ free a ∧ free b ∧ free c ∧ free d
def Wp2 (n : Nat) (S : List (List Nat)) (here : List (List Nat) × List (List Nat)) (m i : Nat) (ρ : En) : Prop := ∃ (found : List (List (List Nat) × List (List Nat))) (wait : List (List (List Nat))) (b c d : Option Sl), Prt n S found ∧ (wait.Nodup ∧ ∀ R ∈ wait, R ∈ found.map (·.1)) ∧ here ∈ found ∧ (∀ e ∈ found, e.1 ∉ wait → e ≠ here → ∀ m ∈ S, m ∉ e.1 → G n (e.2 ++ [m]) ∈ found.map (·.1)) ∧ (∀ m ∈ S.take i, m ∉ here.1 → G n (here.2 ++ [m]) ∈ found.map (·.1)) ∧ 2 * ((subs n S).length + 1 - found.length) + wait.length < m ∧
  ρ = [some (.dat (.int (n : Nat))), some (.dat (due S)), some (.dic ⟨3, kU (fnd found)⟩), some (.own (wait.map ptD)), some (.dat (ptD here.1)), b, c, d, none, none] ∧ free b ∧ free c ∧ free d
theorem pl_pts : ∀ l : List (List (List Nat)), D.plains (l.map ptD) = true
  | [] => by simp [D.plains]
  | R :: l => by simp [D.plains, pl_pts l, ptD, D.plain, pl_exx]
theorem dp_pts : ∀ l : List (List (List Nat)), D.deeps (l.map ptD) ≤ 2
  | [] => by simp [D.deeps]
  | R :: l => by
    show max (D.deep (ptD R)) (D.deeps (l.map ptD)) ≤ 2
    have h1 := dp_exx R
    have h2 := dp_pts l
    have : D.deep (ptD R) ≤ 2 := by simp [ptD, D.deep]; omega
    omega
theorem ne_lpt {l : List (List (List Nat))} {Q : Sl → Prop} : gNe (.lst (l.map ptD)) (.lst []) Q = Q (.dat (.bl (!decide (l = [])))) := by
  have s2 : (D.lst []).shp = true := by decide +kernel
  have s1 : (D.lst (l.map ptD)).shp = true := by
    have := dp_pts l
    simp [D.shp, D.plain, pl_pts, D.deep]
    omega
  have e : (D.lst (l.map ptD)).eqb (.lst []) = decide (l = []) := by
    cases l with
    | nil => simp [D.eqb, D.py, D.pys, PyData.eqv, PyData.eqvAll]
    | cons p l => simp [D.eqb, D.py, D.pys, PyData.eqv, PyData.eqvAll]
  unfold gNe
  rw [e, s1, s2]; simp
@[simp] theorem nl_pts : ∀ l : List (List (List Nat)), D.nolists (l.map ptD) = true
  | [] => by simp
  | R :: l => by
    show (D.nolist (ptD R) && D.nolists (l.map ptD)) = true
    rw [nl_pts l]; simp [ptD]
theorem fnd_at {found : List (List (List Nat) × List (List Nat))} {e : List (List Nat) × List (List Nat)} (h : e ∈ found) : ∃ j : Nat, (fnd found)[j]? = some (kP e.1, .fl (e.2.map exX)) := by
  obtain ⟨j, hj⟩ := List.mem_iff_getElem?.mp h
  exact ⟨j, by unfold fnd; rw [List.getElem?_map, hj]; rfl⟩
@[simp] theorem dicU_2 {a b : Option Sl} {l : List (K2 × D)} {r : En} : dicU (a :: b :: some (.dic ⟨3, kU l⟩) :: r) 2 = some l := dicU_kU rfl
theorem ttD_kP (l : List (List (List Nat))) : (l.map kP).map ttD = l.map ptD := by
  rw [List.map_map]
  exact List.map_congr_left fun R _ => (ptD_tt R).symm
section
variable {P : Program} [PlP P] {w : World} {K : PySem.W.Frag} {mg : Str → Option Value} {base : Heap}
theorem ok_parts_made (T : Txt K mg) : FnOk P w K mg base (L2N.CX P w) 43 T.a_parts_made.f T.a_parts_made.fd ["many", "members"] (spD K 2 f_parts_made) :=
  fn_D (wb := w_parts_made) T.a_parts_made.F sc_parts_made (d_parts_made T (ok_all_made T)) (by
    rintro ds Q X hl ⟨n, S, rfl, g, h24, h⟩
    have h1 := g.n1
    have h5 := g.n5
    simp [w_parts_made, startE]
    refine ⟨n, _, _, [], rfl, .inl rfl, h1, h5, .nil, by simp, ?_⟩
    simp [keyU_tupx]
    have hsl := subs_len g h24
    rw [← ptD_tt]
    refine while_by (Wp n S) (2 * ((subs n S).length + 1) + 1) ⟨[(G n [], [])], [G n []], none, none, none, none, prt0 g, ⟨by simp, by simp⟩, fun e he hn => ?_, by simp; omega, by simp [fnd], trivial, trivial, trivial, trivial⟩ ?_
    · rw [List.mem_singleton.mp he] at hn
      exact absurd (List.mem_singleton.mpr rfl) hn
    rintro m ρ ⟨found, wait, a, b, c, d, pr, ⟨wnd, wsub⟩, cl, hm, rfl, fa, fb, fc, fd⟩
    have hfl := pr.len g
    simp [ne_lpt]
    by_cases hw : wait = []
    · rw [if_pos hw]
      have pm := pr.all g fun e he m hm hn => cl e he (by rw [hw]; simp) m hm hn
      rw [show (fnd found).map (ttD ∘ fun x => x.fst) = (found.map (·.1)).map ptD from by rw [← List.map_map, fnd_keys, ttD_kP]]
      have hF : (found.map (·.1)).length ≤ 16777216 := by rw [List.length_map]; omega
      generalize found.map (·.1) = F at pm hF
      refine lcm_by (res := F.map prD) (by simp) (by simp) (by rw [List.length_map, DL.sizeLine_eq]; exact hF) ?_ ?_
      · intro i d d' hd hd'
        rw [List.getElem?_map] at hd hd'
        obtain ⟨R, hR, rfl⟩ := Option.map_eq_some_iff.mp hd
        rw [hR] at hd'
        obtain rfl : d' = prD R := (Option.some.inj hd').symm
        refine ⟨_, rfl, by simp, fun Q' X' hq' => ?_⟩
        simp [ptD]
        exact hq' _ (by simp [ptD])
      · simp only [c_own, g_srtY, cs_cons, cs_nil]
        have h3 := dp_pr F
        refine ⟨⟨pl_pr F, by omega⟩, al_pr F, sk_pr F, ?_⟩
        rw [srt_prts g pm]
        have hll : (prts n S).length ≤ 16777216 := by rw [(prts_perm n S).length_eq]; exact hsl
        simp
        refine lcm_by (res := (prts n S).map ptD) (by simp) (by simp) (by rw [List.length_map, DL.sizeLine_eq]; exact hll) ?_ ?_
        · intro i d d' hd hd'
          rw [List.getElem?_map] at hd hd'
          obtain ⟨R, hR, rfl⟩ := Option.map_eq_some_iff.mp hd
          rw [hR] at hd'
          obtain rfl : d' = ptD R := (Option.some.inj hd').symm
          refine ⟨_, rfl, by simp, fun Q' X' hq' => ?_⟩
          simp
          exact hq' _ (by simp)
        · simp
          exact h
    · rw [if_neg hw]
      obtain ⟨wt, hr, rfl⟩ : ∃ wt hr, wait = wt ++ [hr] := ⟨wait.dropLast, wait.getLast hw, (List.dropLast_concat_getLast hw).symm⟩
      obtain ⟨here, hhe, rfl⟩ := List.mem_map.mp (wsub hr (by simp))
      simp [fa]
      refine loop_by (Wp2 n S here m) ⟨found, wt, b, c, d, pr, ⟨(List.nodup_append.mp wnd).1, fun R hR => wsub R (by simp [hR])⟩, hhe, fun e he hn hne m' hm' hx => cl e he ?_ m' hm' hx, by simp, by simp at hm; omega, by simp [due], fb, fc, fd⟩ ?_ ?_
      · intro z
        rcases List.mem_append.mp z with z | z
        · exact hn z
        · have e1 : e.1 = here.1 := List.mem_singleton.mp z
          refine hne ?_
          obtain ⟨i, hi⟩ := List.mem_iff_getElem?.mp he
          obtain ⟨j, hj⟩ := List.mem_iff_getElem?.mp hhe
          have h3 : (found.map (·.1))[i]? = some here.1 := by rw [List.getElem?_map, hi]; exact congrArg some e1
          have h4 : (found.map (·.1))[j]? = some here.1 := by rw [List.getElem?_map, hj]; rfl
          have := (List.getElem?_inj (List.getElem?_eq_some_iff.mp h3).1 pr.nd).mp (h3.trans h4.symm)
          subst this
          rw [hi] at hj
          exact Option.some.inj hj
      · rintro ρ ⟨found', wt', b, c, d, pr', ⟨wnd', wsub'⟩, hhe', cl', al, hm', rfl, fb, fc, fd⟩
        rw [List.length_map, List.take_length] at al
        refine ⟨_, hm', found', wt', _, _, _, _, pr', ⟨wnd', wsub'⟩, fun e he hn m' hm' hx => ?_, Nat.le_refl _, rfl, trivial, fb, fc, fd⟩
        by_cases hne : e = here
        · subst hne; exact al m' hm' hx
        · exact cl' e he hn hne m' hm' hx
      · rintro i dd ρ hd ⟨found', wt', b, c, d, pr', ⟨wnd', wsub'⟩, hhe', cl', al, hm', rfl, fb, fc, fd⟩
        obtain ⟨q, hq, rfl⟩ := exx_get hd
        have hqS := List.mem_of_getElem? hq
        simp [fb, fc, fd]
        by_cases hin : q ∈ here.1
        · rw [if_pos hin]
          refine ⟨found', wt', _, _, _, pr', ⟨wnd', wsub'⟩, hhe', cl', fun m' hm' hx => ?_, hm', rfl, trivial, fc, fd⟩
          rcases (mem_take1 hq).mp hm' with z | rfl
          · exact al m' z hx
          · exact absurd hin hx
        · rw [if_neg hin]
          rw [keyU_pt]
          simp
          obtain ⟨j, hj⟩ := fnd_at hhe'
          refine ⟨j, _, hj, ?_⟩
          obtain ⟨hmS, hml⟩ := pr'.more g hhe' hqS hin
          have hx' : ∀ p ∈ here.2 ++ [q], Ex p n := fun p hp => g.ex (hmS p hp)
          have gm := G_isG h1 h5 hx'
          have hsz := gm.size_le.2
          simp at hml
          simp [fc, fd]
          refine ⟨by omega, n, _, _, here.2 ++ [q], rfl, .inr (by simp), h1, h5, Mk.exX _, hx', ?_⟩
          simp [fd, keyU_tupx]
          rw [fnd_keys]
          have hfl' := pr'.len g
          have hwl : wt'.length ≤ found'.length := by
            have := sub_len wnd' wsub'
            rwa [List.length_map] at this
          have al' : ∀ F : List (List (List Nat)), (∀ R ∈ found'.map (·.1), R ∈ F) → G n (here.2 ++ [q]) ∈ F → ∀ m ∈ S.take (i + 1), m ∉ here.1 → G n (here.2 ++ [m]) ∈ F := fun F hF hc m hm hx => by
            rcases (mem_take1 hq).mp hm with z | rfl
            · exact hF _ (al m z hx)
            · exact hc
          by_cases hc : G n (here.2 ++ [q]) ∈ found'.map (·.1)
          · rw [if_neg (by rw [decide_eq_true (mem_kP.mpr hc)]; simp)]
            exact ⟨found', wt', _, _, _, pr', ⟨wnd', wsub'⟩, hhe', cl', al' _ (fun R hR => hR) hc, hm', rfl, trivial, trivial, trivial⟩
          · rw [if_pos (by rw [decide_eq_false (fun z => hc (mem_kP.mp z))]; rfl)]
            have pr2 := pr'.add g hhe' hqS hin hc
            have hl2 := pr2.len g
            rw [List.length_append, List.length_singleton] at hl2
            refine ⟨by simp [fnd]; omega, by omega, found' ++ [(G n (here.2 ++ [q]), here.2 ++ [q])], wt' ++ [G n (here.2 ++ [q])], some (.dat (exX q)), some (.dat (.fl ((here.2 ++ [q]).map exX))), some (.dat (ptD (G n (here.2 ++ [q])))), pr2, ⟨?_, fun R hR => ?_⟩, by simp [hhe'], fun e he hn hne m' hm2 hx => ?_, al' _ (fun R hR => by rw [List.map_append]; exact List.mem_append_left _ hR) (by simp), by simp; omega, ?_, trivial, trivial, trivial⟩
            · rw [List.nodup_append]
              refine ⟨wnd', by simp, fun x hx y hy z => hc ?_⟩
              have e2 : y = G n (here.2 ++ [q]) := by simpa using hy
              rw [← e2, ← z]
              exact wsub' x hx
            · rw [List.map_append]
              rcases List.mem_append.mp hR with hR | hR
              · exact List.mem_append_left _ (wsub' R hR)
              · exact List.mem_append_right _ (by simpa using hR)
            · rw [List.map_append]
              rcases List.mem_append.mp he with he | he
              · exact List.mem_append_left _ (cl' e he (fun z => hn (List.mem_append_left _ z)) hne m' hm2 hx)
              · exfalso
                apply hn
                rw [List.mem_singleton.mp he]
                simp
            · have e3 := fnd_put (ms := here.2 ++ [q]) hc
              rw [List.map_append] at e3
              have e4 : putU (fnd found') (kP (G n (here.2 ++ [q]))) (.fl (here.2.map exX ++ [exX q])) = fnd (found' ++ [(G n (here.2 ++ [q]), here.2 ++ [q])]) := e3
              rw [e4]
              simp [ptD])
end
end K34


set_option Elab.async false
set_option linter.all false
set_option maxRecDepth 100000
set_option maxHeartbeats 4000000
namespace K34
open PySem L2 DL RX
@[simp] theorem dicU_2b {a b : Option Sl} {l : List (K2 × D)} {r : En} : dicU (a :: b :: some (.dic ⟨3, kU l⟩) :: r) 2 = some l := dicU_kU rfl
section
variable {P : Program} [PlP P] {w : World} {K : PySem.W.Frag} {mg : Str → Option Value} {base : Heap}
theorem ok_Group_subgroups (T : Txt K mg) : FnOk P w K mg base (L2N.CX P w) 45 T.a_Group_subgroups.f T.a_Group_subgroups.fd ["self"] (spD K 1 (f_Group_subgroups T.x_Group T.x_TooMany)) :=
  fn_D (wb := w_Group_subgroups T) T.a_Group_subgroups.F sc_Group_subgroups (d_Group_subgroups T (ok_parts_made T) (ok_Group___init__ T)) (by
    rintro ds Q X hl ⟨n, S, rfl, g, c, h⟩
    have hsz := g.size_le.2
    simp [w_Group_subgroups, startE, grp, lkM, lkT]
    rw [if_neg (by omega)]
    have hsl := subs_len g c
    refine ⟨n, S, rfl, g, c, ?_⟩
    have pm := prts_perm n S
    have hll : (prts n S).length ≤ 16777216 := by rw [pm.length_eq]; exact hsl
    generalize prts n S = l at pm hll h
    simp
    refine lcm_by (res := l.map (grp T.x_Group n)) (by simp) (by simp) (by rw [List.length_map, DL.sizeLine_eq]; exact hll) ?_ ?_
    · intro i d d' hd hd'
      rw [List.getElem?_map] at hd hd'
      obtain ⟨R, hR, rfl⟩ := Option.map_eq_some_iff.mp hd
      rw [hR] at hd'
      obtain rfl : d' = grp T.x_Group n R := (Option.some.inj hd').symm
      obtain ⟨k, hs⟩ := (mem_subs g).mp (pm.mem_iff.mp (List.mem_of_getElem? hR))
      have hk := k.size_le.2
      refine ⟨_, rfl, by simp, fun Q' X' hq' => ?_⟩
      simp [ptD, lkT]
      refine ⟨n, _, _, R, rfl, .inl rfl, Mk.exX R, g.n1, g.n5, fun p hp => k.ex hp, by omega, ?_⟩
      rw [k.eqG]
      simp
      exact hq' _ (by simp)
    · simp
      exact h)
def Wsm (n m : Nat) (ρ : En) : Prop := ∃ (ps : List (List Nat)) (a b : Int), (∀ p ∈ ps, Ex p n) ∧ ps.length ≤ 3 ∧ ps.length ≤ m ∧ Pt b ∧ ρ = [some (.inn [.int a, .int b]), some (.dat (.int (n : Nat))), some (.own (ps.map exX))]
theorem G_nil_len {n : Nat} (h1 : 1 ≤ n) (h5 : n ≤ 5) : (G n []).length ≤ 1 := by
  have hx : ∀ p ∈ ([] : List (List Nat)), Ex p n := fun p hp => nomatch hp
  have := sub_len (G_isG h1 h5 hx).nodup (m := [List.range n]) fun p hp => List.mem_singleton.mpr (by
    have := (mem_G h1 h5 hx).mp hp
    cases this with
    | one => rfl
    | by_ h _ => exact nomatch h)
  simpa using this
theorem cut_last {ds : List D} {d : D} : cutD (ds ++ [d]) none (some (-1)) = ds := by
  unfold cutD
  rw [HT.sIx_none]
  have : HT.sIx (ds ++ [d]).length (ds ++ [d]).length (some (-1)) = ds.length := by
    simp [HT.sIx]
    omega
  rw [this]; simp
theorem ok__law_small (T : Txt K mg) : FnOk P w K mg base (L2N.CX P w) 45 T.a__law_small.f T.a__law_small.fd ["_law_pot_here", "_law_n"] (spI K 2 f__law_small) :=
  fn_I (wb := w__law_small) T.a__law_small.F sc__law_small (d__law_small T (ok__law_makers T) (ok__law_made T)) (by
    rintro dl ds Q X hl ⟨a, b, n, rfl, hb, rfl, h1, h5, h⟩
    simp [w__law_small, startE]
    refine ⟨a, b, n, rfl, hb, rfl, h1, h5, fun ps a2 b2 hps hl3 hb2 => ?_⟩
    simp
    refine while_by (Wsm n) 3 ⟨ps, a2, b2, hps, hl3, hl3, hb2, rfl⟩ ?_
    rintro m ρ ⟨ps, a, b, hps, hl3, hm, hb, rfl⟩
    simp
    refine ⟨n, _, ps, rfl, .inl rfl, h1, h5, hps, by omega, ?_⟩
    simp
    by_cases c : (G n ps).length ≤ 24
    · rw [if_neg (by omega)]
      exact h ps a b hps hl3 c hb
    · rw [if_pos (by omega)]
      have hne : ps ≠ [] := by
        rintro rfl
        have := G_nil_len h1 h5
        omega
      obtain ⟨qs, q, rfl⟩ : ∃ qs q, ps = qs ++ [q] := ⟨ps.dropLast, ps.getLast hne, (List.dropLast_concat_getLast hne).symm⟩
      have e : cutD (qs.map exX ++ [exX q]) none (some (-1)) = qs.map exX := cut_last
      simp [e]
      simp at hl3 hm
      exact ⟨qs.length, by omega, qs, a, b, fun p hp => hps p (by simp [hp]), by omega, Nat.le_refl _, hb, rfl⟩)
end
end K34

set_option Elab.async false
set_option linter.all false
set_option maxRecDepth 100000
set_option maxHeartbeats 4000000
namespace K34
open PySem L2 DL RX
def Wcl (n : Nat) (S : List (List Nat)) (k : Nat) (ρ : En) : Prop := ∃ a b, ρ = [some (.dat (.int (n : Nat))), some (.dat (due S)), some (.dat (.dct (S.map iZ))), a, b] ∧ free a ∧ b = none
section
variable {P : Program} [PlP P] {w : World} {K : PySem.W.Frag} {mg : Str → Option Value} {base : Heap}
theorem ok__law_closed (T : Txt K mg) : FnOk P w K mg base (L2N.CX P w) 42 T.a__law_closed.f T.a__law_closed.fd ["_law_n", "_law_members"] (spD K 2 f__law_closed) :=
  fn_D (wb := w__law_closed) T.a__law_closed.F sc__law_closed (d__law_closed T (ok__law_behind T)) (by
    rintro ds Q X hl ⟨n, S, rfl, g, h⟩
    have hsz := g.size_le.2
    have n5 := g.n5
    simp [w__law_closed, startE, due]
    refine lcm_by (res := S.map fun r => .tup [exX r, .bl true]) (by simp) (by simp) (by rw [List.length_map, DL.sizeLine_eq]; omega) ?_ ?_
    · intro i d d' hd hd'
      obtain ⟨m, hm, rfl⟩ := exx_get hd
      obtain rfl : d' = .tup [exX m, .bl true] := by
        rw [List.getElem?_map, hm] at hd'
        exact (Option.some.inj hd').symm
      refine ⟨_, rfl, by simp [exX], fun Q' X' hq' => ?_⟩
      simp [exX]
      exact hq' _ (by simp [exX])
    · simp
      refine ⟨S.map iZ, pairs_iZ S, iZ_nd g.nodup, ?_⟩
      simp only [non_keys]
      simp
      have er : D.tpx (rgD 0 n) = exX (List.range n) := by
        unfold exX
        rw [rg_nI]
      have el : (rgD 0 n).length = n := by
        rw [rg_nI]; simp [nI]
      refine ⟨by omega, by rw [el]; omega, ?_⟩
      rw [er]
      simp [keyX_ex]
      rw [if_neg (fun z => z _ g.one rfl)]
      refine loop_by (Wcl n S) ⟨none, none, by simp [due, Function.comp_def], trivial, rfl⟩ ?_ ?_
      · rintro ρ ⟨a, b, rfl, _⟩
        simpa using h
      · rintro i d ρ hd ⟨a, b, rfl, fa, rfl⟩
        obtain ⟨m, hm, rfl⟩ := exx_get hd
        have hmS := List.mem_of_getElem? hm
        simp [fa, due]
        refine lcm_by (res := S.map fun r => .bl (decide (comp m r ∈ S))) (by simp) (by simp) (by rw [List.length_map, DL.sizeLine_eq]; omega) ?_ ?_
        · intro i d d' hd hd'
          obtain ⟨r, hr, rfl⟩ := exx_get hd
          have hrS := List.mem_of_getElem? hr
          obtain rfl : d' = .bl (decide (comp m r ∈ S)) := by
            rw [List.getElem?_map, hr] at hd'
            exact (Option.some.inj hd').symm
          refine ⟨_, rfl, by simp, fun Q' X' hq' => ?_⟩
          simp
          refine ⟨_, _, m, r, n, rfl, .inr rfl, .inr rfl, g.ex hmS, g.ex hrS, ?_⟩
          simp [keyX_ex]
          rw [dec_ex]
          exact hq' _ (by simp)
        · simp [bls_map]
          rw [if_neg (fun ⟨r, hr, z⟩ => z (g.mul m r hmS hr))]
          exact ⟨_, _, rfl, trivial, rfl⟩)
end
end K34

set_option Elab.async false
set_option linter.all false
set_option maxRecDepth 100000
set_option maxHeartbeats 4000000
namespace K34
open PySem L2 DL RX
theorem kP_nd {l : List (List (List Nat))} (h : l.Nodup) : (l.map kP).Nodup := by
  rw [List.nodup_iff_pairwise_ne, List.pairwise_map]
  exact (List.nodup_iff_pairwise_ne.mp h).imp fun n z => n (kP_inj z)
theorem pr_pairU (l : List (List (List Nat))) : (l.map kP).map pairU = l.map fun R => D.tup [ptD R, .bl true] := by
  rw [List.map_map]
  exact List.map_congr_left fun R _ => by
    show D.tup [ttD (kP R), .bl true] = _
    rw [← ptD_tt]
theorem filt_exx' (R l : List (List Nat)) : (l.map exX).filter (fun d => (R.map exX).any fun z => z.eqb d) = (l.filter fun p => decide (p ∈ R)).map exX := by
  rw [List.filter_map]
  congr 1
  apply List.filter_congr
  intro p _
  simp only [Function.comp_apply]
  rw [any_exx]
theorem g_inLx {a : List (List Nat)} {Q : Sl → Prop} {p : List Nat} : gInL (exX p) (.lst (a.map exX)) Q = Q (.dat (.bl (decide (p ∈ a)))) := by
  show (((exX p).shp = true ∧ (D.lst (a.map exX)).shp = true) ∧ Q (.dat (.bl ((a.map exX).any fun z => z.eqb (exX p))))) = _
  rw [any_exx, shp_exX, shp_exs]; simp
/-- the parts, as the law finds them -/
structure Pts (n : Nat) (S : List (List Nat)) (L : List (List (List Nat))) : Prop where
  g : IsG n S
  c24 : S.length ≤ 24
  eq : L = prts n S
  len : L.length ≤ 16777216
  pos : 0 < L.length
  nd : L.Nodup
  mem : ∀ R, R ∈ L ↔ IsG n R ∧ ∀ p ∈ R, p ∈ S
theorem pts_of {n : Nat} {S : List (List Nat)} (g : IsG n S) (c24 : S.length ≤ 24) : Pts n S (prts n S) := by
  have pm := prts_perm n S
  have hm : ∀ R, R ∈ prts n S ↔ IsG n R ∧ ∀ p ∈ R, p ∈ S := fun R => by rw [pm.mem_iff, mem_subs g]
  exact ⟨g, c24, rfl, by rw [pm.length_eq]; exact subs_len g c24, List.length_pos_of_mem ((hm S).mpr ⟨g, fun p hp => hp⟩), pm.symm.nodup (subs_nd g), hm⟩
@[simp] theorem dicU_3 {a b c : Option Sl} {l : List (K2 × D)} {r : En} : dicU (a :: b :: c :: some (.dic ⟨3, kU l⟩) :: r) 3 = some l := dicU_kU rfl
theorem cut_drop1 (l : List D) : cutD l (some 1) none = l.drop 1 := by
  unfold cutD
  rw [HT.sIx_none]
  cases l with
  | nil => rfl
  | cons d l =>
    have : HT.sIx (d :: l).length 0 (some 1) = 1 := by
      simp [HT.sIx]
    rw [this]
    simp
theorem one_in {n : Nat} {S : List (List Nat)} {L : List (List (List Nat))} (pt : Pts n S L) : [List.range n] ∈ L := by
  have g := pt.g
  have g0 := G_isG (n := n) (ps := []) g.n1 g.n5 (by simp)
  have h1 := g0.one
  have h2 := G_nil_len g.n1 g.n5
  have e : G n [] = [List.range n] := by
    generalize G n [] = l at h1 h2
    match l, h1, h2 with
    | [x], h1, _ => rw [List.mem_singleton.mp h1]
    | x :: y :: l, _, h2 => simp at h2
  rw [e] at g0
  exact (pt.mem _).mpr ⟨g0, fun p hp => by rw [List.mem_singleton.mp hp]; exact g.one⟩
theorem more_in {n : Nat} {S R : List (List Nat)} {L : List (List (List Nat))} (pt : Pts n S L) (hR : R ∈ L) {m : List Nat} (hm : m ∈ S) : (∀ p ∈ R.drop 1 ++ [m], Ex p n) ∧ (R.drop 1 ++ [m]).length ≤ 1000 ∧ G n (R.drop 1 ++ [m]) ∈ L := by
  have g := pt.g
  obtain ⟨k, hs⟩ := (pt.mem R).mp hR
  have sub : ∀ p ∈ R.drop 1 ++ [m], p ∈ S := fun p hp => by
    rcases List.mem_append.mp hp with z | z
    · exact hs p (List.mem_of_mem_drop z)
    · rw [List.mem_singleton.mp z]; exact hm
  have hx : ∀ p ∈ R.drop 1 ++ [m], Ex p n := fun p hp => g.ex (sub p hp)
  have hk := k.size_le.2
  refine ⟨hx, by simp; omega, (pt.mem _).mpr ⟨G_isG g.n1 g.n5 hx, fun p hp => G_sub g sub ((mem_G g.n1 g.n5 hx).mp hp)⟩⟩
def Wat (n : Nat) (S : List (List Nat)) (L : List (List (List Nat))) (k : Nat) (ρ : En) : Prop := ∃ a b, ρ = [some (.dat (.int (n : Nat))), some (.dat (due S)), some (.dat (.lst (L.map ptD))), some (.dat (.dcu (L.map kP))), a, b] ∧ free a ∧ free b
def Wat2 (n : Nat) (S R : List (List Nat)) (L : List (List (List Nat))) (k : Nat) (ρ : En) : Prop := ∃ b, ρ = [some (.dat (.int (n : Nat))), some (.dat (due S)), some (.dat (.lst (L.map ptD))), some (.dat (.dcu (L.map kP))), some (.dat (ptD R)), b] ∧ free b
section
variable {P : Program} [PlP P] {w : World} {K : PySem.W.Frag} {mg : Str → Option Value} {base : Heap}
theorem ok__law_all_told (T : Txt K mg) : FnOk P w K mg base (L2N.CX P w) 43 T.a__law_all_told.f T.a__law_all_told.fd ["_law_n", "_law_due", "_law_told"] (spD K 3 f__law_all_told) :=
  fn_D (wb := w__law_all_told) T.a__law_all_told.F sc__law_all_told (d__law_all_told T (ok__law_made T)) (by
    rintro ds Q X hl ⟨n, S, rfl, g, c24, h⟩
    have pt := pts_of g c24
    have n5 := g.n5
    generalize prts n S = L at pt
    have lL := pt.len
    simp [w__law_all_told, startE]
    refine lcm_by (res := (L.map kP).map pairU) (by simp) (by simp) (by rw [List.length_map, DL.sizeLine_eq]; exact lL) ?_ ?_
    · intro i d d' hd hd'
      rw [pr_pairU] at hd'
      rw [List.getElem?_map] at hd hd'
      obtain ⟨R, hR, rfl⟩ := Option.map_eq_some_iff.mp hd
      rw [hR] at hd'
      obtain rfl : d' = .tup [ptD R, .bl true] := (Option.some.inj hd').symm
      refine ⟨_, rfl, by simp [ptD], fun Q' X' hq' => ?_⟩
      simp [ptD]
      exact hq' _ (by simp [ptD])
    simp
    refine ⟨L.map kP, by simp, kP_nd pt.nd, ?_⟩
    have ek : L.map ((fun x : K2 × D => x.1) ∘ (fun k => (k, D.bl true)) ∘ kP) = L.map kP := List.map_congr_left fun k _ => rfl
    have el : (rgD 0 n).length = n := by rw [rg_nI]; simp [nI]
    simp [post_app]
    refine ⟨by omega, by rw [el]; omega, ?_⟩
    have e1 : D.tup [D.tpx (rgD 0 n)] = D.tup ([List.range n].map exX) := by
      rw [rg_nI]; rfl
    rw [e1]
    have m1 := one_in pt
    have m2 : S ∈ L := (pt.mem S).mpr ⟨g, fun p hp => hp⟩
    simp only [keyU_tupx]
    simp
    rw [if_neg (fun z => z _ m1 rfl), ek]
    simp [due, keyU_tupx]
    rw [if_neg (fun z => z _ m2 rfl)]
    refine loop_by (Wat n S L) ⟨none, none, by simp [due], trivial, trivial⟩ ?_ ?_
    · rintro ρ ⟨a, b, rfl, _⟩
      simpa using h
    · rintro i d ρ hd ⟨a, b, rfl, fa, fb⟩
      rw [List.getElem?_map] at hd
      obtain ⟨R, hR, rfl⟩ := Option.map_eq_some_iff.mp hd
      have hRL := List.mem_of_getElem? hR
      simp [fa, due]
      refine loop_by (Wat2 n S R L) ⟨b, by simp [due], fb⟩ ?_ ?_
      · rintro ρ ⟨b, rfl, fb⟩
        exact ⟨_, _, rfl, trivial, fb⟩
      · rintro i d ρ hd ⟨b, rfl, fb⟩
        obtain ⟨m, hm, rfl⟩ := exx_get hd
        obtain ⟨hx, h10, hin⟩ := more_in pt hRL (List.mem_of_getElem? hm)
        simp [fb, ptD]
        have e5 : cutD (R.map exX) (some 1) none = (R.drop 1).map exX := by rw [cut_drop1, List.map_drop]
        rw [e5]
        generalize R.drop 1 = R1 at hx h10 hin
        have hl2 : R1.length ≤ 1000 := by simp at h10; omega
        refine ⟨⟨shp_exX _, shp_pt R⟩, ?_⟩
        split
        · refine ⟨by simp; omega, n, _, R1 ++ [m], rfl, .inl (by simp), g.n1, n5, hx, h10, ?_⟩
          simp [keyU_tupx]
          rw [if_neg (fun z => z _ hin rfl)]
          exact ⟨some (.dat (exX m)), by simp [due, ptD], trivial⟩
        · exact ⟨some (.dat (exX m)), by simp [due, ptD], trivial⟩)
end
end K34

set_option Elab.async false
set_option linter.all false
set_option maxRecDepth 100000
set_option maxHeartbeats 4000000
namespace K34
open PySem L2 DL RX
theorem numKs_nI : ∀ l : List Nat, numKs (dNs (nI l)) = true
  | [] => rfl
  | i :: l => by
    show (numK (.num (i : Int)) && numKs (dNs (nI l))) = true
    rw [numKs_nI l]; rfl
theorem dep_nI : ∀ l : List Nat, NestedKey.depthAll (dNs (nI l)) = 0
  | [] => rfl
  | i :: l => by
    show max (NestedKey.depth (.num (i : Int))) (NestedKey.depthAll (dNs (nI l))) = 0
    rw [dep_nI l]; rfl
theorem numKs_exs : ∀ R : List (List Nat), numKs (dNs (R.map exX)) = true
  | [] => rfl
  | p :: R => by
    show (numK (.tup (dNs (nI p))) && numKs (dNs (R.map exX))) = true
    rw [numKs_exs R, numK, numKs_nI]; rfl
theorem dep_exs : ∀ R : List (List Nat), NestedKey.depthAll (dNs (R.map exX)) ≤ 1
  | [] => by simp [dNs, NestedKey.depthAll]
  | p :: R => by
    show max (NestedKey.depth (.tup (dNs (nI p)))) (NestedKey.depthAll (dNs (R.map exX))) ≤ 1
    have h1 := dep_exs R
    have h2 := dep_nI p
    simp only [NestedKey.depth, h2]
    omega
theorem dN_prD (R : List (List Nat)) : dN (prD R) = .tup [.num (R.length : Nat), .tup (dNs (R.map exX))] := rfl
theorem okN_pr (R : List (List Nat)) : okN (prD R) = true := by
  have h1 := numKs_exs R
  have h2 := dep_exs R
  unfold okN
  rw [dN_prD]
  have e : isTp (prD R) = true := rfl
  rw [e]
  simp [numK, numKs, h1, NestedKey.depth, NestedKey.depthAll]
  omega
theorem dNs_nI_inj : ∀ {a b : List Nat}, dNs (nI a) = dNs (nI b) → a = b
  | [], [], _ => rfl
  | [], y :: b, h => by simp [nI, dNs] at h
  | x :: a, [], h => by simp [nI, dNs] at h
  | x :: a, y :: b, h => by
    have h : NestedKey.num (x : Int) :: dNs (nI a) = NestedKey.num (y : Int) :: dNs (nI b) := h
    injection h with h1 h2
    injection h1 with h1
    rw [dNs_nI_inj h2, show x = y by omega]
theorem dNs_ex_inj : ∀ {a b : List (List Nat)}, dNs (a.map exX) = dNs (b.map exX) → a = b
  | [], [], _ => rfl
  | [], y :: b, h => by simp [dNs] at h
  | x :: a, [], h => by simp [dNs] at h
  | x :: a, y :: b, h => by
    have h : NestedKey.tup (dNs (nI x)) :: dNs (a.map exX) = NestedKey.tup (dNs (nI y)) :: dNs (b.map exX) := h
    injection h with h1 h2
    injection h1 with h1
    rw [dNs_ex_inj h2, dNs_nI_inj h1]
theorem dN_pr_inj {a b : List (List Nat)} (h : dN (prD a) = dN (prD b)) : a = b := by
  rw [dN_prD, dN_prD] at h
  injection h with h
  injection h with _ h
  injection h with h _
  injection h with h
  exact dNs_ex_inj h
theorem dN_nd {L : List (List (List Nat))} (h : L.Nodup) : ((L.map prD).map dN).Nodup := by
  rw [List.map_map, List.nodup_iff_pairwise_ne, List.pairwise_map]
  exact (List.nodup_iff_pairwise_ne.mp h).imp fun n z => n (dN_pr_inj z)
theorem srt_self {n : Nat} {R : List (List Nat)} (k : IsG n R) {Q : Sl → Prop} (h : Q (.own (R.map exX))) : @SrtX (R.map exX) Q := by
  show ∃ (ts : List (List Int)) (l : Nat) (Bd : Int), R.map exX = ts.map tpxI ∧ 1 ≤ l ∧ (∀ t ∈ ts, t.length = l ∧ TS.Bd Bd t) ∧ ∀ ts' : List (List Int), ts'.Perm ts → ts'.Pairwise (fun a b => TS.code Bd a ≤ TS.code Bd b) → Q (.own (ts'.map tpxI))
  have hx : ∀ p ∈ R, Ex p n := fun p hp => k.ex hp
  refine ⟨R.map iZ, n, 5, ?_, k.n1, fun t ht => ?_, fun ts hp hs => ?_⟩
  · rw [List.map_map]; exact List.map_congr_left fun p _ => (tpx_iZ _).symm
  · obtain ⟨p, hp, rfl⟩ := List.mem_map.mp ht
    exact bd_iZ (hx p hp)
  · rw [sort_Gx k.n1 k.n5 hx k.nodup (fun p => by rw [← mem_G k.n1 k.n5 hx, k.eqG]) hp hs, k.eqG]
    exact h
theorem filt_self {n : Nat} {S R : List (List Nat)} (g : IsG n S) (k : IsG n R) (h : ∀ p ∈ R, p ∈ S) : (S.filter fun p => decide (p ∈ R)) = R := by
  have e2 := k.ord
  have e3 := g.ord
  rw [e3, List.filter_filter]
  conv => rhs; rw [e2]
  apply List.filter_congr
  intro p _
  rw [Bool.eq_iff_iff, Bool.and_eq_true, decide_eq_true_eq, decide_eq_true_eq]
  exact ⟨fun z => z.1, fun z => ⟨z, h p z⟩⟩
theorem g_nePr {L : List (List (List Nat))} {Q : Sl → Prop} : gNe (.lst (L.map prD)) (.fl (L.map prD)) Q = Q (.dat (.bl false)) := by
  have pl := pl_pr L
  have dp := dp_pr L
  unfold gNe
  have e : (D.lst (L.map prD)).eqb (.fl (L.map prD)) = true := by
    unfold D.eqb
    rw [D.py, D.py, PyData.eqv]
    have h := PySem.SeqAt.eqv_refl (D.py (.lst (L.map prD))) (D.py_lay _ (by simpa [D.plain] using pl))
    rw [D.py, PyData.eqv] at h
    exact h
  have s1 : (D.lst (L.map prD)).shp = true := by simp [D.shp, D.plain, pl, D.deep]; omega
  have s2 : (D.fl (L.map prD)).shp = true := by simp [D.shp, D.plain, pl, D.deep]; omega
  rw [e, s1, s2]; simp
theorem perm_prD {es : List D} {L : List (List (List Nat))} (h : es.Perm (L.map prD)) : ∃ F : List (List (List Nat)), F.Perm L ∧ es = F.map prD := by
  obtain ⟨F, h1, h2⟩ := perm_pr h
  exact ⟨F, h1, h2⟩
end K34

set_option Elab.async false
set_option linter.all false
set_option maxRecDepth 100000
set_option maxHeartbeats 4000000
namespace K34
open PySem L2 DL RX
def Wrr (C : Addr) (n : Nat) (S : List (List Nat)) (L : List (List (List Nat))) (p : Addr) (k : Nat) (ρ : En) : Prop := ∃ s5 s7 : Option Sl, ρ = [some (.dat (grp C n S)), some (.dat (.int (n : Nat))), some (.dat (due S)), some (.dat (.adr p)), some (.own ((L.take k).map ptD)), s5, none, s7, none] ∧ (s5 = none ∨ ∃ R, s5 = some (.dat (grp C n R))) ∧ (s7 = none ∨ ∃ R, s7 = some (.dat (due R)))
section
variable {P : Program} [PlP P] {w : World} {K : PySem.W.Frag} {mg : Str → Option Value} {base : Heap}
theorem ok__law_right (T : Txt K mg) : FnOk P w K mg base (L2N.CX P w) 46 T.a__law_right.f T.a__law_right.fd ["_law_group", "_law_n", "_law_due"] (spD K 3 (f__law_right T.x_Group)) :=
  fn_D0 (wb := w__law_right T) T.a__law_right.F sc__law_right (d__law_right T (ok_Group_subgroups T) (ok_Group_members T) (ok__law_is_group T) (ok__law_closed T) (ok__law_all_told T)) (by
    rintro ds Q X hl ⟨n, S, rfl, g, c24, h⟩
    have h5 := g.n5
    have hsz := g.size_le.2
    refine ⟨by simp [grp, due], ?_⟩
    simp [w__law_right, startE, grp]
    refine ⟨n, S, rfl, g, c24, ?_⟩
    have pt := pts_of g c24
    have lL : (prts n S).length < 64 := by rw [(prts_perm n S).length_eq]; exact few_subs g c24
    have pm := prts_perm n S
    have sp : ∀ F : List (List (List Nat)), F.Perm (prts n S) → srtData (F.map prD) = (prts n S).map prD := fun F hF => srt_prts g (hF.trans pm)
    obtain ⟨L, eL⟩ : ∃ L, L = prts n S := ⟨_, rfl⟩
    rw [← eL] at pt lL sp ⊢
    simp [tyS, isi_ll]
    have nlp : ∀ l : List (List (List Nat)), D.nolists (l.map (grp T.x_Group n)) = true := fun l => by
      induction l with
      | nil => rfl
      | cons R l ih => rw [List.map_cons, D.nolists, ih]; simp [grp]
    have nlt : ∀ l : List (List (List Nat)), D.nolists (l.map ptD) = true := fun l => by
      induction l with
      | nil => rfl
      | cons R l ih => rw [List.map_cons, D.nolists, ih]; simp [ptD]
    refine forO_by (ds := L.map (grp T.x_Group n)) (by simp) (by decide) (nlp L) (Wrr T.x_Group n S L) (fun p => ⟨none, none, by simp [grp], .inl rfl, .inl rfl⟩) ?_ ?_
    · rintro p ρ2 ⟨s5, s7, rfl, e5, e7⟩
      rw [List.length_map, List.take_length]
      refine ⟨?_, rfl, ?_⟩
      · rcases e5 with rfl | ⟨R, rfl⟩ <;> rcases e7 with rfl | ⟨R', rfl⟩ <;> simp [grp, due, pureEn, pureSl, nlt]
      · have n5 : isOwn (some s5) = false := by rcases e5 with rfl | ⟨R', rfl⟩ <;> rfl
        simp [frz]
        refine lcm_by (res := L.map prD) (by simp [n5]) (by simp) (by rw [List.length_map, DL.sizeLine_eq]; omega) ?_ ?_
        · intro i d d' hd hd'
          rw [List.getElem?_map] at hd hd'
          obtain ⟨R, hR, rfl⟩ := Option.map_eq_some_iff.mp hd
          rw [hR] at hd'
          obtain rfl : d' = prD R := (Option.some.inj hd').symm
          refine ⟨_, rfl, by simp, fun Q' X' hq' => ?_⟩
          simp [ptD]
          exact hq' _ (by simp [prD, ptD])
        · simp
          refine ⟨⟨fun d hd => ?_, dN_nd pt.nd, by rw [List.length_map]; exact lL⟩, ⟨⟨pl_pr L, by have := dp_pr L; omega⟩, al_pr L, sk_pr L⟩, fun es hes => ?_⟩
          · obtain ⟨R, _, rfl⟩ := List.mem_map.mp hd
            exact okN_pr R
          · obtain ⟨F, hF, rfl⟩ := perm_prD hes
            rw [sp F hF]
            simp [g_nePr]
            refine ⟨n, S, by rw [← eL], g, c24, ?_⟩
            simp [grp]
            refine ⟨n, S, rfl, g, c24, ?_⟩
            rw [← eL]
            simp
            refine ⟨n, S, rfl, g, ?_⟩
            simp
            exact h
    · rintro p k d ρ2 hd ⟨s5, s7, rfl, e5, e7⟩
      rw [List.getElem?_map] at hd
      obtain ⟨R, hR, rfl⟩ := Option.map_eq_some_iff.mp hd
      obtain ⟨kR, hs⟩ := (pt.mem R).mp (List.mem_of_getElem? hR)
      have hk := kR.size_le
      have f7 : notInn [some (.dat (grp T.x_Group n S)), some (.dat (.int (n : Nat))), some (.dat (due S)), some (.dat (.adr p)), some (.own ((L.take k).map ptD)), some (.dat (grp T.x_Group n R)), none, s7, none] 7 := by
        rcases e7 with rfl | ⟨R', rfl⟩ <;> trivial
      refine ⟨by rcases e5 with rfl | ⟨R', rfl⟩ <;> trivial, ?_⟩
      simp [grp, due]
      refine lc_filter (f := fun d => (R.map exX).any fun z => z.eqb d) (by simp) (by simp) (by rw [List.length_map, DL.sizeLine_eq]; omega) (fun d hd QT X' hq => ?_) ?_
      · obtain ⟨p, hp, rfl⟩ := List.mem_map.mp hd
        simp
        refine ⟨n, R, rfl, ?_⟩
        simp [g_inLx]
        rw [any_exx] at hq
        simpa using hq
      · rw [filt_exx', filt_self g kR hs]
        simp
        refine srt_self kR ?_
        simp
        refine ⟨by rcases e7 with rfl | ⟨R', rfl⟩ <;> trivial, n, R, rfl, kR, ?_⟩
        simp
        refine ⟨n, R, rfl, kR, ?_⟩
        simp
        refine ⟨by omega, some (.dat (grp T.x_Group n R)), some (.dat (due R)), ?_, .inr ⟨R, rfl⟩, .inr ⟨R, rfl⟩⟩
        have tk : L.take (k + 1) = L.take k ++ [R] := by rw [List.take_add_one, hR]; rfl
        rw [tk]
        simp [grp, due, ptD])
end
end K34

set_option Elab.async false
set_option linter.all false
set_option maxRecDepth 100000
set_option maxHeartbeats 4000000
namespace K34
open PySem L2 DL RX
def Wlaw (ns : List Int) (k : Nat) (ρ : En) : Prop := ∃ a b c d, ρ = [some (.dat (.lst (ns.map .int))), a, b, c, d] ∧ free a ∧ free b ∧ free c ∧ free d
section
variable {P : Program} [PlP P] {w : World} {K : PySem.W.Frag} {mg : Str → Option Value} {base : Heap}
theorem ok_law (T : Txt K mg) : FnOk P w K mg base (L2N.CX P w) 47 T.a_law.f T.a_law.fd ["_law_script"] (spD K 1 f_law) :=
  fn_D (wb := w_law T) T.a_law.F sc_law (d_law T (ok__law_pot T) (ok__law_digit T) (ok__law_small T) (ok__law_right T) (ok_Group___init__ T) (ok__law_made T)) (by
    rintro ds Q X hl ⟨ns, rfl, h⟩
    simp [w_law, startE]
    show (if cutD (ns.map D.int) none (some 3) = [] then _ else _)
    split
    all_goals
      refine loop_by (Wlaw ns) ⟨none, none, none, none, rfl, trivial, trivial, trivial, trivial⟩ ?_ ?_
      · rintro ρ ⟨a, b, c, d, rfl, _⟩
        simpa using h
      · rintro i d ρ hd ⟨a, b, c, d1, rfl, fa, fb, fc, fd⟩
        obtain ⟨x, rfl⟩ : ∃ x, d = .int x := by
          have := List.mem_of_getElem? hd
          first
          | (simp at this; exact ⟨_, this⟩)
          | (rw [show (3 : Int) = ((3 : Nat) : Int) from rfl, cut_take] at this
             obtain ⟨x, _, rfl⟩ := List.mem_map.mp (List.mem_of_mem_take this)
             exact ⟨x, rfl⟩)
        simp [fa, fb, fc, fd]
        refine ⟨x, rfl, fun a1 b1 hb1 => ?_⟩
        simp [fb, fc, fd]
        refine ⟨a1, b1, 5, rfl, hb1, rfl, by decide, by decide, fun d a2 b2 hd0 hd5 hb2 => ?_⟩
        obtain ⟨j, rfl⟩ := Int.eq_ofNat_of_zero_le hd0
        have ej : (1 : Int) + (j : Int) = ((j + 1 : Nat) : Int) := by omega
        simp [fc, fd, ej]
        refine ⟨a2, b2, j + 1, rfl, hb2, rfl, by omega, by omega, fun ps a3 b3 hps hlen h24 hb3 => ?_⟩
        simp [fd]
        refine ⟨j + 1, _, _, ps, rfl, .inl rfl, Mk.exX ps, by omega, by omega, hps, by omega, ?_⟩
        simp
        refine ⟨j + 1, _, ps, rfl, .inl rfl, by omega, by omega, hps, by omega, ?_⟩
        have g := G_isG (n := j + 1) (by omega) (by omega) hps
        generalize G (j + 1) ps = S at g h24
        simp
        refine ⟨j + 1, S, rfl, g, h24, ?_⟩
        simp
        exact ⟨_, _, _, _, rfl, trivial, trivial, trivial, trivial⟩)
end
end K34

set_option Elab.async false
set_option linter.all false
set_option maxRecDepth 100000
set_option maxHeartbeats 0
namespace K34
open PySem PySem.Spec PyProof.Rows L2 DL RX
theorem facts {P : Program} [PlP P] {w : World} {K : PySem.W.Frag} {h : Heap} {mg : Str → Option Value} {f : Addr} (X : K.In h) (G : h.Ns mainGlobals mg) (hf : mg ("law" : Str) = some (.ref f)) (cx : hex K = true) (c : He.SaysD hfa hfn K) :
    ∃ fd : FuncData, (∀ (s : Shared) (v : Value), BindsTo s fd ⟨[v], []⟩ [("_law_script", v)]) ∧ ∀ base : Heap, K.In base → base.Ns mainGlobals mg → FnOk P w K mg base (L2N.CX P w) 47 f fd ["_law_script"] (spD K 1 f_law) := by
  obtain ⟨y0, cx⟩ := He.ba cx
  obtain ⟨y1, cx⟩ := He.ba cx
  obtain ⟨fd0, F0⟩ := c.def_ 0 (d := hd_behind) rfl
  obtain ⟨fd1, F1⟩ := c.def_ 1 (d := hd_all_made) rfl
  obtain ⟨fd2, F2⟩ := c.def_ 2 (d := hd_parts_made) rfl
  obtain ⟨fd3, F3⟩ := c.def_ 3 (d := hd__law_pot) rfl
  obtain ⟨fd4, F4⟩ := c.def_ 4 (d := hd__law_digit) rfl
  obtain ⟨fd5, F5⟩ := c.def_ 5 (d := hd__law_exchange) rfl
  obtain ⟨fd6, F6⟩ := c.def_ 6 (d := hd__law_behind) rfl
  obtain ⟨fd7, F7⟩ := c.def_ 7 (d := hd__law_back) rfl
  obtain ⟨fd8, F8⟩ := c.def_ 8 (d := hd__law_turned) rfl
  obtain ⟨fd9, F9⟩ := c.def_ 9 (d := hd__law_made) rfl
  obtain ⟨fd10, F10⟩ := c.def_ 10 (d := hd__law_planted) rfl
  obtain ⟨fd11, F11⟩ := c.def_ 11 (d := hd__law_makers) rfl
  obtain ⟨fd12, F12⟩ := c.def_ 12 (d := hd__law_small) rfl
  obtain ⟨fd13, F13⟩ := c.def_ 13 (d := hd__law_whole) rfl
  obtain ⟨fd14, F14⟩ := c.def_ 14 (d := hd__law_is_exchange) rfl
  obtain ⟨fd15, F15⟩ := c.def_ 15 (d := hd__law_orbits) rfl
  obtain ⟨fd16, F16⟩ := c.def_ 16 (d := hd__law_is_group) rfl
  obtain ⟨fd17, F17⟩ := c.def_ 17 (d := hd__law_closed) rfl
  obtain ⟨fd18, F18⟩ := c.def_ 18 (d := hd__law_all_told) rfl
  obtain ⟨fd19, F19⟩ := c.def_ 19 (d := hd__law_right) rfl
  obtain ⟨fd20, F20⟩ := c.def_ 20 (d := hd_law) rfl
  let A0 : At K mg "behind" s_behind ["one", "other"] := { f := _, fd := fd0, F := F0, g := He.glo_ok X G (c.fact 26 (f := .glo "behind") rfl), b := FunD.bindsN F0 fun _ _ _ _ _ _ us hl => match us, hl with | [_, _], _ => rfl }
  let A1 : At K mg "all_made" s_all_made ["many", "makers"] := { f := _, fd := fd1, F := F1, g := He.glo_ok X G (c.fact 27 (f := .glo "all_made") rfl), b := FunD.bindsN F1 fun _ _ _ _ _ _ us hl => match us, hl with | [_, _], _ => rfl }
  let A2 : At K mg "parts_made" s_parts_made ["many", "members"] := { f := _, fd := fd2, F := F2, g := He.glo_ok X G (c.fact 28 (f := .glo "parts_made") rfl), b := FunD.bindsN F2 fun _ _ _ _ _ _ us hl => match us, hl with | [_, _], _ => rfl }
  let A3 : At K mg "_law_pot" s__law_pot ["_law_cell"] := { f := _, fd := fd3, F := F3, g := He.glo_ok X G (c.fact 29 (f := .glo "_law_pot") rfl), b := FunD.bindsN F3 fun _ _ _ _ _ _ us hl => match us, hl with | [_], _ => rfl }
  let A4 : At K mg "_law_digit" s__law_digit ["_law_pot_here", "_law_many"] := { f := _, fd := fd4, F := F4, g := He.glo_ok X G (c.fact 30 (f := .glo "_law_digit") rfl), b := FunD.bindsN F4 fun _ _ _ _ _ _ us hl => match us, hl with | [_, _], _ => rfl }
  let A5 : At K mg "_law_exchange" s__law_exchange ["_law_pot_here", "_law_n"] := { f := _, fd := fd5, F := F5, g := He.glo_ok X G (c.fact 31 (f := .glo "_law_exchange") rfl), b := FunD.bindsN F5 fun _ _ _ _ _ _ us hl => match us, hl with | [_, _], _ => rfl }
  let A6 : At K mg "_law_behind" s__law_behind ["_law_one", "_law_other"] := { f := _, fd := fd6, F := F6, g := He.glo_ok X G (c.fact 32 (f := .glo "_law_behind") rfl), b := FunD.bindsN F6 fun _ _ _ _ _ _ us hl => match us, hl with | [_, _], _ => rfl }
  let A7 : At K mg "_law_back" s__law_back ["_law_one"] := { f := _, fd := fd7, F := F7, g := He.glo_ok X G (c.fact 33 (f := .glo "_law_back") rfl), b := FunD.bindsN F7 fun _ _ _ _ _ _ us hl => match us, hl with | [_], _ => rfl }
  let A8 : At K mg "_law_turned" s__law_turned ["_law_e", "_law_member"] := { f := _, fd := fd8, F := F8, g := He.glo_ok X G (c.fact 34 (f := .glo "_law_turned") rfl), b := FunD.bindsN F8 fun _ _ _ _ _ _ us hl => match us, hl with | [_, _], _ => rfl }
  let A9 : At K mg "_law_made" s__law_made ["_law_n", "_law_makers_here"] := { f := _, fd := fd9, F := F9, g := He.glo_ok X G (c.fact 35 (f := .glo "_law_made") rfl), b := FunD.bindsN F9 fun _ _ _ _ _ _ us hl => match us, hl with | [_, _], _ => rfl }
  let A10 : At K mg "_law_planted" s__law_planted ["_law_pot_here", "_law_n"] := { f := _, fd := fd10, F := F10, g := He.glo_ok X G (c.fact 36 (f := .glo "_law_planted") rfl), b := FunD.bindsN F10 fun _ _ _ _ _ _ us hl => match us, hl with | [_, _], _ => rfl }
  let A11 : At K mg "_law_makers" s__law_makers ["_law_pot_here", "_law_n"] := { f := _, fd := fd11, F := F11, g := He.glo_ok X G (c.fact 37 (f := .glo "_law_makers") rfl), b := FunD.bindsN F11 fun _ _ _ _ _ _ us hl => match us, hl with | [_, _], _ => rfl }
  let A12 : At K mg "_law_small" s__law_small ["_law_pot_here", "_law_n"] := { f := _, fd := fd12, F := F12, g := He.glo_ok X G (c.fact 38 (f := .glo "_law_small") rfl), b := FunD.bindsN F12 fun _ _ _ _ _ _ us hl => match us, hl with | [_, _], _ => rfl }
  let A13 : At K mg "_law_whole" s__law_whole ["_law_found"] := { f := _, fd := fd13, F := F13, g := He.glo_ok X G (c.fact 39 (f := .glo "_law_whole") rfl), b := FunD.bindsN F13 fun _ _ _ _ _ _ us hl => match us, hl with | [_], _ => rfl }
  let A14 : At K mg "_law_is_exchange" s__law_is_exchange ["_law_found", "_law_n"] := { f := _, fd := fd14, F := F14, g := He.glo_ok X G (c.fact 40 (f := .glo "_law_is_exchange") rfl), b := FunD.bindsN F14 fun _ _ _ _ _ _ us hl => match us, hl with | [_, _], _ => rfl }
  let A15 : At K mg "_law_orbits" s__law_orbits ["_law_n", "_law_members"] := { f := _, fd := fd15, F := F15, g := He.glo_ok X G (c.fact 41 (f := .glo "_law_orbits") rfl), b := FunD.bindsN F15 fun _ _ _ _ _ _ us hl => match us, hl with | [_, _], _ => rfl }
  let A16 : At K mg "_law_is_group" s__law_is_group ["_law_group", "_law_n", "_law_due"] := { f := _, fd := fd16, F := F16, g := He.glo_ok X G (c.fact 42 (f := .glo "_law_is_group") rfl), b := FunD.bindsN F16 fun _ _ _ _ _ _ us hl => match us, hl with | [_, _, _], _ => rfl }
  let A17 : At K mg "_law_closed" s__law_closed ["_law_n", "_law_members"] := { f := _, fd := fd17, F := F17, g := He.glo_ok X G (c.fact 43 (f := .glo "_law_closed") rfl), b := FunD.bindsN F17 fun _ _ _ _ _ _ us hl => match us, hl with | [_, _], _ => rfl }
  let A18 : At K mg "_law_all_told" s__law_all_told ["_law_n", "_law_due", "_law_told"] := { f := _, fd := fd18, F := F18, g := He.glo_ok X G (c.fact 44 (f := .glo "_law_all_told") rfl), b := FunD.bindsN F18 fun _ _ _ _ _ _ us hl => match us, hl with | [_, _, _], _ => rfl }
  let A19 : At K mg "_law_right" s__law_right ["_law_group", "_law_n", "_law_due"] := { f := _, fd := fd19, F := F19, g := He.glo_ok X G (c.fact 45 (f := .glo "_law_right") rfl), b := FunD.bindsN F19 fun _ _ _ _ _ _ us hl => match us, hl with | [_, _, _], _ => rfl }
  let A20 : At K mg "law" s_law ["_law_script"] := { f := _, fd := fd20, F := F20, g := He.glo_ok X G (c.fact 46 (f := .glo "law") rfl), b := FunD.bindsN F20 fun _ _ _ _ _ _ us hl => match us, hl with | [_], _ => rfl }
  obtain ⟨fd21, F21⟩ := c.def_ 21 (d := hd_Group___init__) rfl
  let A21 : AtM K "__init__" "Group.__init__" s_Group___init__ ["self", "many", "makers"] := { f := _, fd := fd21, F := F21, b := FunD.bindsN F21 fun _ _ _ _ _ _ us hl => match us, hl with | [_, _, _], _ => rfl }
  obtain ⟨fd22, F22⟩ := c.def_ 22 (d := hd_Group_many) rfl
  let A22 : AtM K "many" "Group.many" s_Group_many ["self"] := { f := _, fd := fd22, F := F22, b := FunD.bindsN F22 fun _ _ _ _ _ _ us hl => match us, hl with | [_], _ => rfl }
  obtain ⟨fd23, F23⟩ := c.def_ 23 (d := hd_Group_members) rfl
  let A23 : AtM K "members" "Group.members" s_Group_members ["self"] := { f := _, fd := fd23, F := F23, b := FunD.bindsN F23 fun _ _ _ _ _ _ us hl => match us, hl with | [_], _ => rfl }
  obtain ⟨fd24, F24⟩ := c.def_ 24 (d := hd_Group_size) rfl
  let A24 : AtM K "size" "Group.size" s_Group_size ["self"] := { f := _, fd := fd24, F := F24, b := FunD.bindsN F24 fun _ _ _ _ _ _ us hl => match us, hl with | [_], _ => rfl }
  obtain ⟨fd25, F25⟩ := c.def_ 25 (d := hd_Group_orbits) rfl
  let A25 : AtM K "orbits" "Group.orbits" s_Group_orbits ["self"] := { f := _, fd := fd25, F := F25, b := FunD.bindsN F25 fun _ _ _ _ _ _ us hl => match us, hl with | [_], _ => rfl }
  obtain ⟨fd26, F26⟩ := c.def_ 26 (d := hd_Group_subgroups) rfl
  let A26 : AtM K "subgroups" "Group.subgroups" s_Group_subgroups ["self"] := { f := _, fd := fd26, F := F26, b := FunD.bindsN F26 fun _ _ _ _ _ _ us hl => match us, hl with | [_], _ => rfl }
  let T : Txt K mg := { a_behind := A0, a_all_made := A1, a_parts_made := A2, a__law_pot := A3, a__law_digit := A4, a__law_exchange := A5, a__law_behind := A6, a__law_back := A7, a__law_turned := A8, a__law_made := A9, a__law_planted := A10, a__law_makers := A11, a__law_small := A12, a__law_whole := A13, a__law_is_exchange := A14, a__law_orbits := A15, a__law_is_group := A16, a__law_closed := A17, a__law_all_told := A18, a__law_right := A19, a_law := A20, a_Group___init__ := A21, a_Group_many := A22, a_Group_members := A23, a_Group_size := A24, a_Group_orbits := A25, a_Group_subgroups := A26, n_tuple := He.free_ok X G (c.fact 0 (f := .free "tuple") rfl), n_range := He.free_ok X G (c.fact 1 (f := .free "range") rfl), n_sorted := He.free_ok X G (c.fact 2 (f := .free "sorted") rfl), n_list := He.free_ok X G (c.fact 3 (f := .free "list") rfl), n_len := He.free_ok X G (c.fact 4 (f := .free "len") rfl), x_Group := He.ga K "Group", g_Group := He.glo_ok X G (c.fact 5 (f := .glo "Group") rfl), c_Group := He.cls_ok (c.fact 6 (f := .cls "Group") rfl), na_Group_things := He.noat_ok (c.fact 7 (f := .noat "Group" "things") rfl), na_Group_all_members := He.noat_ok (c.fact 8 (f := .noat "Group" "all_members") rfl), n_any := He.free_ok X G (c.fact 9 (f := .free "any") rfl), n_set := He.free_ok X G (c.fact 10 (f := .free "set") rfl), c_MOST_WITH_PARTS := He.int_ok X G (c.fact 11 (f := .int "MOST_WITH_PARTS" 24) rfl), x_TooMany := He.ga K "TooMany", g_TooMany := He.glo_ok X G (c.fact 12 (f := .glo "TooMany") rfl), q_TooMany := (He.exc_ok (c.fact 13 (f := .exc "TooMany") rfl)).1, k_TooMany := (He.exc_ok (c.fact 13 (f := .exc "TooMany") rfl)).2.1, b_TooMany := (He.exc_ok (c.fact 13 (f := .exc "TooMany") rfl)).2.2.1, t_TooMany := (He.exc_ok (c.fact 13 (f := .exc "TooMany") rfl)).2.2.2, mk_Group := He.mkr_ok (c.fact 14 (f := .mkr "Group") rfl), n_max := He.free_ok X G (c.fact 15 (f := .free "max") rfl), sr := y0, n_int := He.free_ok X G (c.fact 16 (f := .free "int") rfl), n_isinstance := He.free_ok X G (c.fact 17 (f := .free "isinstance") rfl), n_bool := He.free_ok X G (c.fact 18 (f := .free "bool") rfl), n_all := He.free_ok X G (c.fact 19 (f := .free "all") rfl), m_Group_members := He.meth_ok (c.fact 20 (f := .meth "Group" "members") rfl), oc_Group := objB_ok (He.cls_ok (c.fact 6 (f := .cls "Group") rfl)) y1, m_Group_size := He.meth_ok (c.fact 21 (f := .meth "Group" "size") rfl), m_Group_many := He.meth_ok (c.fact 22 (f := .meth "Group" "many") rfl), m_Group_orbits := He.meth_ok (c.fact 23 (f := .meth "Group" "orbits") rfl), n_dict := He.free_ok X G (c.fact 24 (f := .free "dict") rfl), m_Group_subgroups := He.meth_ok (c.fact 25 (f := .meth "Group" "subgroups") rfl) }
  have e := hf.symm.trans A20.g
  cases e
  have b := FunD.bindsA (ps := ["_law_script"]) F20 fun _ _ _ _ _ _ us hl => match us, hl with | [_], _ => rfl
  exact ⟨fd20, fun s v => b s [v] rfl, fun base _ _ => ok_law T⟩
end K34
open PySem PySem.W PySem.Calls PyProof.Rows
theorem PySem.Challenge.cw_rootgroup_k34_whole_all_parts_holds : PySem.Challenge.rw_rootgroup_k34_whole_all_parts.Holds := by
  w_on; o_law
  refine HandSHeadRun.head_any (r := OpenLaw.row PySem.Challenge.rw_rootgroup_k34_whole_all_parts) (q := view (OpenLaw.row PySem.Challenge.rw_rootgroup_k34_whole_all_parts).prog [29]) (H := K34.hk) (ob := K34.ob) (M := 6000) (loose := K34.loose) (d := HandSHeadRun.topDef (OpenLaw.row PySem.Challenge.rw_rootgroup_k34_whole_all_parts).prog 29) (kwd := []) K34.ob_eq
    (by kernel_rfl) (fun s => by kernel_rfl) K34.run (by kernel_rfl) (by kernel_rfl) (by kernel_rfl) (by rfl) (by first | assumption | decide +kernel) (by decide +kernel) ⟨rfl, rfl, rfl, rfl, rfl, by decide +kernel⟩ ?hw ?hc
  case hw => w_witness2
  case hc =>
    refine L2.walk_ofE (l := PySem.Challenge.rw_rootgroup_k34_whole_all_parts) (n := 63) (k := 47) (x := "_law_script") (CX := L2.CX0) rfl (by decide) (by kernel_rfl) ⟨rfl, by decide, by decide⟩ ?F (fun _ _ _ _ z => z)
    intro w mg fa h Y G hmg0
    obtain ⟨K, KX, cx, c⟩ := Y
    have hmg : mg ("law" : PySem.Str) = some (.ref fa) := by
      have e : (HandSHeadRun.topDef (OpenLaw.row PySem.Challenge.rw_rootgroup_k34_whole_all_parts).prog 29).name = ("law" : PySem.Str) := by kernel_rfl
      rw [← e]
      exact hmg0
    haveI : DL.PlP (PySem.Challenge.rw_rootgroup_k34_whole_all_parts).prog := ⟨by kernel_rfl⟩
    obtain ⟨fd, hb, hF⟩ := K34.facts (P := (PySem.Challenge.rw_rootgroup_k34_whole_all_parts).prog) (w := w) KX G hmg cx c
    exact ⟨K, fd, fun vs H Q _ => DL.spD K 1 K34.f_law vs H Q fun _ _ _ => False, KX, hb, fun H a ns hl _ hS => DL.law_at (fun ns Q q => ⟨ns, rfl, q⟩) H a ns hS, fun base kb gb => DL.FnOk_cx0 (hF base kb gb)⟩

