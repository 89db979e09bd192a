import PyProof.Rows.All
import Wide.All
import OpenK.AllK
import Wide.FinOn
import HandS.ForMost
import HandS.ForExc
import HandS.Wide
import HandS.IsInst
import HandS.Flow
import HandS.Defaults
import HandS.Conv
import HandS.Rev
import HandS.RevRange
import HandS.Zip
import HandS.Deep
import KE.GoesMore
import HandS.CallLocal
import HandS.ExcIs
import HandS.Spec
import KE.KStateDown
import HandS.Ends
import HandS.More
import HandS.Words
import HandS.WordsExc
import HandS.Head0
import HandS.Head1
import HandS.Head2
import HandS.HeadEnd
import HandS.HeadHook1
import HandS.HeadHook2
import HandS.Iter
import HandS.SortInts
import HandS.SortRule
import HandS.TupSets
import HandS.DictTup
import HandS.ExcValue
import PySem.Challenge.RW_rootgroup_k10_refusals
set_option Elab.async false
set_option linter.all false
set_option maxRecDepth 100000
set_option maxHeartbeats 4000000
/-! DL: the heapless layer. D: data; Sl: what a slot holds (data, or a list of one's own); SR: the relation of an env of such with the slots and the abstract heap. -/
namespace DL
open PySem L2

/-- data -/
inductive D where
  | non | bl (b : Bool) | int (i : Int) | str (x : Str) | tup (ds : List D) | lst (ds : List D) | adr (a : Addr) | ty (n : String)
  /-- a list that changes no more; an instance of the class at C that changes no more: its fields -/
  | fl (ds : List D) | obj (C : Addr) (ns : List Str) (ds : List D)
  /-- a tuple that is known to have no dict; an error of the class at C -/
  | tpx (ds : List D) | exc (C : Addr)

/-- a dict: its keys tuples of ints (t), or ints, [i] for i -/
structure Dc where
  t : Bool
  l : List (List Int × D)
/-- a slot: data; a list of one's own; one that a caller lent; the one in slot i (of an expression alone); a dict of one's own, its keys tuples of ints -/
inductive Sl where
  | dat (d : D) | own (ds : List D) | inn (ds : List D) | bor (i : Nat) | dic (kvs : Dc)
/-- a tuple of the written part -/
def KTu (K : PySem.W.Frag) (a : Addr) (xs : List V) : Prop := SqT K (fun _ => none) a xs
theorem KTu.sq {K : PySem.W.Frag} {a : Addr} {xs : List V} (h : KTu K a xs) (H : Hp) : SqT K H a xs := by
  rcases h with (h | ⟨o, h⟩) | h
  · cases h
  · cases h
  · exact .inr h
/-- a tuple: tracked, or written -/
def TupA (K : PySem.W.Frag) (H : Hp) (a : Addr) (xs : List V) : Prop := H a = some (.tup xs) ∨ KTu K a xs
theorem TupA.sq {K : PySem.W.Frag} {H : Hp} {a : Addr} {xs : List V} (h : TupA K H a xs) : SqT K H a xs := by
  rcases h with h | h
  · exact .inl (.inl h)
  · exact h.sq H

abbrev En := List (Option Sl)

section
variable (K : PySem.W.Frag) (B H : Hp)
mutual
/-- v is d: tuples stand in H, lists in B -/
inductive Ip : V → D → Prop
  | non : Ip .non .non
  | bl (b : Bool) : Ip (.bl b) (.bl b)
  | int (i : Int) : Ip (.int i) (.int i)
  | str (x : Str) : Ip (.str x) (.str x)
  | adr (a : Addr) : Ip (.ref a) (.adr a)
  | ty (n : String) : Ip (.ty n) (.ty n)
  | tup {a : Addr} {xs : List V} {ds : List D} : TupA K H a xs → IpAll xs ds → Ip (.ref a) (.tup ds)
  | fl {a : Addr} {o : Obj} {xs : List V} {ds : List D} : H a = some (.frz o (.lst xs)) → IpAll xs ds → Ip (.ref a) (.fl ds)
  | obj {a C dx : Addr} {ns : List Str} {xs : List V} {ds : List D} : H a = some (.ins C dx (ns.zip xs)) → ns.length = xs.length → IpAll xs ds → Ip (.ref a) (.obj C ns ds)
  | lst {a : Addr} {xs : List V} {ds : List D} : SqL K B a xs → IpAll xs ds → Ip (.ref a) (.lst ds)
  | tpx {a : Addr} {o : Obj} {xs : List V} {ds : List D} : H a = some (.frz o (.tup xs)) → o.dict = none → IpAll xs ds → Ip (.ref a) (.tpx ds)
  | exc {a C : Addr} {o : Obj} : H a = some (.frz o (.ext fun _ => True)) → Zc (.ref C) none o → (∃ vs, o.data = .fields vs) → Ip (.ref a) (.exc C)
inductive IpAll : List V → List D → Prop
  | nil : IpAll [] []
  | cons {v : V} {vs : List V} {d : D} {ds : List D} : Ip v d → IpAll vs ds → IpAll (v :: vs) (d :: ds)
end
end

theorem Same.tup {K : PySem.W.Frag} {H H' : Hp} {a : Addr} {xs : List V} (e : Same H H') (h : SqT K H a xs) : SqT K H' a xs := by
  rcases h with (h | ⟨o, h⟩) | h
  · exact .inl (.inl (e _ _ h))
  · exact .inl (.inr ⟨o, e _ _ h⟩)
  · exact .inr h

theorem Same.rd {H H' : Hp} {a : Addr} {u : HO} (e : Same H H') (h : Rd H a u) : Rd H' a u := by
  rcases h with h | ⟨o, h⟩
  · exact .inl (e _ _ h)
  · exact .inr ⟨o, e _ _ h⟩
/-- what may be a slot's own: a list, a dict -/
def mutO : HO → Bool
  | .lst _ => true
  | .dT _ => true
  | .dK _ => true
  | _ => false
/-- what never changes in H stands in H' -/
def Tups (H H' : Hp) : Prop := ∀ b o, H b = some o → mutO o = false → H' b = some o
theorem Tups.of {H H' : Hp} (e : Same H H') : Tups H H' := fun _ _ h _ => e _ _ h
theorem Tups.trans {H H1 H2 : Hp} (a : Tups H H1) (b : Tups H1 H2) : Tups H H2 := fun _ _ h m => b _ _ (a _ _ h m) m
theorem tups_at {H H' : Hp} {p : Addr} {u : HO} (hp : H p = some u) (hm : mutO u = true) (ext : ∀ b o, H b = some o → b ≠ p → H' b = some o) : Tups H H' := fun b o e m => ext b o e fun z => by
  subst z; rw [e] at hp; cases hp; rw [hm] at m; cases m
theorem Tups.sq {K : PySem.W.Frag} {H H' : Hp} {a : Addr} {xs : List V} (e : Tups H H') (h : SqT K H a xs) : SqT K H' a xs := by
  rcases h with (h | ⟨o, h⟩) | h
  · exact .inl (.inl (e _ _ h rfl))
  · exact .inl (.inr ⟨o, e _ _ h rfl⟩)
  · exact .inr h
theorem Tups.ta {K : PySem.W.Frag} {H H' : Hp} {a : Addr} {xs : List V} (e : Tups H H') (h : TupA K H a xs) : TupA K H' a xs := h.imp (fun z => e _ _ z rfl) id
section
variable {K : PySem.W.Frag} {B B' H H' : Hp}
mutual
theorem Ip.mono (eB : Same B B') (eH : Tups H H') : ∀ {v : V} {d : D}, Ip K B H v d → Ip K B' H' v d
  | _, _, .non => .non
  | _, _, .bl b => .bl b
  | _, _, .int i => .int i
  | _, _, .str x => .str x
  | _, _, .adr a => .adr a
  | _, _, .ty n => .ty n
  | _, _, .tup h t => .tup (eH.ta h) (IpAll.mono eB eH t)
  | _, _, .fl h t => .fl (eH _ _ h rfl) (IpAll.mono eB eH t)
  | _, _, .obj h hl t => .obj (eH _ _ h rfl) hl (IpAll.mono eB eH t)
  | _, _, .lst h t => .lst (eB.seq h) (IpAll.mono eB eH t)
  | _, _, .tpx h d t => .tpx (eH _ _ h rfl) d (IpAll.mono eB eH t)
  | _, _, .exc h z f => .exc (eH _ _ h rfl) z f
theorem IpAll.mono (eB : Same B B') (eH : Tups H H') : ∀ {vs : List V} {ds : List D}, IpAll K B H vs ds → IpAll K B' H' vs ds
  | _, _, .nil => .nil
  | _, _, .cons h t => .cons (Ip.mono eB eH h) (IpAll.mono eB eH t)
end
theorem IpAll.length {vs : List V} {ds : List D} (h : IpAll K B H vs ds) : vs.length = ds.length := by
  induction ds generalizing vs with
  | nil => cases h; rfl
  | cons d ds ih => cases h with | cons a b => simp [ih b]
theorem IpAll.get {vs : List V} {ds : List D} (h : IpAll K B H vs ds) {i : Nat} {d : D} (e : ds[i]? = some d) : ∃ v, vs[i]? = some v ∧ Ip K B H v d := by
  induction ds generalizing vs i with
  | nil => simp at e
  | cons d0 ds ih =>
    cases h with
    | cons a b =>
      cases i with
      | zero => simp at e; subst e; exact ⟨_, rfl, a⟩
      | succ i => obtain ⟨v, h1, h2⟩ := ih b (i := i) (by simpa using e); exact ⟨v, by simpa using h1, h2⟩
theorem IpAll.getV {vs : List V} {ds : List D} (h : IpAll K B H vs ds) {i : Nat} {v : V} (e : vs[i]? = some v) : ∃ d, ds[i]? = some d ∧ Ip K B H v d := by
  induction ds generalizing vs i with
  | nil => cases h; simp at e
  | cons d0 ds ih =>
    cases h with
    | cons a b =>
      cases i with
      | zero => simp at e; subst e; exact ⟨_, rfl, a⟩
      | succ i => obtain ⟨v, h1, h2⟩ := ih b (i := i) (by simpa using e); exact ⟨v, by simpa using h1, h2⟩
theorem IpAll.append {vs ws : List V} {ds es : List D} (h : IpAll K B H vs ds) (h' : IpAll K B H ws es) : IpAll K B H (vs ++ ws) (ds ++ es) := by
  induction ds generalizing vs with
  | nil => cases h; exact h'
  | cons d ds ih => cases h with | cons a b => exact .cons a (ih b)
theorem IpAll.set {vs : List V} {ds : List D} (h : IpAll K B H vs ds) {v : V} {d : D} (hv : Ip K B H v d) (i : Nat) : IpAll K B H (vs.set i v) (ds.set i d) := by
  induction ds generalizing vs i with
  | nil => cases h; exact .nil
  | cons d0 ds ih =>
    cases h with
    | cons a b =>
      cases i with
      | zero => exact .cons hv b
      | succ i => exact .cons a (ih b i)
theorem IpAll.take {vs : List V} {ds : List D} (h : IpAll K B H vs ds) (n : Nat) : IpAll K B H (vs.take n) (ds.take n) := by
  induction ds generalizing vs n with
  | nil => cases h; simp; exact .nil
  | cons d0 ds ih =>
    cases h with
    | cons a b =>
      cases n with
      | zero => exact .nil
      | succ n => exact .cons a (ih b n)
theorem IpAll.drop {vs : List V} {ds : List D} (h : IpAll K B H vs ds) (n : Nat) : IpAll K B H (vs.drop n) (ds.drop n) := by
  induction ds generalizing vs n with
  | nil => cases h; simp; exact .nil
  | cons d0 ds ih =>
    cases h with
    | cons a b =>
      cases n with
      | zero => exact .cons a b
      | succ n => exact ih b n
theorem IpAll.eraseIdx {vs : List V} {ds : List D} (h : IpAll K B H vs ds) (n : Nat) : IpAll K B H (vs.eraseIdx n) (ds.eraseIdx n) := by
  induction ds generalizing vs n with
  | nil => cases h; simp; exact .nil
  | cons d0 ds ih =>
    cases h with
    | cons a b =>
      cases n with
      | zero => exact b
      | succ n => exact .cons a (ih b n)
theorem IpAll.dropLast {vs : List V} {ds : List D} (h : IpAll K B H vs ds) : IpAll K B H vs.dropLast ds.dropLast := by
  rw [List.dropLast_eq_take, List.dropLast_eq_take, h.length]
  exact h.take _
theorem IpAll.reverse {vs : List V} {ds : List D} (h : IpAll K B H vs ds) : IpAll K B H vs.reverse ds.reverse := by
  induction ds generalizing vs with
  | nil => cases h; exact .nil
  | cons d0 ds ih =>
    cases h with
    | cons a b =>
      rw [List.reverse_cons, List.reverse_cons]
      exact (ih b).append (.cons a .nil)
theorem IpAll.ints : ∀ (ns : List Int), IpAll K B H (ns.map V.int) (ns.map D.int)
  | [] => .nil
  | n :: ns => .cons (.int n) (IpAll.ints ns)
end

/-! ### data without lists -/
mutual
def D.nolist : D → Bool
  | .lst _ => false
  | .obj _ _ ds => D.nolists ds
  | .fl ds => D.nolists ds
  | .tpx ds => D.nolists ds
  | .tup ds => D.nolists ds
  | _ => true
def D.nolists : List D → Bool
  | [] => true
  | d :: ds => D.nolist d && D.nolists ds
end
section
variable {K : PySem.W.Frag} {B B' H : Hp}
mutual
theorem Ip.pure : ∀ {v : V} {d : D}, Ip K B H v d → d.nolist = true → Ip K B' H v d
  | _, _, .non, _ => .non
  | _, _, .bl b, _ => .bl b
  | _, _, .int i, _ => .int i
  | _, _, .str x, _ => .str x
  | _, _, .adr a, _ => .adr a
  | _, _, .ty n, _ => .ty n
  | _, _, .tup h t, e => .tup h (IpAll.pure t (by simpa [D.nolist] using e))
  | _, _, .lst h t, e => by simp [D.nolist] at e
  | _, _, .fl h t, e => .fl h (IpAll.pure t (by simpa [D.nolist] using e))
  | _, _, .obj h hl t, e => .obj h hl (IpAll.pure t (by simpa [D.nolist] using e))
  | _, _, .tpx h d t, e => .tpx h d (IpAll.pure t (by simpa [D.nolist] using e))
  | _, _, .exc h z f, _ => .exc h z f
theorem IpAll.pure : ∀ {vs : List V} {ds : List D}, IpAll K B H vs ds → D.nolists ds = true → IpAll K B' H vs ds
  | _, _, .nil, _ => .nil
  | _, _, .cons h t, e => by
    rw [D.nolists, Bool.and_eq_true] at e
    exact .cons (Ip.pure h e.1) (IpAll.pure t e.2)
end
end

/-! ### states -/
def isOwn : Option (Option Sl) → Bool
  | some (some (.own _)) => true
  | some (some (.inn _)) => true
  | some (some (.dic _)) => true
  | _ => false
/-- the list at b is some slot's own -/
def OwnAt (σ : St) (ρ : En) (b : Addr) : Prop := ∃ i : Nat, isOwn ρ[i]? = true ∧ σ[i]? = some (some (.ref b))
def OwnL (K : PySem.W.Frag) (B H : Hp) (v : V) (ds : List D) : Prop := ∃ p vs, v = V.ref p ∧ B p = none ∧ H p = some (.lst vs) ∧ IpAll K B H vs ds
/-- a dict of one's own -/
def kT (k : List Int) : List Key := k.map Sum.inl
def kI (k : List Int) : Key := Sum.inl (k.headD 0)
def Dc.ho (d : Dc) (vs : List V) : HO := if d.t = true then .dT ((d.l.map fun e => kT e.1).zip vs) else .dK ((d.l.map fun e => kI e.1).zip vs)
theorem Dc.mut (d : Dc) (vs : List V) : mutO (d.ho vs) = true := by
  unfold Dc.ho
  split <;> rfl
def OwnD (K : PySem.W.Frag) (B H : Hp) (v : V) (kvs : Dc) : Prop := ∃ p vs, v = V.ref p ∧ B p = none ∧ H p = some (kvs.ho vs) ∧ IpAll K B H vs (kvs.l.map (·.2))
def SlR (K : PySem.W.Frag) (B H : Hp) (v : V) : Sl → Prop
  | .dat d => Ip K B H v d
  | .own ds => OwnL K B H v ds
  | .inn ds => OwnL K B H v ds
  | .bor _ => False
  | .dic kvs => OwnD K B H v kvs
structure SR (K : PySem.W.Frag) (B : Hp) (σ : St) (ρ : En) (H : Hp) : Prop where
  len : σ.length = ρ.length
  sub : Same B H
  slot : ∀ (i : Nat) (sl : Sl), ρ[i]? = some (some sl) → ∃ v, σ[i]? = some (some v) ∧ SlR K B H v sl
  inj : ∀ (i j : Nat) (p : Addr), isOwn ρ[i]? = true → isOwn ρ[j]? = true → σ[i]? = some (some (.ref p)) → σ[j]? = some (some (.ref p)) → i = j
/-- from one state to a later one, the slots' values the same -/
structure Tr (σ : St) (B : Hp) (ρ : En) (H : Hp) (B' : Hp) (ρ' : En) (H' : Hp) : Prop where
  ext : ∀ b o, H b = some o → ¬ OwnAt σ ρ b → H' b = some o
  bex : Same B B'
  bnew : ∀ b, B' b ≠ none → B b ≠ none ∨ H b = none
  shp : ∀ i : Nat, isOwn ρ'[i]? = isOwn ρ[i]?
  shi : ∀ (i : Nat) (ds : List D), ρ[i]? = some (some (.inn ds)) → ∃ ds', ρ'[i]? = some (some (.inn ds'))
section
variable {K : PySem.W.Frag} {B B' B1 B2 H H' H1 H2 : Hp} {σ : St} {ρ ρ' ρ1 ρ2 : En}
theorem isOwn_some {ρ : En} {i : Nat} (h : isOwn ρ[i]? = true) : ∃ sl, ρ[i]? = some (some sl) ∧ ((∃ ds, sl = .own ds) ∨ (∃ ds, sl = .inn ds) ∨ ∃ kvs, sl = .dic kvs) := by
  cases e : ρ[i]? with
  | none => rw [e] at h; cases h
  | some o =>
    cases o with
    | none => rw [e] at h; cases h
    | some sl =>
      cases sl with
      | dat d => rw [e] at h; cases h
      | own ds => exact ⟨_, rfl, .inl ⟨ds, rfl⟩⟩
      | inn ds => exact ⟨_, rfl, .inr (.inl ⟨ds, rfl⟩)⟩
      | bor j => rw [e] at h; cases h
      | dic kvs => exact ⟨_, rfl, .inr (.inr ⟨kvs, rfl⟩)⟩
theorem SR.own (s : SR K B σ ρ H) {b : Addr} (h : OwnAt σ ρ b) : ∃ o, H b = some o ∧ B b = none ∧ mutO o = true := by
  obtain ⟨i, h1, h2⟩ := h
  obtain ⟨sl, e, q⟩ := isOwn_some h1
  obtain ⟨v, hv, r⟩ := s.slot i sl e
  rw [h2] at hv
  have ev : V.ref b = v := Option.some.inj (Option.some.inj hv)
  subst ev
  have lst : ∀ ds, OwnL K B H (.ref b) ds → ∃ o, H b = some o ∧ B b = none ∧ mutO o = true := fun ds ⟨p, vs, ep, hb, hp, _⟩ => by
    cases ep
    exact ⟨_, hp, hb, rfl⟩
  rcases q with ⟨ds, rfl⟩ | ⟨ds, rfl⟩ | ⟨kvs, rfl⟩
  · exact lst ds r
  · exact lst ds r
  · obtain ⟨p, vs, ep, hb, hp, _⟩ := r
    cases ep
    exact ⟨_, hp, hb, kvs.mut vs⟩
theorem Tr.refl (σ : St) (B : Hp) (ρ : En) (H : Hp) : Tr σ B ρ H B ρ H := ⟨fun _ _ h _ => h, Same.refl _, fun _ h => .inl h, fun _ => rfl, fun _ ds e => ⟨ds, e⟩⟩
theorem Tr.ownAt (t : Tr σ B ρ H B' ρ' H') {b : Addr} : OwnAt σ ρ' b ↔ OwnAt σ ρ b :=
  ⟨fun ⟨i, h1, h2⟩ => ⟨i, by rw [← t.shp i]; exact h1, h2⟩, fun ⟨i, h1, h2⟩ => ⟨i, by rw [t.shp i]; exact h1, h2⟩⟩
theorem Tr.tups (s : SR K B σ ρ H) (t : Tr σ B ρ H B' ρ' H') : Tups H H' := fun b o e m => t.ext b _ e fun z => (by
  obtain ⟨vs, q, _, m'⟩ := s.own z; rw [e] at q; cases q; rw [m] at m'; cases m')
theorem Tr.trans (s1 : SR K B1 σ ρ1 H1) (a : Tr σ B ρ H B1 ρ1 H1) (b : Tr σ B1 ρ1 H1 B2 ρ2 H2) : Tr σ B ρ H B2 ρ2 H2 where
  ext := fun c o h n => b.ext c o (a.ext c o h n) fun z => n (a.ownAt.mp z)
  bex := a.bex.trans b.bex
  bnew := fun c h => by
    rcases b.bnew c h with z | z
    · exact a.bnew c z
    · right
      cases q : H c with
      | none => rfl
      | some o =>
        exfalso
        by_cases n : OwnAt σ ρ c
        · obtain ⟨vs, e, _⟩ := s1.own (a.ownAt.mpr n)
          rw [z] at e; cases e
        · rw [a.ext c o q n] at z; cases z
  shp := fun i => (b.shp i).trans (a.shp i)
  shi := fun i ds e => by
    obtain ⟨d1, e1⟩ := a.shi i ds e
    exact b.shi i d1 e1
theorem Ip.step (s : SR K B σ ρ H) (t : Tr σ B ρ H B' ρ' H') {v : V} {d : D} (h : Ip K B H v d) : Ip K B' H' v d := h.mono t.bex (t.tups s)
theorem IpAll.step (s : SR K B σ ρ H) (t : Tr σ B ρ H B' ρ' H') {vs : List V} {ds : List D} (h : IpAll K B H vs ds) : IpAll K B' H' vs ds := h.mono t.bex (t.tups s)
end

/-- what an expression gives, H0 the heap ahead of it -/
def RvR (K : PySem.W.Frag) (B : Hp) (σ : St) (ρ : En) (H0 H : Hp) (v : V) : Sl → Prop
  | .dat d => Ip K B H v d
  | .own ds => ∃ p vs, v = V.ref p ∧ H0 p = none ∧ B p = none ∧ H p = some (.lst vs) ∧ IpAll K B H vs ds ∧ ¬ OwnAt σ ρ p
  | .inn _ => False
  | .bor i => isOwn ρ[i]? = true ∧ σ[i]? = some (some v)
  | .dic kvs => ∃ p vs, v = V.ref p ∧ H0 p = none ∧ B p = none ∧ H p = some (kvs.ho vs) ∧ IpAll K B H vs (kvs.l.map (·.2)) ∧ ¬ OwnAt σ ρ p
section
variable {K : PySem.W.Frag} {B B' B1 B2 H H' H0 H1 H2 : Hp} {σ : St} {ρ ρ' ρ1 ρ2 : En}
/-- a value waits while another expression is run -/
theorem RvR.lift (s : SR K B σ ρ H) (t : Tr σ B ρ H B' ρ' H') {v : V} {r : Sl} (h : RvR K B σ ρ H0 H v r) : RvR K B' σ ρ' H0 H' v r := by
  cases r with
  | dat d => exact Ip.step s t h
  | own ds =>
    obtain ⟨p, vs, e, f, nb, hp, ha, no⟩ := h
    refine ⟨p, vs, e, f, ?_, t.ext p _ hp no, IpAll.step s t ha, fun z => no (t.ownAt.mp z)⟩
    cases q : B' p with
    | none => rfl
    | some o =>
      exfalso
      rcases t.bnew p (by rw [q]; simp) with z | z
      · exact z nb
      · rw [hp] at z; cases z
  | inn ds => exact h
  | bor i => exact ⟨by rw [t.shp i]; exact h.1, h.2⟩
  | dic kvs =>
    obtain ⟨p, vs, e, f, nb, hp, ha, no⟩ := h
    refine ⟨p, vs, e, f, ?_, t.ext p _ hp no, IpAll.step s t ha, fun z => no (t.ownAt.mp z)⟩
    cases q : B' p with
    | none => rfl
    | some o =>
      exfalso
      rcases t.bnew p (by rw [q]; simp) with z | z
      · exact z nb
      · rw [hp] at z; cases z
end

/-! ### an expression's meaning without the heap -/
/-- what is wanted: of a value and the env behind it; of an exception's class -/
abbrev EW := En → (Sl → En → Prop) → (Value → En → Prop) → Prop
abbrev TWs := En → (Bool → En → Prop) → (Value → En → Prop) → Prop
abbrev AW := En → (List Sl → En → Prop) → (Value → En → Prop) → Prop

/-- the wish about exceptions, from the data's -/
def XWof (K : PySem.W.Frag) (W : WX) (σ : St) (B : Hp) (ρ : En) (H : Hp) (Xw : Value → En → Prop) : Prop :=
  ∀ (c : Value) (B' : Hp) (ρ' : En) (H' : Hp), SR K B' σ ρ' H' → Tr σ B ρ H B' ρ' H' → Xw c ρ' → W c none σ H'

def SimE (K : PySem.W.Frag) (W : WX) (t : TE) (w : EW) : Prop := ∀ (B : Hp) (σ : St) (ρ : En) (H : Hp) (Qw : Sl → En → Prop) (Xw : Value → En → Prop) (Q : VK), SR K B σ ρ H → w ρ Qw Xw → XWof K W σ B ρ H Xw →
  (∀ v r B' ρ' H', SR K B' σ ρ' H' → Tr σ B ρ H B' ρ' H' → RvR K B' σ ρ' H H' v r → Qw r ρ' → Q v H') → t σ H Q
def SimT (K : PySem.W.Frag) (W : WX) (t : TT) (w : TWs) : Prop := ∀ (B : Hp) (σ : St) (ρ : En) (H : Hp) (Qw : Bool → En → Prop) (Xw : Value → En → Prop) (Q : Bool → Hp → Prop), SR K B σ ρ H → w ρ Qw Xw → XWof K W σ B ρ H Xw →
  (∀ b B' ρ' H', SR K B' σ ρ' H' → Tr σ B ρ H B' ρ' H' → Qw b ρ' → Q b H') → t σ H Q
/-- several, each behind the one ahead: H0, H1 .. the heaps between them -/
inductive RvAll (K : PySem.W.Frag) (B : Hp) (σ : St) (ρ : En) (H : Hp) : Hp → List V → List Sl → Prop
  | nil {H0} : RvAll K B σ ρ H H0 [] []
  | cons {H0 H1 v vs r rs} : RvR K B σ ρ H0 H v r → (∀ b, H1 b = none → H0 b = none) → (∀ p ds, r = .own ds → v = .ref p → H1 p ≠ none) → RvAll K B σ ρ H H1 vs rs → RvAll K B σ ρ H H0 (v :: vs) (r :: rs)
def SimA (K : PySem.W.Frag) (W : WX) (t : TA) (w : AW) : Prop := ∀ (B : Hp) (σ : St) (ρ : En) (H : Hp) (Qw : List Sl → En → Prop) (Xw : Value → En → Prop) (Q : List V → Hp → Prop), SR K B σ ρ H → w ρ Qw Xw → XWof K W σ B ρ H Xw →
  (∀ vs rs B' ρ' H', SR K B' σ ρ' H' → Tr σ B ρ H B' ρ' H' → RvAll K B' σ ρ' H' H vs rs → Qw rs ρ' → Q vs H') → t σ H Q

structure DE (X : Cx) (W : WX) (e : Expr) (w : EW) : Prop where
  ok : ∃ t, PE X e t ∧ SimE X.K W t w
structure DT (X : Cx) (W : WX) (e : Expr) (w : TWs) : Prop where
  ok : ∃ t, PT X e t ∧ SimT X.K W t w
structure DA (X : Cx) (W : WX) (es : List Expr) (w : AW) : Prop where
  ok : ∃ t, PA X es t ∧ SimA X.K W t w
end DL

set_option Elab.async false
set_option linter.all false
set_option maxRecDepth 100000
set_option maxHeartbeats 4000000
/-! DLb: expressions. -/
namespace DL
open PySem L2

/-! ### what is read of a value -/
def cont (ρ : En) : Sl → Option D
  | .dat d => some d
  | .own ds => some (.lst ds)
  | .inn _ => none
  | .bor i => match ρ[i]? with
    | some (some (.own ds)) => some (.lst ds)
    | some (some (.inn ds)) => some (.lst ds)
    | _ => none
  | .dic _ => none
def withC (ρ : En) (r : Sl) (k : D → Prop) : Prop := match cont ρ r with
  | some d => k d
  | none => False
def conts (ρ : En) : List Sl → Option (List D)
  | [] => some []
  | r :: rs => match cont ρ r, conts ρ rs with
    | some d, some ds => some (d :: ds)
    | _, _ => none
def withCs (ρ : En) (rs : List Sl) (k : List D → Prop) : Prop := match conts ρ rs with
  | some ds => k ds
  | none => False
theorem withC_some {ρ : En} {r : Sl} {k : D → Prop} (h : withC ρ r k) : ∃ d, cont ρ r = some d ∧ k d := by
  unfold withC at h
  cases e : cont ρ r with
  | none => rw [e] at h; exact h.elim
  | some d => rw [e] at h; exact ⟨d, rfl, h⟩
theorem withCs_some {ρ : En} {rs : List Sl} {k : List D → Prop} (h : withCs ρ rs k) : ∃ ds, conts ρ rs = some ds ∧ k ds := by
  unfold withCs at h
  cases e : conts ρ rs with
  | none => rw [e] at h; exact h.elim
  | some d => rw [e] at h; exact ⟨d, rfl, h⟩

/-- readable: a list at the top may be anybody's -/
def RdB (K : PySem.W.Frag) (B H : Hp) (v : V) : D → Prop
  | .lst ds => ∃ a xs, v = V.ref a ∧ SqL K H a xs ∧ IpAll K B H xs ds
  | d => Ip K B H v d
inductive RdAll (K : PySem.W.Frag) (B H : Hp) : List V → List D → Prop
  | nil : RdAll K B H [] []
  | cons {v vs d ds} : RdB K B H v d → RdAll K B H vs ds → RdAll K B H (v :: vs) (d :: ds)

section
variable {K : PySem.W.Frag} {B B' B1 B2 H H' H0 H1 H2 : Hp} {σ : St} {ρ ρ' ρ1 ρ2 : En} {v : V} {r : Sl} {d : D}
theorem Ip.rd (sub : Same B H) (h : Ip K B H v d) : RdB K B H v d := by
  cases d with
  | lst ds =>
    cases h with
    | lst a b => exact ⟨_, _, rfl, sub.seq a, b⟩
  | _ => exact h
theorem SR.bor (s : SR K B σ ρ H) {i : Nat} {ds : List D} (e : ρ[i]? = some (some (.own ds)) ∨ ρ[i]? = some (some (.inn ds))) (hv : σ[i]? = some (some v)) : OwnL K B H v ds := by
  rcases e with e | e
  · obtain ⟨u, hu, r⟩ := s.slot i _ e
    rw [hv] at hu; cases hu; exact r
  · obtain ⟨u, hu, r⟩ := s.slot i _ e
    rw [hv] at hu; cases hu; exact r
theorem cont_bor {ρ : En} {i : Nat} {d : D} (h : cont ρ (.bor i) = some d) : ∃ ds, d = .lst ds ∧ (ρ[i]? = some (some (.own ds)) ∨ ρ[i]? = some (some (.inn ds))) := by
  have h : (match ρ[i]? with
    | some (some (.own ds)) => some (D.lst ds)
    | some (some (.inn ds)) => some (D.lst ds)
    | _ => none) = some d := h
  cases e : ρ[i]? with
  | none => rw [e] at h; cases h
  | some o =>
    rw [e] at h
    cases o with
    | none => cases h
    | some sl =>
      cases sl with
      | dat d => cases h
      | own ds => exact ⟨ds, (Option.some.inj h).symm, .inl rfl⟩
      | inn ds => exact ⟨ds, (Option.some.inj h).symm, .inr rfl⟩
      | bor j => cases h
      | dic kvs => cases h
theorem RvR.rd (s : SR K B σ ρ H) (h : RvR K B σ ρ H0 H v r) (e : cont ρ r = some d) : RdB K B H v d := by
  cases r with
  | dat d' =>
    have e' : d' = d := Option.some.inj e
    subst e'
    exact Ip.rd s.sub h
  | own ds =>
    have e' : D.lst ds = d := Option.some.inj e
    subst e'
    obtain ⟨p, vs, ev, _, _, hp, ha, _⟩ := h
    exact ⟨p, vs, ev, .inl (.inl hp), ha⟩
  | inn ds => cases e
  | dic kvs => cases e
  | bor i =>
    obtain ⟨ds, rfl, q⟩ := cont_bor e
    obtain ⟨p, vs, ev, _, hp, ha⟩ := s.bor q h.2
    exact ⟨p, vs, ev, .inl (.inl hp), ha⟩
theorem RvAll.rd (s : SR K B σ ρ H) {vs : List V} {rs : List Sl} (h : RvAll K B σ ρ H H0 vs rs) : ∀ {ds : List D}, conts ρ rs = some ds → RdAll K B H vs ds := by
  induction h with
  | nil => intro ds e; cases e; exact .nil
  | @cons H0 H1 v vs r rs h1 h2 h3 h4 ih =>
    intro ds e
    unfold conts at e
    cases e1 : cont ρ r with
    | none => rw [e1] at e; cases e
    | some d =>
      cases e2 : conts ρ rs with
      | none => rw [e1, e2] at e; cases e
      | some ds' =>
        rw [e1, e2] at e
        cases e
        exact .cons (h1.rd s e1) (ih e2)

/-! ### what a primitive gives -/
def RvV (K : PySem.W.Frag) (B H H' : Hp) (v : V) : Sl → Prop
  | .dat d => Ip K B H' v d
  | .own ds => ∃ p vs, v = V.ref p ∧ H p = none ∧ H' p = some (.lst vs) ∧ IpAll K B H' vs ds
  | .dic kvs => ∃ p vs, v = V.ref p ∧ H p = none ∧ H' p = some (kvs.ho vs) ∧ IpAll K B H' vs (kvs.l.map (·.2))
  | _ => False
theorem SR.same (s : SR K B σ ρ H) (e : Same H H') : SR K B σ ρ H' where
  len := s.len
  sub := s.sub.trans e
  slot := fun i sl h => by
    obtain ⟨v, hv, r⟩ := s.slot i sl h
    refine ⟨v, hv, ?_⟩
    cases sl with
    | dat d => exact Ip.mono (Same.refl B) (Tups.of e) r
    | own ds => obtain ⟨p, vs, a, b, c, dd⟩ := r; exact ⟨p, vs, a, b, e _ _ c, dd.mono (Same.refl B) (Tups.of e)⟩
    | inn ds => obtain ⟨p, vs, a, b, c, dd⟩ := r; exact ⟨p, vs, a, b, e _ _ c, dd.mono (Same.refl B) (Tups.of e)⟩
    | bor i => exact r.elim
    | dic kvs => obtain ⟨p, vs, a, b, c, dd⟩ := r; exact ⟨p, vs, a, b, e _ _ c, dd.mono (Same.refl B) (Tups.of e)⟩
  inj := s.inj
theorem Tr.same (e : Same H H') : Tr σ B ρ H B ρ H' := ⟨fun _ _ h _ => e _ _ h, Same.refl _, fun _ h => .inl h, fun _ => rfl, fun _ ds e => ⟨ds, e⟩⟩
theorem Same.bnone (s : Same B H) {p : Addr} (h : H p = none) : B p = none := by
  cases q : B p with
  | none => rfl
  | some o => rw [s p o q] at h; cases h
theorem RvV.rv (s : SR K B σ ρ H) (e : Same H H') (h : RvV K B H H' v r) : RvR K B σ ρ H H' v r := by
  cases r with
  | dat d => exact h
  | own ds =>
    obtain ⟨p, vs, a, b, c, dd⟩ := h
    exact ⟨p, vs, a, b, Same.bnone s.sub b, c, dd, fun z => by obtain ⟨ws, q, _⟩ := s.own z; rw [b] at q; cases q⟩
  | inn ds => exact h.elim
  | bor i => exact h.elim
  | dic kvs =>
    obtain ⟨p, vs, a, b, c, dd⟩ := h
    exact ⟨p, vs, a, b, Same.bnone s.sub b, c, dd, fun z => by obtain ⟨ws, q, _⟩ := s.own z; rw [b] at q; cases q⟩
theorem Tr.free (s' : SR K B' σ ρ' H') (t : Tr σ B ρ H B' ρ' H') {b : Addr} (h : H' b = none) : H b = none := by
  cases q : H b with
  | none => rfl
  | some o =>
    by_cases n : OwnAt σ ρ b
    · obtain ⟨vs, e, _⟩ := s'.own (t.ownAt.mpr n)
      rw [h] at e; cases e
    · rw [t.ext b o q n] at h; cases h
/-- the heap ahead may be an elder one -/
theorem RvR.early (s1 : SR K B1 σ ρ1 H1) (t : Tr σ B ρ H B1 ρ1 H1) (h : RvR K B2 σ ρ2 H1 H2 v r) : RvR K B2 σ ρ2 H H2 v r := by
  cases r with
  | own ds => obtain ⟨p, vs, a, b, c⟩ := h; exact ⟨p, vs, a, t.free s1 b, c⟩
  | dic kvs => obtain ⟨p, vs, a, b, c⟩ := h; exact ⟨p, vs, a, t.free s1 b, c⟩
  | _ => exact h
theorem XWof.lift {W : WX} {Xw : Value → En → Prop} (s1 : SR K B1 σ ρ1 H1) (t : Tr σ B ρ H B1 ρ1 H1) (h : XWof K W σ B ρ H Xw) : XWof K W σ B1 ρ1 H1 Xw :=
  fun c B' ρ' H' s' t' q => h c B' ρ' H' s' (t.trans s1 t') q
end

/-! ### primitives: soundness of a reading -/
def PP (K : PySem.W.Frag) (B H : Hp) (Qw : Sl → Prop) (Q : VK) : Prop := ∀ v sl H', Same H H' → RvV K B H H' v sl → Qw sl → Q v H'
abbrev G2 := D → D → (Sl → Prop) → Prop
abbrev G1 := D → (Sl → Prop) → Prop
abbrev GN := List D → (Sl → Prop) → Prop
def OpS (K : PySem.W.Frag) (r : R2) (g : G2) : Prop := ∀ (B H : Hp) (x y : V) (d e : D) (Qw : Sl → Prop) (Q : VK), Same B H → RdB K B H x d → RdB K B H y e → g d e Qw → PP K B H Qw Q → r x y H Q
def UnS (K : PySem.W.Frag) (r : V → Hp → VK → Prop) (g : G1) : Prop := ∀ (B H : Hp) (x : V) (d : D) (Qw : Sl → Prop) (Q : VK), Same B H → RdB K B H x d → g d Qw → PP K B H Qw Q → r x H Q
def CallS (K : PySem.W.Frag) (r : List V → Hp → VK → Prop) (g : GN) : Prop := ∀ (B H : Hp) (xs : List V) (ds : List D) (Qw : Sl → Prop) (Q : VK), Same B H → RdAll K B H xs ds → g ds Qw → PP K B H Qw Q → r xs H Q
theorem OpS.or {K : PySem.W.Frag} {r r' : R2} {g g' : G2} (h : OpS K r g) (h' : OpS K r' g') : OpS K (fun x y H Q => r x y H Q ∨ r' x y H Q) (fun d e Q => g d e Q ∨ g' d e Q) :=
  fun B H x y d e Qw Q s a b q p => q.elim (fun q => .inl (h B H x y d e Qw Q s a b q p)) fun q => .inr (h' B H x y d e Qw Q s a b q p)
theorem CallS.or {K : PySem.W.Frag} {r r' : List V → Hp → VK → Prop} {g g' : GN} (h : CallS K r g) (h' : CallS K r' g') : CallS K (fun x H Q => r x H Q ∨ r' x H Q) (fun d Q => g d Q ∨ g' d Q) :=
  fun B H x d Qw Q s a q p => q.elim (fun q => .inl (h B H x d Qw Q s a q p)) fun q => .inr (h' B H x d Qw Q s a q p)

/-! ### expressions -/
def wVar (i : Nat) : EW := fun ρ Q _ => match ρ[i]? with
  | some (some (.dat d)) => Q (.dat d) ρ
  | some (some (.own _)) => Q (.bor i) ρ
  | some (some (.inn _)) => Q (.bor i) ρ
  | some (some (.dic _)) => Q (.bor i) ρ
  | _ => False
def wC (d : D) : EW := fun ρ Q _ => Q (.dat d) ρ
def wOp (g : G2) (wa wb : EW) : EW := fun ρ Q X => wa ρ (fun a ρ1 => wb ρ1 (fun b ρ2 => withC ρ2 a fun d => withC ρ2 b fun e => g d e fun r => Q r ρ2) X) X
def wUn (g : G1) (wa : EW) : EW := fun ρ Q X => wa ρ (fun a ρ1 => withC ρ1 a fun d => g d fun r => Q r ρ1) X
def wNil : AW := fun ρ Q _ => Q [] ρ
def wCons (wa : EW) (wr : AW) : AW := fun ρ Q X => wa ρ (fun a ρ1 => wr ρ1 (fun rs ρ2 => Q (a :: rs) ρ2) X) X
def wCB (g : GN) (wa : AW) : EW := fun ρ Q X => wa ρ (fun rs ρ1 => withCs ρ1 rs fun ds => g ds fun r => Q r ρ1) X

section
variable {K : PySem.W.Frag} {W : WX}
theorem sim_var (i : Nat) : SimE K W (tVar i) (wVar i) := by
  intro B σ ρ H Qw Xw Q s h hx q
  unfold wVar at h
  cases e : ρ[i]? with
  | none => rw [e] at h; exact h.elim
  | some o =>
    rw [e] at h
    cases o with
    | none => exact h.elim
    | some sl =>
      obtain ⟨v, hv, r⟩ := s.slot i sl e
      cases sl with
      | dat d => exact ⟨v, hv, q v (.dat d) B ρ H s (Tr.refl ..) r h⟩
      | own ds => exact ⟨v, hv, q v (.bor i) B ρ H s (Tr.refl ..) ⟨by rw [e]; rfl, hv⟩ h⟩
      | inn ds => exact ⟨v, hv, q v (.bor i) B ρ H s (Tr.refl ..) ⟨by rw [e]; rfl, hv⟩ h⟩
      | dic kvs => exact ⟨v, hv, q v (.bor i) B ρ H s (Tr.refl ..) ⟨by rw [e]; rfl, hv⟩ h⟩
      | bor j => exact h.elim
theorem sim_c {v : V} {d : D} (h : ∀ B H, Ip K B H v d) : SimE K W (tC v) (wC d) :=
  fun B σ ρ H Qw Xw Q s hw hx q => q v (.dat d) B ρ H s (Tr.refl ..) (h B H) hw
theorem sim_op {r : R2} {g : G2} {ta tb : TE} {wa wb : EW} (o : OpS K r g) (ha : SimE K W ta wa) (hb : SimE K W tb wb) : SimE K W (tOp r ta tb) (wOp g wa wb) := by
  intro B σ ρ H Qw Xw Q s h hx q
  refine ha B σ ρ H _ Xw _ s h hx fun v r1 B1 ρ1 H1 s1 t1 rv1 q1 => ?_
  refine hb B1 σ ρ1 H1 _ Xw _ s1 q1 (hx.lift s1 t1) fun u r2 B2 ρ2 H2 s2 t2 rv2 q2 => ?_
  obtain ⟨d, e1, q2⟩ := withC_some q2
  obtain ⟨e, e2, q2⟩ := withC_some q2
  have t12 := t1.trans s1 t2
  refine o B2 H2 v u d e _ Q s2.sub ((rv1.lift s1 t2).rd s2 e1) (rv2.rd s2 e2) q2 fun z sl H' sm rv qq => ?_
  exact q z sl B2 ρ2 H' (s2.same sm) (t12.trans s2 (Tr.same sm)) ((rv.rv s2 sm).early s2 t12) qq
theorem sim_un {r : V → Hp → VK → Prop} {g : G1} {ta : TE} {wa : EW} (o : UnS K r g) (ha : SimE K W ta wa) : SimE K W (tUn r ta) (wUn g wa) := by
  intro B σ ρ H Qw Xw Q s h hx q
  refine ha B σ ρ H _ Xw _ s h hx fun v r1 B1 ρ1 H1 s1 t1 rv1 q1 => ?_
  obtain ⟨d, e1, q1⟩ := withC_some q1
  refine o B1 H1 v d _ Q s1.sub (rv1.rd s1 e1) q1 fun z sl H' sm rv qq => ?_
  exact q z sl B1 ρ1 H' (s1.same sm) (t1.trans s1 (Tr.same sm)) ((rv.rv s1 sm).early s1 t1) qq
theorem sim_nil : SimA K W tNil wNil := fun B σ ρ H Qw Xw Q s h hx q => q [] [] B ρ H s (Tr.refl ..) .nil h
theorem sim_cons {ta : TE} {tr : TA} {wa : EW} {wr : AW} (ha : SimE K W ta wa) (hr : SimA K W tr wr) : SimA K W (tCons ta tr) (wCons wa wr) := by
  intro B σ ρ H Qw Xw Q s h hx q
  refine ha B σ ρ H _ Xw _ s h hx fun v r1 B1 ρ1 H1 s1 t1 rv1 q1 => ?_
  refine hr B1 σ ρ1 H1 _ Xw _ s1 q1 (hx.lift s1 t1) fun vs rs B2 ρ2 H2 s2 t2 rv2 q2 => ?_
  refine q (v :: vs) (r1 :: rs) B2 ρ2 H2 s2 (t1.trans s1 t2) (.cons (rv1.lift s1 t2) (fun b hb => t1.free s1 hb) (fun p ds e1 e2 => ?_) rv2) q2
  subst e1
  obtain ⟨p', vs', e, _, _, hp, _⟩ := rv1
  rw [e2] at e; cases e
  rw [hp]; simp
theorem sim_cb {r : List V → Hp → VK → Prop} {g : GN} {ta : TA} {wa : AW} (o : CallS K r g) (ha : SimA K W ta wa) : SimE K W (tCB r ta) (wCB g wa) := by
  intro B σ ρ H Qw Xw Q s h hx q
  refine ha B σ ρ H _ Xw _ s h hx fun vs rs B1 ρ1 H1 s1 t1 rv1 q1 => ?_
  obtain ⟨ds, e1, q1⟩ := withCs_some q1
  refine o B1 H1 vs ds _ Q s1.sub (rv1.rd s1 e1) q1 fun z sl H' sm rv qq => ?_
  exact q z sl B1 ρ1 H' (s1.same sm) (t1.trans s1 (Tr.same sm)) ((rv.rv s1 sm).early s1 t1) qq
end

section
variable {X : Cx} {W : WX} {a b e : Expr} {es : List Expr} {wa wb : EW} {wr : AW} {pos p : Pos}
theorem de_var (i : Nat) {x : Str} (hN : X.N[i]? = some x := by rfl) (hv : Vis X.env.scope x := by first | exact Or.inl rfl | exact Or.inr (Or.inl rfl) | exact Or.inr (Or.inr rfl)) (hd : (x == ("__debug__" : Str)) = false := by decide)
    (hcd : (x == ("__classdict__" : Str)) = false := by decide) : DE X W (.Name x pos) (wVar i) := ⟨_, pe_var hN hv hd hcd, sim_var i⟩
theorem de_int {i j} : DE X W (.Constant (.int i) j pos) (wC (.int i)) := ⟨_, pe_int, sim_c fun _ _ => .int i⟩
theorem de_bl {i j} : DE X W (.Constant (.bool i) j pos) (wC (.bl i)) := ⟨_, pe_bl, sim_c fun _ _ => .bl i⟩
theorem de_non {j} : DE X W (.Constant .none j pos) (wC .non) := ⟨_, pe_non, sim_c fun _ _ => .non⟩
theorem de_str {i j} : DE X W (.Constant (.str i) j pos) (wC (.str i)) := ⟨_, pe_str, sim_c fun _ _ => .str i⟩
theorem de_op {op : Operator} {r : R2} {g : G2} (ho : OpR X (binaryOp op) r) (o : OpS X.K r g) (ha : DE X W a wa) (hb : DE X W b wb) : DE X W (.BinOp a op b pos) (wOp g wa wb) := by
  obtain ⟨ta, pa, sa⟩ := ha.ok
  obtain ⟨tb, pb, sb⟩ := hb.ok
  exact ⟨_, pe_op ho pa pb, sim_op o sa sb⟩
theorem de_un {op : UnaryOp} {r : V → Hp → VK → Prop} {g : G1} (ho : UnR X (unaryOp op) r) (o : UnS X.K r g) (ha : DE X W a wa) : DE X W (.UnaryOp op a pos) (wUn g wa) := by
  obtain ⟨ta, pa, sa⟩ := ha.ok
  exact ⟨_, pe_un ho pa, sim_un o sa⟩
theorem de_cmp {op : CmpOp} {r : R2} {g : G2} (ho : OpR X (compareOp op) r) (o : OpS X.K r g) (ha : DE X W a wa) (hb : DE X W b wb) (hm : behindInMarks op b = false) : DE X W (.Compare a [op] [b] pos) (wOp g wa wb) := by
  obtain ⟨ta, pa, sa⟩ := ha.ok
  obtain ⟨tb, pb, sb⟩ := hb.ok
  exact ⟨_, pe_cmpR ho pa pb hm, sim_op o sa sb⟩
theorem da_nil : DA X W [] wNil := ⟨_, pa_nil, sim_nil⟩
theorem da_cons (ha : DE X W e wa) (hr : DA X W es wr) (hs : starEach (e :: es) X.env = (false, eval e X.env) :: starEach es X.env := by rfl) : DA X W (e :: es) (wCons wa wr) := by
  obtain ⟨ta, pa, sa⟩ := ha.ok
  obtain ⟨tr, pr, sr⟩ := hr.ok
  exact ⟨_, pa_cons pa pr hs, sim_cons sa sr⟩
theorem de_cb {x : Str} {id : String} {r : List V → Hp → VK → Prop} {g : GN} (hc : CallR X (.builtin id) r) (o : CallS X.K r g) (hg : Gl X x) (hm : X.mg x = none) (hv : bootBuiltins x = some (.builtin id)) (ha : DA X W (e :: es) wr) (hn : x ≠ "__name__" := by decide) (hdb : (x == ("__debug__" : Str)) = false := by decide)
    (he : starEach (e :: es) X.env = (false, eval e X.env) :: starEach es X.env := by rfl) (hpl : (backTo pos (starEach es X.env)).any (·.1) = false := by rfl) : DE X W (.Call (.Name x p) (e :: es) [] pos) (wCB g wr) := by
  obtain ⟨ta, pa, sa⟩ := ha.ok
  exact ⟨_, pe_callB hc hg hm hv pa hn hdb he hpl, sim_cb o sa⟩
theorem de_ct {x : Str} {T : String} {r : List V → Hp → VK → Prop} {g : GN} (hc : CallR X (.type T) r) (o : CallS X.K r g) (hg : Gl X x) (hm : X.mg x = none) (hv : bootBuiltins x = some (.type T)) (ha : DA X W (e :: es) wr) (hn : x ≠ "__name__" := by decide) (hdb : (x == ("__debug__" : Str)) = false := by decide)
    (he : starEach (e :: es) X.env = (false, eval e X.env) :: starEach es X.env := by rfl) (hpl : (backTo pos (starEach es X.env)).any (·.1) = false := by rfl) : DE X W (.Call (.Name x p) (e :: es) [] pos) (wCB g wr) := by
  obtain ⟨ta, pa, sa⟩ := ha.ok
  exact ⟨_, pe_callTy hc hg hm hv pa hn hdb he hpl, sim_cb o sa⟩
end
end DL

set_option Elab.async false
set_option linter.all false
set_option maxRecDepth 100000
set_option maxHeartbeats 4000000
/-! DLc: tests, displays, calls of defs, changes of one's own lists. -/
namespace DL
open PySem L2

/-! ### tests -/
def wTru (wa : EW) : TWs := fun ρ Q X => wa ρ (fun a ρ1 => withC ρ1 a fun d => match d with
  | .bl b => Q b ρ1
  | .non => Q false ρ1
  | .int i => Q (i != 0) ρ1
  | .tup ds => Q (!ds.isEmpty) ρ1
  | .lst ds => Q (!ds.isEmpty) ρ1
  | _ => False) X
def wAnd (wa wb : TWs) : TWs := fun ρ Q X => wa ρ (fun c ρ1 => if c = true then wb ρ1 Q X else Q false ρ1) X
def wOr (wa wb : TWs) : TWs := fun ρ Q X => wa ρ (fun c ρ1 => if c = true then Q true ρ1 else wb ρ1 Q X) X
def wNot (wa : TWs) : TWs := fun ρ Q X => wa ρ (fun c ρ1 => Q (!c) ρ1) X
def wIfE (wc : TWs) (wa wb : EW) : EW := fun ρ Q X => wc ρ (fun c ρ1 => if c = true then wa ρ1 Q X else wb ρ1 Q X) X
section
variable {K : PySem.W.Frag} {W : WX}
theorem IpAll.isEmpty {B H : Hp} {vs : List V} {ds : List D} (h : IpAll K B H vs ds) : (!ds.isEmpty) = !vs.isEmpty := by
  cases h <;> rfl
theorem sim_tru {ta : TE} {wa : EW} (ha : SimE K W ta wa) : SimT K W (fun σ H Q => ta σ H fun x H' => ∃ k, TruV K x H' k ∧ Q k H') (wTru wa) := by
  intro B σ ρ H Qw Xw Q s h hx q
  refine ha B σ ρ H _ Xw _ s h hx fun v r1 B1 ρ1 H1 s1 t1 rv1 q1 => ?_
  obtain ⟨d, e1, q1⟩ := withC_some q1
  have rd := rv1.rd s1 e1
  cases d with
  | bl b => cases rd; exact ⟨b, rfl, q _ _ _ _ s1 t1 q1⟩
  | non => cases rd; exact ⟨false, rfl, q _ _ _ _ s1 t1 q1⟩
  | int i => cases rd; exact ⟨_, rfl, q _ _ _ _ s1 t1 q1⟩
  | tup ds => cases rd with | tup hh hd => exact ⟨_, .inr (.inl ⟨_, hh.sq, hd.isEmpty⟩), q _ _ _ _ s1 t1 q1⟩
  | lst ds => obtain ⟨a, xs, rfl, hh, hd⟩ := rd; exact ⟨_, .inl ⟨_, hh, hd.isEmpty⟩, q _ _ _ _ s1 t1 q1⟩
  | str x => exact q1.elim
  | adr x => exact q1.elim
  | ty x => exact q1.elim
  | obj _ _ _ => exact q1.elim
  | fl _ => exact q1.elim
  | tpx _ => exact q1.elim
  | exc _ => exact q1.elim
theorem sim_trub {t : TE} {wa : EW} (ha : SimE K W t wa) : SimT K W (tTest t) (fun ρ Q X => wa ρ (fun a ρ1 => match a with | .dat (.bl b) => Q b ρ1 | _ => False) X) := by
  intro B σ ρ H Qw Xw Q s h hx q
  refine ha B σ ρ H _ Xw _ s h hx fun v r1 B1 ρ1 H1 s1 t1 rv1 q1 => ?_
  cases r1 with
  | dat d =>
    cases d with
    | bl b => cases rv1; exact ⟨b, rfl, q _ _ _ _ s1 t1 q1⟩
    | _ => exact q1.elim
  | _ => exact q1.elim
theorem sim_and {ta tb : TT} {wa wb : TWs} (ha : SimT K W ta wa) (hb : SimT K W tb wb) : SimT K W (tAnd ta tb) (wAnd wa wb) := by
  intro B σ ρ H Qw Xw Q s h hx q
  refine ha B σ ρ H _ Xw _ s h hx fun c B1 ρ1 H1 s1 t1 q1 => ?_
  cases c with
  | true => exact hb B1 σ ρ1 H1 Qw Xw Q s1 q1 (hx.lift s1 t1) fun b B2 ρ2 H2 s2 t2 q2 => q b B2 ρ2 H2 s2 (t1.trans s1 t2) q2
  | false => exact q _ _ _ _ s1 t1 q1
theorem sim_or {ta tb : TT} {wa wb : TWs} (ha : SimT K W ta wa) (hb : SimT K W tb wb) : SimT K W (tOr ta tb) (wOr wa wb) := by
  intro B σ ρ H Qw Xw Q s h hx q
  refine ha B σ ρ H _ Xw _ s h hx fun c B1 ρ1 H1 s1 t1 q1 => ?_
  cases c with
  | false => exact hb B1 σ ρ1 H1 Qw Xw Q s1 q1 (hx.lift s1 t1) fun b B2 ρ2 H2 s2 t2 q2 => q b B2 ρ2 H2 s2 (t1.trans s1 t2) q2
  | true => exact q _ _ _ _ s1 t1 q1
theorem sim_not {ta : TT} {wa : TWs} (ha : SimT K W ta wa) : SimT K W (tNot ta) (wNot wa) := by
  intro B σ ρ H Qw Xw Q s h hx q
  exact ha B σ ρ H _ Xw _ s h hx fun c B1 ρ1 H1 s1 t1 q1 => q _ _ _ _ s1 t1 q1
theorem sim_ifE {tc : TT} {wc : TWs} {ta tb : TE} {wa wb : EW} (hc : SimT K W tc wc) (ha : SimE K W ta wa) (hb : SimE K W tb wb) : SimE K W (tIf tc ta tb) (wIfE wc wa wb) := by
  intro B σ ρ H Qw Xw Q s h hx q
  refine hc B σ ρ H _ Xw _ s h hx fun c B1 ρ1 H1 s1 t1 q1 => ?_
  cases c with
  | true => exact ha B1 σ ρ1 H1 Qw Xw Q s1 q1 (hx.lift s1 t1) fun v r B2 ρ2 H2 s2 t2 rv q2 => q v r B2 ρ2 H2 s2 (t1.trans s1 t2) (rv.early s1 t1) q2
  | false => exact hb B1 σ ρ1 H1 Qw Xw Q s1 q1 (hx.lift s1 t1) fun v r B2 ρ2 H2 s2 t2 rv q2 => q v r B2 ρ2 H2 s2 (t1.trans s1 t2) (rv.early s1 t1) q2
/-- a test as a value: True or False -/
def wBv (w : TWs) : EW := fun ρ Q X => w ρ (fun c ρ1 => Q (.dat (.bl c)) ρ1) X
theorem sim_andV {ta tb : TE} {wa wb : EW} (ha : SimE K W ta wa) (hb : SimE K W tb wb) : SimE K W (tAndV ta tb) (fun ρ Q X => wa ρ (fun a ρ1 => match a with | .dat (.bl c) => if c = true then wb ρ1 Q X else Q (.dat (.bl false)) ρ1 | _ => False) X) := by
  intro B σ ρ H Qw Xw Q s h hx q
  refine ha B σ ρ H _ Xw _ s h hx fun v r1 B1 ρ1 H1 s1 t1 rv1 q1 => ?_
  cases r1 with
  | dat d =>
    cases d with
    | bl c =>
      cases rv1
      refine ⟨c, rfl, ?_⟩
      cases c with
      | true => exact hb B1 σ ρ1 H1 Qw Xw Q s1 q1 (hx.lift s1 t1) fun v r B2 ρ2 H2 s2 t2 rv q2 => q v r B2 ρ2 H2 s2 (t1.trans s1 t2) (rv.early s1 t1) q2
      | false => exact q _ (.dat (.bl false)) _ _ _ s1 t1 (.bl false) q1
    | _ => exact q1.elim
  | _ => exact q1.elim
theorem sim_orV {ta tb : TE} {wa wb : EW} (ha : SimE K W ta wa) (hb : SimE K W tb wb) : SimE K W (tOrV ta tb) (fun ρ Q X => wa ρ (fun a ρ1 => match a with | .dat (.bl c) => if c = true then Q (.dat (.bl true)) ρ1 else wb ρ1 Q X | _ => False) X) := by
  intro B σ ρ H Qw Xw Q s h hx q
  refine ha B σ ρ H _ Xw _ s h hx fun v r1 B1 ρ1 H1 s1 t1 rv1 q1 => ?_
  cases r1 with
  | dat d =>
    cases d with
    | bl c =>
      cases rv1
      refine ⟨c, rfl, ?_⟩
      cases c with
      | false => exact hb B1 σ ρ1 H1 Qw Xw Q s1 q1 (hx.lift s1 t1) fun v r B2 ρ2 H2 s2 t2 rv q2 => q v r B2 ρ2 H2 s2 (t1.trans s1 t2) (rv.early s1 t1) q2
      | true => exact q _ (.dat (.bl true)) _ _ _ s1 t1 (.bl true) q1
    | _ => exact q1.elim
  | _ => exact q1.elim
theorem sim_notV {ta : TE} {wa : EW} (ha : SimE K W ta wa) : SimE K W (tNotV ta) (fun ρ Q X => wa ρ (fun a ρ1 => match a with | .dat (.bl c) => Q (.dat (.bl (!c))) ρ1 | _ => False) X) := by
  intro B σ ρ H Qw Xw Q s h hx q
  refine ha B σ ρ H _ Xw _ s h hx fun v r1 B1 ρ1 H1 s1 t1 rv1 q1 => ?_
  cases r1 with
  | dat d =>
    cases d with
    | bl c => cases rv1; exact ⟨c, rfl, q _ (.dat (.bl (!c))) _ _ _ s1 t1 (.bl _) q1⟩
    | _ => exact q1.elim
  | _ => exact q1.elim
end
def wAndV (wa wb : EW) : EW := fun ρ Q X => wa ρ (fun a ρ1 => match a with | .dat (.bl c) => if c = true then wb ρ1 Q X else Q (.dat (.bl false)) ρ1 | _ => False) X
def wOrV (wa wb : EW) : EW := fun ρ Q X => wa ρ (fun a ρ1 => match a with | .dat (.bl c) => if c = true then Q (.dat (.bl true)) ρ1 else wb ρ1 Q X | _ => False) X
def wNotV (wa : EW) : EW := fun ρ Q X => wa ρ (fun a ρ1 => match a with | .dat (.bl c) => Q (.dat (.bl (!c))) ρ1 | _ => False) X
def wTb (wa : EW) : TWs := fun ρ Q X => wa ρ (fun a ρ1 => match a with | .dat (.bl b) => Q b ρ1 | _ => False) X
structure DW (X : Cx) (W : WX) (e : Expr) (w : TWs) : Prop where
  ok : ∃ t, PW X e t ∧ SimT X.K W t w
section
variable {X : Cx} {W : WX} {a b c e : Expr} {rest : List Expr} {wa wb : EW} {ta tb : TWs} {pos p : Pos}
theorem dt_tru (ha : DE X W a wa) (he : ∀ whole, isTrue a X.env whole = (do let v ← whole; standAt a.pos; holding [v] (truthy v)) := by intro _; rfl) : DT X W a (wTru wa) := by
  obtain ⟨t, pa, sa⟩ := ha.ok
  exact ⟨_, pt_truth pa he, sim_tru sa⟩
theorem dt_cmp {op : CmpOp} {r : R2} {g : G2} (ho : OpR X (compareOp op) r) (o : OpS X.K r g) (ha : DE X W a wa) (hb : DE X W b wb) (hm : behindInMarks op b = false) : DT X W (.Compare a [op] [b] pos) (wTb (wOp g wa wb)) := by
  obtain ⟨t1, pa, sa⟩ := ha.ok
  obtain ⟨t2, pb, sb⟩ := hb.ok
  exact ⟨_, pt_cmpR ho pa pb hm, sim_trub (sim_op o sa sb)⟩
theorem dw_and1 (ha : DT X W a ta) : DW X W (.BoolOp .And [a] pos) ta := by
  obtain ⟨t, pa, sa⟩ := ha.ok
  exact ⟨_, pw_and1 pa, sa⟩
theorem dw_or1 (ha : DT X W a ta) : DW X W (.BoolOp .Or [a] pos) ta := by
  obtain ⟨t, pa, sa⟩ := ha.ok
  exact ⟨_, pw_or1 pa, sa⟩
theorem dw_and (ha : DT X W a ta) (hb : DW X W (.BoolOp .And (b :: rest) pos) tb) : DW X W (.BoolOp .And (a :: b :: rest) pos) (wAnd ta tb) := by
  obtain ⟨t, pa, sa⟩ := ha.ok
  obtain ⟨t2, pb, sb⟩ := hb.ok
  exact ⟨_, pw_and pa pb, sim_and sa sb⟩
theorem dw_or (ha : DT X W a ta) (hb : DW X W (.BoolOp .Or (b :: rest) pos) tb) : DW X W (.BoolOp .Or (a :: b :: rest) pos) (wOr ta tb) := by
  obtain ⟨t, pa, sa⟩ := ha.ok
  obtain ⟨t2, pb, sb⟩ := hb.ok
  exact ⟨_, pw_or pa pb, sim_or sa sb⟩
theorem dt_w (ha : DW X W e ta) : DT X W e ta := by
  obtain ⟨t, pa, sa⟩ := ha.ok
  exact ⟨_, pa.pt, sa⟩
theorem dt_not (ha : DT X W a ta) : DT X W (.UnaryOp .Not a pos) (wNot ta) := by
  obtain ⟨t, pa, sa⟩ := ha.ok
  exact ⟨_, pt_not pa, sim_not sa⟩
theorem de_ifE (hc : DT X W c ta) (ha : DE X W a wa) (hb : DE X W b wb) : DE X W (.IfExp c a b pos) (wIfE ta wa wb) := by
  obtain ⟨t, pc, sc⟩ := hc.ok
  obtain ⟨t1, pa, sa⟩ := ha.ok
  obtain ⟨t2, pb, sb⟩ := hb.ok
  exact ⟨_, pe_ifExp pc pa pb, sim_ifE sc sa sb⟩
theorem de_one {op} (ha : DE X W a wa) : DE X W (.BoolOp op [a] pos) wa := by
  obtain ⟨t, pa, sa⟩ := ha.ok
  exact ⟨_, pe_one pa, sa⟩
theorem de_and (ha : DE X W a wa) (hb : DE X W (.BoolOp .And (b :: rest) pos) wb) : DE X W (.BoolOp .And (a :: b :: rest) pos) (wAndV wa wb) := by
  obtain ⟨t, pa, sa⟩ := ha.ok
  obtain ⟨t2, pb, sb⟩ := hb.ok
  exact ⟨_, pe_and pa pb, sim_andV sa sb⟩
theorem de_or (ha : DE X W a wa) (hb : DE X W (.BoolOp .Or (b :: rest) pos) wb) : DE X W (.BoolOp .Or (a :: b :: rest) pos) (wOrV wa wb) := by
  obtain ⟨t, pa, sa⟩ := ha.ok
  obtain ⟨t2, pb, sb⟩ := hb.ok
  exact ⟨_, pe_or pa pb, sim_orV sa sb⟩
theorem de_not (ha : DE X W a wa) : DE X W (.UnaryOp .Not a pos) (wNotV wa) := by
  obtain ⟨t, pa, sa⟩ := ha.ok
  exact ⟨_, pe_not pa, sim_notV sa⟩
end

/-! ### lists given away -/
/-- as data: a new list is given away -/
def dats : List Sl → Option (List D)
  | [] => some []
  | .dat d :: rs => (dats rs).map (d :: ·)
  | .own ds :: rs => (dats rs).map (.lst ds :: ·)
  | _ => none
def withD (rs : List Sl) (k : List D → Prop) : Prop := match dats rs with
  | some ds => k ds
  | none => False
theorem withD_some {rs : List Sl} {k : List D → Prop} (h : withD rs k) : ∃ ds, dats rs = some ds ∧ k ds := by
  unfold withD at h
  cases e : dats rs with
  | none => rw [e] at h; exact h.elim
  | some d => rw [e] at h; exact ⟨d, rfl, h⟩
section
variable {K : PySem.W.Frag} {B B' H H' H0 H1 : Hp} {σ : St} {ρ ρ' : En}
theorem upd_same_sub {p : Addr} {o : HO} (h : B p = none) : Same B (upd B p o) := fun b x e => by
  rw [upd_ne (ne_of_none e h)]; exact e
theorem SR.grow (s : SR K B σ ρ H) (bb : Same B B') (sub : Same B' H) (no : ∀ b, OwnAt σ ρ b → B' b = none) : SR K B' σ ρ H where
  len := s.len
  sub := sub
  slot := fun i sl h => by
    obtain ⟨v, hv, r⟩ := s.slot i sl h
    refine ⟨v, hv, ?_⟩
    cases sl with
    | dat d => exact Ip.mono bb (Tups.of (Same.refl H)) r
    | own ds => obtain ⟨p, vs, a, b, c, dd⟩ := r; subst a; exact ⟨p, vs, rfl, no p ⟨i, by rw [h]; rfl, hv⟩, c, dd.mono bb (Tups.of (Same.refl H))⟩
    | inn ds => obtain ⟨p, vs, a, b, c, dd⟩ := r; subst a; exact ⟨p, vs, rfl, no p ⟨i, by rw [h]; rfl, hv⟩, c, dd.mono bb (Tups.of (Same.refl H))⟩
    | bor i => exact r.elim
    | dic kvs => obtain ⟨p, vs, a, b, c, dd⟩ := r; subst a; exact ⟨p, vs, rfl, no p ⟨i, by rw [h]; rfl, hv⟩, c, dd.mono bb (Tups.of (Same.refl H))⟩
  inj := s.inj
def newV : Sl → Bool
  | .own _ => true
  | .dic _ => true
  | _ => false
theorem RvR.bmono (bb : Same B B') {v : V} {r : Sl} (h : RvR K B σ ρ H0 H v r) (no : ∀ p, newV r = true → v = .ref p → B' p = none) : RvR K B' σ ρ H0 H v r := by
  cases r with
  | dat d => exact Ip.mono bb (Tups.of (Same.refl H)) h
  | own ds => obtain ⟨p, vs, a, b, c, e, f, g⟩ := h; exact ⟨p, vs, a, b, no p rfl a, e, f.mono bb (Tups.of (Same.refl H)), g⟩
  | dic kvs => obtain ⟨p, vs, a, b, c, e, f, g⟩ := h; exact ⟨p, vs, a, b, no p rfl a, e, f.mono bb (Tups.of (Same.refl H)), g⟩
  | inn ds => exact h
  | bor i => exact h
theorem RvAll.bmono (bb : Same B B') {vs : List V} {rs : List Sl} (h : RvAll K B σ ρ H H0 vs rs) (no : ∀ b, H0 b = none → B b = none → B' b = none) : RvAll K B' σ ρ H H0 vs rs := by
  induction h with
  | nil => exact .nil
  | @cons H0 H1 v vs r rs h1 h2 h3 h4 ih =>
    refine .cons (h1.bmono bb fun p e1 e2 => ?_) h2 h3 (ih fun b hb hb2 => no b (h2 b hb) hb2)
    cases r with
    | own ds =>
      obtain ⟨p', ws, a, b, c, _⟩ := h1
      rw [e2] at a; cases a
      exact no p b c
    | dic kvs =>
      obtain ⟨p', ws, a, b, c, _⟩ := h1
      rw [e2] at a; cases a
      exact no p b c
    | _ => cases e1
theorem RvAll.freeze : ∀ {rs : List Sl} {vs : List V} {B H0 : Hp}, RvAll K B σ ρ H H0 vs rs → SR K B σ ρ H → ∀ {ds : List D}, dats rs = some ds →
    ∃ B', SR K B' σ ρ H ∧ Same B B' ∧ (∀ b, B' b ≠ none → B b ≠ none ∨ H0 b = none) ∧ IpAll K B' H vs ds
  | [], _, B, _, .nil, s, _, e => by cases e; exact ⟨B, s, Same.refl _, fun _ h => .inl h, .nil⟩
  | .dat d :: rs, _, B, _, .cons h1 h2 h3 h4, s, ds, e => by
      cases e2 : dats rs with
      | none => rw [dats, e2] at e; cases e
      | some ds' =>
        rw [dats, e2] at e; cases e
        obtain ⟨B', s', bb, bn, ia⟩ := RvAll.freeze h4 s e2
        exact ⟨B', s', bb, fun b hb => (bn b hb).imp id (h2 b), .cons (Ip.mono bb (Tups.of (Same.refl H)) h1) ia⟩
  | .own dl :: rs, _, B, _, .cons h1 h2 h3 h4, s, ds, e => by
      cases e2 : dats rs with
      | none => rw [dats, e2] at e; cases e
      | some ds' =>
        rw [dats, e2] at e; cases e
        obtain ⟨p, ws, ev, f0, nb, hp, iw, no⟩ := h1
        have bb1 : Same B (upd B p (.lst ws)) := upd_same_sub nb
        have s1 : SR K (upd B p (.lst ws)) σ ρ H := s.grow bb1 (fun b o q => by
          by_cases hb : b = p
          · subst hb; rw [upd_same] at q; cases q; exact hp
          · rw [upd_ne hb] at q; exact s.sub b o q) (fun b ob => by
          have hb : b ≠ p := fun z => no (z ▸ ob)
          rw [upd_ne hb]
          obtain ⟨_, _, q, _⟩ := s.own ob
          exact q)
        have h4' := h4.bmono bb1 fun b hb hb2 => by
          have hne : b ≠ p := fun z => h3 p dl rfl ev (z ▸ hb)
          rw [upd_ne hne]; exact hb2
        obtain ⟨B', s', bb, bn, ia⟩ := RvAll.freeze h4' s1 e2
        refine ⟨B', s', bb1.trans bb, fun b hb => ?_, .cons ?_ ia⟩
        · rcases bn b hb with z | z
          · by_cases hbp : b = p
            · subst hbp; exact .inr f0
            · rw [upd_ne hbp] at z; exact .inl z
          · exact .inr (h2 b z)
        · subst ev
          exact .lst (.inl (.inl (bb p _ upd_same))) (iw.mono (bb1.trans bb) (Tups.of (Same.refl H)))
  | .inn _ :: _, _, _, _, _, _, _, e => by cases e
  | .bor _ :: _, _, _, _, _, _, _, e => by cases e
end
def wTup (wa : AW) : EW := fun ρ Q X => wa ρ (fun rs ρ1 => withD rs fun ds => ds.length ≤ sizeLine ∧ Q (.dat (.tup ds)) ρ1) X
def wLst (wa : AW) : EW := fun ρ Q X => wa ρ (fun rs ρ1 => withD rs fun ds => ds.length ≤ sizeLine ∧ Q (.own ds) ρ1) X
section
variable {K : PySem.W.Frag} {W : WX} {ta : TA} {wa : AW}
theorem sim_tup (ha : SimA K W ta wa) : SimE K W (tTup ta) (wTup wa) := by
  intro B σ ρ H Qw Xw Q s h hx q
  refine ha B σ ρ H _ Xw _ s h hx fun vs rs B1 ρ1 H1 s1 t1 rv1 q1 => ?_
  obtain ⟨ds, e1, hl, q1⟩ := withD_some q1
  obtain ⟨B2, s2, bb, bn, ia⟩ := rv1.freeze s1 e1
  refine ⟨by rw [ia.length]; exact hl, fun p hp => ?_⟩
  have sm : Same H1 (upd H1 p (.tup vs)) := fun b o e => by rw [upd_ne (ne_of_none e hp)]; exact e
  have t2 : Tr σ B ρ H B2 ρ1 H1 := ⟨t1.ext, t1.bex.trans bb, fun b hb => (bn b hb).elim (fun z => t1.bnew b z) .inr, t1.shp, t1.shi⟩
  refine q (.ref p) (.dat (.tup ds)) B2 ρ1 _ (s2.same sm) (t2.trans s2 (Tr.same sm)) ?_ q1
  exact .tup (.inl upd_same) (ia.mono (Same.refl _) (Tups.of sm))
theorem sim_lst (ha : SimA K W ta wa) : SimE K W (tLst ta) (wLst wa) := by
  intro B σ ρ H Qw Xw Q s h hx q
  refine ha B σ ρ H _ Xw _ s h hx fun vs rs B1 ρ1 H1 s1 t1 rv1 q1 => ?_
  obtain ⟨ds, e1, hl, q1⟩ := withD_some q1
  obtain ⟨B2, s2, bb, bn, ia⟩ := rv1.freeze s1 e1
  refine ⟨by rw [ia.length]; exact hl, fun p hp => ?_⟩
  have sm : Same H1 (upd H1 p (.lst vs)) := fun b o e => by rw [upd_ne (ne_of_none e hp)]; exact e
  have t2 : Tr σ B ρ H B2 ρ1 H1 := ⟨t1.ext, t1.bex.trans bb, fun b hb => (bn b hb).elim (fun z => t1.bnew b z) .inr, t1.shp, t1.shi⟩
  have rv : RvV K B2 H1 (upd H1 p (.lst vs)) (.ref p) (.own ds) := ⟨p, vs, rfl, hp, upd_same, ia.mono (Same.refl _) (Tups.of sm)⟩
  exact q (.ref p) (.own ds) B2 ρ1 _ (s2.same sm) (t2.trans s2 (Tr.same sm)) ((rv.rv s2 sm).early s2 t2) q1
end
section
variable {X : Cx} {W : WX} {es : List Expr} {wa : AW} {pos : Pos}
theorem de_tup {x1} (h : DA X W es wa) : DE X W (.Tuple es x1 pos) (wTup wa) := by
  obtain ⟨t, pa, sa⟩ := h.ok
  exact ⟨_, pe_tup pa, sim_tup sa⟩
theorem de_lst (h : DA X W es wa) : DE X W (.List es pos) (wLst wa) := by
  obtain ⟨t, pa, sa⟩ := h.ok
  exact ⟨_, pe_lst pa, sim_lst sa⟩
end
end DL

set_option Elab.async false
set_option linter.all false
set_option maxRecDepth 100000
set_option maxHeartbeats 4000000
/-! DLd: one's own lists changed; defs called. -/
namespace DL
open PySem L2

def H00 : Hp := fun _ => none
theorem same00 {H : Hp} : Same H00 H := fun _ _ e => by cases e
/-- the list in slot i has other items now -/
def setOwn (ρ : En) (i : Nat) (ds : List D) : En := match ρ[i]? with
  | some (some (.own _)) => ρ.set i (some (.own ds))
  | some (some (.inn _)) => ρ.set i (some (.inn ds))
  | _ => ρ
def withO (ρ : En) (i : Nat) (k : List D → Prop) : Prop := match ρ[i]? with
  | some (some (.own ds)) => k ds
  | some (some (.inn ds)) => k ds
  | _ => False
theorem withO_some {ρ : En} {i : Nat} {k : List D → Prop} (h : withO ρ i k) : ∃ ds, (ρ[i]? = some (some (.own ds)) ∨ ρ[i]? = some (some (.inn ds))) ∧ k ds := by
  unfold withO at h
  cases e : ρ[i]? with
  | none => rw [e] at h; exact h.elim
  | some o =>
    rw [e] at h
    cases o with
    | none => exact h.elim
    | some sl =>
      cases sl with
      | dat d => exact h.elim
      | own ds => exact ⟨ds, .inl rfl, h⟩
      | inn ds => exact ⟨ds, .inr rfl, h⟩
      | bor j => exact h.elim
      | dic kvs => exact h.elim
/-- a list's slot -/
def isLst : Option (Option Sl) → Bool
  | some (some (.own _)) => true
  | some (some (.inn _)) => true
  | _ => false
theorem isLst_some {ρ : En} {i : Nat} (h : isLst ρ[i]? = true) : ∃ ds, ρ[i]? = some (some (.own ds)) ∨ ρ[i]? = some (some (.inn ds)) := by
  cases e : ρ[i]? with
  | none => rw [e] at h; cases h
  | some o =>
    cases o with
    | none => rw [e] at h; cases h
    | some sl =>
      cases sl with
      | own ds => exact ⟨ds, .inl rfl⟩
      | inn ds => exact ⟨ds, .inr rfl⟩
      | _ => rw [e] at h; cases h
theorem isLst_own {ρ : En} {i : Nat} (h : isLst ρ[i]? = true) : isOwn ρ[i]? = true := by
  obtain ⟨ds, e | e⟩ := isLst_some h <;> rw [e] <;> rfl
section
variable {K : PySem.W.Frag} {B B' H H' H0 H1 : Hp} {σ : St} {ρ ρ' : En}
theorem setOwn_own {i : Nat} {ds es : List D} (e : ρ[i]? = some (some (.own ds))) : setOwn ρ i es = ρ.set i (some (.own es)) := by
  unfold setOwn; rw [e]
theorem setOwn_inn {i : Nat} {ds es : List D} (e : ρ[i]? = some (some (.inn ds))) : setOwn ρ i es = ρ.set i (some (.inn es)) := by
  unfold setOwn; rw [e]
theorem setOwn_shp (i : Nat) (es : List D) (j : Nat) : isOwn (setOwn ρ i es)[j]? = isOwn ρ[j]? := by
  unfold setOwn
  cases e : ρ[i]? with
  | none => rfl
  | some o =>
    cases o with
    | none => rfl
    | some sl =>
      have hi : i < ρ.length := (List.getElem?_eq_some_iff.mp e).1
      cases sl with
      | dat d => rfl
      | dic kvs => rfl
      | own ds =>
        show isOwn (ρ.set i _)[j]? = _
        by_cases hj : j = i
        · subst hj; rw [List.getElem?_set_self hi, e]; rfl
        · rw [List.getElem?_set_ne (Ne.symm hj)]
      | inn ds =>
        show isOwn (ρ.set i _)[j]? = _
        by_cases hj : j = i
        · subst hj; rw [List.getElem?_set_self hi, e]; rfl
        · rw [List.getElem?_set_ne (Ne.symm hj)]
      | bor k => rfl
theorem setOwn_shi (i : Nat) (es : List D) (j : Nat) (dl : List D) (e : ρ[j]? = some (some (.inn dl))) : ∃ d', (setOwn ρ i es)[j]? = some (some (.inn d')) := by
  by_cases hj : j = i
  · subst hj
    have hi : j < ρ.length := (List.getElem?_eq_some_iff.mp e).1
    exact ⟨es, by rw [setOwn_inn e, List.getElem?_set_self hi]⟩
  · refine ⟨dl, ?_⟩
    unfold setOwn
    cases q : ρ[i]? with
    | none => exact e
    | some o =>
      cases o with
      | none => exact e
      | some sl => cases sl <;> first | exact e | (show (ρ.set i _)[j]? = _; rw [List.getElem?_set_ne (Ne.symm hj)]; exact e)
theorem setOwn_length (i : Nat) (es : List D) : (setOwn ρ i es).length = ρ.length := by
  unfold setOwn
  cases e : ρ[i]? with
  | none => rfl
  | some o =>
    cases o with
    | none => rfl
    | some sl => cases sl <;> simp
theorem setOwn_ne {i j : Nat} (es : List D) (h : j ≠ i) : (setOwn ρ i es)[j]? = ρ[j]? := by
  unfold setOwn
  cases e : ρ[i]? with
  | none => rfl
  | some o =>
    cases o with
    | none => rfl
    | some sl => cases sl <;> first | rfl | (show (ρ.set i _)[j]? = _; rw [List.getElem?_set_ne (Ne.symm h)])
/-- what is one's own is changed -/
theorem SR.mutG (s : SR K B σ ρ H) {i : Nat} {p : Addr} {sl' : Sl} (ho : isOwn ρ[i]? = true) (hp : σ[i]? = some (some (.ref p)))
    (ext : ∀ b o, H b = some o → b ≠ p → H' b = some o) (hsl : isOwn (some (some sl')) = true) (hinn : ∀ ds, ρ[i]? = some (some (.inn ds)) → ∃ ds', sl' = .inn ds') (r' : Tups H H' → SlR K B H' (.ref p) sl') : SR K B σ (ρ.set i (some sl')) H' ∧ Tr σ B ρ H B (ρ.set i (some sl')) H' := by
  have own : OwnAt σ ρ p := ⟨i, ho, hp⟩
  obtain ⟨ws0, hp0, nb, hm⟩ := s.own own
  have tups : Tups H H' := tups_at hp0 hm ext
  have r' := r' tups
  obtain ⟨sl0, e0, q⟩ := isOwn_some ho
  have hi : i < ρ.length := (List.getElem?_eq_some_iff.mp e0).1
  have shp : ∀ j, isOwn (ρ.set i (some sl'))[j]? = isOwn ρ[j]? := fun j => by
    by_cases hj : j = i
    · subst hj; rw [List.getElem?_set_self hi, hsl, ho]
    · rw [List.getElem?_set_ne (Ne.symm hj)]
  refine ⟨⟨?_, ?_, ?_, ?_⟩, ⟨fun b o e n => ext b o e fun z => n (z ▸ own), Same.refl _, fun b h => .inl h, shp, fun j dl e => ?_⟩⟩
  · rw [List.length_set]; exact s.len
  · intro b o e
    exact ext b o (s.sub b o e) (ne_of_none e nb)
  · intro j sl hj
    by_cases hji : j = i
    · subst hji
      refine ⟨.ref p, hp, ?_⟩
      rw [List.getElem?_set_self hi] at hj
      cases hj
      exact r'
    · rw [List.getElem?_set_ne (Ne.symm hji)] at hj
      obtain ⟨v, hv, r⟩ := s.slot j sl hj
      refine ⟨v, hv, ?_⟩
      have other : ∀ dl, OwnL K B H v dl → isOwn ρ[j]? = true → OwnL K B H' v dl := fun dl ⟨p', vs, a, b, c, d⟩ hoj => by
        subst a
        have hne : p' ≠ p := fun z => hji (s.inj j i p hoj ho (z ▸ hv) hp)
        exact ⟨p', vs, rfl, b, ext _ _ c hne, d.mono (Same.refl _) tups⟩
      cases sl with
      | dat d => exact Ip.mono (Same.refl _) tups r
      | own dl => exact other dl r (by rw [hj]; rfl)
      | inn dl => exact other dl r (by rw [hj]; rfl)
      | bor k => exact r.elim
      | dic kvs =>
        obtain ⟨p', vs, a, b, c, d⟩ := r
        subst a
        have hne : p' ≠ p := fun z => hji (s.inj j i p (by rw [hj]; rfl) ho (z ▸ hv) hp)
        exact ⟨p', vs, rfl, b, ext _ _ c hne, d.mono (Same.refl _) tups⟩
  · intro a b q h1 h2 h3 h4
    exact s.inj a b q (by rw [← shp a]; exact h1) (by rw [← shp b]; exact h2) h3 h4
  · by_cases hj : j = i
    · subst hj
      obtain ⟨d', e'⟩ := hinn dl e
      exact ⟨d', by rw [List.getElem?_set_self hi, e']⟩
    · exact ⟨dl, by rw [List.getElem?_set_ne (Ne.symm hj)]; exact e⟩
/-- a list of one's own is changed -/
theorem SR.mut (s : SR K B σ ρ H) {i : Nat} {p : Addr} {ws : List V} {ds d0 : List D} (hol : ρ[i]? = some (some (.own d0)) ∨ ρ[i]? = some (some (.inn d0))) (hp : σ[i]? = some (some (.ref p)))
    (ext : ∀ b o, H b = some o → b ≠ p → H' b = some o) (hw : H' p = some (.lst ws)) (ia : IpAll K B H' ws ds) : SR K B σ (setOwn ρ i ds) H' ∧ Tr σ B ρ H B (setOwn ρ i ds) H' := by
  have ho : isOwn ρ[i]? = true := by rcases hol with e | e <;> rw [e] <;> rfl
  obtain ⟨_, _, nb, _⟩ := s.own ⟨i, ho, hp⟩
  rcases hol with e | e
  · rw [setOwn_own e]
    exact s.mutG ho hp ext rfl (fun ds h => by rw [e] at h; cases h) fun _ => ⟨p, ws, rfl, nb, hw, ia⟩
  · rw [setOwn_inn e]
    exact s.mutG ho hp ext rfl (fun _ h => ⟨ds, rfl⟩) fun _ => ⟨p, ws, rfl, nb, hw, ia⟩
end

/-! ### methods of one's own list -/
abbrev GM := List D → List D → (D → List D → Prop) → Prop
def MtS (K : PySem.W.Frag) (r : V → List V → Hp → VK → Prop) (m : GM) : Prop := ∀ (B H : Hp) (p : Addr) (vs xs : List V) (ds args : List D) (Qw : D → List D → Prop) (Q : VK), H p = some (.lst vs) → IpAll K B H vs ds → IpAll K B H xs args → m ds args Qw →
  (∀ v d vs' ds', IpAll K B H vs' ds' → Ip K B H v d → Qw d ds' → Q v (upd H p (.lst vs'))) → r (.ref p) xs H Q
def wMt (m : GM) (i : Nat) (wa : AW) : EW := fun ρ Q X => isLst ρ[i]? = true ∧ wa ρ (fun rs ρ1 => withD rs fun args => withO ρ1 i fun ds => m ds args fun d ds' => Q (.dat d) (setOwn ρ1 i ds')) X
section
variable {K : PySem.W.Frag} {W : WX}
theorem tyV_lst {H : Hp} {p : Addr} {vs : List V} (h : H p = some (.lst vs)) : tyV K "list" (.ref p) H := Or.inl ⟨rfl, _, Or.inl (Or.inl h)⟩
theorem sim_mt {r : V → List V → Hp → VK → Prop} {m : GM} (hm : MtS K r m) (i : Nat) {ta : TA} {wa : AW} (ha : SimA K W ta wa) : SimE K W (tBM K "list" r (tVar i) ta) (wMt m i wa) := by
  intro B σ ρ H Qw Xw Q s h hx q
  obtain ⟨hl0, h⟩ := h
  have ho := isLst_own hl0
  obtain ⟨dl, e⟩ := isLst_some hl0
  have hv : ∃ v, σ[i]? = some (some v) := by
    rcases e with e | e
    · obtain ⟨v, hv, _⟩ := s.slot i _ e; exact ⟨v, hv⟩
    · obtain ⟨v, hv, _⟩ := s.slot i _ e; exact ⟨v, hv⟩
  obtain ⟨v, hv⟩ := hv
  obtain ⟨p, vs, rfl, nb, hp, il⟩ := s.bor e hv
  refine ⟨.ref p, hv, tyV_lst hp, ?_⟩
  refine ha B σ ρ H _ Xw _ s h hx fun us rs B1 ρ1 H1 s1 t1 rv1 q1 => ?_
  obtain ⟨args, e1, q1⟩ := withD_some q1
  obtain ⟨ds, e2, q1⟩ := withO_some q1
  obtain ⟨B2, s2, bb, bn, ia⟩ := rv1.freeze s1 e1
  have t2 : Tr σ B ρ H B2 ρ1 H1 := ⟨t1.ext, t1.bex.trans bb, fun b hb => (bn b hb).elim (fun z => t1.bnew b z) .inr, t1.shp, t1.shi⟩
  obtain ⟨p', vs1, ep, nb1, hp1, il1⟩ := s2.bor e2 hv
  cases ep
  refine hm B2 H1 p vs1 us ds args _ Q hp1 il1 ia q1 fun w d vs' ds' i1 i2 qq => ?_
  have ho1 : isOwn ρ1[i]? = true := by rw [t1.shp i]; exact ho
  have tups : Tups H1 (upd H1 p (.lst vs')) := tups_at hp1 rfl fun b o e hb => by rw [upd_ne hb]; exact e
  obtain ⟨s3, t3⟩ := s2.mut (ds := ds') e2 hv (fun b o e hb => by rw [upd_ne hb]; exact e) upd_same (i1.mono (Same.refl _) tups)
  exact q w (.dat d) B2 _ _ s3 (t2.trans s2 t3) (Ip.mono (Same.refl _) tups i2) qq
end
def wMt0 (m : GM) (i : Nat) : EW := fun ρ Q X => withO ρ i fun ds => m ds [] fun d ds' => Q (.dat d) (setOwn ρ i ds')
section
variable {K : PySem.W.Frag} {W : WX}
theorem sim_mt0 {r : V → List V → Hp → VK → Prop} {m : GM} (hm : MtS K r m) (i : Nat) : SimE K W (tBM0 K "list" r (tVar i)) (wMt0 m i) := by
  intro B σ ρ H Qw Xw Q s h hx q
  obtain ⟨ds, e2, q1⟩ := withO_some h
  have ho : isOwn ρ[i]? = true := by rcases e2 with e | e <;> rw [e] <;> rfl
  obtain ⟨sl, e, ht⟩ := isOwn_some ho
  obtain ⟨v, hv, rr⟩ := s.slot i sl e
  obtain ⟨p, vs1, rfl, nb1, hp1, il1⟩ := s.bor e2 hv
  refine ⟨.ref p, hv, tyV_lst hp1, ?_⟩
  refine hm B H p vs1 [] ds [] _ Q hp1 il1 .nil q1 fun w d vs' ds' i1 i2 qq => ?_
  have tups : Tups H (upd H p (.lst vs')) := tups_at hp1 rfl fun b o e hb => by rw [upd_ne hb]; exact e
  obtain ⟨s3, t3⟩ := s.mut (ds := ds') e2 hv (fun b o e hb => by rw [upd_ne hb]; exact e) upd_same (i1.mono (Same.refl _) tups)
  exact q w (.dat d) B _ _ s3 t3 (Ip.mono (Same.refl _) tups i2) qq
end

/-! ### a def's promise, without the heap -/
/-- a def that reads its arguments alone -/
abbrev FD := List D → (Sl → Prop) → (Value → Prop) → Prop
/-- what a def hands back: F its new lists -/
def ResR (K : PySem.W.Frag) (H H' : Hp) (v : V) (r : Sl) : Prop := ∃ F : Hp, Same F H' ∧ (∀ a, F a ≠ none → H a = none) ∧ match r with
  | .dat d => Ip K F H' v d
  | .own ds => ∃ p vs, v = V.ref p ∧ H p = none ∧ F p = none ∧ H' p = some (.lst vs) ∧ IpAll K F H' vs ds
  | _ => False
def spD (K : PySem.W.Frag) (n : Nat) (f : FD) : Sp := fun vs H Q E => ∃ (B : Hp) (ds : List D) (Qw : Sl → Prop) (Xw : Value → Prop), Same B H ∧ IpAll K B H vs ds ∧ ds.length = n ∧ f ds Qw Xw ∧
  (∀ v r H', Same H H' → ResR K H H' v r → Qw r → Q v H') ∧ ∀ c H', Same H H' → Xw c → E c none H'
/-- a def that changes the list in its first argument, too -/
abbrev FI := List D → List D → (Sl → List D → Prop) → (Value → List D → Prop) → Prop
def spI (K : PySem.W.Frag) (n : Nat) (f : FI) : Sp := fun vs H Q E => ∃ (B : Hp) (p : Addr) (ws vs' : List V) (dl ds : List D) (Qw : Sl → List D → Prop) (Xw : Value → List D → Prop), vs = .ref p :: vs' ∧ Same B H ∧ B p = none ∧ H p = some (.lst ws) ∧ IpAll K H00 H ws dl ∧ IpAll K B H vs' ds ∧ ds.length + 1 = n ∧ f dl ds Qw Xw ∧
  (∀ v r dl' ws' H', (∀ b o, H b = some o → b ≠ p → H' b = some o) → H' p = some (.lst ws') → IpAll K H00 H' ws' dl' → ResR K H H' v r → Qw r dl' → Q v H') ∧
  ∀ c dl' ws' H', (∀ b o, H b = some o → b ≠ p → H' b = some o) → H' p = some (.lst ws') → IpAll K H00 H' ws' dl' → Xw c dl' → E c none H'
def wCallD (f : FD) (wa : AW) : EW := fun ρ Q X => wa ρ (fun rs ρ1 => withCs ρ1 rs fun ds => f ds (fun r => Q r ρ1) (fun c => X c ρ1)) X
def pureD : List Sl → Option (List D)
  | [] => some []
  | .dat d :: rs => (pureD rs).map (d :: ·)
  | _ => none
def withP (rs : List Sl) (k : List D → Prop) : Prop := match pureD rs with
  | some ds => k ds
  | none => False
theorem withP_some {rs : List Sl} {k : List D → Prop} (h : withP rs k) : ∃ ds, pureD rs = some ds ∧ k ds := by
  unfold withP at h
  cases e : pureD rs with
  | none => rw [e] at h; exact h.elim
  | some d => rw [e] at h; exact ⟨d, rfl, h⟩
def wCallI (f : FI) (wa : AW) : EW := fun ρ Q X => wa ρ (fun rs ρ1 => match rs with
  | .bor i :: rs' => withO ρ1 i fun dl => withP rs' fun ds => D.nolists dl = true ∧ f dl ds (fun r dl' => Q r (setOwn ρ1 i dl')) (fun c dl' => X c (setOwn ρ1 i dl'))
  | .own dl :: rs' => withP rs' fun ds => D.nolists dl = true ∧ f dl ds (fun r _ => Q r ρ1) (fun c _ => X c ρ1)
  | _ => False) X
def uni (B F : Hp) : Hp := fun a => match F a with
  | some o => some o
  | none => B a
section
variable {K : PySem.W.Frag} {B B1 F H H' H0 H1 : Hp} {σ : St} {ρ ρ1 : En}
theorem uni_l (h : ∀ a, F a ≠ none → B a = none) : Same B (uni B F) := fun a o e => by
  unfold uni
  cases q : F a with
  | none => exact e
  | some x => rw [h a (by rw [q]; simp)] at e; cases e
theorem uni_r : Same F (uni B F) := fun a o e => by unfold uni; rw [e]
theorem uni_none {a : Addr} (h1 : F a = none) (h2 : B a = none) : uni B F a = none := by unfold uni; rw [h1]; exact h2
theorem uni_sub (h1 : Same B H) (h2 : Same F H) : Same (uni B F) H := fun a o e => by
  unfold uni at e
  cases q : F a with
  | none => rw [q] at e; exact h1 a o e
  | some x => rw [q] at e; cases e; exact h2 a _ q
theorem uni_some {a : Addr} (h : uni B F a ≠ none) : B a ≠ none ∨ F a ≠ none := by
  unfold uni at h
  cases q : F a with
  | none => rw [q] at h; exact .inl h
  | some x => exact .inr (by simp)
/-- behind a call: H1 the heap ahead of it, (ρ, H') a state over it -/
theorem after_call (s1 : SR K B σ ρ1 H1) (s : SR K B σ ρ H') (t : Tr σ B ρ1 H1 B ρ H') {v : V} {r : Sl} (h : ResR K H1 H' v r) :
    ∃ B', SR K B' σ ρ H' ∧ Tr σ B ρ1 H1 B' ρ H' ∧ RvR K B' σ ρ H1 H' v r := by
  obtain ⟨F, fs, fn, hr⟩ := h
  have hbf : ∀ a, F a ≠ none → B a = none := fun a ha => Same.bnone s1.sub (fn a ha)
  have fo : ∀ b, OwnAt σ ρ b → F b = none := fun b ob => by
    obtain ⟨vs, q, _⟩ := s1.own (t.ownAt.mp ob)
    cases z : F b with
    | none => rfl
    | some o => rw [fn b (by rw [z]; simp)] at q; cases q
  have s' : SR K (uni B F) σ ρ H' := s.grow (uni_l hbf) (uni_sub s.sub fs) fun b ob => by
    obtain ⟨_, _, q, _⟩ := s.own ob
    exact uni_none (fo b ob) q
  refine ⟨uni B F, s', ⟨t.ext, uni_l hbf, fun b hb => (uni_some hb).imp id (fn b), t.shp, t.shi⟩, ?_⟩
  cases r with
  | dat d => exact Ip.mono uni_r (Tups.of (Same.refl _)) hr
  | own ds =>
    obtain ⟨p, vs, a, b, c, d, e⟩ := hr
    refine ⟨p, vs, a, b, uni_none c (Same.bnone s1.sub b), d, e.mono uni_r (Tups.of (Same.refl _)), fun z => ?_⟩
    obtain ⟨ws, q, _⟩ := s1.own (t.ownAt.mp z)
    rw [b] at q; cases q
  | inn ds => exact hr.elim
  | bor i => exact hr.elim
  | dic kvs => exact hr.elim
theorem IpAll.full (sub : Same B H) {vs : List V} {ds : List D} (h : RdAll K B H vs ds) : IpAll K H H vs ds := by
  induction h with
  | nil => exact .nil
  | @cons v vs d ds hd _ ih =>
    refine .cons ?_ ih
    cases d with
    | lst dl =>
      obtain ⟨a, xs, rfl, hh, hi⟩ := hd
      exact .lst hh (hi.mono sub (Tups.of (Same.refl _)))
    | _ => exact Ip.mono sub (Tups.of (Same.refl _)) hd
theorem sim_callD {W : WX} {n : Nat} {f : FD} {ta : TA} {wa : AW} (ha : SimA K W ta wa) (hf : ∀ ds Qw Xw, f ds Qw Xw → ds.length = n) : SimE K W (tCallS (spD K n f) (WE W) ta) (wCallD f wa) := by
  intro B σ ρ H Qw Xw Q s h hx q
  refine ha B σ ρ H _ Xw _ s h hx fun vs rs B1 ρ1 H1 s1 t1 rv1 q1 => ?_
  obtain ⟨ds, e1, q1⟩ := withCs_some q1
  refine ⟨H1, ds, _, _, Same.refl _, IpAll.full s1.sub (rv1.rd s1 e1), hf _ _ _ q1, q1, fun v r H' sm rr qq => ?_, fun c H' sm xx => ?_⟩
  · obtain ⟨B', s', t', rv⟩ := after_call s1 (s1.same sm) (Tr.same sm) rr
    exact q v r B' ρ1 H' s' (t1.trans s1 t') (rv.early s1 t1) qq
  · exact hx c B1 ρ1 H' (s1.same sm) (t1.trans s1 (Tr.same sm)) xx
theorem RvAll.pure {vs : List V} {rs : List Sl} (h : RvAll K B σ ρ H H0 vs rs) : ∀ {ds : List D}, pureD rs = some ds → IpAll K B H vs ds := by
  induction h with
  | nil => intro ds e; cases e; exact .nil
  | @cons H0 H1 v vs r rs h1 h2 h3 h4 ih =>
    intro ds e
    cases r with
    | dat d =>
      cases e2 : pureD rs with
      | none => rw [pureD, e2] at e; cases e
      | some ds' => rw [pureD, e2] at e; cases e; exact .cons h1 (ih e2)
    | own _ => cases e
    | inn _ => cases e
    | bor _ => cases e
    | dic _ => cases e
theorem sim_callI {W : WX} {n : Nat} {f : FI} {ta : TA} {wa : AW} (ha : SimA K W ta wa) (hf : ∀ dl ds Qw Xw, f dl ds Qw Xw → ds.length + 1 = n) : SimE K W (tCallS (spI K n f) (WE W) ta) (wCallI f wa) := by
  intro B σ ρ H Qw Xw Q s h hx q
  refine ha B σ ρ H _ Xw _ s h hx fun vs rs B1 ρ1 H1 s1 t1 rv1 q1 => ?_
  cases rv1 with
  | nil => exact q1.elim
  | @cons _ Hm v vs r rs h1 h2 h3 h4 =>
    cases r with
    | dat d => exact q1.elim
    | inn d => exact q1.elim
    | dic d => exact q1.elim
    | bor i =>
      obtain ⟨dl, e2, q1⟩ := withO_some q1
      obtain ⟨ds, e1, nl, q1⟩ := withP_some q1
      obtain ⟨ho, hv⟩ := h1
      obtain ⟨p, ws, rfl, nb, hp, il⟩ := s1.bor e2 hv
      refine ⟨B1, p, ws, vs, dl, ds, _, _, rfl, s1.sub, nb, hp, il.pure nl, h4.pure e1, hf _ _ _ _ q1, q1, fun v r dl' ws' H' ext hw iw rr qq => ?_, fun c dl' ws' H' ext hw iw xx => ?_⟩
      · obtain ⟨s2, t2⟩ := s1.mut e2 hv ext hw (iw.mono same00 (Tups.of (Same.refl _)))
        obtain ⟨B', s', t', rv⟩ := after_call s1 s2 t2 rr
        exact q v r B' _ H' s' (t1.trans s1 t') (rv.early s1 t1) qq
      · obtain ⟨s2, t2⟩ := s1.mut e2 hv ext hw (iw.mono same00 (Tups.of (Same.refl _)))
        exact hx c B1 _ H' s2 (t1.trans s1 t2) xx
    | own dl =>
      obtain ⟨ds, e1, nl, q1⟩ := withP_some q1
      obtain ⟨p, ws, rfl, fr, nb, hp, il, no⟩ := h1
      -- the new list is nobody's: it may change
      have mv : ∀ (H' : Hp), (∀ b o, H1 b = some o → b ≠ p → H' b = some o) → SR K B1 σ ρ1 H' := fun H' ext => by
        have tups : Tups H1 H' := tups_at hp rfl ext
        refine ⟨s1.len, fun b o e => ext b o (s1.sub b o e) (ne_of_none e nb), fun i sl hi => ?_, s1.inj⟩
        obtain ⟨v, hv, r⟩ := s1.slot i sl hi
        refine ⟨v, hv, ?_⟩
        have other : ∀ dl, OwnL K B1 H1 v dl → isOwn ρ1[i]? = true → OwnL K B1 H' v dl := fun dl ⟨p', vs, a, b, c, d⟩ hoj => by
          subst a
          have hne : p' ≠ p := fun z => no ⟨i, hoj, z ▸ hv⟩
          exact ⟨p', vs, rfl, b, ext _ _ c hne, d.mono (Same.refl _) tups⟩
        cases sl with
        | dat d => exact Ip.mono (Same.refl _) tups r
        | own dl => exact other dl r (by rw [hi]; rfl)
        | inn dl => exact other dl r (by rw [hi]; rfl)
        | bor k => exact r.elim
        | dic kvs =>
          obtain ⟨p', vs, a, b, c, d⟩ := r
          subst a
          have hne : p' ≠ p := fun z => no ⟨i, by rw [hi]; rfl, z ▸ hv⟩
          exact ⟨p', vs, rfl, b, ext _ _ c hne, d.mono (Same.refl _) tups⟩
      -- seen from the heap ahead of the whole expression p is not there
      have tr : ∀ (H' : Hp), (∀ b o, H1 b = some o → b ≠ p → H' b = some o) → Tr σ B ρ H B1 ρ1 H' := fun H' ext =>
        ⟨fun b o e n => ext b o (t1.ext b o e n) (ne_of_none e fr), t1.bex, t1.bnew, t1.shp, t1.shi⟩
      refine ⟨B1, p, ws, vs, dl, ds, _, _, rfl, s1.sub, nb, hp, il.pure nl, h4.pure e1, hf _ _ _ _ q1, q1, fun v r dl' ws' H' ext hw iw rr qq => ?_, fun c dl' ws' H' ext hw iw xx => ?_⟩
      · obtain ⟨F, fs, fn, hr⟩ := rr
        have s2 := mv H' ext
        have hbf : ∀ a, F a ≠ none → B1 a = none := fun a ha => Same.bnone s1.sub (fn a ha)
        have fo : ∀ b, OwnAt σ ρ1 b → F b = none := fun b ob => by
          obtain ⟨vs, q, _⟩ := s1.own ob
          cases z : F b with
          | none => rfl
          | some o => rw [fn b (by rw [z]; simp)] at q; cases q
        have s' : SR K (uni B1 F) σ ρ1 H' := s2.grow (uni_l hbf) (uni_sub s2.sub fs) fun b ob => by
          obtain ⟨_, _, q, _⟩ := s2.own ob
          exact uni_none (fo b ob) q
        have t3 := tr H' ext
        refine q v r (uni B1 F) ρ1 H' s' ⟨t3.ext, t3.bex.trans (uni_l hbf), fun b hb => (uni_some hb).elim (t3.bnew b) fun z => .inr (t1.free s1 (fn b z)), t3.shp, t3.shi⟩ ?_ qq
        cases r with
        | dat d => exact Ip.mono uni_r (Tups.of (Same.refl _)) hr
        | own ds =>
          obtain ⟨p2, vs2, a, b, c, d, e⟩ := hr
          refine ⟨p2, vs2, a, t1.free s1 b, uni_none c (Same.bnone s1.sub b), d, e.mono uni_r (Tups.of (Same.refl _)), fun z => ?_⟩
          obtain ⟨ws, q, _⟩ := s1.own z
          rw [b] at q; cases q
        | inn ds => exact hr.elim
        | bor i => exact hr.elim
        | dic kvs => exact hr.elim
      · exact hx c B1 ρ1 H' (mv H' ext) (tr H' ext) xx
end
section
variable {X : Cx} {W : WX} {e : Expr} {es : List Expr} {wr : AW} {pos p : Pos} {k : Nat} {f : Addr} {fd : FuncData} {ps : List Str} {x : Str}
theorem de_callD {n : Nat} {g : FD} (F : FnOk X.prog X.w X.K X.mg X.base (L2.CX X.prog X.w) k f fd ps (spD X.K n g)) (hr : Room k X.A) (hg : Gl X x) (hm : X.mg x = some (.ref f)) (hk : PySem.W.keepIn X.K (.ref f) = true) (hb : Binds X.K fd ps []) (tk : Takes X W) (hf : ∀ ds Qw Xw, g ds Qw Xw → ds.length = n)
    (ha : DA X W (e :: es) wr) (hdb : (x == ("__debug__" : Str)) = false := by decide) (he : starEach (e :: es) X.env = (false, eval e X.env) :: starEach es X.env := by rfl) (hpl : (backTo pos (starEach es X.env)).any (·.1) = false := by rfl) :
    DE X W (.Call (.Name x p) (e :: es) [] pos) (wCallD g wr) := by
  obtain ⟨t, pa, sa⟩ := ha.ok
  exact ⟨_, pe_callS F hr hg hm hk hb (fun σ => passAt tk σ) pa hdb he hpl, sim_callD sa hf⟩
theorem de_callI {n : Nat} {g : FI} (F : FnOk X.prog X.w X.K X.mg X.base (L2.CX X.prog X.w) k f fd ps (spI X.K n g)) (hr : Room k X.A) (hg : Gl X x) (hm : X.mg x = some (.ref f)) (hk : PySem.W.keepIn X.K (.ref f) = true) (hb : Binds X.K fd ps []) (tk : Takes X W) (hf : ∀ dl ds Qw Xw, g dl ds Qw Xw → ds.length + 1 = n)
    (ha : DA X W (e :: es) wr) (hdb : (x == ("__debug__" : Str)) = false := by decide) (he : starEach (e :: es) X.env = (false, eval e X.env) :: starEach es X.env := by rfl) (hpl : (backTo pos (starEach es X.env)).any (·.1) = false := by rfl) :
    DE X W (.Call (.Name x p) (e :: es) [] pos) (wCallI g wr) := by
  obtain ⟨t, pa, sa⟩ := ha.ok
  exact ⟨_, pe_callS F hr hg hm hk hb (fun σ => passAt tk σ) pa hdb he hpl, sim_callI sa hf⟩
end
end DL

set_option Elab.async false
set_option linter.all false
set_option maxRecDepth 100000
set_option maxHeartbeats 4000000
/-! DLe: statements, blocks, loops, a def's body. -/
namespace DL
open PySem L2

structure EndsW where
  nx : En → Prop
  rt : Sl → En → Prop
  ex : Value → En → Prop
  bk : En → Prop := fun _ => False
  ct : En → Prop := fun _ => False
abbrev SW := EndsW → En → Prop

/-- a state in a def's body: H0, B0 at its entry; L: the lists that were lent, by slot -/
structure FR (K : PySem.W.Frag) (H0 B0 : Hp) (L : Nat → Addr → Prop) (B : Hp) (σ : St) (ρ : En) (H : Hp) : Prop extends SR K B σ ρ H where
  ext0 : ∀ b o, H0 b = some o → (∀ i, ¬ L i b) → H b = some o
  fresh : ∀ b, OwnAt σ ρ b → H0 b = none ∨ ∃ i, L i b
  keep : ∀ i b, L i b → σ[i]? = some (some (.ref b)) ∧ ∃ ds, ρ[i]? = some (some (.inn ds))
  bnew : ∀ b, B b ≠ none → B0 b ≠ none ∨ H0 b = none
/-- lists that nobody changes, tuples: they stay -/
structure Gr (B H B' H' : Hp) : Prop where
  bex : Same B B'
  tups : Tups H H'
theorem Gr.refl (B H : Hp) : Gr B H B H := ⟨Same.refl _, Tups.of (Same.refl _)⟩
theorem Gr.trans {B H B1 H1 B2 H2 : Hp} (a : Gr B H B1 H1) (b : Gr B1 H1 B2 H2) : Gr B H B2 H2 := ⟨a.bex.trans b.bex, a.tups.trans b.tups⟩
section
variable {K : PySem.W.Frag} {H0 B0 B B' B1 H H' H1 : Hp} {L : Nat → Addr → Prop} {σ σ' : St} {ρ ρ' ρ1 : En}
theorem Tr.gr (s : SR K B σ ρ H) (t : Tr σ B ρ H B' ρ' H') : Gr B H B' H' := ⟨t.bex, t.tups s⟩
theorem FR.step (f : FR K H0 B0 L B σ ρ H) (s' : SR K B' σ ρ' H') (t : Tr σ B ρ H B' ρ' H') : FR K H0 B0 L B' σ ρ' H' where
  toSR := s'
  ext0 := fun b o e n => t.ext b o (f.ext0 b o e n) fun z => by
    rcases f.fresh b z with q | ⟨i, q⟩
    · rw [e] at q; cases q
    · exact n i q
  fresh := fun b z => f.fresh b (t.ownAt.mp z)
  keep := fun i b h => by
    obtain ⟨h1, ds, h2⟩ := f.keep i b h
    exact ⟨h1, t.shi i ds h2⟩
  bnew := fun b hb => by
    rcases t.bnew b hb with z | z
    · exact f.bnew b z
    · right
      cases q : H0 b with
      | none => rfl
      | some o =>
        exfalso
        by_cases n : ∃ i, L i b
        · obtain ⟨i, hi⟩ := n
          obtain ⟨h1, ds, h2⟩ := f.keep i b hi
          obtain ⟨vs, e, _⟩ := f.toSR.own ⟨i, by rw [h2]; rfl, h1⟩
          rw [z] at e; cases e
        · rw [f.ext0 b o q fun i hi => n ⟨i, hi⟩] at z; cases z
/-- a slot is set -/
theorem SR.set (s : SR K B σ ρ H) {i : Nat} {v : V} {sl : Sl} (hi : i < σ.length) (r : SlR K B H v sl) (no : ∀ p, isOwn (some (some sl)) = true → v = .ref p → ¬ OwnAt σ ρ p) : SR K B (σ.set i (some v)) (ρ.set i (some sl)) H where
  len := by simp [s.len]
  sub := s.sub
  slot := fun j sl' h => by
    have hr : i < ρ.length := by rw [← s.len]; exact hi
    by_cases hj : j = i
    · subst hj
      rw [List.getElem?_set_self hr] at h; cases h
      exact ⟨v, by rw [List.getElem?_set_self hi], r⟩
    · rw [List.getElem?_set_ne (Ne.symm hj)] at h
      rw [List.getElem?_set_ne (Ne.symm hj)]
      exact s.slot j sl' h
  inj := fun a b p ha hb h1 h2 => by
    have hr : i < ρ.length := by rw [← s.len]; exact hi
    by_cases hai : a = i
    · by_cases hbi : b = i
      · rw [hai, hbi]
      · exfalso
        subst hai
        rw [List.getElem?_set_self hr] at ha
        rw [List.getElem?_set_self hi] at h1
        rw [List.getElem?_set_ne (Ne.symm hbi)] at hb h2
        exact no p ha (Option.some.inj (Option.some.inj h1)) ⟨b, hb, h2⟩
    · by_cases hbi : b = i
      · exfalso
        subst hbi
        rw [List.getElem?_set_self hr] at hb
        rw [List.getElem?_set_self hi] at h2
        rw [List.getElem?_set_ne (Ne.symm hai)] at ha h1
        exact no p hb (Option.some.inj (Option.some.inj h2)) ⟨a, ha, h1⟩
      · rw [List.getElem?_set_ne (Ne.symm hai)] at ha h1
        rw [List.getElem?_set_ne (Ne.symm hbi)] at hb h2
        exact s.inj a b p ha hb h1 h2
def notInn (ρ : En) (i : Nat) : Prop := match ρ[i]? with
  | some (some (.inn _)) => False
  | some _ => True
  | none => False
theorem notInn_lt {i : Nat} (h : notInn ρ i) : i < ρ.length := by
  unfold notInn at h
  cases e : ρ[i]? with
  | none => rw [e] at h; exact h.elim
  | some o => exact (List.getElem?_eq_some_iff.mp e).1
theorem FR.set (f : FR K H0 B0 L B σ ρ H) {i : Nat} {v : V} {sl : Sl} (hn : notInn ρ i) (r : SlR K B H v sl) (no : ∀ p, isOwn (some (some sl)) = true → v = .ref p → ¬ OwnAt σ ρ p ∧ H0 p = none) : FR K H0 B0 L B (σ.set i (some v)) (ρ.set i (some sl)) H where
  toSR := f.toSR.set (by rw [f.len]; exact notInn_lt hn) r fun p a b => (no p a b).1
  ext0 := f.ext0
  fresh := fun b ⟨j, h1, h2⟩ => by
    have hr : i < ρ.length := notInn_lt hn
    have hs : i < σ.length := by rw [f.len]; exact hr
    by_cases hj : j = i
    · subst hj
      rw [List.getElem?_set_self hr] at h1
      rw [List.getElem?_set_self hs] at h2
      exact .inl (no b h1 (Option.some.inj (Option.some.inj h2))).2
    · rw [List.getElem?_set_ne (Ne.symm hj)] at h1 h2
      exact f.fresh b ⟨j, h1, h2⟩
  keep := fun j b h => by
    obtain ⟨h1, ds, h2⟩ := f.keep j b h
    have hj : j ≠ i := fun z => by
      subst z
      unfold notInn at hn
      rw [h2] at hn
      exact hn
    rw [List.getElem?_set_ne (Ne.symm hj), List.getElem?_set_ne (Ne.symm hj)]
    exact ⟨h1, ds, h2⟩
  bnew := f.bnew
/-- a new list's place was free at the def's entry -/
theorem FR.free (f : FR K H0 B0 L B σ ρ H) {b : Addr} (h : H b = none) : H0 b = none := by
  cases q : H0 b with
  | none => rfl
  | some o =>
    exfalso
    by_cases n : ∃ i, L i b
    · obtain ⟨i, hi⟩ := n
      obtain ⟨h1, ds, h2⟩ := f.keep i b hi
      obtain ⟨vs, e, _⟩ := f.toSR.own ⟨i, by rw [h2]; rfl, h1⟩
      rw [h] at e; cases e
    · rw [f.ext0 b o q fun i hi => n ⟨i, hi⟩] at h; cases h
end

/-- what a return hands on -/
def RtR (K : PySem.W.Frag) (H0 B H : Hp) (v : V) : Sl → Prop
  | .dat d => Ip K B H v d
  | .own ds => ∃ p vs, v = V.ref p ∧ H0 p = none ∧ B p = none ∧ H p = some (.lst vs) ∧ IpAll K B H vs ds
  | _ => False
def SimS (K : PySem.W.Frag) (W : WX) (t : TS) (w : SW) : Prop := ∀ (H0 B0 : Hp) (L : Nat → Addr → Prop) (B : Hp) (σ : St) (ρ : En) (H : Hp) (E : Ends) (Ew : EndsW), FR K H0 B0 L B σ ρ H → w Ew ρ →
  (∀ B' σ' ρ' H', FR K H0 B0 L B' σ' ρ' H' → Gr B H B' H' → Ew.nx ρ' → E.nx σ' H') →
  (∀ v r B' σ' ρ' H', FR K H0 B0 L B' σ' ρ' H' → RtR K H0 B' H' v r → Ew.rt r ρ' → E.rt v H') →
  (∀ B' σ' ρ' H', FR K H0 B0 L B' σ' ρ' H' → Gr B H B' H' → Ew.bk ρ' → E.bk σ' H') →
  (∀ B' σ' ρ' H', FR K H0 B0 L B' σ' ρ' H' → Gr B H B' H' → Ew.ct ρ' → E.ct σ' H') →
  (∀ c B' σ' ρ' H', FR K H0 B0 L B' σ' ρ' H' → Gr B H B' H' → Ew.ex c ρ' → W c none σ' H') → t E σ H
structure DS (X : Cx) (W : WX) (st : Stmt) (w : SW) : Prop where
  ok : ∃ t, PS X st t ∧ SimS X.K W t w
structure DSs (X : Cx) (W : WX) (st : List Stmt) (w : SW) : Prop where
  ok : ∃ t, PSs X st t ∧ SimS X.K W t w

def wNext : SW := fun E ρ => E.nx ρ
def wSeq (a b : SW) : SW := fun E ρ => a { E with nx := b E } ρ
def wDrop (we : EW) : SW := fun E ρ => we ρ (fun _ ρ1 => E.nx ρ1) E.ex
/-- return e: a list of the def's own, too -/
def wRet (we : EW) : SW := fun E ρ => we ρ (fun r ρ1 => match r with
  | .dat d => E.rt (.dat d) ρ1
  | .own ds => E.rt (.own ds) ρ1
  | .bor i => match ρ1[i]? with
    | some (some (.own ds)) => E.rt (.own ds) ρ1
    | _ => False
  | _ => False) E.ex
def wRetN : SW := fun E ρ => E.rt (.dat .non) ρ
def wIf (wc : TWs) (a b : SW) : SW := fun E ρ => wc ρ (fun c ρ1 => if c = true then a E ρ1 else b E ρ1) E.ex
def wBreak : SW := fun E ρ => E.bk ρ
def wCont : SW := fun E ρ => E.ct ρ
/-- x = e -/
def wSet (i : Nat) (we : EW) : SW := fun E ρ => we ρ (fun r ρ1 => notInn ρ1 i ∧ match r with
  | .dat d => E.nx (ρ1.set i (some (.dat d)))
  | .own ds => E.nx (ρ1.set i (some (.own ds)))
  | .dic kvs => E.nx (ρ1.set i (some (.dic kvs)))
  | _ => False) E.ex
/-- x[j] = e, x a list of one's own -/
def wSetIt (i : Nat) (we wj : EW) : SW := fun E ρ => we ρ (fun r ρ1 => match r with
  | .dat d => isOwn ρ1[i]? = true ∧ wj ρ1 (fun rj ρ2 => match rj with
    | .dat (.int k) => withO ρ2 i fun ds => match ixN ds.length k with
      | some j => E.nx (setOwn ρ2 i (ds.set j d))
      | none => False
    | _ => False) E.ex
  | _ => False) E.ex
section
variable {K : PySem.W.Frag} {W : WX}
theorem sim_next : SimS K W tNext wNext := fun H0 B0 L B σ ρ H E Ew f h n r b c x => n B σ ρ H f (Gr.refl ..) h
theorem sim_seq {t u : TS} {w z : SW} (ht : SimS K W t w) (hu : SimS K W u z) : SimS K W (tSeq t u) (wSeq w z) := by
  intro H0 B0 L B σ ρ H E Ew f h n r b c x
  refine ht H0 B0 L B σ ρ H _ _ f h (fun B1 σ1 ρ1 H1 f1 g1 h1 => ?_) r b c x
  exact hu H0 B0 L B1 σ1 ρ1 H1 E Ew f1 h1 (fun B2 σ2 ρ2 H2 f2 g2 => n B2 σ2 ρ2 H2 f2 (g1.trans g2)) r (fun B2 σ2 ρ2 H2 f2 g2 => b B2 σ2 ρ2 H2 f2 (g1.trans g2)) (fun B2 σ2 ρ2 H2 f2 g2 => c B2 σ2 ρ2 H2 f2 (g1.trans g2)) (fun c B9 σ9 ρ9 H9 f9 g9 => x c B9 σ9 ρ9 H9 f9 (g1.trans g9))
theorem xw {H0 B0 B H : Hp} {L : Nat → Addr → Prop} {σ : St} {ρ : En} {Xw : Value → En → Prop} (f : FR K H0 B0 L B σ ρ H) (x : ∀ c B' σ' ρ' H', FR K H0 B0 L B' σ' ρ' H' → Gr B H B' H' → Xw c ρ' → W c none σ' H') : XWof K W σ B ρ H Xw :=
  fun c B' ρ' H' s' t' q => x c B' σ ρ' H' (f.step s' t') (t'.gr f.toSR) q
theorem sim_drop {te : TE} {we : EW} (he : SimE K W te we) : SimS K W (tDrop te) (wDrop we) := by
  intro H0 B0 L B σ ρ H E Ew f h n r b c x
  exact he B σ ρ H _ _ _ f.toSR h (xw f x) fun v rr B1 ρ1 H1 s1 t1 rv q => n B1 σ ρ1 H1 (f.step s1 t1) (t1.gr f.toSR) q
theorem sim_ret {te : TE} {we : EW} (he : SimE K W te we) : SimS K W (tRet te) (wRet we) := by
  intro H0 B0 L B σ ρ H E Ew f h n r b c x
  refine he B σ ρ H _ _ _ f.toSR h (xw f x) fun v rr B1 ρ1 H1 s1 t1 rv q => ?_
  have f1 := f.step s1 t1
  cases rr with
  | dat d => exact r v (.dat d) B1 σ ρ1 H1 f1 rv q
  | own ds =>
    obtain ⟨p, vs, a, b, c, d, e, _⟩ := rv
    exact r v (.own ds) B1 σ ρ1 H1 f1 ⟨p, vs, a, f.free b, c, d, e⟩ q
  | inn ds => exact q.elim
  | dic kvs => exact q.elim
  | bor i =>
    obtain ⟨ho, hv⟩ := rv
    have q : (match ρ1[i]? with | some (some (.own ds)) => Ew.rt (.own ds) ρ1 | _ => False) := q
    cases e : ρ1[i]? with
    | none => rw [e] at q; exact q.elim
    | some o =>
      rw [e] at q
      cases o with
      | none => exact q.elim
      | some sl =>
        cases sl with
        | own ds =>
          obtain ⟨p, vs, rfl, nb, hp, ia⟩ := s1.bor (.inl e) hv
          refine r (.ref p) (.own ds) B1 σ ρ1 H1 f1 ⟨p, vs, rfl, ?_, nb, hp, ia⟩ q
          rcases f1.fresh p ⟨i, ho, hv⟩ with z | ⟨j, z⟩
          · exact z
          · exfalso
            obtain ⟨h1, ds', h2⟩ := f1.keep j p z
            have := s1.inj i j p ho (by rw [h2]; rfl) hv h1
            subst this
            rw [e] at h2; cases h2
        | _ => exact q.elim
theorem sim_retN : SimS K W tRetN wRetN := fun H0 B0 L B σ ρ H E Ew f h n r b c x => r .non (.dat .non) B σ ρ H f .non h
theorem sim_if {tc : TT} {wc : TWs} {t u : TS} {w z : SW} (hc : SimT K W tc wc) (ht : SimS K W t w) (hu : SimS K W u z) : SimS K W (tIfS tc t u) (wIf wc w z) := by
  intro H0 B0 L B σ ρ H E Ew f h n r b c x
  refine hc B σ ρ H _ _ _ f.toSR h (xw f x) fun k B1 ρ1 H1 s1 t1 q => ?_
  have f1 := f.step s1 t1
  have g1 := t1.gr f.toSR
  cases k with
  | true => exact ht H0 B0 L B1 σ ρ1 H1 E Ew f1 q (fun B2 σ2 ρ2 H2 f2 g2 => n B2 σ2 ρ2 H2 f2 (g1.trans g2)) r (fun B2 σ2 ρ2 H2 f2 g2 => b B2 σ2 ρ2 H2 f2 (g1.trans g2)) (fun B2 σ2 ρ2 H2 f2 g2 => c B2 σ2 ρ2 H2 f2 (g1.trans g2)) (fun c B9 σ9 ρ9 H9 f9 g9 => x c B9 σ9 ρ9 H9 f9 (g1.trans g9))
  | false => exact hu H0 B0 L B1 σ ρ1 H1 E Ew f1 q (fun B2 σ2 ρ2 H2 f2 g2 => n B2 σ2 ρ2 H2 f2 (g1.trans g2)) r (fun B2 σ2 ρ2 H2 f2 g2 => b B2 σ2 ρ2 H2 f2 (g1.trans g2)) (fun B2 σ2 ρ2 H2 f2 g2 => c B2 σ2 ρ2 H2 f2 (g1.trans g2)) (fun c B9 σ9 ρ9 H9 f9 g9 => x c B9 σ9 ρ9 H9 f9 (g1.trans g9))
theorem sim_break : SimS K W tBreak wBreak := fun H0 B0 L B σ ρ H E Ew f h n r b c x => b B σ ρ H f (Gr.refl ..) h
theorem sim_cont : SimS K W tCont wCont := fun H0 B0 L B σ ρ H E Ew f h n r b c x => c B σ ρ H f (Gr.refl ..) h
theorem sim_set {te : TE} {we : EW} (i : Nat) (he : SimE K W te we) : SimS K W (tAsg te (gName i)) (wSet i we) := by
  intro H0 B0 L B σ ρ H E Ew f h n r b c x
  refine he B σ ρ H _ _ _ f.toSR h (xw f x) fun v rr B1 ρ1 H1 s1 t1 rv q => ?_
  have f1 := f.step s1 t1
  have g1 := t1.gr f.toSR
  obtain ⟨hn, q⟩ := q
  cases rr with
  | dat d => exact n B1 _ _ H1 (f1.set hn (sl := .dat d) rv fun p a => by cases a) g1 q
  | own ds =>
    obtain ⟨p, vs, a, fr, c, d, e, no⟩ := rv
    refine n B1 _ _ H1 (f1.set hn (sl := .own ds) ⟨p, vs, a, c, d, e⟩ fun p' _ e2 => ?_) g1 q
    rw [a] at e2; cases e2
    exact ⟨no, f.free fr⟩
  | dic kvs =>
    obtain ⟨p, vs, a, fr, c, d, e, no⟩ := rv
    refine n B1 _ _ H1 (f1.set hn (sl := .dic kvs) ⟨p, vs, a, c, d, e⟩ fun p' _ e2 => ?_) g1 q
    rw [a] at e2; cases e2
    exact ⟨no, f.free fr⟩
  | inn ds => exact q.elim
  | bor j => exact q.elim
theorem sim_setIt {te tj : TE} {we wj : EW} (i : Nat) (he : SimE K W te we) (hj : SimE K W tj wj) : SimS K W (tAsg te (gSub (tVar i) tj rSetL)) (wSetIt i we wj) := by
  intro H0 B0 L B σ ρ H E Ew f h n r b c x
  refine he B σ ρ H _ _ _ f.toSR h (xw f x) fun v rr B1 ρ1 H1 s1 t1 rv q => ?_
  have f1 := f.step s1 t1
  have g1 := t1.gr f.toSR
  cases rr with
  | dat d =>
    obtain ⟨ho, q⟩ := q
    obtain ⟨sl, e, ht⟩ := isOwn_some ho
    obtain ⟨u, hu, _⟩ := s1.slot i sl e
    refine ⟨u, hu, ?_⟩
    refine hj B1 σ ρ1 H1 _ _ _ s1 q (xw f1 (fun c B9 σ9 ρ9 H9 f9 g9 => x c B9 σ9 ρ9 H9 f9 (g1.trans g9))) fun vj rj B2 ρ2 H2 s2 t2 rvj q2 => ?_
    have f2 := f1.step s2 t2
    cases rj with
    | dat dj =>
      cases dj with
      | int k =>
        cases rvj
        obtain ⟨ds, e2, q2⟩ := withO_some q2
        obtain ⟨p, vs, rfl, nb, hp, ia⟩ := s2.bor e2 hu
        cases ej : ixN ds.length k with
        | none => rw [ej] at q2; exact q2.elim
        | some j =>
          rw [ej] at q2
          refine ⟨p, vs, k, j, rfl, rfl, hp, by rw [ia.length]; exact ej, ?_⟩
          have ho2 : isOwn ρ2[i]? = true := by rw [t2.shp i]; exact ho
          have tups : Tups H2 (upd H2 p (.lst (vs.set j v))) := tups_at hp rfl fun b o e hb => by rw [upd_ne hb]; exact e
          have iv : Ip K B2 H2 v d := Ip.step s1 t2 rv
          obtain ⟨s3, t3⟩ := s2.mut (ds := ds.set j d) e2 hu (fun b o e hb => by rw [upd_ne hb]; exact e) upd_same ((ia.set iv j).mono (Same.refl _) tups)
          exact n B2 σ _ _ (f2.step s3 t3) ((g1.trans (t2.gr s1)).trans (t3.gr s2)) q2
      | _ => exact q2.elim
    | _ => exact q2.elim
  | _ => exact q.elim
end
section
variable {X : Cx} {W : WX} {st : Stmt} {rest p q : List Stmt} {w z : SW} {we wj : EW} {wc : TWs} {e c tg : Expr} {pos : Pos}
theorem dss_nil : DSs X W [] wNext := ⟨_, pss_nil, sim_next⟩
theorem dss_cons (h1 : DS X W st w) (h2 : DSs X W rest z) : DSs X W (st :: rest) (wSeq w z) := by
  obtain ⟨t, pt, stt⟩ := h1.ok
  obtain ⟨u, pu, su⟩ := h2.ok
  exact ⟨_, pss_cons pt pu, sim_seq stt su⟩
theorem dss_one (h1 : DS X W st w) : DSs X W [st] w := by
  obtain ⟨t, pt, stt⟩ := h1.ok
  exact ⟨_, pss_one pt, stt⟩
theorem ds_pass : DS X W (.Pass pos) wNext := ⟨_, ps_pass, sim_next⟩
theorem ds_break : DS X W (.Break pos) wBreak := ⟨_, ps_break, sim_break⟩
theorem ds_cont : DS X W (.Continue pos) wCont := ⟨_, ps_continue, sim_cont⟩
theorem ds_expr (he : DE X W e we) (hs : swapsWith e none pos.line X.env = pure false := by rfl) : DS X W (.Expr e pos) (wDrop we) := by
  obtain ⟨t, pt, stt⟩ := he.ok
  exact ⟨_, ps_expr pt hs, sim_drop stt⟩
theorem ds_ret (he : DE X W e we) : DS X W (.Return (some e) pos) (wRet we) := by
  obtain ⟨t, pt, stt⟩ := he.ok
  exact ⟨_, ps_ret pt, sim_ret stt⟩
theorem ds_retN : DS X W (.Return none pos) wRetN := ⟨_, ps_retN, sim_retN⟩
theorem ds_if (hc : DT X W c wc) (ha : DSs X W p w) (hb : DSs X W q z) : DS X W (.If c p q pos) (wIf wc w z) := by
  obtain ⟨t, pt, stt⟩ := hc.ok
  obtain ⟨t1, pt1, st1⟩ := ha.ok
  obtain ⟨t2, pt2, st2⟩ := hb.ok
  exact ⟨_, ps_if pt pt1 pt2, sim_if stt st1 st2⟩
theorem ds_set (i : Nat) {x : Str} {pos' : Pos} (hN : X.N.Nodup) (he : DE X W e we) (hi : X.N[i]? = some x := by rfl) (hx : Loc X.env.scope x := by first | exact Or.inl rfl | exact Or.inr rfl) (hs : swapsWith e (some (.Name x pos')) pos.line X.env = pure false := by rfl) (hf : X.fn x = true ∨ X.env.scope.names.lookup x = some .local := by first | exact .inl rfl | exact .inr rfl | assumption) :
    DS X W (.Assign [.Name x pos'] e pos) (wSet i we) := by
  obtain ⟨t, pt, stt⟩ := he.ok
  exact ⟨_, ps_set hN hi hx pt hs hf, sim_set i stt⟩
end
end DL

set_option Elab.async false
set_option linter.all false
set_option maxRecDepth 100000
set_option maxHeartbeats 4000000
/-! DLf: targets, for, while, comprehensions, a def's body. -/
namespace DL
open PySem L2

/-! ### targets -/
def setsS : St → List Nat → List V → St
  | σ, i :: is, v :: vs => setsS (σ.set i (some v)) is vs
  | σ, _, _ => σ
def setsE : En → List Nat → List D → En
  | ρ, i :: is, d :: ds => setsE (ρ.set i (some (.dat d))) is ds
  | ρ, _, _ => ρ
def notInns (ρ : En) : List Nat → Prop
  | [] => True
  | i :: is => notInn ρ i ∧ notInns ρ is
def spName : D → Option (List D) := fun d => some [d]
def spTup (n : Nat) : D → Option (List D)
  | .tup ds => if ds.length = n then some ds else none
  | _ => none
def withS (o : Option (List D)) (k : List D → Prop) : Prop := match o with
  | some ds => k ds
  | none => False
theorem withS_some {o : Option (List D)} {k : List D → Prop} (h : withS o k) : ∃ ds, o = some ds ∧ k ds := by
  cases o with
  | none => exact h.elim
  | some ds => exact ⟨ds, rfl, h⟩
def SimG (K : PySem.W.Frag) (g : TG) (is : List Nat) (sp : D → Option (List D)) : Prop := ∀ (B H : Hp) (σ : St) (x : V) (d : D) (ds : List D) (Q : St → Hp → Prop), Ip K B H x d → sp d = some ds →
  (∀ vs, vs.length = is.length → IpAll K B H vs ds → Q (setsS σ is vs) H) → g x σ H Q
structure DG (X : Cx) (tg : Expr) (is : List Nat) (sp : D → Option (List D)) : Prop where
  ok : ∃ g, PG X tg g ∧ SimG X.K g is sp
section
variable {K : PySem.W.Frag}
theorem simg_name (i : Nat) : SimG K (gName i) [i] spName := fun B H σ x d ds Q h e q => by
  cases e
  exact q [x] rfl (.cons h .nil)
def gNames : List Nat → TGs
  | [] => gNil
  | i :: is => gCons (gName i) (gNames is)
theorem gNames_run {Q : St → Hp → Prop} {H : Hp} : ∀ (is : List Nat) (vs : List V) (σ : St), vs.length = is.length → Q (setsS σ is vs) H → gNames is vs σ H Q
  | [], [], σ, _, q => ⟨rfl, q⟩
  | i :: is, v :: vs, σ, h, q => ⟨v, vs, rfl, gNames_run is vs _ (by simpa using h) q⟩
  | [], _ :: _, _, h, _ => by simp at h
  | _ :: _, [], _, h, _ => by simp at h
theorem simg_tup (is : List Nat) : SimG K (gTup K is.length (gNames is)) is (spTup is.length) := fun B H σ x d ds Q h e q => by
  cases d with
  | tup es =>
    by_cases hl : es.length = is.length
    · have e : (if es.length = is.length then some es else none) = some ds := e
      rw [if_pos hl] at e
      cases e
      cases h with
      | tup hh hi =>
        have hv := hi.length.trans hl
        exact ⟨_, _, rfl, hh.sq, hv, gNames_run is _ σ hv (q _ hv hi)⟩
    · have e : (if es.length = is.length then some es else none) = some ds := e
      rw [if_neg hl] at e
      cases e
  | _ => cases e
end
section
variable {X : Cx} {pos : Pos}
theorem dg_name (i : Nat) {x : Str} (hN : X.N.Nodup) (hi : X.N[i]? = some x := by rfl) (hx : Loc X.env.scope x := by first | exact Or.inl rfl | exact Or.inr rfl) (hf : X.fn x = true ∨ X.env.scope.names.lookup x = some .local := by first | exact .inl rfl | exact .inr rfl | assumption) : DG X (.Name x pos) [i] spName :=
  ⟨_, pg_name hN hi hx hf, simg_name i⟩
structure DGs (X : Cx) (es : List Expr) (is : List Nat) : Prop where
  ok : PGs X es (gNames is)
theorem dgs_nil : DGs X [] [] := ⟨pgs_nil⟩
theorem dgs_cons (i : Nat) {x : Str} {es : List Expr} {is : List Nat} (hN : X.N.Nodup) (h2 : DGs X es is) (hi : X.N[i]? = some x := by rfl) (hx : Loc X.env.scope x := by first | exact Or.inl rfl | exact Or.inr rfl) (hf : X.fn x = true ∨ X.env.scope.names.lookup x = some .local := by first | exact .inl rfl | exact .inr rfl | assumption)
    (ha : (assignEach (.Name x pos :: es) X.env).map (·.2) = assign (.Name x pos) X.env :: (assignEach es X.env).map (·.2) := by rfl) : DGs X (.Name x pos :: es) (i :: is) := ⟨pgs_cons (pg_name hN hi hx hf) h2.ok ha⟩
theorem dg_tup {es : List Expr} {is : List Nat} {k : Nat} (hc : X.calm = true) (h : DGs X es is) (hn : (assignEach es X.env).length = is.length := by rfl) (hst : (assignEach es X.env).findIdx? (·.1) = none := by rfl) : DG X (.Tuple es k pos) is (spTup is.length) :=
  ⟨_, pg_tup hc h.ok hn hst, simg_tup is⟩
end

section
variable {K : PySem.W.Frag} {H0 B0 B B' H H' : Hp} {L : Nat → Addr → Prop} {σ : St} {ρ : En}
theorem notInn_set {i j : Nat} {d : D} (h : notInn ρ j) : notInn (ρ.set i (some (.dat d))) j := by
  by_cases e : j = i
  · subst e
    have := notInn_lt h
    unfold notInn
    rw [List.getElem?_set_self this]
    trivial
  · unfold notInn at h ⊢
    rw [List.getElem?_set_ne (Ne.symm e)]
    exact h
theorem notInns_set {i : Nat} {d : D} : ∀ {is : List Nat}, notInns ρ is → notInns (ρ.set i (some (.dat d))) is
  | [], h => h
  | j :: is, h => ⟨notInn_set h.1, notInns_set h.2⟩
theorem FR.sets : ∀ {is : List Nat} {vs : List V} {ds : List D} {σ : St} {ρ : En}, FR K H0 B0 L B σ ρ H → notInns ρ is → IpAll K B H vs ds → FR K H0 B0 L B (setsS σ is vs) (setsE ρ is ds) H
  | [], vs, ds, σ, ρ, f, _, _ => by cases vs <;> cases ds <;> exact f
  | i :: is, [], [], σ, ρ, f, _, _ => f
  | i :: is, v :: vs, d :: ds, σ, ρ, f, hn, .cons h t => FR.sets (is := is) (vs := vs) (ds := ds) (σ := σ.set i (some v)) (ρ := ρ.set i (some (.dat d))) (f.set hn.1 (sl := .dat d) h fun p a => by cases a) (notInns_set hn.2) t
theorem FR.same (f : FR K H0 B0 L B σ ρ H) (e : Same H H') : FR K H0 B0 L B σ ρ H' := f.step (f.toSR.same e) (Tr.same e)
end

/-! ### what is walked -/
def okS (B0 H0 : Hp) (B H : Hp) : Prop := Same B0 B ∧ Tups H0 H ∧ Same B H
structure Wk (K : PySem.W.Frag) (J : It) (ds : List D) (ok : Hp → Hp → Prop) : Prop where
  go : ∀ k B H, ok B H → k < ds.length → J.go k H
  yld : ∀ k B H x H', ok B H → J.yld k H x H' → k < ds.length → ∃ d, ds[k]? = some d ∧ Same H H' ∧ Ip K B H' x d
  stop : ∀ k B H, ok B H → ds.length ≤ k → J.stop k H
abbrev IW := En → (List D → En → Prop) → (Value → En → Prop) → Prop
def SimI (K : PySem.W.Frag) (W : WX) (wi : TI) (w : IW) : Prop := ∀ (B : Hp) (σ : St) (ρ : En) (H : Hp) (Qw : List D → En → Prop) (Xw : Value → En → Prop) (R : It → Hp → Prop), SR K B σ ρ H → w ρ Qw Xw → XWof K W σ B ρ H Xw →
  (∀ J ds B' ρ' H', SR K B' σ ρ' H' → Tr σ B ρ H B' ρ' H' → Wk K J ds (okS B' H') → Qw ds ρ' → R J H') → wi σ H R
structure DI (X : Cx) (W : WX) (tg iter : Expr) (w : IW) : Prop where
  ok : ∃ wi, PI X tg iter wi ∧ SimI X.K W wi w

/-! ### for -/
def wFor (wi : IW) (is : List Nat) (sp : D → Option (List D)) (wb : SW) : SW := fun E ρ => wi ρ (fun ds ρ1 => ∃ W : Nat → En → Prop, W 0 ρ1 ∧ (∀ ρ2, W ds.length ρ2 → E.nx ρ2) ∧
  ∀ i d ρ2, ds[i]? = some d → W i ρ2 → withS (sp d) fun es => notInns ρ2 is ∧ wb { E with nx := W (i + 1), ct := W (i + 1), bk := E.nx } (setsE ρ2 is es)) E.ex
def wWhile (wc : TWs) (wb : SW) : SW := fun E ρ => ∃ W : Nat → En → Prop, (∃ m, W m ρ) ∧ ∀ m ρ1, W m ρ1 →
  wc ρ1 (fun b ρ2 => if b = true then wb { E with nx := fun ρ' => ∃ m', m' < m ∧ W m' ρ', ct := fun ρ' => ∃ m', m' < m ∧ W m' ρ', bk := E.nx } ρ2 else E.nx ρ2) E.ex
section
variable {K : PySem.W.Frag} {W : WX}
theorem sim_for {wi : TI} {w : IW} {g : TG} {is : List Nat} {sp : D → Option (List D)} {tb : TS} {wb : SW} (hi : SimI K W wi w) (hg : SimG K g is sp) (hb : SimS K W tb wb) : SimS K W (tFor wi g tb) (wFor w is sp wb) := by
  intro H0 B0 L B σ ρ H E Ew f h n r b c x
  refine hi B σ ρ H _ _ _ f.toSR h (xw f x) fun J ds B1 ρ1 H1 s1 t1 wk q => ?_
  obtain ⟨Wd, w0, wend, turn⟩ := q
  have g1 := t1.gr f.toSR
  refine ⟨fun i m σ2 H2 => i + m = ds.length ∧ ∃ B2 ρ2, FR K H0 B0 L B2 σ2 ρ2 H2 ∧ Gr B1 H1 B2 H2 ∧ Wd i ρ2, ⟨ds.length, by omega, B1, ρ1, f.step s1 t1, Gr.refl .., w0⟩, ?_⟩
  rintro i m σ2 H2 ⟨hm, B2, ρ2, f2, g2, w2⟩
  have ok2 : okS B1 H1 B2 H2 := ⟨g2.bex, g2.tups, f2.sub⟩
  by_cases hlt : i < ds.length
  · right
    refine ⟨wk.go i B2 H2 ok2 hlt, fun σ' H' => ∃ B' ρ', FR K H0 B0 L B' σ' ρ' H' ∧ Gr B1 H1 B' H' ∧ Wd (i + 1) ρ', fun σ' H' ⟨B', ρ', f', g', w'⟩ => ⟨m - 1, by omega, by omega, B', ρ', f', g', w'⟩, fun v H3 hy => ?_⟩
    obtain ⟨d, ed, sm, iv⟩ := wk.yld i B2 H2 v H3 ok2 hy hlt
    have tn := turn i d ρ2 ed w2
    obtain ⟨es, ee, hn, tn⟩ := withS_some tn
    have f3 := f2.same sm
    have g3 : Gr B1 H1 B2 H3 := g2.trans ⟨Same.refl _, Tups.of sm⟩
    refine hg B2 H3 σ2 v d es _ iv ee fun vs hl ia => ?_
    refine hb H0 B0 L B2 _ _ H3 _ _ (f3.sets hn ia) tn ?_ r ?_ ?_ (fun c B9 σ9 ρ9 H9 f9 g9 => x c B9 σ9 ρ9 H9 f9 ((g1.trans g3).trans g9))
    · exact fun B4 σ4 ρ4 H4 f4 g4 q4 => ⟨B4, ρ4, f4, g3.trans g4, q4⟩
    · exact fun B4 σ4 ρ4 H4 f4 g4 q4 => n B4 σ4 ρ4 H4 f4 (g1.trans (g3.trans g4)) q4
    · exact fun B4 σ4 ρ4 H4 f4 g4 q4 => ⟨B4, ρ4, f4, g3.trans g4, q4⟩
  · left
    have hi' : i = ds.length := by omega
    subst hi'
    exact ⟨wk.stop _ B2 H2 ok2 (Nat.le_refl _), n B2 σ2 ρ2 H2 f2 (g1.trans g2) (wend ρ2 w2)⟩
theorem sim_while {tc : TT} {wc : TWs} {tb : TS} {wb : SW} (hc : SimT K W tc wc) (hb : SimS K W tb wb) : SimS K W (tWhile tc tb) (wWhile wc wb) := by
  intro H0 B0 L B σ ρ H E Ew f h n r b c x
  obtain ⟨Wd, ⟨m0, w0⟩, turn⟩ := h
  refine ⟨fun m σ2 H2 => ∃ B2 ρ2, FR K H0 B0 L B2 σ2 ρ2 H2 ∧ Gr B H B2 H2 ∧ Wd m ρ2, ⟨m0, B, ρ, f, Gr.refl .., w0⟩, ?_⟩
  rintro m σ2 H2 ⟨B2, ρ2, f2, g2, w2⟩
  refine hc B2 σ2 ρ2 H2 _ _ _ f2.toSR (turn m ρ2 w2) (xw f2 (fun c B9 σ9 ρ9 H9 f9 g9 => x c B9 σ9 ρ9 H9 f9 (g2.trans g9))) fun k B3 ρ3 H3 s3 t3 q => ?_
  have f3 := f2.step s3 t3
  have g3 := g2.trans (t3.gr f2.toSR)
  cases k with
  | false => exact n B3 σ2 ρ3 H3 f3 g3 q
  | true =>
    refine ⟨fun σ' H' => ∃ m', m' < m ∧ ∃ B' ρ', FR K H0 B0 L B' σ' ρ' H' ∧ Gr B H B' H' ∧ Wd m' ρ', fun σ' H' z => z, ?_⟩
    refine hb H0 B0 L B3 σ2 ρ3 H3 _ _ f3 q ?_ r ?_ ?_ (fun c B9 σ9 ρ9 H9 f9 g9 => x c B9 σ9 ρ9 H9 f9 (g3.trans g9))
    · exact fun B4 σ4 ρ4 H4 f4 g4 ⟨m', hm, q4⟩ => ⟨m', hm, B4, ρ4, f4, g3.trans g4, q4⟩
    · exact fun B4 σ4 ρ4 H4 f4 g4 q4 => n B4 σ4 ρ4 H4 f4 (g3.trans g4) q4
    · exact fun B4 σ4 ρ4 H4 f4 g4 ⟨m', hm, q4⟩ => ⟨m', hm, B4, ρ4, f4, g3.trans g4, q4⟩
end
section
variable {X : Cx} {W : WX} {tg iter c : Expr} {body : List Stmt} {w : IW} {is : List Nat} {sp : D → Option (List D)} {wb : SW} {wc : TWs} {pos : Pos}
theorem ds_for (hp : PassesOwn (model X.prog X.w) X.A X.env X.xe) (hc : X.calm = true) (hi : DI X W tg iter w) (hg : DG X tg is sp) (hb : DSs X W body wb) (hs : ∀ x, foldedSetIterable iter X.env x = pure x := by intro _; rfl) : DS X W (.For tg iter body [] pos) (wFor w is sp wb) := by
  obtain ⟨wi, pi, si⟩ := hi.ok
  obtain ⟨g, pg, sg⟩ := hg.ok
  obtain ⟨tb, pb, sb⟩ := hb.ok
  exact ⟨_, ps_for hp hc pi pg pb hs, sim_for si sg sb⟩
theorem ds_while (hp : PassesOwn (model X.prog X.w) X.A X.env X.xe) (hc : DT X W c wc) (hb : DSs X W body wb) : DS X W (.While c body [] pos) (wWhile wc wb) := by
  obtain ⟨tc, pc, sc⟩ := hc.ok
  obtain ⟨tb, pb, sb⟩ := hb.ok
  exact ⟨_, ps_while hp pc pb, sim_while sc sb⟩
end

/-! ### comprehensions -/
def wipeE (ρ : En) : List Nat → En
  | [] => ρ
  | v :: vs => (wipeE ρ vs).set v none
def noOwns (ρ : En) (vs : List Nat) : Prop := ∀ v ∈ vs, isOwn ρ[v]? = false
def wYes : TWs := fun ρ Q _ => Q true ρ
def wLc (wi : IW) (is : List Nat) (sp : D → Option (List D)) (wt : TWs) (we : EW) (vs : List Nat) : EW := fun ρ Q X => wi ρ (fun ds ρ1 => noOwns ρ1 vs ∧ ∃ W : Nat → List D → En → Prop, W 0 [] (wipeE ρ1 vs) ∧ (∀ acc ρ2, W ds.length acc ρ2 → Q (.own acc) ρ2) ∧
  ∀ i d acc ρ2, ds[i]? = some d → W i acc ρ2 → withS (sp d) fun es => notInns (wipeE ρ2 vs) is ∧ wt (setsE (wipeE ρ2 vs) is es) (fun b ρ3 => if b = true then we ρ3 (fun r ρ4 => withD [r] fun rs => acc.length < sizeLine ∧ W (i + 1) (acc ++ rs) (wipeE ρ4 vs)) (fun _ _ => False) else W (i + 1) acc (wipeE ρ3 vs)) (fun _ _ => False)) X
section
variable {K : PySem.W.Frag} {B B' H H' : Hp} {σ σ' : St} {ρ ρ' : En}
theorem wipeE_length : ∀ vs : List Nat, (wipeE ρ vs).length = ρ.length
  | [] => rfl
  | v :: vs => by unfold wipeE; rw [List.length_set, wipeE_length vs]
theorem wipeE_in {i : Nat} : ∀ {vs : List Nat}, i ∈ vs → isOwn (wipeE ρ vs)[i]? = false ∧ ∀ sl, (wipeE ρ vs)[i]? ≠ some (some sl)
  | v :: vs, h => by
    unfold wipeE
    by_cases hi : v = i
    · subst hi
      by_cases hv : v < (wipeE ρ vs).length
      · rw [List.getElem?_set_self hv]; exact ⟨rfl, fun sl z => by cases z⟩
      · rw [List.getElem?_eq_none (by simpa using hv)]; exact ⟨rfl, fun sl z => by cases z⟩
    · rw [List.getElem?_set_ne hi]
      exact wipeE_in ((List.mem_cons.mp h).resolve_left fun e => hi e.symm)
theorem wipeE_out {i : Nat} : ∀ {vs : List Nat}, i ∉ vs → (wipeE ρ vs)[i]? = ρ[i]?
  | [], _ => rfl
  | v :: vs, h => by
    rw [List.mem_cons, not_or] at h
    unfold wipeE
    rw [List.getElem?_set_ne (fun e => h.1 e.symm)]
    exact wipeE_out h.2
theorem wipeS_out {i : Nat} : ∀ {vs : List Nat}, i ∉ vs → (wipe σ vs)[i]? = σ[i]?
  | [], _ => rfl
  | v :: vs, h => by
    rw [List.mem_cons, not_or] at h
    unfold wipe
    rw [List.getElem?_set_ne (fun e => h.1 e.symm)]
    exact wipeS_out h.2
/-- the slots outside vs are the same -/
def AgS (σ σ' : St) (vs : List Nat) : Prop := σ'.length = σ.length ∧ ∀ i, i ∉ vs → σ'[i]? = σ[i]?
theorem SR.agree {vs : List Nat} (s : SR K B σ ρ H) (a : AgS σ σ' vs) : SR K B σ' (wipeE ρ vs) H where
  len := by rw [wipeE_length, a.1]; exact s.len
  sub := s.sub
  slot := fun i sl h => by
    by_cases hi : i ∈ vs
    · exact absurd h ((wipeE_in hi).2 sl)
    · rw [wipeE_out hi] at h
      obtain ⟨v, hv, r⟩ := s.slot i sl h
      exact ⟨v, by rw [a.2 i hi]; exact hv, r⟩
  inj := fun i j p h1 h2 h3 h4 => by
    have hi : i ∉ vs := fun z => by rw [(wipeE_in z).1] at h1; cases h1
    have hj : j ∉ vs := fun z => by rw [(wipeE_in z).1] at h2; cases h2
    rw [wipeE_out hi] at h1
    rw [wipeE_out hj] at h2
    rw [a.2 i hi] at h3
    rw [a.2 j hj] at h4
    exact s.inj i j p h1 h2 h3 h4
theorem AgS.wipe (σ : St) (vs : List Nat) : AgS σ (wipe σ vs) vs := ⟨wipe_length σ vs, fun i hi => wipeS_out hi⟩
theorem AgS.symm {vs : List Nat} (a : AgS σ σ' vs) : AgS σ' σ vs := ⟨a.1.symm, fun i hi => (a.2 i hi).symm⟩
theorem AgS.trans {σ1 σ2 σ3 : St} {vs : List Nat} (a : AgS σ1 σ2 vs) (b : AgS σ2 σ3 vs) : AgS σ1 σ3 vs := ⟨b.1.trans a.1, fun i hi => (b.2 i hi).trans (a.2 i hi)⟩
theorem AgS.sets {vs : List Nat} : ∀ {is : List Nat} {ws : List V} {σ : St}, (∀ i ∈ is, i ∈ vs) → AgS σ (setsS σ is ws) vs
  | [], ws, σ, _ => by cases ws <;> exact ⟨rfl, fun _ _ => rfl⟩
  | i :: is, [], σ, _ => ⟨rfl, fun _ _ => rfl⟩
  | i :: is, w :: ws, σ, h => by
    have a := AgS.sets (vs := vs) (is := is) (ws := ws) (σ := σ.set i (some w)) fun j hj => h j (List.mem_cons_of_mem _ hj)
    refine ⟨a.1.trans (by simp), fun j hj => (a.2 j hj).trans ?_⟩
    have hij : i ≠ j := fun e => hj (by rw [← e]; exact h i List.mem_cons_self)
    rw [List.getElem?_set_ne hij]
theorem AgS.wipe_eq {vs : List Nat} (a : AgS σ σ' vs) : L2.wipe σ' vs = L2.wipe σ vs := by
  apply List.ext_getElem?
  intro i
  by_cases hi : i ∈ vs
  · have key : ∀ (τ : St) (ws : List Nat), i ∈ ws → (L2.wipe τ ws)[i]? = if i < τ.length then some none else none := by
      intro τ ws
      induction ws with
      | nil => intro h; cases h
      | cons v ws ih =>
        intro h
        unfold L2.wipe
        by_cases hv : v = i
        · subst hv
          by_cases hl : v < (L2.wipe τ ws).length
          · rw [List.getElem?_set_self hl, if_pos (by rw [wipe_length] at hl; exact hl)]
          · rw [List.getElem?_eq_none (by simpa using hl), if_neg (by rw [wipe_length] at hl; exact hl)]
        · rw [List.getElem?_set_ne hv]
          exact ih ((List.mem_cons.mp h).resolve_left fun e => hv e.symm)
    rw [key _ _ hi, key _ _ hi, a.1]
  · rw [wipeS_out hi, wipeS_out hi]
    exact a.2 i hi
theorem ownAt_agree {vs : List Nat} (a : AgS σ σ' vs) {b : Addr} (h : OwnAt σ' (wipeE ρ vs) b) : OwnAt σ ρ b := by
  obtain ⟨i, h1, h2⟩ := h
  have hi : i ∉ vs := fun z => by rw [(wipeE_in z).1] at h1; cases h1
  exact ⟨i, by rw [← wipeE_out (vs := vs) hi]; exact h1, by rw [← a.2 i hi]; exact h2⟩
theorem ownAt_agree' {vs : List Nat} (no : noOwns ρ vs) (a : AgS σ σ' vs) {b : Addr} (h : OwnAt σ ρ b) : OwnAt σ' (wipeE ρ vs) b := by
  obtain ⟨i, h1, h2⟩ := h
  have hi : i ∉ vs := fun z => by rw [no i z] at h1; cases h1
  exact ⟨i, by rw [wipeE_out hi]; exact h1, by rw [a.2 i hi]; exact h2⟩
/-- a list that is nobody's gets other items -/
theorem SR.other (s : SR K B σ ρ H) {p : Addr} {vs ws : List V} (hp : H p = some (.lst vs)) (no : ¬ OwnAt σ ρ p) (nb : B p = none) : SR K B σ ρ (upd H p (.lst ws)) := by
  have ext : ∀ b o, H b = some o → b ≠ p → (upd H p (.lst ws)) b = some o := fun b o e h => by rw [upd_ne h]; exact e
  have tups : Tups H (upd H p (.lst ws)) := tups_at hp rfl ext
  refine ⟨s.len, fun b o e => ext b o (s.sub b o e) (ne_of_none e nb), fun i sl hi => ?_, s.inj⟩
  obtain ⟨v, hv, r⟩ := s.slot i sl hi
  refine ⟨v, hv, ?_⟩
  have oth : ∀ dl, OwnL K B H v dl → isOwn ρ[i]? = true → OwnL K B (upd H p (.lst ws)) v dl := fun dl ⟨p', us, a, b, c, d⟩ hoj => by
    subst a
    have hne : p' ≠ p := fun z => no ⟨i, hoj, z ▸ hv⟩
    exact ⟨p', us, rfl, b, ext _ _ c hne, d.mono (Same.refl _) tups⟩
  cases sl with
  | dat d => exact Ip.mono (Same.refl _) tups r
  | own dl => exact oth dl r (by rw [hi]; rfl)
  | inn dl => exact oth dl r (by rw [hi]; rfl)
  | bor k => exact r.elim
  | dic kvs =>
    obtain ⟨p', us, a, b, c, d⟩ := r
    subst a
    have hne : p' ≠ p := fun z => no ⟨i, by rw [hi]; rfl, z ▸ hv⟩
    exact ⟨p', us, rfl, b, ext _ _ c hne, d.mono (Same.refl _) tups⟩
theorem tups_other {p : Addr} {vs ws : List V} (hp : H p = some (.lst vs)) : Tups H (upd H p (.lst ws)) := tups_at hp rfl fun b o e hb => by rw [upd_ne hb]; exact e
theorem SR.sets : ∀ {is : List Nat} {vs : List V} {ds : List D} {σ : St} {ρ : En}, SR K B σ ρ H → notInns ρ is → IpAll K B H vs ds → SR K B (setsS σ is vs) (setsE ρ is ds) H
  | [], vs, ds, σ, ρ, f, _, _ => by cases vs <;> cases ds <;> exact f
  | i :: is, [], [], σ, ρ, f, _, _ => f
  | i :: is, v :: vs, d :: ds, σ, ρ, f, hn, .cons h t => SR.sets (is := is) (vs := vs) (ds := ds) (σ := σ.set i (some v)) (ρ := ρ.set i (some (.dat d))) (f.set (by rw [f.len]; exact notInn_lt hn.1) (sl := .dat d) h fun p a => by cases a) (notInns_set hn.2) t
theorem setsE_wipe {vs : List Nat} : ∀ {is : List Nat} {ds : List D} {ρ : En}, (∀ i ∈ is, i ∈ vs) → ∀ j, j ∉ vs → (setsE ρ is ds)[j]? = ρ[j]?
  | [], ds, ρ, _, j, _ => by cases ds <;> rfl
  | i :: is, [], ρ, _, j, _ => rfl
  | i :: is, d :: ds, ρ, h, j, hj => by
    have hij : i ≠ j := fun e => hj (by rw [← e]; exact h i List.mem_cons_self)
    rw [show setsE ρ (i :: is) (d :: ds) = setsE (ρ.set i (some (.dat d))) is ds from rfl, setsE_wipe (fun k hk => h k (List.mem_cons_of_mem _ hk)) j hj, List.getElem?_set_ne hij]
theorem setsE_own {vs : List Nat} : ∀ {is : List Nat} {ds : List D} {ρ : En} (j : Nat), isOwn ρ[j]? = false → isOwn (setsE ρ is ds)[j]? = false
  | [], ds, ρ, j, h => by cases ds <;> exact h
  | i :: is, [], ρ, j, h => h
  | i :: is, d :: ds, ρ, j, h => by
    refine setsE_own (vs := vs) (is := is) (ds := ds) (ρ := ρ.set i (some (.dat d))) j ?_
    by_cases e : i = j
    · subst e
      by_cases hl : i < ρ.length
      · rw [List.getElem?_set_self hl]; rfl
      · rw [List.getElem?_eq_none (by simpa using hl)]; rfl
    · rw [List.getElem?_set_ne e]; exact h
end
section
variable {K : PySem.W.Frag} {W : WX}
theorem sim_lc {wi : TI} {w : IW} {g : TG} {is : List Nat} {sp : D → Option (List D)} {tt : TT} {wt : TWs} {te : TE} {we : EW} {vs : List Nat} (hi : SimI K W wi w) (hg : SimG K g is sp) (hiv : ∀ i ∈ is, i ∈ vs) (ht : SimT K (fun _ _ _ _ => False) tt wt) (he : SimE K (fun _ _ _ _ => False) te we) :
    SimE K W (tLc wi g tt te vs) (wLc w is sp wt we vs) := by
  intro B σ ρ H Qw Xw Q s h hx q
  refine hi B σ ρ H _ _ _ s h hx fun J ds B1 ρ1 H1 s1 t1 wk q1 => ?_
  obtain ⟨no, Wd, w0, wend, turn⟩ := q1
  intro a ha
  have na : ¬ OwnAt σ ρ1 a := fun z => by obtain ⟨_, e, _⟩ := s1.own z; rw [ha] at e; cases e
  have nb1 : B1 a = none := Same.bnone s1.sub ha
  have wip : ∀ {B ρ H}, SR K B σ ρ H → SR K B σ (wipeE ρ vs) H := fun s => s.agree ⟨rfl, fun _ _ => rfl⟩
  -- the state between two turns
  refine ⟨fun i m H2 => i + m = ds.length ∧ ∃ B2 ρ2 acc us, SR K B2 σ ρ2 H2 ∧ Tr σ B1 ρ1 H1 B2 ρ2 H2 ∧ H2 a = some (.lst us) ∧ B2 a = none ∧ IpAll K B2 H2 us acc ∧ Wd i acc ρ2, ⟨ds.length, by omega, B1, wipeE ρ1 vs, [], [], ?_, ?_, upd_same, nb1, .nil, w0⟩, ?_⟩
  · exact (wip s1).same fun b o e => by rw [upd_ne (ne_of_none e ha)]; exact e
  · refine ⟨fun b o e _ => by rw [upd_ne (ne_of_none e ha)]; exact e, Same.refl _, fun b hb => .inl hb, fun j => ?_, fun j dl e => ?_⟩
    · by_cases hj : j ∈ vs
      · rw [(wipeE_in hj).1, no j hj]
      · rw [wipeE_out hj]
    · have hj : j ∉ vs := fun z => by have := no j z; rw [e] at this; cases this
      exact ⟨dl, by rw [wipeE_out hj]; exact e⟩
  rintro i m H2 ⟨hm, B2, ρ2, acc, us, s2, t2, h2a, b2a, iacc, w2⟩
  have na2 : ¬ OwnAt σ ρ2 a := fun z => na (t2.ownAt.mp z)
  have no2 : noOwns ρ2 vs := fun j hj => by rw [t2.shp j]; exact no j hj
  have ok2 : okS B1 H1 B2 H2 := ⟨t2.bex, t2.tups s1, s2.sub⟩
  by_cases hlt : i < ds.length
  · right
    refine ⟨wk.go i B2 H2 ok2 hlt, fun H' => ∃ B' ρ' acc' us', SR K B' σ ρ' H' ∧ Tr σ B1 ρ1 H1 B' ρ' H' ∧ H' a = some (.lst us') ∧ B' a = none ∧ IpAll K B' H' us' acc' ∧ Wd (i + 1) acc' ρ',
      fun H' z => ⟨m - 1, by omega, by omega, z⟩, fun v H3 hy => ?_⟩
    obtain ⟨d, ed, sm, iv⟩ := wk.yld i B2 H2 v H3 ok2 hy hlt
    have tn := turn i d acc ρ2 ed w2
    obtain ⟨es, ee, hn, tn⟩ := withS_some tn
    refine hg B2 H3 (wipe σ vs) v d es _ iv ee fun ws hl ia => ?_
    have ag0 : AgS σ (wipe σ vs) vs := AgS.wipe σ vs
    have ag : AgS σ (setsS (wipe σ vs) is ws) vs := ag0.trans (AgS.sets hiv)
    refine ⟨by rw [(AgS.sets (σ := wipe σ vs) (ws := ws) hiv).wipe_eq]; exact ag0.wipe_eq, ?_⟩
    have s3 : SR K B2 (setsS (wipe σ vs) is ws) (setsE (wipeE ρ2 vs) is es) H3 := ((s2.same sm).agree ag0).sets hn ia
    -- from an inner state back to an outer one
    have out : ∀ {B5 ρ5 H5}, SR K B5 (setsS (wipe σ vs) is ws) ρ5 H5 → Tr (setsS (wipe σ vs) is ws) B2 (setsE (wipeE ρ2 vs) is es) H3 B5 ρ5 H5 →
        SR K B5 σ (wipeE ρ5 vs) H5 ∧ Tr σ B2 ρ2 H2 B5 (wipeE ρ5 vs) H5 := fun {B5 ρ5 H5} s5 t5 => by
      have shp0 : ∀ j, isOwn (setsE (wipeE ρ2 vs) is es)[j]? = isOwn ρ2[j]? := fun j => by
        by_cases hj : j ∈ vs
        · rw [no2 j hj]; exact setsE_own (vs := vs) j (wipeE_in hj).1
        · rw [setsE_wipe hiv j hj, wipeE_out hj]
      have oa : ∀ b, OwnAt (setsS (wipe σ vs) is ws) (setsE (wipeE ρ2 vs) is es) b → OwnAt σ ρ2 b := fun b ⟨j, h1, h2⟩ => by
        rw [shp0 j] at h1
        have hj : j ∉ vs := fun z => by rw [no2 j z] at h1; cases h1
        exact ⟨j, h1, by rw [← ag.2 j hj]; exact h2⟩
      refine ⟨s5.agree ag.symm, ⟨fun b o e n => t5.ext b o (sm b o e) fun z => n (oa b z), t5.bex, fun b hb => (t5.bnew b hb).imp id fun z => ?_, fun j => ?_, fun j dl e => ?_⟩⟩
      · cases qq : H2 b with
        | none => rfl
        | some o => rw [sm b o qq] at z; cases z
      · by_cases hj : j ∈ vs
        · rw [(wipeE_in hj).1, no2 j hj]
        · rw [wipeE_out hj, t5.shp j, shp0 j]
      · have hj : j ∉ vs := fun z => by have := no2 j z; rw [e] at this; cases this
        obtain ⟨d', e'⟩ := t5.shi j dl (by rw [setsE_wipe hiv j hj, wipeE_out hj]; exact e)
        exact ⟨d', by rw [wipeE_out hj]; exact e'⟩
    have keepA : ∀ {B5 ρ5 H5}, Tr σ B2 ρ2 H2 B5 ρ5 H5 → H5 a = some (.lst us) ∧ B5 a = none := fun {B5 ρ5 H5} t5 => ⟨t5.ext a _ h2a na2, by
      cases qq : B5 a with
      | none => rfl
      | some o =>
        exfalso
        rcases t5.bnew a (by rw [qq]; simp) with z | z
        · exact z b2a
        · rw [h2a] at z; cases z⟩
    refine ht B2 _ _ H3 _ _ _ s3 tn (fun _ _ _ _ _ _ z => z) fun b B4 ρ4 H4 s4 t4 q4 => ?_
    cases b with
    | false =>
      obtain ⟨so, tro⟩ := out s4 t4
      obtain ⟨k1, k2⟩ := keepA tro
      exact ⟨B4, wipeE ρ4 vs, acc, us, so, t2.trans s2 tro, k1, k2, IpAll.step s2 tro iacc, q4⟩
    | true =>
      refine he B4 _ ρ4 H4 _ _ _ s4 q4 (fun _ _ _ _ _ _ z => z) fun y r B5 ρ5 H5 s5 t5 rv q5 => ?_
      obtain ⟨rs, e5, hsz, q5⟩ := withD_some q5
      have rva : RvAll K B5 (setsS (wipe σ vs) is ws) ρ5 H5 H4 [y] [r] := .cons (H1 := H5) rv (fun b hb => t5.free s5 hb) (fun p dl e1 e2 => by
        subst e1
        obtain ⟨p', vs', e, _, _, hp, _⟩ := rv
        rw [e2] at e; cases e
        rw [hp]; simp) .nil
      obtain ⟨B6, s6, bb, bn, iy⟩ := rva.freeze s5 e5
      have t6 : Tr (setsS (wipe σ vs) is ws) B4 ρ4 H4 B6 ρ5 H5 := ⟨t5.ext, t5.bex.trans bb, fun b hb => (bn b hb).elim (fun z => t5.bnew b z) .inr, t5.shp, t5.shi⟩
      obtain ⟨so, tro⟩ := out s6 (t4.trans s4 t6)
      obtain ⟨k1, k2⟩ := keepA tro
      have iacc' := IpAll.step s2 tro iacc
      refine ⟨us, k1, by rw [iacc.length]; exact hsz, B6, wipeE ρ5 vs, acc ++ rs, us ++ [y], ?_, ?_, upd_same, k2, ?_, q5⟩
      · exact so.other k1 (fun z => na ((t2.trans s2 tro).ownAt.mp z)) k2
      · have tt := t2.trans s2 tro
        exact ⟨fun b o e n => by rw [upd_ne (ne_of_none e ha)]; exact tt.ext b o e n, tt.bex, tt.bnew, tt.shp, tt.shi⟩
      · exact (iacc'.append iy).mono (Same.refl _) (tups_other k1)
  · left
    have hi' : i = ds.length := by omega
    subst hi'
    refine ⟨wk.stop _ B2 H2 ok2 (Nat.le_refl _), ?_⟩
    exact q (.ref a) (.own acc) B2 ρ2 H2 s2 (t1.trans s1 t2) ⟨a, us, rfl, t1.free s1 ha, b2a, h2a, iacc, na2⟩ (wend acc ρ2 w2)
end
section
variable {X : Cx} {W : WX} {elt tg iter : Expr} {ifs : List Expr} {scope : Scope} {own : List (Str × Nat)} {pos : Pos} {w : IW} {is : List Nat} {sp : D → Option (List D)} {wt : TWs} {we : EW}
structure DTs (X : Cx) (W : WX) (es : List Expr) (w : TWs) : Prop where
  ok : ∃ t, PTs X es t ∧ SimT X.K W t w
theorem dts_nil : DTs X W [] wYes := ⟨_, pts_nil, fun B σ ρ H Qw Xw Q s h hx q => q true B ρ H s (Tr.refl ..) h⟩
theorem dts_one {c : Expr} {wt : TWs} (h : DT X W c wt) : DTs X W [c] wt := by
  obtain ⟨t, p, s⟩ := h.ok
  exact ⟨_, pts_one p, s⟩
/-- one reading for all contexts of a family -/
theorem de_all {ι : Type} {F : ι → Cx} {K : PySem.W.Frag} {W : WX} {e : Expr} {w : EW} (hK : ∀ c, (F c).K = K) (h : ∀ c, DE (F c) W e w) : ∃ t, (∀ c, PE (F c) e t) ∧ SimE K W t w := by
  have h' : ∀ c, ∃ t, PE (F c) e t ∧ SimE K W t w := fun c => by have z := (h c).ok; rw [hK c] at z; exact z
  refine ⟨fun σ H Q => ∀ c t, PE (F c) e t → SimE K W t w → t σ H Q, fun c => ?_, fun B σ ρ H Qw Xw Q s hw hx q c t _ z => z B σ ρ H Qw Xw Q s hw hx q⟩
  obtain ⟨t, p, z⟩ := h' c
  exact ⟨fun pins s σ H Q I q => p.run pins s σ H Q I (q c t p z)⟩
theorem dts_all {ι : Type} {F : ι → Cx} {K : PySem.W.Frag} {W : WX} {e : List Expr} {w : TWs} (hK : ∀ c, (F c).K = K) (h : ∀ c, DTs (F c) W e w) : ∃ t, (∀ c, PTs (F c) e t) ∧ SimT K W t w := by
  have h' : ∀ c, ∃ t, PTs (F c) e t ∧ SimT K W t w := fun c => by have z := (h c).ok; rw [hK c] at z; exact z
  refine ⟨fun σ H Q => ∀ c t, PTs (F c) e t → SimT K W t w → t σ H Q, fun c => ?_, fun B σ ρ H Qw Xw Q s hw hx q c t _ z => z B σ ρ H Qw Xw Q s hw hx q⟩
  obtain ⟨t, p, z⟩ := h' c
  exact ⟨fun pins s σ H Q I q => p.run pins s σ H Q I (q c t p z)⟩
theorem dg_all {ι : Type} {F : ι → Cx} {K : PySem.W.Frag} {e : Expr} {is : List Nat} {sp : D → Option (List D)} (hK : ∀ c, (F c).K = K) (h : ∀ c, DG (F c) e is sp) : ∃ t, (∀ c, PG (F c) e t) ∧ SimG K t is sp := by
  have h' : ∀ c, ∃ t, PG (F c) e t ∧ SimG K t is sp := fun c => by have z := (h c).ok; rw [hK c] at z; exact z
  refine ⟨fun v σ H Q => ∀ c t, PG (F c) e t → SimG K t is sp → t v σ H Q, fun c => ?_, fun B H σ x d ds Q i e q c t _ z => z B H σ x d ds Q i e q⟩
  obtain ⟨t, p, z⟩ := h' c
  exact ⟨fun pins s σ H v u Q I r q => p.run pins s σ H v u Q I r (q c t p z)⟩
theorem de_lc (hc : X.calm = true) (hN : X.N.Nodup) (hi : DI X W tg iter w) (ok : BlkOk X.N X.env.scope scope own)
    (hg : ∀ (s : Shared) (H : Hp) (C : Addr) (cl : List (Str × Addr)) (fp : List Addr), DG (X.blk s H scope (compEnvC scope cl C X.env) fp) tg is sp) (hiv : ∀ i ∈ is, i ∈ own.map (·.2))
    (ht : ∀ (s : Shared) (H : Hp) (C : Addr) (cl : List (Str × Addr)) (fp : List Addr), DTs (X.blk s H scope (compEnvC scope cl C X.env) fp) (fun _ _ _ _ => False) ifs wt)
    (he : ∀ (s : Shared) (H : Hp) (C : Addr) (cl : List (Str × Addr)) (fp : List Addr), DE (X.blk s H scope (compEnvC scope cl C X.env) fp) (fun _ _ _ _ => False) elt we) (hs : ∀ x, foldedSetIterable iter X.env x = pure x := by intro _; rfl) :
    DE X W (.ListComp elt [⟨tg, iter, ifs, 0⟩] scope pos) (wLc w is sp wt we (own.map (·.2))) := by
  obtain ⟨wi, pi, si⟩ := hi.ok
  obtain ⟨g, pg, sg⟩ := dg_all (F := fun c : Shared × Hp × Addr × List (Str × Addr) × List Addr => X.blk c.1 c.2.1 scope (compEnvC scope c.2.2.2.1 c.2.2.1 X.env) c.2.2.2.2) (K := X.K) (fun _ => rfl) fun c => hg ..
  obtain ⟨tt, pt, st⟩ := dts_all (F := fun c : Shared × Hp × Addr × List (Str × Addr) × List Addr => X.blk c.1 c.2.1 scope (compEnvC scope c.2.2.2.1 c.2.2.1 X.env) c.2.2.2.2) (K := X.K) (fun _ => rfl) fun c => ht ..
  obtain ⟨te, pe, se⟩ := de_all (F := fun c : Shared × Hp × Addr × List (Str × Addr) × List Addr => X.blk c.1 c.2.1 scope (compEnvC scope c.2.2.2.1 c.2.2.1 X.env) c.2.2.2.2) (K := X.K) (fun _ => rfl) fun c => he ..
  exact ⟨_, pe_lc hc hN pi ok (fun s H C cl fp => pg (s, H, C, cl, fp)) (fun s H C cl fp => pt (s, H, C, cl, fp)) (fun s H C cl fp => pe (s, H, C, cl, fp)) hs, sim_lc si sg hiv st se⟩
/-- x = [..] -/
theorem ds_setLc (i : Nat) {y : Str} {py spos : Pos} (hc : X.calm = true) (hN : X.N.Nodup) (hi : DI X W tg iter w) (ok : BlkOk X.N X.env.scope scope own)
    (hg : ∀ (s : Shared) (H : Hp) (C : Addr) (cl : List (Str × Addr)) (fp : List Addr), DG (X.blk s H scope (compEnvC scope cl C X.env) fp) tg is sp) (hiv : ∀ i ∈ is, i ∈ own.map (·.2))
    (ht : ∀ (s : Shared) (H : Hp) (C : Addr) (cl : List (Str × Addr)) (fp : List Addr), DTs (X.blk s H scope (compEnvC scope cl C X.env) fp) (fun _ _ _ _ => False) ifs wt)
    (he : ∀ (s : Shared) (H : Hp) (C : Addr) (cl : List (Str × Addr)) (fp : List Addr), DE (X.blk s H scope (compEnvC scope cl C X.env) fp) (fun _ _ _ _ => False) elt we)
    (hsw : swapsWith (.ListComp elt [⟨tg, iter, ifs, 0⟩] scope pos) (some (.Name y py)) spos.line X.env = pure true) (hy : X.N[i]? = some y := by rfl) (hyl : X.env.scope.names.lookup y = some .local := by rfl) (hs : ∀ x, foldedSetIterable iter X.env x = pure x := by intro _; rfl) :
    DS X W (.Assign [.Name y py] (.ListComp elt [⟨tg, iter, ifs, 0⟩] scope pos) spos) (wSet i (wLc w is sp wt we (own.map (·.2)))) := by
  obtain ⟨wi, pi, si⟩ := hi.ok
  obtain ⟨g, pg, sg⟩ := dg_all (F := fun c : Shared × Hp × Addr × List (Str × Addr) × List Addr => X.blk c.1 c.2.1 scope (compEnvC scope c.2.2.2.1 c.2.2.1 X.env) c.2.2.2.2) (K := X.K) (fun _ => rfl) fun c => hg ..
  obtain ⟨tt, pt, st⟩ := dts_all (F := fun c : Shared × Hp × Addr × List (Str × Addr) × List Addr => X.blk c.1 c.2.1 scope (compEnvC scope c.2.2.2.1 c.2.2.1 X.env) c.2.2.2.2) (K := X.K) (fun _ => rfl) fun c => ht ..
  obtain ⟨te, pe, se⟩ := de_all (F := fun c : Shared × Hp × Addr × List (Str × Addr) × List Addr => X.blk c.1 c.2.1 scope (compEnvC scope c.2.2.2.1 c.2.2.1 X.env) c.2.2.2.2) (K := X.K) (fun _ => rfl) fun c => he ..
  exact ⟨_, ps_setLc hc hN hy hyl hsw pi ok (fun s H C cl fp => pg (s, H, C, cl, fp)) (fun s H C cl fp => pt (s, H, C, cl, fp)) (fun s H C cl fp => pe (s, H, C, cl, fp)) hs, sim_set i (sim_lc si sg hiv st se)⟩
end

/-! ### a def's body -/
abbrev FnP (K : PySem.W.Frag) (x : Str) (st : Stmt) (f : Addr) (fd : FuncData) : Prop := FunD K x x (defArgs st) (defBody st) (defScope st) [] [] f fd
/-- a def of the text as it stands behind the top -/
structure At (K : PySem.W.Frag) (mg : Str → Option Value) (x : Str) (st : Stmt) (ps : List Str) where
  f : Addr
  fd : FuncData
  F : FnP K x st f fd
  g : mg x = some (.ref f)
  b : Binds K fd ps []
def startE (N : List Str) (sls : List Sl) : En := sls.map some ++ List.replicate (N.length - sls.length) none
/-- what may be handed back: a list within it must be new -/
def retOk (nl : Bool) : Sl → Prop
  | .dat d => (nl || d.nolist) = true
  | .own ds => (nl || D.nolists ds) = true
  | _ => False
section
variable {K : PySem.W.Frag} {B H H0 : Hp}
theorem start_get {N : List Str} {vs : List V} {sls : List Sl} (hl : vs.length = sls.length) (i : Nat) (sl : Sl) (h : (startE N sls)[i]? = some (some sl)) : sls[i]? = some sl ∧ ∃ v, vs[i]? = some v ∧ (start N vs)[i]? = some (some v) := by
  unfold startE at h
  unfold L2.start
  by_cases hi : i < sls.length
  · rw [List.getElem?_append_left (by simpa using hi), List.getElem?_map] at h
    rw [List.getElem?_append_left (by rw [List.length_map]; omega), List.getElem?_map]
    cases e : sls[i]? with
    | none => rw [e] at h; cases h
    | some s' =>
      rw [e] at h; cases h
      have hv : i < vs.length := by omega
      exact ⟨rfl, vs[i], List.getElem?_eq_getElem hv, by rw [List.getElem?_eq_getElem hv]; rfl⟩
  · exfalso
    rw [List.getElem?_append_right (by simpa using hi)] at h
    rw [List.getElem?_replicate] at h
    split at h <;> cases h
theorem res_of {v : V} {r : Sl} {nl : Bool} (sub : Same B H) (hb : nl = true → ∀ b, B b ≠ none → H0 b = none) (rr : RtR K H0 B H v r) (ok : retOk nl r) : ResR K H0 H v r := by
  cases nl with
  | true =>
    refine ⟨B, sub, hb rfl, ?_⟩
    cases r with
    | dat d => exact rr
    | own ds => obtain ⟨p, vs, a, b, c, d, e⟩ := rr; exact ⟨p, vs, a, b, c, d, e⟩
    | inn ds => exact rr
    | bor i => exact rr
    | dic kvs => exact rr
  | false =>
    refine ⟨H00, same00, fun a h => absurd rfl h, ?_⟩
    cases r with
    | dat d => exact Ip.pure rr (by simpa [retOk] using ok)
    | own ds => obtain ⟨p, vs, a, b, c, d, e⟩ := rr; exact ⟨p, vs, a, b, rfl, d, e.pure (by simpa [retOk] using ok)⟩
    | inn ds => exact rr
    | bor i => exact rr
    | dic kvs => exact rr
end
section
variable {P : Program} {w : World} {K : PySem.W.Frag} {mg : Str → Option Value} {base : Heap}
theorem IpAll.map_get {B H : Hp} {vs : List V} {ds : List D} (h : IpAll K B H vs ds) {i : Nat} {sl : Sl} (e : (ds.map Sl.dat)[i]? = some sl) : ∃ v, vs[i]? = some v ∧ SlR K B H v sl := by
  rw [List.getElem?_map] at e
  cases q : ds[i]? with
  | none => rw [q] at e; cases e
  | some d => rw [q] at e; cases e; exact h.get q
theorem isOwn_start {N : List Str} {sls : List Sl} {i : Nat} (h : isOwn (startE N sls)[i]? = true) : ∃ sl, sls[i]? = some sl ∧ isOwn (some (some sl)) = true := by
  obtain ⟨sl, e, q⟩ := isOwn_some h
  obtain ⟨h1, _⟩ := start_get (vs := sls.map fun _ => V.non) (by simp) i sl e
  rw [e] at h
  exact ⟨sl, h1, h⟩
/-- a def that reads its arguments alone keeps its promise -/
theorem fn_D {x qual : Str} {st : Stmt} {f : Addr} {fd : FuncData} {N ps : List Str} {k : Nat} {g : FD} {wb : SW} (F : FunD K x qual (defArgs st) (defBody st) (defScope st) [] [] f fd) (S : FnScope N ps (defScope st))
    (hbody : ∀ (cdv : Value) (A : Around) (outer : List Env) (s : Shared) (H : Hp) (E : XK), Room k (A.deeper (PyProof.Rows.envOfC qual (defScope st) s.heap.objs.size f cdv)) →
      DSs (cxOf (L2.CX P w) P w K mg base N qual (defScope st) f cdv A outer s H E) (fun c d _ H => E c d H) (defBody st) wb)
    (hw : ∀ ds Qw Xw, ds.length = ps.length → g ds Qw Xw → wb { nx := fun _ => Qw (.dat .non), rt := fun r _ => retOk (D.nolists ds) r ∧ Qw r, ex := fun c _ => Xw c } (startE N (ds.map .dat))) :
    FnOk P w K mg base (L2.CX P w) (k + 1) f fd ps (spD K ps.length g) := by
  refine F.ok (CX := L2.CX P w) S (fun vs H Q E h => ?_) (fun cdv A outer s H vs Q E hr h => ?_)
  · obtain ⟨B, ds, Qw, Xw, _, ia, hl, _⟩ := h
    exact ia.length.trans hl
  · obtain ⟨B, ds, Qw, Xw, sub, ia, hl, hg, hq, hx⟩ := h
    obtain ⟨t, pt, stt⟩ := (hbody cdv A outer s H E hr).ok
    refine ⟨t, pt, ?_⟩
    have hlen : vs.length = (ds.map Sl.dat).length := by rw [List.length_map]; exact ia.length
    have key : ∀ B0 : Hp, Same B0 H → IpAll K B0 H vs ds → (D.nolists ds = true → B0 = H00) → t { nx := fun _ H' => Q .non H', rt := Q } (start N vs) H := fun B0 sub0 ia0 hB => by
      have sr : SR K B0 (start N vs) (startE N (ds.map .dat)) H := by
        refine ⟨?_, sub0, fun i sl h => ?_, fun i j p h1 _ _ _ => ?_⟩
        · simp [L2.start, startE, ia.length]
        · obtain ⟨h1, v, h2, h3⟩ := start_get hlen i sl h
          obtain ⟨v', h4, h5⟩ := ia0.map_get h1
          rw [h2] at h4; cases h4
          exact ⟨v, h3, h5⟩
        · exfalso
          obtain ⟨es, e, he⟩ := isOwn_start h1
          rw [List.getElem?_map] at e
          cases q : ds[i]? with
          | none => rw [q] at e; cases e
          | some d => rw [q] at e; cases e; cases he
      have noown : ∀ b, ¬ OwnAt (start N vs) (startE N (ds.map .dat)) b := fun b ⟨i, h1, _⟩ => by
        obtain ⟨es, e, he⟩ := isOwn_start h1
        rw [List.getElem?_map] at e
        cases q : ds[i]? with
        | none => rw [q] at e; cases e
        | some d => rw [q] at e; cases e; cases he
      have fr : FR K H B0 (fun _ _ => False) B0 (start N vs) (startE N (ds.map .dat)) H := ⟨sr, fun b o e _ => e, fun b z => absurd z (noown b), fun i b z => z.elim, fun b h => .inl h⟩
      refine stt H B0 (fun _ _ => False) B0 _ _ H _ _ fr (hw ds Qw Xw hl hg) ?_ ?_ ?_ ?_ ?_
      · intro B' σ' ρ' H' f' _ q
        exact hq .non (.dat .non) H' (fun b o e => f'.ext0 b o e fun _ z => z) ⟨H00, same00, fun a h => absurd rfl h, .non⟩ q
      · intro v r B' σ' ρ' H' f' rr ⟨ok, q⟩
        refine hq v r H' (fun b o e => f'.ext0 b o e fun _ z => z) (res_of f'.sub (fun hn b hb => ?_) rr ok) q
        rcases f'.bnew b hb with z | z
        · rw [hB hn] at z; exact absurd rfl z
        · exact z
      · intro B' σ' ρ' H' f' _ q; exact q.elim
      · intro B' σ' ρ' H' f' _ q; exact q.elim
      · intro c B' σ' ρ' H' f' g' q
        exact hx c H' (fun b o e => f'.ext0 b o e fun _ z => z) q
    by_cases hn : D.nolists ds = true
    · exact key H00 same00 (ia.pure hn) fun _ => rfl
    · exact key B sub ia fun z => absurd z hn
/-- a def that changes the list in its first argument -/
theorem fn_I {x qual : Str} {st : Stmt} {f : Addr} {fd : FuncData} {N ps : List Str} {k : Nat} {g : FI} {wb : SW} (F : FunD K x qual (defArgs st) (defBody st) (defScope st) [] [] f fd) (S : FnScope N ps (defScope st))
    (hbody : ∀ (cdv : Value) (A : Around) (outer : List Env) (s : Shared) (H : Hp) (E : XK), Room k (A.deeper (PyProof.Rows.envOfC qual (defScope st) s.heap.objs.size f cdv)) →
      DSs (cxOf (L2.CX P w) P w K mg base N qual (defScope st) f cdv A outer s H E) (fun c d _ H => E c d H) (defBody st) wb)
    (hw : ∀ dl ds Qw Xw, ds.length + 1 = ps.length → g dl ds Qw Xw → wb { nx := fun ρ => withO ρ 0 fun dl' => D.nolists dl' = true ∧ Qw (.dat .non) dl', rt := fun r ρ => retOk (D.nolists ds) r ∧ withO ρ 0 fun dl' => D.nolists dl' = true ∧ Qw r dl', ex := fun c ρ => withO ρ 0 fun dl' => D.nolists dl' = true ∧ Xw c dl' } (startE N (.inn dl :: ds.map .dat))) :
    FnOk P w K mg base (L2.CX P w) (k + 1) f fd ps (spI K ps.length g) := by
  refine F.ok (CX := L2.CX P w) S (fun vs H Q E h => ?_) (fun cdv A outer s H vs Q E hr h => ?_)
  · obtain ⟨B, p, ws, vs', dl, ds, Qw, Xw, rfl, _, _, _, _, ia, hl, _⟩ := h
    show vs'.length + 1 = ps.length
    rw [ia.length]; exact hl
  · obtain ⟨B, p, ws, vs', dl, ds, Qw, Xw, rfl, sub, nbp, hp, iw, ia, hl, hg, hq, hx⟩ := h
    obtain ⟨t, pt, stt⟩ := (hbody cdv A outer s H E hr).ok
    refine ⟨t, pt, ?_⟩
    have hlen : (V.ref p :: vs').length = (Sl.inn dl :: ds.map Sl.dat).length := by simp [ia.length]
    have key : ∀ B0 : Hp, Same B0 H → B0 p = none → IpAll K B0 H vs' ds → (D.nolists ds = true → B0 = H00) → t { nx := fun _ H' => Q .non H', rt := Q } (start N (.ref p :: vs')) H := fun B0 sub0 nb0 ia0 hB => by
      have get0 : (start N (V.ref p :: vs'))[0]? = some (some (.ref p)) := rfl
      have zero : ∀ i, isOwn (startE N (.inn dl :: ds.map .dat))[i]? = true → i = 0 := fun i h1 => by
        obtain ⟨es, e, he⟩ := isOwn_start h1
        cases i with
        | zero => rfl
        | succ i =>
          exfalso
          rw [List.getElem?_cons_succ, List.getElem?_map] at e
          cases q : ds[i]? with
          | none => rw [q] at e; cases e
          | some d => rw [q] at e; cases e; cases he
      have sr : SR K B0 (start N (.ref p :: vs')) (startE N (.inn dl :: ds.map .dat)) H := by
        refine ⟨?_, sub0, fun i sl h => ?_, fun i j q h1 h2 _ _ => (zero i h1).trans (zero j h2).symm⟩
        · simp [L2.start, startE, ia.length]
        · obtain ⟨h1, v, h2, h3⟩ := start_get hlen i sl h
          refine ⟨v, h3, ?_⟩
          cases i with
          | zero => cases h1; cases h2; exact ⟨p, ws, rfl, nb0, hp, iw.mono same00 (Tups.of (Same.refl _))⟩
          | succ i =>
            obtain ⟨v', h4, h5⟩ := ia0.map_get (i := i) (sl := sl) (by simpa using h1)
            have h2 : vs'[i]? = some v := by simpa using h2
            rw [h2] at h4; cases h4
            exact h5
      have fr : FR K H B0 (fun i b => i = 0 ∧ b = p) B0 (start N (.ref p :: vs')) (startE N (.inn dl :: ds.map .dat)) H := by
        refine ⟨sr, fun b o e _ => e, fun b ⟨i, h1, h2⟩ => .inr ⟨0, rfl, ?_⟩, fun i b ⟨h1, h2⟩ => ?_, fun b h => .inl h⟩
        · have := zero i h1
          subst this
          rw [get0] at h2
          cases h2; rfl
        · subst h1 h2; exact ⟨get0, dl, rfl⟩
      have lent : ∀ {B' σ' ρ' H'}, FR K H B0 (fun i b => i = 0 ∧ b = p) B' σ' ρ' H' → ∀ k, withO ρ' 0 k → ∃ dl' ws', H' p = some (.lst ws') ∧ IpAll K B' H' ws' dl' ∧ k dl' := fun {B' σ' ρ' H'} f' k hk => by
        obtain ⟨dl', e, hk⟩ := withO_some hk
        obtain ⟨h1, _⟩ := f'.keep 0 p ⟨rfl, rfl⟩
        obtain ⟨p', ws', ep, _, h2, h3⟩ := f'.toSR.bor e h1
        cases ep
        exact ⟨dl', ws', h2, h3, hk⟩
      have ext : ∀ {B' σ' ρ' H'}, FR K H B0 (fun i b => i = 0 ∧ b = p) B' σ' ρ' H' → ∀ b o, H b = some o → b ≠ p → H' b = some o := fun f' b o e hb => f'.ext0 b o e fun i z => hb z.2
      refine stt H B0 _ B0 _ _ H _ _ fr (hw dl ds Qw Xw hl hg) ?_ ?_ ?_ ?_ ?_
      · intro B' σ' ρ' H' f' _ q
        obtain ⟨dl', ws', h1, h2, h3, h4⟩ := lent f' _ q
        exact hq .non (.dat .non) dl' ws' H' (ext f') h1 (h2.pure h3) ⟨H00, same00, fun a h => absurd rfl h, .non⟩ h4
      · intro v r B' σ' ρ' H' f' rr ⟨ok, q⟩
        obtain ⟨dl', ws', h1, h2, h3, h4⟩ := lent f' _ q
        refine hq v r dl' ws' H' (ext f') h1 (h2.pure h3) (res_of f'.sub (fun hn b hb => ?_) rr ok) h4
        rcases f'.bnew b hb with z | z
        · rw [hB hn] at z; exact absurd rfl z
        · exact z
      · intro B' σ' ρ' H' f' _ q; exact q.elim
      · intro B' σ' ρ' H' f' _ q; exact q.elim
      · intro c B' σ' ρ' H' f' g' q
        obtain ⟨dl', ws', h1, h2, h3, h4⟩ := lent f' _ q
        exact hx c dl' ws' H' (ext f') h1 (h2.pure h3) h4
    by_cases hn : D.nolists ds = true
    · exact key H00 same00 rfl (ia.pure hn) fun _ => rfl
    · exact key B sub nbp ia fun z => absurd z hn
end
end DL

set_option Elab.async false
set_option linter.all false
set_option maxRecDepth 100000
set_option maxHeartbeats 4000000
/-! DLg: primitives. -/
namespace DL
open PySem L2

/-! ### binary operators -/
def gAdd : G2
  | .int i, .int j, Q => Q (.dat (.int (i + j)))
  | .lst a, .lst b, Q => a.length + b.length ≤ sizeLine ∧ Q (.own (a ++ b))
  | .str x, .str y, Q => x.length + y.length ≤ sizeLine ∧ Q (.dat (.str (x ++ y)))
  | _, _, _ => False
def gSub2 : G2
  | .int i, .int j, Q => Q (.dat (.int (i - j)))
  | _, _, _ => False
def gMul : G2
  | .int i, .int j, Q => IntMulOk i j ∧ Q (.dat (.int (i * j)))
  | _, _, _ => False
def gDiv : G2
  | .int i, .int j, Q => (j ≠ 0 ∧ Builtin.divisionGoesByPylong i j = false) ∧ Q (.dat (.int (i.fdiv j)))
  | _, _, _ => False
def gMod : G2
  | .int i, .int j, Q => j ≠ 0 ∧ Q (.dat (.int (i.fmod j)))
  | _, _, _ => False
def gPow : G2
  | .int i, .int j, Q => CPow i j ∧ Q (.dat (.int (i ^ j.toNat)))
  | _, _, _ => False
def gLt : G2
  | .int i, .int j, Q => Q (.dat (.bl (decide (i < j))))
  | _, _, _ => False
def gLe : G2
  | .int i, .int j, Q => Q (.dat (.bl (decide (i ≤ j))))
  | _, _, _ => False
def gGt : G2
  | .int i, .int j, Q => Q (.dat (.bl (decide (j < i))))
  | _, _, _ => False
def gGe : G2
  | .int i, .int j, Q => Q (.dat (.bl (decide (j ≤ i))))
  | _, _, _ => False
/-- list + list, of lists that may be read -/
def rCatR (K : PySem.W.Frag) : R2 := fun x y H Q => ∃ l b xs zs, x = .ref l ∧ y = .ref b ∧ SqL K H l xs ∧ SqL K H b zs ∧ xs.length + zs.length ≤ sizeLine ∧ ∀ p, H p = none → Q (.ref p) (upd H p (.lst (xs ++ zs)))
section
variable {X : Cx}
theorem Inv.lstR {pins : List (Addr × Obj)} {σ : St} {H : Hp} {s : Shared} {l : Addr} {xs : List V} (I : Inv X pins σ H s) (h : Rd H l (.lst xs)) : xs.length ≤ sizeLine ∧ ∃ (its : List Value) (n : Nat), Vals xs its ∧ xs.length = its.length ∧ s.heap.get? l = some { cls := .type "list", data := .seq its.toArray n } := by
  obtain ⟨z, its, n, r, e⟩ := h.ok I.hok
  exact ⟨z, its, n, r, r.length, e⟩
open PySem.Spec PyProof.Rows in
theorem op_catR : OpR X (binaryOp .Add) (rCatR X.K) := by
  intro pins s σ H x y v u Q I rx ry h
  obtain ⟨l, b, xs, zs, rfl, rfl, hH, hB, hz, q⟩ := h
  cases rx
  cases ry
  obtain ⟨its, r, pl, z⟩ := I.list hH
  obtain ⟨its2, r2, pl2, z2⟩ := I.list hB
  obtain ⟨⟨cls, dd, data, sl⟩, ho, hc, n, hd⟩ := pl.isList
  obtain ⟨⟨cls2, dd2, data2, sl2⟩, ho2, hc2, n2, hd2⟩ := pl2.isList
  simp only at hc hd hc2 hd2
  subst hc hd hc2 hd2
  have hl := r.length
  have hl2 := r2.length
  refine concat_meets ⟨_, ho, rfl⟩ ⟨_, ho2, rfl⟩ noFill_list_add seq_list_add PySem.F.slot_list_add PySem.F.entry_list_add (PySem.F.args_list_add_2 _ _)
    (PyProof.Rows.list_addW l b its.toArray its2.toArray n n2 dd dd2 sl sl2 (by rw [List.size_toArray, List.size_toArray]; omega)) ⟨ho, ho2, ?_⟩
  have ea : its.toArray ++ its2.toArray = (its ++ its2).toArray := by simp
  rw [ea]
  exact ⟨.ref _, _, I.lnew (t' := s.toks) (r.append r2) (by rw [List.length_append]; omega), rfl, q _ I.fresh⟩
def rAddA (K : PySem.W.Frag) : R2 := fun x y H Q => rI0 (fun i j => .int (i + j)) x y H Q ∨ (rCatR K x y H Q ∨ ∃ i j, x = .str i ∧ y = .str j ∧ i.length + j.length ≤ sizeLine ∧ Q (.str (i ++ j)) H)
theorem op_addA : OpR X (binaryOp .Add) (rAddA X.K) := op_add.or (op_catR.or op_add_str)
/-- a list times an int -/
def rRepR : R2 := fun x y H Q => ∃ l k xs, x = .ref l ∧ y = .int k ∧ Rd H l (.lst xs) ∧ -(2 ^ 63) ≤ k ∧ k < 2 ^ 63 ∧ xs.length * k.toNat ≤ sizeLine ∧
  ∀ p, H p = none → Q (.ref p) (upd H p (.lst (List.replicate k.toNat xs).flatten))
open PySem.Spec PyProof.Rows in
theorem op_repR : OpR X (binaryOp .Mult) rRepR := by
  intro pins s σ H x y v u Q I rx ry h
  obtain ⟨l, k, xs, rfl, rfl, hH, h1, h2, hz, q⟩ := h
  cases rx
  obtain ⟨t, rfl⟩ := ry
  obtain ⟨z, its, n, r, hl, e⟩ := Inv.lstR I hH
  have hlen : its.toArray.size * k.toNat ≤ sizeLine := by rw [List.size_toArray, ← hl]; exact hz
  have hcap : ¬ its.toArray.size * k.toNat > (2 ^ 63 - 1) / 8 := by
    have : (sizeLine : Nat) ≤ (2 ^ 63 - 1) / 8 := by decide
    omega
  have hfit : ¬ (!Builtin.List.listFitsIndex k) = true := by
    rw [fitsIndex_both h1 h2]
    exact Bool.false_ne_true
  have hlong : ¬ Builtin.List.listTooLong (its.toArray.size * k.toNat) = true := by
    rw [notLongL hlen]
    exact Bool.false_ne_true
  have hnew : List.foldl (fun x1 x2 => x1 ++ x2) #[] (List.replicate (if its.toArray.isEmpty = true then 0 else k.toNat) its.toArray) = (List.replicate k.toNat its).flatten.toArray := by
    have f0 : ∀ m : Nat, List.foldl (fun x1 x2 => x1 ++ x2) #[] (List.replicate m its.toArray) = (List.replicate m its).flatten.toArray := fun m => by
      have := foldl_rep its m []
      rw [List.nil_append] at this
      exact this
    rw [f0]
    cases its with
    | nil => simp
    | cons a r' => rw [if_neg (by simp)]
  refine wpAny_binaryOp_repeat_ref (T := "list") (U := "int") (by decide) ⟨_, e, rfl⟩ (fun s' => typeIs_int s' k t) noFill_list_mul F.fills_int_mul F.slot_int_rmul repeat_list F.slot_int_index.lookup
    (call_meets F.slot_int_rmul (typeIs_int s k t) F.entry_int_rmul (F.args_int_rmul_2 _ _) (int___rmul___int_list k t l its.toArray n)
      ⟨e, rfl, ⟨_, e, rfl⟩, call_meets F.slot_list_mul ⟨_, e, rfl⟩ F.entry_list_mul (F.args_list_mul_2 _ _) (AutoListH.list___mul___list_int_3 l its.toArray n k t hfit hcap hlong) ⟨e, ?_⟩⟩)
  rw [hnew]
  exact ⟨.ref _, _, I.lnew (t' := s.toks) (r.rep k.toNat) (by rw [lm_len_rep_flat, Nat.mul_comm]; exact hz), rfl, q _ I.fresh⟩
theorem op_mulI : OpR X (binaryOp .Mult) (rI IntMulOk fun i j => .int (i * j)) := opI fun _ _ _ _ _ _ _ hc q => PyProof.Rows.mul_int q hc
theorem op_fdivA : OpR X (binaryOp .FloorDiv) (rI (fun i j => j ≠ 0 ∧ Builtin.divisionGoesByPylong i j = false) fun i j => .int (i.fdiv j)) := opI fun _ _ _ _ _ _ _ hc q => PyProof.Rows.floordiv_int hc.1 q (.inl hc.2)
end
section
variable {K : PySem.W.Frag} {B H : Hp} {Qw : Sl → Prop} {Q : VK}
theorem PP.int (p : PP K B H Qw Q) {i : Int} (g : Qw (.dat (.int i))) : Q (.int i) H := p _ (.dat _) _ (Same.refl _) (show Ip K B H _ _ from .int i) g
theorem PP.bl (p : PP K B H Qw Q) {i : Bool} (g : Qw (.dat (.bl i))) : Q (.bl i) H := p _ (.dat _) _ (Same.refl _) (show Ip K B H _ _ from .bl i) g
theorem PP.str (p : PP K B H Qw Q) {i : Str} (g : Qw (.dat (.str i))) : Q (.str i) H := p _ (.dat _) _ (Same.refl _) (show Ip K B H _ _ from .str i) g
theorem PP.non (p : PP K B H Qw Q) (g : Qw (.dat .non)) : Q .non H := p _ (.dat _) _ (Same.refl _) (show Ip K B H _ _ from .non) g
theorem PP.old (p : PP K B H Qw Q) {v : V} {d : D} (i : Ip K B H v d) (g : Qw (.dat d)) : Q v H := p _ (.dat _) _ (Same.refl _) i g
theorem same_new {q : Addr} {o : HO} (hq : H q = none) : Same H (upd H q o) := fun b x e => by rw [upd_ne (ne_of_none e hq)]; exact e
theorem PP.lst (p : PP K B H Qw Q) {vs : List V} {ds : List D} (i : IpAll K B H vs ds) (g : Qw (.own ds)) (q : Addr) (hq : H q = none) : Q (.ref q) (upd H q (.lst vs)) :=
  p _ (.own _) _ (same_new hq) ⟨q, _, rfl, hq, upd_same, i.mono (Same.refl _) (Tups.of (same_new hq))⟩ g
theorem PP.tup (p : PP K B H Qw Q) {vs : List V} {ds : List D} (i : IpAll K B H vs ds) (g : Qw (.dat (.tup ds))) (q : Addr) (hq : H q = none) : Q (.ref q) (upd H q (.tup vs)) :=
  p _ (.dat _) _ (same_new hq) (show Ip K B _ _ _ from .tup (.inl upd_same) (i.mono (Same.refl _) (Tups.of (same_new hq)))) g
theorem IpAll.rep {vs : List V} {ds : List D} (h : IpAll K B H vs ds) : ∀ k : Nat, IpAll K B H (List.replicate k vs).flatten (List.replicate k ds).flatten
  | 0 => .nil
  | k + 1 => by rw [List.replicate_succ, List.replicate_succ, List.flatten_cons, List.flatten_cons]; exact h.append (IpAll.rep h k)
end
section
variable {K : PySem.W.Frag}
theorem ops_add : OpS K (rAddA K) gAdd := by
  intro B H x y d e Qw Q sub hx hy g p
  cases d <;> cases e <;> first | exact g.elim | skip
  · cases hx; cases hy; exact .inl ⟨_, _, rfl, rfl, p.int g⟩
  · cases hx; cases hy; exact .inr (.inr ⟨_, _, rfl, rfl, g.1, p.str g.2⟩)
  · obtain ⟨a, xs, rfl, h1, i1⟩ := hx
    obtain ⟨b, ys, rfl, h2, i2⟩ := hy
    exact .inr (.inl ⟨a, b, xs, ys, rfl, rfl, h1, h2, by rw [i1.length, i2.length]; exact g.1, p.lst (i1.append i2) g.2⟩)
theorem ops_sub : OpS K (rI0 fun i j => .int (i - j)) gSub2 := by
  intro B H x y d e Qw Q sub hx hy g p
  cases d <;> cases e <;> first | exact g.elim | skip
  cases hx; cases hy; exact ⟨_, _, rfl, rfl, p.int g⟩
theorem ops_mul : OpS K (rI IntMulOk fun i j => .int (i * j)) gMul := by
  intro B H x y d e Qw Q sub hx hy g p
  cases d <;> cases e <;> first | exact g.elim | skip
  cases hx; cases hy; exact ⟨_, _, rfl, rfl, g.1, p.int g.2⟩
theorem ops_div : OpS K (rI (fun i j => j ≠ 0 ∧ Builtin.divisionGoesByPylong i j = false) fun i j => .int (i.fdiv j)) gDiv := by
  intro B H x y d e Qw Q sub hx hy g p
  cases d <;> cases e <;> first | exact g.elim | skip
  cases hx; cases hy; exact ⟨_, _, rfl, rfl, g.1, p.int g.2⟩
theorem ops_mod : OpS K (rI (fun _ j => j ≠ 0) fun i j => .int (i.fmod j)) gMod := by
  intro B H x y d e Qw Q sub hx hy g p
  cases d <;> cases e <;> first | exact g.elim | skip
  cases hx; cases hy; exact ⟨_, _, rfl, rfl, g.1, p.int g.2⟩
theorem ops_pow : OpS K (rI CPow fun i j => .int (i ^ j.toNat)) gPow := by
  intro B H x y d e Qw Q sub hx hy g p
  cases d <;> cases e <;> first | exact g.elim | skip
  cases hx; cases hy; exact ⟨_, _, rfl, rfl, g.1, p.int g.2⟩
theorem ops_lt : OpS K (rI0 fun i j => .bl (decide (i < j))) gLt := by
  intro B H x y d e Qw Q sub hx hy g p
  cases d <;> cases e <;> first | exact g.elim | skip
  cases hx; cases hy; exact ⟨_, _, rfl, rfl, p.bl g⟩
theorem ops_le : OpS K (rI0 fun i j => .bl (decide (i ≤ j))) gLe := by
  intro B H x y d e Qw Q sub hx hy g p
  cases d <;> cases e <;> first | exact g.elim | skip
  cases hx; cases hy; exact ⟨_, _, rfl, rfl, p.bl g⟩
theorem ops_gt : OpS K (rI0 fun i j => .bl (decide (j < i))) gGt := by
  intro B H x y d e Qw Q sub hx hy g p
  cases d <;> cases e <;> first | exact g.elim | skip
  cases hx; cases hy; exact ⟨_, _, rfl, rfl, p.bl g⟩
theorem ops_ge : OpS K (rI0 fun i j => .bl (decide (j ≤ i))) gGe := by
  intro B H x y d e Qw Q sub hx hy g p
  cases d <;> cases e <;> first | exact g.elim | skip
  cases hx; cases hy; exact ⟨_, _, rfl, rfl, p.bl g⟩
def gNeg : G1
  | .int i, Q => Q (.dat (.int (-i)))
  | _, _ => False
theorem uns_neg : UnS K (rU fun i => .int (-i)) gNeg := by
  intro B H x d Qw Q sub hx g p
  cases d <;> first | exact g.elim | skip
  cases hx; exact ⟨_, rfl, p.int g⟩
end

/-! ### [..] * k -/
def wRep (wa wb : EW) : EW := fun ρ Q X => wa ρ (fun a ρ1 => wb ρ1 (fun b ρ2 => match a, b with
  | .own ds, .dat (.int k) => (-(2 ^ 63) ≤ k ∧ k < 2 ^ 63 ∧ ds.length * k.toNat ≤ sizeLine) ∧ Q (.own (List.replicate k.toNat ds).flatten) ρ2
  | _, _ => False) X) X
section
variable {X : Cx} {W : WX} {a b : Expr} {wa wb : EW} {pos : Pos}
theorem de_rep (ha : DE X W a wa) (hb : DE X W b wb) : DE X W (.BinOp a .Mult b pos) (wRep wa wb) := by
  obtain ⟨ta, pa, sa⟩ := ha.ok
  obtain ⟨tb, pb, sb⟩ := hb.ok
  refine ⟨_, pe_op op_repR pa pb, ?_⟩
  intro B σ ρ H Qw Xw Q s h hx q
  refine sa B σ ρ H _ Xw _ s h hx fun v r1 B1 ρ1 H1 s1 t1 rv1 q1 => ?_
  refine sb B1 σ ρ1 H1 _ Xw _ s1 q1 (hx.lift s1 t1) fun u r2 B2 ρ2 H2 s2 t2 rv2 q2 => ?_
  cases r1 with
  | own ds =>
    cases r2 with
    | dat d =>
      cases d with
      | int k =>
        cases rv2
        obtain ⟨p, vs, rfl, _, nb, hp, ia, no⟩ := rv1.lift s1 t2
        obtain ⟨⟨c1, c2, c3⟩, q2⟩ := q2
        have t12 := t1.trans s1 t2
        have p0 : PP X.K B2 H2 (fun r => Qw r ρ2) Q := fun z sl H' sm rv qq => q z sl B2 ρ2 H' (s2.same sm) (t12.trans s2 (Tr.same sm)) ((rv.rv s2 sm).early s2 t12) qq
        exact ⟨p, k, vs, rfl, rfl, .inl hp, c1, c2, by rw [ia.length]; exact c3, p0.lst (ia.rep _) q2⟩
      | _ => exact q2.elim
    | _ => exact q2.elim
  | _ => cases r2 <;> exact q2.elim
end

/-! ### == of data -/
mutual
def D.py : D → PyData
  | .non => .none
  | .bl b => .bool b
  | .int i => .int i
  | .str x => .str x
  | .tup ds => .tuple (D.pys ds)
  | .lst ds => .list (D.pys ds)
  | .adr _ => .none
  | .ty _ => .none
  | .obj _ _ _ => .none
  | .fl ds => .list (D.pys ds)
  | .tpx ds => .tuple (D.pys ds)
  | .exc _ => .none
def D.pys : List D → List PyData
  | [] => []
  | d :: ds => d.py :: D.pys ds
end
mutual
/-- plain: no place, no class, no text (a text's signs would be looked at) -/
def D.plain : D → Bool
  | .adr _ => false
  | .ty _ => false
  | .obj _ _ _ => false
  | .fl ds => D.plains ds
  | .tpx ds => D.plains ds
  | .exc _ => false
  | .str _ => false
  | .tup ds => D.plains ds
  | .lst ds => D.plains ds
  | _ => true
def D.plains : List D → Bool
  | [] => true
  | d :: ds => D.plain d && D.plains ds
end
section
variable {K : PySem.W.Frag} {B H : Hp}
mutual
theorem Ip.dp (sub : Same B H) : ∀ {v : V} {d : D}, Ip K B H v d → d.plain = true → Dp K H v d.py
  | _, _, .non, _ => by rw [D.py]; exact .non
  | _, _, .bl b, _ => by rw [D.py]; exact .bl b
  | _, _, .int i, _ => by rw [D.py]; exact .int i
  | _, _, .str x, e => by simp [D.plain] at e
  | _, _, .adr a, e => by simp [D.plain] at e
  | _, _, .ty n, e => by simp [D.plain] at e
  | _, _, .obj _ _ _, e => by simp [D.plain] at e
  | _, _, .exc _ _ _, e => by simp [D.plain] at e
  | _, _, .tpx h _ t, e => by rw [D.py]; exact .tup (.inl (.inr ⟨_, h⟩)) (IpAll.dp sub t (by simpa [D.plain] using e))
  | _, _, .fl h t, e => by rw [D.py]; exact .lst (.inl (.inr ⟨_, h⟩)) (IpAll.dp sub t (by simpa [D.plain] using e))
  | _, _, .tup h t, e => by rw [D.py]; exact .tup h.sq (IpAll.dp sub t (by simpa [D.plain] using e))
  | _, _, .lst h t, e => by rw [D.py]; exact .lst (sub.seq h) (IpAll.dp sub t (by simpa [D.plain] using e))
theorem IpAll.dp (sub : Same B H) : ∀ {vs : List V} {ds : List D}, IpAll K B H vs ds → D.plains ds = true → DpAll K H vs (D.pys ds)
  | _, _, .nil, _ => by rw [D.pys]; exact .nil
  | _, _, .cons h t, e => by
    rw [D.plains, Bool.and_eq_true] at e
    rw [D.pys]
    exact .cons (Ip.dp sub h e.1) (IpAll.dp sub t e.2)
end
theorem RdB.dp (sub : Same B H) {v : V} {d : D} (h : RdB K B H v d) (e : d.plain = true) : Dp K H v d.py := by
  cases d with
  | lst ds =>
    obtain ⟨a, xs, rfl, h1, h2⟩ := h
    rw [D.py]
    exact .lst h1 (h2.dp sub (by simpa [D.plain] using e))
  | _ => exact Ip.dp sub h e
end
mutual
def D.deep : D → Nat
  | .tup ds => D.deeps ds + 1
  | .lst ds => D.deeps ds + 1
  | .fl ds => D.deeps ds + 1
  | .tpx ds => D.deeps ds + 1
  | _ => 0
def D.deeps : List D → Nat
  | [] => 0
  | d :: ds => max d.deep (D.deeps ds)
end
mutual
theorem D.py_lay : ∀ d : D, d.plain = true → d.py.canLay0 = true
  | .non, _ => by simp [D.py, PyData.canLay0]
  | .bl _, _ => by simp [D.py, PyData.canLay0]
  | .int _, _ => by simp [D.py, PyData.canLay0]
  | .str _, e => by simp [D.plain] at e
  | .adr _, e => by simp [D.plain] at e
  | .ty _, e => by simp [D.plain] at e
  | .tup ds, e => by rw [D.py, PyData.canLay0]; exact D.pys_lay ds (by simpa [D.plain] using e)
  | .lst ds, e => by rw [D.py, PyData.canLay0]; exact D.pys_lay ds (by simpa [D.plain] using e)
  | .fl ds, e => by rw [D.py, PyData.canLay0]; exact D.pys_lay ds (by simpa [D.plain] using e)
  | .obj _ _ _, e => by simp [D.plain] at e
  | .exc _, e => by simp [D.plain] at e
  | .tpx ds, e => by rw [D.py, PyData.canLay0]; exact D.pys_lay ds (by simpa [D.plain] using e)
theorem D.pys_lay : ∀ ds : List D, D.plains ds = true → PyData.canLayAll0 (D.pys ds) = true
  | [], _ => by simp [D.pys, PyData.canLayAll0]
  | d :: ds, e => by
    rw [D.plains, Bool.and_eq_true] at e
    rw [D.pys, PyData.canLayAll0, D.py_lay d e.1, D.pys_lay ds e.2]; rfl
end
mutual
theorem D.py_depth : ∀ d : D, d.py.depth = d.deep
  | .non => by simp [D.py, PyData.depth, D.deep]
  | .bl _ => by simp [D.py, PyData.depth, D.deep]
  | .int _ => by simp [D.py, PyData.depth, D.deep]
  | .str _ => by simp [D.py, PyData.depth, D.deep]
  | .adr _ => by simp [D.py, PyData.depth, D.deep]
  | .ty _ => by simp [D.py, PyData.depth, D.deep]
  | .tup ds => by have := D.pys_depth ds; simp [D.py, PyData.depth, D.deep]; omega
  | .lst ds => by have := D.pys_depth ds; simp [D.py, PyData.depth, D.deep]; omega
  | .fl ds => by have := D.pys_depth ds; simp [D.py, PyData.depth, D.deep]; omega
  | .obj _ _ _ => by simp [D.py, PyData.depth, D.deep]
  | .exc _ => by simp [D.py, PyData.depth, D.deep]
  | .tpx ds => by have := D.pys_depth ds; simp [D.py, PyData.depth, D.deep]; omega
theorem D.pys_depth : ∀ ds : List D, PyData.depthAll (D.pys ds) = D.deeps ds
  | [] => by simp [D.pys, PyData.depthAll, D.deeps]
  | d :: ds => by
    have h1 := D.py_depth d
    have h2 := D.pys_depth ds
    simp [D.pys, PyData.depthAll, D.deeps, h1, h2]
end
def D.shp (d : D) : Bool := d.plain && decide (d.deep ≤ 64)
theorem D.shp_shaped {d : D} (h : d.shp = true) : SeqAt.shaped d.py = true := by
  unfold D.shp at h
  rw [Bool.and_eq_true] at h
  show (d.py.canLay0 && decide (d.py.depth ≤ 64)) = true
  rw [Bool.and_eq_true, D.py_depth]
  exact ⟨D.py_lay d h.1, h.2⟩
def D.eqb (d e : D) : Bool := PyData.eqv d.py e.py
def gEq : G2 := fun d e Q => (d.shp = true ∧ e.shp = true) ∧ Q (.dat (.bl (d.eqb e)))
def gNe : G2 := fun d e Q => (d.shp = true ∧ e.shp = true) ∧ Q (.dat (.bl (!d.eqb e)))
section
variable {K : PySem.W.Frag}
theorem shp_plain {d : D} (h : d.shp = true) : d.plain = true := by
  unfold D.shp at h
  rw [Bool.and_eq_true] at h
  exact h.1
theorem ops_eq : OpS K (rEqD K) gEq := fun B H x y d e Qw Q sub hx hy g p =>
  ⟨d.py, e.py, hx.dp sub (shp_plain g.1.1), hy.dp sub (shp_plain g.1.2), D.shp_shaped g.1.1, D.shp_shaped g.1.2, p.bl g.2⟩
theorem ops_ne : OpS K (rNeD K) gNe := fun B H x y d e Qw Q sub hx hy g p =>
  ⟨d.py, e.py, hx.dp sub (shp_plain g.1.1), hy.dp sub (shp_plain g.1.2), D.shp_shaped g.1.1, D.shp_shaped g.1.2, p.bl g.2⟩
def gInL : G2
  | d, .lst ds, Q => (d.shp = true ∧ (D.lst ds).shp = true) ∧ Q (.dat (.bl (ds.any fun z => z.eqb d)))
  | _, _, _ => False
def gNotInL : G2
  | d, .lst ds, Q => (d.shp = true ∧ (D.lst ds).shp = true) ∧ Q (.dat (.bl (!ds.any fun z => z.eqb d)))
  | _, _, _ => False
theorem pys_any (d : D) : ∀ ds : List D, ((D.pys ds).any fun z => PyData.eqv z d.py) = ds.any fun z => z.eqb d
  | [] => by simp [D.pys]
  | z :: ds => by rw [D.pys, List.any_cons, List.any_cons, pys_any d ds]; rfl
theorem ops_in : OpS K (rInD K) gInL := by
  intro B H x y d e Qw Q sub hx hy g p
  cases e with
  | lst ds =>
    have h2 := hy.dp sub (shp_plain g.1.2)
    have h3 := D.shp_shaped g.1.2
    rw [D.py] at h2 h3
    exact ⟨d.py, D.pys ds, hx.dp sub (shp_plain g.1.1), h2, D.shp_shaped g.1.1, h3, by rw [pys_any]; exact p.bl g.2⟩
  | _ => exact g.elim
theorem ops_notin : OpS K (rNotInD K) gNotInL := by
  intro B H x y d e Qw Q sub hx hy g p
  cases e with
  | lst ds =>
    have h2 := hy.dp sub (shp_plain g.1.2)
    have h3 := D.shp_shaped g.1.2
    rw [D.py] at h2 h3
    exact ⟨d.py, D.pys ds, hx.dp sub (shp_plain g.1.1), h2, D.shp_shaped g.1.1, h3, by rw [pys_any]; exact p.bl g.2⟩
  | _ => exact g.elim
end

/-! ### x[i], x[a:b] -/
def withOp {α : Type} (o : Option α) (k : α → Prop) : Prop := match o with
  | some x => k x
  | none => False
theorem withOp_some {α : Type} {o : Option α} {k : α → Prop} (h : withOp o k) : ∃ x, o = some x ∧ k x := by
  cases o with
  | none => exact h.elim
  | some x => exact ⟨x, rfl, h⟩
def gIx : G2
  | .tup ds, .int i, Q => withOp (atI ds i) fun d => Q (.dat d)
  | .lst ds, .int i, Q => withOp (atI ds i) fun d => Q (.dat d)
  | .fl ds, .int i, Q => withOp (atI ds i) fun d => Q (.dat d)
  | .tpx ds, .int i, Q => withOp (atI ds i) fun d => Q (.dat d)
  | .str x, .int i, Q => x.length ≤ sizeLine ∧ withOp (atI x.cps.toList i) fun c => Q (.dat (.str ⟨#[c]⟩))
  | _, _, _ => False
section
variable {K : PySem.W.Frag}
theorem IpAll.atI {B H : Hp} {vs : List V} {ds : List D} (h : IpAll K B H vs ds) {i : Int} {d : D} (e : L2.atI ds i = some d) : ∃ v, L2.atI vs i = some v ∧ Ip K B H v d := by
  unfold L2.atI at e ⊢
  rw [h.length]
  cases q : ixN ds.length i with
  | none => rw [q] at e; cases e
  | some j =>
    rw [q] at e
    obtain ⟨v, h1, h2⟩ := h.get (i := j) (d := d) e
    exact ⟨v, h1, h2⟩
theorem ops_ix : OpS K (rIx K) gIx := by
  intro B H x y d e Qw Q sub hx hy g p
  cases d <;> cases e <;> first | exact g.elim | skip
  · cases hy
    cases hx
    obtain ⟨c, e, g2⟩ := withOp_some g.2
    exact .inr (.inr ⟨_, _, c, rfl, rfl, g.1, e, p.str g2⟩)
  · cases hy
    obtain ⟨d, e, g⟩ := withOp_some g
    cases hx with
    | tup h t =>
      obtain ⟨v, h1, h2⟩ := t.atI e
      exact .inr (.inl ⟨_, _, _, v, rfl, rfl, h.sq, h1, p.old h2 g⟩)
  · cases hy
    obtain ⟨d, e, g⟩ := withOp_some g
    obtain ⟨a, xs, rfl, h, t⟩ := hx
    obtain ⟨v, h1, h2⟩ := t.atI e
    exact .inl ⟨_, _, _, v, rfl, rfl, h, h1, p.old h2 g⟩
  · cases hy
    obtain ⟨d, e, g⟩ := withOp_some g
    cases hx with
    | fl h t =>
      obtain ⟨v, h1, h2⟩ := t.atI e
      exact .inl ⟨_, _, _, v, rfl, rfl, .inl (.inr ⟨_, h⟩), h1, p.old h2 g⟩
  · cases hy
    obtain ⟨d, e, g⟩ := withOp_some g
    cases hx with
    | tpx h _ t =>
      obtain ⟨v, h1, h2⟩ := t.atI e
      exact .inr (.inl ⟨_, _, _, v, rfl, rfl, .inl (.inr ⟨_, h⟩), h1, p.old h2 g⟩)
end
section
variable {X : Cx} {W : WX} {a b : Expr} {wa wb : EW} {pos : Pos}
theorem de_ix (ha : DE X W a wa) (hb : DE X W b wb) (hs : PlainIx b := by intro _ _; rfl) : DE X W (.Subscript a b pos) (wOp gIx wa wb) := by
  obtain ⟨ta, pa, sa⟩ := ha.ok
  obtain ⟨tb, pb, sb⟩ := hb.ok
  exact ⟨_, pe_ix ix_seq pa pb hs, sim_op ops_ix sa sb⟩
end
end DL

set_option Elab.async false
set_option linter.all false
set_option maxRecDepth 100000
set_option maxHeartbeats 4000000
/-! DLh: slices, built-ins, methods of lists, sources of loops, more statements. -/
namespace DL
open PySem L2

/-! ### slices -/
def cutD (xs : List D) (lo hi : Option Int) : List D := (xs.drop (HT.sIx xs.length 0 lo)).take (HT.sIx xs.length xs.length hi - HT.sIx xs.length 0 lo)
abbrev OW := En → (Option Int → En → Prop) → (Value → En → Prop) → Prop
def SimO (K : PySem.W.Frag) (W : WX) (t : TO) (w : OW) : Prop := ∀ (B : Hp) (σ : St) (ρ : En) (H : Hp) (Qw : Option Int → En → Prop) (Xw : Value → En → Prop) (Q : Option Int → Hp → Prop), SR K B σ ρ H → w ρ Qw Xw → XWof K W σ B ρ H Xw →
  (∀ o B' ρ' H', SR K B' σ ρ' H' → Tr σ B ρ H B' ρ' H' → Qw o ρ' → Q o H') → t σ H Q
structure DO (X : Cx) (W : WX) (e : Option Expr) (w : OW) : Prop where
  ok : ∃ t, PO X e t ∧ SimO X.K W t w
def wNoPart : OW := fun ρ Q _ => Q none ρ
def wPart (we : EW) : OW := fun ρ Q X => we ρ (fun r ρ1 => match r with
  | .dat (.int i) => Q (some i) ρ1
  | _ => False) X
def gSl (d : D) (lo hi : Option Int) (Q : Sl → Prop) : Prop := match d with
  | .lst ds => Q (.own (cutD ds lo hi))
  | .tup ds => Q (.dat (.tup (cutD ds lo hi)))
  | _ => False
def wSl (we : EW) (wl wh : OW) : EW := fun ρ Q X => we ρ (fun r ρ1 => wl ρ1 (fun lo ρ2 => wh ρ2 (fun hi ρ3 => withC ρ3 r fun d => gSl d lo hi fun s => Q s ρ3) X) X) X
/-- a slice of a list or a tuple (the whole tuple is itself) -/
def rSlW (K : PySem.W.Frag) : V → Option Int → Option Int → Hp → VK → Prop := fun x lo hi H Q => ∃ a xs, x = .ref a ∧ SqT K H a xs ∧
  (HT.sIx xs.length 0 lo = 0 ∧ HT.sIx xs.length xs.length hi = xs.length) ∧ Q (.ref a) H
section
open PySem.Spec PyProof.Rows
variable {prog : Program} {w : World} {A : Around} {E : Value → Shared → Prop} {s : Shared}
theorem getItem_tuple_whole {t sl : Addr} {items : Array Value} {vl vu : Value} {lo hi : Option Int} {Q : Value → Shared → Prop} (ht : IsTup s.heap t items) (hs : s.heap.IsSliceOf sl vl vu .none) (pl : IsPart vl lo) (pu : IsPart vu hi)
    (hw : HT.sIx items.size 0 lo = 0 ∧ HT.sIx items.size items.size hi = items.size)
    (h : Q (.ref t) s) : wpAny (model prog w) A (getItem (.ref t) (.ref sl)) Q E s := by
  obtain ⟨os, hos, hcs, hds⟩ := id hs
  have hTs : s.TypeIs (.ref sl) "slice" := ⟨os, hos, hcs⟩
  unfold getItem
  try with_reducible refine wpAny_holding ?_
  first | refine wpAny_bind (wpAny_pure ?_) | skip
  refine wpAny_bind (wpAny_sequenceKey ht.typeIs (by decide) ?_)
  refine wpAny_bind (wpAny_callSpecial?_slot (name := Str.ofString "__getitem__") ht.typeIs PyProof.Rows.slot_tuple_getitem
    (wpAny_call_entry PyProof.Rows.slot_tuple_getitem ht.typeIs entry_tuple_getitem ?_ (args_tuple_getitem _ _)))
  show wpAny _ _ (Builtin.Tuple.tupleItemsOf (.ref t) >>= _) _ _ s
  refine wpAny_bind (tupleItemsOf_ ht ?_)
  refine wpAny_bind (wpAny_typeOf hTs ?_)
  rw [if_pos (by decide)]
  refine wpAny_bind (HT.sliceApplied_gen hs pl pu ?_)
  have hyes : ((((HT.sIx items.size 0 lo : Nat) : Int) == 0 && (1 : Int) == 1 && (HT.sIx items.size items.size hi - HT.sIx items.size 0 lo) == items.size) = true) := by
    rw [hw.1, hw.2]
    simp
  show wpAny _ _ (if (((HT.sIx items.size 0 lo : Nat) : Int) == 0 && (1 : Int) == 1 && (HT.sIx items.size items.size hi - HT.sIx items.size 0 lo) == items.size) = true then _ else _) _ _ s
  rw [if_pos hyes]
  refine wpAny_bind (m := Builtin.Tuple.tupleIsExact _) (wpAny_bind (wpAny_typeOf ht.typeIs (wpAny_pure ?_)))
  rw [if_pos (by decide)]
  refine wpAny_bind (wpAny_rule ?_)
  first
    | exact wpAny_pure ⟨_, rfl, wpAny_pure h⟩
    | exact wpAny_bind (wpAny_pure (wpAny_pure ⟨_, rfl, wpAny_pure h⟩))
end
section
variable {X : Cx}
theorem sl_tupW : L2.SlR X (rSlW X.K) := by
  intro pins s σ H x v vl vu lo hi sl Q I rx hs pl pu h
  obtain ⟨a, xs, rfl, hx, hw, q⟩ := h
  cases rx
  obtain ⟨its, r, ht, hz⟩ := I.tuple hx
  have hlen : its.toArray.size = xs.length := by rw [List.size_toArray]; exact r.length.symm
  refine ⟨"tuple", _, PyProof.Rows.slot_tuple_getitem.lookup, ht.typeIs, ?_⟩
  exact getItem_tuple_whole ht hs pl pu (by rw [hlen]; exact hw) ⟨.ref a, H, I, rfl, q⟩
def rSlA (K : PySem.W.Frag) : V → Option Int → Option Int → Hp → VK → Prop := fun x lo hi H Q => rSlL K x lo hi H Q ∨ (rSlT K x lo hi H Q ∨ rSlW K x lo hi H Q)
theorem sl_any : L2.SlR X (rSlA X.K) := L2.SlR.or sl_list (L2.SlR.or sl_tup sl_tupW)
end
section
variable {K : PySem.W.Frag} {W : WX}
theorem IpAll.cut {B H : Hp} {vs : List V} {ds : List D} (h : IpAll K B H vs ds) (lo hi : Option Int) : IpAll K B H (cutV vs lo hi) (cutD ds lo hi) := by
  unfold cutV cutD
  rw [h.length]
  exact (h.drop _).take _
theorem cutD_whole {ds : List D} {lo hi : Option Int} (h : HT.sIx ds.length 0 lo = 0 ∧ HT.sIx ds.length ds.length hi = ds.length) : cutD ds lo hi = ds := by
  unfold cutD
  rw [h.1, h.2]
  simp
theorem sls {B H : Hp} {x : V} {d : D} {lo hi : Option Int} {Qw : Sl → Prop} {Q : VK} (sub : Same B H) (hx : RdB K B H x d) (g : gSl d lo hi Qw) (p : PP K B H Qw Q) : rSlA K x lo hi H Q := by
  cases d with
  | lst ds =>
    obtain ⟨a, xs, rfl, h1, h2⟩ := hx
    exact .inl ⟨a, xs, rfl, h1, p.lst (h2.cut lo hi) g⟩
  | tup ds =>
    cases hx with
    | tup h t =>
      rename_i a xs
      by_cases hw : HT.sIx xs.length 0 lo = 0 ∧ HT.sIx xs.length xs.length hi = xs.length
      · refine .inr (.inr ⟨_, _, rfl, h.sq, hw, p.old (.tup h t) ?_⟩)
        rw [t.length] at hw
        have g : Qw (.dat (.tup (cutD ds lo hi))) := g
        rw [cutD_whole hw] at g
        exact g
      · exact .inr (.inl ⟨_, _, rfl, h.sq, hw, p.tup (t.cut lo hi) g⟩)
  | _ => exact g.elim
theorem sim_sl {te : TE} {we : EW} {tl th : TO} {wl wh : OW} (he : SimE K W te we) (hl : SimO K W tl wl) (hh : SimO K W th wh) : SimE K W (tSl (rSlA K) te tl th) (wSl we wl wh) := by
  intro B σ ρ H Qw Xw Q s h hx q
  refine he B σ ρ H _ Xw _ s h hx fun v r B1 ρ1 H1 s1 t1 rv1 q1 => ?_
  refine hl B1 σ ρ1 H1 _ Xw _ s1 q1 (hx.lift s1 t1) fun lo B2 ρ2 H2 s2 t2 q2 => ?_
  refine hh B2 σ ρ2 H2 _ Xw _ s2 q2 ((hx.lift s1 t1).lift s2 t2) fun hi B3 ρ3 H3 s3 t3 q3 => ?_
  obtain ⟨d, e, q3⟩ := withC_some q3
  have t23 := t2.trans s2 t3
  have t13 := t1.trans s1 t23
  exact sls s3.sub ((rv1.lift s1 t23).rd s3 e) q3 fun z sl H' sm rv qq => q z sl B3 ρ3 H' (s3.same sm) (t13.trans s3 (Tr.same sm)) ((rv.rv s3 sm).early s3 t13) qq
end
section
variable {X : Cx} {W : WX} {e : Expr} {we : EW} {lo hi : Option Expr} {wl wh : OW} {pos p2 : Pos}
theorem do_none : DO X W none wNoPart := ⟨_, po_none, fun B σ ρ H Qw Xw Q s h hx q => q none B ρ H s (Tr.refl ..) h⟩
theorem do_some (h : DE X W e we) : DO X W (some e) (wPart we) := by
  obtain ⟨t, p, s⟩ := h.ok
  refine ⟨_, po_some p, fun B σ ρ H Qw Xw Q sr h hx q => ?_⟩
  refine s B σ ρ H _ Xw _ sr h hx fun v r B1 ρ1 H1 s1 t1 rv1 q1 => ?_
  cases r with
  | dat d =>
    cases d with
    | int i => cases rv1; exact ⟨i, rfl, q (some i) B1 ρ1 H1 s1 t1 q1⟩
    | _ => exact q1.elim
  | _ => exact q1.elim
theorem de_sl (he : DE X W e we) (hl : DO X W lo wl) (hh : DO X W hi wh) : DE X W (.Subscript e (.Slice lo hi none p2) pos) (wSl we wl wh) := by
  obtain ⟨t, p, s⟩ := he.ok
  obtain ⟨tl, pl, sl⟩ := hl.ok
  obtain ⟨th, ph, sh⟩ := hh.ok
  exact ⟨_, pe_slice sl_any p pl ph, sim_sl s sl sh⟩
end

/-! ### built-ins -/
def gLen : GN
  | [.tup ds], Q => Q (.dat (.int ds.length))
  | [.lst ds], Q => Q (.dat (.int ds.length))
  | [.fl ds], Q => Q (.dat (.int ds.length))
  | [.tpx ds], Q => Q (.dat (.int ds.length))
  | _, _ => False
def gAbs : GN
  | [.int i], Q => Q (.dat (.int (if i < 0 then -i else i)))
  | _, _ => False
def gMax : GN
  | [.int i, .int j], Q => Q (.dat (.int (if j > i then j else i)))
  | _, _ => False
def gMin : GN
  | [.int i, .int j], Q => Q (.dat (.int (if j < i then j else i)))
  | _, _ => False
def gInt : GN
  | [.int i], Q => Q (.dat (.int i))
  | [.bl k], Q => Q (.dat (.int (if k then 1 else 0)))
  | _, _ => False
def gTuple : GN
  | [.lst ds], Q => Q (.dat (.tup ds))
  | [.tup ds], Q => Q (.dat (.tup ds))
  | [.tpx ds], Q => Q (.dat (.tpx ds))
  | _, _ => False
def gList : GN
  | [.lst ds], Q => Q (.own ds)
  | [.tup ds], Q => Q (.own ds)
  | [.fl ds], Q => Q (.own ds)
  | _, _ => False
/-- bools of data -/
def blsOf : List D → Option (List Bool)
  | [] => some []
  | .bl b :: ds => (blsOf ds).map (b :: ·)
  | _ => none
def intsOf : List D → Option (List Int)
  | [] => some []
  | .int b :: ds => (intsOf ds).map (b :: ·)
  | _ => none
def gAny : GN
  | [.lst ds], Q => withOp (blsOf ds) fun bs => Q (.dat (.bl (bs.any id)))
  | _, _ => False
def gAll : GN
  | [.lst ds], Q => withOp (blsOf ds) fun bs => Q (.dat (.bl (bs.all id)))
  | _, _ => False
def gSorted : GN
  | [.lst ds], Q => withOp (intsOf ds) fun ns => ns.length < 64 ∧ ∀ ns' : List Int, ns'.Perm ns → ns'.Pairwise (· ≤ ·) → Q (.own (ns'.map .int))
  | _, _ => False
section
variable {K : PySem.W.Frag} {B H : Hp}
theorem bls_vs : ∀ {ds : List D} {vs : List V} {bs : List Bool}, IpAll K B H vs ds → blsOf ds = some bs → vs = bs.map V.bl
  | [], _, _, .nil, e => by cases e; rfl
  | .bl b :: ds, _, bs, .cons (.bl _) t, e => by
    cases q : blsOf ds with
    | none => rw [blsOf, q] at e; cases e
    | some bs' => rw [blsOf, q] at e; cases e; rw [bls_vs t q]; rfl
  | .non :: _, _, _, _, e => by cases e
  | .int _ :: _, _, _, _, e => by cases e
  | .str _ :: _, _, _, _, e => by cases e
  | .tup _ :: _, _, _, _, e => by cases e
  | .lst _ :: _, _, _, _, e => by cases e
  | .adr _ :: _, _, _, _, e => by cases e
  | .ty _ :: _, _, _, _, e => by cases e
theorem ints_vs : ∀ {ds : List D} {vs : List V} {bs : List Int}, IpAll K B H vs ds → intsOf ds = some bs → vs = bs.map V.int
  | [], _, _, .nil, e => by cases e; rfl
  | .int b :: ds, _, bs, .cons (.int _) t, e => by
    cases q : intsOf ds with
    | none => rw [intsOf, q] at e; cases e
    | some bs' => rw [intsOf, q] at e; cases e; rw [ints_vs t q]; rfl
  | .non :: _, _, _, _, e => by cases e
  | .bl _ :: _, _, _, _, e => by cases e
  | .str _ :: _, _, _, _, e => by cases e
  | .tup _ :: _, _, _, _, e => by cases e
  | .lst _ :: _, _, _, _, e => by cases e
  | .adr _ :: _, _, _, _, e => by cases e
  | .ty _ :: _, _, _, _, e => by cases e
end
section
variable {K : PySem.W.Frag}
theorem rd1 {B H : Hp} {xs : List V} {d : D} (h : RdAll K B H xs [d]) : ∃ x, xs = [x] ∧ RdB K B H x d := by
  cases h with
  | cons a b => cases b; exact ⟨_, rfl, a⟩
theorem rd2 {B H : Hp} {xs : List V} {d e : D} (h : RdAll K B H xs [d, e]) : ∃ x y, xs = [x, y] ∧ RdB K B H x d ∧ RdB K B H y e := by
  cases h with
  | cons a b => cases b with | cons c d => cases d; exact ⟨_, _, rfl, a, c⟩
theorem cs_len : CallS K (fun xs H Q => ∃ p ys, xs = [.ref p] ∧ (SqL K H p ys ∨ SqT K H p ys) ∧ Q (.int ys.length) H) gLen := by
  intro B H xs ds Qw Q sub hr g p
  match ds, hr, g with
  | [.tup ds], hr, g =>
    obtain ⟨x, rfl, h⟩ := rd1 hr
    cases h with
    | tup a b => exact ⟨_, _, rfl, .inr a.sq, by rw [b.length]; exact p.int g⟩
  | [.fl ds], hr, g =>
    obtain ⟨x, rfl, h⟩ := rd1 hr
    cases h with
    | fl a b => exact ⟨_, _, rfl, .inl (.inl (.inr ⟨_, a⟩)), by rw [b.length]; exact p.int g⟩
  | [.tpx ds], hr, g =>
    obtain ⟨x, rfl, h⟩ := rd1 hr
    cases h with
    | tpx a _ b => exact ⟨_, _, rfl, .inr (.inl (.inr ⟨_, a⟩)), by rw [b.length]; exact p.int g⟩
  | [.lst ds], hr, g =>
    obtain ⟨x, rfl, a, xs, rfl, h1, h2⟩ := rd1 hr
    exact ⟨_, _, rfl, .inl h1, by rw [h2.length]; exact p.int g⟩
theorem cs_abs : CallS K (fun xs H Q => ∃ i, xs = [.int i] ∧ Q (.int (if i < 0 then -i else i)) H) gAbs := by
  intro B H xs ds Qw Q sub hr g p
  match ds, hr, g with
  | [.int i], hr, g =>
    obtain ⟨x, rfl, h⟩ := rd1 hr
    cases h
    exact ⟨_, rfl, p.int g⟩
theorem cs_max : CallS K (fun xs H Q => ∃ i j, xs = [.int i, .int j] ∧ Q (.int (if j > i then j else i)) H) gMax := by
  intro B H xs ds Qw Q sub hr g p
  match ds, hr, g with
  | [.int i, .int j], hr, g =>
    obtain ⟨x, y, rfl, h, h'⟩ := rd2 hr
    cases h; cases h'
    exact ⟨_, _, rfl, p.int g⟩
theorem cs_min : CallS K (fun xs H Q => ∃ i j, xs = [.int i, .int j] ∧ Q (.int (if j < i then j else i)) H) gMin := by
  intro B H xs ds Qw Q sub hr g p
  match ds, hr, g with
  | [.int i, .int j], hr, g =>
    obtain ⟨x, y, rfl, h, h'⟩ := rd2 hr
    cases h; cases h'
    exact ⟨_, _, rfl, p.int g⟩
theorem cs_int : CallS K (fun xs H Q => (∃ i, xs = [.int i] ∧ Q (.int i) H) ∨ ∃ k, xs = [.bl k] ∧ Q (.int (if k then 1 else 0)) H) gInt := by
  intro B H xs ds Qw Q sub hr g p
  match ds, hr, g with
  | [.int i], hr, g =>
    obtain ⟨x, rfl, h⟩ := rd1 hr
    cases h
    exact .inl ⟨_, rfl, p.int g⟩
  | [.bl i], hr, g =>
    obtain ⟨x, rfl, h⟩ := rd1 hr
    cases h
    exact .inr ⟨_, rfl, p.int g⟩
theorem cs_tuple : CallS K (fun xs H Q => ∃ p ys, xs = [.ref p] ∧ ((SqL K H p ys ∧ ∀ l, H l = none → Q (.ref l) (upd H l (.tup ys))) ∨ (SqT K H p ys ∧ Q (.ref p) H))) gTuple := by
  intro B H xs ds Qw Q sub hr g p
  match ds, hr, g with
  | [.tup ds], hr, g =>
    obtain ⟨x, rfl, h⟩ := rd1 hr
    cases h with
    | tup a b => exact ⟨_, _, rfl, .inr ⟨a.sq, p.old (.tup a b) g⟩⟩
  | [.tpx ds], hr, g =>
    obtain ⟨x, rfl, h⟩ := rd1 hr
    cases h with
    | tpx a c b => exact ⟨_, _, rfl, .inr ⟨.inl (.inr ⟨_, a⟩), p.old (.tpx a c b) g⟩⟩
  | [.lst ds], hr, g =>
    obtain ⟨x, rfl, a, xs, rfl, h1, h2⟩ := rd1 hr
    exact ⟨_, _, rfl, .inl ⟨h1, p.tup h2 g⟩⟩
theorem cs_list : CallS K (fun xs H Q => ∃ p ys, xs = [.ref p] ∧ (SqL K H p ys ∨ SqT K H p ys) ∧ ∀ l, H l = none → Q (.ref l) (upd H l (.lst ys))) gList := by
  intro B H xs ds Qw Q sub hr g p
  match ds, hr, g with
  | [.tup ds], hr, g =>
    obtain ⟨x, rfl, h⟩ := rd1 hr
    cases h with
    | tup a b => exact ⟨_, _, rfl, .inr a.sq, p.lst b g⟩
  | [.fl ds], hr, g =>
    obtain ⟨x, rfl, h⟩ := rd1 hr
    cases h with
    | fl a b => exact ⟨_, _, rfl, .inl (.inl (.inr ⟨_, a⟩)), p.lst b g⟩
  | [.lst ds], hr, g =>
    obtain ⟨x, rfl, a, xs, rfl, h1, h2⟩ := rd1 hr
    exact ⟨_, _, rfl, .inl h1, p.lst h2 g⟩
theorem cs_any : CallS K (rAny K) gAny := by
  intro B H xs ds Qw Q sub hr g p
  match ds, hr, g with
  | [.lst ds], hr, g =>
    obtain ⟨x, rfl, a, xs, rfl, h1, h2⟩ := rd1 hr
    obtain ⟨bs, e, g⟩ := withOp_some g
    have ev := bls_vs h2 e
    subst ev
    exact ⟨a, bs, rfl, h1, p.bl g⟩
theorem cs_all : CallS K (rAll K) gAll := by
  intro B H xs ds Qw Q sub hr g p
  match ds, hr, g with
  | [.lst ds], hr, g =>
    obtain ⟨x, rfl, a, xs, rfl, h1, h2⟩ := rd1 hr
    obtain ⟨bs, e, g⟩ := withOp_some g
    have ev := bls_vs h2 e
    subst ev
    exact ⟨a, bs, rfl, h1, p.bl g⟩
theorem cs_sorted : CallS K (rSorted K) gSorted := by
  intro B H xs ds Qw Q sub hr g p
  match ds, hr, g with
  | [.lst ds], hr, g =>
    obtain ⟨x, rfl, a, xs, rfl, h1, h2⟩ := rd1 hr
    obtain ⟨bs, e, hl, g⟩ := withOp_some g
    have ev := ints_vs h2 e
    subst ev
    exact ⟨a, bs, rfl, h1, hl, fun ns' q hp hs hq => p.lst (IpAll.ints ns') (g ns' hp hs) q hq⟩
end

/-! ### methods of one's own list -/
def mAppend : GM
  | ds, [d], Q => ds.length < sizeLine ∧ Q .non (ds ++ [d])
  | _, _, _ => False
def mPop : GM
  | ds, [], Q => withOp ds[ds.length - 1]? fun d => Q d ds.dropLast
  | _, _, _ => False
def mPopAt : GM
  | ds, [.int i], Q => (-(2 ^ 63) ≤ i ∧ i < 2 ^ 63) ∧ withOp (seqIndex? i ds.length) fun k => withOp ds[k]? fun d => Q d (ds.eraseIdx k)
  | _, _, _ => False
def mReverse : GM
  | ds, [], Q => Q .non ds.reverse
  | _, _, _ => False
def mClear : GM
  | ds, [], Q => Q .non []
  | _, _, _ => False
section
variable {K : PySem.W.Frag}
theorem ms_append : MtS K rAppend mAppend := by
  intro B H p vs xs ds args Qw Q hp ia ix m q
  match args, ix, m with
  | [d], .cons h .nil, m => exact ⟨p, vs, _, rfl, rfl, hp, by rw [ia.length]; exact m.1, q _ _ _ _ (ia.append (.cons h .nil)) .non m.2⟩
theorem ms_pop : MtS K rPop mPop := by
  intro B H p vs xs ds args Qw Q hp ia ix m q
  match args, ix, m with
  | [], .nil, m =>
    obtain ⟨d, e, m⟩ := withOp_some m
    obtain ⟨v, h1, h2⟩ := ia.get e
    exact ⟨p, vs, v, rfl, rfl, hp, by rw [ia.length]; exact h1, q _ _ _ _ ia.dropLast h2 m⟩
theorem ms_popAt : MtS K rPopAt mPopAt := by
  intro B H p vs xs ds args Qw Q hp ia ix m q
  match args, ix, m with
  | [.int i], .cons (.int _) .nil, m =>
    obtain ⟨⟨b1, b2⟩, m⟩ := m
    obtain ⟨k, e, m⟩ := withOp_some m
    obtain ⟨d, e2, m⟩ := withOp_some m
    obtain ⟨v, h1, h2⟩ := ia.get e2
    exact ⟨p, vs, i, k, v, rfl, rfl, hp, b1, b2, by rw [ia.length]; exact e, h1, q _ _ _ _ (ia.eraseIdx k) h2 m⟩
theorem ms_reverse : MtS K rReverse mReverse := by
  intro B H p vs xs ds args Qw Q hp ia ix m q
  match args, ix, m with
  | [], .nil, m => exact ⟨p, vs, rfl, rfl, hp, q _ _ _ _ ia.reverse .non m⟩
theorem ms_clear : MtS K rClear mClear := by
  intro B H p vs xs ds args Qw Q hp ia ix m q
  match args, ix, m with
  | [], .nil, m => exact ⟨p, vs, rfl, rfl, hp, q _ _ _ _ .nil .non m⟩
end
section
variable {X : Cx} {W : WX} {e : Expr} {es : List Expr} {wr : AW} {name : Str} {apos cpos pos : Pos} {id : String} {r : V → List V → Hp → VK → Prop} {m : GM}
theorem de_mt (i : Nat) {x : Str} (slot : Slot "list" name id) (hty : typeOf (.builtin id) = pure (.type "method_descriptor")) (hm : MtR X id r) (ms : MtS X.K r m) (ha : DA X W (e :: es) wr)
    (hN : X.N[i]? = some x := by rfl) (hv : Vis X.env.scope x := by first | exact Or.inl rfl | exact Or.inr (Or.inl rfl) | exact Or.inr (Or.inr rfl)) (hd : (x == ("__debug__" : Str)) = false := by decide)
    (hcd : (x == ("__classdict__" : Str)) = false := by decide)
    (hbase : attributeBase (.Name x pos) name X.env (eval (.Name x pos) X.env) = eval (.Name x pos) X.env := by rfl)
    (hfew : ((backTo cpos (starEach (e :: es) X.env)).all (fun x => !x.1) && (backToKw cpos (keywordEach [] X.env)).all (fun x => x.1.isSome)
      && decide ((e :: es).length + ([] : List Keyword).length + (if ([] : List Keyword).isEmpty then 0 else 1) < 30)) = true := by rfl)
    (hline : (apos.endLine == cpos.line) = true := by rfl) (hs : starEach (e :: es) X.env = (false, eval e X.env) :: starEach es X.env := by rfl) (hplain : (backTo cpos (starEach es X.env)).any (·.1) = false := by rfl) :
    DE X W (.Call (.Attribute (.Name x pos) name apos) (e :: es) [] cpos) (wMt m i wr) := by
  obtain ⟨t, p, s⟩ := ha.ok
  exact ⟨_, pe_bm PySem.F.plainAttrs_list slot hty hm (pe_var hN hv hd hcd) p hbase hfew hline hs hplain, sim_mt ms i s⟩
theorem de_mt0 (i : Nat) {x : Str} (slot : Slot "list" name id) (hty : typeOf (.builtin id) = pure (.type "method_descriptor")) (hm : MtR X id r) (ms : MtS X.K r m)
    (hN : X.N[i]? = some x := by rfl) (hv : Vis X.env.scope x := by first | exact Or.inl rfl | exact Or.inr (Or.inl rfl) | exact Or.inr (Or.inr rfl)) (hd : (x == ("__debug__" : Str)) = false := by decide)
    (hcd : (x == ("__classdict__" : Str)) = false := by decide)
    (hbase : attributeBase (.Name x pos) name X.env (eval (.Name x pos) X.env) = eval (.Name x pos) X.env := by rfl) (hline : (apos.endLine == cpos.line) = true := by rfl) :
    DE X W (.Call (.Attribute (.Name x pos) name apos) [] [] cpos) (wMt0 m i) :=
  ⟨_, pe_bm0 PySem.F.plainAttrs_list slot hty hm (pe_var hN hv hd hcd) hbase hline, sim_mt0 ms i⟩
end
end DL

set_option Elab.async false
set_option linter.all false
set_option maxRecDepth 100000
set_option maxHeartbeats 4000000
/-! DLi: sources of loops; more statements. -/
namespace DL
open PySem L2

/-! ### a list or a tuple -/
def iSeq (K : PySem.W.Frag) (tl : TE) : TI := fun σ H R => tl σ H fun x H1 => ∃ a xs, x = .ref a ∧ ((SqL K H1 a xs ∧ R (Itl K a) H1) ∨ (SqT K H1 a xs ∧ R (Itt K a) H1))
section
variable {X : Cx} {tg : Expr}
theorem pi_seq {l : Expr} {tl : TE} (hl : PE X l tl) : PI X tg l (iSeq X.K tl) := by
  refine ⟨fun pins s σ H R I h => ?_⟩
  refine thn (hl.run pins s σ H _ I h) fun v s1 ⟨x, H1, I1, r1, q1⟩ => ?_
  obtain ⟨a, xs, e, q⟩ := q1
  subst e
  cases r1
  have fin : ∀ b, b ∈ [s1.heap.objs.size] → FpOk X pins H1 b := fun b hb => by
    have e : b = s1.heap.objs.size := by simpa using hb
    subst e
    exact I1.fpOk (Nat.le_refl _) (I1.hok.fresh (Nat.le_refl _))
  rcases q with ⟨hq, q⟩ | ⟨hq, q⟩
  · obtain ⟨its, rv, p, hz⟩ := I1.list hq
    refine wpAny_pyIter_list p.isList ?_
    exact ⟨s1.heap.objs.size, [s1.heap.objs.size], _, _, H1, rfl, I1.kept (t' := s1.toks) fun b o e => Heap.get?_push_of_some _ e, turn_list a _, ⟨_, Heap.get?_push_size _ rfl, rfl, rfl⟩, fin, q⟩
  · obtain ⟨its, rv, p, hz⟩ := I1.tuple hq
    refine wpAny_pyIter_tuple (show s1.heap.IsTuple a its.toArray from p) ?_
    exact ⟨s1.heap.objs.size, [s1.heap.objs.size], _, _, H1, rfl, I1.kept (t' := s1.toks) fun b o e => Heap.get?_push_of_some _ e, turn_tuple a _, ⟨_, Heap.get?_push_size _ rfl, rfl, rfl⟩, fin, q⟩
end
def wSrc (we : EW) : IW := fun ρ Q X => we ρ (fun r ρ1 => match r with
  | .dat (.tup ds) => Q ds ρ1
  | .dat (.lst ds) => Q ds ρ1
  | .dat (.fl ds) => Q ds ρ1
  | .dat (.tpx ds) => Q ds ρ1
  | .own ds => Q ds ρ1
  | _ => False) X
section
variable {K : PySem.W.Frag} {W : WX}
theorem wk_fl {a : Addr} {o : Obj} {xs : List V} {ds : List D} {B0 H0 : Hp} (h : H0 a = some (.frz o (.lst xs))) (ia : IpAll K B0 H0 xs ds) : Wk K (Itl K a) ds (okS B0 H0) where
  go := fun k B H ⟨bb, tu, sub⟩ hk => by
    have hk' : k < xs.length := by rw [ia.length]; exact hk
    exact ⟨xs, xs[k], .inl (.inr ⟨o, tu _ _ h rfl⟩), List.getElem?_eq_getElem hk'⟩
  yld := fun k B H x H' ⟨bb, tu, sub⟩ hy hk => by
    obtain ⟨rfl, f⟩ := hy
    have hx := f xs (.inl (.inr ⟨o, tu _ _ h rfl⟩))
    obtain ⟨d, e, i⟩ := ia.getV hx
    exact ⟨d, e, Same.refl _, i.mono bb tu⟩
  stop := fun k B H ⟨bb, tu, sub⟩ hk => ⟨xs, .inl (.inr ⟨o, tu _ _ h rfl⟩), by rw [ia.length]; exact hk⟩
theorem wk_list {a : Addr} {xs : List V} {ds : List D} {B0 H0 : Hp} (h : SqL K B0 a xs) (ia : IpAll K B0 H0 xs ds) : Wk K (Itl K a) ds (okS B0 H0) where
  go := fun k B H ⟨bb, tu, sub⟩ hk => by
    have hk' : k < xs.length := by rw [ia.length]; exact hk
    exact ⟨xs, xs[k], sub.seq (bb.seq h), List.getElem?_eq_getElem hk'⟩
  yld := fun k B H x H' ⟨bb, tu, sub⟩ hy hk => by
    obtain ⟨rfl, f⟩ := hy
    have hx := f xs (sub.seq (bb.seq h))
    obtain ⟨d, e, i⟩ := ia.getV hx
    exact ⟨d, e, Same.refl _, i.mono bb tu⟩
  stop := fun k B H ⟨bb, tu, sub⟩ hk => ⟨xs, sub.seq (bb.seq h), by rw [ia.length]; exact hk⟩
theorem wk_tup {a : Addr} {xs : List V} {ds : List D} {B0 H0 : Hp} (h : SqT K H0 a xs) (ia : IpAll K B0 H0 xs ds) : Wk K (Itt K a) ds (okS B0 H0) where
  go := fun k B H ⟨bb, tu, sub⟩ hk => by
    have hk' : k < xs.length := by rw [ia.length]; exact hk
    exact ⟨xs, xs[k], tu.sq h, List.getElem?_eq_getElem hk'⟩
  yld := fun k B H x H' ⟨bb, tu, sub⟩ hy hk => by
    obtain ⟨rfl, f⟩ := hy
    have hx := f xs (tu.sq h)
    obtain ⟨d, e, i⟩ := ia.getV hx
    exact ⟨d, e, Same.refl _, i.mono bb tu⟩
  stop := fun k B H ⟨bb, tu, sub⟩ hk => ⟨xs, tu.sq h, by rw [ia.length]; exact hk⟩
theorem sim_src {te : TE} {we : EW} (he : SimE K W te we) : SimI K W (iSeq K te) (wSrc we) := by
  intro B σ ρ H Qw Xw R s h hx q
  refine he B σ ρ H _ Xw _ s h hx fun v r B1 ρ1 H1 s1 t1 rv1 q1 => ?_
  cases r with
  | dat d =>
    cases d with
    | tup ds =>
      cases rv1 with
      | tup hh ia => exact ⟨_, _, rfl, .inr ⟨hh.sq, q _ ds B1 ρ1 H1 s1 t1 (wk_tup hh.sq ia) q1⟩⟩
    | fl ds =>
      cases rv1 with
      | fl hh ia => exact ⟨_, _, rfl, .inl ⟨.inl (.inr ⟨_, hh⟩), q _ ds B1 ρ1 H1 s1 t1 (wk_fl hh ia) q1⟩⟩
    | tpx ds =>
      cases rv1 with
      | tpx hh _ ia => exact ⟨_, _, rfl, .inr ⟨.inl (.inr ⟨_, hh⟩), q _ ds B1 ρ1 H1 s1 t1 (wk_tup (.inl (.inr ⟨_, hh⟩)) ia) q1⟩⟩
    | lst ds =>
      cases rv1 with
      | lst hh ia => exact ⟨_, _, rfl, .inl ⟨s1.sub.seq hh, q _ ds B1 ρ1 H1 s1 t1 (wk_list hh ia) q1⟩⟩
    | _ => exact q1.elim
  | own ds =>
    have rva : RvAll K B1 σ ρ1 H1 H [v] [.own ds] := .cons (H1 := H1) rv1 (fun b hb => t1.free s1 hb) (fun p dl e1 e2 => by
      cases e1
      obtain ⟨p', vs', e, _, _, hp, _⟩ := rv1
      rw [e2] at e; cases e
      rw [hp]; simp) .nil
    obtain ⟨B2, s2, bb, bn, ia⟩ := rva.freeze s1 (ds := [.lst ds]) rfl
    have t2 : Tr σ B ρ H B2 ρ1 H1 := ⟨t1.ext, t1.bex.trans bb, fun b hb => (bn b hb).elim (fun z => t1.bnew b z) .inr, t1.shp, t1.shi⟩
    cases ia with
    | cons i0 _ =>
      cases i0 with
      | lst hh il => exact ⟨_, _, rfl, .inl ⟨s2.sub.seq hh, q _ ds B2 ρ1 H1 s2 t2 (wk_list hh il) q1⟩⟩
  | inn ds => exact q1.elim
  | bor i => exact q1.elim
  | dic kvs => exact q1.elim
end
/-! ### range -/
def rgD (lo : Int) (n : Nat) : List D := (List.range n).map fun i => .int (lo + (i : Nat))
def wRg1 (we : EW) : IW := fun ρ Q X => we ρ (fun r ρ1 => match r with
  | .dat (.int j) => (-(2 ^ 62) ≤ j ∧ j < 2 ^ 62) ∧ Q (rgD 0 j.toNat) ρ1
  | _ => False) X
def wRg2 (wa wb : EW) : IW := fun ρ Q X => wa ρ (fun r ρ1 => wb ρ1 (fun r' ρ2 => match r, r' with
  | .dat (.int i), .dat (.int j) => ((-(2 ^ 62) ≤ i ∧ i < 2 ^ 62) ∧ -(2 ^ 62) ≤ j ∧ j < 2 ^ 62) ∧ Q (rgD i (j - i).toNat) ρ2
  | _, _ => False) X) X
section
variable {K : PySem.W.Frag} {W : WX}
theorem rgD_len (lo : Int) (n : Nat) : (rgD lo n).length = n := by unfold rgD; simp
theorem rgD_get {lo : Int} {n k : Nat} (h : k < n) : (rgD lo n)[k]? = some (.int (lo + (k : Nat))) := by
  unfold rgD
  rw [List.getElem?_map, List.getElem?_range h]; rfl
theorem wk_rg (lo : Int) (n : Nat) (ok : Hp → Hp → Prop) : Wk K (Itr lo n) (rgD lo n) ok where
  go := fun k B H _ hk => by rw [rgD_len] at hk; exact hk
  yld := fun k B H x H' _ hy hk => by
    obtain ⟨rfl, rfl⟩ := hy
    rw [rgD_len] at hk
    exact ⟨_, rgD_get hk, Same.refl _, .int _⟩
  stop := fun k B H _ hk => by rw [rgD_len] at hk; exact hk
end
section
variable {X : Cx} {W : WX} {tg a b e : Expr} {wa wb we : EW} {pos p : Pos}
theorem di_seq (he : DE X W e we) : DI X W tg e (wSrc we) := by
  obtain ⟨t, p, s⟩ := he.ok
  exact ⟨_, pi_seq p, sim_src s⟩
theorem di_range1 (hg : Gl X "range") (hm : X.mg "range" = none) (ha : DE X W a wa) (hs : starEach [a] X.env = [(false, eval a X.env)] := by rfl) : DI X W tg (.Call (.Name "range" p) [a] [] pos) (wRg1 wa) := by
  obtain ⟨t, pa, sa⟩ := ha.ok
  refine ⟨_, pi_range1 hg hm (pa_cons pa pa_nil hs) hs, fun B σ ρ H Qw Xw R s h hx q => ?_⟩
  refine sa B σ ρ H _ Xw _ s h hx fun v r B1 ρ1 H1 s1 t1 rv1 q1 => ?_
  cases r with
  | dat d =>
    cases d with
    | int j =>
      cases rv1
      exact ⟨j, rfl, q1.1.1, q1.1.2, q _ _ B1 ρ1 H1 s1 t1 (wk_rg 0 _ _) q1.2⟩
    | _ => exact q1.elim
  | _ => exact q1.elim
theorem di_range2 (hg : Gl X "range") (hm : X.mg "range" = none) (ha : DE X W a wa) (hb : DE X W b wb) (hs : starEach [a, b] X.env = [(false, eval a X.env), (false, eval b X.env)] := by rfl) (hs2 : starEach [b] X.env = [(false, eval b X.env)] := by rfl) : DI X W tg (.Call (.Name "range" p) [a, b] [] pos) (wRg2 wa wb) := by
  obtain ⟨t, pa, sa⟩ := ha.ok
  obtain ⟨t2, pb, sb⟩ := hb.ok
  refine ⟨_, pi_range2 hg hm (pa_cons pa (pa_cons pb pa_nil hs2) (by rw [hs, hs2])) hs hs2, fun B σ ρ H Qw Xw R s h hx q => ?_⟩
  refine sa B σ ρ H _ Xw _ s h hx fun v r B1 ρ1 H1 s1 t1 rv1 q1 => ?_
  refine sb B1 σ ρ1 H1 _ Xw _ s1 q1 (hx.lift s1 t1) fun v2 r2 B2 ρ2 H2 s2 t2 rv2 q2 => ?_
  cases r with
  | dat d =>
    cases d with
    | int i =>
      cases r2 with
      | dat d2 =>
        cases d2 with
        | int j =>
          cases rv1
          cases rv2
          exact ⟨i, j, rfl, ⟨q2.1.1.1, q2.1.1.2, q2.1.2.1, q2.1.2.2⟩, q _ _ B2 ρ2 H2 s2 (t1.trans s1 t2) (wk_rg _ _ _) q2.2⟩
        | _ => exact q2.elim
      | _ => exact q2.elim
    | _ => exact q2.elim
  | _ => exact q2.elim
end

/-! ### list(range(..)), tuple(range(..)) -/
def wTupRg (we : IW) : EW := fun ρ Q X => we ρ (fun ds ρ1 => ds.length ≤ 16777216 ∧ Q (.dat (.tup ds)) ρ1) X
def wLstRg (we : IW) : EW := fun ρ Q X => we ρ (fun ds ρ1 => ds.length ≤ 16777216 ∧ Q (.own ds) ρ1) X
section
variable {X : Cx} {W : WX} {tg a b e : Expr} {wa wb we : EW} {pos p pos2 p2 : Pos}
theorem rgV_ip {K : PySem.W.Frag} {B H : Hp} (lo hi : Int) : IpAll K B H (rgV lo hi) (rgD lo (hi - lo).toNat) := by
  unfold rgV rgD
  generalize List.range (hi - lo).toNat = l
  induction l with
  | nil => exact .nil
  | cons x l ih => exact .cons (.int _) ih
theorem rg_post {K : PySem.W.Frag} {B B1 H H1 : Hp} {σ : St} {ρ ρ1 : En} {j : Int} {Qw : Sl → En → Prop} {Q : VK} (s1 : SR K B1 σ ρ1 H1) (t1 : Tr σ B ρ H B1 ρ1 H1) (q : ∀ v r B' ρ' H', SR K B' σ ρ' H' → Tr σ B ρ H B' ρ' H' → RvR K B' σ ρ' H H' v r → Qw r ρ' → Q v H') {v : V} {r : Sl} {H' : Hp} (sm : Same H1 H') (rv : RvV K B1 H1 H' v r) (qq : Qw r ρ1) : Q v H' :=
  q v r B1 ρ1 H' (s1.same sm) (t1.trans s1 (Tr.same sm)) ((rv.rv s1 sm).early s1 t1) qq
theorem de_tupRg1 (hc : X.calm = true) (hg0 : Gl X "tuple") (hm0 : X.mg "tuple" = none) (hg : Gl X "range") (hm : X.mg "range" = none) (ha : DE X W a wa) (na : starEach [a] X.env = (false, eval a X.env) :: starEach [] X.env := by rfl)
    (nb : starEach [Expr.Call (.Name "range" p) [a] [] pos] X.env = (false, eval (Expr.Call (.Name "range" p) [a] [] pos) X.env) :: starEach [] X.env := by rfl) : DE X W (.Call (.Name "tuple" p2) [.Call (.Name "range" p) [a] [] pos] [] pos2) (wTupRg (wRg1 wa)) := by
  obtain ⟨t, pa, sa⟩ := ha.ok
  refine ⟨_, pe_tupRg hc hg0 hm0 (prg_1 hg hm pa na) nb, fun B σ ρ H Qw Xw Q s h hx q => ?_⟩
  refine sa B σ ρ H _ Xw _ s h hx fun v r B1 ρ1 H1 s1 t1 rv1 q1 => ?_
  cases r with
  | dat d =>
    cases d with
    | int j =>
      cases rv1
      obtain ⟨⟨b1, b2⟩, hl, q1⟩ := q1
      rw [rgD_len] at hl
      have e : ((j : Int) - 0).toNat = j.toNat := by rw [Int.sub_zero]
      refine ⟨j, rfl, ⟨by omega, by omega, b1, b2, by omega⟩, fun p hp => ?_⟩
      have p0 : PP X.K B1 H1 (fun r => Qw r ρ1) Q := fun v sl H' sm rv qq => rg_post (j := j) s1 t1 q sm rv qq
      exact p0.tup (rgV_ip 0 j) (by rw [e]; exact q1) p hp
    | _ => exact q1.elim
  | _ => exact q1.elim
theorem de_lstRg1 (hc : X.calm = true) (hg0 : Gl X "list") (hm0 : X.mg "list" = none) (hg : Gl X "range") (hm : X.mg "range" = none) (ha : DE X W a wa) (na : starEach [a] X.env = (false, eval a X.env) :: starEach [] X.env := by rfl)
    (nb : starEach [Expr.Call (.Name "range" p) [a] [] pos] X.env = (false, eval (Expr.Call (.Name "range" p) [a] [] pos) X.env) :: starEach [] X.env := by rfl) : DE X W (.Call (.Name "list" p2) [.Call (.Name "range" p) [a] [] pos] [] pos2) (wLstRg (wRg1 wa)) := by
  obtain ⟨t, pa, sa⟩ := ha.ok
  refine ⟨_, pe_listRg hc hg0 hm0 (prg_1 hg hm pa na) nb, fun B σ ρ H Qw Xw Q s h hx q => ?_⟩
  refine sa B σ ρ H _ Xw _ s h hx fun v r B1 ρ1 H1 s1 t1 rv1 q1 => ?_
  cases r with
  | dat d =>
    cases d with
    | int j =>
      cases rv1
      obtain ⟨⟨b1, b2⟩, hl, q1⟩ := q1
      rw [rgD_len] at hl
      have e : ((j : Int) - 0).toNat = j.toNat := by rw [Int.sub_zero]
      refine ⟨j, rfl, ⟨by omega, by omega, b1, b2, by omega⟩, fun p hp => ?_⟩
      have p0 : PP X.K B1 H1 (fun r => Qw r ρ1) Q := fun v sl H' sm rv qq => rg_post (j := j) s1 t1 q sm rv qq
      exact p0.lst (rgV_ip 0 j) (by rw [e]; exact q1) p hp
    | _ => exact q1.elim
  | _ => exact q1.elim
end

/-! ### reversed -/
def wRev (we : EW) : IW := fun ρ Q X => we ρ (fun r ρ1 => match r with
  | .dat (.tup ds) => Q ds.reverse ρ1
  | .dat (.lst ds) => Q ds.reverse ρ1
  | .own ds => Q ds.reverse ρ1
  | _ => False) X
section
variable {K : PySem.W.Frag} {W : WX}
theorem rev_get {α : Type} {l : List α} {k : Nat} (h : k < l.length) : l.reverse[k]? = l[l.length - 1 - k]? := by
  rw [List.getElem?_reverse h]
theorem wk_revL {a : Addr} {xs : List V} {ds : List D} {B0 H0 : Hp} (h : SqL K B0 a xs) (ia : IpAll K B0 H0 xs ds) : Wk K (Itv K a xs.length) ds.reverse (okS B0 H0) where
  go := fun k B H ⟨bb, tu, sub⟩ hk => by
    rw [List.length_reverse, ← ia.length] at hk
    have h1 : xs.length - 1 - k < xs.length := by omega
    exact ⟨hk, xs, xs[xs.length - 1 - k], sub.seq (bb.seq h), List.getElem?_eq_getElem h1⟩
  yld := fun k B H x H' ⟨bb, tu, sub⟩ hy hk => by
    rw [List.length_reverse] at hk
    obtain ⟨rfl, f⟩ := hy
    have hx := f xs (sub.seq (bb.seq h))
    obtain ⟨d, e, i⟩ := ia.getV hx
    refine ⟨d, ?_, Same.refl _, i.mono bb tu⟩
    rw [rev_get hk, ← ia.length]; exact e
  stop := fun k B H ⟨bb, tu, sub⟩ hk => by
    rw [List.length_reverse, ← ia.length] at hk
    exact hk
theorem wk_revT {a : Addr} {xs : List V} {ds : List D} {B0 H0 : Hp} (h : SqT K H0 a xs) (ia : IpAll K B0 H0 xs ds) : Wk K (RT.ItvT K a xs.length) ds.reverse (okS B0 H0) where
  go := fun k B H ⟨bb, tu, sub⟩ hk => by
    rw [List.length_reverse, ← ia.length] at hk
    have h1 : xs.length - 1 - k < xs.length := by omega
    exact ⟨hk, xs, xs[xs.length - 1 - k], tu.sq h, List.getElem?_eq_getElem h1⟩
  yld := fun k B H x H' ⟨bb, tu, sub⟩ hy hk => by
    rw [List.length_reverse] at hk
    obtain ⟨rfl, f⟩ := hy
    have hx := f xs (tu.sq h)
    obtain ⟨d, e, i⟩ := ia.getV hx
    refine ⟨d, ?_, Same.refl _, i.mono bb tu⟩
    rw [rev_get hk, ← ia.length]; exact e
  stop := fun k B H ⟨bb, tu, sub⟩ hk => by
    rw [List.length_reverse, ← ia.length] at hk
    exact hk
theorem sim_rev {te : TE} {we : EW} (he : SimE K W te we) : SimI K W (RT.iRevA K te) (wRev we) := by
  intro B σ ρ H Qw Xw R s h hx q
  refine he B σ ρ H _ Xw _ s h hx fun v r B1 ρ1 H1 s1 t1 rv1 q1 => ?_
  cases r with
  | dat d =>
    cases d with
    | tup ds =>
      cases rv1 with
      | tup hh ia => exact ⟨_, _, rfl, .inr ⟨hh.sq, q _ _ B1 ρ1 H1 s1 t1 (wk_revT hh.sq ia) q1⟩⟩
    | lst ds =>
      cases rv1 with
      | lst hh ia => exact ⟨_, _, rfl, .inl ⟨s1.sub.seq hh, q _ _ B1 ρ1 H1 s1 t1 (wk_revL hh ia) q1⟩⟩
    | _ => exact q1.elim
  | own ds =>
    have rva : RvAll K B1 σ ρ1 H1 H [v] [.own ds] := .cons (H1 := H1) rv1 (fun b hb => t1.free s1 hb) (fun p dl e1 e2 => by
      cases e1
      obtain ⟨p', vs', e, _, _, hp, _⟩ := rv1
      rw [e2] at e; cases e
      rw [hp]; simp) .nil
    obtain ⟨B2, s2, bb, bn, ia⟩ := rva.freeze s1 (ds := [.lst ds]) rfl
    have t2 : Tr σ B ρ H B2 ρ1 H1 := ⟨t1.ext, t1.bex.trans bb, fun b hb => (bn b hb).elim (fun z => t1.bnew b z) .inr, t1.shp, t1.shi⟩
    cases ia with
    | cons i0 _ =>
      cases i0 with
      | lst hh il => exact ⟨_, _, rfl, .inl ⟨s2.sub.seq hh, q _ _ B2 ρ1 H1 s2 t2 (wk_revL hh il) q1⟩⟩
  | inn ds => exact q1.elim
  | bor i => exact q1.elim
  | dic kvs => exact q1.elim
end
section
variable {X : Cx} {W : WX} {tg e : Expr} {we : EW} {pos p : Pos}
theorem di_rev (hg : Gl X "reversed") (hm : X.mg "reversed" = none) (he : DE X W e we) (hs : starEach [e] X.env = (false, eval e X.env) :: starEach [] X.env := by rfl) : DI X W tg (.Call (.Name "reversed" p) [e] [] pos) (wRev we) := by
  obtain ⟨t, pa, sa⟩ := he.ok
  exact ⟨_, RT.pi_revA hg hm pa hs, sim_rev sa⟩
end

/-! ### a slot's list is given away (no step of the machine) -/
def frz (ρ : En) (i : Nat) : En := match ρ[i]? with
  | some (some (.own ds)) => ρ.set i (some (.dat (.lst ds)))
  | _ => ρ
def wFrz (i : Nat) (w : SW) : SW := fun E ρ => w E (frz ρ i)
section
variable {K : PySem.W.Frag} {W : WX}
theorem FR.frz {H0 B0 B H : Hp} {L : Nat → Addr → Prop} {σ : St} {ρ : En} (f : FR K H0 B0 L B σ ρ H) (i : Nat) : ∃ B', FR K H0 B0 L B' σ (frz ρ i) H ∧ Gr B H B' H := by
  unfold DL.frz
  split
  · rename_i ds e
    obtain ⟨v, hv, p, vs, ev, nb, hp, ia⟩ := f.slot i _ e
    subst ev
    have hi : i < ρ.length := (List.getElem?_eq_some_iff.mp e).1
    have hs : i < σ.length := by rw [f.len]; exact hi
    have own : OwnAt σ ρ p := ⟨i, by rw [e]; rfl, hv⟩
    have bb : Same B (upd B p (.lst vs)) := upd_same_sub nb
    have shp : ∀ j, isOwn (ρ.set i (some (.dat (.lst ds))))[j]? = true → j ≠ i ∧ isOwn ρ[j]? = true := fun j h => by
      by_cases hj : j = i
      · subst hj; rw [List.getElem?_set_self hi] at h; cases h
      · rw [List.getElem?_set_ne (Ne.symm hj)] at h; exact ⟨hj, h⟩
    have ownp : ∀ b, OwnAt σ (ρ.set i (some (.dat (.lst ds)))) b → OwnAt σ ρ b ∧ b ≠ p := fun b ⟨j, h1, h2⟩ => by
      obtain ⟨hj, h1⟩ := shp j h1
      exact ⟨⟨j, h1, h2⟩, fun z => hj (f.inj j i p h1 (by rw [e]; rfl) (z ▸ h2) hv)⟩
    refine ⟨upd B p (.lst vs), ⟨⟨by simp [f.len], ?_, ?_, ?_⟩, f.ext0, fun b z => f.fresh b (ownp b z).1, fun j b h => ?_, fun b hb => ?_⟩, ⟨bb, Tups.of (Same.refl _)⟩⟩
    · intro b o q
      by_cases hb : b = p
      · subst hb; rw [upd_same] at q; cases q; exact hp
      · rw [upd_ne hb] at q; exact f.sub b o q
    · intro j sl h
      by_cases hj : j = i
      · subst hj
        rw [List.getElem?_set_self hi] at h; cases h
        exact ⟨.ref p, hv, .lst (.inl (.inl upd_same)) (ia.mono bb (Tups.of (Same.refl _)))⟩
      · rw [List.getElem?_set_ne (Ne.symm hj)] at h
        obtain ⟨u, hu, r⟩ := f.slot j sl h
        refine ⟨u, hu, ?_⟩
        have oth : ∀ dl, OwnL K B H u dl → isOwn ρ[j]? = true → OwnL K (upd B p (.lst vs)) H u dl := fun dl ⟨p', us, a, b, c, d⟩ hoj => by
          subst a
          have hne : p' ≠ p := fun z => hj (f.inj j i p hoj (by rw [e]; rfl) (z ▸ hu) hv)
          exact ⟨p', us, rfl, by rw [upd_ne hne]; exact b, c, d.mono bb (Tups.of (Same.refl _))⟩
        cases sl with
        | dat d => exact Ip.mono bb (Tups.of (Same.refl _)) r
        | own dl => exact oth dl r (by rw [h]; rfl)
        | inn dl => exact oth dl r (by rw [h]; rfl)
        | bor k => exact r.elim
        | dic kvs =>
          obtain ⟨p', us, a, b, c, d⟩ := r
          subst a
          have hne : p' ≠ p := fun z => hj (f.inj j i p (by rw [h]; rfl) (by rw [e]; rfl) (z ▸ hu) hv)
          exact ⟨p', us, rfl, by rw [upd_ne hne]; exact b, c, d.mono bb (Tups.of (Same.refl _))⟩
    · intro a b q h1 h2 h3 h4
      exact f.inj a b q (shp a h1).2 (shp b h2).2 h3 h4
    · obtain ⟨h1, dl, h2⟩ := f.keep j b h
      have hj : j ≠ i := fun z => by subst z; rw [e] at h2; cases h2
      rw [List.getElem?_set_ne (Ne.symm hj)]
      exact ⟨h1, dl, h2⟩
    · by_cases hbp : b = p
      · subst hbp
        rcases f.fresh b own with z | ⟨j, z⟩
        · exact .inr z
        · exfalso
          obtain ⟨h1, dl, h2⟩ := f.keep j b z
          have := f.inj j i b (by rw [h2]; rfl) (by rw [e]; rfl) h1 hv
          subst this
          rw [e] at h2; cases h2
      · rw [upd_ne hbp] at hb
        exact f.bnew b hb
  · exact ⟨B, f, Gr.refl ..⟩
theorem sim_frz (i : Nat) {t : TS} {w : SW} (h : SimS K W t w) : SimS K W t (wFrz i w) := by
  intro H0 B0 L B σ ρ H E Ew f hw n r b c x
  obtain ⟨B1, f1, g1⟩ := f.frz i
  exact h H0 B0 L B1 σ _ H E Ew f1 hw (fun B2 σ2 ρ2 H2 f2 g2 => n B2 σ2 ρ2 H2 f2 (g1.trans g2)) r (fun B2 σ2 ρ2 H2 f2 g2 => b B2 σ2 ρ2 H2 f2 (g1.trans g2)) (fun B2 σ2 ρ2 H2 f2 g2 => c B2 σ2 ρ2 H2 f2 (g1.trans g2)) (fun c B9 σ9 ρ9 H9 f9 g9 => x c B9 σ9 ρ9 H9 f9 (g1.trans g9))
end
/-- a, b = e -/
def wSetT (is : List Nat) (we : EW) : SW := fun E ρ => we ρ (fun r ρ1 => match r with
  | .dat (.tup ds) => (ds.length = is.length ∧ notInns ρ1 is) ∧ E.nx (setsE ρ1 is ds)
  | _ => False) E.ex
/-- a, b = e1, e2 -/
def wPar (i j : Nat) (wa wb : EW) : SW := fun E ρ => wa ρ (fun r ρ1 => wb ρ1 (fun r' ρ2 => match r, r' with
  | .dat d, .dat d' => (notInn ρ2 i ∧ notInn ρ2 j) ∧ E.nx ((ρ2.set i (some (.dat d))).set j (some (.dat d')))
  | _, _ => False) E.ex) E.ex
section
variable {X : Cx} {W : WX} {st : Stmt} {w : SW} {we wa wb wj : EW} {e a b o : Expr} {es : List Expr} {is : List Nat} {pos : Pos}
theorem ds_frz (i : Nat) (h : DS X W st w) : DS X W st (wFrz i w) := by
  obtain ⟨t, p, s⟩ := h.ok
  exact ⟨t, p, sim_frz i s⟩
theorem ds_setT {k : Nat} {tpos : Pos} (hc : X.calm = true) (he : DE X W e we) (hg : DGs X es is) (hn : (assignEach es X.env).length = is.length := by rfl) (hst : (assignEach es X.env).findIdx? (·.1) = none := by rfl)
    (hs : swapsWithSole [.Tuple es k tpos] e pos.line X.env = pure false := by rfl) (hw : swappedStores [.Tuple es k tpos] e X.env = pure none := by rfl)
    (h1 : (assignEach [.Tuple es k tpos] X.env).map (·.2) = [assign (.Tuple es k tpos) X.env] := by rfl) : DS X W (.Assign [.Tuple es k tpos] e pos) (wSetT is we) := by
  obtain ⟨t, p, s⟩ := he.ok
  refine ⟨_, ps_asg p (pg_tup hc hg.ok hn hst) hs hw h1, ?_⟩
  intro H0 B0 L B σ ρ H E Ew f h n r b c x
  refine s B σ ρ H _ _ _ f.toSR h (xw f x) fun v rr B1 ρ1 H1 s1 t1 rv q => ?_
  cases rr with
  | dat d =>
    cases d with
    | tup ds =>
      have hl : (if ds.length = is.length then some ds else none) = some ds := if_pos q.1.1
      exact simg_tup is B1 H1 σ v (.tup ds) ds _ rv hl fun vs hv ia => n B1 _ _ H1 ((f.step s1 t1).sets q.1.2 ia) (t1.gr f.toSR) q.2
    | _ => exact q.elim
  | _ => exact q.elim
theorem ds_par (i j : Nat) {x y : Str} {px py pt : Pos} {kt k2 pt2} (hc : X.calm = true) (hN : X.N.Nodup) (ha : DE X W a wa) (hb : DE X W b wb) (hi : X.N[i]? = some x := by rfl) (hj : X.N[j]? = some y := by rfl) (hij : i ≠ j := by decide)
    (hx : X.env.scope.names.lookup x = some .local := by rfl) (hy : X.env.scope.names.lookup y = some .local := by rfl)
    (hp : ∀ {ta tb : TE}, PE X a ta → PE X b tb → PS X (.Assign [.Tuple [.Name x px, .Name y py] kt pt] (.Tuple [a, b] k2 pt2) pos) (tPar i j (tCons ta (tCons tb tNil)))) :
    DS X W (.Assign [.Tuple [.Name x px, .Name y py] kt pt] (.Tuple [a, b] k2 pt2) pos) (wPar i j wa wb) := by
  obtain ⟨t1, p1, s1⟩ := ha.ok
  obtain ⟨t2, p2, s2⟩ := hb.ok
  refine ⟨_, hp p1 p2, ?_⟩
  intro H0 B0 L B σ ρ H E Ew f h n r b c x
  refine s1 B σ ρ H _ _ _ f.toSR h (xw f x) fun v rr B1 ρ1 H1 sr1 tr1 rv q => ?_
  have f1 := f.step sr1 tr1
  refine s2 B1 σ ρ1 H1 _ _ _ sr1 q (xw f1 (fun c B9 σ9 ρ9 H9 f9 g9 => x c B9 σ9 ρ9 H9 f9 ((tr1.gr f.toSR).trans g9))) fun v2 rr2 B2 ρ2 H2 sr2 tr2 rv2 q2 => ?_
  cases rr with
  | dat d =>
    cases rr2 with
    | dat d2 =>
      refine ⟨v, v2, rfl, ?_⟩
      have f2 := f1.step sr2 tr2
      have iv : Ip X.K B2 H2 v d := Ip.step sr1 tr2 rv
      have f3 := f2.set q2.1.1 (sl := .dat d) iv fun p a => by cases a
      have f4 := f3.set (notInn_set q2.1.2) (sl := .dat d2) rv2 fun p a => by cases a
      exact n B2 _ _ H2 f4 ((tr1.gr f.toSR).trans (tr2.gr sr1)) q2.2
    | _ => exact q2.elim
  | _ => cases rr2 <;> exact q2.elim
theorem ds_setIt (i : Nat) {x : Str} {xp tpos : Pos} (he : DE X W e we) (hj : DE X W o wj) (hN : X.N[i]? = some x := by rfl) (hv : Vis X.env.scope x := by first | exact Or.inl rfl | exact Or.inr (Or.inl rfl) | exact Or.inr (Or.inr rfl))
    (hp : ∀ {te tj : TE}, PE X e te → PE X o tj → PS X (.Assign [.Subscript (.Name x xp) o tpos] e pos) (tAsg te (gSub (tVar i) tj rSetL))) : DS X W (.Assign [.Subscript (.Name x xp) o tpos] e pos) (wSetIt i we wj) := by
  obtain ⟨t1, p1, s1⟩ := he.ok
  obtain ⟨t2, p2, s2⟩ := hj.ok
  exact ⟨_, hp p1 p2, sim_setIt i s1 s2⟩
end
end DL

set_option Elab.async false
set_option linter.all false
set_option maxRecDepth 100000
set_option maxHeartbeats 4000000
/-! DLj: enumerate of a tuple or a list. -/
namespace PySem
open Sem (wp)
open AutoSeq1 (wpAny_loadPart')
theorem meets_enumerate_newT (l : Addr) (items : Array Value) (n : Nat) (dct : Option Addr) (sl : Array (Option Value)) :
    Meets (Builtin.«enumerate.__new__» ⟨[.type "enumerate", .ref l], []⟩) (fun _ R s => s.heap.get? l = some { cls := .type "tuple", dict := dct, data := .seq items n, slots := sl } ∧
      R (.ok (.ret (.ref (s.heap.push { cls := .type "tuple_iterator", data := .fields #[.ref l, .int 0 0] }).objs.size)))
        { s with heap := (s.heap.push { cls := .type "tuple_iterator", data := .fields #[.ref l, .int 0 0] }).push { cls := .type "enumerate", data := .fields #[.none, .bool false, .ref s.heap.objs.size, rawInt 0, .none, .none] } }) :=
  .of_wp fun prog w A R s h => by
    obtain ⟨hp, g, d, tk, os⟩ := s; obtain ⟨hl, h⟩ := h
    have hsub := sub_enumerate
    have hL : Heap.IsTuple (Shared.heap ⟨hp, g, d, tk, os⟩) l items := ⟨_, hl, rfl, n, rfl⟩
    wp_walk using wpAny_loadPart' hl
    refine wpAny_stack_any fun st => wpAny_pure ?_
    split
    · rename_i c _ _ _ _ _
      cases (c == Value.type "enumerate")
      · wp_walk using wpAny_loadPart' hl, wpAny_pyIter_tuple hL
        exact ⟨_, rfl, h⟩
      · wp_walk using wpAny_loadPart' hl, wpAny_pyIter_tuple hL
        exact ⟨_, rfl, h⟩
    · wp_walk using wpAny_loadPart' hl, wpAny_pyIter_tuple hL
      exact ⟨_, rfl, h⟩
section
variable {prog : Program} {w : World} {A : Around} {E : Value → Shared → Prop} {s : Shared}
theorem call_enumerate_tuple {l : Addr} {items : Array Value} {Q : Value → Shared → Prop} (hL : s.heap.IsTuple l items)
    (h : ∀ h', IsEnum h' (s.heap.objs.size + 1) s.heap.objs.size 0 .none → h'.IsTupleIter s.heap.objs.size l 0 → h'.objs.size = s.heap.objs.size + 2 →
      (∀ b o, s.heap.get? b = some o → h'.get? b = some o) → Q (.ref (s.heap.objs.size + 1)) { s with heap := h' }) :
    wpAny (model prog w) A (call (.type "enumerate") [.ref l]) Q E s := by
  obtain ⟨⟨c, dct, dt, sl⟩, hl, hc, n, hd⟩ := hL
  replace hc : c = .type "tuple" := hc
  replace hd : dt = .seq items n := hd
  subst hc hd
  refine callType_new F.called_enumerate (by decide) (F.typeCall_enumerate_1 _) (F.newCall_enumerate_1 _) (fun obj => F.args_object_init_2 obj _) F.entry_enumerate_new
    (meets_enumerate_newT l items n dct sl) ⟨hl, ?_⟩
  have hz : (s.heap.push { cls := .type "tuple_iterator", data := .fields #[.ref l, .int 0 0] }).objs.size = s.heap.objs.size + 1 := Heap.size_push ..
  show _ ∧ _
  rw [hz]
  have he : IsEnum ((s.heap.push { cls := .type "tuple_iterator", data := .fields #[.ref l, .int 0 0] }).push
      { cls := .type "enumerate", data := .fields #[.none, .bool false, .ref s.heap.objs.size, rawInt 0, .none, .none] }) (s.heap.objs.size + 1) s.heap.objs.size 0 .none := by
    have := Heap.get?_push_size (s.heap.push { cls := .type "tuple_iterator", data := .fields #[.ref l, .int 0 0] })
      (o := { cls := .type "enumerate", data := .fields #[.none, .bool false, .ref s.heap.objs.size, rawInt 0, .none, .none] }) rfl
    rw [hz] at this; exact this
  refine ⟨⟨_, he, rfl⟩, h _ he ⟨_, Heap.get?_push_of_some _ (Heap.get?_push_size _ rfl), rfl, rfl⟩ (by rw [Heap.size_push, hz]) fun b o x => Heap.get?_push_of_some _ (Heap.get?_push_of_some _ x)⟩
end
end PySem

namespace DL
open PySem L2
/-- the tuple at a, each item in a new pair -/
def IteT (K : PySem.W.Frag) (a : Addr) : It :=
  ⟨fun i H => ∃ (xs : List V) (x : V), SqT K H a xs ∧ xs[i]? = some x, fun i H v H' => ∃ T x, v = .ref T ∧ H T = none ∧ H' = upd H T (.tup [.int (i : Nat), x]) ∧ ∀ xs, SqT K H a xs → xs[i]? = some x, fun i H => ∃ xs : List V, SqT K H a xs ∧ xs.length ≤ i⟩
open PySem.Spec PyProof.Rows in
theorem turn_enumT {P : Program} {w : World} {K : PySem.W.Frag} {elts : List Expr} {kk : Nat} {tpos : Pos} (a e it : Addr) :
    Turn P w K (.Tuple elts kk tpos) (IteT K a) [e, it] e (fun i h => (∃ old, IsEnum h e it ((i : Nat) : Int) old) ∧ h.IsTupleIter it a i ∧ e ≠ it) where
  mem := by simp
  obj := fun i h st b hb => by
    obtain ⟨⟨old, he⟩, ⟨o, ho, hc, hd⟩, _⟩ := st
    have e' : b = e ∨ b = it := by simpa using hb
    rcases e' with z | z
    · rw [z]; exact ⟨_, he, fun v q => nomatch q⟩
    · rw [z]; exact ⟨o, ho, fun v q => by rw [hd] at q; cases q⟩
  keep := fun i h h' st k => let ⟨⟨old, he⟩, hi, hne⟩ := st; ⟨⟨old, k e (by simp) _ he⟩, hi.at fun o q => k it (by simp) o q, hne⟩
  item := by
    intro X hP hw hK hc i pins s σ H E I hf st hg
    subst hP hw hK
    obtain ⟨⟨old, he⟩, hit, hne⟩ := st
    obtain ⟨xs, x, hq, hx⟩ := hg
    obtain ⟨its, rv, p, hz⟩ := I.tuple hq
    obtain ⟨u, hu, ru⟩ := rv.get hx
    have hel : e < s.heap.objs.size := Heap.lt_size he
    have hil : it < s.heap.objs.size := by obtain ⟨_, q, _⟩ := hit; exact Heap.lt_size q
    have hta : s.heap.IsTuple a its.toArray := p
    have hai : a ≠ it := fun z => by
      obtain ⟨o, ho, hcc, _⟩ := hta
      obtain ⟨o', ho', hc', _⟩ := hit
      rw [z, ho'] at ho; cases ho
      rw [hc'] at hcc; exact absurd hcc (by decide)
    have hae : e ≠ a := fun z => by
      obtain ⟨o, ho, hcc, _⟩ := hta
      rw [← z, he] at ho; cases ho
      have hcc : Value.type "enumerate" = Value.type "tuple" := hcc
      exact absurd hcc (by decide)
    have hlt : i < its.toArray.size := by
      have h1 : its[i]? = some u := hu
      have := (List.getElem?_eq_some_iff.mp h1).1
      simpa using this
    refine wpAny_pyNext_enum_itemD (Draws.tuple (prog := X.prog) (w := X.w) (A := X.A.in1) (I.ok.hd hc) it a hai its.toArray) he ⟨hit, hta⟩ hlt hne (by simp [hne, hae]) fun y h' tk hP hO hS hT hsz hk => ?_
    have hy : y = u := by
      have h1 : its.toArray[i]? = some y := hP
      have h2 : its.toArray[i]? = some u := by simpa using hu
      rw [h2] at h1; exact (Option.some.inj h1).symm
    subst hy
    obtain ⟨hit', _⟩ := hS
    refine ⟨_, rfl, wpAny_letOwnedTupleGo_enum (s := { s with heap := h', toks := tk + 1 }) hO fun h'' he' sb => ?_⟩
    have hT2 : h''.get? s.heap.objs.size = some { cls := .type "tuple", data := .seq #[.int i tk, y] } := (sb.2 _ (Nat.ne_of_gt hel)).trans hT
    have new : ObjOk X.prog X.w (upd H s.heap.objs.size (.tup [.int (i : Nat), x])) h'' s.heap.objs.size (.tup [.int (i : Nat), x]) :=
      ⟨by show 2 ≤ sizeLine; decide, [.int i tk, y], .cons ⟨_, rfl⟩ (.cons ru .nil), ⟨_, hT2, rfl, _, rfl⟩⟩
    have I1 : Inv X pins σ (upd H s.heap.objs.size (.tup [.int (i : Nat), x])) { s with heap := h'', toks := tk + 1 } :=
      I.turnedNew (ch := [e, it]) (fun b ob hb q => (sb.2 b (fun z => hb (by simp [z]))).trans (hk b ob (fun z => hb (by simp [z])) (fun z => hb (by simp [z])) q)) hf (Nat.le_refl _) new
    refine ⟨.ref s.heap.objs.size, _, I1, rfl, ⟨_, x, rfl, I.hok.fresh (Nat.le_refl _), rfl, fun ys hy => by rw [I.tuple_inj hy hq]; exact hx⟩, ⟨⟨y, ?_⟩, hit'.at fun o q => (sb.2 it (Ne.symm hne)).trans q, hne⟩, fun b hb => ?_⟩
    · have e1 : ((i + 1 : Nat) : Int) = (i : Int) + 1 := by omega
      rw [e1]; exact he'
    · have hb' : b < s.heap.objs.size := by
        have e' : b = e ∨ b = it := by simpa using hb
        rcases e' with z | z
        · rw [z]; exact hel
        · rw [z]; exact hil
      rw [upd_ne (Nat.ne_of_lt hb')]
      exact (hf b hb).1
  done := by
    intro X hP hw hK hc i pins s σ H E I hf st hg
    subst hP hw hK
    obtain ⟨⟨old, he⟩, hit, hne⟩ := st
    obtain ⟨xs, hq, hx⟩ := hg
    obtain ⟨its, rv, p, hz⟩ := I.tuple hq
    obtain ⟨f0, f1, f2, f3, f4, f5⟩ := hf it (by simp)
    have hl := rv.length
    have hT : s.TypeIs (.ref e) "enumerate" := ⟨_, he, rfl⟩
    unfold pyNext
    refine wpAny_bind (wpAny_attempt (wpAny_callSpecial?_slot (name := Str.ofString "__next__") hT F.slot_enumerate_next
      (wpAny_call_entry F.slot_enumerate_next hT F.entry_enumerate_next ?_ (F.args_enumerate_next_1 _))))
    show wpAny _ _ (field (.ref e) 2 >>= _) _ _ _
    refine wpAny_bind (wpAny_field he rfl (x := .ref it) rfl ?_)
    refine wpAny_bind (wpAny_nextOf_tuple_end (I.ok.hd hc) hit (show s.heap.IsTuple a its.toArray from p) (by simp; omega) fun h' x he' hx' => ?_)
    obtain ⟨o, ho, hc⟩ := hx'
    refine wpAny_bind (wpAny_isInstance (T := "StopIteration") (b := true) ⟨o, ho, hc⟩ isSubtype_stop ?_)
    exact wpAny_pure ⟨rfl, I.turned (t' := s.toks) (fun b o hb q => he' b o hb q) f0 f1 f3 f4 f5⟩
  self := fun A i s Q E st h => let ⟨⟨_, he⟩, _⟩ := st; wpAny_pyIter_enum he h
def iEnumA (K : PySem.W.Frag) (te : TE) : TI := fun σ H R => te σ H fun v H1 => ∃ (a : Addr) (xs : List V), v = .ref a ∧ ((SqL K H1 a xs ∧ R (Ite K a) H1) ∨ (SqT K H1 a xs ∧ R (IteT K a) H1))
open PySem.Spec PyProof.Rows in
theorem pi_enumA {X : Cx} {e : Expr} {te : TE} {p pos tpos : Pos} {elts : List Expr} {kk : Nat} (hg : Gl X "enumerate") (hm : X.mg "enumerate" = none) (he : PE X e te) (hs : starEach [e] X.env = [(false, eval e X.env)] := by rfl) :
    PI X (.Tuple elts kk tpos) (.Call (.Name "enumerate" p) [e] [] pos) (iEnumA X.K te) := by
  refine ⟨fun pins s σ H R I h => ?_⟩
  have h' : tCons te tNil σ H (fun vs H1 => ∃ (a : Addr) (xs : List V), vs = [.ref a] ∧ ((SqL X.K H1 a xs ∧ R (Ite X.K a) H1) ∨ (SqT X.K H1 a xs ∧ R (IteT X.K a) H1))) := by
    exact (show te σ H (fun x H1 => ∃ (a : Addr) (xs : List V), [x] = [V.ref a] ∧ ((SqL X.K H1 a xs ∧ R (Ite X.K a) H1) ∨ (SqT X.K H1 a xs ∧ R (IteT X.K a) H1))) from by
      have : (fun x H1 => ∃ (a : Addr) (xs : List V), x = V.ref a ∧ ((SqL X.K H1 a xs ∧ R (Ite X.K a) H1) ∨ (SqT X.K H1 a xs ∧ R (IteT X.K a) H1))) = (fun x H1 => ∃ (a : Addr) (xs : List V), [x] = [V.ref a] ∧ ((SqL X.K H1 a xs ∧ R (Ite X.K a) H1) ∨ (SqT X.K H1 a xs ∧ R (IteT X.K a) H1))) := by
        funext x H1
        simp
      rw [← this]
      exact h)
  have ha : PA X [e] (tCons te tNil) := pa_cons he pa_nil hs
  refine Call_ (ld_blt I hg hm boot_enumerate (PyProof.Rows.callWith_type1 (thn (ha.run pos pins s σ H _ I h') fun us s1 ⟨vs, H1, I1, r1, q1⟩ => ?_) hs rfl))
  obtain ⟨a, xs, ex, q⟩ := q1
  subst ex
  cases r1 with
  | cons r rr =>
    cases rr
    cases r
    have fin : ∀ b, b ∈ [s1.heap.objs.size + 1, s1.heap.objs.size] → FpOk X pins H1 b := fun b hb => by
      have e' : b = s1.heap.objs.size + 1 ∨ b = s1.heap.objs.size := by simpa using hb
      have hle : s1.heap.objs.size ≤ b := by
        rcases e' with z | z
        · rw [z]; exact Nat.le_add_right _ _
        · rw [z]; exact Nat.le_refl _
      exact I1.fpOk hle (I1.hok.fresh hle)
    rcases q with ⟨hq, q⟩ | ⟨hq, q⟩
    · obtain ⟨its, rv, p', hz⟩ := I1.list hq
      refine call_enumerate_list p'.isList fun h' he hit hsz hk => wpAny_pyIter_enum he ?_
      have I2 : Inv X pins σ H1 { s1 with heap := h' } := I1.kept (t' := s1.toks) hk
      exact ⟨s1.heap.objs.size + 1, [s1.heap.objs.size + 1, s1.heap.objs.size], _, _, H1, rfl, I2, turn_enum a (s1.heap.objs.size + 1) s1.heap.objs.size, ⟨⟨.none, he⟩, hit, Nat.succ_ne_self _⟩, fin, q⟩
    · obtain ⟨its, rv, p', hz⟩ := I1.tuple hq
      refine call_enumerate_tuple (show s1.heap.IsTuple a its.toArray from p') fun h' he hit hsz hk => wpAny_pyIter_enum he ?_
      have I2 : Inv X pins σ H1 { s1 with heap := h' } := I1.kept (t' := s1.toks) hk
      exact ⟨s1.heap.objs.size + 1, [s1.heap.objs.size + 1, s1.heap.objs.size], _, _, H1, rfl, I2, turn_enumT a (s1.heap.objs.size + 1) s1.heap.objs.size, ⟨⟨.none, he⟩, hit, Nat.succ_ne_self _⟩, fin, q⟩
/-- (0, x), (1, y) .. -/
def enumD (ds : List D) : List D := (List.range ds.length).map fun i => .tup [.int (i : Nat), ds.getD i .non]
def wEnum (we : EW) : IW := fun ρ Q X => we ρ (fun r ρ1 => match r with
  | .dat (.tup ds) => Q (enumD ds) ρ1
  | .dat (.lst ds) => Q (enumD ds) ρ1
  | .own ds => Q (enumD ds) ρ1
  | _ => False) X
section
variable {K : PySem.W.Frag} {W : WX}
theorem enumD_len (ds : List D) : (enumD ds).length = ds.length := by unfold enumD; simp
theorem enumD_get {ds : List D} {k : Nat} {d : D} (h : ds[k]? = some d) : (enumD ds)[k]? = some (.tup [.int (k : Nat), d]) := by
  unfold enumD
  have hk := (List.getElem?_eq_some_iff.mp h).1
  rw [List.getElem?_map, List.getElem?_range hk]
  simp [List.getD, h]
theorem yld_enum {B0 H0 B H H' : Hp} {k : Nat} {T : Addr} {x v : V} {ds : List D} {xs : List V} (ia : IpAll K B0 H0 xs ds) (bb : Same B0 B) (tu : Tups H0 H) (hT : H T = none) (ev : v = .ref T) (eh : H' = upd H T (.tup [.int (k : Nat), x])) (hx : xs[k]? = some x) :
    ∃ d, (enumD ds)[k]? = some d ∧ Same H H' ∧ Ip K B H' v d := by
  obtain ⟨d, e, i⟩ := ia.getV hx
  have sm : Same H H' := by rw [eh]; exact same_new hT
  refine ⟨_, enumD_get e, sm, ?_⟩
  rw [ev]
  exact .tup (xs := [.int (k : Nat), x]) (.inl ((by rw [eh]; exact upd_same))) (.cons (.int _) (.cons (i.mono bb (tu.trans (Tups.of sm))) .nil))
theorem wk_enumL {a : Addr} {xs : List V} {ds : List D} {B0 H0 : Hp} (h : SqL K B0 a xs) (ia : IpAll K B0 H0 xs ds) : Wk K (Ite K a) (enumD ds) (okS B0 H0) where
  go := fun k B H ⟨bb, tu, sub⟩ hk => by
    rw [enumD_len, ← ia.length] at hk
    exact ⟨xs, xs[k], sub.seq (bb.seq h), List.getElem?_eq_getElem hk⟩
  yld := fun k B H v H' ⟨bb, tu, sub⟩ hy hk => by
    obtain ⟨T, x, ev, hT, eh, f⟩ := hy
    exact yld_enum ia bb tu hT ev eh (f xs (sub.seq (bb.seq h)))
  stop := fun k B H ⟨bb, tu, sub⟩ hk => ⟨xs, sub.seq (bb.seq h), by rw [enumD_len] at hk; rw [ia.length]; exact hk⟩
theorem wk_enumT {a : Addr} {xs : List V} {ds : List D} {B0 H0 : Hp} (h : SqT K H0 a xs) (ia : IpAll K B0 H0 xs ds) : Wk K (IteT K a) (enumD ds) (okS B0 H0) where
  go := fun k B H ⟨bb, tu, sub⟩ hk => by
    rw [enumD_len, ← ia.length] at hk
    exact ⟨xs, xs[k], tu.sq h, List.getElem?_eq_getElem hk⟩
  yld := fun k B H v H' ⟨bb, tu, sub⟩ hy hk => by
    obtain ⟨T, x, ev, hT, eh, f⟩ := hy
    exact yld_enum ia bb tu hT ev eh (f xs (tu.sq h))
  stop := fun k B H ⟨bb, tu, sub⟩ hk => ⟨xs, tu.sq h, by rw [enumD_len] at hk; rw [ia.length]; exact hk⟩
theorem sim_enum {te : TE} {we : EW} (he : SimE K W te we) : SimI K W (iEnumA K te) (wEnum we) := by
  intro B σ ρ H Qw Xw R s h hx q
  refine he B σ ρ H _ Xw _ s h hx fun v r B1 ρ1 H1 s1 t1 rv1 q1 => ?_
  cases r with
  | dat d =>
    cases d with
    | tup ds =>
      cases rv1 with
      | tup hh ia => exact ⟨_, _, rfl, .inr ⟨hh.sq, q _ _ B1 ρ1 H1 s1 t1 (wk_enumT hh.sq ia) q1⟩⟩
    | lst ds =>
      cases rv1 with
      | lst hh ia => exact ⟨_, _, rfl, .inl ⟨s1.sub.seq hh, q _ _ B1 ρ1 H1 s1 t1 (wk_enumL hh ia) q1⟩⟩
    | _ => exact q1.elim
  | own ds =>
    have rva : RvAll K B1 σ ρ1 H1 H [v] [.own ds] := .cons (H1 := H1) rv1 (fun b hb => t1.free s1 hb) (fun p dl e1 e2 => by
      cases e1
      obtain ⟨p', vs', e, _, _, hp, _⟩ := rv1
      rw [e2] at e; cases e
      rw [hp]; simp) .nil
    obtain ⟨B2, s2, bb, bn, ia⟩ := rva.freeze s1 (ds := [.lst ds]) rfl
    have t2 : Tr σ B ρ H B2 ρ1 H1 := ⟨t1.ext, t1.bex.trans bb, fun b hb => (bn b hb).elim (fun z => t1.bnew b z) .inr, t1.shp, t1.shi⟩
    cases ia with
    | cons i0 _ =>
      cases i0 with
      | lst hh il => exact ⟨_, _, rfl, .inl ⟨s2.sub.seq hh, q _ _ B2 ρ1 H1 s2 t2 (wk_enumL hh il) q1⟩⟩
  | inn ds => exact q1.elim
  | bor i => exact q1.elim
  | dic kvs => exact q1.elim
end
section
variable {X : Cx} {W : WX} {e : Expr} {we : EW} {pos p tpos : Pos} {elts : List Expr} {kk : Nat}
theorem di_enum (hg : Gl X "enumerate") (hm : X.mg "enumerate" = none) (he : DE X W e we) (hs : starEach [e] X.env = [(false, eval e X.env)] := by rfl) : DI X W (.Tuple elts kk tpos) (.Call (.Name "enumerate" p) [e] [] pos) (wEnum we) := by
  obtain ⟨t, pa, sa⟩ := he.ok
  exact ⟨_, pi_enumA hg hm pa hs, sim_enum sa⟩
end
end DL

set_option Elab.async false
set_option linter.all false
set_option maxRecDepth 100000
set_option maxHeartbeats 4000000
/-! DLk: isinstance by built-in classes; raise; helpers for proofs. -/
namespace DL
open PySem L2

def tyS : D → Option String
  | .non => some "NoneType"
  | .bl _ => some "bool"
  | .int _ => some "int"
  | .str _ => some "str"
  | .tup _ => some "tuple"
  | .tpx _ => some "tuple"
  | .lst _ => some "list"
  | _ => none
def isiB (a b : String) : Bool := a == b || (a == "bool" && b == "int")
theorem kitB_all : ∀ a ∈ ["NoneType", "bool", "int", "str", "tuple", "list"], ∀ b ∈ ["int", "bool", "tuple", "list", "str"], L2.kitB a b = some (isiB a b) := by decide +kernel
def gIsi : GN
  | [d, .ty T], Q => T ∈ ["int", "bool", "tuple", "list", "str"] ∧ withOp (tyS d) fun a => Q (.dat (.bl (isiB a T)))
  | _, _ => False
section
variable {K : PySem.W.Frag}
theorem tyx_of {B H : Hp} {v : V} {d : D} {a : String} (sub : Same B H) (h : RdB K B H v d) (e : tyS d = some a) : TyX K H v (.type a) ∧ a ∈ ["NoneType", "bool", "int", "str", "tuple", "list"] := by
  cases d with
  | non => cases h; cases e; exact ⟨.base .non, by simp⟩
  | bl b => cases h; cases e; exact ⟨.base (.bl b), by simp⟩
  | int b => cases h; cases e; exact ⟨.base (.int b), by simp⟩
  | str b => cases h; cases e; exact ⟨.base (.str b), by simp⟩
  | tup ds =>
    cases e
    cases h with
    | tup hh _ =>
      rcases hh.sq with (hh | ⟨o, hh⟩) | ⟨o, its, n, hk, hc, _⟩
      · exact ⟨.base (.tup hh), by simp⟩
      · exact ⟨.fTuple hh, by simp⟩
      · exact ⟨.kTuple hk hc, by simp⟩
  | lst ds =>
    cases e
    obtain ⟨a, xs, rfl, hh, _⟩ := h
    rcases hh with (hh | ⟨o, hh⟩) | ⟨o, its, n, hk, hc, _⟩
    · exact ⟨.base (.lst hh), by simp⟩
    · exact ⟨.base (.frz hh), by simp⟩
    · exact ⟨.kList hk hc, by simp⟩
  | adr _ => cases e
  | ty _ => cases e
  | fl _ => cases e
  | exc _ => cases e
  | tpx _ => cases e; cases h with | tpx hh _ _ => exact ⟨.fTuple hh, by simp⟩
  | obj _ _ _ => cases e
theorem cs_isi : CallS K (rIsi K) gIsi := by
  intro B H xs ds Qw Q sub hr g p
  match ds, hr, g with
  | [d, .ty T], hr, g =>
    obtain ⟨x, y, rfl, h1, h2⟩ := rd2 hr
    cases h2
    obtain ⟨hT, g⟩ := g
    obtain ⟨a, e, g⟩ := withOp_some g
    obtain ⟨t, ha⟩ := tyx_of sub h1 e
    exact ⟨x, .ty T, _, _, _, rfl, .ty T, t, kit_ty (kitB_all a ha T hT), p.bl g⟩
end
section
variable {X : Cx} {W : WX} {pos : Pos}
theorem de_ty {x : Str} {T : String} (hg : Gl X x) (hm : X.mg x = none) (hv : bootBuiltins x = some (.type T)) (hn : x ≠ "__name__" := by decide) (hd : (x == ("__debug__" : Str)) = false := by decide) : DE X W (.Name x pos) (wC (.ty T)) :=
  ⟨_, pe_bltn (v := .ty T) hg hm hv rfl hn hd, sim_c fun _ _ => .ty T⟩
theorem de_glob {x : Str} {a : Addr} {d : D} (hg : Gl X x) (hm : X.mg x = some (.ref a)) (h : ∀ B H, Ip X.K B H (.ref a) d) (hd : (x == ("__debug__" : Str)) = false := by decide) : DE X W (.Name x pos) (wC d) :=
  ⟨_, pe_glob (v := .ref a) hg hm rfl hd, sim_c h⟩
end
theorem hu65 {A : Around} {k : Nat} (hr : Room k A) : A.units + 65 < cLine := by have := hr.un; omega

/-! ### raise X('..') -/
def wRaise (c : Value) : SW := fun E ρ => E.ex c ρ
section
variable {X : Cx} {W : WX} {pos : Pos}
theorem ds_raise {e : Expr} {C : Addr} (hc : X.calm = true) (tk : Takes X W) (he : PMk X e (fun _ H Q => Q (.ref C) none H)) : DS X W (.Raise (some e) none pos) (wRaise (.ref C)) :=
  ⟨_, ps_raise hc tk he, fun H0 B0 L B σ ρ H E Ew f h n r b c x => x (.ref C) B σ ρ H f (Gr.refl ..) h⟩
end

/-! ### loops by lemmas -/
theorem for_by {is : List Nat} {sp : D → Option (List D)} {wb : SW} {E : EndsW} {ds : List D} {ρ1 : En} (W : Nat → En → Prop) (h0 : W 0 ρ1) (hd : ∀ ρ2, W ds.length ρ2 → E.nx ρ2)
    (hs : ∀ i d ρ2, ds[i]? = some d → W i ρ2 → withS (sp d) fun es => notInns ρ2 is ∧ wb { E with nx := W (i + 1), ct := W (i + 1), bk := E.nx } (setsE ρ2 is es)) :
    ∃ W : Nat → En → Prop, W 0 ρ1 ∧ (∀ ρ2, W ds.length ρ2 → E.nx ρ2) ∧ ∀ i d ρ2, ds[i]? = some d → W i ρ2 → withS (sp d) fun es => notInns ρ2 is ∧ wb { E with nx := W (i + 1), ct := W (i + 1), bk := E.nx } (setsE ρ2 is es) := ⟨W, h0, hd, hs⟩
/-- [f x for x in ..]: each item's element is known, the env stays -/
theorem lc_map {is : List Nat} {sp : D → Option (List D)} {we : EW} {vs : List Nat} {ds res : List D} {ρ1 : En} {Q : Sl → En → Prop} (no : noOwns ρ1 vs) (hl : res.length = ds.length) (hz : ds.length ≤ sizeLine)
    (hs : ∀ (i : Nat) (d d' : D), ds[i]? = some d → res[i]? = some d' → ∃ es, sp d = some es ∧ notInns (wipeE (wipeE ρ1 vs) vs) is ∧ ∀ (Q' : Sl → En → Prop) (X' : Value → En → Prop), (∀ ρ', wipeE ρ' vs = wipeE ρ1 vs → Q' (.dat d') ρ') → we (setsE (wipeE (wipeE ρ1 vs) vs) is es) Q' X')
    (q : Q (.own res) (wipeE ρ1 vs)) :
    noOwns ρ1 vs ∧ ∃ W : Nat → List D → En → Prop, W 0 [] (wipeE ρ1 vs) ∧ (∀ acc ρ2, W ds.length acc ρ2 → Q (.own acc) ρ2) ∧
      ∀ i d acc ρ2, ds[i]? = some d → W i acc ρ2 → withS (sp d) fun es => notInns (wipeE ρ2 vs) is ∧ wYes (setsE (wipeE ρ2 vs) is es) (fun b ρ3 => if b = true then we ρ3 (fun r ρ4 => withD [r] fun rs => acc.length < sizeLine ∧ W (i + 1) (acc ++ rs) (wipeE ρ4 vs)) (fun _ _ => False) else W (i + 1) acc (wipeE ρ3 vs)) (fun _ _ => False) := by
  refine ⟨no, fun i acc ρ2 => ρ2 = wipeE ρ1 vs ∧ acc = res.take i, ⟨rfl, rfl⟩, ?_, ?_⟩
  · rintro acc ρ2 ⟨rfl, rfl⟩
    rw [← hl, List.take_length]; exact q
  · rintro i d acc ρ2 hd ⟨rfl, rfl⟩
    have hi := (List.getElem?_eq_some_iff.mp hd).1
    have hr : i < res.length := by rw [hl]; exact hi
    obtain ⟨es, e1, e2, e3⟩ := hs i d res[i] hd (List.getElem?_eq_getElem hr)
    rw [e1]
    refine ⟨e2, e3 _ _ fun ρ' hρ => ?_⟩
    refine ⟨?_, hρ, ?_⟩
    · rw [List.length_take]; omega
    · rw [List.take_add_one, List.getElem?_eq_getElem hr]; rfl
end DL

set_option Elab.async false
set_option linter.all false
set_option maxRecDepth 100000
set_option maxHeartbeats 4000000
/-! DLm: the wishes unfolded, for simp. -/
namespace DL
open PySem L2
set_option checkBinderAnnotations false
/-! a wish that simp leaves alone until it is applied -/
def Post [Q : Sl → Prop] : Sl → Prop := Q
def PostX [Q : Value → Prop] : Value → Prop := Q
def Post2 [Q : Sl → List D → Prop] : Sl → List D → Prop := Q
def PostX2 [Q : Value → List D → Prop] : Value → List D → Prop := Q
def WOp {α : Type} (o : Option α) [k : α → Prop] : Prop := withOp o k
@[simp ↓] theorem post_app {Q : Sl → Prop} {r : Sl} : @Post Q r = Q r := id rfl
@[simp ↓] theorem postX_app {Q : Value → Prop} {r : Value} : @PostX Q r = Q r := id rfl
@[simp ↓] theorem post2_app {Q : Sl → List D → Prop} {r : Sl} {l : List D} : @Post2 Q r l = Q r l := id rfl
@[simp ↓] theorem postX2_app {Q : Value → List D → Prop} {r : Value} {l : List D} : @PostX2 Q r l = Q r l := id rfl
@[simp] theorem w_some {α : Type} {x : α} {k : α → Prop} : @WOp α (some x) k = k x := id rfl
@[simp] theorem w_none {α : Type} {k : α → Prop} : @WOp α none k = False := id rfl
/-- the ends of a statement that b follows -/
def thenE (E : EndsW) (b : SW) : EndsW := { E with nx := b E }
def VarK (o : Option (Option Sl)) (i : Nat) (ρ : En) [Q : Sl → En → Prop] : Prop := match o with
  | some (some (.dat d)) => Q (.dat d) ρ
  | some (some (.own _)) => Q (.bor i) ρ
  | some (some (.inn _)) => Q (.bor i) ρ
  | some (some (.dic _)) => Q (.bor i) ρ
  | _ => False
@[simp] theorem vk_dic {i : Nat} {ρ : En} {Q : Sl → En → Prop} {d : Dc} : @VarK (some (some (.dic d))) i ρ Q = Q (.bor i) ρ := id rfl
@[simp] theorem vk_dat {i : Nat} {ρ : En} {Q : Sl → En → Prop} {d : D} : @VarK (some (some (.dat d))) i ρ Q = Q (.dat d) ρ := id rfl
@[simp] theorem vk_own {i : Nat} {ρ : En} {Q : Sl → En → Prop} {d : List D} : @VarK (some (some (.own d))) i ρ Q = Q (.bor i) ρ := id rfl
@[simp] theorem vk_inn {i : Nat} {ρ : En} {Q : Sl → En → Prop} {d : List D} : @VarK (some (some (.inn d))) i ρ Q = Q (.bor i) ρ := id rfl
section
variable {ρ : En} {E : EndsW} {Q : Sl → En → Prop} {X : Value → En → Prop} {QA : List Sl → En → Prop} {QT : Bool → En → Prop} {QI : List D → En → Prop} {QO : Option Int → En → Prop}
@[simp ↓] theorem e_var {i : Nat} : wVar i ρ Q X = @VarK ρ[i]? i ρ Q := id rfl
@[simp ↓] theorem e_c {d : D} : wC d ρ Q X = Q (.dat d) ρ := id rfl
@[simp ↓] theorem e_op {g : G2} {wa wb : EW} : wOp g wa wb ρ Q X = wa ρ (fun a ρ1 => wb ρ1 (fun b ρ2 => withC ρ2 a fun d => withC ρ2 b fun e => g d e fun r => Q r ρ2) X) X := id rfl
@[simp ↓] theorem e_un {g : G1} {wa : EW} : wUn g wa ρ Q X = wa ρ (fun a ρ1 => withC ρ1 a fun d => g d fun r => Q r ρ1) X := id rfl
@[simp ↓] theorem e_nil : wNil ρ QA X = QA [] ρ := id rfl
@[simp ↓] theorem e_cons {wa : EW} {wr : AW} : wCons wa wr ρ QA X = wa ρ (fun a ρ1 => wr ρ1 (fun rs ρ2 => QA (a :: rs) ρ2) X) X := id rfl
@[simp ↓] theorem e_cb {g : GN} {wa : AW} : wCB g wa ρ Q X = wa ρ (fun rs ρ1 => withCs ρ1 rs fun ds => g ds fun r => Q r ρ1) X := id rfl
@[simp ↓] theorem c_dat {d : D} {k : D → Prop} : withC ρ (.dat d) k = k d := id rfl
@[simp ↓] theorem c_own {ds : List D} {k : D → Prop} : withC ρ (.own ds) k = k (.lst ds) := id rfl
@[simp ↓] theorem c_bor {i : Nat} {k : D → Prop} : withC ρ (.bor i) k = match ρ[i]? with
    | some (some (.own ds)) => k (.lst ds)
    | some (some (.inn ds)) => k (.lst ds)
    | _ => False := by
  show (match (match ρ[i]? with | some (some (.own ds)) => some (D.lst ds) | some (some (.inn ds)) => some (.lst ds) | _ => none) with | some d => k d | none => False) = _
  split <;> rename_i h <;> (try split at h) <;> simp_all
@[simp ↓] theorem cs_nil {k : List D → Prop} : withCs ρ [] k = k [] := id rfl
@[simp ↓] theorem cs_cons {r : Sl} {rs : List Sl} {k : List D → Prop} : withCs ρ (r :: rs) k = withC ρ r fun d => withCs ρ rs fun ds => k (d :: ds) := by
  show (match (match cont ρ r, conts ρ rs with | some d, some ds => some (d :: ds) | _, _ => none) with | some ds => k ds | none => False) = (match cont ρ r with | some d => (match conts ρ rs with | some ds => k (d :: ds) | none => False) | none => False)
  cases cont ρ r <;> cases conts ρ rs <;> rfl
@[simp ↓] theorem e_tru {wa : EW} : wTru wa ρ QT X = wa ρ (fun a ρ1 => withC ρ1 a fun d => match d with
  | .bl b => QT b ρ1
  | .non => QT false ρ1
  | .int i => QT (i != 0) ρ1
  | .tup ds => QT (!ds.isEmpty) ρ1
  | .lst ds => QT (!ds.isEmpty) ρ1
  | _ => False) X := id rfl
@[simp ↓] theorem e_and {wa wb : TWs} : wAnd wa wb ρ QT X = wa ρ (fun c ρ1 => if c = true then wb ρ1 QT X else QT false ρ1) X := id rfl
@[simp ↓] theorem e_or {wa wb : TWs} : wOr wa wb ρ QT X = wa ρ (fun c ρ1 => if c = true then QT true ρ1 else wb ρ1 QT X) X := id rfl
@[simp ↓] theorem e_not {wa : TWs} : wNot wa ρ QT X = wa ρ (fun c ρ1 => QT (!c) ρ1) X := id rfl
@[simp ↓] theorem e_ifE {wc : TWs} {wa wb : EW} : wIfE wc wa wb ρ Q X = wc ρ (fun c ρ1 => if c = true then wa ρ1 Q X else wb ρ1 Q X) X := id rfl
@[simp ↓] theorem e_bv {w : TWs} : wBv w ρ Q X = w ρ (fun c ρ1 => Q (.dat (.bl c)) ρ1) X := id rfl
@[simp ↓] theorem e_andV {wa wb : EW} : wAndV wa wb ρ Q X = wa ρ (fun a ρ1 => match a with | .dat (.bl c) => if c = true then wb ρ1 Q X else Q (.dat (.bl false)) ρ1 | _ => False) X := id rfl
@[simp ↓] theorem e_orV {wa wb : EW} : wOrV wa wb ρ Q X = wa ρ (fun a ρ1 => match a with | .dat (.bl c) => if c = true then Q (.dat (.bl true)) ρ1 else wb ρ1 Q X | _ => False) X := id rfl
@[simp ↓] theorem e_notV {wa : EW} : wNotV wa ρ Q X = wa ρ (fun a ρ1 => match a with | .dat (.bl c) => Q (.dat (.bl (!c))) ρ1 | _ => False) X := id rfl
@[simp ↓] theorem e_tb {wa : EW} : wTb wa ρ QT X = wa ρ (fun a ρ1 => match a with | .dat (.bl b) => QT b ρ1 | _ => False) X := id rfl
@[simp ↓] theorem d_nil {k : List D → Prop} : withD [] k = k [] := id rfl
@[simp ↓] theorem d_dat {d : D} {rs : List Sl} {k : List D → Prop} : withD (.dat d :: rs) k = withD rs fun ds => k (d :: ds) := by
  show (match (dats rs).map (d :: ·) with | some ds => k ds | none => False) = (match dats rs with | some ds => k (d :: ds) | none => False)
  cases dats rs <;> rfl
@[simp ↓] theorem d_own {es : List D} {rs : List Sl} {k : List D → Prop} : withD (.own es :: rs) k = withD rs fun ds => k (.lst es :: ds) := by
  show (match (dats rs).map (D.lst es :: ·) with | some ds => k ds | none => False) = (match dats rs with | some ds => k (D.lst es :: ds) | none => False)
  cases dats rs <;> rfl
@[simp ↓] theorem e_tup {wa : AW} : wTup wa ρ Q X = wa ρ (fun rs ρ1 => withD rs fun ds => ds.length ≤ sizeLine ∧ Q (.dat (.tup ds)) ρ1) X := id rfl
@[simp ↓] theorem e_lst {wa : AW} : wLst wa ρ Q X = wa ρ (fun rs ρ1 => withD rs fun ds => ds.length ≤ sizeLine ∧ Q (.own ds) ρ1) X := id rfl
@[simp ↓] theorem e_callD {f : FD} {wa : AW} : wCallD f wa ρ Q X = wa ρ (fun rs ρ1 => withCs ρ1 rs fun ds => f ds (@Post fun r => Q r ρ1) (@PostX fun c => X c ρ1)) X := id rfl
@[simp ↓] theorem p_nil {k : List D → Prop} : withP [] k = k [] := id rfl
@[simp ↓] theorem p_dat {d : D} {rs : List Sl} {k : List D → Prop} : withP (.dat d :: rs) k = withP rs fun ds => k (d :: ds) := by
  show (match (pureD rs).map (d :: ·) with | some ds => k ds | none => False) = (match pureD rs with | some ds => k (d :: ds) | none => False)
  cases pureD rs <;> rfl
@[simp ↓] theorem e_callI {f : FI} {wa : AW} : wCallI f wa ρ Q X = wa ρ (fun rs ρ1 => match rs with
  | .bor i :: rs' => withO ρ1 i fun dl => withP rs' fun ds => D.nolists dl = true ∧ f dl ds (@Post2 fun r dl' => Q r (setOwn ρ1 i dl')) (@PostX2 fun c dl' => X c (setOwn ρ1 i dl'))
  | .own dl :: rs' => withP rs' fun ds => D.nolists dl = true ∧ f dl ds (@Post2 fun r _ => Q r ρ1) (@PostX2 fun c _ => X c ρ1)
  | _ => False) X := id rfl
@[simp ↓] theorem e_mt {m : GM} {i : Nat} {wa : AW} : wMt m i wa ρ Q X = (isLst ρ[i]? = true ∧ wa ρ (fun rs ρ1 => withD rs fun args => withO ρ1 i fun ds => m ds args fun d ds' => Q (.dat d) (setOwn ρ1 i ds')) X) := id rfl
@[simp ↓] theorem e_mt0 {m : GM} {i : Nat} : wMt0 m i ρ Q X = withO ρ i fun ds => m ds [] fun d ds' => Q (.dat d) (setOwn ρ i ds') := id rfl
@[simp ↓] theorem s_next : wNext E ρ = E.nx ρ := id rfl
@[simp ↓] theorem s_seq {a b : SW} : wSeq a b E ρ = a (thenE E b) ρ := id rfl
@[simp ↓] theorem th_nx {b : SW} : (thenE E b).nx ρ = b E ρ := id rfl
@[simp ↓] theorem th_rt {b : SW} {r : Sl} : (thenE E b).rt r ρ = E.rt r ρ := id rfl
@[simp ↓] theorem th_ex {b : SW} : (thenE E b).ex = E.ex := id rfl
@[simp ↓] theorem th_bk {b : SW} : (thenE E b).bk ρ = E.bk ρ := id rfl
@[simp ↓] theorem th_ct {b : SW} : (thenE E b).ct ρ = E.ct ρ := id rfl
@[simp ↓] theorem s_drop {we : EW} : wDrop we E ρ = we ρ (fun _ ρ1 => E.nx ρ1) E.ex := id rfl
@[simp ↓] theorem s_ret {we : EW} : wRet we E ρ = we ρ (fun r ρ1 => match r with
  | .dat d => E.rt (.dat d) ρ1
  | .own ds => E.rt (.own ds) ρ1
  | .bor i => match ρ1[i]? with
    | some (some (.own ds)) => E.rt (.own ds) ρ1
    | _ => False
  | _ => False) E.ex := id rfl
@[simp ↓] theorem s_retN : wRetN E ρ = E.rt (.dat .non) ρ := id rfl
@[simp ↓] theorem s_if {wc : TWs} {a b : SW} : wIf wc a b E ρ = wc ρ (fun c ρ1 => if c = true then a E ρ1 else b E ρ1) E.ex := id rfl
@[simp ↓] theorem s_break : wBreak E ρ = E.bk ρ := id rfl
@[simp ↓] theorem s_cont : wCont E ρ = E.ct ρ := id rfl
@[simp ↓] theorem s_set {i : Nat} {we : EW} : wSet i we E ρ = we ρ (fun r ρ1 => notInn ρ1 i ∧ match r with
  | .dat d => E.nx (ρ1.set i (some (.dat d)))
  | .own ds => E.nx (ρ1.set i (some (.own ds)))
  | .dic kvs => E.nx (ρ1.set i (some (.dic kvs)))
  | _ => False) E.ex := id rfl
@[simp ↓] theorem s_setIt {i : Nat} {we wj : EW} : wSetIt i we wj E ρ = we ρ (fun r ρ1 => match r with
  | .dat d => isOwn ρ1[i]? = true ∧ wj ρ1 (fun rj ρ2 => match rj with
    | .dat (.int k) => withO ρ2 i fun ds => match ixN ds.length k with
      | some j => E.nx (setOwn ρ2 i (ds.set j d))
      | none => False
    | _ => False) E.ex
  | _ => False) E.ex := id rfl
@[simp ↓] theorem s_raise {c : Value} : wRaise c E ρ = E.ex c ρ := id rfl
@[simp ↓] theorem s_frz {i : Nat} {w : SW} : wFrz i w E ρ = w E (frz ρ i) := id rfl
@[simp ↓] theorem s_setT {is : List Nat} {we : EW} : wSetT is we E ρ = we ρ (fun r ρ1 => match r with
  | .dat (.tup ds) => (ds.length = is.length ∧ notInns ρ1 is) ∧ E.nx (setsE ρ1 is ds)
  | _ => False) E.ex := id rfl
@[simp ↓] theorem s_par {i j : Nat} {wa wb : EW} : wPar i j wa wb E ρ = wa ρ (fun r ρ1 => wb ρ1 (fun r' ρ2 => match r, r' with
  | .dat d, .dat d' => (notInn ρ2 i ∧ notInn ρ2 j) ∧ E.nx ((ρ2.set i (some (.dat d))).set j (some (.dat d')))
  | _, _ => False) E.ex) E.ex := id rfl
@[simp ↓] theorem i_src {we : EW} : wSrc we ρ QI X = we ρ (fun r ρ1 => match r with
  | .dat (.tup ds) => QI ds ρ1
  | .dat (.lst ds) => QI ds ρ1
  | .dat (.fl ds) => QI ds ρ1
  | .dat (.tpx ds) => QI ds ρ1
  | .own ds => QI ds ρ1
  | _ => False) X := id rfl
@[simp ↓] theorem i_rev {we : EW} : wRev we ρ QI X = we ρ (fun r ρ1 => match r with
  | .dat (.tup ds) => QI ds.reverse ρ1
  | .dat (.lst ds) => QI ds.reverse ρ1
  | .own ds => QI ds.reverse ρ1
  | _ => False) X := id rfl
@[simp ↓] theorem i_enum {we : EW} : wEnum we ρ QI X = we ρ (fun r ρ1 => match r with
  | .dat (.tup ds) => QI (enumD ds) ρ1
  | .dat (.lst ds) => QI (enumD ds) ρ1
  | .own ds => QI (enumD ds) ρ1
  | _ => False) X := id rfl
@[simp ↓] theorem i_rg1 {we : EW} : wRg1 we ρ QI X = we ρ (fun r ρ1 => match r with
  | .dat (.int j) => (-(2 ^ 62) ≤ j ∧ j < 2 ^ 62) ∧ QI (rgD 0 j.toNat) ρ1
  | _ => False) X := id rfl
@[simp ↓] theorem i_rg2 {wa wb : EW} : wRg2 wa wb ρ QI X = wa ρ (fun r ρ1 => wb ρ1 (fun r' ρ2 => match r, r' with
  | .dat (.int i), .dat (.int j) => ((-(2 ^ 62) ≤ i ∧ i < 2 ^ 62) ∧ -(2 ^ 62) ≤ j ∧ j < 2 ^ 62) ∧ QI (rgD i (j - i).toNat) ρ2
  | _, _ => False) X) X := id rfl
@[simp ↓] theorem e_tupRg {we : IW} : wTupRg we ρ Q X = we ρ (fun ds ρ1 => ds.length ≤ 16777216 ∧ Q (.dat (.tup ds)) ρ1) X := id rfl
@[simp ↓] theorem e_lstRg {we : IW} : wLstRg we ρ Q X = we ρ (fun ds ρ1 => ds.length ≤ 16777216 ∧ Q (.own ds) ρ1) X := id rfl
@[simp ↓] theorem e_rep {wa wb : EW} : wRep wa wb ρ Q X = wa ρ (fun a ρ1 => wb ρ1 (fun b ρ2 => match a, b with
  | .own ds, .dat (.int k) => (-(2 ^ 63) ≤ k ∧ k < 2 ^ 63 ∧ ds.length * k.toNat ≤ sizeLine) ∧ Q (.own (List.replicate k.toNat ds).flatten) ρ2
  | _, _ => False) X) X := id rfl
@[simp ↓] theorem o_no : wNoPart ρ QO X = QO none ρ := id rfl
@[simp ↓] theorem o_part {we : EW} : wPart we ρ QO X = we ρ (fun r ρ1 => match r with
  | .dat (.int i) => QO (some i) ρ1
  | _ => False) X := id rfl
@[simp ↓] theorem e_sl {we : EW} {wl wh : OW} : wSl we wl wh ρ Q X = we ρ (fun r ρ1 => wl ρ1 (fun lo ρ2 => wh ρ2 (fun hi ρ3 => withC ρ3 r fun d => gSl d lo hi fun s => Q s ρ3) X) X) X := id rfl
@[simp ↓] theorem e_yes : wYes ρ QT X = QT true ρ := id rfl
end
section
variable {Q : Sl → Prop} {i j : Int} {a b ds : List D}
@[simp ↓] theorem g_add : gAdd (.int i) (.int j) Q = Q (.dat (.int (i + j))) := id rfl
@[simp ↓] theorem g_addL : gAdd (.lst a) (.lst b) Q = (a.length + b.length ≤ sizeLine ∧ Q (.own (a ++ b))) := id rfl
@[simp ↓] theorem g_sub : gSub2 (.int i) (.int j) Q = Q (.dat (.int (i - j))) := id rfl
@[simp ↓] theorem g_mul : gMul (.int i) (.int j) Q = (IntMulOk i j ∧ Q (.dat (.int (i * j)))) := id rfl
@[simp ↓] theorem g_div : gDiv (.int i) (.int j) Q = ((j ≠ 0 ∧ Builtin.divisionGoesByPylong i j = false) ∧ Q (.dat (.int (i.fdiv j)))) := id rfl
@[simp ↓] theorem g_mod : gMod (.int i) (.int j) Q = (j ≠ 0 ∧ Q (.dat (.int (i.fmod j)))) := id rfl
@[simp ↓] theorem g_pow : gPow (.int i) (.int j) Q = (CPow i j ∧ Q (.dat (.int (i ^ j.toNat)))) := id rfl
@[simp ↓] theorem g_lt : gLt (.int i) (.int j) Q = Q (.dat (.bl (decide (i < j)))) := id rfl
@[simp ↓] theorem g_le : gLe (.int i) (.int j) Q = Q (.dat (.bl (decide (i ≤ j)))) := id rfl
@[simp ↓] theorem g_gt : gGt (.int i) (.int j) Q = Q (.dat (.bl (decide (j < i)))) := id rfl
@[simp ↓] theorem g_ge : gGe (.int i) (.int j) Q = Q (.dat (.bl (decide (j ≤ i)))) := id rfl
@[simp ↓] theorem g_neg : gNeg (.int i) Q = Q (.dat (.int (-i))) := id rfl
@[simp ↓] theorem g_eqI : gEq (.int i) (.int j) Q = Q (.dat (.bl (decide (i = j)))) := by
  have h : (D.int i).eqb (.int j) = decide (i = j) := by rw [Bool.eq_iff_iff]; simp [D.eqb, D.py, PyData.eqv]
  unfold gEq
  rw [h]; simp [D.shp, D.plain, D.deep]
@[simp ↓] theorem g_neI : gNe (.int i) (.int j) Q = Q (.dat (.bl (!decide (i = j)))) := by
  have h : (D.int i).eqb (.int j) = decide (i = j) := by rw [Bool.eq_iff_iff]; simp [D.eqb, D.py, PyData.eqv]
  unfold gNe
  rw [h]; simp [D.shp, D.plain, D.deep]
@[simp ↓] theorem g_ixT : gIx (.tup ds) (.int i) Q = @WOp _ (atI ds i) fun d => Q (.dat d) := id rfl
@[simp ↓] theorem g_ixL : gIx (.lst ds) (.int i) Q = @WOp _ (atI ds i) fun d => Q (.dat d) := id rfl
@[simp ↓] theorem g_slL {lo hi : Option Int} : gSl (.lst ds) lo hi Q = Q (.own (cutD ds lo hi)) := id rfl
@[simp ↓] theorem g_slT {lo hi : Option Int} : gSl (.tup ds) lo hi Q = Q (.dat (.tup (cutD ds lo hi))) := id rfl
@[simp ↓] theorem g_lenT : gLen [.tup ds] Q = Q (.dat (.int ds.length)) := id rfl
@[simp ↓] theorem g_lenF : gLen [.fl ds] Q = Q (.dat (.int ds.length)) := id rfl
@[simp ↓] theorem g_lenX : gLen [.tpx ds] Q = Q (.dat (.int ds.length)) := id rfl
@[simp ↓] theorem g_tupX : gTuple [.tpx ds] Q = Q (.dat (.tpx ds)) := id rfl
@[simp ↓] theorem g_ixS {x : Str} : gIx (.str x) (.int i) Q = (x.length ≤ sizeLine ∧ @WOp _ (atI x.cps.toList i) fun c => Q (.dat (.str ⟨#[c]⟩))) := id rfl
@[simp ↓] theorem g_addS {x y : Str} : gAdd (.str x) (.str y) Q = (x.length + y.length ≤ sizeLine ∧ Q (.dat (.str (x ++ y)))) := id rfl
@[simp ↓] theorem g_ixX : gIx (.tpx ds) (.int i) Q = @WOp _ (atI ds i) fun d => Q (.dat d) := id rfl
@[simp ↓] theorem g_lstF : gList [.fl ds] Q = Q (.own ds) := id rfl
@[simp ↓] theorem g_ixF : gIx (.fl ds) (.int i) Q = @WOp _ (atI ds i) fun d => Q (.dat d) := id rfl
@[simp ↓] theorem g_lenL : gLen [.lst ds] Q = Q (.dat (.int ds.length)) := id rfl
theorem abs_if : (if i < 0 then -i else i) = (i.natAbs : Int) := by split <;> omega
@[simp ↓] theorem g_abs : gAbs [.int i] Q = Q (.dat (.int (i.natAbs : Int))) := by rw [← abs_if]; rfl
@[simp ↓] theorem g_max : gMax [.int i, .int j] Q = Q (.dat (.int (if j > i then j else i))) := id rfl
@[simp ↓] theorem g_min : gMin [.int i, .int j] Q = Q (.dat (.int (if j < i then j else i))) := id rfl
@[simp ↓] theorem g_intI : gInt [.int i] Q = Q (.dat (.int i)) := id rfl
@[simp ↓] theorem g_intB {k : Bool} : gInt [.bl k] Q = Q (.dat (.int (if k then 1 else 0))) := id rfl
@[simp ↓] theorem g_tupL : gTuple [.lst ds] Q = Q (.dat (.tup ds)) := id rfl
@[simp ↓] theorem g_tupT : gTuple [.tup ds] Q = Q (.dat (.tup ds)) := id rfl
@[simp ↓] theorem g_lstL : gList [.lst ds] Q = Q (.own ds) := id rfl
@[simp ↓] theorem g_lstT : gList [.tup ds] Q = Q (.own ds) := id rfl
@[simp ↓] theorem g_isi {d : D} {T : String} : gIsi [d, .ty T] Q = (T ∈ ["int", "bool", "tuple", "list", "str"] ∧ @WOp _ (tyS d) fun a => Q (.dat (.bl (isiB a T)))) := id rfl
@[simp] theorem ty_int : tyS (.int i) = some "int" := id rfl
@[simp] theorem ty_tup : tyS (.tup ds) = some "tuple" := id rfl
@[simp] theorem ty_tpx : tyS (.tpx ds) = some "tuple" := id rfl
@[simp] theorem ty_lst : tyS (.lst ds) = some "list" := id rfl
@[simp] theorem ty_bl {k : Bool} : tyS (.bl k) = some "bool" := id rfl
end
section
variable {Q : D → List D → Prop} {d : D} {ds : List D}
@[simp ↓] theorem m_append : mAppend ds [d] Q = (ds.length < sizeLine ∧ Q .non (ds ++ [d])) := id rfl
@[simp ↓] theorem m_pop : mPop ds [] Q = @WOp _ ds[ds.length - 1]? fun d => Q d ds.dropLast := id rfl
@[simp ↓] theorem m_reverse : mReverse ds [] Q = Q .non ds.reverse := id rfl
@[simp ↓] theorem m_clear : mClear ds [] Q = Q .non [] := id rfl
end
/-- a slot that may be set -/
def free : Option Sl → Prop
  | some (.inn _) => False
  | _ => True
section
variable {ρ : En} {i : Nat} {d : D} {o : Option Sl} {ds es : List D} {k : List D → Prop}
@[simp ↓] theorem o0_own : withO (some (.own ds) :: ρ) 0 k = k ds := id rfl
@[simp ↓] theorem o0_inn : withO (some (.inn ds) :: ρ) 0 k = k ds := id rfl
@[simp ↓] theorem o_suc : withO (o :: ρ) (i + 1) k = withO ρ i k := id rfl
@[simp] theorem so0_own : setOwn (some (.own ds) :: ρ) 0 es = some (.own es) :: ρ := id rfl
@[simp] theorem so0_inn : setOwn (some (.inn ds) :: ρ) 0 es = some (.inn es) :: ρ := id rfl
@[simp] theorem so_suc : setOwn (o :: ρ) (i + 1) es = o :: setOwn ρ i es := by
  unfold setOwn
  simp only [List.getElem?_cons_succ]
  split <;> simp_all
@[simp] theorem fz0_own : frz (some (.own ds) :: ρ) 0 = some (.dat (.lst ds)) :: ρ := id rfl
@[simp] theorem fz0_dat : frz (some (.dat d) :: ρ) 0 = some (.dat d) :: ρ := id rfl
@[simp] theorem fz_suc : frz (o :: ρ) (i + 1) = o :: frz ρ i := by
  unfold frz
  simp only [List.getElem?_cons_succ]
  split <;> simp_all
@[simp ↓] theorem ni0 : notInn (o :: ρ) 0 = free o := by cases o with | none => rfl | some r => cases r <;> rfl
@[simp] theorem fr_none : free none = True := id rfl
@[simp] theorem fr_dat : free (some (.dat d)) = True := id rfl
@[simp] theorem fr_own : free (some (.own ds)) = True := id rfl
@[simp ↓] theorem ni_suc : notInn (o :: ρ) (i + 1) = notInn ρ i := id rfl
@[simp ↓] theorem nis_nil : notInns ρ [] = True := id rfl
@[simp ↓] theorem nis_cons {is : List Nat} : notInns ρ (i :: is) = (notInn ρ i ∧ notInns ρ is) := id rfl
@[simp] theorem se_nil {is : List Nat} : setsE ρ is [] = ρ := by cases is <;> rfl
@[simp] theorem se_cons {is : List Nat} : setsE ρ (i :: is) (d :: ds) = setsE (ρ.set i (some (.dat d))) is ds := id rfl
@[simp] theorem il_own {ds : List D} : isLst (some (some (.own ds))) = true := id rfl
@[simp] theorem il_inn {ds : List D} : isLst (some (some (.inn ds))) = true := id rfl
@[simp] theorem io_dic {kvs : Dc} : isOwn (some (some (.dic kvs))) = true := id rfl
@[simp] theorem fr_dic {kvs : Dc} : free (some (.dic kvs)) = True := id rfl
@[simp] theorem io_own : isOwn (some (some (.own ds))) = true := id rfl
@[simp] theorem io_inn : isOwn (some (some (.inn ds))) = true := id rfl
@[simp] theorem io_dat : isOwn (some (some (.dat d))) = false := id rfl
@[simp] theorem io_none : isOwn (some none) = false := id rfl
@[simp] theorem sp_name : spName d = some [d] := id rfl
@[simp] theorem sp_tup {n : Nat} : spTup n (.tup ds) = if ds.length = n then some ds else none := id rfl
@[simp] theorem ws_some : withS (some ds) k = k ds := id rfl
@[simp] theorem wi_nil : wipeE ρ [] = ρ := id rfl
@[simp] theorem wi_cons {vs : List Nat} : wipeE ρ (i :: vs) = (wipeE ρ vs).set i none := id rfl
@[simp] theorem r_dat {nl : Bool} : retOk nl (.dat d) = ((nl || d.nolist) = true) := id rfl
@[simp] theorem r_own {nl : Bool} : retOk nl (.own ds) = ((nl || D.nolists ds) = true) := id rfl
end
@[simp] theorem nl_int {i : Int} : (D.int i).nolist = true := by simp [D.nolist]
@[simp] theorem nl_bl {i : Bool} : (D.bl i).nolist = true := by simp [D.nolist]
@[simp] theorem nl_non : D.non.nolist = true := by simp [D.nolist]
@[simp] theorem nl_adr {a : Addr} : (D.adr a).nolist = true := by simp [D.nolist]
@[simp] theorem nl_tup {ds : List D} : (D.tup ds).nolist = D.nolists ds := by simp [D.nolist]
@[simp] theorem nl_fl {ds : List D} : (D.fl ds).nolist = D.nolists ds := by simp [D.nolist]
@[simp] theorem nl_tpx {ds : List D} : (D.tpx ds).nolist = D.nolists ds := by simp [D.nolist]
@[simp] theorem nl_exc {C : Addr} : (D.exc C).nolist = true := by simp [D.nolist]
@[simp] theorem nl_obj {C : Addr} {ns : List Str} {ds : List D} : (D.obj C ns ds).nolist = D.nolists ds := by simp [D.nolist]
@[simp] theorem nl_lst {ds : List D} : (D.lst ds).nolist = false := by simp [D.nolist]
@[simp] theorem nls_nil : D.nolists [] = true := by simp [D.nolists]
@[simp] theorem nls_cons {d : D} {ds : List D} : D.nolists (d :: ds) = (d.nolist && D.nolists ds) := by simp [D.nolists]
@[simp] theorem nls_app : ∀ {ds es : List D}, D.nolists (ds ++ es) = (D.nolists ds && D.nolists es)
  | [], _ => by simp
  | _ :: ds, _ => by simp [nls_app (ds := ds), Bool.and_assoc]
@[simp] theorem nls_ints : ∀ {ns : List Int}, D.nolists (ns.map D.int) = true
  | [] => by simp
  | _ :: ns => by simp [nls_ints (ns := ns)]
@[simp] theorem sizeLine_eq : sizeLine = 16777216 := id rfl
/-! ### x == y of plain data -/
theorem eqvAll_refl_of {ds : List D} (h : ∀ d ∈ ds, PyData.eqv d.py d.py = true) : PyData.eqvAll (D.pys ds) (D.pys ds) = true := by
  induction ds with
  | nil => simp [D.pys, PyData.eqvAll]
  | cons d ds ih => rw [D.pys, PyData.eqvAll, h d (by simp), ih fun x hx => h x (by simp [hx])]; rfl
mutual
theorem D.eqb_refl : ∀ d : D, d.plain = true → PyData.eqv d.py d.py = true
  | .non, _ => by simp [D.py, PyData.eqv]
  | .bl b, _ => by cases b <;> simp [D.py, PyData.eqv]
  | .int i, _ => by simp [D.py, PyData.eqv]
  | .str _, e => by simp [D.plain] at e
  | .adr _, e => by simp [D.plain] at e
  | .ty _, e => by simp [D.plain] at e
  | .tup ds, e => by rw [D.py, PyData.eqv]; exact D.eqbs_refl ds (by simpa [D.plain] using e)
  | .lst ds, e => by rw [D.py, PyData.eqv]; exact D.eqbs_refl ds (by simpa [D.plain] using e)
  | .fl ds, e => by rw [D.py, PyData.eqv]; exact D.eqbs_refl ds (by simpa [D.plain] using e)
  | .obj _ _ _, e => by simp [D.plain] at e
  | .exc _, e => by simp [D.plain] at e
  | .tpx ds, e => by rw [D.py, PyData.eqv]; exact D.eqbs_refl ds (by simpa [D.plain] using e)
theorem D.eqbs_refl : ∀ ds : List D, D.plains ds = true → PyData.eqvAll (D.pys ds) (D.pys ds) = true
  | [], _ => by simp [D.pys, PyData.eqvAll]
  | d :: ds, e => by
    rw [D.plains, Bool.and_eq_true] at e
    rw [D.pys, PyData.eqvAll, D.eqb_refl d e.1, D.eqbs_refl ds e.2]; rfl
end
theorem g_eqR {d : D} {Q : Sl → Prop} (h : d.shp = true) : gEq d d Q = Q (.dat (.bl true)) := by
  unfold gEq D.eqb
  rw [D.eqb_refl d (shp_plain h), h]; simp
theorem g_neR {d : D} {Q : Sl → Prop} (h : d.shp = true) : gNe d d Q = Q (.dat (.bl false)) := by
  unfold gNe D.eqb
  rw [D.eqb_refl d (shp_plain h), h]; simp
/-! ### sizes -/
theorem mul_ok {i j : Int} {n m : Nat} (h : i.natAbs < 2 ^ n) (h' : j.natAbs < 2 ^ m) (hs : n + m ≤ 134217728) : IntMulOk i j := by
  have h1 := intBits_le_iff.mpr h
  have h2 := intBits_le_iff.mpr h'
  have h3 : Builtin.Int.intTooBig ((Builtin.Int.intBits i : Nat) + (Builtin.Int.intBits j : Nat) : Int) = false := by
    unfold Builtin.Int.intTooBig
    have : bitsLine = 134217728 := by rw [bitsLine]
    rw [decide_eq_false_iff_not, this]; omega
  unfold IntMulOk
  rw [h3]; simp
theorem div_ok {i j : Int} {n : Nat} (h : j.natAbs < 2 ^ n) (hn : n ≤ 9000) : Builtin.divisionGoesByPylong i j = false := by
  unfold Builtin.divisionGoesByPylong
  have h1 : (if (j == 0) = true then 0 else j.natAbs.log2 / 30 + 1) ≤ 300 := by
    split
    · omega
    · rename_i e
      have hne : j.natAbs ≠ 0 := by simp at e; omega
      have := (Nat.log2_lt hne).mpr h
      omega
  have h2 : ¬ (if (j == 0) = true then 0 else j.natAbs.log2 / 30 + 1) > 300 := by omega
  simp only [h2, decide_false, Bool.false_and]
/-! ### loops -/
def Whil [wc : TWs] [wb : SW] [E : EndsW] (ρ : En) : Prop := ∃ W : Nat → En → Prop, (∃ m, W m ρ) ∧ ∀ m ρ1, W m ρ1 →
  wc ρ1 (fun b ρ2 => if b = true then wb { E with nx := fun ρ' => ∃ m', m' < m ∧ W m' ρ', ct := fun ρ' => ∃ m', m' < m ∧ W m' ρ', bk := E.nx } ρ2 else E.nx ρ2) E.ex
@[simp ↓] theorem s_while {wc : TWs} {wb : SW} {E : EndsW} {ρ : En} : wWhile wc wb E ρ = @Whil wc wb E ρ := id rfl
theorem while_by {wc : TWs} {wb : SW} {E : EndsW} {ρ : En} (W : Nat → En → Prop) (m : Nat) (h0 : W m ρ) (h : ∀ m ρ1, W m ρ1 →
  wc ρ1 (fun b ρ2 => if b = true then wb { E with nx := fun ρ' => ∃ m', m' < m ∧ W m' ρ', ct := fun ρ' => ∃ m', m' < m ∧ W m' ρ', bk := E.nx } ρ2 else E.nx ρ2) E.ex) : @Whil wc wb E ρ := ⟨W, ⟨m, h0⟩, h⟩
def Loop (ds : List D) [is : List Nat] [sp : D → Option (List D)] [wb : SW] [E : EndsW] (ρ1 : En) : Prop := ∃ W : Nat → En → Prop, W 0 ρ1 ∧ (∀ ρ2, W ds.length ρ2 → E.nx ρ2) ∧
  ∀ i d ρ2, ds[i]? = some d → W i ρ2 → withS (sp d) fun es => notInns ρ2 is ∧ wb { E with nx := W (i + 1), ct := W (i + 1), bk := E.nx } (setsE ρ2 is es)
@[simp ↓] theorem s_for {wi : IW} {is : List Nat} {sp : D → Option (List D)} {wb : SW} {E : EndsW} {ρ : En} : wFor wi is sp wb E ρ = wi ρ (fun ds ρ1 => @Loop ds is sp wb E ρ1) E.ex := id rfl
theorem loop_by {ds : List D} {is : List Nat} {sp : D → Option (List D)} {wb : SW} {E : EndsW} {ρ1 : En} (W : Nat → En → Prop) (h0 : W 0 ρ1) (hd : ∀ ρ2, W ds.length ρ2 → E.nx ρ2)
    (hs : ∀ i d ρ2, ds[i]? = some d → W i ρ2 → withS (sp d) fun es => notInns ρ2 is ∧ wb { E with nx := W (i + 1), ct := W (i + 1), bk := E.nx } (setsE ρ2 is es)) : @Loop ds is sp wb E ρ1 := ⟨W, h0, hd, hs⟩
/-- loops in a row: no more items, one more -/
theorem loop_nil {is : List Nat} {sp : D → Option (List D)} {wb : SW} {E : EndsW} {ρ1 : En} (h : E.nx ρ1) : @Loop [] is sp wb E ρ1 :=
  ⟨fun i ρ => ρ = ρ1, rfl, by rintro ρ2 rfl; exact h, by intro i d ρ2 h; simp at h⟩
/-- the body's wish grows with its ends -/
def MonS (wb : SW) : Prop := ∀ (E E' : EndsW) (ρ : En), wb E ρ → (∀ ρ, E.nx ρ → E'.nx ρ) → (∀ r ρ, E.rt r ρ → E'.rt r ρ) → (∀ c ρ, E.ex c ρ → E'.ex c ρ) → (∀ ρ, E.bk ρ → E'.bk ρ) → (∀ ρ, E.ct ρ → E'.ct ρ) → wb E' ρ
def LcOk (ds : List D) [is : List Nat] [sp : D → Option (List D)] [wt : TWs] [we : EW] [vs : List Nat] [Q : Sl → En → Prop] (ρ1 : En) : Prop := noOwns ρ1 vs ∧ ∃ W : Nat → List D → En → Prop, W 0 [] (wipeE ρ1 vs) ∧ (∀ acc ρ2, W ds.length acc ρ2 → Q (.own acc) ρ2) ∧
  ∀ i d acc ρ2, ds[i]? = some d → W i acc ρ2 → withS (sp d) fun es => notInns (wipeE ρ2 vs) is ∧ wt (setsE (wipeE ρ2 vs) is es) (fun b ρ3 => if b = true then we ρ3 (fun r ρ4 => withD [r] fun rs => acc.length < sizeLine ∧ W (i + 1) (acc ++ rs) (wipeE ρ4 vs)) (fun _ _ => False) else W (i + 1) acc (wipeE ρ3 vs)) (fun _ _ => False)
@[simp ↓] theorem e_lc {wi : IW} {is : List Nat} {sp : D → Option (List D)} {wt : TWs} {we : EW} {vs : List Nat} {ρ : En} {Q : Sl → En → Prop} {X : Value → En → Prop} : wLc wi is sp wt we vs ρ Q X = wi ρ (fun ds ρ1 => @LcOk ds is sp wt we vs Q ρ1) X := id rfl
theorem lc_by {ds : List D} {is : List Nat} {sp : D → Option (List D)} {wt : TWs} {we : EW} {vs : List Nat} {Q : Sl → En → Prop} {ρ1 : En} (no : noOwns ρ1 vs) (W : Nat → List D → En → Prop) (h0 : W 0 [] (wipeE ρ1 vs)) (hd : ∀ acc ρ2, W ds.length acc ρ2 → Q (.own acc) ρ2)
    (hs : ∀ i d acc ρ2, ds[i]? = some d → W i acc ρ2 → withS (sp d) fun es => notInns (wipeE ρ2 vs) is ∧ wt (setsE (wipeE ρ2 vs) is es) (fun b ρ3 => if b = true then we ρ3 (fun r ρ4 => withD [r] fun rs => acc.length < sizeLine ∧ W (i + 1) (acc ++ rs) (wipeE ρ4 vs)) (fun _ _ => False) else W (i + 1) acc (wipeE ρ3 vs)) (fun _ _ => False)) : @LcOk ds is sp wt we vs Q ρ1 := ⟨no, W, h0, hd, hs⟩
/-- [f x for x in ..]: each item's element is known, the env stays -/
theorem lcm_by {is : List Nat} {sp : D → Option (List D)} {we : EW} {vs : List Nat} {ds res : List D} {ρ1 : En} {Q : Sl → En → Prop} (no : noOwns ρ1 vs) (hl : res.length = ds.length) (hz : ds.length ≤ sizeLine)
    (hs : ∀ (i : Nat) (d d' : D), ds[i]? = some d → res[i]? = some d' → ∃ es, sp d = some es ∧ notInns (wipeE (wipeE ρ1 vs) vs) is ∧ ∀ (Q' : Sl → En → Prop) (X' : Value → En → Prop), (∀ ρ', wipeE ρ' vs = wipeE ρ1 vs → Q' (.dat d') ρ') → we (setsE (wipeE (wipeE ρ1 vs) vs) is es) Q' X')
    (q : Q (.own res) (wipeE ρ1 vs)) : @LcOk ds is sp wYes we vs Q ρ1 := lc_map no hl hz hs q
@[simp] theorem no_nil {ρ : En} : noOwns ρ [] = True := by simp [noOwns]
@[simp] theorem no_cons {ρ : En} {v : Nat} {vs : List Nat} : noOwns ρ (v :: vs) = (isOwn ρ[v]? = false ∧ noOwns ρ vs) := by simp [noOwns]
theorem rg_get {lo : Int} {n k : Nat} {d : D} (h : (rgD lo n)[k]? = some d) : d = .int (lo + (k : Nat)) ∧ k < n := by
  have hk := (List.getElem?_eq_some_iff.mp h).1
  rw [rgD_len] at hk
  rw [rgD_get hk] at h
  cases h
  exact ⟨rfl, hk⟩
theorem mul_small {i j : Int} (h : j.natAbs < 2 ^ 64) : IntMulOk i j := .of_right (intBits_le_iff.mpr h)
theorem mul_small' {i j : Int} (h : i.natAbs < 2 ^ 64) : IntMulOk i j := .of_left (intBits_le_iff.mpr h)
theorem ixN_last (n : Nat) : ixN (n + 1) (-1) = some n := by
  unfold ixN; simp; omega
theorem cut_take {ds : List D} (k : Nat) : cutD ds none (some (k : Int)) = ds.take k := by
  unfold cutD
  rw [HT.sIx_none, HT.sIx_nat, List.drop_zero, Nat.sub_zero, List.take_eq_take_iff]
  omega
theorem fr_notInn {o : Option Sl} {ρ : En} : notInn (o :: ρ) 0 ↔ free o := by rw [ni0]
end DL

set_option Elab.async false
set_option linter.all false
set_option maxRecDepth 100000
set_option maxHeartbeats 4000000
set_option checkBinderAnnotations false
/-! DLn: try/except .. as e; a def held by a slot; isinstance of a caught error. -/
namespace DL
open PySem L2
section
variable {K : PySem.W.Frag} {H0 B0 B H : Hp} {L : Nat → Addr → Prop} {σ : St} {ρ : En}
theorem FR.unset (f : FR K H0 B0 L B σ ρ H) {i : Nat} (hn : notInn ρ i) : FR K H0 B0 L B (σ.set i none) (ρ.set i none) H where
  toSR := by
    have a : AgS σ (σ.set i none) [i] := ⟨by simp, fun j hj => by rw [List.getElem?_set_ne]; intro z; exact hj (by simp [z])⟩
    exact f.toSR.agree a
  ext0 := f.ext0
  fresh := fun b ⟨j, h1, h2⟩ => by
    have hr : i < ρ.length := notInn_lt hn
    have hs : i < σ.length := by rw [f.len]; exact hr
    by_cases hj : j = i
    · subst hj
      rw [List.getElem?_set_self hs] at h2; cases h2
    · rw [List.getElem?_set_ne (Ne.symm hj)] at h1 h2
      exact f.fresh b ⟨j, h1, h2⟩
  keep := fun j b h => by
    obtain ⟨h1, ds, h2⟩ := f.keep j b h
    have hj : j ≠ i := fun z => by
      subst z
      unfold notInn at hn
      rw [h2] at hn
      exact hn
    rw [List.getElem?_set_ne (Ne.symm hj), List.getElem?_set_ne (Ne.symm hj)]
    exact ⟨h1, ds, h2⟩
  bnew := f.bnew
end
theorem dss_all {ι : Type} {F : ι → Cx} {K : PySem.W.Frag} {W : WX} {e : List Stmt} {w : SW} (hK : ∀ c, (F c).K = K) (h : ∀ c, DSs (F c) W e w) : ∃ t, (∀ c, PSs (F c) e t) ∧ SimS K W t w := by
  have h' : ∀ c, ∃ t, PSs (F c) e t ∧ SimS K W t w := fun c => by have z := (h c).ok; rw [hK c] at z; exact z
  refine ⟨fun D σ H => ∀ c t, PSs (F c) e t → SimS K W t w → t D σ H, fun c => ?_, fun H0 B0 L B σ ρ H E Ew f hw n r b cc x c t _ z => z H0 B0 L B σ ρ H E Ew f hw n r b cc x⟩
  obtain ⟨t, p, z⟩ := h' c
  exact ⟨fun pins s σ H D I q => p.run pins s σ H D I (q c t p z)⟩
/-- try: body, except c as (slot i): the suite; only errors of the class at C are looked for -/
def wTry (K : PySem.W.Frag) (c : Value) (C : Addr) (i : Nat) (wb : SW) (wh : Addr → SW) : SW := fun E ρ => wb { E with ex := fun cls ρ1 => ∃ b, PySem.W.exmOne K cls c = some b ∧
  (b = true → cls = .ref C ∧ notInn ρ1 i ∧ ∀ a, wh a { nx := fun ρ2 => notInn ρ2 i ∧ E.nx (ρ2.set i none), rt := E.rt, ex := fun _ _ => False, bk := fun ρ2 => notInn ρ2 i ∧ E.bk (ρ2.set i none), ct := fun ρ2 => notInn ρ2 i ∧ E.ct (ρ2.set i none) } (ρ1.set i (some (.dat (.adr a))))) ∧ (b = false → E.ex cls ρ1) } ρ
section
variable {X : Cx} {W : WX} {x n : Str} {c : Value} {C : Addr} {i : Nat} {body suite : List Stmt} {b₀ : Stmt} {np pos pos' : Pos} {wb : SW} {wh : Addr → SW}
theorem ds_try (i : Nat) (hs : X.stack = X.env :: X.outer) (hf : X.env.frame = some X.env.locals) (hN : X.N.Nodup) (hi : X.N[i]? = some n) (hln : X.env.kindOf n = some .local) (hc : Names X x c) (tk : Takes X W)
    (hb : ∀ (W : WX) (pn : List (Addr × Obj)) (xe : Value → Shared → Prop), Takes (X.tr pn xe) W → PassesOwn (model X.prog X.w) X.A X.env xe → DSs (X.tr pn xe) W body wb)
    (hsu : ∀ (a : Addr) (oe : Obj) (pn : List (Addr × Obj)), Zc (.ref C) none oe → (∃ vs, oe.data = .fields vs) → DSs (X.suite a ((a, oe) :: pn)) (fun _ _ _ _ => False) (b₀ :: suite) (wh a)) :
    DS X W (.Try body [.ExceptHandler (some (.Name x np)) (some n) (b₀ :: suite) pos'] [] [] pos) (wTry X.K c C i wb wh) := by
  have hb' : ∀ W : WX, ∃ t, (∀ q : {q : List (Addr × Obj) × (Value → Shared → Prop) // Takes (X.tr q.1 q.2) W ∧ PassesOwn (model X.prog X.w) X.A X.env q.2}, PSs (X.tr q.1.1 q.1.2) body t) ∧ SimS X.K W t wb := fun W =>
    dss_all (F := fun q : {q : List (Addr × Obj) × (Value → Shared → Prop) // Takes (X.tr q.1 q.2) W ∧ PassesOwn (model X.prog X.w) X.A X.env q.2} => X.tr q.1.1 q.1.2) (fun _ => rfl) fun q => hb W q.1.1 q.1.2 q.2.1 q.2.2
  have hs' : ∀ a : Addr, ∃ t, (∀ q : {q : Obj × List (Addr × Obj) // Zc (.ref C) none q.1 ∧ ∃ vs, q.1.data = .fields vs}, PSs (X.suite a ((a, q.1.1) :: q.1.2)) (b₀ :: suite) t) ∧ SimS X.K (fun _ _ _ _ => False) t (wh a) := fun a =>
    dss_all (F := fun q : {q : Obj × List (Addr × Obj) // Zc (.ref C) none q.1 ∧ ∃ vs, q.1.data = .fields vs} => X.suite a ((a, q.1.1) :: q.1.2)) (fun _ => rfl) fun q => hsu a q.1.1 q.1.2 q.2.1 q.2.2
  have eb := fun W => (hb' W).choose_spec
  have es := fun a => (hs' a).choose_spec
  refine ⟨_, ps_try_as (i := i) (tb := fun W => (hb' W).choose) (ts := fun a cls d D σ H => (d = none ∧ cls = .ref C) ∧ (hs' a).choose D σ H) hs hf hN hi hln hc tk (fun W pn xe t p => (eb W).1 ⟨(pn, xe), t, p⟩) (fun a oe cls d pn z v => ⟨fun pins s σ H D I q => ?_⟩), ?_⟩
  · obtain ⟨⟨rfl, rfl⟩, q⟩ := q
    exact ((es a).1 ⟨(oe, pn), z, v⟩).run pins s σ H D I q
  · intro H0 B0 L B σ ρ H E Ew f h nx rt bk ct ex
    refine (eb _).2 H0 B0 L B σ ρ H E _ f h nx rt bk ct ?_
    rintro cls B1 σ1 ρ1 H1 f1 g1 ⟨b, hb, ht, hfalse⟩
    refine ⟨b, hb, fun e a na => ?_, fun e => ex cls B1 σ1 ρ1 H1 f1 g1 (hfalse e)⟩
    obtain ⟨rfl, hn, hw⟩ := ht e
    refine ⟨⟨rfl, rfl⟩, (es a).2 H0 B0 L B1 _ _ H1 _ _ (f1.set hn (sl := .dat (.adr a)) (.adr a) fun p z => by cases z) (hw a) ?_ rt ?_ ?_ fun _ _ _ _ _ _ _ z => z⟩
    · exact fun B2 σ2 ρ2 H2 f2 g2 q => nx B2 _ _ H2 (f2.unset q.1) (g1.trans g2) q.2
    · exact fun B2 σ2 ρ2 H2 f2 g2 q => bk B2 _ _ H2 (f2.unset q.1) (g1.trans g2) q.2
    · exact fun B2 σ2 ρ2 H2 f2 g2 q => ct B2 _ _ H2 (f2.unset q.1) (g1.trans g2) q.2
end
/-! ### a def that a slot holds -/
def wCallL (i : Nat) (S : Addr → FD → Prop) (wr : AW) : EW := fun ρ Q X => ∃ a g, ρ[i]? = some (some (.dat (.adr a))) ∧ S a g ∧ wCallD g wr ρ Q X
structure HeldD (P : Program) (w : World) (K : PySem.W.Frag) (mg : Str → Option Value) (base : Heap) (k n : Nat) (f : Addr) (g : FD) : Prop where
  ex : ∃ (fd : FuncData) (ps : List Str), FnOk P w K mg base (L2.CX P w) k f fd ps (spD K n g) ∧ PySem.W.keepIn K (.ref f) = true ∧ Binds K fd ps []
  len : ∀ ds Qw Xw, g ds Qw Xw → ds.length = n
section
variable {X : Cx} {W : WX} {k n : Nat} {S : Addr → FD → Prop} {x : Str} {p pos : Pos} {e : Expr} {es : List Expr} {wr : AW}
open PySem.Spec PyProof.Rows in
theorem de_callL (i : Nat) (A : ∀ f g, S f g → HeldD X.prog X.w X.K X.mg X.base k n f g) (hr : Room k X.A) (tk : Takes X W) (ha : DA X W (e :: es) wr) (hN : X.N[i]? = some x := by rfl) (hv : Vis X.env.scope x := by first | exact Or.inl rfl | exact Or.inr (Or.inl rfl) | exact Or.inr (Or.inr rfl))
    (hdb : (x == ("__debug__" : Str)) = false := by decide) (hcd : (x == ("__classdict__" : Str)) = false := by decide)
    (he : starEach (e :: es) X.env = (false, eval e X.env) :: starEach es X.env := by rfl) (hpl : (backTo pos (starEach es X.env)).any (·.1) = false := by rfl) : DE X W (.Call (.Name x p) (e :: es) [] pos) (wCallL i S wr) := by
  obtain ⟨t, pa, sa⟩ := ha.ok
  refine ⟨fun σ H Q => ∃ f g, σ[i]? = some (some (.ref f)) ∧ S f g ∧ tCallS (spD X.K n g) (WE W) t σ H Q, ⟨fun pins s σ H Q I h => ?_⟩, ?_⟩
  · obtain ⟨f, g, hs, hS, ht⟩ := h
    obtain ⟨fd, ps, F, hk, hb⟩ := (A f g hS).ex
    refine wpAny_Call_Name_kw (thn ((pe_var (pos := p) hN hv hdb hcd).run pins s σ H (fun v H1 => v = .ref f ∧ H1 = H) I ⟨.ref f, hs, rfl, rfl⟩) fun u s1 ⟨v, H1, I1, r1, q1⟩ => ?_)
    obtain ⟨rfl, rfl⟩ := q1
    cases r1
    refine PySem.W.callWith_K (h₀ := X.base) I.ok.mod.kin hk (thn (pa.run pos pins s1 σ _ _ I1 ht) fun us s2 ⟨vs, H2, I2, r, q⟩ => ⟨I2.kIn, ?_⟩) he hpl
    exact run_fnS F hr hb (passAt tk σ) I2 r q
  · rintro B σ ρ H Qw Xw Q s ⟨a, g, e1, e2, h⟩ hx q
    obtain ⟨v, hv', r⟩ := s.slot i _ e1
    have r : Ip X.K B H v (.adr a) := r
    cases r
    exact ⟨a, g, hv', e2, sim_callD sa (A a g e2).len B σ ρ H Qw Xw Q s h hx q⟩
end
/-! ### isinstance(e, C), isinstance(e, (C1, ..)), e the error that the suite holds -/
inductive ClsD : D → Value → Prop where
  | ty (n : String) : ClsD (.ty n) (.type n)
  | own (C : Addr) : ClsD (.adr C) (.ref C)
inductive ClsDs : List D → List Value → Prop where
  | nil : ClsDs [] []
  | cons {d : D} {ds : List D} {v : Value} {vs : List Value} (h : ClsD d v) (t : ClsDs ds vs) : ClsDs (d :: ds) (v :: vs)
theorem ClsD.clsV {K : PySem.W.Frag} {B H : Hp} {v : V} {d : D} {u : Value} (h : Ip K B H v d) (c : ClsD d u) : ClsV v u := by
  cases c with
  | ty n => cases h; exact .ty n
  | own C => cases h; exact .own C
theorem ClsDs.all {K : PySem.W.Frag} {B H : Hp} : ∀ {vs : List V} {ds : List D} {us ws : List Value}, IpAll K B H vs ds → ClsDs ds us → Vals vs ws → ws = us
  | _, _, _, _, .nil, .nil, .nil => rfl
  | _, _, _, _, .cons h t, .cons c cs, .cons r rs => by rw [(ClsD.clsV h c).eq r, ClsDs.all t cs rs]
def rIsET (K : PySem.W.Frag) (C a : Addr) : List V → Hp → VK → Prop := fun xs H Q => ∃ (tp : Addr) (cs : List V) (us : List Value) (b : Bool), xs = [.ref a, .ref tp] ∧ SqT K H tp cs ∧ (∀ ws, Vals cs ws → ws = us) ∧ PySem.W.kitAny K (.ref C) us = some b ∧ Q (.bl b) H
def gIsE (K : PySem.W.Frag) (C a : Addr) : GN
  | [.adr a', d], Q => a' = a ∧ ∃ u b, ClsD d u ∧ PySem.W.kitOne K (.ref C) u = some b ∧ Q (.dat (.bl b))
  | _, _ => False
def gIsET (K : PySem.W.Frag) (C a : Addr) : GN
  | [.adr a', .tup ds], Q => a' = a ∧ ∃ us b, ClsDs ds us ∧ PySem.W.kitAny K (.ref C) us = some b ∧ Q (.dat (.bl b))
  | _, _ => False
section
variable {K : PySem.W.Frag} {C a : Addr}
theorem cs_isE : CallS K (rIsE K C a) (gIsE K C a) := by
  intro B H xs ds Qw Q sub hx g p
  match ds, g with
  | [.adr a', d], g =>
    obtain ⟨rfl, u, b, c, e, q⟩ := g
    cases hx with
    | cons h1 t =>
      cases t with
      | cons h2 t =>
        cases t
        cases h1
        rename_i v
        have i2 : ClsV v u := by
          cases c with
          | ty n => cases h2; exact .ty n
          | own C => cases h2; exact .own C
        exact ⟨_, u, b, rfl, fun w r => i2.eq r, e, p.bl q⟩
theorem cs_isET : CallS K (rIsET K C a) (gIsET K C a) := by
  intro B H xs ds Qw Q sub hx g p
  match ds, g with
  | [.adr a', .tup es], g =>
    obtain ⟨rfl, us, b, c, e, q⟩ := g
    cases hx with
    | cons h1 t =>
      cases t with
      | cons h2 t =>
        cases t
        cases h1
        cases h2 with
        | tup hs ha => exact ⟨_, _, us, b, rfl, hs.sq, fun ws r => ClsDs.all ha c r, e, p.bl q⟩
theorem call_isET {X : Cx} {a D : Addr} {oe : Obj} {pn : List (Addr × Obj)} (C : ExcC X.K D) (hz : Zc (.ref D) none oe) (hf : ∃ vs, oe.data = .fields vs) : CallR (X.suite a ((a, oe) :: pn)) (.builtin "isinstance") (rIsET X.K D a) := by
  intro pins s σ H xs us Q I r h
  obtain ⟨tp, cs, ws, b, rfl, hT, hcv, e, q⟩ := h
  obtain ⟨u1, u2, rfl, r1, r2⟩ := vals2 r
  cases (show u1 = Value.ref a from r1)
  cases (show u2 = Value.ref tp from r2)
  obtain ⟨its, o, n, rv, h1, h2, h3⟩ := sqT_at I.hok I.kIn hT
  have e3 := hcv _ rv
  subst e3
  obtain ⟨oc, od, dt, sl⟩ := o
  simp only at h2 h3
  subst h2 h3
  obtain ⟨hget, _⟩ := I.pin (a, oe) (List.mem_append.mpr (.inl List.mem_cons_self))
  obtain ⟨vs, hv⟩ := hf
  have J : PySem.W.InstAt s.heap a oe D none := by
    obtain ⟨oc, od, oda, osl⟩ := oe
    obtain ⟨h1, h2⟩ := hz
    dsimp only at h1 h2 hv
    subst h1 h2 hv
    exact ⟨hget, rfl, rfl, trivial⟩
  exact PySem.W.kia_tup (PySem.W.handS_kitx_exc C.hg C.hk C.hs C.hd C.ha C.hn C.ht C.hm) I.kIn J h1 e (fun z => nomatch z) fun tk => ⟨.bl b, H, I.kept (t' := tk) fun _ _ z => z, rfl, q⟩
end
theorem ClsD.fun_ {d : D} {u v : Value} (h : ClsD d u) (h' : ClsD d v) : u = v := by
  cases h <;> cases h' <;> rfl
theorem ClsDs.fun_ : ∀ {ds : List D} {us vs : List Value}, ClsDs ds us → ClsDs ds vs → us = vs
  | _, _, _, .nil, .nil => rfl
  | _, _, _, .cons h t, .cons h' t' => by rw [h.fun_ h', t.fun_ t']
theorem gIsE_of {K : PySem.W.Frag} {C a : Addr} {d : D} {u : Value} {b : Bool} {Q : Sl → Prop} (c : ClsD d u) (h : PySem.W.kitOne K (.ref C) u = some b) : gIsE K C a [.adr a, d] Q = Q (.dat (.bl b)) := by
  refine propext ⟨fun ⟨_, u', b', c', h', q⟩ => ?_, fun q => ⟨rfl, u, b, c, h, q⟩⟩
  cases c.fun_ c'
  rw [h] at h'; cases h'; exact q
theorem gIsET_of {K : PySem.W.Frag} {C a : Addr} {ds : List D} {us : List Value} {b : Bool} {Q : Sl → Prop} (c : ClsDs ds us) (h : PySem.W.kitAny K (.ref C) us = some b) : gIsET K C a [.adr a, .tup ds] Q = Q (.dat (.bl b)) := by
  refine propext ⟨fun ⟨_, u', b', c', h', q⟩ => ?_, fun q => ⟨rfl, us, b, c, h, q⟩⟩
  cases c.fun_ c'
  rw [h] at h'; cases h'; exact q
end DL

set_option Elab.async false
set_option linter.all false
set_option maxRecDepth 100000
set_option maxHeartbeats 4000000
/-! DLo: the head: facts by names, and others of one's own. -/
namespace DL
open PySem PySem.Spec PyProof.Rows L2
abbrev AlX : Type := Bool × He.AlD
def obsX (ex : PySem.W.Frag → Bool) (fa : List He.Fa) (fn : List He.DefD) (K : PySem.W.Frag) : AlX := (ex K, He.obsD fa fn K)
def obsXG (n : Nat) (ex : PySem.W.Frag → Bool) (fa : List He.Fa) (fn : List He.DefD) (g : Addr → Option Obj) : AlX := obsX ex fa fn (He.frG g (He.asD g n))
def hookX (n : Nat) (ex : PySem.W.Frag → Bool) (fa : List He.Fa) (fn : List He.DefD) : PySem.W.Hook where
  α := AlX
  obs := fun s => obsXG n ex fa fn s.heap.get?
  val := fun _ => (true, He.valD fn)
  says := fun _ h => ∃ K : PySem.W.Frag, K.In h ∧ (ex K = true ∧ He.SaysD fa fn K)
  of := fun _ _ e => ⟨_, He.frG_in, congrArg (fun z : AlX => z.1) e, congrArg (fun z : AlX => z.2) e⟩
  keeps := fun _ _ _ ⟨K, hK, c⟩ k => ⟨K, PySem.W.Frag.In.keeps hK k, c⟩
theorem obsXG_eq {n : Nat} {ex : PySem.W.Frag → Bool} {fa : List He.Fa} {fn : List He.DefD} {g : Addr → Option Obj} {s : Shared} (h : ∀ a, g a = s.heap.get? a) : obsXG n ex fa fn g = (hookX n ex fa fn).obs s := by
  have e : g = s.heap.get? := funext h
  rw [e] <;> rfl
/-- a def whose promise lets nothing out -/
theorem FnOk_cx0 {P : Program} {w : World} {K : PySem.W.Frag} {mg : Str → Option Value} {base : Heap} {k : Nat} {f : Addr} {fd : FuncData} {ps : List Str} {sp : Sp} (F : FnOk P w K mg base (L2.CX P w) k f fd ps sp) :
    FnOk P w K mg base CX0 k f fd ps (fun vs H Q _ => sp vs H Q fun _ _ _ => False) where
  len := fun vs H Q E h => F.len vs H Q _ h
  run := fun A outer s H args us vs Q E hr e0 hb hv h => by
    refine codeAny_mono (F.run A outer s H args us vs Q (fun _ _ _ => False) hr e0 hb hv h) fun r s' hq => ?_
    cases r with
    | error e =>
      obtain ⟨_, _, _, _, _, _, _, _, _, _, _, _, z⟩ := hq
      exact z.elim
    | ok fl => cases fl <;> exact hq
theorem ip_ints {K : PySem.W.Frag} {B H : Hp} : ∀ ns : List Int, IpAll K B H (ns.map V.int) (ns.map D.int)
  | [] => .nil
  | i :: ns => .cons (.int i) (ip_ints ns)
/-- the law's promise, at a list of ints -/
theorem law_at {K : PySem.W.Frag} {g : FD} (hg : ∀ (ns : List Int) (Q : Sl → Prop), Q (.dat (.bl true)) → g [.lst (ns.map D.int)] Q (fun _ => False)) (H : Hp) (a : Addr) (ns : List Int) (hS : SqL K H a (ns.map V.int)) :
    spD K 1 g [.ref a] H (fun v _ => v = .bl true) fun _ _ _ => False :=
  ⟨H, [.lst (ns.map D.int)], fun r => r = .dat (.bl true), fun _ => False, Same.refl _, .cons (.lst hS (ip_ints ns)) .nil, rfl, hg ns _ rfl, fun v r H' sm rr q => by
    subst q
    obtain ⟨F, _, _, z⟩ := rr
    have z : Ip K F H' v (.bl true) := z
    cases z; rfl, fun _ _ _ z => z⟩
def eB (a b : Option Bool) : Bool := decide (a = b)
theorem eB_ok {a b : Option Bool} (h : eB a b = true) : a = b := of_decide_eq_true h
/-- what isinstance asks of an own error class -/
def excB (K : PySem.W.Frag) (D : Addr) : Bool :=
  He.eqO (PySem.W.findIn K (.ref D) "__getattribute__") (some (some (.builtin "BaseException.__getattribute__"))) && (He.eqO (PySem.W.findIn K (.ref D) "__getattr__") (some none) && (eB (PySem.W.subIn K (.ref D) (.type "BaseException")) (some true) && (PySem.W.hasDictIn K D &&
    (He.eqO (PySem.W.findIn K (.ref D) "__class__") (some (some (.builtin "object.__class__"))) && (He.eqO (PySem.W.specialIn K (.builtin "object.__class__") "__get__") (some (some (.builtin "getset_descriptor.__get__"))) && (eB (PySem.W.takesIn K (.builtin "object.__class__")) (some true) && eB (PySem.W.mroIn K D (.type "object")) (some true)))))))
theorem excB_ok {K : PySem.W.Frag} {D : Addr} (h : excB K D = true) : ExcC K D := by
  obtain ⟨h1, h⟩ := He.ba h
  obtain ⟨h2, h⟩ := He.ba h
  obtain ⟨h3, h⟩ := He.ba h
  obtain ⟨h4, h⟩ := He.ba h
  obtain ⟨h5, h⟩ := He.ba h
  obtain ⟨h6, h⟩ := He.ba h
  obtain ⟨h7, h8⟩ := He.ba h
  exact ⟨He.eqO_ok h1, He.eqO_ok h2, eB_ok h3, h4, He.eqO_ok h5, He.eqO_ok h6, eB_ok h7, eB_ok h8⟩
/-- a tuple of the module's -/
def tupB (K : PySem.W.Frag) (a : Addr) (vs : List V) : Bool := match K.lookup a with
  | some ⟨.type c, _, .seq its _, _⟩ => decide (c = "tuple") && (decide (its.size ≤ sizeLine) && He.relAll vs its.toList)
  | _ => false
theorem tupB_ok {K : PySem.W.Frag} {a : Addr} {vs : List V} (h : tupB K a vs = true) (H : Hp) : TupA K H a vs := by
  unfold tupB at h
  split at h
  · rename_i c d its n sl q
    obtain ⟨h1, h2⟩ := He.ba h
    obtain ⟨h3, h4⟩ := He.ba h2
    exact .inr (.inr ⟨_, its, n, q, congrArg Value.type (of_decide_eq_true h1), rfl, of_decide_eq_true h3, He.relAll_ok h4⟩)
  · cases h
theorem ip_pair {K : PySem.W.Frag} {a : Addr} {x y : Int} (h : tupB K a [.int x, .int y] = true) (B H : Hp) : Ip K B H (.ref a) (.tup [.int x, .int y]) := .tup (tupB_ok h H) (.cons (.int x) (.cons (.int y) .nil))
end DL

set_option Elab.async false
set_option linter.all false
set_option maxRecDepth 100000
set_option maxHeartbeats 4000000
set_option checkBinderAnnotations false
/-! DLp: ranges downwards and with a step; the module's ints and texts. -/
namespace DL
open PySem L2
def rcD (lo c : Int) (n : Nat) : List D := (List.range n).map fun i => .int (lo + (i : Nat) * c)
theorem rcD_len (lo c : Int) (n : Nat) : (rcD lo c n).length = n := by unfold rcD; simp
theorem rcD_get {lo c : Int} {n k : Nat} (h : k < n) : (rcD lo c n)[k]? = some (.int (lo + (k : Nat) * c)) := by
  unfold rcD
  rw [List.getElem?_map, List.getElem?_range h]; rfl
theorem rc_get {lo c : Int} {n k : Nat} {d : D} (h : (rcD lo c n)[k]? = some d) : d = .int (lo + (k : Nat) * c) ∧ k < n := by
  have hk := (List.getElem?_eq_some_iff.mp h).1
  rw [rcD_len] at hk
  rw [rcD_get hk] at h
  cases h
  exact ⟨rfl, hk⟩
theorem wk_rc {K : PySem.W.Frag} (lo c : Int) (n : Nat) (ok : Hp → Hp → Prop) : Wk K (Itc lo c n) (rcD lo c n) ok where
  go := fun k B H _ hk => by rw [rcD_len] at hk; exact hk
  yld := fun k B H x H' _ hy hk => by
    obtain ⟨rfl, rfl⟩ := hy
    rw [rcD_len] at hk
    exact ⟨_, rcD_get hk, Same.refl _, .int _⟩
  stop := fun k B H _ hk => by rw [rcD_len] at hk; exact hk
/-- reversed(range(n)) -/
def wRevRg1 (we : EW) : IW := fun ρ Q X => we ρ (fun r ρ1 => match r with
  | .dat (.int j) => (-(2 ^ 62) ≤ j ∧ j < 2 ^ 62) ∧ Q (rcD ((j.toNat : Int) - 1) (-1) j.toNat) ρ1
  | _ => False) X
/-- range(i, j, c) -/
def wRg3 (wa wb wc : EW) : IW := fun ρ Q X => wa ρ (fun r ρ1 => wb ρ1 (fun r' ρ2 => wc ρ2 (fun r'' ρ3 => match r, r', r'' with
  | .dat (.int i), .dat (.int j), .dat (.int c) => ∃ n : Nat, RgC i j c n ∧ Q (rcD i c n) ρ3
  | _, _, _ => False) X) X) X
section
variable {X : Cx} {W : WX} {tg a b c e : Expr} {wa wb wc we : EW} {pos p pos2 p2 : Pos}
theorem di_revRg1 (hg0 : Gl X "reversed") (hm0 : X.mg "reversed" = none) (hg : Gl X "range") (hm : X.mg "range" = none) (ha : DE X W a wa) (hs : starEach [a] X.env = (false, eval a X.env) :: starEach [] X.env := by rfl)
    (hs2 : starEach [.Call (.Name "range" p2) [a] [] pos2] X.env = (false, eval (.Call (.Name "range" p2) [a] [] pos2) X.env) :: starEach [] X.env := by rfl) : DI X W tg (.Call (.Name "reversed" p) [.Call (.Name "range" p2) [a] [] pos2] [] pos) (wRevRg1 wa) := by
  obtain ⟨t, pa, sa⟩ := ha.ok
  refine ⟨_, pi_revR hg0 hm0 (prg_1 hg hm pa hs) hs2, fun B σ ρ H Qw Xw R s h hx q => ?_⟩
  refine sa B σ ρ H _ Xw _ s h hx fun v r B1 ρ1 H1 s1 t1 rv1 q1 => ?_
  cases r with
  | dat d =>
    cases d with
    | int j =>
      cases rv1
      refine ⟨j, rfl, by decide, by decide, q1.1.1, q1.1.2, ?_⟩
      have e1 : ((j - 0).toNat) = j.toNat := by omega
      have e2 : (0 : Int) + ((j.toNat : Nat) : Int) - 1 = (j.toNat : Int) - 1 := by omega
      rw [e1, e2]
      exact q _ _ B1 ρ1 H1 s1 t1 (wk_rc _ _ _ _) q1.2
    | _ => exact q1.elim
  | _ => exact q1.elim
theorem di_range3 (hg : Gl X "range") (hm : X.mg "range" = none) (ha : DE X W a wa) (hb : DE X W b wb) (hc : DE X W c wc) (hs : starEach [a, b, c] X.env = (false, eval a X.env) :: starEach [b, c] X.env := by rfl) (hs2 : starEach [b, c] X.env = (false, eval b X.env) :: starEach [c] X.env := by rfl)
    (hs3 : starEach [c] X.env = (false, eval c X.env) :: starEach [] X.env := by rfl) (hpl : (backTo pos (starEach [b, c] X.env)).any (·.1) = false := by rfl) : DI X W tg (.Call (.Name "range" p) [a, b, c] [] pos) (wRg3 wa wb wc) := by
  obtain ⟨t, pa, sa⟩ := ha.ok
  obtain ⟨t2, pb, sb⟩ := hb.ok
  obtain ⟨t3, pc, sc⟩ := hc.ok
  refine ⟨_, pi_range3 hg hm (pa_cons pa (pa_cons pb (pa_cons pc pa_nil hs3) hs2) hs) hs hpl, fun B σ ρ H Qw Xw R s h hx q => ?_⟩
  refine sa B σ ρ H _ Xw _ s h hx fun v r B1 ρ1 H1 s1 t1 rv1 q1 => ?_
  refine sb B1 σ ρ1 H1 _ Xw _ s1 q1 (hx.lift s1 t1) fun v2 r2 B2 ρ2 H2 s2 t2 rv2 q2 => ?_
  refine sc B2 σ ρ2 H2 _ Xw _ s2 q2 ((hx.lift s1 t1).lift s2 t2) fun v3 r3 B3 ρ3 H3 s3 t3 rv3 q3 => ?_
  cases r with
  | dat d =>
    cases d with
    | int i =>
      cases r2 with
      | dat d2 =>
        cases d2 with
        | int j =>
          cases r3 with
          | dat d3 =>
            cases d3 with
            | int c =>
              obtain ⟨n, hn, q3⟩ := q3
              cases rv1; cases rv2; cases rv3
              exact ⟨i, j, c, n, rfl, hn, q _ _ B3 ρ3 H3 s3 (t1.trans s1 (t2.trans s2 t3)) (wk_rc _ _ _ _) q3⟩
            | _ => exact q3.elim
          | _ => exact q3.elim
        | _ => exact q3.elim
      | _ => exact q3.elim
    | _ => exact q3.elim
  | _ => exact q3.elim
end
section
variable {ρ : En} {X : Value → En → Prop} {QI : List D → En → Prop}
@[simp ↓] theorem i_revRg1 {we : EW} : wRevRg1 we ρ QI X = we ρ (fun r ρ1 => match r with
  | .dat (.int j) => (-(2 ^ 62) ≤ j ∧ j < 2 ^ 62) ∧ QI (rcD ((j.toNat : Int) - 1) (-1) j.toNat) ρ1
  | _ => False) X := id rfl
@[simp ↓] theorem i_rg3 {wa wb wc : EW} : wRg3 wa wb wc ρ QI X = wa ρ (fun r ρ1 => wb ρ1 (fun r' ρ2 => wc ρ2 (fun r'' ρ3 => match r, r', r'' with
  | .dat (.int i), .dat (.int j), .dat (.int c) => ∃ n : Nat, RgC i j c n ∧ QI (rcD i c n) ρ3
  | _, _, _ => False) X) X) X := id rfl
end
end DL

set_option Elab.async false
set_option linter.all false
set_option maxRecDepth 100000
set_option maxHeartbeats 4000000
set_option checkBinderAnnotations false
/-! DLq: x // y of ints of any size. -/
namespace DL
open PySem PySem.Spec PyProof.Rows L2
theorem ns_of {K : PySem.W.Frag} {h : Heap} {a : Addr} {mg : Str → Option Value} {n : Str} {v : Value} (X : K.In h) (G : h.Ns a mg) (e : PySem.W.nsIn K a n = some (some v)) : mg n = some v := by
  obtain ⟨o, es, ep, ho, hd, _, hf⟩ := G
  unfold PySem.W.nsIn at e
  split at e
  · rename_i c d es' n' sl q
    have := X _ _ q
    rw [ho] at this
    cases this
    cases hd
    split at e
    · rename_i en he
      cases e
      rw [← hf]
      unfold nsFind findBy
      rw [← Array.find?_toList, he]
      rfl
    · split at e <;> cases e
  · cases e
theorem ns_none {K : PySem.W.Frag} {h : Heap} {a : Addr} {mg : Str → Option Value} {n : Str} (X : K.In h) (G : h.Ns a mg) (e : PySem.W.nsIn K a n = some none) : mg n = none := by
  obtain ⟨o, es, ep, ho, hd, _, hf⟩ := G
  unfold PySem.W.nsIn at e
  split at e
  · rename_i c d es' n' sl q
    have := X _ _ q
    rw [ho] at this
    cases this
    cases hd
    split at e
    · cases e
    · rename_i he
      rw [← hf]
      unfold nsFind findBy
      rw [← Array.find?_toList, he]
      rfl
  · cases e
/-- a dict whose keys are texts -/
def strK (e : DictEntry) : Bool := match e.key with
  | .str _ _ => true
  | _ => false
def nsB (K : PySem.W.Frag) (a : Addr) : Bool := match K.lookup a with
  | some ⟨_, _, .dict es _, _⟩ => es.toList.all strK
  | _ => false
theorem nsB_ok {K : PySem.W.Frag} {h : Heap} {a : Addr} (X : K.In h) (e : nsB K a = true) : ∃ m, h.Ns a m := by
  unfold nsB at e
  split at e
  · rename_i c d es n sl q
    refine ⟨nsFind es, _, es, n, X _ _ q, rfl, fun x hx => ?_, fun _ => rfl⟩
    have := List.all_eq_true.mp e x (by simpa using hx)
    unfold strK at this
    split at this
    · rename_i y t q; exact ⟨y, t, q⟩
    · cases this
  · cases e
def modB (K : PySem.W.Frag) (a : Addr) : Bool := match K.lookup a with
  | some ⟨.type c, some d, _, _⟩ => decide (c = "module") && decide (d = builtinsNs)
  | _ => false
theorem modB_ok {K : PySem.W.Frag} {h : Heap} {a : Addr} (X : K.In h) (e : modB K a = true) : ∃ ob, h.get? a = some ob ∧ ob.cls = .type "module" ∧ ob.dict = some builtinsNs := by
  unfold modB at e
  split at e
  · rename_i c d dt sl q
    obtain ⟨h1, h2⟩ := He.ba e
    exact ⟨_, X _ _ q, congrArg Value.type (of_decide_eq_true h1), congrArg some (of_decide_eq_true h2)⟩
  · cases e
/-- what a division that goes by _pylong looks at -/
def seerB (K : PySem.W.Frag) : Bool := He.eqO (PySem.W.nsIn K cStatics "sys.audit-hooks") (some none) && (He.eqO (PySem.W.nsIn K cStatics "sys.dict") (some none) && (nsB K sysModules && (He.eqO (PySem.W.nsIn K sysModules "_pylong") (some none) &&
  (He.eqO (PySem.W.nsIn K mainGlobals "__builtins__") (some (some (.ref (He.ga K "__builtins__")))) && modB K (He.ga K "__builtins__")))))
theorem seer_of {K : PySem.W.Frag} {mg : Str → Option Value} {base : Heap} (e : seerB K = true) (M : Mod K mg base) : base.NoSeer := by
  obtain ⟨h1, e⟩ := He.ba e
  obtain ⟨h2, e⟩ := He.ba e
  obtain ⟨h3, e⟩ := He.ba e
  obtain ⟨h4, e⟩ := He.ba e
  obtain ⟨h5, h6⟩ := He.ba e
  obtain ⟨mc, nc, _⟩ := M.nolimit
  obtain ⟨mm, nm⟩ := nsB_ok M.kin h3
  obtain ⟨ob, o1, o2, o3⟩ := modB_ok M.kin h6
  exact ⟨⟨mc, nc, ns_none M.kin nc (He.eqO_ok h1), ns_none M.kin nc (He.eqO_ok h2)⟩, ⟨mm, nm, ns_none M.kin nm (He.eqO_ok h4)⟩, M.blt, ⟨mg, _, ob, M.glob, ns_of M.kin M.glob (He.eqO_ok h5), o1, o2, o3⟩⟩
/-- the program brings no files -/
class PlP (P : Program) : Prop where
  ht : P.given.tree = none
def StkOk (X : Cx) : Prop := ∃ env l, X.stack = env :: l ∧ env.scope.isGenerator = false ∧ env.scope.isCoroutine = false ∧ env.builtins = builtinsNs ∧ env.globals = mainGlobals
theorem op_fdivP {X : Cx} (ip : PlP X.prog) (hr : Room 40 X.A) (hs : StkOk X) (sr : seerB X.K = true) : OpR X (binaryOp .FloorDiv) (rI (fun _ j => j ≠ 0) fun i j => .int (i.fdiv j)) := by
  intro pins s σ H x y v u Q I rx ry h
  obtain ⟨i, j, rfl, rfl, hc, q⟩ := h
  obtain ⟨t, rfl⟩ := rx
  obtain ⟨t', rfl⟩ := ry
  obtain ⟨env, l, e1, e2, e3, e4, e5⟩ := hs
  have hp : PylongRoom (model X.prog X.w) X.A s := PylongRoom.of I.nolimit (by have := hr.dp; show X.A.depth + 100 < _; omega) (SeerAt.of ((seer_of sr I.mod).keeps I.bk) ip.ht (I.ok.frames.trans (congrArg some e1)) e2 e3 e4 e5)
  exact floordiv_int hc ⟨.int (i.fdiv j), H, I.tok _, ⟨_, rfl⟩, q⟩ (.inr hp)
def gDivP : G2
  | .int i, .int j, Q => j ≠ 0 ∧ Q (.dat (.int (i.fdiv j)))
  | _, _, _ => False
theorem ops_divP {K : PySem.W.Frag} : OpS K (rI (fun _ j => j ≠ 0) fun i j => .int (i.fdiv j)) gDivP := by
  intro B H x y d e Qw Q sub hx hy g p
  match d, e, g with
  | .int i, .int j, g =>
    cases hx; cases hy
    exact ⟨i, j, rfl, rfl, g.1, p.int g.2⟩
@[simp ↓] theorem g_divP {i j : Int} {Q : Sl → Prop} : gDivP (.int i) (.int j) Q = (j ≠ 0 ∧ Q (.dat (.int (i.fdiv j)))) := id rfl
/-! ### the head -/
def bmG (g : Addr → Option Obj) : List Addr := match g mainGlobals with
  | some ⟨_, _, .dict es _, _⟩ => es.toList.filterMap fun e => if e.key.isStr "__builtins__" then (match e.val with | .ref a => some a | _ => none) else none
  | _ => []
def asY (g : Addr → Option Obj) (n : Nat) : List Addr := He.asD g n ++ (cStatics :: sysModules :: bmG g)
def obsYG (n : Nat) (ex : PySem.W.Frag → Bool) (fa : List He.Fa) (fn : List He.DefD) (g : Addr → Option Obj) : AlX := obsX ex fa fn (He.frG g (asY g n))
def hookY (n : Nat) (ex : PySem.W.Frag → Bool) (fa : List He.Fa) (fn : List He.DefD) : PySem.W.Hook where
  α := AlX
  obs := fun s => obsYG n ex fa fn s.heap.get?
  val := fun _ => (true, He.valD fn)
  says := fun _ h => ∃ K : PySem.W.Frag, K.In h ∧ (ex K = true ∧ He.SaysD fa fn K)
  of := fun _ _ e => ⟨_, He.frG_in, congrArg (fun z : AlX => z.1) e, congrArg (fun z : AlX => z.2) e⟩
  keeps := fun _ _ _ ⟨K, hK, c⟩ k => ⟨K, PySem.W.Frag.In.keeps hK k, c⟩
theorem obsYG_eq {n : Nat} {ex : PySem.W.Frag → Bool} {fa : List He.Fa} {fn : List He.DefD} {g : Addr → Option Obj} {s : Shared} (h : ∀ a, g a = s.heap.get? a) : obsYG n ex fa fn g = (hookY n ex fa fn).obs s := by
  have e : g = s.heap.get? := funext h
  rw [e] <;> rfl
end DL

set_option Elab.async false
set_option linter.all false
set_option maxRecDepth 100000
set_option maxHeartbeats 4000000
set_option checkBinderAnnotations false
/-! DLr: own classes: fields, methods, making an instance. -/
namespace DL
open PySem L2
theorem ip_lookup {K : PySem.W.Frag} {B H : Hp} {f : Str} : ∀ {ns : List Str} {xs : List V} {ds : List D} {d : D}, IpAll K B H xs ds → (ns.zip ds).lookup f = some d → ∃ v, (ns.zip xs).lookup f = some v ∧ Ip K B H v d
  | [], _, _, _, _, e => by simp at e
  | n :: ns, _, _, _, .nil, e => by simp at e
  | n :: ns, _, _, d, .cons h t, e => by
    simp only [List.zip_cons_cons, List.lookup_cons] at e ⊢
    by_cases c : (f == n) = true
    · rw [c] at e ⊢
      cases e
      exact ⟨_, rfl, h⟩
    · have c : (f == n) = false := by simpa using c
      rw [c] at e ⊢
      exact ip_lookup t e
theorem ip_lookup_none {K : PySem.W.Frag} {B H : Hp} {f : Str} : ∀ {ns : List Str} {xs : List V} {ds : List D}, IpAll K B H xs ds → (ns.zip ds).lookup f = none → (ns.zip xs).lookup f = none
  | [], _, _, _, e => by simp
  | n :: ns, _, _, .nil, e => by simp
  | n :: ns, _, _, .cons h t, e => by
    simp only [List.zip_cons_cons, List.lookup_cons] at e ⊢
    by_cases c : (f == n) = true
    · rw [c] at e; cases e
    · have c : (f == n) = false := by simpa using c
      rw [c] at e ⊢
      exact ip_lookup_none t e
/-! ### e.f -/
def wFld (C : Addr) (f : Str) (we : EW) : EW := fun ρ Q X => we ρ (fun r ρ1 => match r with
  | .dat (.obj C' ns ds) => C' = C ∧ withOp ((ns.zip ds).lookup f) fun d => Q (.dat d) ρ1
  | _ => False) X
section
variable {X : Cx} {W : WX} {C : Addr} {f : Str} {e : Expr} {we : EW} {pos : Pos}
theorem de_fld (c : Cls X.K C) (n : NoAttr X.K C f) (he : DE X W e we) (hb : attributeBase e f X.env (eval e X.env) = eval e X.env := by rfl) : DE X W (.Attribute e f pos) (wFld C f we) := by
  obtain ⟨t, p, s⟩ := he.ok
  refine ⟨_, pe_fld p hb, fun B σ ρ H Qw Xw Q sr h hx q => ?_⟩
  refine s B σ ρ H _ Xw _ sr h hx fun v r B1 ρ1 H1 s1 t1 rv1 q1 => ?_
  cases r with
  | dat d =>
    cases d with
    | obj C' ns ds =>
      obtain ⟨rfl, q1⟩ := q1
      obtain ⟨d, ed, q1⟩ := withOp_some q1
      cases rv1 with
      | obj hh hl ia =>
        obtain ⟨v, hv, iv⟩ := ip_lookup ia ed
        exact ⟨_, _, _, _, v, rfl, hh, c, n, hv, q v (.dat d) B1 ρ1 H1 s1 t1 iv q1⟩
    | _ => exact q1.elim
  | _ => exact q1.elim
end
/-! ### o.m(..) -/
def wMeth (C : Addr) (m : Str) (g : FD) (wo : EW) (wa : AW) : EW := fun ρ Q X => wo ρ (fun r ρ1 => match r with
  | .dat (.obj C' ns ds) => (C' = C ∧ (ns.zip ds).lookup m = none) ∧ wa ρ1 (fun rs ρ2 => withCs ρ2 rs fun es => g (.obj C' ns ds :: es) (fun r => Q r ρ2) (fun c => X c ρ2)) X
  | _ => False) X
/-- .. with the errors let out -/
def tMethS (C : Addr) (m : Str) (sp : Sp) (E : St → XK) (ta : TE) (t : TA) : TE := fun σ H Q => ta σ H fun x H1 => ∃ a dx fs, x = .ref a ∧ H1 a = some (.ins C dx fs) ∧ fs.lookup m = none ∧ t σ H1 fun vs H2 => sp (x :: vs) H2 Q (E σ)
theorem sim_meth {K : PySem.W.Frag} {W : WX} {C : Addr} {m : Str} {n : Nat} {g : FD} {ta : TE} {wo : EW} {tr : TA} {wa : AW} (ho : SimE K W ta wo) (ha : SimA K W tr wa) (hf : ∀ ds Qw Xw, g ds Qw Xw → ds.length = n) : SimE K W (tMethS C m (spD K n g) (WE W) ta tr) (wMeth C m g wo wa) := by
  intro B σ ρ H Qw Xw Q s h hx q
  refine ho B σ ρ H _ Xw _ s h hx fun v r B1 ρ1 H1 s1 t1 rv1 q1 => ?_
  cases r with
  | dat d =>
    cases d with
    | obj C' ns ds =>
      obtain ⟨⟨rfl, hm⟩, q1⟩ := q1
      cases rv1 with
      | @obj a _ dx _ xs _ hh hl ia =>
        refine ⟨a, dx, _, rfl, hh, ip_lookup_none ia hm, ?_⟩
        refine ha B1 σ ρ1 H1 _ Xw _ s1 q1 (hx.lift s1 t1) fun vs rs B2 ρ2 H2 s2 t2 rv2 q2 => ?_
        obtain ⟨es, e1, q2⟩ := withCs_some q2
        have i0 : Ip K H2 H2 (.ref a) (.obj C' ns ds) := (Ip.obj hh hl ia : Ip K B1 H1 _ _).step s1 t2 |>.mono s2.sub (Tups.of (Same.refl _))
        refine ⟨H2, .obj C' ns ds :: es, _, _, Same.refl _, .cons i0 (IpAll.full s2.sub (rv2.rd s2 e1)), hf _ _ _ q2, q2, fun v r H' sm rr qq => ?_, fun c H' sm xx => ?_⟩
        · obtain ⟨B', s', t', rv⟩ := after_call s2 (s2.same sm) (Tr.same sm) rr
          exact q v r B' ρ2 H' s' (t1.trans s1 (t2.trans s2 t')) ((rv.early s2 t2).early s1 t1) qq
        · exact hx c B2 ρ2 H' (s2.same sm) (t1.trans s1 (t2.trans s2 (Tr.same sm))) xx
    | _ => exact q1.elim
  | _ => exact q1.elim
section
variable {X : Cx} {W : WX} {C f : Addr} {m : Str} {n k : Nat} {g : FD} {fd : FuncData} {ps : List Str} {o e : Expr} {es : List Expr} {wo : EW} {wa : AW} {pos apos : Pos} {pl : Sem Bool}
theorem de_meth (c : Cls X.K C) (hm : Meth X.K C m f) (F : FnOk X.prog X.w X.K X.mg X.base (L2.CX X.prog X.w) k f fd ps (spD X.K n g)) (hr : Room k X.A) (hb : Binds X.K fd ps []) (tk : Takes X W) (hf : ∀ ds Qw Xw, g ds Qw Xw → ds.length = n) (ho : DE X W o wo) (ha : DA X W (e :: es) wa)
    (hst : starEach (e :: es) X.env = (false, eval e X.env) :: starEach es X.env := by rfl) (hpl : (backTo pos (starEach es X.env)).any (·.1) = false := by rfl)
    (ht : eval (.Call (.Attribute o m apos) (e :: es) [] pos) X.env = (do
      let ov ← eval o X.env
      standAt apos.atName
      let (f, first) ← holding [ov] (getMethod ov m pl)
      callWith pos f first (backTo pos (starEach (e :: es) X.env)) (backToKw pos (keywordEach [] X.env))) := by rfl) : DE X W (.Call (.Attribute o m apos) (e :: es) [] pos) (wMeth C m g wo wa) := by
  obtain ⟨t1, p1, s1⟩ := ho.ok
  obtain ⟨t2, p2, s2⟩ := ha.ok
  refine ⟨_, ⟨fun pins s σ H Q I h => ?_⟩, sim_meth s1 s2 hf⟩
  refine PySem.W.methodCall_KW (pl := pl) (thn (p1.run pins s σ H _ I h) fun u s1 ⟨x, H1, I1, rx, a, dx, fs, ex, ea, l, q⟩ => ?_) ht
  cases ex
  have eu : u = Value.ref a := rx
  cases eu
  refine getmeth_ok I1 ea c hm l (PySem.W.callWith_K (first := [.ref a]) (h₀ := X.base) I.ok.mod.kin hm.kp (thn (p2.run pos pins s1 σ H1 _ I1 q) fun us s3 ⟨vs, H2, I2, r, q2⟩ => ⟨I2.kIn, ?_⟩) hst hpl)
  exact run_fnS (us := .ref a :: us) (vs := .ref a :: vs) F hr hb (passAt tk σ) I2 (.cons rfl r) q2
theorem de_meth0 (c : Cls X.K C) (hm : Meth X.K C m f) (F : FnOk X.prog X.w X.K X.mg X.base (L2.CX X.prog X.w) k f fd ps (spD X.K n g)) (hr : Room k X.A) (hb : Binds X.K fd ps []) (tk : Takes X W) (hf : ∀ ds Qw Xw, g ds Qw Xw → ds.length = n) (ho : DE X W o wo)
    (ht : eval (.Call (.Attribute o m apos) [] [] pos) X.env = (do
      let ov ← eval o X.env
      standAt apos.atName
      let (f, first) ← holding [ov] (getMethod ov m pl)
      callWith pos f first (backTo pos (starEach [] X.env)) (backToKw pos (keywordEach [] X.env))) := by rfl) : DE X W (.Call (.Attribute o m apos) [] [] pos) (wMeth C m g wo wNil) := by
  obtain ⟨t1, p1, s1⟩ := ho.ok
  refine ⟨_, ⟨fun pins s σ H Q I h => ?_⟩, sim_meth s1 sim_nil hf⟩
  refine PySem.W.methodCall_KW (pl := pl) (thn (p1.run pins s σ H _ I h) fun u s1 ⟨x, H1, I1, rx, a, dx, fs, ex, ea, l, q⟩ => ?_) ht
  cases ex
  have eu : u = Value.ref a := rx
  cases eu
  exact getmeth_ok I1 ea c hm l (PySem.W.callWith_K0 (first := [.ref a]) I1.kIn hm.kp (run_fnS (us := [.ref a]) (vs := [.ref a]) F hr hb (passAt tk σ) I1 (.cons rfl .nil) q))
end
/-! ### C(..) -/
abbrev FC := List D → (List D → Prop) → (Value → Prop) → Prop
/-- __init__ fills the fields ns, in order, with data that changes no more -/
def spC (K : PySem.W.Frag) (C : Addr) (ns : List Str) (n : Nat) (f : FC) : Sp := fun vs H Q E => ∃ (x dx : Addr) (vs' : List V) (B : Hp) (ds : List D) (Qw : List D → Prop) (Xw : Value → Prop), vs = .ref x :: vs' ∧ (H x = some (.ins C dx []) ∧ Same B H ∧ B x = none) ∧ IpAll K B H vs' ds ∧ ds.length + 1 = n ∧ f ds Qw Xw ∧
  (∀ fds xs H', (∀ b o, H b = some o → b ≠ x → H' b = some o) → H' x = some (.ins C dx (ns.zip xs)) → ns.length = xs.length → IpAll K H00 H' xs fds → D.nolists fds = true → Qw fds → Q .non H') ∧
  (∀ c H', (∀ b o, H b = some o → b ≠ x → H' b = some o) → Xw c → E c none H')
def wMake (C : Addr) (ns : List Str) (f : FC) (wa : AW) : EW := fun ρ Q X => wa ρ (fun rs ρ1 => withCs ρ1 rs fun ds => f ds (fun fds => Q (.dat (.obj C ns fds)) ρ1) (fun c => X c ρ1)) X
def tMakeS (C : Addr) (sp : Sp) (E : St → XK) (t : TA) : TE := fun σ H Q => t σ H fun vs H1 => ∀ x dx, H1 x = none → H1 dx = none → dx ≠ x → sp (.ref x :: vs) (upd (upd H1 dx (.own x)) x (.ins C dx [])) (fun v H2 => v = .non ∧ Q (.ref x) H2) (E σ)
theorem sim_make {K : PySem.W.Frag} {W : WX} {C : Addr} {ns : List Str} {n : Nat} {f : FC} {ta : TA} {wa : AW} (ha : SimA K W ta wa) (hf : ∀ ds Qw Xw, f ds Qw Xw → ds.length + 1 = n) : SimE K W (tMakeS C (spC K C ns n f) (WE W) ta) (wMake C ns f wa) := by
  intro B σ ρ H Qw Xw Q s h hx q
  refine ha B σ ρ H _ Xw _ s h hx fun vs rs B1 ρ1 H1 s1 t1 rv1 q1 => ?_
  obtain ⟨ds, e1, q1⟩ := withCs_some q1
  intro x dx hx0 hd0 hne
  have sm : Same H1 (upd (upd H1 dx (.own x)) x (.ins C dx [])) := fun b o e => by
    rw [upd_ne (ne_of_none e hx0), upd_ne (ne_of_none e hd0)]; exact e
  have keep : ∀ H' : Hp, (∀ b o, (upd (upd H1 dx (.own x)) x (.ins C dx [])) b = some o → b ≠ x → H' b = some o) → Same H1 H' := fun H' ext b o e => ext b o (sm b o e) (ne_of_none e hx0)
  refine ⟨x, dx, vs, H1, ds, _, _, rfl, ⟨upd_same, sm, hx0⟩, (IpAll.full s1.sub (rv1.rd s1 e1)).mono (Same.refl _) (Tups.of sm), hf _ _ _ q1, q1, fun fds xs H' ext hi hl ia nl qq => ⟨rfl, ?_⟩, fun c H' ext xx => ?_⟩
  · exact q (.ref x) (.dat (.obj C ns fds)) B1 ρ1 H' (s1.same (keep H' ext)) (t1.trans s1 (Tr.same (keep H' ext))) (.obj hi hl (ia.mono same00 (Tups.of (Same.refl _)))) qq
  · exact hx c B1 ρ1 H' (s1.same (keep H' ext)) (t1.trans s1 (Tr.same (keep H' ext))) xx
section
variable {X : Cx} {W : WX} {C f : Addr} {ns : List Str} {n k : Nat} {g : FC} {fd : FuncData} {ps : List Str} {x : Str} {e : Expr} {es : List Expr} {wa : AW} {pos p : Pos}
open PySem.Spec PyProof.Rows in
theorem de_make (M : Mk X.K C f) (F : FnOk X.prog X.w X.K X.mg X.base (L2.CX X.prog X.w) k f fd ps (spC X.K C ns n g)) (hr : Room (k + 1) X.A) (hg : Gl X x) (hm : X.mg x = some (.ref C)) (hb : Binds X.K fd ps []) (tk : Takes X W) (hf : ∀ ds Qw Xw, g ds Qw Xw → ds.length + 1 = n) (ha : DA X W (e :: es) wa)
    (hdb : (x == ("__debug__" : Str)) = false := by decide) (he : starEach (e :: es) X.env = (false, eval e X.env) :: starEach es X.env := by rfl) (hpl : (backTo pos (starEach es X.env)).any (·.1) = false := by rfl) : DE X W (.Call (.Name x p) (e :: es) [] pos) (wMake C ns g wa) := by
  obtain ⟨t, pa, sa⟩ := ha.ok
  refine ⟨_, ⟨fun pins s σ H Q I h => ?_⟩, sim_make sa hf⟩
  refine wpAny_Call_Name_kw (ld_glob I hg hm (PySem.W.callWith_K (h₀ := X.base) I.ok.mod.kin M.kp (thn (pa.run pos pins s σ H _ I h) fun us s1 ⟨vs, H1, J, r, q⟩ => ⟨J.kIn, ?_⟩) he hpl) hdb)
  have hx := passAt tk σ
  have q := q (s1.heap.objs.size + 1) s1.heap.objs.size (J.hok.fresh (Nat.le_succ _)) (J.hok.fresh (Nat.le_refl _)) (Nat.ne_of_lt (Nat.lt_succ_self _))
  have J2 := Inv.made (C := C) J
  have rr : Vals (V.ref (s1.heap.objs.size + 1) :: vs) (Value.ref (s1.heap.objs.size + 1) :: us) := .cons rfl r
  have hl : (Value.ref (s1.heap.objs.size + 1) :: us ++ ([] : List Value)).length = ps.length := by
    have e := rr.length
    rw [F.len _ _ _ _ q] at e
    simp only [List.append_nil]
    exact e.symm
  have hb2 := hb _ (Value.ref (s1.heap.objs.size + 1) :: us) J2.kIn hl
  rw [List.append_nil] at hb2
  refine wpAny_call (make_map (f := f) J.kIn M.makes M.init (beq_iff_eq.mp M.fn) (codeAny_mono (F.run _ X.stack _ _ ⟨Value.ref (s1.heap.objs.size + 1) :: us, []⟩ _ _ _ _ (hr.make C us []) (J2.env0.make C us []) hb2 rr q) fun ro s' hq' => ?_))
  cases ro with
  | error e => exact hx pins _ _ e s' J2 hq'
  | ok fl =>
    cases fl with
    | ret u =>
      obtain ⟨v, H', J3, rv, ev, q3⟩ := J2.after hq'
      cases ev
      exact ⟨rv, ⟨V.ref (s1.heap.objs.size + 1), H', J3, rfl, q3⟩⟩
    | _ => exact False.elim hq'
end
end DL

set_option Elab.async false
set_option linter.all false
set_option maxRecDepth 100000
set_option maxHeartbeats 4000000
/-! DLs: sorted(x) of any number: ints, tuples of ints; of a list, a tuple, a dict's keys, a dict's values. -/
namespace DLSort
open PySem PySem.Spec PyProof.Rows SrtO
section
variable {prog : Program} {w : World} {A : Around} {E : Value → Shared → Prop} {s : Shared}
/-- x is collected as vs -/
def Col (prog : Program) (w : World) (A : Around) (E : Value → Shared → Prop) (s : Shared) (x : Value) (vs : List Value) : Prop :=
  ∀ R : List Value → Shared → Prop, (∀ (h' : Heap) (tk : Nat), (∀ b o, s.heap.get? b = some o → h'.get? b = some o) → s.heap.objs.size < h'.objs.size → R vs { s with heap := h', toks := tk }) → wpAny (model prog w) A (collect x) R E s
theorem col_list {l : Addr} {vs : List Value} (hl : s.heap.IsList l vs.toArray) (hz : vs.length ≤ sizeLine) : Col prog w A E s (.ref l) vs := by
  intro R h
  refine collect_list hl (h _ s.toks (fun b o q => ?_) ?_) hz
  · have hlt : b < s.heap.objs.size := Heap.lt_size q
    rw [Heap.get?_update_ne _ _ _ _ (Nat.ne_of_lt hlt)]
    exact Heap.get?_push_of_some _ q
  · rw [Heap.size_update, size_push']; exact Nat.lt_succ_self _
theorem col_tuple {l : Addr} {vs : List Value} (hl : PyProof.Rows.IsTup s.heap l vs.toArray) (hsz : vs.length ≤ sizeLine) : Col prog w A E s (.ref l) vs := by
  intro R h
  obtain ⟨o, ho, hc, n, hd⟩ := id hl
  have fin : R vs { s with heap := (s.heap.push (seqObj "list" #[] 0)).update s.heap.objs.size (Obj.mapSeq (· ++ vs.toArray)) } := by
    refine h _ s.toks (fun b o q => ?_) ?_
    · have hlt : b < s.heap.objs.size := Heap.lt_size q
      rw [Heap.get?_update_ne _ _ _ _ (Nat.ne_of_lt hlt)]
      exact Heap.get?_push_of_some _ q
    · rw [Heap.size_update, size_push']; exact Nat.lt_succ_self _
  unfold collect
  refine wpAny_bind (wpAny_runValue (codeAny_builtin entry_proto_collect' ?_))
  show wpAny _ _ (do again (.builtin "list.__iadd__" ⟨[← newList [], .ref l], []⟩)) _ _ s
  refine wpAny_bind (wpAny_newList (wpAny_pure ⟨Code.quiet_builtin _ (by decide +kernel), codeAny_builtin entry_list_iadd' ?_⟩))
  show wpAny _ _ (Builtin.List.listExtendWith (.ref s.heap.objs.size) (.ref l) (.ref s.heap.objs.size)) _ _ { s with heap := s.heap.push (seqObj "list" #[] 0) }
  unfold Builtin.List.listExtendWith
  have ho' : (s.heap.push (seqObj "list" #[] 0)).get? l = some o := Heap.get?_push_of_some _ ho
  refine wpAny_bind (wpAny_typeOf (T := "tuple") ⟨o, ho', hc⟩ ?_)
  have ht : (Value.type "tuple" == Value.type "tuple") = true := by rfl
  rw [if_pos (by rw [ht]; simp)]
  refine wpAny_bind (listItems_at ho' hd ?_)
  refine wpAny_bind (listItems_at (xs := #[]) (n := 0) (Heap.get?_push_size _ rfl) rfl ?_)
  rw [if_neg (by simp)]
  refine wpAny_bind (listUpdate_at (xs := #[]) (n := 0) (Heap.get?_push_size _ rfl) rfl ?_ (Nat.zero_le _) (by show (#[] ++ vs.toArray).size ≤ sizeLine + 1; simp only [Array.size_append, List.size_toArray, List.length_nil]; omega))
  refine wpAny_pure ?_
  show wpAny (model prog w) A (do
      let o ← load s.heap.objs.size
      match o.data with
      | .seq xs _ => pure xs.toList
      | _ => unsupported "internal:collect") R E { s with heap := (s.heap.push (seqObj "list" #[] 0)).update s.heap.objs.size (Obj.mapSeq (· ++ vs.toArray)) }
  refine wpAny_bind (wpAny_load (get?_update_seq (Heap.get?_push_size _ rfl) _) ?_)
  show wpAny _ _ (pure ((#[] : Array Value) ++ vs.toArray).toList) R E _
  rw [show ((#[] : Array Value) ++ vs.toArray).toList = vs by simp]
  exact wpAny_pure fin
theorem col_kdl {T : String} {r d : Addr} {n : Nat} {P : Nat → Value → Prop} {OK : Heap → Prop} {vs : List Value} (K : PySem.W.KdlSrc prog w T r d n P OK) (hh : A.handled = none) (hok : OK s.heap) (hn : n ≤ sizeLine)
    (huniq : ∀ acc : Array Value, ItemsOf P acc n → acc.toList = vs) : Col prog w A E s (.ref r) vs := by
  intro R h
  unfold collect
  refine wpAny_bind (wpAny_runValue (codeAny_builtin F.entry_proto_collect ?_))
  rw [Around.under_plainId F.plain_proto_collect _]
  show wpAny _ A.in1 (newList [] >>= fun l => again (.builtin "list.__iadd__" ⟨[l, .ref r], []⟩)) _ _ s
  refine wpAny_bind (wpAny_newObj_type ?_)
  refine wpAny_pure ⟨plainId_quiet F.plain_list_iadd _, codeAny_builtin F.entry_list_iadd ?_⟩
  rw [Around.under_plainId F.plain_list_iadd _]
  show wpAny _ A.in1 (Builtin.List.listExtendWith (.ref s.heap.objs.size) (.ref r) (.ref s.heap.objs.size)) _ _ _
  have hS : (s.heap.push { cls := .type "list", data := .seq ([] : List Value).toArray }).get? s.heap.objs.size = some { cls := .type "list", data := .seq #[] 0 } := Heap.get?_push_size _ rfl
  have hlt := K.there _ hok
  refine wpAny_mono (PySem.W.kdl_extend (A := A) (R := fun rr s' => rr = .ok (.ret (.ref s.heap.objs.size)) ∧ ∃ (h' : Heap) (tk : Nat) (acc : Array Value) (c' : Nat), s' = { s with heap := h', toks := tk } ∧
      (∀ b o, s.heap.get? b = some o → h'.get? b = some o) ∧ h'.get? s.heap.objs.size = some { cls := .type "list", dict := none, data := .seq acc c', slots := #[] } ∧ ItemsOf P acc n)
    (s := { s with heap := s.heap.push { cls := .type "list", data := .seq ([] : List Value).toArray } }) K hh (K.keep _ _ hok fun b _ o e => Heap.get?_push_of_some _ e) s.heap.objs.size (Nat.ne_of_gt hlt.1) (Nat.ne_of_gt hlt.2) _ 0 hS
    (fun h' tk acc c' hk e hi => ⟨rfl, h', tk, acc, c', rfl, fun b o q => hk b o (Nat.ne_of_lt (Heap.lt_size q)) (Heap.get?_push_of_some _ q), e, hi⟩) hn) (fun fin s' h1 => ?_) (fun e s' h1 => ?_)
  · cases fin with
    | done f =>
      obtain ⟨e, h', tk, acc, c', rfl, hk, hS', hi⟩ := h1
      cases e
      show wpAny _ A (load s.heap.objs.size >>= _) _ _ _
      refine wpAny_bind (wpAny_load hS' (wpAny_pure ?_))
      rw [huniq acc hi]
      exact h h' tk hk (Heap.lt_size hS')
    | again c' =>
      refine ⟨h1.1, codeAny_mono h1.2 fun rr s'' hr' => ?_⟩
      obtain ⟨rfl, h', tk, acc, c', rfl, hk, hS', hi⟩ := hr'
      show wpAny _ A (load s.heap.objs.size >>= _) _ _ _
      refine wpAny_bind (wpAny_load hS' (wpAny_pure ?_))
      rw [huniq acc hi]
      exact h h' tk hk (Heap.lt_size hS')
  · exact absurd h1.1 (by simp)
/-- sorted(x) -/
theorem sorted_gen {x : Value} {vs : List Value} {ltv : Value → Value → Bool} {Q : Value → Shared → Prop} (O : Swo ltv) (hz : vs.length ≤ sizeLine) (hcol : Col prog w A.in1 E s x vs)
    (hS : 2 ≤ vs.length → ∀ (h₁ : Heap) (tk : Nat) (a : Addr), h₁.get? a = some (seqObj "list" vs.toArray 0) → (∀ b o, s.heap.get? b = some o → b ≠ a ∧ h₁.get? b = some o) → SortableO prog w A.in1.in1 { s with heap := h₁, toks := tk } a vs ltv)
    (h : ∀ (h' : Heap) (tk : Nat) (d : Addr) (out : List Value), Srtd ltv out → Stb ltv out vs → (∀ b o, s.heap.get? b = some o → h'.get? b = some o) → s.heap.objs.size ≤ d → (∃ n, h'.get? d = some (seqObj "list" out.toArray n)) → Q (.ref d) { s with heap := h', toks := tk }) :
    wpAny (model prog w) A (call (.builtin "sorted") [x]) Q E s := by
  refine Calls.call_function_entry kind_sorted plain_sorted entry_sorted (args_sorted1 _) ?_
  unfold Builtin.«sorted»
  refine wpAny_bind (m := checkCount "sorted" 1 1 _) (wpAny_pure ?_)
  refine wpAny_bind (hcol _ fun h' tk keep0 hlt0 => ?_)
  refine wpAny_bind (wpAny_newList ?_ hz)
  have hoL : (h'.push (seqObj "list" vs.toArray 0)).get? h'.objs.size = some (seqObj "list" vs.toArray 0) := Heap.get?_push_size _ rfl
  have keep : ∀ b o, s.heap.get? b = some o → b ≠ h'.objs.size ∧ (h'.push (seqObj "list" vs.toArray 0)).get? b = some o := fun b o q =>
    ⟨Nat.ne_of_lt (Heap.lt_size (keep0 b o q)), Heap.get?_push_of_some _ (keep0 b o q)⟩
  show wpAny _ _ _ _ _ { s with heap := h'.push (seqObj "list" vs.toArray 0), toks := tk }
  refine wpAny_bind (wpAny_holding (wpAny_call_entry slot_list_sort ⟨_, hoL, rfl⟩ entry_list_sort (list_sort_ord (s := { s with heap := h'.push (seqObj "list" vs.toArray 0), toks := tk }) O hoL hz (fun h2 => hS h2 _ _ _ hoL keep) fun out hs hb => ⟨_, rfl, ?_⟩) (args_list_sort _)))
  refine wpAny_pure ⟨_, rfl, ?_⟩
  obtain ⟨n, hn⟩ := sortedHeap_at (n := 0) (out := out.toArray) hoL
  refine h _ tk _ out hs hb (fun b o q => ?_) (Nat.le_of_lt hlt0) ⟨n, hn⟩
  have k := keep b o q
  rw [sortedHeap_old k.1 (Heap.lt_size k.2)]
  exact k.2
end
end DLSort

set_option Elab.async false
set_option linter.all false
set_option maxRecDepth 100000
set_option maxHeartbeats 4000000
/-! DLt: sorted(x), as rules. -/
namespace DLSort
open PySem PySem.Spec PyProof.Rows SrtO
theorem swo_rank (r : Value → Int) : Swo fun v u => decide (r v < r u) :=
  ⟨fun x y h => decide_eq_false (by have := of_decide_eq_true h; omega), fun x y z h1 h2 => decide_eq_false (by have := of_decide_eq_false h1; have := of_decide_eq_false h2; omega)⟩
section
variable {prog : Program} {w : World} {A : Around} {E : Value → Shared → Prop} {s : Shared}
theorem tups_sortable {a : Addr} {vs : List Value} {d : Nat} {B : Int} (hd : 1 ≤ d) (h2 : 2 ≤ vs.length) (x : TS.TupsOk s.heap d B vs) (ha : ∀ o, s.heap.get? a = some o → o.cls ≠ .type "tuple") (r : Value → Int) (hr : ∀ v ∈ vs, ∀ ns, TS.TupInts s.heap v ns → r v = TS.code B ns) :
    SortableO prog w A s a vs fun v u => decide (r v < r u) := by
  intro h' keep
  have kp : ∀ b o, s.heap.get? b = some o → o.cls = .type "tuple" → h'.get? b = some o := fun b o e c => keep b o (fun z => by subst z; exact ha o e c) e
  have x' : TS.TupsOk h' d B vs := x.keeps kp
  have hr' : ∀ v ∈ vs, ∀ ns, TS.TupInts h' v ns → r v = TS.code B ns := fun v hv ns t => by
    obtain ⟨ns0, t0, _⟩ := x v hv
    have e : ns = ns0 := t.ints.symm.trans (t0.keeps kp).ints
    rw [e]; exact hr v hv ns0 t0
  obtain ⟨fs, k, hl, hi⟩ := TS.firsts_of hd vs x'
  refine ⟨tuples' true, fun Q E hq => ?_, fun p q hp hq => ?_⟩
  · refine PySem.W.kat_kind (T := Value.type "int") k (by omega) (fun f hf => ?_) rfl ?_
    · obtain ⟨n, t, rfl⟩ := hi f hf
      exact PySem.W.Looks.of_pure rfl
    · have e : (Value.type "int" != Value.type "tuple") = true := by first | decide +kernel | rfl | decide
      rw [e]
      exact hq
  · obtain ⟨ns, tp, lp, bp⟩ := x' _ hp
    obtain ⟨ms, tq, lq, bq⟩ := x' _ hq
    have ep := hr' _ hp _ tp
    have eq2 := hr' _ hq _ tq
    show wpAny (model prog w) A (keyLt' (tuples' true) p.1 q.1) (fun b s' => s' = { s with heap := h' } ∧ b = decide (r p.1 < r q.1)) (fun _ _ => False) { s with heap := h' }
    rw [ep, eq2]
    obtain ⟨a, xs, e1, ⟨o, ho, hc, n, hdt⟩, i⟩ := tp
    obtain ⟨a', ys, e2, ⟨o', ho', hc', n', hdt'⟩, i'⟩ := tq
    rw [e1, e2]
    refine PySem.W.kat_lt (s := { s with heap := h' }) ho hdt ho' hdt' ?_
    have sz : decide (xs.size < ys.size) = false := by
      have l1 := i.length
      have l2 := i'.length
      rw [Array.length_toList] at l1 l2
      exact decide_eq_false (by omega)
    rw [sz]
    exact TS.lex_ints 0 i i' (by omega) bp bq ⟨rfl, rfl⟩
end
end DLSort

namespace L2
open PySem PySem.Spec PyProof.Rows DLSort
section
variable {X : Cx}
/-- a list or a tuple is collected -/
theorem col_seq {pins : List (Addr × Obj)} {s : Shared} {σ : St} {H : Hp} {a : Addr} {xs : List V} {A : Around} {E : Value → Shared → Prop} (I : Inv X pins σ H s) (h : SqL X.K H a xs ∨ SqT X.K H a xs) :
    ∃ its : List Value, Vals xs its ∧ its.length ≤ sizeLine ∧ Col X.prog X.w A E s (.ref a) its := by
  rcases h with h | h
  · obtain ⟨its, rv, hl, hz⟩ := I.list h
    have hz' : its.length ≤ sizeLine := by rw [← rv.length]; exact hz
    exact ⟨its, rv, hz', col_list hl.isList hz'⟩
  · obtain ⟨its, rv, hl, hz⟩ := I.tuple h
    have hz' : its.length ≤ sizeLine := by rw [← rv.length]; exact hz
    exact ⟨its, rv, hz', col_tuple hl hz'⟩
/-- sorted(x): ints -/
def rSrtI (K : PySem.W.Frag) : List V → Hp → VK → Prop := fun vs H Q => ∃ (a : Addr) (ns : List Int), vs = [V.ref a] ∧ (SqL K H a (ns.map V.int) ∨ SqT K H a (ns.map V.int)) ∧
  ∀ (ns' : List Int) (p : Addr), ns'.Perm ns → ns'.Pairwise (· ≤ ·) → H p = none → Q (.ref p) (upd H p (.lst (ns'.map V.int)))
theorem srtI_run {pins : List (Addr × Obj)} {s : Shared} {σ : St} {H : Hp} {x : Value} {ns : List Int} {its : List Value} {Q : VK} (I : Inv X pins σ H s) (rv : Vals (ns.map V.int) its) (hz : its.length ≤ sizeLine) (col : Col X.prog X.w X.A.in1 X.xe s x its)
    (q : ∀ (ns' : List Int) (p : Addr), ns'.Perm ns → ns'.Pairwise (· ≤ ·) → H p = none → Q (.ref p) (upd H p (.lst (ns'.map V.int)))) : wpAny (model X.prog X.w) X.A (call (.builtin "sorted") [x]) (EP X pins σ Q) X.xe s := by
  have hi := rv.ints
  refine sorted_gen SrtO.swo_int hz col (fun h2 h₁ tk a' _ _ => SrtO.ints_sortable hi h2) fun h' tk d out h1 h2 kp hd hn => ?_
  obtain ⟨k1, k2, k3⟩ := SrtO.ints_out hi h1 h2
  obtain ⟨n, hn⟩ := hn
  have hlen : ((out.map SrtO.iv).map V.int).length ≤ sizeLine := by
    have := rv.length
    rw [List.length_map] at this
    rw [List.length_map, k2.length_eq, this]
    exact hz
  exact ⟨.ref d, upd H d (.lst ((out.map SrtO.iv).map V.int)), I.laid (t' := tk) kp hd ⟨hlen, out, n, vals_of_ints k1, hn⟩, rfl, q _ _ k2 k3 (I.hok.fresh hd)⟩
theorem cr_srtI : CallR X (.builtin "sorted") (rSrtI X.K) := by
  intro pins s σ H vs us Q I r h
  obtain ⟨a, ns, rfl, hs, q⟩ := h
  obtain ⟨its, rv, hz, col⟩ := col_seq I hs
  rw [Vals.ref1 r]
  exact srtI_run I rv hz col q
/-- sorted(x): tuples of d ints each, below B -/
def Tks (K : PySem.W.Frag) (H : Hp) (d : Nat) (B : Int) (xs : List V) : Prop := ∀ x ∈ xs, ∃ t n, x = V.ref t ∧ SqT K H t (n.map V.int) ∧ n.length = d ∧ TS.Bd B n
def TkLe (K : PySem.W.Frag) (H : Hp) (B : Int) (x y : V) : Prop := ∀ t u n m, x = V.ref t → y = V.ref u → SqT K H t (n.map V.int) → SqT K H u (m.map V.int) → TS.code B n ≤ TS.code B m
theorem tupInts_sq {pins : List (Addr × Obj)} {s : Shared} {σ : St} {H : Hp} {t : Addr} {n : List Int} (I : Inv X pins σ H s) (h : SqT X.K H t (n.map V.int)) : TS.TupInts s.heap (.ref t) n := by
  obtain ⟨its, rv, hl, _⟩ := I.tuple h
  exact ⟨t, _, rfl, hl, by simpa using rv.ints⟩
theorem srtT_run {pins : List (Addr × Obj)} {s : Shared} {σ : St} {H : Hp} {x : Value} {xs : List V} {its : List Value} {d : Nat} {B : Int} {Q : VK} (I : Inv X pins σ H s) (rv : Vals xs its) (hz : its.length ≤ sizeLine) (col : Col X.prog X.w X.A.in1 X.xe s x its) (hd : 1 ≤ d) (tk : Tks X.K H d B xs)
    (q : ∀ (zs : List V) (p : Addr), zs.Perm xs → zs.Pairwise (TkLe X.K H B) → H p = none → Q (.ref p) (upd H p (.lst zs))) : wpAny (model X.prog X.w) X.A (call (.builtin "sorted") [x]) (EP X pins σ Q) X.xe s := by
  obtain ⟨e1, e2⟩ := refs_back rv fun x m => by
    obtain ⟨t, _, e, _⟩ := tk x m
    exact ⟨t, e⟩
  have ok : TS.TupsOk s.heap d B its := fun v hv => by
    obtain ⟨t, rfl⟩ := e2 v hv
    have hm : V.ref t ∈ xs := by rw [e1]; exact List.mem_map.mpr ⟨_, hv, rfl⟩
    obtain ⟨t', n, e, h1, h2, h3⟩ := tk _ hm
    cases e
    exact ⟨n, tupInts_sq I h1, h2, h3⟩
  refine sorted_gen (swo_rank fun v => TS.code B (TS.intsOf s.heap v)) hz col (fun h2 h₁ tk' a' ha kk => ?_) fun h' tk' dd out h1 h2 kp hdd hn => ?_
  · refine tups_sortable (s := { s with heap := h₁, toks := tk' }) hd h2 (ok.keeps fun b o e _ => (kk b o e).2) (fun o e c => ?_) _ fun v hv ns t => ?_
    · have e' : some o = some (seqObj "list" its.toArray 0) := e.symm.trans ha
      cases e'
      exact absurd (Value.type.inj c) (by decide)
    · obtain ⟨ns0, t0, _⟩ := ok v hv
      have e : ns = ns0 := t.ints.symm.trans (t0.keeps fun b o e _ => (kk b o e).2).ints
      rw [e]
      show TS.code B (TS.intsOf s.heap v) = _
      rw [t0.ints]
  · have h3 : ∀ u ∈ out, ∃ a, u = Value.ref a := fun u hu => e2 u (h2.perm.mem_iff.mp hu)
    obtain ⟨n, hn⟩ := hn
    have hp : (out.map backV).Perm xs := by rw [e1]; exact h2.perm.map backV
    refine ⟨.ref dd, upd H dd (.lst (out.map backV)), I.laid (t' := tk') kp hdd ⟨?_, out, n, vals_back h3, hn⟩, rfl, q _ dd hp ?_ (I.hok.fresh hdd)⟩
    · rw [hp.length_eq, rv.length]; exact hz
    · refine List.pairwise_map.mpr (List.Pairwise.imp_of_mem (fun {u v} hu hv h => ?_) h1)
      intro t t' n m et et' ht ht'
      obtain ⟨a, rfl⟩ := h3 u hu
      obtain ⟨a', rfl⟩ := h3 v hv
      cases et; cases et'
      have i1 := (tupInts_sq I ht).ints
      have i2 := (tupInts_sq I ht').ints
      have := of_decide_eq_false h
      rw [i1, i2] at this
      omega
def rSrtT (K : PySem.W.Frag) : List V → Hp → VK → Prop := fun vs H Q => ∃ (a : Addr) (xs : List V) (d : Nat) (B : Int), vs = [V.ref a] ∧ (SqL K H a xs ∨ SqT K H a xs) ∧ 1 ≤ d ∧ Tks K H d B xs ∧
  ∀ (zs : List V) (p : Addr), zs.Perm xs → zs.Pairwise (TkLe K H B) → H p = none → Q (.ref p) (upd H p (.lst zs))
theorem cr_srtT : CallR X (.builtin "sorted") (rSrtT X.K) := by
  intro pins s σ H vs us Q I r h
  obtain ⟨a, xs, d, B, rfl, hs, hd, tk, q⟩ := h
  obtain ⟨its, rv, hz, col⟩ := col_seq I hs
  rw [Vals.ref1 r]
  exact srtT_run I rv hz col hd tk q
/-- sorted(d), d a dict whose keys are tuples of ints -/
def rSrtD (K : PySem.W.Frag) : List V → Hp → VK → Prop := fun vs H Q => ∃ (a : Addr) (kvs : List (List Key × V)) (d : Nat) (B : Int), vs = [V.ref a] ∧ Rd H a (.dT kvs) ∧ 1 ≤ d ∧ (∀ kv ∈ kvs, ∃ n : List Int, kv.1 = n.map Sum.inl ∧ n.length = d ∧ TS.Bd B n) ∧
  ∀ (bs : List Addr) (zs : List V) (p : Addr), IsKeys H kvs bs → zs.Perm (bs.map V.ref) → zs.Pairwise (TkLe K H B) → H p = none → Q (.ref p) (upd H p (.lst zs))
theorem cr_srtD (hc : X.calm = true) : CallR X (.builtin "sorted") (rSrtD X.K) := by
  intro pins s σ H vs us Q I r h
  obtain ⟨a, kvs, d, B, rfl, hs, hd, tk, q⟩ := h
  rw [Vals.ref1 r]
  obtain ⟨z, hsm, ks, pr, o, es, ep, ho, hx, hdt, he, hn⟩ := (show ObjOk X.prog X.w H s.heap a (.dT kvs) from hs.ok I.hok)
  have l1 : es.size = ks.length := size_of_entries he
  have l2 : kvs.length = ks.length := Paired.length pr
  have col : Col X.prog X.w X.A.in1 X.xe s (.ref a) ((ks.map fun x => x.2.1).map Value.ref) := by
    refine col_kdl (kdl_raw hsm hx hdt) (I.ok.hd hc) ho (by omega) fun acc it => ?_
    have ea : acc.toList = ks.map fun x => Value.ref x.2.1 := by
      have hl : acc.toList.length = ks.length := by rw [Array.length_toList, it.1]; exact l1
      apply List.ext_getElem?
      intro j
      rw [List.getElem?_map]
      cases hj : acc.toList[j]? with
      | none =>
        have h1 := List.getElem?_eq_none_iff.mp hj
        rw [List.getElem?_eq_none (by omega)]
        all_goals rfl
      | some v =>
        obtain ⟨en, hen, hv⟩ := it.2 j v (by rw [← Array.getElem?_toList]; exact hj)
        have qe := entry_at he j
        rw [hen] at qe
        cases hb : ks[j]? with
        | none =>
          rw [hb] at qe
          exact nomatch (show some en = none from qe)
        | some b =>
          rw [hb] at qe
          have e2 : en = entryOfKey (tupleKind (mixKind X.prog X.w)) b := Option.some.inj qe
          rw [hv, e2]
          all_goals rfl
    rw [ea, List.map_map]
    all_goals rfl
  have ik := isKeys_of pr
  refine srtT_run I (vals_refs _) (by rw [List.length_map, List.length_map]; omega) col hd ?_ fun zs p h1 h2 h3 => q _ zs p ik h1 h2 h3
  intro x hx
  obtain ⟨b, hb, rfl⟩ := List.mem_map.mp hx
  obtain ⟨j, hj⟩ := List.mem_iff_getElem?.mp hb
  have key : ∀ {l : List (List Key × V)} {m : List Addr}, IsKeys H l m → ∀ b ∈ m, ∃ kv ∈ l, H b = some (.tup (kv.1.map kV)) := by
    intro l m q
    induction q with
    | nil => intro b hb; cases hb
    | @cons p c ps cs hq t ih =>
      intro b hb
      rcases List.mem_cons.mp hb with e | hb
      · subst e; exact ⟨p, List.mem_cons_self, hq⟩
      · obtain ⟨kv, h1, h2⟩ := ih b hb
        exact ⟨kv, List.mem_cons_of_mem _ h1, h2⟩
  obtain ⟨kv, hm, hh⟩ := key ik b hb
  obtain ⟨n, e1, e2, e3⟩ := tk kv hm
  refine ⟨b, n, rfl, .inl (.inl ?_), e2, e3⟩
  rw [hh, e1, List.map_map]
  rfl
end
end L2

set_option Elab.async false
set_option linter.all false
set_option maxRecDepth 100000
set_option maxHeartbeats 4000000
set_option checkBinderAnnotations false
/-! DLu: data: sorted, min of a list, tuple.index, or of lists. -/
namespace DL
open PySem L2
def tupI (n : List Int) : D := .tup (n.map .int)
@[simp] theorem intsOf_map (n : List Int) : intsOf (n.map D.int) = some n := by
  induction n with
  | nil => rfl
  | cons a n ih => rw [List.map_cons, intsOf, ih]; rfl
theorem intsOf_eq : ∀ {ds : List D} {n : List Int}, intsOf ds = some n → ds = n.map D.int
  | [], n, e => by cases e; rfl
  | .int b :: ds, n, e => by
    cases q : intsOf ds with
    | none => rw [intsOf, q] at e; cases e
    | some l => rw [intsOf, q] at e; cases e; rw [intsOf_eq q]; rfl
  | .non :: _, _, e => by cases e
  | .bl _ :: _, _, e => by cases e
  | .str _ :: _, _, e => by cases e
  | .tup _ :: _, _, e => by cases e
  | .lst _ :: _, _, e => by cases e
  | .adr _ :: _, _, e => by cases e
  | .ty _ :: _, _, e => by cases e
  | .fl _ :: _, _, e => by cases e
  | .obj _ _ _ :: _, _, e => by cases e
  | .tpx _ :: _, _, e => by cases e
  | .exc _ :: _, _, e => by cases e
def seqD : D → Option (List D)
  | .lst ds => some ds
  | .tup ds => some ds
  | .fl ds => some ds
  | .tpx ds => some ds
  | _ => none
def untup : D → List Int
  | .tup es => (intsOf es).getD []
  | _ => []
@[simp] theorem untup_tupI (n : List Int) : untup (tupI n) = n := by show (intsOf (n.map D.int)).getD [] = n; rw [intsOf_map]; rfl
def SrtP (ds : List D) (Q : Sl → Prop) : Prop := (∃ ns, ds = ns.map D.int ∧ ∀ ns' : List Int, ns'.Perm ns → ns'.Pairwise (· ≤ ·) → Q (.own (ns'.map .int))) ∨
  ∃ (ts : List (List Int)) (d : Nat) (B : Int), ds = ts.map tupI ∧ 1 ≤ d ∧ (∀ t ∈ ts, t.length = d ∧ TS.Bd B t) ∧ ∀ ts' : List (List Int), ts'.Perm ts → ts'.Pairwise (fun a b => TS.code B a ≤ TS.code B b) → Q (.own (ts'.map tupI))
def gSrt : GN
  | [d], Q => withOp (seqD d) fun ds => SrtP ds Q
  | _, _ => False
section
variable {K : PySem.W.Frag} {B H : Hp}
theorem seqD_sq {v : V} {d : D} {ds : List D} (h : RdB K B H v d) (e : seqD d = some ds) : ∃ a xs, v = .ref a ∧ (SqL K H a xs ∨ SqT K H a xs) ∧ IpAll K B H xs ds := by
  cases d with
  | lst es => cases e; obtain ⟨a, xs, rfl, h1, h2⟩ := h; exact ⟨a, xs, rfl, .inl h1, h2⟩
  | tup es => cases e; cases h with | tup a b => exact ⟨_, _, rfl, .inr a.sq, b⟩
  | fl es => cases e; cases h with | fl a b => exact ⟨_, _, rfl, .inl (.inl (.inr ⟨_, a⟩)), b⟩
  | tpx es => cases e; cases h with | tpx a _ b => exact ⟨_, _, rfl, .inr (.inl (.inr ⟨_, a⟩)), b⟩
  | _ => cases e
theorem IpAll.perm {xs zs : List V} (p : zs.Perm xs) : ∀ {ds : List D}, IpAll K B H xs ds → ∃ ds', IpAll K B H zs ds' ∧ ds'.Perm ds := by
  induction p with
  | nil => intro ds h; cases h; exact ⟨[], .nil, .nil⟩
  | cons x p ih =>
    intro ds h
    cases h with
    | cons a b => obtain ⟨ds', h1, h2⟩ := ih b; exact ⟨_, .cons a h1, h2.cons _⟩
  | swap x y l =>
    intro ds h
    cases h with
    | cons a b => cases b with | cons c d => exact ⟨_, .cons c (.cons a d), .swap ..⟩
  | trans p q ih1 ih2 =>
    intro ds h
    obtain ⟨d1, h1, h2⟩ := ih2 h
    obtain ⟨d2, h3, h4⟩ := ih1 h1
    exact ⟨d2, h3, h4.trans h2⟩
theorem tupI_sq {v : V} {n : List Int} (h : Ip K B H v (tupI n)) : ∃ t, v = .ref t ∧ TupA K H t (n.map V.int) := by
  cases h with
  | tup a b =>
    have e := ints_vs b (intsOf_map n)
    subst e
    exact ⟨_, rfl, a⟩
theorem tkle {Bd : Int} : ∀ {ts : List (List Int)} {zs : List V}, IpAll K B H zs (ts.map tupI) → zs.Pairwise (TkLe K H Bd) → ts.Pairwise (fun a b => TS.code Bd a ≤ TS.code Bd b)
  | [], _, _, _ => .nil
  | t :: ts, _, .cons h r, p => by
    obtain ⟨p1, p2⟩ := List.pairwise_cons.mp p
    refine List.pairwise_cons.mpr ⟨fun u hu => ?_, tkle r p2⟩
    obtain ⟨j, hj⟩ := List.mem_iff_getElem?.mp hu
    obtain ⟨v, hv, iv⟩ := r.get (i := j) (d := tupI u) (by rw [List.getElem?_map, hj]; rfl)
    obtain ⟨a, rfl, ha⟩ := tupI_sq h
    obtain ⟨b, rfl, hb⟩ := tupI_sq iv
    exact p1 _ (List.mem_of_getElem? hv) a b t u rfl rfl ha.sq hb.sq
theorem tks_of {d : Nat} {Bd : Int} {ts : List (List Int)} {xs : List V} (ia : IpAll K B H xs (ts.map tupI)) (h : ∀ t ∈ ts, t.length = d ∧ TS.Bd Bd t) : Tks K H d Bd xs := fun x hx => by
  obtain ⟨j, hj⟩ := List.mem_iff_getElem?.mp hx
  obtain ⟨e, he, ie⟩ := ia.getV hj
  rw [List.getElem?_map] at he
  obtain ⟨t, ht, rfl⟩ := Option.map_eq_some_iff.mp he
  obtain ⟨a, rfl, ha⟩ := tupI_sq ie
  exact ⟨a, t, rfl, ha.sq, h t (List.mem_of_getElem? ht)⟩
theorem perm_tupI {ts : List (List Int)} {ds : List D} (p : ds.Perm (ts.map tupI)) : ∃ ts' : List (List Int), ts'.Perm ts ∧ ds = ts'.map tupI := by
  refine ⟨ds.map untup, ?_, ?_⟩
  · have := p.map untup
    rw [List.map_map] at this
    have e : ts.map (untup ∘ tupI) = ts := by
      conv => rhs; rw [← List.map_id ts]
      exact List.map_congr_left fun n _ => untup_tupI n
    rw [e] at this
    exact this
  · rw [List.map_map]
    conv => lhs; rw [← List.map_id ds]
    refine List.map_congr_left fun d hd => ?_
    obtain ⟨n, _, rfl⟩ := List.mem_map.mp (p.mem_iff.mp hd)
    show tupI n = tupI (untup (tupI n))
    rw [untup_tupI]
theorem cs_srt : CallS K (fun xs H Q => rSrtI K xs H Q ∨ rSrtT K xs H Q) gSrt := by
  intro B H xs ds Qw Q sub hr g p
  match ds, hr, g with
  | [d], hr, g =>
    obtain ⟨x, rfl, h⟩ := rd1 hr
    obtain ⟨es, e, g⟩ := withOp_some g
    obtain ⟨a, xs, rfl, hs, ia⟩ := seqD_sq h e
    rcases g with ⟨ns, rfl, g⟩ | ⟨ts, d, Bd, rfl, hd, ht, g⟩
    · have ev := ints_vs ia (intsOf_map ns)
      subst ev
      exact .inl ⟨a, ns, rfl, hs, fun ns' q hp hq hh => p.lst (IpAll.ints ns') (g ns' hp hq) q hh⟩
    · refine .inr ⟨a, xs, d, Bd, rfl, hs, hd, tks_of ia ht, fun zs q hp hq hh => ?_⟩
      obtain ⟨ds', i1, i2⟩ := ia.perm hp
      obtain ⟨ts', h1, rfl⟩ := perm_tupI i2
      exact p.lst i1 (g ts' h1 (tkle i1 hq)) q hh
end
theorem cr_srt {X : Cx} : CallR X (.builtin "sorted") (fun xs H Q => rSrtI X.K xs H Q ∨ rSrtT X.K xs H Q) := cr_srtI.or cr_srtT
/-! ### min, max of a list of ints -/
def gMinL : GN
  | [d], Q => withOp (seqD d) fun ds => withOp (intsOf ds) fun ns => (∃ es, d = .lst es) ∧ 0 < ns.length ∧ ∀ m, m ∈ ns → (∀ y ∈ ns, m ≤ y) → Q (.dat (.int m))
  | _, _ => False
theorem cs_minL {K : PySem.W.Frag} : CallS K (rMin K) gMinL := by
  intro B H xs ds Qw Q sub hr g p
  match ds, hr, g with
  | [d], hr, g =>
    obtain ⟨x, rfl, h⟩ := rd1 hr
    obtain ⟨es, e, g⟩ := withOp_some g
    obtain ⟨ns, e2, ⟨es', ed⟩, hl, g2⟩ := withOp_some g
    subst ed
    cases e
    obtain ⟨a, xs, rfl, h1, h2⟩ := h
    have ev := ints_vs h2 e2
    subst ev
    exact ⟨a, ns, rfl, h1, hl, fun m h3 h4 => p.int (g2 m h3 h4)⟩
/-! ### x or y, x a list -/
def wOrL (wa wb : EW) : EW := fun ρ Q X => wa ρ (fun a ρ1 => withC ρ1 a fun d => withOp (seqD d) fun ds => if ds = [] then wb ρ1 Q X else Q a ρ1) X
section
variable {X : Cx} {W : WX} {a b : Expr} {rest : List Expr} {wa wb : EW} {pos : Pos}
theorem de_orL (ha : DE X W a wa) (hb : DE X W (.BoolOp .Or (b :: rest) pos) wb) : DE X W (.BoolOp .Or (a :: b :: rest) pos) (wOrL wa wb) := by
  obtain ⟨ta, pa, sa⟩ := ha.ok
  obtain ⟨tb, pb, sb⟩ := hb.ok
  refine ⟨_, pe_orT pa pb, fun B σ ρ H Qw Xw Q s h hx q => ?_⟩
  refine sa B σ ρ H _ Xw _ s h hx fun v r1 B1 ρ1 H1 s1 t1 rv1 q1 => ?_
  obtain ⟨d, e1, q1⟩ := withC_some q1
  obtain ⟨ds, e2, q1⟩ := withOp_some q1
  obtain ⟨p, xs, rfl, hs, ia⟩ := seqD_sq (rv1.rd s1 e1) e2
  refine ⟨!xs.isEmpty, ?_, ?_⟩
  · rcases hs with hs | hs
    · exact .inl ⟨_, hs, rfl⟩
    · exact .inr (.inl ⟨_, hs, rfl⟩)
  · rw [← ia.isEmpty]
    cases ds with
    | nil =>
      rw [if_pos rfl] at q1
      exact sb B1 σ ρ1 H1 Qw Xw Q s1 q1 (hx.lift s1 t1) fun v r B2 ρ2 H2 s2 t2 rv q2 => q v r B2 ρ2 H2 s2 (t1.trans s1 t2) (rv.early s1 t1) q2
    | cons d0 ds =>
      rw [if_neg (by simp)] at q1
      exact q _ r1 _ _ _ s1 t1 rv1 q1
end
end DL

set_option Elab.async false
set_option linter.all false
set_option maxRecDepth 100000
set_option maxHeartbeats 4000000
set_option checkBinderAnnotations false
/-! DLv: dicts of one's own, their keys tuples of ints. -/
namespace DL
open PySem L2
def isIntV : Value → Bool
  | .int _ _ => true
  | _ => false
/-- no tuple of the written part is one of ints, one at least -/
def noTupB (K : PySem.W.Frag) : Bool := K.all fun p => match p.2.data with
  | .seq its _ => !decide (p.2.cls = .type "tuple") || its.isEmpty || !its.toList.all isIntV
  | _ => true
theorem lookup_mem {K : PySem.W.Frag} {a : Addr} {o : Obj} (h : K.lookup a = some o) : (a, o) ∈ K := by
  induction K with
  | nil => cases h
  | cons p K ih =>
    rw [List.lookup_cons] at h
    by_cases e : (a == p.1) = true
    · rw [e] at h
      cases h
      have e := beq_iff_eq.mp e
      subst e
      exact List.mem_cons_self
    · have e : (a == p.1) = false := by simpa using e
      rw [e] at h
      exact List.mem_cons_of_mem _ (ih h)
theorem noTup {K : PySem.W.Frag} (hK : noTupB K = true) {a : Addr} {n : List Int} (hn : n ≠ []) (h : KTu K a (n.map V.int)) : False := by
  rcases h with (h | ⟨o, h⟩) | ⟨o, its, k, hk, hc, hs, hz, r⟩
  · cases h
  · cases h
  · have q := List.all_eq_true.mp hK _ (lookup_mem hk)
    simp only [hs, hc] at q
    have l := r.length
    have e1 : its.isEmpty = false := by
      have l1 : n.length = its.toList.length := by simpa using l
      rw [Array.length_toList] at l1
      cases e : its.isEmpty with
      | false => rfl
      | true =>
        have e := Array.isEmpty_iff_size_eq_zero.mp e
        exact absurd (List.eq_nil_of_length_eq_zero (l1.trans e)) hn
    have e2 : its.toList.all isIntV = true := by
      have hi := r.ints
      clear e1 l r hs hk q
      generalize its.toList = l at hi
      clear hn
      induction hi with
      | nil => rfl
      | cons n t h ih => rw [List.all_cons]; simp [isIntV, ih]
    rw [e1, e2] at q
    simp at q
theorem tracked {K : PySem.W.Frag} {H : Hp} (hK : noTupB K = true) {a : Addr} {n : List Int} (hn : n ≠ []) (h : TupA K H a (n.map V.int)) : H a = some (.tup (n.map V.int)) := h.elim id fun z => (noTup hK hn z).elim
theorem kT_kV (k : List Int) : (kT k).map kV = k.map V.int := by
  unfold kT
  rw [List.map_map]
  rfl
theorem kT_inj {k l : List Int} (h : kT k = kT l) : k = l := by
  unfold kT at h
  induction k generalizing l with
  | nil => cases l with
    | nil => rfl
    | cons => cases h
  | cons a k ih => cases l with
    | nil => cases h
    | cons b l =>
      rw [List.map_cons, List.map_cons, List.cons.injEq] at h
      rw [Sum.inl.inj h.1, ih h.2]
/-- the key that d is -/
def keyOf : D → Option (List Int)
  | .tup es => match intsOf es with
    | some (a :: n) => some (a :: n)
    | _ => none
  | _ => none
theorem keyOf_tupI {n : List Int} (h : n ≠ []) : keyOf (tupI n) = some n := by
  show (match intsOf (n.map D.int) with | some (a :: n) => some (a :: n) | _ => none) = _
  rw [intsOf_map]
  cases n with
  | nil => exact absurd rfl h
  | cons a n => rfl
theorem keyOf_some {d : D} {k : List Int} (h : keyOf d = some k) : d = tupI k ∧ k ≠ [] := by
  cases d with
  | tup es =>
    cases e : intsOf es with
    | none => rw [keyOf, e] at h; cases h
    | some n =>
      cases n with
      | nil => rw [keyOf, e] at h; cases h
      | cons a n =>
        rw [keyOf, e] at h
        cases h
        exact ⟨by rw [intsOf_eq e]; rfl, by simp⟩
  | _ => cases h
def putD (kvs : List (List Int × D)) (k : List Int) (d : D) : List (List Int × D) := if kvs.any (fun e => decide (e.1 = k)) then kvs.map (fun e => if e.1 = k then (e.1, d) else e) else kvs ++ [(k, d)]
def hasD (kvs : List (List Int × D)) (k : List Int) : Bool := kvs.any fun e => decide (e.1 = k)
section
variable {K : PySem.W.Frag} {B H : Hp}
theorem any_zip (k : List Int) : ∀ {kvs : List (List Int × D)} {vs : List V}, vs.length = kvs.length → (((kvs.map fun e => kT e.1).zip vs).any fun kv => decide (kv.1 = kT k)) = hasD kvs k
  | [], [], _ => rfl
  | [], _ :: _, h => by simp at h
  | _ :: _, [], h => by simp at h
  | e :: kvs, v :: vs, h => by
    have ih := any_zip k (kvs := kvs) (vs := vs) (by simpa using h)
    have this : decide (kT e.1 = kT k) = decide (e.1 = k) := decide_eq_decide.mpr ⟨kT_inj, fun z => by rw [z]⟩
    unfold hasD at ih ⊢
    rw [List.map_cons, List.zip_cons_cons, List.any_cons, List.any_cons, this, ih]
theorem map_zip (k : List Int) {v : V} {d : D} (hv : Ip K B H v d) : ∀ {kvs : List (List Int × D)} {vs : List V}, IpAll K B H vs (kvs.map (·.2)) → ∃ vs', (((kvs.map fun e => kT e.1).zip vs).map fun kv => if kv.1 = kT k then (kv.1, v) else kv) = (((kvs.map (fun e => if e.1 = k then (e.1, d) else e)).map fun e => kT e.1).zip vs') ∧ IpAll K B H vs' ((kvs.map (fun e => if e.1 = k then (e.1, d) else e)).map (·.2))
  | [], _, .nil => ⟨[], rfl, .nil⟩
  | e :: kvs, v0 :: _, .cons h t => by
    obtain ⟨vs', h1, h2⟩ := map_zip k hv t
    by_cases c : e.1 = k
    · refine ⟨v :: vs', ?_, ?_⟩
      · simp only [List.map_cons, List.zip_cons_cons]
        rw [if_pos (by rw [c]), if_pos c, h1]
      · simp only [List.map_cons]
        rw [if_pos c]
        exact .cons hv h2
    · have c' : ¬ kT e.1 = kT k := fun z => c (kT_inj z)
      refine ⟨v0 :: vs', ?_, ?_⟩
      · simp only [List.map_cons, List.zip_cons_cons]
        rw [if_neg c', if_neg c, h1]
      · simp only [List.map_cons]
        rw [if_neg c]
        exact .cons h h2
theorem putK_zip (k : List Int) {v : V} {d : D} (hv : Ip K B H v d) {kvs : List (List Int × D)} {vs : List V} (ia : IpAll K B H vs (kvs.map (·.2))) : ∃ vs', putK ((kvs.map fun e => kT e.1).zip vs) (kT k) v = (((putD kvs k d).map fun e => kT e.1).zip vs') ∧ IpAll K B H vs' ((putD kvs k d).map (·.2)) := by
  have hl : vs.length = kvs.length := by rw [ia.length, List.length_map]
  have ea := any_zip k hl
  unfold putK putD
  rw [ea]
  unfold hasD
  by_cases c : (kvs.any fun e => decide (e.1 = k)) = true
  · rw [if_pos c, if_pos c]
    exact map_zip k hv ia
  · rw [if_neg c, if_neg c]
    refine ⟨vs ++ [v], ?_, ?_⟩
    · rw [List.map_append, List.zip_append (by rw [List.length_map, hl])]
      rfl
    · rw [List.map_append]
      exact ia.append (.cons hv .nil)
theorem val_isSome (k : List Int) {kvs : List (List Int × D)} {vs : List V} (hl : vs.length = kvs.length) : (valV ((kvs.map fun e => kT e.1).zip vs) (kT k)).isSome = hasD kvs k := by
  rw [← valV_any, any_zip k hl]
theorem isKeys_tupI : ∀ {kvs : List (List Int × D)} {vs : List V} {bs : List Addr}, vs.length = kvs.length → IsKeys H ((kvs.map fun e => kT e.1).zip vs) bs → IpAll K B H (bs.map V.ref) (kvs.map fun e => tupI e.1)
  | [], [], _, _, h => by cases h; exact .nil
  | [], _ :: _, _, h, _ => by simp at h
  | _ :: _, [], _, h, _ => by simp at h
  | e :: kvs, v :: vs, _, h, p => by
    cases p with
    | cons h1 t =>
      have h1 : H _ = some (.tup ((kT e.1).map kV)) := h1
      rw [kT_kV] at h1
      exact .cons (.tup (xs := e.1.map V.int) (.inl h1) (IpAll.ints e.1)) (isKeys_tupI (by simpa using h) t)
end
end DL

set_option Elab.async false
set_option linter.all false
set_option maxRecDepth 100000
set_option maxHeartbeats 4000000
set_option checkBinderAnnotations false
/-! DLw: dicts of one's own: {}, {k: v}, in, d[k] = v, list(d), sorted(d). -/
namespace DL
open PySem L2
def dicAt (t : Bool) (ρ : En) (i : Nat) : Option (List (List Int × D)) := match ρ[i]? with
  | some (some (.dic kvs)) => if kvs.t = t then some kvs.l else none
  | _ => none
theorem dicAt_some {t : Bool} {ρ : En} {i : Nat} {kvs : List (List Int × D)} (h : dicAt t ρ i = some kvs) : ρ[i]? = some (some (.dic ⟨t, kvs⟩)) := by
  unfold dicAt at h
  split at h
  · rename_i d e
    obtain ⟨t', l⟩ := d
    by_cases c : t' = t
    · subst c
      rw [if_pos rfl] at h
      cases h
      exact e
    · rw [if_neg c] at h; cases h
  · cases h
theorem SR.dic {K : PySem.W.Frag} {B H : Hp} {σ : St} {ρ : En} {i : Nat} {kvs : List (List Int × D)} (s : SR K B σ ρ H) (h : dicAt true ρ i = some kvs) : ∃ p vs, σ[i]? = some (some (.ref p)) ∧ B p = none ∧ H p = some (.dT ((kvs.map fun e => kT e.1).zip vs)) ∧ IpAll K B H vs (kvs.map (·.2)) := by
  obtain ⟨v, hv, p, vs, rfl, h1, h2, h3⟩ := s.slot i _ (dicAt_some h)
  exact ⟨p, vs, hv, h1, h2, h3⟩
def wDNew : EW := fun ρ Q _ => Q (.dic ⟨true, []⟩) ρ
def wDIn (neg : Bool) (i : Nat) (wk : EW) : EW := fun ρ Q X => wk ρ (fun r ρ1 => match r with
  | .dat d => withOp (keyOf d) fun k => withOp (dicAt true ρ1 i) fun kvs => Q (.dat (.bl (neg != hasD kvs k))) ρ1
  | _ => False) X
def wDPut (i : Nat) (wk wv : EW) : SW := fun E ρ => wv ρ (fun r ρ1 => match r with
  | .dat d => isOwn ρ1[i]? = true ∧ wk ρ1 (fun rk ρ2 => match rk with
    | .dat dk => withOp (keyOf dk) fun k => withOp (dicAt true ρ2 i) fun kvs => kvs.length < sizeLine ∧ E.nx (ρ2.set i (some (.dic ⟨true, putD kvs k d⟩)))
    | _ => False) E.ex
  | _ => False) E.ex
def wDList (i : Nat) : EW := fun ρ Q _ => withOp (dicAt true ρ i) fun kvs => Q (.own (kvs.map fun e => tupI e.1)) ρ
def wDSort (i : Nat) : EW := fun ρ Q _ => withOp (dicAt true ρ i) fun kvs => ∃ (d : Nat) (B : Int), (1 ≤ d ∧ ∀ e ∈ kvs, e.1.length = d ∧ TS.Bd B e.1) ∧ ∀ ts : List (List Int), ts.Perm (kvs.map (·.1)) → ts.Pairwise (fun a b => TS.code B a ≤ TS.code B b) → Q (.own (ts.map tupI)) ρ
def wDisp1 (wk wv : EW) : EW := fun ρ Q X => wk ρ (fun r ρ1 => wv ρ1 (fun r' ρ2 => match r, r' with
  | .dat dk, .dat d => withOp (keyOf dk) fun k => Q (.dic ⟨true, [(k, d)]⟩) ρ2
  | _, _ => False) X) X
section
variable {K : PySem.W.Frag} {W : WX}
theorem sim_dnew : SimE K W tDNewT wDNew := fun B σ ρ H Qw Xw Q s h hx q p hp => by
  have sm : Same H (upd H p (.dT [])) := same_new hp
  have rv : RvV K B H (upd H p (.dT [])) (.ref p) (.dic ⟨true, []⟩) := ⟨p, [], rfl, hp, upd_same, .nil⟩
  exact q (.ref p) (.dic ⟨true, []⟩) B ρ _ (s.same sm) (Tr.same sm) (rv.rv s sm) h
theorem sim_din (nt : noTupB K = true) (i : Nat) {tk : TE} {wk : EW} (hk : SimE K W tk wk) : SimE K W (tDIn tk (tVar i)) (wDIn false i wk) ∧ SimE K W (tDNotIn tk (tVar i)) (wDIn true i wk) := by
  refine ⟨?_, ?_⟩
  all_goals
    intro B σ ρ H Qw Xw Q s h hx q
    refine hk B σ ρ H _ Xw _ s h hx fun v r B1 ρ1 H1 s1 t1 rv1 q1 => ?_
    cases r with
    | dat d =>
      obtain ⟨k, ek, qa⟩ := withOp_some q1
      obtain ⟨kvs, ed, qb⟩ := withOp_some qa
      clear q1 qa
      obtain ⟨rfl, hn⟩ := keyOf_some ek
      obtain ⟨t, rfl, ht⟩ := tupI_sq rv1
      have ht := tracked nt hn ht
      rw [← kT_kV] at ht
      obtain ⟨p, vs, hp, _, hh, ia⟩ := s1.dic ed
      have hl : vs.length = kvs.length := by rw [ia.length, List.length_map]
      refine ⟨_, hp, p, _, rfl, DGet.t hh ht, ?_⟩
      rw [val_isSome k hl]
      refine q _ _ B1 ρ1 H1 s1 t1 ?_ qb
      revert qb
      cases hasD kvs k <;> exact fun _ => .bl _
    | _ => exact q1.elim
theorem sim_dput (nt : noTupB K = true) (i : Nat) {tk tv : TE} {wk wv : EW} (hk : SimE K W tk wk) (hv : SimE K W tv wv) : SimS K W (sDPut (tVar i) tk tv) (wDPut i wk wv) := by
  intro H0 B0 L B σ ρ H E Ew f h n r b c x
  refine hv B σ ρ H _ _ _ f.toSR h (xw f x) fun v rr B1 ρ1 H1 s1 t1 rv q => ?_
  have f1 := f.step s1 t1
  have g1 := t1.gr f.toSR
  cases rr with
  | dat d =>
    obtain ⟨ho, q⟩ := q
    obtain ⟨sl, e, ht⟩ := isOwn_some ho
    obtain ⟨u, hu, _⟩ := s1.slot i sl e
    refine ⟨u, hu, ?_⟩
    refine hk B1 σ ρ1 H1 _ _ _ s1 q (xw f1 (fun c B9 σ9 ρ9 H9 f9 g9 => x c B9 σ9 ρ9 H9 f9 (g1.trans g9))) fun vk rk B2 ρ2 H2 s2 t2 rvk q2 => ?_
    have f2 := f1.step s2 t2
    cases rk with
    | dat dk =>
      obtain ⟨k, ek, qa⟩ := withOp_some q2
      obtain ⟨kvs, ed, hz, qb⟩ := withOp_some qa
      clear q2 qa
      obtain ⟨rfl, hn⟩ := keyOf_some ek
      obtain ⟨t, rfl, htt⟩ := tupI_sq rvk
      have htt := tracked nt hn htt
      rw [← kT_kV] at htt
      obtain ⟨p, vs, hp, nb, hh, ia⟩ := s2.dic ed
      have hl : vs.length = kvs.length := by rw [ia.length, List.length_map]
      have eu : u = .ref p := Option.some.inj (Option.some.inj (hu.symm.trans hp))
      subst eu
      have iv : Ip K B2 H2 v d := Ip.step s1 t2 rv
      obtain ⟨vs', e1, ia'⟩ := putK_zip k iv ia
      refine ⟨p, _, rfl, DPut.t hh htt (by rw [List.length_zip, List.length_map, hl]; omega), ?_⟩
      rw [e1]
      have ho2 : isOwn ρ2[i]? = true := by rw [dicAt_some ed]; rfl
      obtain ⟨s3, t3⟩ := s2.mutG (H' := upd H2 p (.dT (((putD kvs k d).map fun e => kT e.1).zip vs'))) (sl' := .dic ⟨true, putD kvs k d⟩) ho2 hp (fun b o e hb => by rw [upd_ne hb]; exact e) rfl (fun ds z => by rw [dicAt_some ed] at z; cases z) fun tu => ⟨p, vs', rfl, nb, upd_same, ia'.mono (Same.refl _) tu⟩
      exact n B2 σ _ _ (f2.step s3 t3) ((g1.trans (t2.gr s1)).trans (t3.gr s2)) qb
    | _ => exact q2.elim
  | _ => exact q.elim
theorem sim_dlist (i : Nat) : SimE K W (tCB (fun xs H Q => ∃ d kvs, xs = [V.ref d] ∧ Rd H d (.dT kvs) ∧ ∀ p bs, H p = none → IsKeys H kvs bs → Q (.ref p) (upd H p (.lst (bs.map V.ref)))) (tCons (tVar i) tNil)) (wDList i) := by
  intro B σ ρ H Qw Xw Q s h hx q
  obtain ⟨kvs, ed, q1⟩ := withOp_some h
  obtain ⟨p, vs, hp, nb, hh, ia⟩ := s.dic ed
  have hl : vs.length = kvs.length := by rw [ia.length, List.length_map]
  refine ⟨_, hp, p, _, rfl, .inl hh, fun l bs hl' ik => ?_⟩
  have sm : Same H (upd H l (.lst (bs.map V.ref))) := same_new hl'
  have rv : RvV K B H (upd H l (.lst (bs.map V.ref))) (.ref l) (.own (kvs.map fun e => tupI e.1)) := ⟨l, _, rfl, hl', upd_same, (isKeys_tupI hl ik).mono (Same.refl _) (Tups.of sm)⟩
  exact q _ _ B ρ _ (s.same sm) (Tr.same sm) (rv.rv s sm) q1
theorem sim_dsort (i : Nat) : SimE K W (tCB (rSrtD K) (tCons (tVar i) tNil)) (wDSort i) := by
  intro B σ ρ H Qw Xw Q s h hx q
  obtain ⟨kvs, ed, d, Bd, ⟨hd, ht⟩, q1⟩ := withOp_some h
  obtain ⟨p, vs, hp, nb, hh, ia⟩ := s.dic ed
  have hl : vs.length = kvs.length := by rw [ia.length, List.length_map]
  refine ⟨_, hp, p, _, d, Bd, rfl, .inl hh, hd, fun kv hkv => ?_, fun bs zs l ik hpm hpw hl' => ?_⟩
  · obtain ⟨e, he, e2⟩ := List.mem_map.mp ((List.of_mem_zip (a := kv.1) (b := kv.2) hkv).1)
    exact ⟨e.1, e2.symm, ht e he⟩
  · have ib : IpAll K B H (bs.map V.ref) ((kvs.map (·.1)).map tupI) := by
      rw [List.map_map]; exact isKeys_tupI hl ik
    obtain ⟨ds', i1, i2⟩ := ib.perm hpm
    obtain ⟨ts', h1, rfl⟩ := perm_tupI i2
    have sm : Same H (upd H l (.lst zs)) := same_new hl'
    have rv : RvV K B H (upd H l (.lst zs)) (.ref l) (.own (ts'.map tupI)) := ⟨l, _, rfl, hl', upd_same, i1.mono (Same.refl _) (Tups.of sm)⟩
    exact q _ _ B ρ _ (s.same sm) (Tr.same sm) (rv.rv s sm) (q1 ts' h1 (tkle i1 hpw))
end
end DL

set_option Elab.async false
set_option linter.all false
set_option maxRecDepth 100000
set_option maxHeartbeats 4000000
set_option checkBinderAnnotations false
/-! DLx: {k: v}; the derivations for dicts. -/
namespace DL
open PySem PySem.Spec PyProof.Rows L2
def tDisp1 (tk tv : TE) : TE := fun σ H Q => ∀ p, H p = none → tk σ (upd H p (.dT [])) fun x H1 => tv σ H1 fun y H2 => H2 p = some (.dT []) ∧ ∃ b k, x = .ref b ∧ H2 b = some (.tup (k.map kV)) ∧ Q (.ref p) (upd H2 p (.dT [(k, y)]))
theorem pe_disp1 {X : Cx} {k v : Expr} {tk tv : TE} {pos : Pos} (hu : X.A.units + 1 < cLine) (hk : PE X k tk) (hv : PE X v tv) : PE X (.Dict [some k] [v] pos) (tDisp1 tk tv) := by
  refine ⟨fun pins s σ H Q I q => ?_⟩
  have hn := I.hok.fresh (Nat.le_refl s.heap.objs.size)
  have I1 := I.laid (a := s.heap.objs.size) (o := .dT []) (h' := s.heap.push { cls := .type "dict", data := .dict #[] }) (t' := s.toks) (fun _ _ q => Heap.get?_push_of_some _ q) (Nat.le_refl _) (dt_empty s.heap I.big)
  rw [arm_eval_Dict, zip_pairTrees [some k] [v] X.env pos rfl rfl, dictDisplay_pairs (pairTrees [some k] [v] X.env pos) (by simp [pairTrees]) (by simp [pairTrees])]
  refine wpAny_bind (wpAny_standAt (wpAny_bind ?_))
  unfold subDict
  refine wpAny_bind (wpAny_alloc ?_)
  refine wpAny_bind (wpAny_holding ?_)
  rw [if_pos (by simp [pairTrees])]
  refine wpAny_bind (pairTrees_cons_walk (thn (hk.run pins _ σ _ _ I1 (q _ hn)) fun u s1 ⟨x, H1, I2, rx, q1⟩ => thn (hv.run pins s1 σ H1 _ I2 q1) fun w2 s2 ⟨y, H2, I3, ry, q2⟩ => pairTrees_nil_walk ?_))
  obtain ⟨hp, b, kk, rfl, hb, q2⟩ := q2
  cases (show u = Value.ref b from rx)
  obtain ⟨z, hd, xs, rel, dd⟩ := dt_of I3.hok hp
  have e0 : xs = [] := by cases rel; rfl
  subst e0
  refine wpAny_holding ?_
  rw [List.forIn_cons]
  refine wpAny_bind (wpAny_bind (wpAny_bind (wpAny_dictSet_heap (knd := tupleKind (mixKind X.prog X.w)) (by first | exact hu | exact Nat.lt_of_succ_lt hu) (key_of I3.hok hb) dd (hsz := by simp) fun h' dd' hs => wpAny_pure ?_)))
  dsimp only
  rw [List.forIn_nil]
  refine wpAny_pure (wpAny_pure (wpAny_pure (wpAny_pure ?_)))
  obtain ⟨q, es, ep, hq, h2, h3, h4, _, h5⟩ := dd'
  refine ⟨.ref s.heap.objs.size, _, ?_, rfl, q2⟩
  refine d_write I3 (by rw [hp]; exact True.intro) hs ⟨q, hq⟩ ⟨?_, hd, _, (rel.put kk hb ry).keeps fun c ys ec => ?_, q, es, ep, hq, h2, h3, h4, h5⟩
  · rw [sizeLine_eq]; simp
  · rw [upd_ne (ne_of ec hp (fun z => nomatch z))]
    exact ec
section
variable {K : PySem.W.Frag} {W : WX}
/-- something of nobody's is changed -/
theorem SR.chg {B H H' : Hp} {σ : L2.St} {ρ : En} {p : Addr} {u : HO} (s : SR K B σ ρ H) (hp : H p = some u) (hm : mutO u = true) (nb : B p = none) (no : ¬ OwnAt σ ρ p) (ext : ∀ b o, H b = some o → b ≠ p → H' b = some o) : SR K B σ ρ H' where
  len := s.len
  sub := fun b o e => ext b o (s.sub b o e) (ne_of_none e nb)
  slot := fun i sl h => by
    have tu : Tups H H' := tups_at hp hm ext
    obtain ⟨v, hv, r⟩ := s.slot i sl h
    refine ⟨v, hv, ?_⟩
    cases sl with
    | dat d => exact Ip.mono (Same.refl B) tu r
    | own ds => obtain ⟨q, vs, rfl, b, c, dd⟩ := r; exact ⟨q, vs, rfl, b, ext _ _ c (fun z => no ⟨i, by rw [h]; rfl, z ▸ hv⟩), dd.mono (Same.refl B) tu⟩
    | inn ds => obtain ⟨q, vs, rfl, b, c, dd⟩ := r; exact ⟨q, vs, rfl, b, ext _ _ c (fun z => no ⟨i, by rw [h]; rfl, z ▸ hv⟩), dd.mono (Same.refl B) tu⟩
    | bor i => exact r.elim
    | dic kvs => obtain ⟨q, vs, rfl, b, c, dd⟩ := r; exact ⟨q, vs, rfl, b, ext _ _ c (fun z => no ⟨i, by rw [h]; rfl, z ▸ hv⟩), dd.mono (Same.refl B) tu⟩
  inj := s.inj
theorem sim_disp1 (nt : noTupB K = true) {tk tv : TE} {wk wv : EW} (hk : SimE K W tk wk) (hv : SimE K W tv wv) : SimE K W (tDisp1 tk tv) (wDisp1 wk wv) := by
  intro B σ ρ H Qw Xw Q s h hx q p hp
  have sm : Same H (upd H p (.dT [])) := same_new hp
  have s0 := s.same sm
  have t0 : Tr σ B ρ H B ρ (upd H p (.dT [])) := Tr.same sm
  have no : ¬ OwnAt σ ρ p := fun z => by obtain ⟨o, e, _⟩ := s.own z; rw [hp] at e; cases e
  have nb : B p = none := Same.bnone s.sub hp
  refine hk B σ ρ _ _ Xw _ s0 h (hx.lift s0 t0) fun v r B1 ρ1 H1 s1 t1 rv1 q1 => ?_
  refine hv B1 σ ρ1 H1 _ Xw _ s1 q1 ((hx.lift s0 t0).lift s1 t1) fun v2 r2 B2 ρ2 H2 s2 t2 rv2 q2 => ?_
  have t12 := t1.trans s1 t2
  have hp2 : H2 p = some (.dT []) := t12.ext p _ upd_same no
  have no2 : ¬ OwnAt σ ρ2 p := fun z => no (t12.ownAt.mp z)
  have nb2 : B2 p = none := by
    cases e : B2 p with
    | none => rfl
    | some o =>
      exfalso
      rcases t12.bnew p (by rw [e]; simp) with z | z
      · exact z nb
      · rw [upd_same] at z; cases z
  refine ⟨hp2, ?_⟩
  cases r with
  | dat dk =>
    cases r2 with
    | dat d =>
      obtain ⟨k, ek, qb⟩ := withOp_some q2
      clear q2
      have rk : Ip K B2 H2 v dk := Ip.step s1 t2 rv1
      obtain ⟨e1, hn⟩ := keyOf_some ek
      rw [e1] at rk
      obtain ⟨t, rfl, ht⟩ := tupI_sq rk
      have ht := tracked nt hn ht
      rw [← kT_kV] at ht
      refine ⟨t, kT k, rfl, ht, ?_⟩
      have ext : ∀ b o, H2 b = some o → b ≠ p → (upd H2 p (.dT [(kT k, v2)])) b = some o := fun b o e hb => by rw [upd_ne hb]; exact e
      have s3 := s2.chg hp2 rfl nb2 no2 ext
      have t3 : Tr σ B ρ H B2 ρ2 (upd H2 p (.dT [(kT k, v2)])) := ⟨fun b o e n => ext b o (t12.ext b o (sm b o e) n) (ne_of_none e hp), t12.bex, fun b hb => (t12.bnew b hb).imp id fun z => by
        by_cases hbp : b = p
        · subst hbp; exact hp
        · rw [upd_ne hbp] at z; exact z, t12.shp, t12.shi⟩
      exact q (.ref p) (.dic ⟨true, [(k, d)]⟩) B2 ρ2 _ s3 t3 ⟨p, [v2], rfl, hp, nb2, upd_same, .cons (Ip.mono (Same.refl _) (tups_at hp2 rfl ext) rv2) .nil, no2⟩ qb
    | _ => exact q2.elim
  | _ => exact q2.elim
end
section
variable {X : Cx} {W : WX} {e k v : Expr} {wk wv : EW} {x : Str} {pos p p2 : Pos}
theorem de_dnew : DE X W (.Dict [] [] pos) wDNew := ⟨_, pe_dnewT, sim_dnew⟩
theorem de_disp1 (nt : noTupB X.K = true) (hu : X.A.units + 65 < cLine) (hk : DE X W k wk) (hv : DE X W v wv) : DE X W (.Dict [some k] [v] pos) (wDisp1 wk wv) := by
  obtain ⟨t, pk, sk⟩ := hk.ok
  obtain ⟨t2, pv, sv⟩ := hv.ok
  exact ⟨_, pe_disp1 (by omega) pk pv, sim_disp1 nt sk sv⟩
theorem de_din (nt : noTupB X.K = true) (hu : X.A.units + 65 < cLine) (i : Nat) (hk : DE X W k wk) (hN : X.N[i]? = some x := by rfl) (hv : Vis X.env.scope x := by first | exact Or.inl rfl | exact Or.inr (Or.inl rfl) | exact Or.inr (Or.inr rfl)) (hd : (x == ("__debug__" : Str)) = false := by decide)
    (hcd : (x == ("__classdict__" : Str)) = false := by decide) (hm : behindInMarks .In (.Name x p) = false := by rfl) : DE X W (.Compare k [.In] [.Name x p] pos) (wDIn false i wk) := by
  obtain ⟨t, pk, sk⟩ := hk.ok
  exact ⟨_, pe_cmp (pc_din (by omega) pk (pe_var hN hv hd hcd)) hm, (sim_din nt i sk).1⟩
theorem de_dnotin (nt : noTupB X.K = true) (hu : X.A.units + 65 < cLine) (i : Nat) (hk : DE X W k wk) (hN : X.N[i]? = some x := by rfl) (hv : Vis X.env.scope x := by first | exact Or.inl rfl | exact Or.inr (Or.inl rfl) | exact Or.inr (Or.inr rfl)) (hd : (x == ("__debug__" : Str)) = false := by decide)
    (hcd : (x == ("__classdict__" : Str)) = false := by decide) (hm : behindInMarks .NotIn (.Name x p) = false := by rfl) : DE X W (.Compare k [.NotIn] [.Name x p] pos) (wDIn true i wk) := by
  obtain ⟨t, pk, sk⟩ := hk.ok
  exact ⟨_, pe_cmp (pc_dnotin (by omega) pk (pe_var hN hv hd hcd)) hm, (sim_din nt i sk).2⟩
theorem dt_din (nt : noTupB X.K = true) (hu : X.A.units + 65 < cLine) (i : Nat) (hk : DE X W k wk) (hN : X.N[i]? = some x := by rfl) (hv : Vis X.env.scope x := by first | exact Or.inl rfl | exact Or.inr (Or.inl rfl) | exact Or.inr (Or.inr rfl)) (hd : (x == ("__debug__" : Str)) = false := by decide)
    (hcd : (x == ("__classdict__" : Str)) = false := by decide) (hm : behindInMarks .In (.Name x p) = false := by rfl) : DT X W (.Compare k [.In] [.Name x p] pos) (wTb (wDIn false i wk)) := by
  obtain ⟨t, pk, sk⟩ := hk.ok
  exact ⟨_, pt_cmp (pc_din (by omega) pk (pe_var hN hv hd hcd)) hm, sim_trub (sim_din nt i sk).1⟩
theorem dt_dnotin (nt : noTupB X.K = true) (hu : X.A.units + 65 < cLine) (i : Nat) (hk : DE X W k wk) (hN : X.N[i]? = some x := by rfl) (hv : Vis X.env.scope x := by first | exact Or.inl rfl | exact Or.inr (Or.inl rfl) | exact Or.inr (Or.inr rfl)) (hd : (x == ("__debug__" : Str)) = false := by decide)
    (hcd : (x == ("__classdict__" : Str)) = false := by decide) (hm : behindInMarks .NotIn (.Name x p) = false := by rfl) : DT X W (.Compare k [.NotIn] [.Name x p] pos) (wTb (wDIn true i wk)) := by
  obtain ⟨t, pk, sk⟩ := hk.ok
  exact ⟨_, pt_cmp (pc_dnotin (by omega) pk (pe_var hN hv hd hcd)) hm, sim_trub (sim_din nt i sk).2⟩
theorem ds_dput (nt : noTupB X.K = true) (hu : X.A.units + 65 < cLine) (i : Nat) (hk : DE X W k wk) (hv : DE X W v wv) (hN : X.N[i]? = some x := by rfl) (hvx : Vis X.env.scope x := by first | exact Or.inl rfl | exact Or.inr (Or.inl rfl) | exact Or.inr (Or.inr rfl)) (hd : (x == ("__debug__" : Str)) = false := by decide)
    (hcd : (x == ("__classdict__" : Str)) = false := by decide) (hs : swapsWith v (some (.Subscript (.Name x p) k p2)) pos.line X.env = pure false := by rfl) : DS X W (.Assign [.Subscript (.Name x p) k p2] v pos) (wDPut i wk wv) := by
  obtain ⟨t, pk, sk⟩ := hk.ok
  obtain ⟨t2, pv, sv⟩ := hv.ok
  exact ⟨_, ps_dput (by omega) (pe_var hN hvx hd hcd) pk pv hs, sim_dput nt i sk sv⟩
theorem de_dlist (hc : X.calm = true) (hg : Gl X "list") (hm : X.mg "list" = none) (i : Nat) (hN : X.N[i]? = some x := by rfl) (hv : Vis X.env.scope x := by first | exact Or.inl rfl | exact Or.inr (Or.inl rfl) | exact Or.inr (Or.inr rfl)) (hd : (x == ("__debug__" : Str)) = false := by decide)
    (hcd : (x == ("__classdict__" : Str)) = false := by decide) (hs : starEach [.Name x p2] X.env = (false, eval (.Name x p2) X.env) :: starEach [] X.env := by rfl) : DE X W (.Call (.Name "list" p) [.Name x p2] [] pos) (wDList i) :=
  ⟨_, pe_callTy (call_list_dT hc) hg hm (by decide +kernel) (pa_cons (pe_var hN hv hd hcd) pa_nil hs) (by decide) (by decide) hs rfl, sim_dlist i⟩
theorem de_dsort (hc : X.calm = true) (hg : Gl X "sorted") (hm : X.mg "sorted" = none) (i : Nat) (hN : X.N[i]? = some x := by rfl) (hv : Vis X.env.scope x := by first | exact Or.inl rfl | exact Or.inr (Or.inl rfl) | exact Or.inr (Or.inr rfl)) (hd : (x == ("__debug__" : Str)) = false := by decide)
    (hcd : (x == ("__classdict__" : Str)) = false := by decide) (hs : starEach [.Name x p2] X.env = (false, eval (.Name x p2) X.env) :: starEach [] X.env := by rfl) : DE X W (.Call (.Name "sorted" p) [.Name x p2] [] pos) (wDSort i) :=
  ⟨_, pe_callB (cr_srtD hc) hg hm (by decide +kernel) (pa_cons (pe_var hN hv hd hcd) pa_nil hs) (by decide) (by decide) hs rfl, sim_dsort i⟩
end
end DL

set_option Elab.async false
set_option linter.all false
set_option maxRecDepth 100000
set_option maxHeartbeats 4000000
set_option checkBinderAnnotations false
/-! DLy: dicts of one's own with int keys: {}, d[k] = v, sorted(d.values()). -/
namespace DL
open PySem PySem.Spec PyProof.Rows L2
def tSortVals (td : TE) : TE := fun σ H Q => td σ H fun x H1 => ∃ a kvs is, x = V.ref a ∧ H1 a = some (.dK kvs) ∧ kvs.map (·.2) = is.map V.int ∧ ∀ (ns' : List Int) (p : Addr), ns'.Perm is → ns'.Pairwise (· ≤ ·) → H1 p = none → Q (.ref p) (upd H1 p (.lst (ns'.map V.int)))
theorem kv_vals : ∀ {kvs : List (Key × V)} {vs : List (Key × Value)}, KV kvs vs → Vals (kvs.map (·.2)) (vs.map (·.2)) := by
  intro kvs vs r
  unfold KV at r
  induction r with
  | nil => exact .nil
  | cons r t ih => exact .cons r.2 ih
theorem pe_sortVals {X : Cx} {o : Expr} {p pos apos mpos : Pos} {td : TE} (hc : X.calm = true) (hg : Gl X "sorted") (hm : X.mg "sorted" = none) (hd : PE X o td) (hbase : attributeBase o "values" X.env (eval o X.env) = eval o X.env := by rfl) (hline : (apos.endLine == mpos.line) = true := by rfl)
    (hse : starEach [Expr.Call (.Attribute o "values" apos) [] [] mpos] X.env = [(false, eval (Expr.Call (.Attribute o "values" apos) [] [] mpos) X.env)] := by rfl) :
    PE X (.Call (.Name "sorted" p) [.Call (.Attribute o "values" apos) [] [] mpos] [] pos) (tSortVals td) := by
  refine ⟨fun pins s σ H Q I h => ?_⟩
  refine wpAny_Call_Name_kw (ld_blt I hg hm (u := .builtin "sorted") (by first | rfl | decide +kernel) ?_ (by first | decide +kernel | decide) (by first | decide +kernel | decide))
  rw [hse]
  refine PySem.callWith_builtin1 (wpAny_Call_method0_late hbase hline (thn (hd.run pins s σ H _ I h) fun v s1 ⟨x, H1, I1, r1, a, kvs, is, ex, ha, hv, q⟩ => ?_))
  subst ex
  obtain rfl : v = Value.ref a := r1
  obtain ⟨z, hsys, vs, rel, dof⟩ := dk_of I1.hok ha
  obtain ⟨ep, dat⟩ := dof.dictAt
  have dat' := dat
  obtain ⟨ob, es, ho, ex, hdat, hko, hpr, hnd⟩ := dat'
  refine ⟨"dict", "dict.values", F.plainAttrs_dict, F.slot_dict_values, F.type_dict_values, ⟨ob, ho, ex.1⟩, fun b e => ?_, Calls.callWith_builtin rfl (PySem.evalArgs_none ?_)⟩
  · cases e
    exact ⟨ob, ho, ex.2.1⟩
  refine call_meetsIn F.slot_dict_values ⟨ob, ho, ex.1⟩ F.entry_dict_values (F.args_dict_values_1 _) (meets_dict_values (mixKind X.prog X.w) a hsys) ⟨⟨vs, dof⟩, ?_⟩
  have k1 : ∀ b u, s1.heap.get? b = some u → (s1.heap.push { cls := .type "dict_values", data := .fields #[.ref a] }).get? b = some u := fun b u e => Heap.get?_push_of_some _ e
  have dat1 : (s1.heap.push { cls := .type "dict_values", data := .fields #[.ref a] }).DictAt (mixKind X.prog X.w) a vs ep := dat.keep k1
  have rv : Vals (is.map V.int) (vs.map (·.2)) := by rw [← hv]; exact kv_vals rel
  have hl : vs.length ≤ sizeLine := by rw [← rel.length]; exact z
  have I2 : L2.Inv X pins σ H1 { s1 with heap := s1.heap.push { cls := .type "dict_values", data := .fields #[.ref a] } } := I1.kept (t' := s1.toks) k1
  refine srtI_run I2 rv (by rw [List.length_map]; exact hl) ?_ q
  refine DLSort.col_kdl (s := { s1 with heap := s1.heap.push { cls := .type "dict_values", data := .fields #[.ref a] } }) (PySem.W.kdl_values (knd := mixKind X.prog X.w) (r := s1.heap.objs.size) (d := a) (kvs := vs) (ep := ep)) (I.ok.hd hc) ⟨⟨_, Heap.get?_push_size _ rfl, rfl, rfl⟩, dat1⟩ hl fun acc it => ?_
  exact PySem.W.kdl_vals_eq acc.toList (by rw [Array.length_toList]; exact it.1) fun j v hj => it.2 j v (by rw [← Array.getElem?_toList]; exact hj)
def wINew : EW := fun ρ Q _ => Q (.dic ⟨false, []⟩) ρ
def wIPut (i : Nat) (wk wv : EW) : SW := fun E ρ => wv ρ (fun r ρ1 => match r with
  | .dat d => isOwn ρ1[i]? = true ∧ wk ρ1 (fun rk ρ2 => match rk with
    | .dat (.int k) => withOp (dicAt false ρ2 i) fun kvs => (kvs.length < sizeLine ∧ ∀ e ∈ kvs, e.1.length = 1) ∧ E.nx (ρ2.set i (some (.dic ⟨false, putD kvs [k] d⟩)))
    | _ => False) E.ex
  | _ => False) E.ex
def wISort (i : Nat) : EW := fun ρ Q _ => withOp (dicAt false ρ i) fun kvs => withOp (intsOf (kvs.map (·.2))) fun ns => ∀ ns' : List Int, ns'.Perm ns → ns'.Pairwise (· ≤ ·) → Q (.own (ns'.map .int)) ρ
theorem kI_iff {e : List Int} {k : Int} (h : e.length = 1) : kI e = Sum.inl k ↔ e = [k] := by
  match e, h with
  | [a], _ => exact ⟨fun z => by rw [show a = k from Sum.inl.inj z], fun z => by rw [z]; rfl⟩
section
variable {K : PySem.W.Frag} {B H : Hp}
theorem any_zipI (k : Int) : ∀ {kvs : List (List Int × D)} {vs : List V}, (∀ e ∈ kvs, e.1.length = 1) → vs.length = kvs.length → (((kvs.map fun e => kI e.1).zip vs).any fun kv => decide (kv.1 = Sum.inl k)) = hasD kvs [k]
  | [], [], _, _ => rfl
  | [], _ :: _, _, h => by simp at h
  | _ :: _, [], _, h => by simp at h
  | e :: kvs, v :: vs, h1, h => by
    have ih := any_zipI k (kvs := kvs) (vs := vs) (fun e he => h1 e (List.mem_cons_of_mem _ he)) (by simpa using h)
    have this : decide (kI e.1 = Sum.inl k) = decide (e.1 = [k]) := decide_eq_decide.mpr (kI_iff (h1 e List.mem_cons_self))
    unfold hasD at ih ⊢
    rw [List.map_cons, List.zip_cons_cons, List.any_cons, List.any_cons, this, ih]
theorem map_zipI (k : Int) {v : V} {d : D} (hv : Ip K B H v d) : ∀ {kvs : List (List Int × D)} {vs : List V}, (∀ e ∈ kvs, e.1.length = 1) → IpAll K B H vs (kvs.map (·.2)) → ∃ vs', (((kvs.map fun e => kI e.1).zip vs).map fun kv => if kv.1 = Sum.inl k then (kv.1, v) else kv) = (((kvs.map (fun e => if e.1 = [k] then (e.1, d) else e)).map fun e => kI e.1).zip vs') ∧ IpAll K B H vs' ((kvs.map (fun e => if e.1 = [k] then (e.1, d) else e)).map (·.2))
  | [], _, _, .nil => ⟨[], rfl, .nil⟩
  | e :: kvs, v0 :: _, h1, .cons h t => by
    obtain ⟨vs', h1', h2⟩ := map_zipI k hv (fun e he => h1 e (List.mem_cons_of_mem _ he)) t
    have hk := kI_iff (k := k) (h1 e List.mem_cons_self)
    by_cases c : e.1 = [k]
    · refine ⟨v :: vs', ?_, ?_⟩
      · simp only [List.map_cons, List.zip_cons_cons]
        rw [if_pos (hk.mpr c), if_pos c, h1']
      · simp only [List.map_cons]
        rw [if_pos c]
        exact .cons hv h2
    · have c' : ¬ kI e.1 = Sum.inl k := fun z => c (hk.mp z)
      refine ⟨v0 :: vs', ?_, ?_⟩
      · simp only [List.map_cons, List.zip_cons_cons]
        rw [if_neg c', if_neg c, h1']
      · simp only [List.map_cons]
        rw [if_neg c]
        exact .cons h h2
theorem putK_zipI (k : Int) {v : V} {d : D} (hv : Ip K B H v d) {kvs : List (List Int × D)} {vs : List V} (h1 : ∀ e ∈ kvs, e.1.length = 1) (ia : IpAll K B H vs (kvs.map (·.2))) : ∃ vs', putK ((kvs.map fun e => kI e.1).zip vs) (Sum.inl k) v = (((putD kvs [k] d).map fun e => kI e.1).zip vs') ∧ IpAll K B H vs' ((putD kvs [k] d).map (·.2)) := by
  have hl : vs.length = kvs.length := by rw [ia.length, List.length_map]
  have ea := any_zipI k h1 hl
  unfold putK putD
  rw [ea]
  unfold hasD
  by_cases c : (kvs.any fun e => decide (e.1 = [k])) = true
  · rw [if_pos c, if_pos c]
    exact map_zipI k hv h1 ia
  · rw [if_neg c, if_neg c]
    refine ⟨vs ++ [v], ?_, ?_⟩
    · rw [List.map_append, List.zip_append (by rw [List.length_map, hl])]
      rfl
    · rw [List.map_append]
      exact ia.append (.cons hv .nil)
theorem SR.dicI {σ : L2.St} {ρ : En} {i : Nat} {kvs : List (List Int × D)} (s : SR K B σ ρ H) (h : dicAt false ρ i = some kvs) : ∃ p vs, σ[i]? = some (some (.ref p)) ∧ B p = none ∧ H p = some (.dK ((kvs.map fun e => kI e.1).zip vs)) ∧ IpAll K B H vs (kvs.map (·.2)) := by
  obtain ⟨v, hv, p, vs, rfl, h1, h2, h3⟩ := s.slot i _ (dicAt_some h)
  exact ⟨p, vs, hv, h1, h2, h3⟩
end
section
variable {K : PySem.W.Frag} {W : WX}
theorem sim_inew : SimE K W tDNewK wINew := fun B σ ρ H Qw Xw Q s h hx q p hp => by
  have sm : Same H (upd H p (.dK [])) := same_new hp
  have rv : RvV K B H (upd H p (.dK [])) (.ref p) (.dic ⟨false, []⟩) := ⟨p, [], rfl, hp, upd_same, .nil⟩
  exact q (.ref p) (.dic ⟨false, []⟩) B ρ _ (s.same sm) (Tr.same sm) (rv.rv s sm) h
theorem sim_iput (i : Nat) {tk tv : TE} {wk wv : EW} (hk : SimE K W tk wk) (hv : SimE K W tv wv) : SimS K W (sDPut (tVar i) tk tv) (wIPut i wk wv) := by
  intro H0 B0 L B σ ρ H E Ew f h n r b c x
  refine hv B σ ρ H _ _ _ f.toSR h (xw f x) fun v rr B1 ρ1 H1 s1 t1 rv q => ?_
  have f1 := f.step s1 t1
  have g1 := t1.gr f.toSR
  cases rr with
  | dat d =>
    obtain ⟨ho, q⟩ := q
    obtain ⟨sl, e, ht⟩ := isOwn_some ho
    obtain ⟨u, hu, _⟩ := s1.slot i sl e
    refine ⟨u, hu, ?_⟩
    refine hk B1 σ ρ1 H1 _ _ _ s1 q (xw f1 (fun c B9 σ9 ρ9 H9 f9 g9 => x c B9 σ9 ρ9 H9 f9 (g1.trans g9))) fun vk rk B2 ρ2 H2 s2 t2 rvk q2 => ?_
    have f2 := f1.step s2 t2
    cases rk with
    | dat dk =>
      cases dk with
      | int k =>
        cases rvk
        obtain ⟨kvs, ed, ⟨hz, h1⟩, qb⟩ := withOp_some q2
        clear q2
        obtain ⟨p, vs, hp, nb, hh, ia⟩ := s2.dicI ed
        have hl : vs.length = kvs.length := by rw [ia.length, List.length_map]
        have eu : u = .ref p := Option.some.inj (Option.some.inj (hu.symm.trans hp))
        subst eu
        have iv : Ip K B2 H2 v d := Ip.step s1 t2 rv
        obtain ⟨vs', e1, ia'⟩ := putK_zipI k iv h1 ia
        refine ⟨p, _, rfl, DPut.k (k := Sum.inl k) hh (by rw [List.length_zip, List.length_map, hl]; omega), ?_⟩
        rw [e1]
        have ho2 : isOwn ρ2[i]? = true := by rw [dicAt_some ed]; rfl
        obtain ⟨s3, t3⟩ := s2.mutG (H' := upd H2 p (.dK (((putD kvs [k] d).map fun e => kI e.1).zip vs'))) (sl' := .dic ⟨false, putD kvs [k] d⟩) ho2 hp (fun b o e hb => by rw [upd_ne hb]; exact e) rfl (fun ds z => by rw [dicAt_some ed] at z; cases z) fun tu => ⟨p, vs', rfl, nb, upd_same, ia'.mono (Same.refl _) tu⟩
        exact n B2 σ _ _ (f2.step s3 t3) ((g1.trans (t2.gr s1)).trans (t3.gr s2)) qb
      | _ => exact q2.elim
    | _ => exact q2.elim
  | _ => exact q.elim
theorem sim_isort (i : Nat) : SimE K W (tSortVals (tVar i)) (wISort i) := by
  intro B σ ρ H Qw Xw Q s h hx q
  obtain ⟨kvs, ed, h⟩ := withOp_some h
  obtain ⟨ns, en, q1⟩ := withOp_some h
  obtain ⟨p, vs, hp, nb, hh, ia⟩ := s.dicI ed
  have hl : vs.length = kvs.length := by rw [ia.length, List.length_map]
  have ev := ints_vs ia en
  refine ⟨_, hp, p, _, ns, rfl, hh, ?_, fun ns' l hp1 hp2 hl' => ?_⟩
  · rw [← ev]
    exact List.map_snd_zip (by rw [List.length_map, hl]; exact Nat.le_refl _)
  · have sm : Same H (upd H l (.lst (ns'.map V.int))) := same_new hl'
    have rv : RvV K B H (upd H l (.lst (ns'.map V.int))) (.ref l) (.own (ns'.map D.int)) := ⟨l, _, rfl, hl', upd_same, IpAll.ints ns'⟩
    exact q _ _ B ρ _ (s.same sm) (Tr.same sm) (rv.rv s sm) (q1 ns' hp1 hp2)
end
section
variable {X : Cx} {W : WX} {k v : Expr} {wk wv : EW} {x : Str} {pos p p2 apos mpos : Pos}
theorem de_inew : DE X W (.Dict [] [] pos) wINew := ⟨_, pe_dnewK, sim_inew⟩
theorem ds_iput (hu : X.A.units + 65 < cLine) (i : Nat) (hk : DE X W k wk) (hv : DE X W v wv) (hN : X.N[i]? = some x := by rfl) (hvx : Vis X.env.scope x := by first | exact Or.inl rfl | exact Or.inr (Or.inl rfl) | exact Or.inr (Or.inr rfl)) (hd : (x == ("__debug__" : Str)) = false := by decide)
    (hcd : (x == ("__classdict__" : Str)) = false := by decide) (hs : swapsWith v (some (.Subscript (.Name x p) k p2)) pos.line X.env = pure false := by rfl) : DS X W (.Assign [.Subscript (.Name x p) k p2] v pos) (wIPut i wk wv) := by
  obtain ⟨t, pk, sk⟩ := hk.ok
  obtain ⟨t2, pv, sv⟩ := hv.ok
  exact ⟨_, ps_dput (by omega) (pe_var hN hvx hd hcd) pk pv hs, sim_iput i sk sv⟩
theorem de_isort (hc : X.calm = true) (hg : Gl X "sorted") (hm : X.mg "sorted" = none) (i : Nat) (hN : X.N[i]? = some x := by rfl) (hv : Vis X.env.scope x := by first | exact Or.inl rfl | exact Or.inr (Or.inl rfl) | exact Or.inr (Or.inr rfl)) (hd : (x == ("__debug__" : Str)) = false := by decide)
    (hcd : (x == ("__classdict__" : Str)) = false := by decide) (hbase : attributeBase (.Name x p2) "values" X.env (eval (.Name x p2) X.env) = eval (.Name x p2) X.env := by rfl) (hline : (apos.endLine == mpos.line) = true := by rfl)
    (hse : starEach [Expr.Call (.Attribute (.Name x p2) "values" apos) [] [] mpos] X.env = [(false, eval (Expr.Call (.Attribute (.Name x p2) "values" apos) [] [] mpos) X.env)] := by rfl) : DE X W (.Call (.Name "sorted" p) [.Call (.Attribute (.Name x p2) "values" apos) [] [] mpos] [] pos) (wISort i) :=
  ⟨_, pe_sortVals hc hg hm (pe_var hN hv hd hcd) hbase hline hse, sim_isort i⟩
end
end DL

set_option Elab.async false
set_option linter.all false
set_option maxRecDepth 100000
set_option maxHeartbeats 4000000
set_option checkBinderAnnotations false
/-! DLz: the new wishes, for simp. -/
namespace DL
open PySem L2
def SrtW (ds : List D) [Q : Sl → Prop] : Prop := SrtP ds Q
def SrtV (ns : List Int) [Q : List Int → Prop] : Prop := ∀ ns' : List Int, ns'.Perm ns → ns'.Pairwise (· ≤ ·) → Q ns'
def SrtD (ks : List (List Int)) [Q : List (List Int) → Prop] : Prop := ∃ (d : Nat) (B : Int), (1 ≤ d ∧ ∀ e ∈ ks, e.length = d ∧ TS.Bd B e) ∧ ∀ ts : List (List Int), ts.Perm ks → ts.Pairwise (fun a b => TS.code B a ≤ TS.code B b) → Q ts
def MinW (ns : List Int) [Q : Int → Prop] : Prop := 0 < ns.length ∧ ∀ m, m ∈ ns → (∀ y ∈ ns, m ≤ y) → Q m
section
variable {ρ : En} {E : EndsW} {Q : Sl → En → Prop} {X : Value → En → Prop} {Qs : Sl → Prop} {ds : List D}
@[simp ↓] theorem g_srtL : gSrt [.lst ds] Qs = @SrtW ds Qs := id rfl
@[simp ↓] theorem g_srtT : gSrt [.tup ds] Qs = @SrtW ds Qs := id rfl
@[simp ↓] theorem g_srtF : gSrt [.fl ds] Qs = @SrtW ds Qs := id rfl
theorem srtW_ints {ns : List Int} (h : ∀ ns' : List Int, ns'.Perm ns → ns'.Pairwise (· ≤ ·) → Qs (.own (ns'.map .int))) : @SrtW (ns.map D.int) Qs := .inl ⟨ns, rfl, h⟩
theorem srtW_tups {ts : List (List Int)} (d : Nat) (B : Int) (hd : 1 ≤ d) (ht : ∀ t ∈ ts, t.length = d ∧ TS.Bd B t) (h : ∀ ts' : List (List Int), ts'.Perm ts → ts'.Pairwise (fun a b => TS.code B a ≤ TS.code B b) → Qs (.own (ts'.map tupI))) : @SrtW (ts.map tupI) Qs := .inr ⟨ts, d, B, rfl, hd, ht, h⟩
@[simp ↓] theorem g_minL : gMinL [.lst ds] Qs = @WOp _ (intsOf ds) fun ns => @MinW ns fun m => Qs (.dat (.int m)) := by
  unfold gMinL WOp MinW
  simp only [seqD, withOp]
  cases intsOf ds with
  | none => rfl
  | some ns => exact propext ⟨fun h => h.2, fun h => ⟨⟨ds, rfl⟩, h⟩⟩
@[simp ↓] theorem e_orL {wa wb : EW} : wOrL wa wb ρ Q X = wa ρ (fun a ρ1 => withC ρ1 a fun d => withOp (seqD d) fun ds => if ds = [] then wb ρ1 Q X else Q a ρ1) X := id rfl
@[simp ↓] theorem e_inew : wINew ρ Q X = Q (.dic ⟨false, []⟩) ρ := id rfl
@[simp ↓] theorem e_dnew : wDNew ρ Q X = Q (.dic ⟨true, []⟩) ρ := id rfl
@[simp ↓] theorem e_din {neg : Bool} {i : Nat} {wk : EW} : wDIn neg i wk ρ Q X = wk ρ (fun r ρ1 => match r with
  | .dat d => @WOp _ (keyOf d) fun k => @WOp _ (dicAt true ρ1 i) fun kvs => Q (.dat (.bl (neg != hasD kvs k))) ρ1
  | _ => False) X := id rfl
@[simp ↓] theorem s_dput {i : Nat} {wk wv : EW} : wDPut i wk wv E ρ = wv ρ (fun r ρ1 => match r with
  | .dat d => isOwn ρ1[i]? = true ∧ wk ρ1 (fun rk ρ2 => match rk with
    | .dat dk => @WOp _ (keyOf dk) fun k => @WOp _ (dicAt true ρ2 i) fun kvs => kvs.length < sizeLine ∧ E.nx (ρ2.set i (some (.dic ⟨true, putD kvs k d⟩)))
    | _ => False) E.ex
  | _ => False) E.ex := id rfl
@[simp ↓] theorem s_iput {i : Nat} {wk wv : EW} : wIPut i wk wv E ρ = wv ρ (fun r ρ1 => match r with
  | .dat d => isOwn ρ1[i]? = true ∧ wk ρ1 (fun rk ρ2 => match rk with
    | .dat (.int k) => @WOp _ (dicAt false ρ2 i) fun kvs => (kvs.length < sizeLine ∧ ∀ e ∈ kvs, e.1.length = 1) ∧ E.nx (ρ2.set i (some (.dic ⟨false, putD kvs [k] d⟩)))
    | _ => False) E.ex
  | _ => False) E.ex := id rfl
@[simp ↓] theorem e_dlist {i : Nat} : wDList i ρ Q X = @WOp _ (dicAt true ρ i) fun kvs => Q (.own (kvs.map fun e => tupI e.1)) ρ := id rfl
@[simp ↓] theorem e_isort {i : Nat} : wISort i ρ Q X = @WOp _ (dicAt false ρ i) fun kvs => @WOp _ (intsOf (kvs.map (·.2))) fun ns => @SrtV ns fun ns' => Q (.own (ns'.map .int)) ρ := id rfl
@[simp ↓] theorem e_disp1 {wk wv : EW} : wDisp1 wk wv ρ Q X = wk ρ (fun r ρ1 => wv ρ1 (fun r' ρ2 => match r, r' with
  | .dat dk, .dat d => @WOp _ (keyOf dk) fun k => Q (.dic ⟨true, [(k, d)]⟩) ρ2
  | _, _ => False) X) X := id rfl
end
end DL

set_option Elab.async false
set_option linter.all false
set_option maxRecDepth 100000
set_option maxHeartbeats 4000000
set_option checkBinderAnnotations false
/-! DMa: errors as data: made, asked for their class, caught and kept. -/
namespace DL
open PySem L2
open PySem.Spec PyProof.Rows
def exF (oe : Obj) : HO := .frz oe (.ext fun _ => True)
section
variable {X : Cx} {pins : List (Addr × Obj)} {σ : L2.St} {H : Hp} {s : Shared} {a : Addr} {oe : Obj}
/-- an error that was pinned, known from now on: it wasn't there at the def's entry -/
theorem track (I : Inv X ((a, oe) :: pins) σ H s) (n0 : X.s_0.heap.get? a = none) (np : ∀ p ∈ X.pn ++ pins, p.1 ≠ a) : Inv X pins σ (upd H a (exF oe)) s := by
  obtain ⟨ga, na, nL, nF, nc⟩ := I.pin (a, oe) (List.mem_append_right _ List.mem_cons_self)
  have ne0 : ∀ b o, X.s_0.heap.get? b = some o → b ≠ a := fun b o e z => by rw [z, n0] at e; cases e
  have neH : ∀ b u, H b = some u → b ≠ a := fun b u e z => by
    rw [z] at e
    have := na.symm.trans e
    cases this
  have neC : ∀ x c, X.env.cells.lookup x = some c → c ≠ a := fun x c e z => by
    obtain ⟨v, o, ho, hd⟩ := I.cell x c e
    rw [z] at ho
    have := ga.symm.trans ho
    cases this
    exact nc v hd
  refine ⟨I.ok, I.os, I.bare, ⟨I.base.keep, I.base.slot, fun b o e n hx => ?_, I.base.there, fun b xs e => ?_, fun b o u e => ?_, fun b ps e => ?_⟩, I.loc, I.cell, ?_, fun x c e => ?_, fun p hp => ?_, fun b u e => ?_, I.len⟩
  · rw [upd_ne (ne0 b o e)]; exact I.base.free b o e n hx
  · have q := I.base.tups b xs e; rw [upd_ne (neH b _ q)]; exact q
  · have q := I.base.frzs b o u e; rw [upd_ne (neH b _ q)]; exact q
  · obtain ⟨m, q⟩ := I.base.tbls b ps e; exact ⟨m, by rw [upd_ne (neH b _ q)]; exact q⟩
  · rw [upd_ne (Ne.symm nL)]; exact I.free
  · rw [upd_ne (neC x c e)]; exact I.freeC x c e
  · obtain ⟨h1, h2, h3⟩ := I.pin p (by
      rcases List.mem_append.mp hp with z | z
      · exact List.mem_append_left _ z
      · exact List.mem_append_right _ (List.mem_cons_of_mem _ z))
    exact ⟨h1, by rw [upd_ne (np p hp)]; exact h2, h3⟩
  · by_cases hb : b = a
    · subst hb; rw [upd_same] at e; cases e; exact ⟨ga, trivial, ⟨_, ga⟩, fun _ _ _ _ => trivial⟩
    · rw [upd_ne hb] at e
      exact (I.hok b u e).stay (fun c v _ q => q) (fun c q => by rw [upd_ne (neH c _ q)]; exact q) fun c xs q => by rw [upd_ne (neH c _ q)]; exact q
/-- behind the suite, the error still pinned -/
theorem keepPin {q : Addr × Obj} {pn' : List (Addr × Obj)} (I : Inv (X.suite a (q :: (X.pn ++ pins))) pn' σ H s) (ok : X.Ok) : Inv X (q :: pins) σ H s :=
  ⟨ok, I.os, I.bare, I.base, I.loc, I.cell, I.free, I.freeC, fun p hp => I.pin p (List.mem_append_left _ (by
    rcases List.mem_append.mp hp with z | z
    · exact List.mem_cons_of_mem _ (List.mem_append_left _ z)
    · rcases List.mem_cons.mp z with z | z
      · rw [z]; exact List.mem_cons_self
      · exact List.mem_cons_of_mem _ (List.mem_append_right _ z))), I.hok, I.len⟩
end
/-- except x as n: the suite, behind which the error is known -/
def wKeep (K : PySem.W.Frag) (c : Value) (i : Nat) (ts : Addr → Value → Option Addr → TS) (Wout : WX) (D : Ends) : WX := fun cls d σ H =>
  ∃ b, PySem.W.exmOne K cls c = some b ∧ (b = true → ∀ a, H a = none → ts a cls d { nx := fun σ' H' => H' a = none → ∀ oe : Obj, Zc cls d oe → (∃ vs, oe.data = .fields vs) → D.nx (σ'.set i none) (upd H' a (exF oe)), rt := fun _ _ => False, bk := fun _ _ => False, ct := fun _ _ => False } (σ.set i (some (.ref a))) H) ∧
    (b = false → False)
section
variable {X : Cx} {x n : Str} {c : Value} {i : Nat} {body suite : List Stmt} {b₀ : Stmt} {np pos pos' : Pos} {tb : WX → TS} {ts : Addr → Value → Option Addr → TS} {Wout : WX}
theorem ps_tryK (hx : X.ex = []) (hs : X.stack = X.env :: X.outer) (hf : X.env.frame = some X.env.locals) (hN : X.N.Nodup) (hi : X.N[i]? = some n) (hln : X.env.kindOf n = some .local) (hc : Names X x c)
    (hb : ∀ (W : WX) (pn : List (Addr × Obj)) (xe : Value → Shared → Prop), Takes (X.tr pn xe) W → PassesOwn (model X.prog X.w) X.A X.env xe → PSs (X.tr pn xe) body (tb W))
    (hsu : ∀ (a : Addr) (oe : Obj) (cls : Value) (d : Option Addr) (pn : List (Addr × Obj)), Zc cls d oe → (∃ vs, oe.data = .fields vs) → PSs (X.suite a ((a, oe) :: pn)) (b₀ :: suite) (ts a cls d)) :
    PS X (.Try body [.ExceptHandler (some (.Name x np)) (some n) (b₀ :: suite) pos'] [] [] pos) (fun D σ H => tb (wKeep X.K c i ts Wout D) D σ H) := by
  refine ⟨fun pins s σ H D I h => ?_⟩
  have ok := I.ok
  have hfr : X.A.frames = some (X.env :: X.outer) := by rw [ok.frames, hs]
  refine wpAny_Try_except (wpAny_mono ((hb (wKeep X.K c i ts Wout D) (X.pn ++ pins) _ (fun u s' xx => ?_) PassesOwn.looking).run [] s σ H D (I.toTry _) h) (fun f s1 hsp => ?_) (fun e s1 he => he))
  · obtain ⟨a, B, sI, pins', σ', H', cls, d, rfl, J', nb, up, sky, na, os, ag, b, hb1, hyes, hno⟩ := xx
    cases b with
    | false => exact (hno rfl).elim
    | true =>
    have J : Inv X pins σ' H' sI := J'.ofTry ok
    rw [hs] at sky nb
    show wpAny (model X.prog X.w) X.A (noteFrame (.ref a) X.env) _ _ _
    refine Sky.land Zc.steady hfr hf sky fun h3 fl3 up3 => ?_
    have J3 : Inv X pins σ' H' { s' with heap := h3 } := J.landed (by rw [hs]; exact nb) fl3.1 (up.trans up3) os ag
    obtain ⟨oe3, vs3, he3, hz3, hd3⟩ := fl3.there
    have nfr : a ∉ frs (X.env :: X.outer) := fun hm => by
      obtain ⟨_, o', e', hnf⟩ := fl3.2.2.1.mem hm
      exact hnf _ (by rw [he3] at e'; cases e'; exact hd3)
    have nL : a ≠ X.env.locals := fun z => nfr (List.mem_filterMap.mpr ⟨X.env, List.mem_cons_self, by rw [hf, z]⟩)
    have nF : a ∉ X.fs := fun hm => by
      obtain ⟨e, he, q⟩ := List.mem_filterMap.mp hm
      exact nfr (List.mem_filterMap.mpr ⟨e, List.mem_cons_of_mem _ he, q⟩)
    have nI' : sI.heap.get? a = none := by
      cases e : sI.heap.get? a with
      | none => rfl
      | some o =>
        have := nb a o e nfr
        rw [fl3.2.1] at this; cases this
    have n0 : X.s_0.heap.get? a = none := by
      cases e : X.s_0.heap.get? a with
      | none => rfl
      | some o =>
        obtain ⟨o', q⟩ := J.base.there a o e (by rw [hx]; exact fun z => nomatch z)
        rw [nI'] at q; cases q
    have np' : ∀ p ∈ X.pn ++ pins, p.1 ≠ a := fun p hp z => by
      have := (J.pin p hp).1
      rw [z, nI'] at this; cases this
    have S3 := J3.suite he3 hd3 na nL nF
    refine wpAny_handleBy_cons (codeAny_handlers_test ?_) (by intro q; cases q)
    have LT : PySem.W.Looks (model X.prog X.w) h3 (typeOf (.ref a)) cls := fun A Q E s k q => wpAny_typeOf_ref (k _ _ he3) (by rw [hz3.1]; exact q)
    have LM := PySem.W.exm_one (M := model X.prog X.w) (J3.kIn) LT hb1
    have test : ∀ {Q : Value → Shared → Prop} {E : Value → Shared → Prop}, Q c { s' with heap := h3 } → wpAny (model X.prog X.w) (X.A.mark (some (.ref a))) (eval (.Name x np) X.env) Q E { s' with heap := h3 } := fun {Q E} q => by
      obtain ⟨hg, hdbg, hm | ⟨hm, hv, hnn⟩⟩ := hc
      · exact ld_glob (X := X.suite a ((a, oe3) :: (X.pn ++ pins))) S3 hg hm q hdbg
      · exact ld_blt (X := X.suite a ((a, oe3) :: (X.pn ++ pins))) S3 hg hm hv q hnn hdbg
    refine test (LM.here (codeAny_handlers_suite_as (HandSPX.lands_againZ fl3 fun h4 fl4 up4 => ?_)))
    have J4 : Inv X pins σ' H' { s' with heap := h4 } := J.landed (by rw [hs]; exact nb) fl4.1 ((up.trans up3).trans up4) os ag
    obtain ⟨oe4, vs4, he4, hz4, hd4⟩ := fl4.there
    refine store_ok (X := X.suite a ((a, oe4) :: (X.pn ++ pins))) (v := .ref a) (J4.suite he4 hd4 na nL nF) hN hi (.inl hln) rfl (fun s5 S5 => ?_) (.inr hln)
    refine wpAny_mono ((hsu a oe4 cls d (X.pn ++ pins) hz4 ⟨_, hd4⟩).run [] s5 _ H' _ S5 (hyes rfl a na)) (fun f s6 hsp => ?_) (fun _ _ z => False.elim z)
    cases f with
    | next =>
      obtain ⟨σ6, H6, S6, q6⟩ := hsp
      have P6 := keepPin S6 ok
      refine gone_ok P6 hN hi hln fun s7 J7 => ⟨_, _, track J7 n0 np', ?_⟩
      exact q6 (J7.pin (a, oe4) (List.mem_append_right _ List.mem_cons_self)).2.1 oe4 hz4 ⟨_, hd4⟩
    | brk => obtain ⟨_, _, _, q⟩ := hsp; exact q.elim
    | cont => obtain ⟨_, _, _, q⟩ := hsp; exact q.elim
    | ret u => obtain ⟨_, _, _, _, _, q⟩ := hsp; exact q.elim
  · cases f with
    | next =>
      obtain ⟨σ', H', J', q⟩ := hsp
      exact wpAny_execs_nil ⟨σ', H', J'.ofTry ok, q⟩
    | brk =>
      obtain ⟨σ', H', J', q⟩ := hsp
      exact ⟨σ', H', J'.ofTry ok, q⟩
    | cont =>
      obtain ⟨σ', H', J', q⟩ := hsp
      exact ⟨σ', H', J'.ofTry ok, q⟩
    | ret u =>
      obtain ⟨v, σ', H', J', r, q⟩ := hsp
      exact ⟨v, σ', H', J'.ofTry ok, r, q⟩
end
end DL

set_option Elab.async false
set_option linter.all false
set_option maxRecDepth 100000
set_option maxHeartbeats 4000000
set_option checkBinderAnnotations false
/-! DMb: the same on data. -/
namespace DL
open PySem L2
open PySem.Spec PyProof.Rows
/-! ### C(text) -/
def wExc (C : Addr) (we : EW) : EW := fun ρ Q X => we ρ (fun r ρ1 => match r with
  | .dat _ => Q (.dat (.exc C)) ρ1
  | _ => False) X
section
variable {X : Cx} {W : WX}
theorem pe_excF {C : Addr} {bmB : List Value} {B newId initId : String} {x : Str} {e : Expr} {ta : TE} {p pos : Pos} (F : ExcBaseFacts B newId initId bmB) (q : PySem.W.excIn X.K C bmB newId = true) (gC : X.mg x = some (.ref C)) (kC : PySem.W.keepIn X.K (.ref C) = true) (hg : Gl X x)
    (he : PE X e ta) (hs : starEach [e] X.env = (false, eval e X.env) :: starEach [] X.env) (hdb : (x == ("__debug__" : Str)) = false) :
    PE X (.Call (.Name x p) [e] [] pos) (fun σ H Q => ta σ H fun _ H1 => ∀ a oe, H1 a = none → Zc (.ref C) none oe → (∃ vs, oe.data = .fields vs) → Q (.ref a) (upd H1 a (exF oe))) := by
  refine ⟨fun pins s σ H Q I h => wpAny_Call_Name_kw (ld_glob I hg gC (PySem.W.callWith_K (h₀ := X.base) I.ok.mod.kin kC ?_ hs (by rfl)) hdb)⟩
  rw [hs]
  show wpAny _ _ (spliced ((false, eval e X.env) :: backTo pos (starEach [] X.env))) _ _ s
  refine Calls.spliced_cons (thn (he.run pins s σ H _ I h) fun u s1 ⟨v, H1, I1, r1, q1⟩ => Calls.spliced_nil ⟨I1.kIn, ?_⟩)
  show wpAny _ _ (call (.ref C) [u]) _ _ _
  obtain ⟨bm, N, nm, qn, bs, hdct, sn, sub, ab, col, dd, k0, k1, k2, k3, k5, mN, hC, hN, hni, T⟩ := exc_obj I1.kIn q
  refine wpAny_call_exc_subT F T hC hN hni (fun h' a hm => ?_) (by show 1 ≤ sizeLine; rw [DL.sizeLine_eq]; omega)
  have hn : H1 a = none := I1.hok.gone hm.new
  obtain ⟨t, ht, _, _⟩ := hm.there
  exact ⟨.ref a, upd H1 a (exF _), I1.laidN hm.keeps hm.new hn ⟨ht, trivial, ⟨_, ht⟩, fun _ _ _ _ => trivial⟩, rfl, q1 a _ hn ⟨rfl, rfl⟩ ⟨_, rfl⟩⟩
theorem same_upd {H : Hp} {a : Addr} {o : HO} (h : H a = none) : Same H (upd H a o) := fun b u e => by
  rw [upd_ne (fun z => by rw [z, h] at e; cases e)]; exact e
theorem de_exc {C : Addr} {bmB : List Value} {B newId initId : String} {x : Str} {e : Expr} {we : EW} {p pos : Pos} (F : ExcBaseFacts B newId initId bmB) (q : PySem.W.excIn X.K C bmB newId = true) (gC : X.mg x = some (.ref C)) (kC : PySem.W.keepIn X.K (.ref C) = true) (hg : Gl X x)
    (he : DE X W e we) (hs : starEach [e] X.env = (false, eval e X.env) :: starEach [] X.env := by rfl) (hdb : (x == ("__debug__" : Str)) = false := by decide) : DE X W (.Call (.Name x p) [e] [] pos) (wExc C we) := by
  obtain ⟨ta, pa, sa⟩ := he.ok
  refine ⟨_, pe_excF F q gC kC hg pa hs hdb, ?_⟩
  intro B σ ρ H Qw Xw Q s h hx q
  refine sa B σ ρ H _ Xw _ s h hx fun v r1 B1 ρ1 H1 s1 t1 rv1 q1 => ?_
  cases r1 with
  | dat d =>
    intro a oe hn hz hf
    have sm : Same H1 (upd H1 a (exF oe)) := same_upd hn
    exact q (.ref a) (.dat (.exc C)) B1 ρ1 _ (s1.same sm) (t1.trans s1 (Tr.same sm)) (show Ip X.K B1 (upd H1 a (exF oe)) (.ref a) (.exc C) from .exc (o := oe) upd_same hz hf) q1
  | _ => exact q1.elim
end
/-! ### isinstance(e, C), e an error that is known -/
def rIsX (K : PySem.W.Frag) : List V → Hp → VK → Prop := fun xs H Q => ∃ (a C : Addr) (oe : Obj) (c : V) (cv : Value) (b : Bool), xs = [.ref a, c] ∧ H a = some (exF oe) ∧ Zc (.ref C) none oe ∧ (∃ vs, oe.data = .fields vs) ∧ ExcC K C ∧ (∀ u, RelV c u → u = cv) ∧ PySem.W.kitOne K (.ref C) cv = some b ∧ Q (.bl b) H
theorem call_isX {X : Cx} : CallR X (.builtin "isinstance") (rIsX X.K) := by
  intro pins s σ H xs us Q I r h
  obtain ⟨a, D, oe, c, cv, b, rfl, ha, hz, ⟨vs, hv⟩, C, hcv, e, q⟩ := h
  obtain ⟨u1, u2, rfl, r1, r2⟩ := vals2 r
  cases (show u1 = Value.ref a from r1)
  have ec := hcv _ r2
  subst ec
  obtain ⟨hget, _⟩ := I.hok a _ ha
  have J : PySem.W.InstAt s.heap a oe D none := by
    obtain ⟨oc, od, oda, osl⟩ := oe
    obtain ⟨h1, h2⟩ := hz
    dsimp only at h1 h2 hv
    subst h1 h2 hv
    exact ⟨hget, rfl, rfl, trivial⟩
  exact PySem.W.kia_one (PySem.W.handS_kitx_exc C.hg C.hk C.hs C.hd C.ha C.hn C.ht C.hm) I.kIn J e (fun z => nomatch z) fun tk => ⟨.bl b, H, I.kept (t' := tk) fun _ _ z => z, rfl, q⟩
def gIsX (K : PySem.W.Frag) : GN
  | [.exc C, d], Q => ExcC K C ∧ ∃ u b, ClsD d u ∧ PySem.W.kitOne K (.ref C) u = some b ∧ Q (.dat (.bl b))
  | _, _ => False
theorem cs_isX {K : PySem.W.Frag} : CallS K (rIsX K) (gIsX K) := by
  intro B H xs ds Qw Q sub hx g p
  match ds, g with
  | [.exc C, d], g =>
    obtain ⟨hC, u, b, c, e, q⟩ := g
    obtain ⟨x, y, rfl, h1, h2⟩ := rd2 hx
    cases h1 with
    | exc hh hz hf =>
      have i2 : ClsV y u := by
        cases c with
        | ty n => cases h2; exact .ty n
        | own C => cases h2; exact .own C
      exact ⟨_, C, _, y, u, b, rfl, hh, hz, hf, hC, fun w r => i2.eq r, e, p.bl q⟩
theorem gIsX_of {K : PySem.W.Frag} {C : Addr} {d : D} {u : Value} {b : Bool} {Q : Sl → Prop} (hC : ExcC K C) (c : ClsD d u) (e : PySem.W.kitOne K (.ref C) u = some b) (q : Q (.dat (.bl b))) : gIsX K [.exc C, d] Q := ⟨hC, u, b, c, e, q⟩
/-! ### try: body, except c as n: m = n -/
def wTryK (K : PySem.W.Frag) (c : Value) (C : Addr) (i j : Nat) (wb : SW) : SW := fun E ρ => wb { E with ex := fun cls ρ1 => PySem.W.exmOne K cls c = some true ∧ cls = .ref C ∧ i ≠ j ∧ notInn ρ1 i ∧ notInn ρ1 j ∧ E.nx ((ρ1.set j (some (.dat (.exc C)))).set i none) } ρ
section
variable {X : Cx} {W : WX} {x n m : Str} {c : Value} {C : Addr} {body : List Stmt} {np pos pos' p1 p2 p3 : Pos} {wb : SW}
theorem ds_tryK (i j : Nat) (hx : X.ex = []) (hs : X.stack = X.env :: X.outer) (hf : X.env.frame = some X.env.locals) (hN : X.N.Nodup) (hi : X.N[i]? = some n) (hln : X.env.kindOf n = some .local) (hc : Names X x c)
    (hb : ∀ (W : WX) (pn : List (Addr × Obj)) (xe : Value → Shared → Prop), Takes (X.tr pn xe) W → PassesOwn (model X.prog X.w) X.A X.env xe → DSs (X.tr pn xe) W body wb)
    (hsu : ∀ (a : Addr) (oe : Obj) (pn : List (Addr × Obj)), DSs (X.suite a ((a, oe) :: pn)) (fun _ _ _ _ => False) [.Assign [.Name m p1] (.Name n p2) p3] (wSet j (wVar i))) :
    DS X W (.Try body [.ExceptHandler (some (.Name x np)) (some n) [.Assign [.Name m p1] (.Name n p2) p3] pos'] [] [] pos) (wTryK X.K c C i j wb) := by
  have hb' : ∀ W : WX, ∃ t, (∀ q : {q : List (Addr × Obj) × (Value → Shared → Prop) // Takes (X.tr q.1 q.2) W ∧ PassesOwn (model X.prog X.w) X.A X.env q.2}, PSs (X.tr q.1.1 q.1.2) body t) ∧ SimS X.K W t wb := fun W =>
    dss_all (F := fun q : {q : List (Addr × Obj) × (Value → Shared → Prop) // Takes (X.tr q.1 q.2) W ∧ PassesOwn (model X.prog X.w) X.A X.env q.2} => X.tr q.1.1 q.1.2) (fun _ => rfl) fun q => hb W q.1.1 q.1.2 q.2.1 q.2.2
  have hs' : ∀ a : Addr, ∃ t, (∀ q : Obj × List (Addr × Obj), PSs (X.suite a ((a, q.1) :: q.2)) [.Assign [.Name m p1] (.Name n p2) p3] t) ∧ SimS X.K (fun _ _ _ _ => False) t (wSet j (wVar i)) := fun a =>
    dss_all (F := fun q : Obj × List (Addr × Obj) => X.suite a ((a, q.1) :: q.2)) (fun _ => rfl) fun q => hsu a q.1 q.2
  have eb := fun W => (hb' W).choose_spec
  have es := fun a => (hs' a).choose_spec
  refine ⟨_, ps_tryK (i := i) (Wout := W) (tb := fun W => (hb' W).choose) (ts := fun a cls d D σ H => (d = none ∧ cls = .ref C) ∧ (hs' a).choose D σ H) hx hs hf hN hi hln hc (fun W pn xe t p => (eb W).1 ⟨(pn, xe), t, p⟩) (fun a oe cls d pn z v => ⟨fun pins s σ H D I q => ?_⟩), ?_⟩
  · exact ((es a).1 (oe, pn)).run pins s σ H D I q.2
  · intro H0 B0 L B σ ρ H E Ew f h nx rt bk ct ex
    refine (eb _).2 H0 B0 L B σ ρ H E _ f h nx rt bk ct ?_
    rintro cls B1 σ1 ρ1 H1 f1 g1 ⟨hb, rfl, hij, hni, hnj, hq⟩
    refine ⟨true, hb, fun _ a na => ⟨⟨rfl, rfl⟩, ?_⟩, fun e => by cases e⟩
    have hli : i < ρ1.length := notInn_lt hni
    have f2 := f1.set hni (v := .ref a) (sl := .dat (.adr a)) (.adr a) fun p z => by cases z
    refine (es a).2 H0 B0 L B1 _ _ H1 _ { nx := fun ρ2 => ρ2 = (ρ1.set i (some (.dat (.adr a)))).set j (some (.dat (.adr a))), rt := fun _ _ => False, bk := fun _ => False, ct := fun _ => False, ex := fun _ _ => False } f2 ?_ ?_ (fun _ _ _ _ _ _ _ _ z => z) (fun _ _ _ _ _ _ z => z) (fun _ _ _ _ _ _ z => z) fun _ _ _ _ _ _ _ z => z
    · show wVar i _ _ _
      have e3 : (ρ1.set i (some (Sl.dat (.adr a))))[i]? = some (some (Sl.dat (.adr a))) := by simp [hli]
      rw [e_var, e3, vk_dat]
      refine ⟨?_, rfl⟩
      unfold notInn at hnj ⊢
      rw [List.getElem?_set_ne hij]
      exact hnj
    · rintro B3 σ3 ρ3 H3 f3 g3 rfl ha oe hz hf
      have sm : Same H3 (upd H3 a (exF oe)) := same_upd ha
      have f4 := f3.same sm
      have hlj : j < ρ1.length := notInn_lt hnj
      obtain ⟨v, hv, r⟩ := f3.slot j (.dat (.adr a)) (by rw [List.getElem?_set_self (by simpa using hlj)])
      have r : Ip X.K B3 H3 v (.adr a) := r
      cases r
      have nij : notInn ((ρ1.set i (some (Sl.dat (.adr a)))).set j (some (Sl.dat (.adr a)))) j := by
        unfold notInn
        rw [List.getElem?_set_self (by simpa using hlj)]
        trivial
      have f5 := f4.set nij (v := .ref a) (sl := .dat (.exc C)) (show Ip X.K B3 (upd H3 a (exF oe)) (.ref a) (.exc C) from .exc (o := oe) upd_same hz hf) fun p z => by cases z
      have es' : σ3.set j (some (V.ref a)) = σ3 := by
        apply List.ext_getElem?
        intro k
        by_cases hk : j = k
        · subst hk
          rw [List.getElem?_set_self (List.getElem?_eq_some_iff.mp hv).1, hv]
        · rw [List.getElem?_set_ne hk]
      rw [es', List.set_set] at f5
      have nii : notInn ((ρ1.set i (some (Sl.dat (.adr a)))).set j (some (Sl.dat (.exc C)))) i := by
        unfold notInn
        rw [List.getElem?_set_ne (Ne.symm hij), List.getElem?_set_self hli]
        trivial
      have f6 := f5.unset nii
      have er : ((ρ1.set i (some (Sl.dat (.adr a)))).set j (some (Sl.dat (.exc C)))).set i none = (ρ1.set j (some (.dat (.exc C)))).set i none := by
        rw [List.set_comm _ _ hij, List.set_set]
      rw [er] at f6
      exact nx B3 _ _ _ f6 (g1.trans (g3.trans ⟨Same.refl _, Tups.of sm⟩)) hq
end
section
variable {ρ : En} {E : EndsW} {Q : Sl → En → Prop} {X : Value → En → Prop}
@[simp ↓] theorem e_exc {C : Addr} {we : EW} : wExc C we ρ Q X = we ρ (fun r ρ1 => match r with
  | .dat _ => Q (.dat (.exc C)) ρ1
  | _ => False) X := id rfl
end
section
variable {X : Cx} {W : WX} {k n : Nat} {f : Addr} {fd : FuncData} {ps : List Str} {x : Str} {p pos : Pos} {g : FD}
/-- f() -/
theorem de_callD0 (F : FnOk X.prog X.w X.K X.mg X.base (L2.CX X.prog X.w) k f fd ps (spD X.K n g)) (hr : Room k X.A) (hg : Gl X x) (hm : X.mg x = some (.ref f)) (hk : PySem.W.keepIn X.K (.ref f) = true) (hb : Binds X.K fd ps []) (tk : Takes X W) (hf : ∀ ds Qw Xw, g ds Qw Xw → ds.length = n)
    (hdb : (x == ("__debug__" : Str)) = false := by decide) : DE X W (.Call (.Name x p) [] [] pos) (wCallD g wNil) :=
  ⟨tCallS (spD X.K n g) (WE W) tNil, ⟨fun pins s σ H Q I h => wpAny_Call_Name_kw (ld_glob I hg hm (PySem.W.callWith_K0 I.kIn hk (run_fnS (us := []) F hr hb (passAt tk σ) I .nil h)) hdb)⟩, sim_callD sim_nil hf⟩
end
/-- a promise that nobody asks for -/
theorem fn_no {P : Program} {w : World} {K : PySem.W.Frag} {mg : Str → Option Value} {base : Heap} {CX : CXT} {k n : Nat} {f : Addr} {fd : FuncData} {ps : List Str} : FnOk P w K mg base CX k f fd ps (spD K n fun _ _ _ => False) :=
  ⟨fun vs H Q E h => by obtain ⟨_, _, _, _, _, _, _, h, _⟩ := h; exact h.elim, fun A outer s H args us vs Q E hr he hb hv h => by obtain ⟨_, _, _, _, _, _, _, h, _⟩ := h; exact h.elim⟩
end DL

set_option Elab.async false
set_option linter.all false
set_option maxRecDepth 100000
set_option maxHeartbeats 4000000
namespace K10
open PySem L2 DL
def tabB (K : PySem.W.Frag) (cs : List Addr) (r : Addr) : Bool :=
  (cs ++ [r]).all (fun c => excB K c) && (((List.range 13).all fun i => (List.range 12).all fun j => eB (PySem.W.kitOne K (.ref ((cs ++ [r]).getD i 0)) (.ref (cs.getD j 0))) (some (i == j))) &&
    ((List.range 12).all fun i => eB (PySem.W.kitOne K (.ref (cs.getD i 0)) (.ref r)) (some true) && eB (PySem.W.kitOne K (.ref (cs.getD i 0)) (.type "ValueError")) (some true)))
def f_greatest_divisor : FD := fun _ _ _ => False
def f_fraction : FD := fun _ _ _ => False
def f_over (C : Addr) : FD := fun ds _ X => ds = [.tup [.int 1, .int 1], .tup [.int 0, .int 1]] ∧ X (.ref C)
def f__law_text : FD := fun ds Q _ => ∃ c : Int, ds = [.int c] ∧ ∀ x : Str, Q (.dat (.str x))
def f__law_sorts (cs : List Addr) : FD := fun ds Q _ => ∃ (C : Addr) (i : Nat), ds = [.exc C] ∧ i ≤ 12 ∧ cs[i]? = some C ∧ Q (.own ((List.range 12).map fun j => .bl (i == j)))
def f__law_raised (C : Addr) : FD := fun ds Q _ => ds = [] ∧ Q (.dat (.exc C))
def f_law : FD := fun ds Q _ => ∃ ns : List Int, ds = [.lst (ns.map .int)] ∧ Q (.dat (.bl true))
theorem len_greatest_divisor : ∀ ds Qw Xw, f_greatest_divisor ds Qw Xw → ds.length = 2 := by rintro ds Q X h; exact h.elim
theorem len_fraction : ∀ ds Qw Xw, f_fraction ds Qw Xw → ds.length = 2 := by rintro ds Q X h; exact h.elim
theorem len_over {C : Addr} : ∀ ds Qw Xw, f_over C ds Qw Xw → ds.length = 2 := by rintro ds Q X ⟨rfl, _⟩; rfl
theorem len__law_text : ∀ ds Qw Xw, f__law_text ds Qw Xw → ds.length = 1 := by rintro ds Q X ⟨c, rfl, _⟩; rfl
theorem len__law_sorts {cs : List Addr} : ∀ ds Qw Xw, f__law_sorts cs ds Qw Xw → ds.length = 1 := by rintro ds Q X ⟨c, i, rfl, _⟩; rfl
theorem len__law_raised {C : Addr} : ∀ ds Qw Xw, f__law_raised C ds Qw Xw → ds.length = 0 := by rintro ds Q X ⟨rfl, _⟩; rfl
end K10

set_option Elab.async false
set_option linter.all false
set_option maxRecDepth 100000
set_option maxHeartbeats 4000000
/-! printed by gen2.py: the text by places, names by slot -/
namespace K10
open PySem L2 DL
def topS (i : Nat) : Stmt := PySem.Challenge.pw_rootgroup_k10_refusals.main.body.getD i (.Pass ⟨0, 0, 0, 0⟩)
abbrev s_greatest_divisor : Stmt := topS 15
theorem sc_greatest_divisor : FnScope ["one", "other", "left"] ["one", "other"] (defScope s_greatest_divisor) := ⟨rfl, rfl, rfl, by decide +kernel, rfl, by decide +kernel, by decide +kernel⟩
abbrev s_fraction : Stmt := topS 16
theorem sc_fraction : FnScope ["top", "bottom", "by"] ["top", "bottom"] (defScope s_fraction) := ⟨rfl, rfl, rfl, by decide +kernel, rfl, by decide +kernel, by decide +kernel⟩
abbrev s_over : Stmt := topS 17
theorem sc_over : FnScope ["one", "other"] ["one", "other"] (defScope s_over) := ⟨rfl, rfl, rfl, by decide +kernel, rfl, by decide +kernel, by decide +kernel⟩
abbrev s__law_text : Stmt := topS 19
theorem sc__law_text : FnScope ["_law_number", "_law_signs", "_law_text_here", "_law_k"] ["_law_number"] (defScope s__law_text) := ⟨rfl, rfl, rfl, by decide +kernel, rfl, by decide +kernel, by decide +kernel⟩
abbrev s__law_sorts : Stmt := topS 20
theorem sc__law_sorts : FnScope ["_law_e", "_law_some"] ["_law_e"] (defScope s__law_sorts) := ⟨rfl, rfl, rfl, by decide +kernel, rfl, by decide +kernel, by decide +kernel⟩
abbrev s__law_raised : Stmt := topS 21
theorem sc__law_raised : FnScope ["_law_found", "_law_e"] [] (defScope s__law_raised) := ⟨rfl, rfl, rfl, by decide +kernel, rfl, by decide +kernel, by decide +kernel⟩
abbrev s_law : Stmt := topS 22
theorem sc_law : FnScope ["_law_script", "_law_text_here", "_law_some", "_law_k", "_law_e", "_law_j"] ["_law_script"] (defScope s_law) := ⟨rfl, rfl, rfl, by decide +kernel, rfl, by decide +kernel, by decide +kernel⟩
structure Txt (K : PySem.W.Frag) (mg : Str → Option Value) where
  a_greatest_divisor : At K mg "greatest_divisor" s_greatest_divisor ["one", "other"]
  a_fraction : At K mg "fraction" s_fraction ["top", "bottom"]
  a_over : At K mg "over" s_over ["one", "other"]
  a__law_text : At K mg "_law_text" s__law_text ["_law_number"]
  a__law_sorts : At K mg "_law_sorts" s__law_sorts ["_law_e"]
  a__law_raised : At K mg "_law_raised" s__law_raised []
  a_law : At K mg "law" s_law ["_law_script"]
  n_abs : mg "abs" = none
  x_NoDivisor : Addr
  g_NoDivisor : mg "NoDivisor" = some (.ref x_NoDivisor)
  q_NoDivisor : PySem.W.excIn K x_NoDivisor [.type "ValueError", .type "Exception", .type "BaseException", .type "object"] "ValueError.__new__" = true
  k_NoDivisor : PySem.W.keepIn K (.ref x_NoDivisor) = true
  b_NoDivisor : PySem.W.subIn K (.ref x_NoDivisor) (.type "BaseException") = some true
  t_NoDivisor : PySem.W.typeIn K (.ref x_NoDivisor) = some (.type "type")
  sr : seerB K = true
  n_range : mg "range" = none
  n_isinstance : mg "isinstance" = none
  x_NoText : Addr
  g_NoText : mg "NoText" = some (.ref x_NoText)
  x_NoRest : Addr
  g_NoRest : mg "NoRest" = some (.ref x_NoRest)
  x_NoPoly : Addr
  g_NoPoly : mg "NoPoly" = some (.ref x_NoPoly)
  x_TooMany : Addr
  g_TooMany : mg "TooMany" = some (.ref x_TooMany)
  x_NoLook : Addr
  g_NoLook : mg "NoLook" = some (.ref x_NoLook)
  x_NoSteps : Addr
  g_NoSteps : mg "NoSteps" = some (.ref x_NoSteps)
  x_NoPart : Addr
  g_NoPart : mg "NoPart" = some (.ref x_NoPart)
  x_NoRoots : Addr
  g_NoRoots : mg "NoRoots" = some (.ref x_NoRoots)
  x_NoPairing : Addr
  g_NoPairing : mg "NoPairing" = some (.ref x_NoPairing)
  x_NoRow : Addr
  g_NoRow : mg "NoRow" = some (.ref x_NoRow)
  x_Unknown : Addr
  g_Unknown : mg "Unknown" = some (.ref x_Unknown)
  x_RootError : Addr
  g_RootError : mg "RootError" = some (.ref x_RootError)
  exm_NoDivisor_RootError : PySem.W.exmOne K (.ref x_NoDivisor) (.ref x_RootError) = some true
  q_NoText : PySem.W.excIn K x_NoText [.type "ValueError", .type "Exception", .type "BaseException", .type "object"] "ValueError.__new__" = true
  k_NoText : PySem.W.keepIn K (.ref x_NoText) = true
  b_NoText : PySem.W.subIn K (.ref x_NoText) (.type "BaseException") = some true
  t_NoText : PySem.W.typeIn K (.ref x_NoText) = some (.type "type")
  q_NoRest : PySem.W.excIn K x_NoRest [.type "ValueError", .type "Exception", .type "BaseException", .type "object"] "ValueError.__new__" = true
  k_NoRest : PySem.W.keepIn K (.ref x_NoRest) = true
  b_NoRest : PySem.W.subIn K (.ref x_NoRest) (.type "BaseException") = some true
  t_NoRest : PySem.W.typeIn K (.ref x_NoRest) = some (.type "type")
  q_NoPoly : PySem.W.excIn K x_NoPoly [.type "ValueError", .type "Exception", .type "BaseException", .type "object"] "ValueError.__new__" = true
  k_NoPoly : PySem.W.keepIn K (.ref x_NoPoly) = true
  b_NoPoly : PySem.W.subIn K (.ref x_NoPoly) (.type "BaseException") = some true
  t_NoPoly : PySem.W.typeIn K (.ref x_NoPoly) = some (.type "type")
  q_TooMany : PySem.W.excIn K x_TooMany [.type "ValueError", .type "Exception", .type "BaseException", .type "object"] "ValueError.__new__" = true
  k_TooMany : PySem.W.keepIn K (.ref x_TooMany) = true
  b_TooMany : PySem.W.subIn K (.ref x_TooMany) (.type "BaseException") = some true
  t_TooMany : PySem.W.typeIn K (.ref x_TooMany) = some (.type "type")
  q_NoLook : PySem.W.excIn K x_NoLook [.type "ValueError", .type "Exception", .type "BaseException", .type "object"] "ValueError.__new__" = true
  k_NoLook : PySem.W.keepIn K (.ref x_NoLook) = true
  b_NoLook : PySem.W.subIn K (.ref x_NoLook) (.type "BaseException") = some true
  t_NoLook : PySem.W.typeIn K (.ref x_NoLook) = some (.type "type")
  q_NoSteps : PySem.W.excIn K x_NoSteps [.type "ValueError", .type "Exception", .type "BaseException", .type "object"] "ValueError.__new__" = true
  k_NoSteps : PySem.W.keepIn K (.ref x_NoSteps) = true
  b_NoSteps : PySem.W.subIn K (.ref x_NoSteps) (.type "BaseException") = some true
  t_NoSteps : PySem.W.typeIn K (.ref x_NoSteps) = some (.type "type")
  q_NoPart : PySem.W.excIn K x_NoPart [.type "ValueError", .type "Exception", .type "BaseException", .type "object"] "ValueError.__new__" = true
  k_NoPart : PySem.W.keepIn K (.ref x_NoPart) = true
  b_NoPart : PySem.W.subIn K (.ref x_NoPart) (.type "BaseException") = some true
  t_NoPart : PySem.W.typeIn K (.ref x_NoPart) = some (.type "type")
  q_NoRoots : PySem.W.excIn K x_NoRoots [.type "ValueError", .type "Exception", .type "BaseException", .type "object"] "ValueError.__new__" = true
  k_NoRoots : PySem.W.keepIn K (.ref x_NoRoots) = true
  b_NoRoots : PySem.W.subIn K (.ref x_NoRoots) (.type "BaseException") = some true
  t_NoRoots : PySem.W.typeIn K (.ref x_NoRoots) = some (.type "type")
  q_NoPairing : PySem.W.excIn K x_NoPairing [.type "ValueError", .type "Exception", .type "BaseException", .type "object"] "ValueError.__new__" = true
  k_NoPairing : PySem.W.keepIn K (.ref x_NoPairing) = true
  b_NoPairing : PySem.W.subIn K (.ref x_NoPairing) (.type "BaseException") = some true
  t_NoPairing : PySem.W.typeIn K (.ref x_NoPairing) = some (.type "type")
  q_NoRow : PySem.W.excIn K x_NoRow [.type "ValueError", .type "Exception", .type "BaseException", .type "object"] "ValueError.__new__" = true
  k_NoRow : PySem.W.keepIn K (.ref x_NoRow) = true
  b_NoRow : PySem.W.subIn K (.ref x_NoRow) (.type "BaseException") = some true
  t_NoRow : PySem.W.typeIn K (.ref x_NoRow) = some (.type "type")
  q_Unknown : PySem.W.excIn K x_Unknown [.type "ValueError", .type "Exception", .type "BaseException", .type "object"] "ValueError.__new__" = true
  k_Unknown : PySem.W.keepIn K (.ref x_Unknown) = true
  b_Unknown : PySem.W.subIn K (.ref x_Unknown) (.type "BaseException") = some true
  t_Unknown : PySem.W.typeIn K (.ref x_Unknown) = some (.type "type")
  n_enumerate : mg "enumerate" = none
  n_ValueError : mg "ValueError" = none
  q_RootError : PySem.W.excIn K x_RootError [.type "ValueError", .type "Exception", .type "BaseException", .type "object"] "ValueError.__new__" = true
  k_RootError : PySem.W.keepIn K (.ref x_RootError) = true
  b_RootError : PySem.W.subIn K (.ref x_RootError) (.type "BaseException") = some true
  t_RootError : PySem.W.typeIn K (.ref x_RootError) = some (.type "type")
  n_any : mg "any" = none
  tab : tabB K [x_NoDivisor, x_NoText, x_NoRest, x_NoPoly, x_TooMany, x_NoLook, x_NoSteps, x_NoPart, x_NoRoots, x_NoPairing, x_NoRow, x_Unknown] x_RootError = true
section
variable {P : Program} [PlP P] {w : World} {K : PySem.W.Frag} {mg : Str → Option Value} {base : Heap}
def w_greatest_divisor : SW := (wSeq (wSet 2 (wTup (wCons (wCB gAbs (wCons (wVar 0) wNil)) (wCons (wCB gAbs (wCons (wVar 1) wNil)) wNil)))) (wSeq (wWhile (wTb (wOp gNe (wOp gIx (wVar 2) (wC (.int 1))) (wC (.int 0)))) (wSet 2 (wTup (wCons (wOp gIx (wVar 2) (wC (.int 1))) (wCons (wOp gMod (wOp gIx (wVar 2) (wC (.int 0))) (wOp gIx (wVar 2) (wC (.int 1)))) wNil))))) (wRet (wOp gIx (wVar 2) (wC (.int 0))))))
theorem d_greatest_divisor (T : Txt K mg) : ∀ (cdv : Value) (A : Around) (outer : List PySem.Env) (s : Shared) (H : Hp) (E : XK), Room 40 (A.deeper (PyProof.Rows.envOfC "greatest_divisor" (defScope s_greatest_divisor) s.heap.objs.size T.a_greatest_divisor.f cdv)) → DSs (cxOf (L2.CX P w) P w K mg base ["one", "other", "left"] "greatest_divisor" (defScope s_greatest_divisor) T.a_greatest_divisor.f cdv A outer s H E) (fun c d _ H => E c d H) (defBody s_greatest_divisor) (w_greatest_divisor) := by
  intro cdv A outer s H E hr
  exact (dss_cons (ds_set 2 sc_greatest_divisor.nd (de_tup (da_cons (de_cb call_abs cs_abs (by rfl) T.n_abs (by decide +kernel) (da_cons (de_var 0) da_nil)) (da_cons (de_cb call_abs cs_abs (by rfl) T.n_abs (by decide +kernel) (da_cons (de_var 1) da_nil)) da_nil)))) (dss_cons (ds_while (passes_of rfl) (dt_cmp (op_neD hr.units) ops_ne (de_ix (de_var 2) de_int) de_int (nomark _)) (dss_one (ds_set 2 sc_greatest_divisor.nd (de_tup (da_cons (de_ix (de_var 2) de_int) (da_cons (de_op op_modN ops_mod (de_ix (de_var 2) de_int) (de_ix (de_var 2) de_int)) da_nil)))))) (dss_one (ds_ret (de_ix (de_var 2) de_int)))))
def w_fraction (T : Txt K mg) : SW := (wSeq (wIf (wTb (wOp gEq (wVar 1) (wC (.int 0)))) (wRaise (.ref T.x_NoDivisor)) wNext) (wSeq (wSet 2 (wCallD f_greatest_divisor (wCons (wVar 0) (wCons (wVar 1) wNil)))) (wSeq (wIf (wTb (wOp gLt (wVar 1) (wC (.int 0)))) (wSet 2 (wUn gNeg (wVar 2))) wNext) (wRet (wTup (wCons (wOp gDivP (wVar 0) (wVar 2)) (wCons (wOp gDivP (wVar 1) (wVar 2)) wNil)))))))
theorem d_fraction (T : Txt K mg) (h_greatest_divisor : FnOk P w K mg base (L2.CX P w) 41 T.a_greatest_divisor.f T.a_greatest_divisor.fd ["one", "other"] (spD K 2 f_greatest_divisor)) : ∀ (cdv : Value) (A : Around) (outer : List PySem.Env) (s : Shared) (H : Hp) (E : XK), Room 41 (A.deeper (PyProof.Rows.envOfC "fraction" (defScope s_fraction) s.heap.objs.size T.a_fraction.f cdv)) → DSs (cxOf (L2.CX P w) P w K mg base ["top", "bottom", "by"] "fraction" (defScope s_fraction) T.a_fraction.f cdv A outer s H E) (fun c d _ H => E c d H) (defBody s_fraction) (w_fraction T) := by
  intro cdv A outer s H E hr
  exact (dss_cons (ds_if (dt_cmp (op_eqD hr.units) ops_eq (de_var 1) de_int (nomark _)) (dss_one (ds_raise rfl (takes_of rfl rfl rfl rfl) (pmk_own PySem.F.excBase_ValueError T.q_NoDivisor T.g_NoDivisor T.k_NoDivisor (raises_own T.b_NoDivisor T.t_NoDivisor) rfl))) dss_nil) (dss_cons (ds_set 2 sc_fraction.nd (de_callD h_greatest_divisor (hr.mono (by decide)) (by rfl) T.a_greatest_divisor.g T.a_greatest_divisor.F.kp T.a_greatest_divisor.b (takes_of rfl rfl rfl rfl) len_greatest_divisor (da_cons (de_var 0) (da_cons (de_var 1) da_nil)))) (dss_cons (ds_if (dt_cmp op_lt ops_lt (de_var 1) de_int (nomark _)) (dss_one (ds_set 2 sc_fraction.nd (de_un un_neg uns_neg (de_var 2)))) dss_nil) (dss_one (ds_ret (de_tup (da_cons (de_op (op_fdivP ‹PlP P› (hr.mono (by decide)) ⟨_, _, rfl, rfl, rfl, rfl, rfl⟩ T.sr) ops_divP (de_var 0) (de_var 2)) (da_cons (de_op (op_fdivP ‹PlP P› (hr.mono (by decide)) ⟨_, _, rfl, rfl, rfl, rfl, rfl⟩ T.sr) ops_divP (de_var 1) (de_var 2)) da_nil))))))))
def w_over (T : Txt K mg) : SW := (wSeq (wIf (wTb (wOp gEq (wOp gIx (wVar 1) (wC (.int 0))) (wC (.int 0)))) (wRaise (.ref T.x_NoDivisor)) wNext) (wRet (wCallD f_fraction (wCons (wOp gMul (wOp gIx (wVar 0) (wC (.int 0))) (wOp gIx (wVar 1) (wC (.int 1)))) (wCons (wOp gMul (wOp gIx (wVar 0) (wC (.int 1))) (wOp gIx (wVar 1) (wC (.int 0)))) wNil)))))
theorem d_over (T : Txt K mg) (h_fraction : FnOk P w K mg base (L2.CX P w) 42 T.a_fraction.f T.a_fraction.fd ["top", "bottom"] (spD K 2 f_fraction)) : ∀ (cdv : Value) (A : Around) (outer : List PySem.Env) (s : Shared) (H : Hp) (E : XK), Room 42 (A.deeper (PyProof.Rows.envOfC "over" (defScope s_over) s.heap.objs.size T.a_over.f cdv)) → DSs (cxOf (L2.CX P w) P w K mg base ["one", "other"] "over" (defScope s_over) T.a_over.f cdv A outer s H E) (fun c d _ H => E c d H) (defBody s_over) (w_over T) := by
  intro cdv A outer s H E hr
  exact (dss_cons (ds_if (dt_cmp (op_eqD hr.units) ops_eq (de_ix (de_var 1) de_int) de_int (nomark _)) (dss_one (ds_raise rfl (takes_of rfl rfl rfl rfl) (pmk_own PySem.F.excBase_ValueError T.q_NoDivisor T.g_NoDivisor T.k_NoDivisor (raises_own T.b_NoDivisor T.t_NoDivisor) rfl))) dss_nil) (dss_one (ds_ret (de_callD h_fraction (hr.mono (by decide)) (by rfl) T.a_fraction.g T.a_fraction.F.kp T.a_fraction.b (takes_of rfl rfl rfl rfl) len_fraction (da_cons (de_op op_mulI ops_mul (de_ix (de_var 0) de_int) (de_ix (de_var 1) de_int)) (da_cons (de_op op_mulI ops_mul (de_ix (de_var 0) de_int) (de_ix (de_var 1) de_int)) da_nil))))))
def w__law_text : SW := (wSeq (wSet 1 (wC (.str " !\"#$&'()*+,-./0123456789:;<=>?@ABCDEFGHIJKLMNOPQRSTUVWXYZ[\\]^_`abcdefghijklmnopqrstuvwxyz{|}~"))) (wSeq (wSet 2 (wC (.str ""))) (wSeq (wFor (wRg1 (wOp gMod (wVar 0) (wC (.int 61)))) [3] spName (wSeq (wSet 0 (wOp gDivP (wVar 0) (wC (.int 61)))) (wSet 2 (wOp gAdd (wVar 2) (wOp gIx (wVar 1) (wOp gMod (wVar 0) (wC (.int 94)))))))) (wRet (wVar 2)))))
theorem d__law_text (T : Txt K mg) : ∀ (cdv : Value) (A : Around) (outer : List PySem.Env) (s : Shared) (H : Hp) (E : XK), Room 40 (A.deeper (PyProof.Rows.envOfC "_law_text" (defScope s__law_text) s.heap.objs.size T.a__law_text.f cdv)) → DSs (cxOf (L2.CX P w) P w K mg base ["_law_number", "_law_signs", "_law_text_here", "_law_k"] "_law_text" (defScope s__law_text) T.a__law_text.f cdv A outer s H E) (fun c d _ H => E c d H) (defBody s__law_text) (w__law_text) := by
  intro cdv A outer s H E hr
  exact (dss_cons (ds_set 1 sc__law_text.nd de_str) (dss_cons (ds_set 2 sc__law_text.nd de_str) (dss_cons (ds_for (passes_of rfl) rfl (di_range1 (by rfl) T.n_range (de_op op_modN ops_mod (de_var 0) de_int)) (dg_name 3 sc__law_text.nd) (dss_cons (ds_set 0 sc__law_text.nd (de_op (op_fdivP ‹PlP P› (hr.mono (by decide)) ⟨_, _, rfl, rfl, rfl, rfl, rfl⟩ T.sr) ops_divP (de_var 0) de_int)) (dss_one (ds_set 2 sc__law_text.nd (de_op op_addA ops_add (de_var 2) (de_ix (de_var 1) (de_op op_modN ops_mod (de_var 0) de_int))))))) (dss_one (ds_ret (de_var 2))))))
def w__law_sorts (T : Txt K mg) : SW := (wSeq (wSet 1 (wLst (wCons (wCB (gIsX K) (wCons (wVar 0) (wCons (wC (.adr T.x_NoDivisor)) wNil))) (wCons (wCB (gIsX K) (wCons (wVar 0) (wCons (wC (.adr T.x_NoText)) wNil))) (wCons (wCB (gIsX K) (wCons (wVar 0) (wCons (wC (.adr T.x_NoRest)) wNil))) (wCons (wCB (gIsX K) (wCons (wVar 0) (wCons (wC (.adr T.x_NoPoly)) wNil))) wNil)))))) (wSeq (wSet 1 (wOp gAdd (wVar 1) (wLst (wCons (wCB (gIsX K) (wCons (wVar 0) (wCons (wC (.adr T.x_TooMany)) wNil))) (wCons (wCB (gIsX K) (wCons (wVar 0) (wCons (wC (.adr T.x_NoLook)) wNil))) (wCons (wCB (gIsX K) (wCons (wVar 0) (wCons (wC (.adr T.x_NoSteps)) wNil))) (wCons (wCB (gIsX K) (wCons (wVar 0) (wCons (wC (.adr T.x_NoPart)) wNil))) wNil))))))) (wRet (wOp gAdd (wVar 1) (wLst (wCons (wCB (gIsX K) (wCons (wVar 0) (wCons (wC (.adr T.x_NoRoots)) wNil))) (wCons (wCB (gIsX K) (wCons (wVar 0) (wCons (wC (.adr T.x_NoPairing)) wNil))) (wCons (wCB (gIsX K) (wCons (wVar 0) (wCons (wC (.adr T.x_NoRow)) wNil))) (wCons (wCB (gIsX K) (wCons (wVar 0) (wCons (wC (.adr T.x_Unknown)) wNil))) wNil)))))))))
theorem d__law_sorts (T : Txt K mg) : ∀ (cdv : Value) (A : Around) (outer : List PySem.Env) (s : Shared) (H : Hp) (E : XK), Room 40 (A.deeper (PyProof.Rows.envOfC "_law_sorts" (defScope s__law_sorts) s.heap.objs.size T.a__law_sorts.f cdv)) → DSs (cxOf (L2.CX P w) P w K mg base ["_law_e", "_law_some"] "_law_sorts" (defScope s__law_sorts) T.a__law_sorts.f cdv A outer s H E) (fun c d _ H => E c d H) (defBody s__law_sorts) (w__law_sorts T) := by
  intro cdv A outer s H E hr
  exact (dss_cons (ds_set 1 sc__law_sorts.nd (de_lst (da_cons (de_cb call_isX cs_isX (by rfl) T.n_isinstance (by decide +kernel) (da_cons (de_var 0) (da_cons (de_glob (by rfl) T.g_NoDivisor fun _ _ => .adr _) da_nil))) (da_cons (de_cb call_isX cs_isX (by rfl) T.n_isinstance (by decide +kernel) (da_cons (de_var 0) (da_cons (de_glob (by rfl) T.g_NoText fun _ _ => .adr _) da_nil))) (da_cons (de_cb call_isX cs_isX (by rfl) T.n_isinstance (by decide +kernel) (da_cons (de_var 0) (da_cons (de_glob (by rfl) T.g_NoRest fun _ _ => .adr _) da_nil))) (da_cons (de_cb call_isX cs_isX (by rfl) T.n_isinstance (by decide +kernel) (da_cons (de_var 0) (da_cons (de_glob (by rfl) T.g_NoPoly fun _ _ => .adr _) da_nil))) da_nil)))))) (dss_cons (ds_set 1 sc__law_sorts.nd (de_op op_addA ops_add (de_var 1) (de_lst (da_cons (de_cb call_isX cs_isX (by rfl) T.n_isinstance (by decide +kernel) (da_cons (de_var 0) (da_cons (de_glob (by rfl) T.g_TooMany fun _ _ => .adr _) da_nil))) (da_cons (de_cb call_isX cs_isX (by rfl) T.n_isinstance (by decide +kernel) (da_cons (de_var 0) (da_cons (de_glob (by rfl) T.g_NoLook fun _ _ => .adr _) da_nil))) (da_cons (de_cb call_isX cs_isX (by rfl) T.n_isinstance (by decide +kernel) (da_cons (de_var 0) (da_cons (de_glob (by rfl) T.g_NoSteps fun _ _ => .adr _) da_nil))) (da_cons (de_cb call_isX cs_isX (by rfl) T.n_isinstance (by decide +kernel) (da_cons (de_var 0) (da_cons (de_glob (by rfl) T.g_NoPart fun _ _ => .adr _) da_nil))) da_nil))))))) (dss_one (ds_ret (de_op op_addA ops_add (de_var 1) (de_lst (da_cons (de_cb call_isX cs_isX (by rfl) T.n_isinstance (by decide +kernel) (da_cons (de_var 0) (da_cons (de_glob (by rfl) T.g_NoRoots fun _ _ => .adr _) da_nil))) (da_cons (de_cb call_isX cs_isX (by rfl) T.n_isinstance (by decide +kernel) (da_cons (de_var 0) (da_cons (de_glob (by rfl) T.g_NoPairing fun _ _ => .adr _) da_nil))) (da_cons (de_cb call_isX cs_isX (by rfl) T.n_isinstance (by decide +kernel) (da_cons (de_var 0) (da_cons (de_glob (by rfl) T.g_NoRow fun _ _ => .adr _) da_nil))) (da_cons (de_cb call_isX cs_isX (by rfl) T.n_isinstance (by decide +kernel) (da_cons (de_var 0) (da_cons (de_glob (by rfl) T.g_Unknown fun _ _ => .adr _) da_nil))) da_nil))))))))))
def w__law_raised (T : Txt K mg) : SW := (wSeq (wSet 0 (wC .non)) (wSeq (wTryK K (.ref T.x_RootError) T.x_NoDivisor 1 0 (wDrop (wCallD (f_over T.x_NoDivisor) (wCons (wTup (wCons (wC (.int 1)) (wCons (wC (.int 1)) wNil))) (wCons (wTup (wCons (wC (.int 0)) (wCons (wC (.int 1)) wNil))) wNil))))) (wRet (wVar 0))))
theorem d__law_raised (T : Txt K mg) (h_over : FnOk P w K mg base (L2.CX P w) 43 T.a_over.f T.a_over.fd ["one", "other"] (spD K 2 (f_over T.x_NoDivisor))) : ∀ (cdv : Value) (A : Around) (outer : List PySem.Env) (s : Shared) (H : Hp) (E : XK), Room 43 (A.deeper (PyProof.Rows.envOfC "_law_raised" (defScope s__law_raised) s.heap.objs.size T.a__law_raised.f cdv)) → DSs (cxOf (L2.CX P w) P w K mg base ["_law_found", "_law_e"] "_law_raised" (defScope s__law_raised) T.a__law_raised.f cdv A outer s H E) (fun c d _ H => E c d H) (defBody s__law_raised) (w__law_raised T) := by
  intro cdv A outer s H E hr
  exact (dss_cons (ds_set 0 sc__law_raised.nd de_non) (dss_cons (ds_tryK 1 0 rfl rfl rfl sc__law_raised.nd rfl rfl ⟨by rfl, by decide, .inl T.g_RootError⟩ (fun W pn xe tk ps => (dss_one (ds_expr (de_callD h_over (hr.mono (by decide)) (by rfl) T.a_over.g T.a_over.F.kp T.a_over.b tk len_over (da_cons (de_tup (da_cons de_int (da_cons de_int da_nil))) (da_cons (de_tup (da_cons de_int (da_cons de_int da_nil))) da_nil)))))) (fun a oe pn => (dss_one (ds_set 0 sc__law_raised.nd (de_var 1))))) (dss_one (ds_ret (de_var 0)))))
def w_law (T : Txt K mg) : SW := (wSeq (wSet 1 (wC (.str "x"))) (wSeq (wIf (wTb (wOp gNe (wVar 0) (wLst wNil))) (wSet 1 (wCallD f__law_text (wCons (wOp gIx (wVar 0) (wC (.int 0))) wNil))) wNext) (wSeq (wSet 2 (wLst (wCons (wExc T.x_NoDivisor (wVar 1)) (wCons (wExc T.x_NoText (wVar 1)) (wCons (wExc T.x_NoRest (wVar 1)) (wCons (wExc T.x_NoPoly (wVar 1)) (wCons (wExc T.x_TooMany (wVar 1)) (wCons (wExc T.x_NoLook (wVar 1)) (wCons (wExc T.x_NoSteps (wVar 1)) wNil))))))))) (wSeq (wSet 2 (wOp gAdd (wVar 2) (wLst (wCons (wExc T.x_NoPart (wVar 1)) (wCons (wExc T.x_NoRoots (wVar 1)) (wCons (wExc T.x_NoPairing (wVar 1)) (wCons (wExc T.x_NoRow (wVar 1)) (wCons (wExc T.x_Unknown (wVar 1)) wNil)))))))) (wSeq (wFrz 2 (wFor (wEnum (wVar 2)) [3, 4] (spTup 2) (wSeq (wIf (wOr (wNot (wTru (wCB (gIsX K) (wCons (wVar 4) (wCons (wC (.adr T.x_RootError)) wNil))))) (wNot (wTru (wCB (gIsX K) (wCons (wVar 4) (wCons (wC (.ty "ValueError")) wNil)))))) (wRet (wC (.bl false))) wNext) (wIf (wTb (wOp gNe (wCallD (f__law_sorts [T.x_NoDivisor, T.x_NoText, T.x_NoRest, T.x_NoPoly, T.x_TooMany, T.x_NoLook, T.x_NoSteps, T.x_NoPart, T.x_NoRoots, T.x_NoPairing, T.x_NoRow, T.x_Unknown, T.x_RootError]) (wCons (wVar 4) wNil)) (wLc (wRg1 (wC (.int 12))) [5] spName wYes (wOp gEq (wVar 5) (wVar 3)) [5]))) (wRet (wC (.bl false))) wNext)))) (wSeq (wIf (wTru (wCB gAny (wCons (wCallD (f__law_sorts [T.x_NoDivisor, T.x_NoText, T.x_NoRest, T.x_NoPoly, T.x_TooMany, T.x_NoLook, T.x_NoSteps, T.x_NoPart, T.x_NoRoots, T.x_NoPairing, T.x_NoRow, T.x_Unknown, T.x_RootError]) (wCons (wExc T.x_RootError (wVar 1)) wNil)) wNil))) (wRet (wC (.bl false))) wNext) (wRet (wOp gEq (wCallD (f__law_sorts [T.x_NoDivisor, T.x_NoText, T.x_NoRest, T.x_NoPoly, T.x_TooMany, T.x_NoLook, T.x_NoSteps, T.x_NoPart, T.x_NoRoots, T.x_NoPairing, T.x_NoRow, T.x_Unknown, T.x_RootError]) (wCons (wCallD (f__law_raised T.x_NoDivisor) wNil) wNil)) (wLc (wRg1 (wC (.int 12))) [5] spName wYes (wOp gEq (wVar 5) (wC (.int 0))) [5])))))))))
theorem d_law (T : Txt K mg) (h__law_text : FnOk P w K mg base (L2.CX P w) 41 T.a__law_text.f T.a__law_text.fd ["_law_number"] (spD K 1 f__law_text)) (h__law_sorts : FnOk P w K mg base (L2.CX P w) 41 T.a__law_sorts.f T.a__law_sorts.fd ["_law_e"] (spD K 1 (f__law_sorts [T.x_NoDivisor, T.x_NoText, T.x_NoRest, T.x_NoPoly, T.x_TooMany, T.x_NoLook, T.x_NoSteps, T.x_NoPart, T.x_NoRoots, T.x_NoPairing, T.x_NoRow, T.x_Unknown, T.x_RootError]))) (h__law_raised : FnOk P w K mg base (L2.CX P w) 44 T.a__law_raised.f T.a__law_raised.fd [] (spD K 0 (f__law_raised T.x_NoDivisor))) : ∀ (cdv : Value) (A : Around) (outer : List PySem.Env) (s : Shared) (H : Hp) (E : XK), Room 44 (A.deeper (PyProof.Rows.envOfC "law" (defScope s_law) s.heap.objs.size T.a_law.f cdv)) → DSs (cxOf (L2.CX P w) P w K mg base ["_law_script", "_law_text_here", "_law_some", "_law_k", "_law_e", "_law_j"] "law" (defScope s_law) T.a_law.f cdv A outer s H E) (fun c d _ H => E c d H) (defBody s_law) (w_law T) := by
  intro cdv A outer s H E hr
  exact (dss_cons (ds_set 1 sc_law.nd de_str) (dss_cons (ds_if (dt_cmp (op_neD hr.units) ops_ne (de_var 0) (de_lst da_nil) (nomark _)) (dss_one (ds_set 1 sc_law.nd (de_callD h__law_text (hr.mono (by decide)) (by rfl) T.a__law_text.g T.a__law_text.F.kp T.a__law_text.b (takes_of rfl rfl rfl rfl) len__law_text (da_cons (de_ix (de_var 0) de_int) da_nil)))) dss_nil) (dss_cons (ds_set 2 sc_law.nd (de_lst (da_cons (de_exc PySem.F.excBase_ValueError T.q_NoDivisor T.g_NoDivisor T.k_NoDivisor (by rfl) (de_var 1)) (da_cons (de_exc PySem.F.excBase_ValueError T.q_NoText T.g_NoText T.k_NoText (by rfl) (de_var 1)) (da_cons (de_exc PySem.F.excBase_ValueError T.q_NoRest T.g_NoRest T.k_NoRest (by rfl) (de_var 1)) (da_cons (de_exc PySem.F.excBase_ValueError T.q_NoPoly T.g_NoPoly T.k_NoPoly (by rfl) (de_var 1)) (da_cons (de_exc PySem.F.excBase_ValueError T.q_TooMany T.g_TooMany T.k_TooMany (by rfl) (de_var 1)) (da_cons (de_exc PySem.F.excBase_ValueError T.q_NoLook T.g_NoLook T.k_NoLook (by rfl) (de_var 1)) (da_cons (de_exc PySem.F.excBase_ValueError T.q_NoSteps T.g_NoSteps T.k_NoSteps (by rfl) (de_var 1)) da_nil))))))))) (dss_cons (ds_set 2 sc_law.nd (de_op op_addA ops_add (de_var 2) (de_lst (da_cons (de_exc PySem.F.excBase_ValueError T.q_NoPart T.g_NoPart T.k_NoPart (by rfl) (de_var 1)) (da_cons (de_exc PySem.F.excBase_ValueError T.q_NoRoots T.g_NoRoots T.k_NoRoots (by rfl) (de_var 1)) (da_cons (de_exc PySem.F.excBase_ValueError T.q_NoPairing T.g_NoPairing T.k_NoPairing (by rfl) (de_var 1)) (da_cons (de_exc PySem.F.excBase_ValueError T.q_NoRow T.g_NoRow T.k_NoRow (by rfl) (de_var 1)) (da_cons (de_exc PySem.F.excBase_ValueError T.q_Unknown T.g_Unknown T.k_Unknown (by rfl) (de_var 1)) da_nil)))))))) (dss_cons (ds_frz 2 (ds_for (passes_of rfl) rfl (di_enum (by rfl) T.n_enumerate (de_var 2)) (dg_tup rfl (dgs_cons 3 sc_law.nd (dgs_cons 4 sc_law.nd dgs_nil))) (dss_cons (ds_if (dt_w (dw_or (dt_not (dt_tru (de_cb call_isX cs_isX (by rfl) T.n_isinstance (by decide +kernel) (da_cons (de_var 4) (da_cons (de_glob (by rfl) T.g_RootError fun _ _ => .adr _) da_nil))))) (dw_or1 (dt_not (dt_tru (de_cb call_isX cs_isX (by rfl) T.n_isinstance (by decide +kernel) (da_cons (de_var 4) (da_cons (de_ty (by rfl) T.n_ValueError (by decide +kernel)) da_nil)))))))) (dss_one (ds_ret de_bl)) dss_nil) (dss_one (ds_if (dt_cmp (op_neD hr.units) ops_ne (de_callD h__law_sorts (hr.mono (by decide)) (by rfl) T.a__law_sorts.g T.a__law_sorts.F.kp T.a__law_sorts.b (takes_of rfl rfl rfl rfl) len__law_sorts (da_cons (de_var 4) da_nil)) (de_lc (own := [("_law_j", 5)]) rfl sc_law.nd (di_range1 (by rfl) T.n_range de_int) (blkOk_by (own := [("_law_j", 5)]) (N := ["_law_script", "_law_text_here", "_law_some", "_law_k", "_law_e", "_law_j"]) (sc := defScope s_law) (by decide +kernel)) (fun _ _ _ _ _ => (dg_name 5 sc_law.nd)) (by decide) (fun _ _ _ _ _ => dts_nil) (fun _ _ _ _ _ => (de_cmp (op_eqD hr.units) ops_eq (de_var 5) (de_var 3) (nomark _)))) (nomark _)) (dss_one (ds_ret de_bl)) dss_nil))))) (dss_cons (ds_if (dt_tru (de_cb (cr_any rfl) cs_any (by rfl) T.n_any (by decide +kernel) (da_cons (de_callD h__law_sorts (hr.mono (by decide)) (by rfl) T.a__law_sorts.g T.a__law_sorts.F.kp T.a__law_sorts.b (takes_of rfl rfl rfl rfl) len__law_sorts (da_cons (de_exc PySem.F.excBase_ValueError T.q_RootError T.g_RootError T.k_RootError (by rfl) (de_var 1)) da_nil)) da_nil))) (dss_one (ds_ret de_bl)) dss_nil) (dss_one (ds_ret (de_cmp (op_eqD hr.units) ops_eq (de_callD h__law_sorts (hr.mono (by decide)) (by rfl) T.a__law_sorts.g T.a__law_sorts.F.kp T.a__law_sorts.b (takes_of rfl rfl rfl rfl) len__law_sorts (da_cons (de_callD0 h__law_raised (hr.mono (by decide)) (by rfl) T.a__law_raised.g T.a__law_raised.F.kp T.a__law_raised.b (takes_of rfl rfl rfl rfl) len__law_raised) da_nil)) (de_lc (own := [("_law_j", 5)]) rfl sc_law.nd (di_range1 (by rfl) T.n_range de_int) (blkOk_by (own := [("_law_j", 5)]) (N := ["_law_script", "_law_text_here", "_law_some", "_law_k", "_law_e", "_law_j"]) (sc := defScope s_law) (by decide +kernel)) (fun _ _ _ _ _ => (dg_name 5 sc_law.nd)) (by decide) (fun _ _ _ _ _ => dts_nil) (fun _ _ _ _ _ => (de_cmp (op_eqD hr.units) ops_eq (de_var 5) de_int (nomark _)))) (nomark _))))))))))
end
end K10

set_option Elab.async false
set_option linter.all false
set_option maxRecDepth 100000
set_option maxHeartbeats 4000000
namespace K10
open PySem L2 DL
section
variable {P : Program} [PlP P] {w : World} {K : PySem.W.Frag} {mg : Str → Option Value} {base : Heap}
def c12 (T : Txt K mg) : List Addr := [T.x_NoDivisor, T.x_NoText, T.x_NoRest, T.x_NoPoly, T.x_TooMany, T.x_NoLook, T.x_NoSteps, T.x_NoPart, T.x_NoRoots, T.x_NoPairing, T.x_NoRow, T.x_Unknown]
def c13 (T : Txt K mg) : List Addr := [T.x_NoDivisor, T.x_NoText, T.x_NoRest, T.x_NoPoly, T.x_TooMany, T.x_NoLook, T.x_NoSteps, T.x_NoPart, T.x_NoRoots, T.x_NoPairing, T.x_NoRow, T.x_Unknown, T.x_RootError]
theorem c13_eq (T : Txt K mg) : c13 T = c12 T ++ [T.x_RootError] := rfl
theorem tab_at (T : Txt K mg) {C : Addr} {i : Nat} (hi : (c13 T)[i]? = some C) : ExcC K C ∧ (∀ (j : Nat) (D : Addr), (c12 T)[j]? = some D → PySem.W.kitOne K (.ref C) (.ref D) = some (i == j)) ∧ (i < 12 → PySem.W.kitOne K (.ref C) (.ref T.x_RootError) = some true ∧ PySem.W.kitOne K (.ref C) (.type "ValueError") = some true) := by
  have h : tabB K (c12 T) T.x_RootError = true := T.tab
  unfold tabB at h
  rw [Bool.and_eq_true, Bool.and_eq_true] at h
  obtain ⟨h1, h2, h3⟩ := h
  rw [← c13_eq] at h1 h2
  have li : i < 13 := (List.getElem?_eq_some_iff.mp hi).1
  refine ⟨excB_ok (List.all_eq_true.mp h1 C (List.mem_of_getElem? hi)), fun j D hj => ?_, fun h12 => ?_⟩
  · have lj : j < 12 := (List.getElem?_eq_some_iff.mp hj).1
    have e := eB_ok (List.all_eq_true.mp (List.all_eq_true.mp h2 i (List.mem_range.mpr li)) j (List.mem_range.mpr lj))
    rw [List.getD_eq_getElem?_getD, List.getD_eq_getElem?_getD, hi, hj] at e
    exact e
  · have e := List.all_eq_true.mp h3 i (List.mem_range.mpr h12)
    have hi' : (c12 T)[i]? = some C := by
      rw [c13_eq, List.getElem?_append_left (show i < (c12 T).length from h12)] at hi
      exact hi
    rw [Bool.and_eq_true, List.getD_eq_getElem?_getD, hi'] at e
    exact ⟨eB_ok e.1, eB_ok e.2⟩
theorem isx_of {C : Addr} {d : D} {u : Value} {b : Bool} {Q : Sl → Prop} (hC : ExcC K C) (c : ClsD d u) (e : PySem.W.kitOne K (.ref C) u = some b) : gIsX K [.exc C, d] Q = Q (.dat (.bl b)) :=
  propext ⟨fun ⟨_, u', b', c', e', q⟩ => by
    have : u' = u := by cases c <;> cases c' <;> rfl
    subst this
    rw [e] at e'
    cases e'
    exact q, fun q => ⟨hC, u, b, c, e, q⟩⟩
theorem isx (T : Txt K mg) {C D : Addr} {i : Nat} (j : Nat) {Q : Sl → Prop} (hi : (c13 T)[i]? = some C) (hj : (c12 T)[j]? = some D) : gIsX K [.exc C, .adr D] Q = Q (.dat (.bl (i == j))) :=
  isx_of (tab_at T hi).1 (.own D) ((tab_at T hi).2.1 j D hj)
theorem ok_greatest_divisor (T : Txt K mg) : FnOk P w K mg base (L2.CX P w) 41 T.a_greatest_divisor.f T.a_greatest_divisor.fd ["one", "other"] (spD K 2 f_greatest_divisor) := fn_no
theorem ok_fraction (T : Txt K mg) : FnOk P w K mg base (L2.CX P w) 42 T.a_fraction.f T.a_fraction.fd ["top", "bottom"] (spD K 2 f_fraction) := fn_no
theorem at20 (x y : D) : atI [x, y] 0 = some x := rfl
theorem ok_over (T : Txt K mg) : FnOk P w K mg base (L2.CX P w) 43 T.a_over.f T.a_over.fd ["one", "other"] (spD K 2 (f_over T.x_NoDivisor)) :=
  fn_D (wb := w_over T) T.a_over.F sc_over (d_over T (ok_fraction T)) (by
    rintro ds Q X hl ⟨rfl, h⟩
    simp [w_over, startE, at20]
    exact h)
def signs : Str := " !\"#$&'()*+,-./0123456789:;<=>?@ABCDEFGHIJKLMNOPQRSTUVWXYZ[\\]^_`abcdefghijklmnopqrstuvwxyz{|}~"
theorem signs_len : signs.cps.toList.length = 94 := by decide +kernel
theorem signs_at {c : Int} : ∃ x, atI signs.cps.toList (c.fmod 94) = some x := by
  have h1 : 0 ≤ c.fmod 94 := Int.fmod_nonneg_of_pos _ (by decide)
  have h2 : c.fmod 94 < 94 := Int.fmod_lt_of_pos _ (by decide)
  obtain ⟨k, hk⟩ := Int.eq_ofNat_of_zero_le h1
  rw [hk] at h2 ⊢
  have hk' : k < signs.cps.toList.length := by rw [signs_len]; omega
  unfold atI
  have e : ixN signs.cps.toList.length (k : Int) = some k := by simp only [ixN]; rw [if_pos (by omega), if_pos (by omega)]; simp
  rw [e]
  exact ⟨_, List.getElem?_eq_getElem hk'⟩
def Wt (i : Nat) (ρ : En) : Prop := ∃ (c : Int) (x : Str) (o : Option Sl), ρ = [some (.dat (.int c)), some (.dat (.str signs)), some (.dat (.str x)), o] ∧ x.length ≤ i ∧ free o
theorem ok__law_text (T : Txt K mg) : FnOk P w K mg base (L2.CX P w) 41 T.a__law_text.f T.a__law_text.fd ["_law_number"] (spD K 1 f__law_text) :=
  fn_D (wb := w__law_text) T.a__law_text.F sc__law_text (d__law_text T) (by
    rintro ds Q X hl ⟨c, rfl, h⟩
    have h1 : 0 ≤ c.fmod 61 := Int.fmod_nonneg_of_pos _ (by decide)
    have h2 : c.fmod 61 < 61 := Int.fmod_lt_of_pos _ (by decide)
    show w__law_text _ _
    unfold w__law_text
    rw [show (" !\"#$&'()*+,-./0123456789:;<=>?@ABCDEFGHIJKLMNOPQRSTUVWXYZ[\\]^_`abcdefghijklmnopqrstuvwxyz{|}~" : Str) = signs from rfl]
    simp [startE]
    refine ⟨by omega, loop_by Wt ⟨c, "", none, rfl, by decide, trivial⟩ ?_ ?_⟩
    · rintro ρ ⟨c, x, o, rfl, hx, fo⟩
      simpa using h x
    · rintro i d ρ hd ⟨c', x, o, rfl, hx, fo⟩
      obtain ⟨rfl, hi⟩ := rg_get hd
      obtain ⟨s, hs⟩ := signs_at (c := c'.fdiv 61)
      simp [fo, hs]
      have hi61 : i < 61 := by omega
      have hl1 : (⟨#[s]⟩ : Str).length = 1 := rfl
      refine ⟨by decide +kernel, ?_, _, _, _, rfl, ?_, trivial⟩
      · rw [hl1]; omega
      · rw [Str.length_append, hl1]; omega)
theorem ok__law_sorts (T : Txt K mg) : FnOk P w K mg base (L2.CX P w) 41 T.a__law_sorts.f T.a__law_sorts.fd ["_law_e"] (spD K 1 (f__law_sorts (c13 T))) :=
  fn_D (wb := w__law_sorts T) T.a__law_sorts.F sc__law_sorts (d__law_sorts T) (by
    rintro ds Q X hl ⟨C, i, rfl, hi, hC, h⟩
    have e0 := fun Q => isx T (C := C) (i := i) 0 (Q := Q) hC rfl
    have e1 := fun Q => isx T (C := C) (i := i) 1 (Q := Q) hC rfl
    have e2 := fun Q => isx T (C := C) (i := i) 2 (Q := Q) hC rfl
    have e3 := fun Q => isx T (C := C) (i := i) 3 (Q := Q) hC rfl
    have e4 := fun Q => isx T (C := C) (i := i) 4 (Q := Q) hC rfl
    have e5 := fun Q => isx T (C := C) (i := i) 5 (Q := Q) hC rfl
    have e6 := fun Q => isx T (C := C) (i := i) 6 (Q := Q) hC rfl
    have e7 := fun Q => isx T (C := C) (i := i) 7 (Q := Q) hC rfl
    have e8 := fun Q => isx T (C := C) (i := i) 8 (Q := Q) hC rfl
    have e9 := fun Q => isx T (C := C) (i := i) 9 (Q := Q) hC rfl
    have e10 := fun Q => isx T (C := C) (i := i) 10 (Q := Q) hC rfl
    have e11 := fun Q => isx T (C := C) (i := i) 11 (Q := Q) hC rfl
    simp [w__law_sorts, startE, e0, e1, e2, e3, e4, e5, e6, e7, e8, e9, e10, e11]
    exact h)
theorem ok__law_raised (T : Txt K mg) : FnOk P w K mg base (L2.CX P w) 44 T.a__law_raised.f T.a__law_raised.fd [] (spD K 0 (f__law_raised T.x_NoDivisor)) :=
  fn_D (wb := w__law_raised T) T.a__law_raised.F sc__law_raised (d__law_raised T (ok_over T)) (by
    rintro ds Q X hl ⟨rfl, h⟩
    simp [w__law_raised, startE, wTryK]
    refine ⟨rfl, ?_⟩
    simp [T.exm_NoDivisor_RootError]
    exact h)
theorem pl_bls : ∀ l : List Bool, D.plains (l.map D.bl) = true
  | [] => by simp [D.plains]
  | r :: l => by simp [D.plains, D.plain, pl_bls l]
theorem dp_bls : ∀ l : List Bool, D.deeps (l.map D.bl) = 0
  | [] => by simp [D.deeps]
  | r :: l => by simp [D.deeps, D.deep, dp_bls l]
theorem shp_bls (l : List Bool) : (D.lst (l.map D.bl)).shp = true := by simp [D.shp, D.plain, pl_bls, D.deep, dp_bls]
theorem shp_b12 (i : Nat) : (D.lst ((List.range 12).map fun j => D.bl (i == j))).shp = true := by
  have := shp_bls ((List.range 12).map fun j => i == j)
  rw [List.map_map] at this
  exact this
theorem ne_b12 {i : Nat} {Q : Sl → Prop} : gNe (.lst ((List.range 12).map fun j => D.bl (i == j))) (.lst ((List.range 12).map fun j => D.bl (i == j))) Q = Q (.dat (.bl false)) := g_neR (shp_b12 i)
theorem eq_b12 {i : Nat} {Q : Sl → Prop} : gEq (.lst ((List.range 12).map fun j => D.bl (i == j))) (.lst ((List.range 12).map fun j => D.bl (i == j))) Q = Q (.dat (.bl true)) := g_eqR (shp_b12 i)
theorem any_b12 {Q : Sl → Prop} : gAny [.lst ((List.range 12).map fun j => D.bl (12 == j))] Q = Q (.dat (.bl false)) := rfl
def Wk (T : Txt K mg) (ns : List Int) (x : Str) (i : Nat) (ρ : En) : Prop := ∃ a b, ρ = [some (.dat (.lst (ns.map .int))), some (.dat (.str x)), some (.dat (.lst ((c12 T).map D.exc))), a, b, none] ∧ free a ∧ free b
theorem pl_ns : ∀ l : List Int, D.plains (l.map D.int) = true
  | [] => by simp [D.plains]
  | r :: l => by simp [D.plains, D.plain, pl_ns l]
theorem dp_ns : ∀ l : List Int, D.deeps (l.map D.int) = 0
  | [] => by simp [D.deeps]
  | r :: l => by simp [D.deeps, D.deep, dp_ns l]
theorem ne_ns {n : Int} {ns : List Int} {Q : Sl → Prop} : gNe (.lst ((n :: ns).map D.int)) (.lst []) Q = Q (.dat (.bl true)) := by
  have e : (D.lst ((n :: ns).map D.int)).eqb (.lst []) = false := by simp [D.eqb, D.py, D.pys, PyData.eqv, PyData.eqvAll]
  have s1 : (D.lst ((n :: ns).map D.int)).shp = true := by simp only [D.shp, D.plain, pl_ns, D.deep, dp_ns]; decide
  have s2 : (D.lst []).shp = true := by decide +kernel
  unfold gNe
  rw [e, s1, s2]; simp
theorem ok_law (T : Txt K mg) : FnOk P w K mg base (L2.CX P w) 45 T.a_law.f T.a_law.fd ["_law_script"] (spD K 1 f_law) :=
  fn_D (wb := w_law T) T.a_law.F sc_law (d_law T (ok__law_text T) (ok__law_sorts T) (ok__law_raised T)) (by
    rintro ds Q X hl ⟨ns, rfl, h⟩
    simp [w_law, startE]
    cases ns with
    | nil =>
      rw [show List.map D.int [] = [] from rfl, g_neR (by decide +kernel)]
      simp
      refine loop_by (Wk T [] _) ⟨none, none, rfl, trivial, trivial⟩ ?_ ?_
      · rintro ρ ⟨a, b, rfl, fa, fb⟩
        simp
        refine ⟨T.x_RootError, 12, rfl, by decide, rfl, ?_⟩
        simp [any_b12]
        refine ⟨rfl, ?_⟩
        simp
        refine ⟨T.x_NoDivisor, 0, rfl, by decide, rfl, ?_⟩
        simp
        refine lcm_by (res := (List.range 12).map fun j => .bl (0 == j)) (by simp) (by simp [rgD_len]) (by simp [DL.sizeLine_eq, rgD_len]) ?_ ?_
        · intro i d d' hd hd'
          obtain ⟨rfl, hi⟩ := rg_get hd
          obtain rfl : d' = .bl (0 == i) := by
            rw [List.getElem?_map, List.getElem?_range hi] at hd'
            exact (Option.some.inj hd').symm
          refine ⟨_, rfl, by simp, fun Q' X' hq' => ?_⟩
          have e : decide (i = 0) = (0 == i) := by rw [Bool.eq_iff_iff]; simp; omega
          simp [e]
          exact hq' _ (by simp)
        · simp [eq_b12]
          exact h
      · rintro i d ρ hd ⟨a, b, rfl, fa, fb⟩
        have hi : i < 12 := by
          have := (List.getElem?_eq_some_iff.mp hd).1
          rw [enumD_len] at this
          exact this
        obtain ⟨C, hC⟩ : ∃ C, (c12 T)[i]? = some C := ⟨_, List.getElem?_eq_getElem (show i < (c12 T).length from hi)⟩
        have hC' : (c13 T)[i]? = some C := by
          rw [c13_eq, List.getElem?_append_left (show i < (c12 T).length from hi)]
          exact hC
        obtain ⟨hx, _, hk⟩ := tab_at T hC'
        obtain ⟨k1, k2⟩ := hk hi
        have e1 : ((c12 T).map D.exc)[i]? = some (.exc C) := by rw [List.getElem?_map, hC]; rfl
        obtain rfl : d = .tup [.int (i : Nat), .exc C] := by
          have := enumD_get e1
          exact Option.some.inj (hd.symm.trans this)
        have x1 := fun Q => isx_of (Q := Q) hx (.own T.x_RootError) k1
        have x2 := fun Q => isx_of (Q := Q) hx (.ty "ValueError") k2
        simp [fa, fb, x1, x2]
        refine ⟨C, i, rfl, by omega, hC', ?_⟩
        simp
        refine lcm_by (res := (List.range 12).map fun j => .bl (i == j)) (by simp) (by simp [rgD_len]) (by simp [DL.sizeLine_eq, rgD_len]) ?_ ?_
        · intro j d d' hd hd'
          obtain ⟨rfl, hj⟩ := rg_get hd
          obtain rfl : d' = .bl (i == j) := by
            rw [List.getElem?_map, List.getElem?_range hj] at hd'
            exact (Option.some.inj hd').symm
          refine ⟨_, rfl, by simp, fun Q' X' hq' => ?_⟩
          have e : decide (j = i) = (i == j) := by rw [Bool.eq_iff_iff]; simp; omega
          have e' : decide ((j : Int) = (i : Int)) = (i == j) := by rw [Bool.eq_iff_iff]; simp; omega
          simp [e, e']
          exact hq' _ (by simp)
        · simp [ne_b12]
          exact ⟨_, _, rfl, trivial, trivial⟩
    | cons n ns =>
      rw [ne_ns]
      simp [show atI (D.int n :: List.map D.int ns) 0 = some (.int n) from by simp [atI, ixN]]
      refine ⟨n, rfl, fun x => ?_⟩
      simp
      refine loop_by (Wk T (n :: ns) x) ⟨none, none, rfl, trivial, trivial⟩ ?_ ?_
      · rintro ρ ⟨a, b, rfl, fa, fb⟩
        simp
        refine ⟨T.x_RootError, 12, rfl, by decide, rfl, ?_⟩
        simp [any_b12]
        refine ⟨rfl, ?_⟩
        simp
        refine ⟨T.x_NoDivisor, 0, rfl, by decide, rfl, ?_⟩
        simp
        refine lcm_by (res := (List.range 12).map fun j => .bl (0 == j)) (by simp) (by simp [rgD_len]) (by simp [DL.sizeLine_eq, rgD_len]) ?_ ?_
        · intro i d d' hd hd'
          obtain ⟨rfl, hi⟩ := rg_get hd
          obtain rfl : d' = .bl (0 == i) := by
            rw [List.getElem?_map, List.getElem?_range hi] at hd'
            exact (Option.some.inj hd').symm
          refine ⟨_, rfl, by simp, fun Q' X' hq' => ?_⟩
          have e : decide (i = 0) = (0 == i) := by rw [Bool.eq_iff_iff]; simp; omega
          simp [e]
          exact hq' _ (by simp)
        · simp [eq_b12]
          exact h
      · rintro i d ρ hd ⟨a, b, rfl, fa, fb⟩
        have hi : i < 12 := by
          have := (List.getElem?_eq_some_iff.mp hd).1
          rw [enumD_len] at this
          exact this
        obtain ⟨C, hC⟩ : ∃ C, (c12 T)[i]? = some C := ⟨_, List.getElem?_eq_getElem (show i < (c12 T).length from hi)⟩
        have hC' : (c13 T)[i]? = some C := by
          rw [c13_eq, List.getElem?_append_left (show i < (c12 T).length from hi)]
          exact hC
        obtain ⟨hx, _, hk⟩ := tab_at T hC'
        obtain ⟨k1, k2⟩ := hk hi
        have e1 : ((c12 T).map D.exc)[i]? = some (.exc C) := by rw [List.getElem?_map, hC]; rfl
        obtain rfl : d = .tup [.int (i : Nat), .exc C] := by
          have := enumD_get e1
          exact Option.some.inj (hd.symm.trans this)
        have x1 := fun Q => isx_of (Q := Q) hx (.own T.x_RootError) k1
        have x2 := fun Q => isx_of (Q := Q) hx (.ty "ValueError") k2
        simp [fa, fb, x1, x2]
        refine ⟨C, i, rfl, by omega, hC', ?_⟩
        simp
        refine lcm_by (res := (List.range 12).map fun j => .bl (i == j)) (by simp) (by simp [rgD_len]) (by simp [DL.sizeLine_eq, rgD_len]) ?_ ?_
        · intro j d d' hd hd'
          obtain ⟨rfl, hj⟩ := rg_get hd
          obtain rfl : d' = .bl (i == j) := by
            rw [List.getElem?_map, List.getElem?_range hj] at hd'
            exact (Option.some.inj hd').symm
          refine ⟨_, rfl, by simp, fun Q' X' hq' => ?_⟩
          have e : decide (j = i) = (i == j) := by rw [Bool.eq_iff_iff]; simp; omega
          have e' : decide ((j : Int) = (i : Int)) = (i == j) := by rw [Bool.eq_iff_iff]; simp; omega
          simp [e, e']
          exact hq' _ (by simp)
        · simp [ne_b12]
          exact ⟨_, _, rfl, trivial, trivial⟩)
end
end K10

set_option Elab.async false
set_option linter.all false
set_option maxRecDepth 100000
set_option maxHeartbeats 0
namespace K10
open PySem PySem.Spec PyProof.Rows L2 DL
def hd_greatest_divisor : He.DefD := ⟨("greatest_divisor", none), "greatest_divisor", "greatest_divisor", defArgs s_greatest_divisor, defBody s_greatest_divisor, defScope s_greatest_divisor, [], []⟩
def hd_fraction : He.DefD := ⟨("fraction", none), "fraction", "fraction", defArgs s_fraction, defBody s_fraction, defScope s_fraction, [], []⟩
def hd_over : He.DefD := ⟨("over", none), "over", "over", defArgs s_over, defBody s_over, defScope s_over, [], []⟩
def hd__law_text : He.DefD := ⟨("_law_text", none), "_law_text", "_law_text", defArgs s__law_text, defBody s__law_text, defScope s__law_text, [], []⟩
def hd__law_sorts : He.DefD := ⟨("_law_sorts", none), "_law_sorts", "_law_sorts", defArgs s__law_sorts, defBody s__law_sorts, defScope s__law_sorts, [], []⟩
def hd__law_raised : He.DefD := ⟨("_law_raised", none), "_law_raised", "_law_raised", defArgs s__law_raised, defBody s__law_raised, defScope s__law_raised, [], []⟩
def hd_law : He.DefD := ⟨("law", none), "law", "law", defArgs s_law, defBody s_law, defScope s_law, [], []⟩
def hfn : List He.DefD := [hd_greatest_divisor, hd_fraction, hd_over, hd__law_text, hd__law_sorts, hd__law_raised, hd_law]
def hfa0 : List He.Fa := [.free "abs", .glo "NoDivisor", .exc "NoDivisor", .free "range", .free "isinstance", .glo "NoText", .glo "NoRest", .glo "NoPoly", .glo "TooMany", .glo "NoLook", .glo "NoSteps", .glo "NoPart", .glo "NoRoots", .glo "NoPairing", .glo "NoRow", .glo "Unknown", .glo "RootError", .exm "NoDivisor" "RootError" true, .exc "NoText", .exc "NoRest", .exc "NoPoly", .exc "TooMany", .exc "NoLook", .exc "NoSteps", .exc "NoPart", .exc "NoRoots", .exc "NoPairing", .exc "NoRow", .exc "Unknown", .free "enumerate"]
def hfa1 : List He.Fa := [.free "ValueError", .exc "RootError", .free "any", .glo "greatest_divisor", .glo "fraction", .glo "over", .glo "_law_text", .glo "_law_sorts", .glo "_law_raised", .glo "law"]
def hfa : List He.Fa := hfa0 ++ hfa1
def hex (K : PySem.W.Frag) : Bool := seerB K && (tabB K [He.ga K "NoDivisor", He.ga K "NoText", He.ga K "NoRest", He.ga K "NoPoly", He.ga K "TooMany", He.ga K "NoLook", He.ga K "NoSteps", He.ga K "NoPart", He.ga K "NoRoots", He.ga K "NoPairing", He.ga K "NoRow", He.ga K "Unknown"] (He.ga K "RootError") && (true))
def loose0 : List Str := ["RootError", "NoDivisor", "NoText", "NoRest", "NoPoly", "TooMany", "NoLook", "NoSteps", "NoPart", "NoRoots", "NoPairing", "NoRow", "Unknown", "greatest_divisor", "fraction", "over", "_law_text", "_law_sorts", "_law_raised"]
def loose : List Str := loose0
abbrev hR : PySem.W.OpenRow := PySem.W.OpenLaw.row PySem.Challenge.rw_rootgroup_k10_refusals
abbrev hk : PySem.W.Hook := hookY 4 hex hfa hfn
def ob (s : PySem.W.SharedT) : AlX := obsYG 4 hex hfa hfn (HandSHeadRun.getT s)
theorem ob_eq (s : PySem.W.SharedT) : ob s = hk.obs s.abs := obsYG_eq (HandSHeadRun.getT_eq s)
theorem run (w : World) : HandSHeadRun.RunEq hR (PySem.W.view hR.prog [22]) hk ob 4000 loose w := by
  intro os
  kernel_rfl
theorem facts {P : Program} [PlP P] {w : World} {K : PySem.W.Frag} {h : Heap} {mg : Str → Option Value} {f : Addr} (X : K.In h) (G : h.Ns mainGlobals mg) (hf : mg ("law" : Str) = some (.ref f)) (cx : hex K = true) (c : He.SaysD hfa hfn K) :
    ∃ fd : FuncData, (∀ (s : Shared) (v : Value), BindsTo s fd ⟨[v], []⟩ [("_law_script", v)]) ∧ ∀ base : Heap, K.In base → base.Ns mainGlobals mg → FnOk P w K mg base (L2.CX P w) 45 f fd ["_law_script"] (spD K 1 f_law) := by
  obtain ⟨y0, cx⟩ := He.ba cx
  obtain ⟨y1, cx⟩ := He.ba cx
  obtain ⟨fd0, F0⟩ := c.def_ 0 (d := hd_greatest_divisor) rfl
  obtain ⟨fd1, F1⟩ := c.def_ 1 (d := hd_fraction) rfl
  obtain ⟨fd2, F2⟩ := c.def_ 2 (d := hd_over) rfl
  obtain ⟨fd3, F3⟩ := c.def_ 3 (d := hd__law_text) rfl
  obtain ⟨fd4, F4⟩ := c.def_ 4 (d := hd__law_sorts) rfl
  obtain ⟨fd5, F5⟩ := c.def_ 5 (d := hd__law_raised) rfl
  obtain ⟨fd6, F6⟩ := c.def_ 6 (d := hd_law) rfl
  let A0 : At K mg "greatest_divisor" s_greatest_divisor ["one", "other"] := { f := _, fd := fd0, F := F0, g := He.glo_ok X G (c.fact 33 (f := .glo "greatest_divisor") rfl), b := FunD.bindsN F0 fun _ _ _ _ _ _ us hl => match us, hl with | [_, _], _ => rfl }
  let A1 : At K mg "fraction" s_fraction ["top", "bottom"] := { f := _, fd := fd1, F := F1, g := He.glo_ok X G (c.fact 34 (f := .glo "fraction") rfl), b := FunD.bindsN F1 fun _ _ _ _ _ _ us hl => match us, hl with | [_, _], _ => rfl }
  let A2 : At K mg "over" s_over ["one", "other"] := { f := _, fd := fd2, F := F2, g := He.glo_ok X G (c.fact 35 (f := .glo "over") rfl), b := FunD.bindsN F2 fun _ _ _ _ _ _ us hl => match us, hl with | [_, _], _ => rfl }
  let A3 : At K mg "_law_text" s__law_text ["_law_number"] := { f := _, fd := fd3, F := F3, g := He.glo_ok X G (c.fact 36 (f := .glo "_law_text") rfl), b := FunD.bindsN F3 fun _ _ _ _ _ _ us hl => match us, hl with | [_], _ => rfl }
  let A4 : At K mg "_law_sorts" s__law_sorts ["_law_e"] := { f := _, fd := fd4, F := F4, g := He.glo_ok X G (c.fact 37 (f := .glo "_law_sorts") rfl), b := FunD.bindsN F4 fun _ _ _ _ _ _ us hl => match us, hl with | [_], _ => rfl }
  let A5 : At K mg "_law_raised" s__law_raised [] := { f := _, fd := fd5, F := F5, g := He.glo_ok X G (c.fact 38 (f := .glo "_law_raised") rfl), b := FunD.bindsN F5 fun _ _ _ _ _ _ us hl => match us, hl with | [], _ => rfl }
  let A6 : At K mg "law" s_law ["_law_script"] := { f := _, fd := fd6, F := F6, g := He.glo_ok X G (c.fact 39 (f := .glo "law") rfl), b := FunD.bindsN F6 fun _ _ _ _ _ _ us hl => match us, hl with | [_], _ => rfl }
  let T : Txt K mg := { a_greatest_divisor := A0, a_fraction := A1, a_over := A2, a__law_text := A3, a__law_sorts := A4, a__law_raised := A5, a_law := A6, n_abs := He.free_ok X G (c.fact 0 (f := .free "abs") rfl), x_NoDivisor := He.ga K "NoDivisor", g_NoDivisor := He.glo_ok X G (c.fact 1 (f := .glo "NoDivisor") rfl), q_NoDivisor := (He.exc_ok (c.fact 2 (f := .exc "NoDivisor") rfl)).1, k_NoDivisor := (He.exc_ok (c.fact 2 (f := .exc "NoDivisor") rfl)).2.1, b_NoDivisor := (He.exc_ok (c.fact 2 (f := .exc "NoDivisor") rfl)).2.2.1, t_NoDivisor := (He.exc_ok (c.fact 2 (f := .exc "NoDivisor") rfl)).2.2.2, sr := y0, n_range := He.free_ok X G (c.fact 3 (f := .free "range") rfl), n_isinstance := He.free_ok X G (c.fact 4 (f := .free "isinstance") rfl), x_NoText := He.ga K "NoText", g_NoText := He.glo_ok X G (c.fact 5 (f := .glo "NoText") rfl), x_NoRest := He.ga K "NoRest", g_NoRest := He.glo_ok X G (c.fact 6 (f := .glo "NoRest") rfl), x_NoPoly := He.ga K "NoPoly", g_NoPoly := He.glo_ok X G (c.fact 7 (f := .glo "NoPoly") rfl), x_TooMany := He.ga K "TooMany", g_TooMany := He.glo_ok X G (c.fact 8 (f := .glo "TooMany") rfl), x_NoLook := He.ga K "NoLook", g_NoLook := He.glo_ok X G (c.fact 9 (f := .glo "NoLook") rfl), x_NoSteps := He.ga K "NoSteps", g_NoSteps := He.glo_ok X G (c.fact 10 (f := .glo "NoSteps") rfl), x_NoPart := He.ga K "NoPart", g_NoPart := He.glo_ok X G (c.fact 11 (f := .glo "NoPart") rfl), x_NoRoots := He.ga K "NoRoots", g_NoRoots := He.glo_ok X G (c.fact 12 (f := .glo "NoRoots") rfl), x_NoPairing := He.ga K "NoPairing", g_NoPairing := He.glo_ok X G (c.fact 13 (f := .glo "NoPairing") rfl), x_NoRow := He.ga K "NoRow", g_NoRow := He.glo_ok X G (c.fact 14 (f := .glo "NoRow") rfl), x_Unknown := He.ga K "Unknown", g_Unknown := He.glo_ok X G (c.fact 15 (f := .glo "Unknown") rfl), x_RootError := He.ga K "RootError", g_RootError := He.glo_ok X G (c.fact 16 (f := .glo "RootError") rfl), exm_NoDivisor_RootError := He.exm_ok (c.fact 17 (f := .exm "NoDivisor" "RootError" true) rfl), q_NoText := (He.exc_ok (c.fact 18 (f := .exc "NoText") rfl)).1, k_NoText := (He.exc_ok (c.fact 18 (f := .exc "NoText") rfl)).2.1, b_NoText := (He.exc_ok (c.fact 18 (f := .exc "NoText") rfl)).2.2.1, t_NoText := (He.exc_ok (c.fact 18 (f := .exc "NoText") rfl)).2.2.2, q_NoRest := (He.exc_ok (c.fact 19 (f := .exc "NoRest") rfl)).1, k_NoRest := (He.exc_ok (c.fact 19 (f := .exc "NoRest") rfl)).2.1, b_NoRest := (He.exc_ok (c.fact 19 (f := .exc "NoRest") rfl)).2.2.1, t_NoRest := (He.exc_ok (c.fact 19 (f := .exc "NoRest") rfl)).2.2.2, q_NoPoly := (He.exc_ok (c.fact 20 (f := .exc "NoPoly") rfl)).1, k_NoPoly := (He.exc_ok (c.fact 20 (f := .exc "NoPoly") rfl)).2.1, b_NoPoly := (He.exc_ok (c.fact 20 (f := .exc "NoPoly") rfl)).2.2.1, t_NoPoly := (He.exc_ok (c.fact 20 (f := .exc "NoPoly") rfl)).2.2.2, q_TooMany := (He.exc_ok (c.fact 21 (f := .exc "TooMany") rfl)).1, k_TooMany := (He.exc_ok (c.fact 21 (f := .exc "TooMany") rfl)).2.1, b_TooMany := (He.exc_ok (c.fact 21 (f := .exc "TooMany") rfl)).2.2.1, t_TooMany := (He.exc_ok (c.fact 21 (f := .exc "TooMany") rfl)).2.2.2, q_NoLook := (He.exc_ok (c.fact 22 (f := .exc "NoLook") rfl)).1, k_NoLook := (He.exc_ok (c.fact 22 (f := .exc "NoLook") rfl)).2.1, b_NoLook := (He.exc_ok (c.fact 22 (f := .exc "NoLook") rfl)).2.2.1, t_NoLook := (He.exc_ok (c.fact 22 (f := .exc "NoLook") rfl)).2.2.2, q_NoSteps := (He.exc_ok (c.fact 23 (f := .exc "NoSteps") rfl)).1, k_NoSteps := (He.exc_ok (c.fact 23 (f := .exc "NoSteps") rfl)).2.1, b_NoSteps := (He.exc_ok (c.fact 23 (f := .exc "NoSteps") rfl)).2.2.1, t_NoSteps := (He.exc_ok (c.fact 23 (f := .exc "NoSteps") rfl)).2.2.2, q_NoPart := (He.exc_ok (c.fact 24 (f := .exc "NoPart") rfl)).1, k_NoPart := (He.exc_ok (c.fact 24 (f := .exc "NoPart") rfl)).2.1, b_NoPart := (He.exc_ok (c.fact 24 (f := .exc "NoPart") rfl)).2.2.1, t_NoPart := (He.exc_ok (c.fact 24 (f := .exc "NoPart") rfl)).2.2.2, q_NoRoots := (He.exc_ok (c.fact 25 (f := .exc "NoRoots") rfl)).1, k_NoRoots := (He.exc_ok (c.fact 25 (f := .exc "NoRoots") rfl)).2.1, b_NoRoots := (He.exc_ok (c.fact 25 (f := .exc "NoRoots") rfl)).2.2.1, t_NoRoots := (He.exc_ok (c.fact 25 (f := .exc "NoRoots") rfl)).2.2.2, q_NoPairing := (He.exc_ok (c.fact 26 (f := .exc "NoPairing") rfl)).1, k_NoPairing := (He.exc_ok (c.fact 26 (f := .exc "NoPairing") rfl)).2.1, b_NoPairing := (He.exc_ok (c.fact 26 (f := .exc "NoPairing") rfl)).2.2.1, t_NoPairing := (He.exc_ok (c.fact 26 (f := .exc "NoPairing") rfl)).2.2.2, q_NoRow := (He.exc_ok (c.fact 27 (f := .exc "NoRow") rfl)).1, k_NoRow := (He.exc_ok (c.fact 27 (f := .exc "NoRow") rfl)).2.1, b_NoRow := (He.exc_ok (c.fact 27 (f := .exc "NoRow") rfl)).2.2.1, t_NoRow := (He.exc_ok (c.fact 27 (f := .exc "NoRow") rfl)).2.2.2, q_Unknown := (He.exc_ok (c.fact 28 (f := .exc "Unknown") rfl)).1, k_Unknown := (He.exc_ok (c.fact 28 (f := .exc "Unknown") rfl)).2.1, b_Unknown := (He.exc_ok (c.fact 28 (f := .exc "Unknown") rfl)).2.2.1, t_Unknown := (He.exc_ok (c.fact 28 (f := .exc "Unknown") rfl)).2.2.2, n_enumerate := He.free_ok X G (c.fact 29 (f := .free "enumerate") rfl), n_ValueError := He.free_ok X G (c.fact 30 (f := .free "ValueError") rfl), q_RootError := (He.exc_ok (c.fact 31 (f := .exc "RootError") rfl)).1, k_RootError := (He.exc_ok (c.fact 31 (f := .exc "RootError") rfl)).2.1, b_RootError := (He.exc_ok (c.fact 31 (f := .exc "RootError") rfl)).2.2.1, t_RootError := (He.exc_ok (c.fact 31 (f := .exc "RootError") rfl)).2.2.2, n_any := He.free_ok X G (c.fact 32 (f := .free "any") rfl), tab := y1 }
  have e := hf.symm.trans A6.g
  cases e
  have b := FunD.bindsA (ps := ["_law_script"]) F6 fun _ _ _ _ _ _ us hl => match us, hl with | [_], _ => rfl
  exact ⟨fd6, fun s v => b s [v] rfl, fun base _ _ => ok_law T⟩
end K10
open PySem PySem.W PySem.Calls PyProof.Rows
theorem PySem.Challenge.cw_rootgroup_k10_refusals_holds : PySem.Challenge.rw_rootgroup_k10_refusals.Holds := by
  w_on; o_law
  refine HandSHeadRun.head_any (r := OpenLaw.row PySem.Challenge.rw_rootgroup_k10_refusals) (q := view (OpenLaw.row PySem.Challenge.rw_rootgroup_k10_refusals).prog [22]) (H := K10.hk) (ob := K10.ob) (M := 4000) (loose := K10.loose) (d := HandSHeadRun.topDef (OpenLaw.row PySem.Challenge.rw_rootgroup_k10_refusals).prog 22) (kwd := []) K10.ob_eq
    (by kernel_rfl) (fun s => by kernel_rfl) K10.run (by kernel_rfl) (by kernel_rfl) (by kernel_rfl) (by rfl) (by first | assumption | decide +kernel) (by decide +kernel) ⟨rfl, rfl, rfl, rfl, rfl, by decide +kernel⟩ ?hw ?hc
  case hw => w_witness2
  case hc =>
    refine L2.walk_ofE (l := PySem.Challenge.rw_rootgroup_k10_refusals) (n := 63) (k := 45) (x := "_law_script") (CX := L2.CX0) rfl (by decide) (by kernel_rfl) ⟨rfl, by decide, by decide⟩ ?F (fun _ _ _ _ z => z)
    intro w mg fa h Y G hmg0
    obtain ⟨K, KX, cx, c⟩ := Y
    have hmg : mg ("law" : PySem.Str) = some (.ref fa) := by
      have e : (HandSHeadRun.topDef (OpenLaw.row PySem.Challenge.rw_rootgroup_k10_refusals).prog 22).name = ("law" : PySem.Str) := by kernel_rfl
      rw [← e]
      exact hmg0
    haveI : DL.PlP (PySem.Challenge.rw_rootgroup_k10_refusals).prog := ⟨by kernel_rfl⟩
    obtain ⟨fd, hb, hF⟩ := K10.facts (P := (PySem.Challenge.rw_rootgroup_k10_refusals).prog) (w := w) KX G hmg cx c
    exact ⟨K, fd, fun vs H Q _ => DL.spD K 1 K10.f_law vs H Q fun _ _ _ => False, KX, hb, fun H a ns hl _ hS => DL.law_at (fun ns Q q => ⟨ns, rfl, q⟩) H a ns hS, fun base kb gb => DL.FnOk_cx0 (hF base kb gb)⟩

