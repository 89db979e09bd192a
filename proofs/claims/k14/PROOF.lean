import PyProof.Rows.All
import Wide.All
import OpenK.AllK
import Wide.FinOn
import HandS.ForMost
import HandS.ForExc
import HandS.Wide
import HandS.IsInst
import HandS.Flow
import HandS.Defaults
import HandS.Conv
import HandS.Rev
import HandS.RevRange
import HandS.Zip
import HandS.Deep
import KE.GoesMore
import HandS.CallLocal
import HandS.ExcIs
import HandS.Spec
import KE.KStateDown
import HandS.Ends
import HandS.More
import HandS.Words
import HandS.WordsExc
import HandS.Head0
import HandS.Head1
import HandS.Head2
import HandS.HeadEnd
import HandS.HeadHook1
import HandS.HeadHook2
import HandS.Iter
import PySem.Challenge.RW_rootgroup_k14_whole_greatest_common_part
set_option Elab.async false
set_option linter.all false
set_option maxRecDepth 100000
set_option maxHeartbeats 4000000
/-! DL: the heapless layer. D: data; Sl: what a slot holds (data, or a list of one's own); SR: the relation of an env of such with the slots and the abstract heap. -/
namespace DL
open PySem L2

/-- data -/
inductive D where
  | non | bl (b : Bool) | int (i : Int) | str (x : Str) | tup (ds : List D) | lst (ds : List D) | adr (a : Addr) | ty (n : String)

/-- a slot: data; a list of one's own; one that a caller lent; the one in slot i (of an expression alone) -/
inductive Sl where
  | dat (d : D) | own (ds : List D) | inn (ds : List D) | bor (i : Nat)

abbrev En := List (Option Sl)

section
variable (K : PySem.W.Frag) (B H : Hp)
mutual
/-- v is d: tuples stand in H, lists in B -/
inductive Ip : V → D → Prop
  | non : Ip .non .non
  | bl (b : Bool) : Ip (.bl b) (.bl b)
  | int (i : Int) : Ip (.int i) (.int i)
  | str (x : Str) : Ip (.str x) (.str x)
  | adr (a : Addr) : Ip (.ref a) (.adr a)
  | ty (n : String) : Ip (.ty n) (.ty n)
  | tup {a : Addr} {xs : List V} {ds : List D} : SqT K H a xs → IpAll xs ds → Ip (.ref a) (.tup ds)
  | lst {a : Addr} {xs : List V} {ds : List D} : SqL K B a xs → IpAll xs ds → Ip (.ref a) (.lst ds)
inductive IpAll : List V → List D → Prop
  | nil : IpAll [] []
  | cons {v : V} {vs : List V} {d : D} {ds : List D} : Ip v d → IpAll vs ds → IpAll (v :: vs) (d :: ds)
end
end

theorem Same.tup {K : PySem.W.Frag} {H H' : Hp} {a : Addr} {xs : List V} (e : Same H H') (h : SqT K H a xs) : SqT K H' a xs := by
  rcases h with (h | ⟨o, h⟩) | h
  · exact .inl (.inl (e _ _ h))
  · exact .inl (.inr ⟨o, e _ _ h⟩)
  · exact .inr h

theorem Same.rd {H H' : Hp} {a : Addr} {u : HO} (e : Same H H') (h : Rd H a u) : Rd H' a u := by
  rcases h with h | ⟨o, h⟩
  · exact .inl (e _ _ h)
  · exact .inr ⟨o, e _ _ h⟩
/-- the tuples of H stand in H' -/
def Tups (H H' : Hp) : Prop := (∀ b xs, H b = some (.tup xs) → H' b = some (.tup xs)) ∧ ∀ b o u, H b = some (.frz o u) → H' b = some (.frz o u)
theorem Tups.of {H H' : Hp} (e : Same H H') : Tups H H' := ⟨fun _ _ h => e _ _ h, fun _ _ _ h => e _ _ h⟩
theorem Tups.trans {H H1 H2 : Hp} (a : Tups H H1) (b : Tups H1 H2) : Tups H H2 := ⟨fun _ _ h => b.1 _ _ (a.1 _ _ h), fun _ _ _ h => b.2 _ _ _ (a.2 _ _ _ h)⟩
theorem Tups.sq {K : PySem.W.Frag} {H H' : Hp} {a : Addr} {xs : List V} (e : Tups H H') (h : SqT K H a xs) : SqT K H' a xs := by
  rcases h with (h | ⟨o, h⟩) | h
  · exact .inl (.inl (e.1 _ _ h))
  · exact .inl (.inr ⟨o, e.2 _ _ _ h⟩)
  · exact .inr h

section
variable {K : PySem.W.Frag} {B B' H H' : Hp}
mutual
theorem Ip.mono (eB : Same B B') (eH : Tups H H') : ∀ {v : V} {d : D}, Ip K B H v d → Ip K B' H' v d
  | _, _, .non => .non
  | _, _, .bl b => .bl b
  | _, _, .int i => .int i
  | _, _, .str x => .str x
  | _, _, .adr a => .adr a
  | _, _, .ty n => .ty n
  | _, _, .tup h t => .tup (eH.sq h) (IpAll.mono eB eH t)
  | _, _, .lst h t => .lst (eB.seq h) (IpAll.mono eB eH t)
theorem IpAll.mono (eB : Same B B') (eH : Tups H H') : ∀ {vs : List V} {ds : List D}, IpAll K B H vs ds → IpAll K B' H' vs ds
  | _, _, .nil => .nil
  | _, _, .cons h t => .cons (Ip.mono eB eH h) (IpAll.mono eB eH t)
end
theorem IpAll.length {vs : List V} {ds : List D} (h : IpAll K B H vs ds) : vs.length = ds.length := by
  induction ds generalizing vs with
  | nil => cases h; rfl
  | cons d ds ih => cases h with | cons a b => simp [ih b]
theorem IpAll.get {vs : List V} {ds : List D} (h : IpAll K B H vs ds) {i : Nat} {d : D} (e : ds[i]? = some d) : ∃ v, vs[i]? = some v ∧ Ip K B H v d := by
  induction ds generalizing vs i with
  | nil => simp at e
  | cons d0 ds ih =>
    cases h with
    | cons a b =>
      cases i with
      | zero => simp at e; subst e; exact ⟨_, rfl, a⟩
      | succ i => obtain ⟨v, h1, h2⟩ := ih b (i := i) (by simpa using e); exact ⟨v, by simpa using h1, h2⟩
theorem IpAll.getV {vs : List V} {ds : List D} (h : IpAll K B H vs ds) {i : Nat} {v : V} (e : vs[i]? = some v) : ∃ d, ds[i]? = some d ∧ Ip K B H v d := by
  induction ds generalizing vs i with
  | nil => cases h; simp at e
  | cons d0 ds ih =>
    cases h with
    | cons a b =>
      cases i with
      | zero => simp at e; subst e; exact ⟨_, rfl, a⟩
      | succ i => obtain ⟨v, h1, h2⟩ := ih b (i := i) (by simpa using e); exact ⟨v, by simpa using h1, h2⟩
theorem IpAll.append {vs ws : List V} {ds es : List D} (h : IpAll K B H vs ds) (h' : IpAll K B H ws es) : IpAll K B H (vs ++ ws) (ds ++ es) := by
  induction ds generalizing vs with
  | nil => cases h; exact h'
  | cons d ds ih => cases h with | cons a b => exact .cons a (ih b)
theorem IpAll.set {vs : List V} {ds : List D} (h : IpAll K B H vs ds) {v : V} {d : D} (hv : Ip K B H v d) (i : Nat) : IpAll K B H (vs.set i v) (ds.set i d) := by
  induction ds generalizing vs i with
  | nil => cases h; exact .nil
  | cons d0 ds ih =>
    cases h with
    | cons a b =>
      cases i with
      | zero => exact .cons hv b
      | succ i => exact .cons a (ih b i)
theorem IpAll.take {vs : List V} {ds : List D} (h : IpAll K B H vs ds) (n : Nat) : IpAll K B H (vs.take n) (ds.take n) := by
  induction ds generalizing vs n with
  | nil => cases h; simp; exact .nil
  | cons d0 ds ih =>
    cases h with
    | cons a b =>
      cases n with
      | zero => exact .nil
      | succ n => exact .cons a (ih b n)
theorem IpAll.drop {vs : List V} {ds : List D} (h : IpAll K B H vs ds) (n : Nat) : IpAll K B H (vs.drop n) (ds.drop n) := by
  induction ds generalizing vs n with
  | nil => cases h; simp; exact .nil
  | cons d0 ds ih =>
    cases h with
    | cons a b =>
      cases n with
      | zero => exact .cons a b
      | succ n => exact ih b n
theorem IpAll.eraseIdx {vs : List V} {ds : List D} (h : IpAll K B H vs ds) (n : Nat) : IpAll K B H (vs.eraseIdx n) (ds.eraseIdx n) := by
  induction ds generalizing vs n with
  | nil => cases h; simp; exact .nil
  | cons d0 ds ih =>
    cases h with
    | cons a b =>
      cases n with
      | zero => exact b
      | succ n => exact .cons a (ih b n)
theorem IpAll.dropLast {vs : List V} {ds : List D} (h : IpAll K B H vs ds) : IpAll K B H vs.dropLast ds.dropLast := by
  rw [List.dropLast_eq_take, List.dropLast_eq_take, h.length]
  exact h.take _
theorem IpAll.reverse {vs : List V} {ds : List D} (h : IpAll K B H vs ds) : IpAll K B H vs.reverse ds.reverse := by
  induction ds generalizing vs with
  | nil => cases h; exact .nil
  | cons d0 ds ih =>
    cases h with
    | cons a b =>
      rw [List.reverse_cons, List.reverse_cons]
      exact (ih b).append (.cons a .nil)
theorem IpAll.ints : ∀ (ns : List Int), IpAll K B H (ns.map V.int) (ns.map D.int)
  | [] => .nil
  | n :: ns => .cons (.int n) (IpAll.ints ns)
end

/-! ### data without lists -/
mutual
def D.nolist : D → Bool
  | .lst _ => false
  | .tup ds => D.nolists ds
  | _ => true
def D.nolists : List D → Bool
  | [] => true
  | d :: ds => D.nolist d && D.nolists ds
end
section
variable {K : PySem.W.Frag} {B B' H : Hp}
mutual
theorem Ip.pure : ∀ {v : V} {d : D}, Ip K B H v d → d.nolist = true → Ip K B' H v d
  | _, _, .non, _ => .non
  | _, _, .bl b, _ => .bl b
  | _, _, .int i, _ => .int i
  | _, _, .str x, _ => .str x
  | _, _, .adr a, _ => .adr a
  | _, _, .ty n, _ => .ty n
  | _, _, .tup h t, e => .tup h (IpAll.pure t (by simpa [D.nolist] using e))
  | _, _, .lst h t, e => by simp [D.nolist] at e
theorem IpAll.pure : ∀ {vs : List V} {ds : List D}, IpAll K B H vs ds → D.nolists ds = true → IpAll K B' H vs ds
  | _, _, .nil, _ => .nil
  | _, _, .cons h t, e => by
    rw [D.nolists, Bool.and_eq_true] at e
    exact .cons (Ip.pure h e.1) (IpAll.pure t e.2)
end
end

/-! ### states -/
def isOwn : Option (Option Sl) → Bool
  | some (some (.own _)) => true
  | some (some (.inn _)) => true
  | _ => false
/-- the list at b is some slot's own -/
def OwnAt (σ : St) (ρ : En) (b : Addr) : Prop := ∃ i : Nat, isOwn ρ[i]? = true ∧ σ[i]? = some (some (.ref b))
def OwnL (K : PySem.W.Frag) (B H : Hp) (v : V) (ds : List D) : Prop := ∃ p vs, v = V.ref p ∧ B p = none ∧ H p = some (.lst vs) ∧ IpAll K B H vs ds
def SlR (K : PySem.W.Frag) (B H : Hp) (v : V) : Sl → Prop
  | .dat d => Ip K B H v d
  | .own ds => OwnL K B H v ds
  | .inn ds => OwnL K B H v ds
  | .bor _ => False
structure SR (K : PySem.W.Frag) (B : Hp) (σ : St) (ρ : En) (H : Hp) : Prop where
  len : σ.length = ρ.length
  sub : Same B H
  slot : ∀ (i : Nat) (sl : Sl), ρ[i]? = some (some sl) → ∃ v, σ[i]? = some (some v) ∧ SlR K B H v sl
  inj : ∀ (i j : Nat) (p : Addr), isOwn ρ[i]? = true → isOwn ρ[j]? = true → σ[i]? = some (some (.ref p)) → σ[j]? = some (some (.ref p)) → i = j
/-- from one state to a later one, the slots' values the same -/
structure Tr (σ : St) (B : Hp) (ρ : En) (H : Hp) (B' : Hp) (ρ' : En) (H' : Hp) : Prop where
  ext : ∀ b o, H b = some o → ¬ OwnAt σ ρ b → H' b = some o
  bex : Same B B'
  bnew : ∀ b, B' b ≠ none → B b ≠ none ∨ H b = none
  shp : ∀ i : Nat, isOwn ρ'[i]? = isOwn ρ[i]?
  shi : ∀ (i : Nat) (ds : List D), ρ[i]? = some (some (.inn ds)) → ∃ ds', ρ'[i]? = some (some (.inn ds'))
section
variable {K : PySem.W.Frag} {B B' B1 B2 H H' H1 H2 : Hp} {σ : St} {ρ ρ' ρ1 ρ2 : En}
theorem isOwn_some {ρ : En} {i : Nat} (h : isOwn ρ[i]? = true) : ∃ sl, ρ[i]? = some (some sl) ∧ ((∃ ds, sl = .own ds) ∨ ∃ ds, sl = .inn ds) := by
  cases e : ρ[i]? with
  | none => rw [e] at h; cases h
  | some o =>
    cases o with
    | none => rw [e] at h; cases h
    | some sl =>
      cases sl with
      | dat d => rw [e] at h; cases h
      | own ds => exact ⟨_, rfl, .inl ⟨ds, rfl⟩⟩
      | inn ds => exact ⟨_, rfl, .inr ⟨ds, rfl⟩⟩
      | bor j => rw [e] at h; cases h
theorem SR.own (s : SR K B σ ρ H) {b : Addr} (h : OwnAt σ ρ b) : ∃ vs, H b = some (.lst vs) ∧ B b = none := by
  obtain ⟨i, h1, h2⟩ := h
  obtain ⟨sl, e, q⟩ := isOwn_some h1
  obtain ⟨v, hv, r⟩ := s.slot i sl e
  rw [h2] at hv
  have ev : V.ref b = v := Option.some.inj (Option.some.inj hv)
  subst ev
  have ol : ∃ ds, OwnL K B H (.ref b) ds := by
    rcases q with ⟨ds, rfl⟩ | ⟨ds, rfl⟩ <;> exact ⟨ds, r⟩
  obtain ⟨ds, p, vs, ep, hb, hp, _⟩ := ol
  cases ep
  exact ⟨vs, hp, hb⟩
theorem Tr.refl (σ : St) (B : Hp) (ρ : En) (H : Hp) : Tr σ B ρ H B ρ H := ⟨fun _ _ h _ => h, Same.refl _, fun _ h => .inl h, fun _ => rfl, fun _ ds e => ⟨ds, e⟩⟩
theorem Tr.ownAt (t : Tr σ B ρ H B' ρ' H') {b : Addr} : OwnAt σ ρ' b ↔ OwnAt σ ρ b :=
  ⟨fun ⟨i, h1, h2⟩ => ⟨i, by rw [← t.shp i]; exact h1, h2⟩, fun ⟨i, h1, h2⟩ => ⟨i, by rw [t.shp i]; exact h1, h2⟩⟩
theorem Tr.tups (s : SR K B σ ρ H) (t : Tr σ B ρ H B' ρ' H') : Tups H H' :=
  ⟨fun b xs e => t.ext b _ e fun o => (by obtain ⟨vs, q, _⟩ := s.own o; rw [e] at q; cases q),
   fun b ob u e => t.ext b _ e fun o => (by obtain ⟨vs, q, _⟩ := s.own o; rw [e] at q; cases q)⟩
theorem Tr.trans (s1 : SR K B1 σ ρ1 H1) (a : Tr σ B ρ H B1 ρ1 H1) (b : Tr σ B1 ρ1 H1 B2 ρ2 H2) : Tr σ B ρ H B2 ρ2 H2 where
  ext := fun c o h n => b.ext c o (a.ext c o h n) fun z => n (a.ownAt.mp z)
  bex := a.bex.trans b.bex
  bnew := fun c h => by
    rcases b.bnew c h with z | z
    · exact a.bnew c z
    · right
      cases q : H c with
      | none => rfl
      | some o =>
        exfalso
        by_cases n : OwnAt σ ρ c
        · obtain ⟨vs, e, _⟩ := s1.own (a.ownAt.mpr n)
          rw [z] at e; cases e
        · rw [a.ext c o q n] at z; cases z
  shp := fun i => (b.shp i).trans (a.shp i)
  shi := fun i ds e => by
    obtain ⟨d1, e1⟩ := a.shi i ds e
    exact b.shi i d1 e1
theorem Ip.step (s : SR K B σ ρ H) (t : Tr σ B ρ H B' ρ' H') {v : V} {d : D} (h : Ip K B H v d) : Ip K B' H' v d := h.mono t.bex (t.tups s)
theorem IpAll.step (s : SR K B σ ρ H) (t : Tr σ B ρ H B' ρ' H') {vs : List V} {ds : List D} (h : IpAll K B H vs ds) : IpAll K B' H' vs ds := h.mono t.bex (t.tups s)
end

/-- what an expression gives, H0 the heap ahead of it -/
def RvR (K : PySem.W.Frag) (B : Hp) (σ : St) (ρ : En) (H0 H : Hp) (v : V) : Sl → Prop
  | .dat d => Ip K B H v d
  | .own ds => ∃ p vs, v = V.ref p ∧ H0 p = none ∧ B p = none ∧ H p = some (.lst vs) ∧ IpAll K B H vs ds ∧ ¬ OwnAt σ ρ p
  | .inn _ => False
  | .bor i => isOwn ρ[i]? = true ∧ σ[i]? = some (some v)
section
variable {K : PySem.W.Frag} {B B' B1 B2 H H' H0 H1 H2 : Hp} {σ : St} {ρ ρ' ρ1 ρ2 : En}
/-- a value waits while another expression is run -/
theorem RvR.lift (s : SR K B σ ρ H) (t : Tr σ B ρ H B' ρ' H') {v : V} {r : Sl} (h : RvR K B σ ρ H0 H v r) : RvR K B' σ ρ' H0 H' v r := by
  cases r with
  | dat d => exact Ip.step s t h
  | own ds =>
    obtain ⟨p, vs, e, f, nb, hp, ha, no⟩ := h
    refine ⟨p, vs, e, f, ?_, t.ext p _ hp no, IpAll.step s t ha, fun z => no (t.ownAt.mp z)⟩
    cases q : B' p with
    | none => rfl
    | some o =>
      exfalso
      rcases t.bnew p (by rw [q]; simp) with z | z
      · exact z nb
      · rw [hp] at z; cases z
  | inn ds => exact h
  | bor i => exact ⟨by rw [t.shp i]; exact h.1, h.2⟩
end

/-! ### an expression's meaning without the heap -/
/-- what is wanted: of a value and the env behind it; of an exception's class -/
abbrev EW := En → (Sl → En → Prop) → (Value → En → Prop) → Prop
abbrev TWs := En → (Bool → En → Prop) → (Value → En → Prop) → Prop
abbrev AW := En → (List Sl → En → Prop) → (Value → En → Prop) → Prop

/-- the wish about exceptions, from the data's -/
def XWof (K : PySem.W.Frag) (W : WX) (σ : St) (B : Hp) (ρ : En) (H : Hp) (Xw : Value → En → Prop) : Prop :=
  ∀ (c : Value) (B' : Hp) (ρ' : En) (H' : Hp), SR K B' σ ρ' H' → Tr σ B ρ H B' ρ' H' → Xw c ρ' → W c none σ H'

def SimE (K : PySem.W.Frag) (W : WX) (t : TE) (w : EW) : Prop := ∀ (B : Hp) (σ : St) (ρ : En) (H : Hp) (Qw : Sl → En → Prop) (Xw : Value → En → Prop) (Q : VK), SR K B σ ρ H → w ρ Qw Xw → XWof K W σ B ρ H Xw →
  (∀ v r B' ρ' H', SR K B' σ ρ' H' → Tr σ B ρ H B' ρ' H' → RvR K B' σ ρ' H H' v r → Qw r ρ' → Q v H') → t σ H Q
def SimT (K : PySem.W.Frag) (W : WX) (t : TT) (w : TWs) : Prop := ∀ (B : Hp) (σ : St) (ρ : En) (H : Hp) (Qw : Bool → En → Prop) (Xw : Value → En → Prop) (Q : Bool → Hp → Prop), SR K B σ ρ H → w ρ Qw Xw → XWof K W σ B ρ H Xw →
  (∀ b B' ρ' H', SR K B' σ ρ' H' → Tr σ B ρ H B' ρ' H' → Qw b ρ' → Q b H') → t σ H Q
/-- several, each behind the one ahead: H0, H1 .. the heaps between them -/
inductive RvAll (K : PySem.W.Frag) (B : Hp) (σ : St) (ρ : En) (H : Hp) : Hp → List V → List Sl → Prop
  | nil {H0} : RvAll K B σ ρ H H0 [] []
  | cons {H0 H1 v vs r rs} : RvR K B σ ρ H0 H v r → (∀ b, H1 b = none → H0 b = none) → (∀ p ds, r = .own ds → v = .ref p → H1 p ≠ none) → RvAll K B σ ρ H H1 vs rs → RvAll K B σ ρ H H0 (v :: vs) (r :: rs)
def SimA (K : PySem.W.Frag) (W : WX) (t : TA) (w : AW) : Prop := ∀ (B : Hp) (σ : St) (ρ : En) (H : Hp) (Qw : List Sl → En → Prop) (Xw : Value → En → Prop) (Q : List V → Hp → Prop), SR K B σ ρ H → w ρ Qw Xw → XWof K W σ B ρ H Xw →
  (∀ vs rs B' ρ' H', SR K B' σ ρ' H' → Tr σ B ρ H B' ρ' H' → RvAll K B' σ ρ' H' H vs rs → Qw rs ρ' → Q vs H') → t σ H Q

structure DE (X : Cx) (W : WX) (e : Expr) (w : EW) : Prop where
  ok : ∃ t, PE X e t ∧ SimE X.K W t w
structure DT (X : Cx) (W : WX) (e : Expr) (w : TWs) : Prop where
  ok : ∃ t, PT X e t ∧ SimT X.K W t w
structure DA (X : Cx) (W : WX) (es : List Expr) (w : AW) : Prop where
  ok : ∃ t, PA X es t ∧ SimA X.K W t w
end DL

set_option Elab.async false
set_option linter.all false
set_option maxRecDepth 100000
set_option maxHeartbeats 4000000
/-! DLb: expressions. -/
namespace DL
open PySem L2

/-! ### what is read of a value -/
def cont (ρ : En) : Sl → Option D
  | .dat d => some d
  | .own ds => some (.lst ds)
  | .inn _ => none
  | .bor i => match ρ[i]? with
    | some (some (.own ds)) => some (.lst ds)
    | some (some (.inn ds)) => some (.lst ds)
    | _ => none
def withC (ρ : En) (r : Sl) (k : D → Prop) : Prop := match cont ρ r with
  | some d => k d
  | none => False
def conts (ρ : En) : List Sl → Option (List D)
  | [] => some []
  | r :: rs => match cont ρ r, conts ρ rs with
    | some d, some ds => some (d :: ds)
    | _, _ => none
def withCs (ρ : En) (rs : List Sl) (k : List D → Prop) : Prop := match conts ρ rs with
  | some ds => k ds
  | none => False
theorem withC_some {ρ : En} {r : Sl} {k : D → Prop} (h : withC ρ r k) : ∃ d, cont ρ r = some d ∧ k d := by
  unfold withC at h
  cases e : cont ρ r with
  | none => rw [e] at h; exact h.elim
  | some d => rw [e] at h; exact ⟨d, rfl, h⟩
theorem withCs_some {ρ : En} {rs : List Sl} {k : List D → Prop} (h : withCs ρ rs k) : ∃ ds, conts ρ rs = some ds ∧ k ds := by
  unfold withCs at h
  cases e : conts ρ rs with
  | none => rw [e] at h; exact h.elim
  | some d => rw [e] at h; exact ⟨d, rfl, h⟩

/-- readable: a list at the top may be anybody's -/
def RdB (K : PySem.W.Frag) (B H : Hp) (v : V) : D → Prop
  | .lst ds => ∃ a xs, v = V.ref a ∧ SqL K H a xs ∧ IpAll K B H xs ds
  | d => Ip K B H v d
inductive RdAll (K : PySem.W.Frag) (B H : Hp) : List V → List D → Prop
  | nil : RdAll K B H [] []
  | cons {v vs d ds} : RdB K B H v d → RdAll K B H vs ds → RdAll K B H (v :: vs) (d :: ds)

section
variable {K : PySem.W.Frag} {B B' B1 B2 H H' H0 H1 H2 : Hp} {σ : St} {ρ ρ' ρ1 ρ2 : En} {v : V} {r : Sl} {d : D}
theorem Ip.rd (sub : Same B H) (h : Ip K B H v d) : RdB K B H v d := by
  cases d with
  | lst ds =>
    cases h with
    | lst a b => exact ⟨_, _, rfl, sub.seq a, b⟩
  | _ => exact h
theorem SR.bor (s : SR K B σ ρ H) {i : Nat} {ds : List D} (e : ρ[i]? = some (some (.own ds)) ∨ ρ[i]? = some (some (.inn ds))) (hv : σ[i]? = some (some v)) : OwnL K B H v ds := by
  rcases e with e | e
  · obtain ⟨u, hu, r⟩ := s.slot i _ e
    rw [hv] at hu; cases hu; exact r
  · obtain ⟨u, hu, r⟩ := s.slot i _ e
    rw [hv] at hu; cases hu; exact r
theorem cont_bor {ρ : En} {i : Nat} {d : D} (h : cont ρ (.bor i) = some d) : ∃ ds, d = .lst ds ∧ (ρ[i]? = some (some (.own ds)) ∨ ρ[i]? = some (some (.inn ds))) := by
  have h : (match ρ[i]? with
    | some (some (.own ds)) => some (D.lst ds)
    | some (some (.inn ds)) => some (D.lst ds)
    | _ => none) = some d := h
  cases e : ρ[i]? with
  | none => rw [e] at h; cases h
  | some o =>
    rw [e] at h
    cases o with
    | none => cases h
    | some sl =>
      cases sl with
      | dat d => cases h
      | own ds => exact ⟨ds, (Option.some.inj h).symm, .inl rfl⟩
      | inn ds => exact ⟨ds, (Option.some.inj h).symm, .inr rfl⟩
      | bor j => cases h
theorem RvR.rd (s : SR K B σ ρ H) (h : RvR K B σ ρ H0 H v r) (e : cont ρ r = some d) : RdB K B H v d := by
  cases r with
  | dat d' =>
    have e' : d' = d := Option.some.inj e
    subst e'
    exact Ip.rd s.sub h
  | own ds =>
    have e' : D.lst ds = d := Option.some.inj e
    subst e'
    obtain ⟨p, vs, ev, _, _, hp, ha, _⟩ := h
    exact ⟨p, vs, ev, .inl (.inl hp), ha⟩
  | inn ds => cases e
  | bor i =>
    obtain ⟨ds, rfl, q⟩ := cont_bor e
    obtain ⟨p, vs, ev, _, hp, ha⟩ := s.bor q h.2
    exact ⟨p, vs, ev, .inl (.inl hp), ha⟩
theorem RvAll.rd (s : SR K B σ ρ H) {vs : List V} {rs : List Sl} (h : RvAll K B σ ρ H H0 vs rs) : ∀ {ds : List D}, conts ρ rs = some ds → RdAll K B H vs ds := by
  induction h with
  | nil => intro ds e; cases e; exact .nil
  | @cons H0 H1 v vs r rs h1 h2 h3 h4 ih =>
    intro ds e
    unfold conts at e
    cases e1 : cont ρ r with
    | none => rw [e1] at e; cases e
    | some d =>
      cases e2 : conts ρ rs with
      | none => rw [e1, e2] at e; cases e
      | some ds' =>
        rw [e1, e2] at e
        cases e
        exact .cons (h1.rd s e1) (ih e2)

/-! ### what a primitive gives -/
def RvV (K : PySem.W.Frag) (B H H' : Hp) (v : V) : Sl → Prop
  | .dat d => Ip K B H' v d
  | .own ds => ∃ p vs, v = V.ref p ∧ H p = none ∧ H' p = some (.lst vs) ∧ IpAll K B H' vs ds
  | _ => False
theorem SR.same (s : SR K B σ ρ H) (e : Same H H') : SR K B σ ρ H' where
  len := s.len
  sub := s.sub.trans e
  slot := fun i sl h => by
    obtain ⟨v, hv, r⟩ := s.slot i sl h
    refine ⟨v, hv, ?_⟩
    cases sl with
    | dat d => exact Ip.mono (Same.refl B) (Tups.of e) r
    | own ds => obtain ⟨p, vs, a, b, c, dd⟩ := r; exact ⟨p, vs, a, b, e _ _ c, dd.mono (Same.refl B) (Tups.of e)⟩
    | inn ds => obtain ⟨p, vs, a, b, c, dd⟩ := r; exact ⟨p, vs, a, b, e _ _ c, dd.mono (Same.refl B) (Tups.of e)⟩
    | bor i => exact r.elim
  inj := s.inj
theorem Tr.same (e : Same H H') : Tr σ B ρ H B ρ H' := ⟨fun _ _ h _ => e _ _ h, Same.refl _, fun _ h => .inl h, fun _ => rfl, fun _ ds e => ⟨ds, e⟩⟩
theorem Same.bnone (s : Same B H) {p : Addr} (h : H p = none) : B p = none := by
  cases q : B p with
  | none => rfl
  | some o => rw [s p o q] at h; cases h
theorem RvV.rv (s : SR K B σ ρ H) (e : Same H H') (h : RvV K B H H' v r) : RvR K B σ ρ H H' v r := by
  cases r with
  | dat d => exact h
  | own ds =>
    obtain ⟨p, vs, a, b, c, dd⟩ := h
    exact ⟨p, vs, a, b, Same.bnone s.sub b, c, dd, fun z => by obtain ⟨ws, q, _⟩ := s.own z; rw [b] at q; cases q⟩
  | inn ds => exact h.elim
  | bor i => exact h.elim
theorem Tr.free (s' : SR K B' σ ρ' H') (t : Tr σ B ρ H B' ρ' H') {b : Addr} (h : H' b = none) : H b = none := by
  cases q : H b with
  | none => rfl
  | some o =>
    by_cases n : OwnAt σ ρ b
    · obtain ⟨vs, e, _⟩ := s'.own (t.ownAt.mpr n)
      rw [h] at e; cases e
    · rw [t.ext b o q n] at h; cases h
/-- the heap ahead may be an elder one -/
theorem RvR.early (s1 : SR K B1 σ ρ1 H1) (t : Tr σ B ρ H B1 ρ1 H1) (h : RvR K B2 σ ρ2 H1 H2 v r) : RvR K B2 σ ρ2 H H2 v r := by
  cases r with
  | own ds => obtain ⟨p, vs, a, b, c⟩ := h; exact ⟨p, vs, a, t.free s1 b, c⟩
  | _ => exact h
theorem XWof.lift {W : WX} {Xw : Value → En → Prop} (s1 : SR K B1 σ ρ1 H1) (t : Tr σ B ρ H B1 ρ1 H1) (h : XWof K W σ B ρ H Xw) : XWof K W σ B1 ρ1 H1 Xw :=
  fun c B' ρ' H' s' t' q => h c B' ρ' H' s' (t.trans s1 t') q
end

/-! ### primitives: soundness of a reading -/
def PP (K : PySem.W.Frag) (B H : Hp) (Qw : Sl → Prop) (Q : VK) : Prop := ∀ v sl H', Same H H' → RvV K B H H' v sl → Qw sl → Q v H'
abbrev G2 := D → D → (Sl → Prop) → Prop
abbrev G1 := D → (Sl → Prop) → Prop
abbrev GN := List D → (Sl → Prop) → Prop
def OpS (K : PySem.W.Frag) (r : R2) (g : G2) : Prop := ∀ (B H : Hp) (x y : V) (d e : D) (Qw : Sl → Prop) (Q : VK), Same B H → RdB K B H x d → RdB K B H y e → g d e Qw → PP K B H Qw Q → r x y H Q
def UnS (K : PySem.W.Frag) (r : V → Hp → VK → Prop) (g : G1) : Prop := ∀ (B H : Hp) (x : V) (d : D) (Qw : Sl → Prop) (Q : VK), Same B H → RdB K B H x d → g d Qw → PP K B H Qw Q → r x H Q
def CallS (K : PySem.W.Frag) (r : List V → Hp → VK → Prop) (g : GN) : Prop := ∀ (B H : Hp) (xs : List V) (ds : List D) (Qw : Sl → Prop) (Q : VK), Same B H → RdAll K B H xs ds → g ds Qw → PP K B H Qw Q → r xs H Q
theorem OpS.or {K : PySem.W.Frag} {r r' : R2} {g g' : G2} (h : OpS K r g) (h' : OpS K r' g') : OpS K (fun x y H Q => r x y H Q ∨ r' x y H Q) (fun d e Q => g d e Q ∨ g' d e Q) :=
  fun B H x y d e Qw Q s a b q p => q.elim (fun q => .inl (h B H x y d e Qw Q s a b q p)) fun q => .inr (h' B H x y d e Qw Q s a b q p)
theorem CallS.or {K : PySem.W.Frag} {r r' : List V → Hp → VK → Prop} {g g' : GN} (h : CallS K r g) (h' : CallS K r' g') : CallS K (fun x H Q => r x H Q ∨ r' x H Q) (fun d Q => g d Q ∨ g' d Q) :=
  fun B H x d Qw Q s a q p => q.elim (fun q => .inl (h B H x d Qw Q s a q p)) fun q => .inr (h' B H x d Qw Q s a q p)

/-! ### expressions -/
def wVar (i : Nat) : EW := fun ρ Q _ => match ρ[i]? with
  | some (some (.dat d)) => Q (.dat d) ρ
  | some (some (.own _)) => Q (.bor i) ρ
  | some (some (.inn _)) => Q (.bor i) ρ
  | _ => False
def wC (d : D) : EW := fun ρ Q _ => Q (.dat d) ρ
def wOp (g : G2) (wa wb : EW) : EW := fun ρ Q X => wa ρ (fun a ρ1 => wb ρ1 (fun b ρ2 => withC ρ2 a fun d => withC ρ2 b fun e => g d e fun r => Q r ρ2) X) X
def wUn (g : G1) (wa : EW) : EW := fun ρ Q X => wa ρ (fun a ρ1 => withC ρ1 a fun d => g d fun r => Q r ρ1) X
def wNil : AW := fun ρ Q _ => Q [] ρ
def wCons (wa : EW) (wr : AW) : AW := fun ρ Q X => wa ρ (fun a ρ1 => wr ρ1 (fun rs ρ2 => Q (a :: rs) ρ2) X) X
def wCB (g : GN) (wa : AW) : EW := fun ρ Q X => wa ρ (fun rs ρ1 => withCs ρ1 rs fun ds => g ds fun r => Q r ρ1) X

section
variable {K : PySem.W.Frag} {W : WX}
theorem sim_var (i : Nat) : SimE K W (tVar i) (wVar i) := by
  intro B σ ρ H Qw Xw Q s h hx q
  unfold wVar at h
  cases e : ρ[i]? with
  | none => rw [e] at h; exact h.elim
  | some o =>
    rw [e] at h
    cases o with
    | none => exact h.elim
    | some sl =>
      obtain ⟨v, hv, r⟩ := s.slot i sl e
      cases sl with
      | dat d => exact ⟨v, hv, q v (.dat d) B ρ H s (Tr.refl ..) r h⟩
      | own ds => exact ⟨v, hv, q v (.bor i) B ρ H s (Tr.refl ..) ⟨by rw [e]; rfl, hv⟩ h⟩
      | inn ds => exact ⟨v, hv, q v (.bor i) B ρ H s (Tr.refl ..) ⟨by rw [e]; rfl, hv⟩ h⟩
      | bor j => exact h.elim
theorem sim_c {v : V} {d : D} (h : ∀ B H, Ip K B H v d) : SimE K W (tC v) (wC d) :=
  fun B σ ρ H Qw Xw Q s hw hx q => q v (.dat d) B ρ H s (Tr.refl ..) (h B H) hw
theorem sim_op {r : R2} {g : G2} {ta tb : TE} {wa wb : EW} (o : OpS K r g) (ha : SimE K W ta wa) (hb : SimE K W tb wb) : SimE K W (tOp r ta tb) (wOp g wa wb) := by
  intro B σ ρ H Qw Xw Q s h hx q
  refine ha B σ ρ H _ Xw _ s h hx fun v r1 B1 ρ1 H1 s1 t1 rv1 q1 => ?_
  refine hb B1 σ ρ1 H1 _ Xw _ s1 q1 (hx.lift s1 t1) fun u r2 B2 ρ2 H2 s2 t2 rv2 q2 => ?_
  obtain ⟨d, e1, q2⟩ := withC_some q2
  obtain ⟨e, e2, q2⟩ := withC_some q2
  have t12 := t1.trans s1 t2
  refine o B2 H2 v u d e _ Q s2.sub ((rv1.lift s1 t2).rd s2 e1) (rv2.rd s2 e2) q2 fun z sl H' sm rv qq => ?_
  exact q z sl B2 ρ2 H' (s2.same sm) (t12.trans s2 (Tr.same sm)) ((rv.rv s2 sm).early s2 t12) qq
theorem sim_un {r : V → Hp → VK → Prop} {g : G1} {ta : TE} {wa : EW} (o : UnS K r g) (ha : SimE K W ta wa) : SimE K W (tUn r ta) (wUn g wa) := by
  intro B σ ρ H Qw Xw Q s h hx q
  refine ha B σ ρ H _ Xw _ s h hx fun v r1 B1 ρ1 H1 s1 t1 rv1 q1 => ?_
  obtain ⟨d, e1, q1⟩ := withC_some q1
  refine o B1 H1 v d _ Q s1.sub (rv1.rd s1 e1) q1 fun z sl H' sm rv qq => ?_
  exact q z sl B1 ρ1 H' (s1.same sm) (t1.trans s1 (Tr.same sm)) ((rv.rv s1 sm).early s1 t1) qq
theorem sim_nil : SimA K W tNil wNil := fun B σ ρ H Qw Xw Q s h hx q => q [] [] B ρ H s (Tr.refl ..) .nil h
theorem sim_cons {ta : TE} {tr : TA} {wa : EW} {wr : AW} (ha : SimE K W ta wa) (hr : SimA K W tr wr) : SimA K W (tCons ta tr) (wCons wa wr) := by
  intro B σ ρ H Qw Xw Q s h hx q
  refine ha B σ ρ H _ Xw _ s h hx fun v r1 B1 ρ1 H1 s1 t1 rv1 q1 => ?_
  refine hr B1 σ ρ1 H1 _ Xw _ s1 q1 (hx.lift s1 t1) fun vs rs B2 ρ2 H2 s2 t2 rv2 q2 => ?_
  refine q (v :: vs) (r1 :: rs) B2 ρ2 H2 s2 (t1.trans s1 t2) (.cons (rv1.lift s1 t2) (fun b hb => t1.free s1 hb) (fun p ds e1 e2 => ?_) rv2) q2
  subst e1
  obtain ⟨p', vs', e, _, _, hp, _⟩ := rv1
  rw [e2] at e; cases e
  rw [hp]; simp
theorem sim_cb {r : List V → Hp → VK → Prop} {g : GN} {ta : TA} {wa : AW} (o : CallS K r g) (ha : SimA K W ta wa) : SimE K W (tCB r ta) (wCB g wa) := by
  intro B σ ρ H Qw Xw Q s h hx q
  refine ha B σ ρ H _ Xw _ s h hx fun vs rs B1 ρ1 H1 s1 t1 rv1 q1 => ?_
  obtain ⟨ds, e1, q1⟩ := withCs_some q1
  refine o B1 H1 vs ds _ Q s1.sub (rv1.rd s1 e1) q1 fun z sl H' sm rv qq => ?_
  exact q z sl B1 ρ1 H' (s1.same sm) (t1.trans s1 (Tr.same sm)) ((rv.rv s1 sm).early s1 t1) qq
end

section
variable {X : Cx} {W : WX} {a b e : Expr} {es : List Expr} {wa wb : EW} {wr : AW} {pos p : Pos}
theorem de_var (i : Nat) {x : Str} (hN : X.N[i]? = some x := by rfl) (hv : Vis X.env.scope x := by first | exact Or.inl rfl | exact Or.inr (Or.inl rfl) | exact Or.inr (Or.inr rfl)) (hd : (x == ("__debug__" : Str)) = false := by decide)
    (hcd : (x == ("__classdict__" : Str)) = false := by decide) : DE X W (.Name x pos) (wVar i) := ⟨_, pe_var hN hv hd hcd, sim_var i⟩
theorem de_int {i j} : DE X W (.Constant (.int i) j pos) (wC (.int i)) := ⟨_, pe_int, sim_c fun _ _ => .int i⟩
theorem de_bl {i j} : DE X W (.Constant (.bool i) j pos) (wC (.bl i)) := ⟨_, pe_bl, sim_c fun _ _ => .bl i⟩
theorem de_non {j} : DE X W (.Constant .none j pos) (wC .non) := ⟨_, pe_non, sim_c fun _ _ => .non⟩
theorem de_str {i j} : DE X W (.Constant (.str i) j pos) (wC (.str i)) := ⟨_, pe_str, sim_c fun _ _ => .str i⟩
theorem de_op {op : Operator} {r : R2} {g : G2} (ho : OpR X (binaryOp op) r) (o : OpS X.K r g) (ha : DE X W a wa) (hb : DE X W b wb) : DE X W (.BinOp a op b pos) (wOp g wa wb) := by
  obtain ⟨ta, pa, sa⟩ := ha.ok
  obtain ⟨tb, pb, sb⟩ := hb.ok
  exact ⟨_, pe_op ho pa pb, sim_op o sa sb⟩
theorem de_un {op : UnaryOp} {r : V → Hp → VK → Prop} {g : G1} (ho : UnR X (unaryOp op) r) (o : UnS X.K r g) (ha : DE X W a wa) : DE X W (.UnaryOp op a pos) (wUn g wa) := by
  obtain ⟨ta, pa, sa⟩ := ha.ok
  exact ⟨_, pe_un ho pa, sim_un o sa⟩
theorem de_cmp {op : CmpOp} {r : R2} {g : G2} (ho : OpR X (compareOp op) r) (o : OpS X.K r g) (ha : DE X W a wa) (hb : DE X W b wb) (hm : behindInMarks op b = false) : DE X W (.Compare a [op] [b] pos) (wOp g wa wb) := by
  obtain ⟨ta, pa, sa⟩ := ha.ok
  obtain ⟨tb, pb, sb⟩ := hb.ok
  exact ⟨_, pe_cmpR ho pa pb hm, sim_op o sa sb⟩
theorem da_nil : DA X W [] wNil := ⟨_, pa_nil, sim_nil⟩
theorem da_cons (ha : DE X W e wa) (hr : DA X W es wr) (hs : starEach (e :: es) X.env = (false, eval e X.env) :: starEach es X.env := by rfl) : DA X W (e :: es) (wCons wa wr) := by
  obtain ⟨ta, pa, sa⟩ := ha.ok
  obtain ⟨tr, pr, sr⟩ := hr.ok
  exact ⟨_, pa_cons pa pr hs, sim_cons sa sr⟩
theorem de_cb {x : Str} {id : String} {r : List V → Hp → VK → Prop} {g : GN} (hc : CallR X (.builtin id) r) (o : CallS X.K r g) (hg : Gl X x) (hm : X.mg x = none) (hv : bootBuiltins x = some (.builtin id)) (ha : DA X W (e :: es) wr) (hn : x ≠ "__name__" := by decide) (hdb : (x == ("__debug__" : Str)) = false := by decide)
    (he : starEach (e :: es) X.env = (false, eval e X.env) :: starEach es X.env := by rfl) (hpl : (backTo pos (starEach es X.env)).any (·.1) = false := by rfl) : DE X W (.Call (.Name x p) (e :: es) [] pos) (wCB g wr) := by
  obtain ⟨ta, pa, sa⟩ := ha.ok
  exact ⟨_, pe_callB hc hg hm hv pa hn hdb he hpl, sim_cb o sa⟩
theorem de_ct {x : Str} {T : String} {r : List V → Hp → VK → Prop} {g : GN} (hc : CallR X (.type T) r) (o : CallS X.K r g) (hg : Gl X x) (hm : X.mg x = none) (hv : bootBuiltins x = some (.type T)) (ha : DA X W (e :: es) wr) (hn : x ≠ "__name__" := by decide) (hdb : (x == ("__debug__" : Str)) = false := by decide)
    (he : starEach (e :: es) X.env = (false, eval e X.env) :: starEach es X.env := by rfl) (hpl : (backTo pos (starEach es X.env)).any (·.1) = false := by rfl) : DE X W (.Call (.Name x p) (e :: es) [] pos) (wCB g wr) := by
  obtain ⟨ta, pa, sa⟩ := ha.ok
  exact ⟨_, pe_callTy hc hg hm hv pa hn hdb he hpl, sim_cb o sa⟩
end
end DL

set_option Elab.async false
set_option linter.all false
set_option maxRecDepth 100000
set_option maxHeartbeats 4000000
/-! DLc: tests, displays, calls of defs, changes of one's own lists. -/
namespace DL
open PySem L2

/-! ### tests -/
def wTru (wa : EW) : TWs := fun ρ Q X => wa ρ (fun a ρ1 => withC ρ1 a fun d => match d with
  | .bl b => Q b ρ1
  | .non => Q false ρ1
  | .int i => Q (i != 0) ρ1
  | .tup ds => Q (!ds.isEmpty) ρ1
  | .lst ds => Q (!ds.isEmpty) ρ1
  | _ => False) X
def wAnd (wa wb : TWs) : TWs := fun ρ Q X => wa ρ (fun c ρ1 => if c = true then wb ρ1 Q X else Q false ρ1) X
def wOr (wa wb : TWs) : TWs := fun ρ Q X => wa ρ (fun c ρ1 => if c = true then Q true ρ1 else wb ρ1 Q X) X
def wNot (wa : TWs) : TWs := fun ρ Q X => wa ρ (fun c ρ1 => Q (!c) ρ1) X
def wIfE (wc : TWs) (wa wb : EW) : EW := fun ρ Q X => wc ρ (fun c ρ1 => if c = true then wa ρ1 Q X else wb ρ1 Q X) X
section
variable {K : PySem.W.Frag} {W : WX}
theorem IpAll.isEmpty {B H : Hp} {vs : List V} {ds : List D} (h : IpAll K B H vs ds) : (!ds.isEmpty) = !vs.isEmpty := by
  cases h <;> rfl
theorem sim_tru {ta : TE} {wa : EW} (ha : SimE K W ta wa) : SimT K W (fun σ H Q => ta σ H fun x H' => ∃ k, TruV K x H' k ∧ Q k H') (wTru wa) := by
  intro B σ ρ H Qw Xw Q s h hx q
  refine ha B σ ρ H _ Xw _ s h hx fun v r1 B1 ρ1 H1 s1 t1 rv1 q1 => ?_
  obtain ⟨d, e1, q1⟩ := withC_some q1
  have rd := rv1.rd s1 e1
  cases d with
  | bl b => cases rd; exact ⟨b, rfl, q _ _ _ _ s1 t1 q1⟩
  | non => cases rd; exact ⟨false, rfl, q _ _ _ _ s1 t1 q1⟩
  | int i => cases rd; exact ⟨_, rfl, q _ _ _ _ s1 t1 q1⟩
  | tup ds => cases rd with | tup hh hd => exact ⟨_, .inr (.inl ⟨_, hh, hd.isEmpty⟩), q _ _ _ _ s1 t1 q1⟩
  | lst ds => obtain ⟨a, xs, rfl, hh, hd⟩ := rd; exact ⟨_, .inl ⟨_, hh, hd.isEmpty⟩, q _ _ _ _ s1 t1 q1⟩
  | str x => exact q1.elim
  | adr x => exact q1.elim
  | ty x => exact q1.elim
theorem sim_trub {t : TE} {wa : EW} (ha : SimE K W t wa) : SimT K W (tTest t) (fun ρ Q X => wa ρ (fun a ρ1 => match a with | .dat (.bl b) => Q b ρ1 | _ => False) X) := by
  intro B σ ρ H Qw Xw Q s h hx q
  refine ha B σ ρ H _ Xw _ s h hx fun v r1 B1 ρ1 H1 s1 t1 rv1 q1 => ?_
  cases r1 with
  | dat d =>
    cases d with
    | bl b => cases rv1; exact ⟨b, rfl, q _ _ _ _ s1 t1 q1⟩
    | _ => exact q1.elim
  | _ => exact q1.elim
theorem sim_and {ta tb : TT} {wa wb : TWs} (ha : SimT K W ta wa) (hb : SimT K W tb wb) : SimT K W (tAnd ta tb) (wAnd wa wb) := by
  intro B σ ρ H Qw Xw Q s h hx q
  refine ha B σ ρ H _ Xw _ s h hx fun c B1 ρ1 H1 s1 t1 q1 => ?_
  cases c with
  | true => exact hb B1 σ ρ1 H1 Qw Xw Q s1 q1 (hx.lift s1 t1) fun b B2 ρ2 H2 s2 t2 q2 => q b B2 ρ2 H2 s2 (t1.trans s1 t2) q2
  | false => exact q _ _ _ _ s1 t1 q1
theorem sim_or {ta tb : TT} {wa wb : TWs} (ha : SimT K W ta wa) (hb : SimT K W tb wb) : SimT K W (tOr ta tb) (wOr wa wb) := by
  intro B σ ρ H Qw Xw Q s h hx q
  refine ha B σ ρ H _ Xw _ s h hx fun c B1 ρ1 H1 s1 t1 q1 => ?_
  cases c with
  | false => exact hb B1 σ ρ1 H1 Qw Xw Q s1 q1 (hx.lift s1 t1) fun b B2 ρ2 H2 s2 t2 q2 => q b B2 ρ2 H2 s2 (t1.trans s1 t2) q2
  | true => exact q _ _ _ _ s1 t1 q1
theorem sim_not {ta : TT} {wa : TWs} (ha : SimT K W ta wa) : SimT K W (tNot ta) (wNot wa) := by
  intro B σ ρ H Qw Xw Q s h hx q
  exact ha B σ ρ H _ Xw _ s h hx fun c B1 ρ1 H1 s1 t1 q1 => q _ _ _ _ s1 t1 q1
theorem sim_ifE {tc : TT} {wc : TWs} {ta tb : TE} {wa wb : EW} (hc : SimT K W tc wc) (ha : SimE K W ta wa) (hb : SimE K W tb wb) : SimE K W (tIf tc ta tb) (wIfE wc wa wb) := by
  intro B σ ρ H Qw Xw Q s h hx q
  refine hc B σ ρ H _ Xw _ s h hx fun c B1 ρ1 H1 s1 t1 q1 => ?_
  cases c with
  | true => exact ha B1 σ ρ1 H1 Qw Xw Q s1 q1 (hx.lift s1 t1) fun v r B2 ρ2 H2 s2 t2 rv q2 => q v r B2 ρ2 H2 s2 (t1.trans s1 t2) (rv.early s1 t1) q2
  | false => exact hb B1 σ ρ1 H1 Qw Xw Q s1 q1 (hx.lift s1 t1) fun v r B2 ρ2 H2 s2 t2 rv q2 => q v r B2 ρ2 H2 s2 (t1.trans s1 t2) (rv.early s1 t1) q2
/-- a test as a value: True or False -/
def wBv (w : TWs) : EW := fun ρ Q X => w ρ (fun c ρ1 => Q (.dat (.bl c)) ρ1) X
theorem sim_andV {ta tb : TE} {wa wb : EW} (ha : SimE K W ta wa) (hb : SimE K W tb wb) : SimE K W (tAndV ta tb) (fun ρ Q X => wa ρ (fun a ρ1 => match a with | .dat (.bl c) => if c = true then wb ρ1 Q X else Q (.dat (.bl false)) ρ1 | _ => False) X) := by
  intro B σ ρ H Qw Xw Q s h hx q
  refine ha B σ ρ H _ Xw _ s h hx fun v r1 B1 ρ1 H1 s1 t1 rv1 q1 => ?_
  cases r1 with
  | dat d =>
    cases d with
    | bl c =>
      cases rv1
      refine ⟨c, rfl, ?_⟩
      cases c with
      | true => exact hb B1 σ ρ1 H1 Qw Xw Q s1 q1 (hx.lift s1 t1) fun v r B2 ρ2 H2 s2 t2 rv q2 => q v r B2 ρ2 H2 s2 (t1.trans s1 t2) (rv.early s1 t1) q2
      | false => exact q _ (.dat (.bl false)) _ _ _ s1 t1 (.bl false) q1
    | _ => exact q1.elim
  | _ => exact q1.elim
theorem sim_orV {ta tb : TE} {wa wb : EW} (ha : SimE K W ta wa) (hb : SimE K W tb wb) : SimE K W (tOrV ta tb) (fun ρ Q X => wa ρ (fun a ρ1 => match a with | .dat (.bl c) => if c = true then Q (.dat (.bl true)) ρ1 else wb ρ1 Q X | _ => False) X) := by
  intro B σ ρ H Qw Xw Q s h hx q
  refine ha B σ ρ H _ Xw _ s h hx fun v r1 B1 ρ1 H1 s1 t1 rv1 q1 => ?_
  cases r1 with
  | dat d =>
    cases d with
    | bl c =>
      cases rv1
      refine ⟨c, rfl, ?_⟩
      cases c with
      | false => exact hb B1 σ ρ1 H1 Qw Xw Q s1 q1 (hx.lift s1 t1) fun v r B2 ρ2 H2 s2 t2 rv q2 => q v r B2 ρ2 H2 s2 (t1.trans s1 t2) (rv.early s1 t1) q2
      | true => exact q _ (.dat (.bl true)) _ _ _ s1 t1 (.bl true) q1
    | _ => exact q1.elim
  | _ => exact q1.elim
theorem sim_notV {ta : TE} {wa : EW} (ha : SimE K W ta wa) : SimE K W (tNotV ta) (fun ρ Q X => wa ρ (fun a ρ1 => match a with | .dat (.bl c) => Q (.dat (.bl (!c))) ρ1 | _ => False) X) := by
  intro B σ ρ H Qw Xw Q s h hx q
  refine ha B σ ρ H _ Xw _ s h hx fun v r1 B1 ρ1 H1 s1 t1 rv1 q1 => ?_
  cases r1 with
  | dat d =>
    cases d with
    | bl c => cases rv1; exact ⟨c, rfl, q _ (.dat (.bl (!c))) _ _ _ s1 t1 (.bl _) q1⟩
    | _ => exact q1.elim
  | _ => exact q1.elim
end
def wAndV (wa wb : EW) : EW := fun ρ Q X => wa ρ (fun a ρ1 => match a with | .dat (.bl c) => if c = true then wb ρ1 Q X else Q (.dat (.bl false)) ρ1 | _ => False) X
def wOrV (wa wb : EW) : EW := fun ρ Q X => wa ρ (fun a ρ1 => match a with | .dat (.bl c) => if c = true then Q (.dat (.bl true)) ρ1 else wb ρ1 Q X | _ => False) X
def wNotV (wa : EW) : EW := fun ρ Q X => wa ρ (fun a ρ1 => match a with | .dat (.bl c) => Q (.dat (.bl (!c))) ρ1 | _ => False) X
def wTb (wa : EW) : TWs := fun ρ Q X => wa ρ (fun a ρ1 => match a with | .dat (.bl b) => Q b ρ1 | _ => False) X
structure DW (X : Cx) (W : WX) (e : Expr) (w : TWs) : Prop where
  ok : ∃ t, PW X e t ∧ SimT X.K W t w
section
variable {X : Cx} {W : WX} {a b c e : Expr} {rest : List Expr} {wa wb : EW} {ta tb : TWs} {pos p : Pos}
theorem dt_tru (ha : DE X W a wa) (he : ∀ whole, isTrue a X.env whole = (do let v ← whole; standAt a.pos; holding [v] (truthy v)) := by intro _; rfl) : DT X W a (wTru wa) := by
  obtain ⟨t, pa, sa⟩ := ha.ok
  exact ⟨_, pt_truth pa he, sim_tru sa⟩
theorem dt_cmp {op : CmpOp} {r : R2} {g : G2} (ho : OpR X (compareOp op) r) (o : OpS X.K r g) (ha : DE X W a wa) (hb : DE X W b wb) (hm : behindInMarks op b = false) : DT X W (.Compare a [op] [b] pos) (wTb (wOp g wa wb)) := by
  obtain ⟨t1, pa, sa⟩ := ha.ok
  obtain ⟨t2, pb, sb⟩ := hb.ok
  exact ⟨_, pt_cmpR ho pa pb hm, sim_trub (sim_op o sa sb)⟩
theorem dw_and1 (ha : DT X W a ta) : DW X W (.BoolOp .And [a] pos) ta := by
  obtain ⟨t, pa, sa⟩ := ha.ok
  exact ⟨_, pw_and1 pa, sa⟩
theorem dw_or1 (ha : DT X W a ta) : DW X W (.BoolOp .Or [a] pos) ta := by
  obtain ⟨t, pa, sa⟩ := ha.ok
  exact ⟨_, pw_or1 pa, sa⟩
theorem dw_and (ha : DT X W a ta) (hb : DW X W (.BoolOp .And (b :: rest) pos) tb) : DW X W (.BoolOp .And (a :: b :: rest) pos) (wAnd ta tb) := by
  obtain ⟨t, pa, sa⟩ := ha.ok
  obtain ⟨t2, pb, sb⟩ := hb.ok
  exact ⟨_, pw_and pa pb, sim_and sa sb⟩
theorem dw_or (ha : DT X W a ta) (hb : DW X W (.BoolOp .Or (b :: rest) pos) tb) : DW X W (.BoolOp .Or (a :: b :: rest) pos) (wOr ta tb) := by
  obtain ⟨t, pa, sa⟩ := ha.ok
  obtain ⟨t2, pb, sb⟩ := hb.ok
  exact ⟨_, pw_or pa pb, sim_or sa sb⟩
theorem dt_w (ha : DW X W e ta) : DT X W e ta := by
  obtain ⟨t, pa, sa⟩ := ha.ok
  exact ⟨_, pa.pt, sa⟩
theorem dt_not (ha : DT X W a ta) : DT X W (.UnaryOp .Not a pos) (wNot ta) := by
  obtain ⟨t, pa, sa⟩ := ha.ok
  exact ⟨_, pt_not pa, sim_not sa⟩
theorem de_ifE (hc : DT X W c ta) (ha : DE X W a wa) (hb : DE X W b wb) : DE X W (.IfExp c a b pos) (wIfE ta wa wb) := by
  obtain ⟨t, pc, sc⟩ := hc.ok
  obtain ⟨t1, pa, sa⟩ := ha.ok
  obtain ⟨t2, pb, sb⟩ := hb.ok
  exact ⟨_, pe_ifExp pc pa pb, sim_ifE sc sa sb⟩
theorem de_one {op} (ha : DE X W a wa) : DE X W (.BoolOp op [a] pos) wa := by
  obtain ⟨t, pa, sa⟩ := ha.ok
  exact ⟨_, pe_one pa, sa⟩
theorem de_and (ha : DE X W a wa) (hb : DE X W (.BoolOp .And (b :: rest) pos) wb) : DE X W (.BoolOp .And (a :: b :: rest) pos) (wAndV wa wb) := by
  obtain ⟨t, pa, sa⟩ := ha.ok
  obtain ⟨t2, pb, sb⟩ := hb.ok
  exact ⟨_, pe_and pa pb, sim_andV sa sb⟩
theorem de_or (ha : DE X W a wa) (hb : DE X W (.BoolOp .Or (b :: rest) pos) wb) : DE X W (.BoolOp .Or (a :: b :: rest) pos) (wOrV wa wb) := by
  obtain ⟨t, pa, sa⟩ := ha.ok
  obtain ⟨t2, pb, sb⟩ := hb.ok
  exact ⟨_, pe_or pa pb, sim_orV sa sb⟩
theorem de_not (ha : DE X W a wa) : DE X W (.UnaryOp .Not a pos) (wNotV wa) := by
  obtain ⟨t, pa, sa⟩ := ha.ok
  exact ⟨_, pe_not pa, sim_notV sa⟩
end

/-! ### lists given away -/
/-- as data: a new list is given away -/
def dats : List Sl → Option (List D)
  | [] => some []
  | .dat d :: rs => (dats rs).map (d :: ·)
  | .own ds :: rs => (dats rs).map (.lst ds :: ·)
  | _ => none
def withD (rs : List Sl) (k : List D → Prop) : Prop := match dats rs with
  | some ds => k ds
  | none => False
theorem withD_some {rs : List Sl} {k : List D → Prop} (h : withD rs k) : ∃ ds, dats rs = some ds ∧ k ds := by
  unfold withD at h
  cases e : dats rs with
  | none => rw [e] at h; exact h.elim
  | some d => rw [e] at h; exact ⟨d, rfl, h⟩
section
variable {K : PySem.W.Frag} {B B' H H' H0 H1 : Hp} {σ : St} {ρ ρ' : En}
theorem upd_same_sub {p : Addr} {o : HO} (h : B p = none) : Same B (upd B p o) := fun b x e => by
  rw [upd_ne (ne_of_none e h)]; exact e
theorem SR.grow (s : SR K B σ ρ H) (bb : Same B B') (sub : Same B' H) (no : ∀ b, OwnAt σ ρ b → B' b = none) : SR K B' σ ρ H where
  len := s.len
  sub := sub
  slot := fun i sl h => by
    obtain ⟨v, hv, r⟩ := s.slot i sl h
    refine ⟨v, hv, ?_⟩
    cases sl with
    | dat d => exact Ip.mono bb (Tups.of (Same.refl H)) r
    | own ds => obtain ⟨p, vs, a, b, c, dd⟩ := r; subst a; exact ⟨p, vs, rfl, no p ⟨i, by rw [h]; rfl, hv⟩, c, dd.mono bb (Tups.of (Same.refl H))⟩
    | inn ds => obtain ⟨p, vs, a, b, c, dd⟩ := r; subst a; exact ⟨p, vs, rfl, no p ⟨i, by rw [h]; rfl, hv⟩, c, dd.mono bb (Tups.of (Same.refl H))⟩
    | bor i => exact r.elim
  inj := s.inj
theorem RvR.bmono (bb : Same B B') {v : V} {r : Sl} (h : RvR K B σ ρ H0 H v r) (no : ∀ p ds, r = .own ds → v = .ref p → B' p = none) : RvR K B' σ ρ H0 H v r := by
  cases r with
  | dat d => exact Ip.mono bb (Tups.of (Same.refl H)) h
  | own ds => obtain ⟨p, vs, a, b, c, e, f, g⟩ := h; exact ⟨p, vs, a, b, no p ds rfl a, e, f.mono bb (Tups.of (Same.refl H)), g⟩
  | inn ds => exact h
  | bor i => exact h
theorem RvAll.bmono (bb : Same B B') {vs : List V} {rs : List Sl} (h : RvAll K B σ ρ H H0 vs rs) (no : ∀ b, H0 b = none → B b = none → B' b = none) : RvAll K B' σ ρ H H0 vs rs := by
  induction h with
  | nil => exact .nil
  | @cons H0 H1 v vs r rs h1 h2 h3 h4 ih =>
    refine .cons (h1.bmono bb fun p ds e1 e2 => ?_) h2 h3 (ih fun b hb hb2 => no b (h2 b hb) hb2)
    subst e1
    obtain ⟨p', ws, a, b, c, _⟩ := h1
    rw [e2] at a; cases a
    exact no p b c
theorem RvAll.freeze : ∀ {rs : List Sl} {vs : List V} {B H0 : Hp}, RvAll K B σ ρ H H0 vs rs → SR K B σ ρ H → ∀ {ds : List D}, dats rs = some ds →
    ∃ B', SR K B' σ ρ H ∧ Same B B' ∧ (∀ b, B' b ≠ none → B b ≠ none ∨ H0 b = none) ∧ IpAll K B' H vs ds
  | [], _, B, _, .nil, s, _, e => by cases e; exact ⟨B, s, Same.refl _, fun _ h => .inl h, .nil⟩
  | .dat d :: rs, _, B, _, .cons h1 h2 h3 h4, s, ds, e => by
      cases e2 : dats rs with
      | none => rw [dats, e2] at e; cases e
      | some ds' =>
        rw [dats, e2] at e; cases e
        obtain ⟨B', s', bb, bn, ia⟩ := RvAll.freeze h4 s e2
        exact ⟨B', s', bb, fun b hb => (bn b hb).imp id (h2 b), .cons (Ip.mono bb (Tups.of (Same.refl H)) h1) ia⟩
  | .own dl :: rs, _, B, _, .cons h1 h2 h3 h4, s, ds, e => by
      cases e2 : dats rs with
      | none => rw [dats, e2] at e; cases e
      | some ds' =>
        rw [dats, e2] at e; cases e
        obtain ⟨p, ws, ev, f0, nb, hp, iw, no⟩ := h1
        have bb1 : Same B (upd B p (.lst ws)) := upd_same_sub nb
        have s1 : SR K (upd B p (.lst ws)) σ ρ H := s.grow bb1 (fun b o q => by
          by_cases hb : b = p
          · subst hb; rw [upd_same] at q; cases q; exact hp
          · rw [upd_ne hb] at q; exact s.sub b o q) (fun b ob => by
          have hb : b ≠ p := fun z => no (z ▸ ob)
          rw [upd_ne hb]
          obtain ⟨_, _, q⟩ := s.own ob
          exact q)
        have h4' := h4.bmono bb1 fun b hb hb2 => by
          have hne : b ≠ p := fun z => h3 p dl rfl ev (z ▸ hb)
          rw [upd_ne hne]; exact hb2
        obtain ⟨B', s', bb, bn, ia⟩ := RvAll.freeze h4' s1 e2
        refine ⟨B', s', bb1.trans bb, fun b hb => ?_, .cons ?_ ia⟩
        · rcases bn b hb with z | z
          · by_cases hbp : b = p
            · subst hbp; exact .inr f0
            · rw [upd_ne hbp] at z; exact .inl z
          · exact .inr (h2 b z)
        · subst ev
          exact .lst (.inl (.inl (bb p _ upd_same))) (iw.mono (bb1.trans bb) (Tups.of (Same.refl H)))
  | .inn _ :: _, _, _, _, _, _, _, e => by cases e
  | .bor _ :: _, _, _, _, _, _, _, e => by cases e
end
def wTup (wa : AW) : EW := fun ρ Q X => wa ρ (fun rs ρ1 => withD rs fun ds => ds.length ≤ sizeLine ∧ Q (.dat (.tup ds)) ρ1) X
def wLst (wa : AW) : EW := fun ρ Q X => wa ρ (fun rs ρ1 => withD rs fun ds => ds.length ≤ sizeLine ∧ Q (.own ds) ρ1) X
section
variable {K : PySem.W.Frag} {W : WX} {ta : TA} {wa : AW}
theorem sim_tup (ha : SimA K W ta wa) : SimE K W (tTup ta) (wTup wa) := by
  intro B σ ρ H Qw Xw Q s h hx q
  refine ha B σ ρ H _ Xw _ s h hx fun vs rs B1 ρ1 H1 s1 t1 rv1 q1 => ?_
  obtain ⟨ds, e1, hl, q1⟩ := withD_some q1
  obtain ⟨B2, s2, bb, bn, ia⟩ := rv1.freeze s1 e1
  refine ⟨by rw [ia.length]; exact hl, fun p hp => ?_⟩
  have sm : Same H1 (upd H1 p (.tup vs)) := fun b o e => by rw [upd_ne (ne_of_none e hp)]; exact e
  have t2 : Tr σ B ρ H B2 ρ1 H1 := ⟨t1.ext, t1.bex.trans bb, fun b hb => (bn b hb).elim (fun z => t1.bnew b z) .inr, t1.shp, t1.shi⟩
  refine q (.ref p) (.dat (.tup ds)) B2 ρ1 _ (s2.same sm) (t2.trans s2 (Tr.same sm)) ?_ q1
  exact .tup (.inl (.inl upd_same)) (ia.mono (Same.refl _) (Tups.of sm))
theorem sim_lst (ha : SimA K W ta wa) : SimE K W (tLst ta) (wLst wa) := by
  intro B σ ρ H Qw Xw Q s h hx q
  refine ha B σ ρ H _ Xw _ s h hx fun vs rs B1 ρ1 H1 s1 t1 rv1 q1 => ?_
  obtain ⟨ds, e1, hl, q1⟩ := withD_some q1
  obtain ⟨B2, s2, bb, bn, ia⟩ := rv1.freeze s1 e1
  refine ⟨by rw [ia.length]; exact hl, fun p hp => ?_⟩
  have sm : Same H1 (upd H1 p (.lst vs)) := fun b o e => by rw [upd_ne (ne_of_none e hp)]; exact e
  have t2 : Tr σ B ρ H B2 ρ1 H1 := ⟨t1.ext, t1.bex.trans bb, fun b hb => (bn b hb).elim (fun z => t1.bnew b z) .inr, t1.shp, t1.shi⟩
  have rv : RvV K B2 H1 (upd H1 p (.lst vs)) (.ref p) (.own ds) := ⟨p, vs, rfl, hp, upd_same, ia.mono (Same.refl _) (Tups.of sm)⟩
  exact q (.ref p) (.own ds) B2 ρ1 _ (s2.same sm) (t2.trans s2 (Tr.same sm)) ((rv.rv s2 sm).early s2 t2) q1
end
section
variable {X : Cx} {W : WX} {es : List Expr} {wa : AW} {pos : Pos}
theorem de_tup {x1} (h : DA X W es wa) : DE X W (.Tuple es x1 pos) (wTup wa) := by
  obtain ⟨t, pa, sa⟩ := h.ok
  exact ⟨_, pe_tup pa, sim_tup sa⟩
theorem de_lst (h : DA X W es wa) : DE X W (.List es pos) (wLst wa) := by
  obtain ⟨t, pa, sa⟩ := h.ok
  exact ⟨_, pe_lst pa, sim_lst sa⟩
end
end DL

set_option Elab.async false
set_option linter.all false
set_option maxRecDepth 100000
set_option maxHeartbeats 4000000
/-! DLd: one's own lists changed; defs called. -/
namespace DL
open PySem L2

def H00 : Hp := fun _ => none
theorem same00 {H : Hp} : Same H00 H := fun _ _ e => by cases e
/-- the list in slot i has other items now -/
def setOwn (ρ : En) (i : Nat) (ds : List D) : En := match ρ[i]? with
  | some (some (.own _)) => ρ.set i (some (.own ds))
  | some (some (.inn _)) => ρ.set i (some (.inn ds))
  | _ => ρ
def withO (ρ : En) (i : Nat) (k : List D → Prop) : Prop := match ρ[i]? with
  | some (some (.own ds)) => k ds
  | some (some (.inn ds)) => k ds
  | _ => False
theorem withO_some {ρ : En} {i : Nat} {k : List D → Prop} (h : withO ρ i k) : ∃ ds, (ρ[i]? = some (some (.own ds)) ∨ ρ[i]? = some (some (.inn ds))) ∧ k ds := by
  unfold withO at h
  cases e : ρ[i]? with
  | none => rw [e] at h; exact h.elim
  | some o =>
    rw [e] at h
    cases o with
    | none => exact h.elim
    | some sl =>
      cases sl with
      | dat d => exact h.elim
      | own ds => exact ⟨ds, .inl rfl, h⟩
      | inn ds => exact ⟨ds, .inr rfl, h⟩
      | bor j => exact h.elim
section
variable {K : PySem.W.Frag} {B B' H H' H0 H1 : Hp} {σ : St} {ρ ρ' : En}
theorem setOwn_own {i : Nat} {ds es : List D} (e : ρ[i]? = some (some (.own ds))) : setOwn ρ i es = ρ.set i (some (.own es)) := by
  unfold setOwn; rw [e]
theorem setOwn_inn {i : Nat} {ds es : List D} (e : ρ[i]? = some (some (.inn ds))) : setOwn ρ i es = ρ.set i (some (.inn es)) := by
  unfold setOwn; rw [e]
theorem setOwn_shp (i : Nat) (es : List D) (j : Nat) : isOwn (setOwn ρ i es)[j]? = isOwn ρ[j]? := by
  unfold setOwn
  cases e : ρ[i]? with
  | none => rfl
  | some o =>
    cases o with
    | none => rfl
    | some sl =>
      have hi : i < ρ.length := (List.getElem?_eq_some_iff.mp e).1
      cases sl with
      | dat d => rfl
      | own ds =>
        show isOwn (ρ.set i _)[j]? = _
        by_cases hj : j = i
        · subst hj; rw [List.getElem?_set_self hi, e]; rfl
        · rw [List.getElem?_set_ne (Ne.symm hj)]
      | inn ds =>
        show isOwn (ρ.set i _)[j]? = _
        by_cases hj : j = i
        · subst hj; rw [List.getElem?_set_self hi, e]; rfl
        · rw [List.getElem?_set_ne (Ne.symm hj)]
      | bor k => rfl
theorem setOwn_shi (i : Nat) (es : List D) (j : Nat) (dl : List D) (e : ρ[j]? = some (some (.inn dl))) : ∃ d', (setOwn ρ i es)[j]? = some (some (.inn d')) := by
  by_cases hj : j = i
  · subst hj
    have hi : j < ρ.length := (List.getElem?_eq_some_iff.mp e).1
    exact ⟨es, by rw [setOwn_inn e, List.getElem?_set_self hi]⟩
  · refine ⟨dl, ?_⟩
    unfold setOwn
    cases q : ρ[i]? with
    | none => exact e
    | some o =>
      cases o with
      | none => exact e
      | some sl => cases sl <;> first | exact e | (show (ρ.set i _)[j]? = _; rw [List.getElem?_set_ne (Ne.symm hj)]; exact e)
theorem setOwn_length (i : Nat) (es : List D) : (setOwn ρ i es).length = ρ.length := by
  unfold setOwn
  cases e : ρ[i]? with
  | none => rfl
  | some o =>
    cases o with
    | none => rfl
    | some sl => cases sl <;> simp
theorem setOwn_ne {i j : Nat} (es : List D) (h : j ≠ i) : (setOwn ρ i es)[j]? = ρ[j]? := by
  unfold setOwn
  cases e : ρ[i]? with
  | none => rfl
  | some o =>
    cases o with
    | none => rfl
    | some sl => cases sl <;> first | rfl | (show (ρ.set i _)[j]? = _; rw [List.getElem?_set_ne (Ne.symm h)])
/-- a list of one's own is changed -/
theorem SR.mut (s : SR K B σ ρ H) {i : Nat} {p : Addr} {ws : List V} {ds : List D} (ho : isOwn ρ[i]? = true) (hp : σ[i]? = some (some (.ref p)))
    (ext : ∀ b o, H b = some o → b ≠ p → H' b = some o) (hw : H' p = some (.lst ws)) (ia : IpAll K B H' ws ds) : SR K B σ (setOwn ρ i ds) H' ∧ Tr σ B ρ H B (setOwn ρ i ds) H' := by
  have own : OwnAt σ ρ p := ⟨i, ho, hp⟩
  obtain ⟨ws0, hp0, nb⟩ := s.own own
  have tups : Tups H H' := ⟨fun b xs e => ext b _ e (ne_of e hp0 (by intro z; cases z)), fun b o u e => ext b _ e (ne_of e hp0 (by intro z; cases z))⟩
  refine ⟨⟨?_, ?_, ?_, ?_⟩, ⟨fun b o e n => ext b o e fun z => n (z ▸ own), Same.refl _, fun b h => .inl h, fun j => setOwn_shp i ds j, fun j dl e => setOwn_shi i ds j dl e⟩⟩
  · rw [setOwn_length]; exact s.len
  · intro b o e
    exact ext b o (s.sub b o e) (ne_of_none e nb)
  · intro j sl hj
    by_cases hji : j = i
    · subst hji
      refine ⟨.ref p, hp, ?_⟩
      obtain ⟨sl0, e0, q⟩ := isOwn_some ho
      have hi : j < ρ.length := (List.getElem?_eq_some_iff.mp e0).1
      rcases q with ⟨d0, rfl⟩ | ⟨d0, rfl⟩
      · rw [setOwn_own e0, List.getElem?_set_self hi] at hj
        cases hj
        exact ⟨p, ws, rfl, nb, hw, ia⟩
      · rw [setOwn_inn e0, List.getElem?_set_self hi] at hj
        cases hj
        exact ⟨p, ws, rfl, nb, hw, ia⟩
    · rw [setOwn_ne ds hji] at hj
      obtain ⟨v, hv, r⟩ := s.slot j sl hj
      refine ⟨v, hv, ?_⟩
      have other : ∀ dl, OwnL K B H v dl → isOwn ρ[j]? = true → OwnL K B H' v dl := fun dl ⟨p', vs, a, b, c, d⟩ hoj => by
        subst a
        have hne : p' ≠ p := fun z => hji (s.inj j i p hoj ho (z ▸ hv) hp)
        exact ⟨p', vs, rfl, b, ext _ _ c hne, d.mono (Same.refl _) tups⟩
      cases sl with
      | dat d => exact Ip.mono (Same.refl _) tups r
      | own dl => exact other dl r (by rw [hj]; rfl)
      | inn dl => exact other dl r (by rw [hj]; rfl)
      | bor k => exact r.elim
  · intro a b q h1 h2 h3 h4
    exact s.inj a b q (by rw [← setOwn_shp i ds a]; exact h1) (by rw [← setOwn_shp i ds b]; exact h2) h3 h4
end

/-! ### methods of one's own list -/
abbrev GM := List D → List D → (D → List D → Prop) → Prop
def MtS (K : PySem.W.Frag) (r : V → List V → Hp → VK → Prop) (m : GM) : Prop := ∀ (B H : Hp) (p : Addr) (vs xs : List V) (ds args : List D) (Qw : D → List D → Prop) (Q : VK), H p = some (.lst vs) → IpAll K B H vs ds → IpAll K B H xs args → m ds args Qw →
  (∀ v d vs' ds', IpAll K B H vs' ds' → Ip K B H v d → Qw d ds' → Q v (upd H p (.lst vs'))) → r (.ref p) xs H Q
def wMt (m : GM) (i : Nat) (wa : AW) : EW := fun ρ Q X => isOwn ρ[i]? = true ∧ wa ρ (fun rs ρ1 => withD rs fun args => withO ρ1 i fun ds => m ds args fun d ds' => Q (.dat d) (setOwn ρ1 i ds')) X
section
variable {K : PySem.W.Frag} {W : WX}
theorem tyV_lst {H : Hp} {p : Addr} {vs : List V} (h : H p = some (.lst vs)) : tyV K "list" (.ref p) H := Or.inl ⟨rfl, _, Or.inl (Or.inl h)⟩
theorem sim_mt {r : V → List V → Hp → VK → Prop} {m : GM} (hm : MtS K r m) (i : Nat) {ta : TA} {wa : AW} (ha : SimA K W ta wa) : SimE K W (tBM K "list" r (tVar i) ta) (wMt m i wa) := by
  intro B σ ρ H Qw Xw Q s h hx q
  obtain ⟨ho, h⟩ := h
  obtain ⟨sl, e, ht⟩ := isOwn_some ho
  obtain ⟨v, hv, rr⟩ := s.slot i sl e
  have hol : ∃ dl, OwnL K B H v dl := by rcases ht with ⟨d, rfl⟩ | ⟨d, rfl⟩ <;> exact ⟨d, rr⟩
  obtain ⟨dl, p, vs, rfl, nb, hp, il⟩ := hol
  refine ⟨.ref p, hv, tyV_lst hp, ?_⟩
  refine ha B σ ρ H _ Xw _ s h hx fun us rs B1 ρ1 H1 s1 t1 rv1 q1 => ?_
  obtain ⟨args, e1, q1⟩ := withD_some q1
  obtain ⟨ds, e2, q1⟩ := withO_some q1
  obtain ⟨B2, s2, bb, bn, ia⟩ := rv1.freeze s1 e1
  have t2 : Tr σ B ρ H B2 ρ1 H1 := ⟨t1.ext, t1.bex.trans bb, fun b hb => (bn b hb).elim (fun z => t1.bnew b z) .inr, t1.shp, t1.shi⟩
  obtain ⟨p', vs1, ep, nb1, hp1, il1⟩ := s2.bor e2 hv
  cases ep
  refine hm B2 H1 p vs1 us ds args _ Q hp1 il1 ia q1 fun w d vs' ds' i1 i2 qq => ?_
  have ho1 : isOwn ρ1[i]? = true := by rw [t1.shp i]; exact ho
  have tups : Tups H1 (upd H1 p (.lst vs')) := ⟨fun b xs e => by rw [upd_ne (ne_of e hp1 (by intro z; cases z))]; exact e, fun b o u e => by rw [upd_ne (ne_of e hp1 (by intro z; cases z))]; exact e⟩
  obtain ⟨s3, t3⟩ := s2.mut (ds := ds') ho1 hv (fun b o e hb => by rw [upd_ne hb]; exact e) upd_same (i1.mono (Same.refl _) tups)
  exact q w (.dat d) B2 _ _ s3 (t2.trans s2 t3) (Ip.mono (Same.refl _) tups i2) qq
end
def wMt0 (m : GM) (i : Nat) : EW := fun ρ Q X => withO ρ i fun ds => m ds [] fun d ds' => Q (.dat d) (setOwn ρ i ds')
section
variable {K : PySem.W.Frag} {W : WX}
theorem sim_mt0 {r : V → List V → Hp → VK → Prop} {m : GM} (hm : MtS K r m) (i : Nat) : SimE K W (tBM0 K "list" r (tVar i)) (wMt0 m i) := by
  intro B σ ρ H Qw Xw Q s h hx q
  obtain ⟨ds, e2, q1⟩ := withO_some h
  have ho : isOwn ρ[i]? = true := by rcases e2 with e | e <;> rw [e] <;> rfl
  obtain ⟨sl, e, ht⟩ := isOwn_some ho
  obtain ⟨v, hv, rr⟩ := s.slot i sl e
  obtain ⟨p, vs1, rfl, nb1, hp1, il1⟩ := s.bor e2 hv
  refine ⟨.ref p, hv, tyV_lst hp1, ?_⟩
  refine hm B H p vs1 [] ds [] _ Q hp1 il1 .nil q1 fun w d vs' ds' i1 i2 qq => ?_
  have tups : Tups H (upd H p (.lst vs')) := ⟨fun b xs e => by rw [upd_ne (ne_of e hp1 (by intro z; cases z))]; exact e, fun b o u e => by rw [upd_ne (ne_of e hp1 (by intro z; cases z))]; exact e⟩
  obtain ⟨s3, t3⟩ := s.mut (ds := ds') ho hv (fun b o e hb => by rw [upd_ne hb]; exact e) upd_same (i1.mono (Same.refl _) tups)
  exact q w (.dat d) B _ _ s3 t3 (Ip.mono (Same.refl _) tups i2) qq
end

/-! ### a def's promise, without the heap -/
/-- a def that reads its arguments alone -/
abbrev FD := List D → (Sl → Prop) → (Value → Prop) → Prop
/-- what a def hands back: F its new lists -/
def ResR (K : PySem.W.Frag) (H H' : Hp) (v : V) (r : Sl) : Prop := ∃ F : Hp, Same F H' ∧ (∀ a, F a ≠ none → H a = none) ∧ match r with
  | .dat d => Ip K F H' v d
  | .own ds => ∃ p vs, v = V.ref p ∧ H p = none ∧ F p = none ∧ H' p = some (.lst vs) ∧ IpAll K F H' vs ds
  | _ => False
def spD (K : PySem.W.Frag) (n : Nat) (f : FD) : Sp := fun vs H Q E => ∃ (B : Hp) (ds : List D) (Qw : Sl → Prop) (Xw : Value → Prop), Same B H ∧ IpAll K B H vs ds ∧ ds.length = n ∧ f ds Qw Xw ∧
  (∀ v r H', Same H H' → ResR K H H' v r → Qw r → Q v H') ∧ ∀ c H', Same H H' → Xw c → E c none H'
/-- a def that changes the list in its first argument, too -/
abbrev FI := List D → List D → (Sl → List D → Prop) → (Value → List D → Prop) → Prop
def spI (K : PySem.W.Frag) (n : Nat) (f : FI) : Sp := fun vs H Q E => ∃ (B : Hp) (p : Addr) (ws vs' : List V) (dl ds : List D) (Qw : Sl → List D → Prop) (Xw : Value → List D → Prop), vs = .ref p :: vs' ∧ Same B H ∧ B p = none ∧ H p = some (.lst ws) ∧ IpAll K H00 H ws dl ∧ IpAll K B H vs' ds ∧ ds.length + 1 = n ∧ f dl ds Qw Xw ∧
  (∀ v r dl' ws' H', (∀ b o, H b = some o → b ≠ p → H' b = some o) → H' p = some (.lst ws') → IpAll K H00 H' ws' dl' → ResR K H H' v r → Qw r dl' → Q v H') ∧
  ∀ c dl' ws' H', (∀ b o, H b = some o → b ≠ p → H' b = some o) → H' p = some (.lst ws') → IpAll K H00 H' ws' dl' → Xw c dl' → E c none H'
def wCallD (f : FD) (wa : AW) : EW := fun ρ Q X => wa ρ (fun rs ρ1 => withCs ρ1 rs fun ds => f ds (fun r => Q r ρ1) (fun c => X c ρ1)) X
def pureD : List Sl → Option (List D)
  | [] => some []
  | .dat d :: rs => (pureD rs).map (d :: ·)
  | _ => none
def withP (rs : List Sl) (k : List D → Prop) : Prop := match pureD rs with
  | some ds => k ds
  | none => False
theorem withP_some {rs : List Sl} {k : List D → Prop} (h : withP rs k) : ∃ ds, pureD rs = some ds ∧ k ds := by
  unfold withP at h
  cases e : pureD rs with
  | none => rw [e] at h; exact h.elim
  | some d => rw [e] at h; exact ⟨d, rfl, h⟩
def wCallI (f : FI) (wa : AW) : EW := fun ρ Q X => wa ρ (fun rs ρ1 => match rs with
  | .bor i :: rs' => withO ρ1 i fun dl => withP rs' fun ds => D.nolists dl = true ∧ f dl ds (fun r dl' => Q r (setOwn ρ1 i dl')) (fun c dl' => X c (setOwn ρ1 i dl'))
  | .own dl :: rs' => withP rs' fun ds => D.nolists dl = true ∧ f dl ds (fun r _ => Q r ρ1) (fun c _ => X c ρ1)
  | _ => False) X
def uni (B F : Hp) : Hp := fun a => match F a with
  | some o => some o
  | none => B a
section
variable {K : PySem.W.Frag} {B B1 F H H' H0 H1 : Hp} {σ : St} {ρ ρ1 : En}
theorem uni_l (h : ∀ a, F a ≠ none → B a = none) : Same B (uni B F) := fun a o e => by
  unfold uni
  cases q : F a with
  | none => exact e
  | some x => rw [h a (by rw [q]; simp)] at e; cases e
theorem uni_r : Same F (uni B F) := fun a o e => by unfold uni; rw [e]
theorem uni_none {a : Addr} (h1 : F a = none) (h2 : B a = none) : uni B F a = none := by unfold uni; rw [h1]; exact h2
theorem uni_sub (h1 : Same B H) (h2 : Same F H) : Same (uni B F) H := fun a o e => by
  unfold uni at e
  cases q : F a with
  | none => rw [q] at e; exact h1 a o e
  | some x => rw [q] at e; cases e; exact h2 a _ q
theorem uni_some {a : Addr} (h : uni B F a ≠ none) : B a ≠ none ∨ F a ≠ none := by
  unfold uni at h
  cases q : F a with
  | none => rw [q] at h; exact .inl h
  | some x => exact .inr (by simp)
/-- behind a call: H1 the heap ahead of it, (ρ, H') a state over it -/
theorem after_call (s1 : SR K B σ ρ1 H1) (s : SR K B σ ρ H') (t : Tr σ B ρ1 H1 B ρ H') {v : V} {r : Sl} (h : ResR K H1 H' v r) :
    ∃ B', SR K B' σ ρ H' ∧ Tr σ B ρ1 H1 B' ρ H' ∧ RvR K B' σ ρ H1 H' v r := by
  obtain ⟨F, fs, fn, hr⟩ := h
  have hbf : ∀ a, F a ≠ none → B a = none := fun a ha => Same.bnone s1.sub (fn a ha)
  have fo : ∀ b, OwnAt σ ρ b → F b = none := fun b ob => by
    obtain ⟨vs, q, _⟩ := s1.own (t.ownAt.mp ob)
    cases z : F b with
    | none => rfl
    | some o => rw [fn b (by rw [z]; simp)] at q; cases q
  have s' : SR K (uni B F) σ ρ H' := s.grow (uni_l hbf) (uni_sub s.sub fs) fun b ob => by
    obtain ⟨_, _, q⟩ := s.own ob
    exact uni_none (fo b ob) q
  refine ⟨uni B F, s', ⟨t.ext, uni_l hbf, fun b hb => (uni_some hb).imp id (fn b), t.shp, t.shi⟩, ?_⟩
  cases r with
  | dat d => exact Ip.mono uni_r (Tups.of (Same.refl _)) hr
  | own ds =>
    obtain ⟨p, vs, a, b, c, d, e⟩ := hr
    refine ⟨p, vs, a, b, uni_none c (Same.bnone s1.sub b), d, e.mono uni_r (Tups.of (Same.refl _)), fun z => ?_⟩
    obtain ⟨ws, q, _⟩ := s1.own (t.ownAt.mp z)
    rw [b] at q; cases q
  | inn ds => exact hr.elim
  | bor i => exact hr.elim
theorem IpAll.full (sub : Same B H) {vs : List V} {ds : List D} (h : RdAll K B H vs ds) : IpAll K H H vs ds := by
  induction h with
  | nil => exact .nil
  | @cons v vs d ds hd _ ih =>
    refine .cons ?_ ih
    cases d with
    | lst dl =>
      obtain ⟨a, xs, rfl, hh, hi⟩ := hd
      exact .lst hh (hi.mono sub (Tups.of (Same.refl _)))
    | _ => exact Ip.mono sub (Tups.of (Same.refl _)) hd
theorem sim_callD {W : WX} {n : Nat} {f : FD} {ta : TA} {wa : AW} (ha : SimA K W ta wa) (hf : ∀ ds Qw Xw, f ds Qw Xw → ds.length = n) : SimE K W (tCallS (spD K n f) (WE W) ta) (wCallD f wa) := by
  intro B σ ρ H Qw Xw Q s h hx q
  refine ha B σ ρ H _ Xw _ s h hx fun vs rs B1 ρ1 H1 s1 t1 rv1 q1 => ?_
  obtain ⟨ds, e1, q1⟩ := withCs_some q1
  refine ⟨H1, ds, _, _, Same.refl _, IpAll.full s1.sub (rv1.rd s1 e1), hf _ _ _ q1, q1, fun v r H' sm rr qq => ?_, fun c H' sm xx => ?_⟩
  · obtain ⟨B', s', t', rv⟩ := after_call s1 (s1.same sm) (Tr.same sm) rr
    exact q v r B' ρ1 H' s' (t1.trans s1 t') (rv.early s1 t1) qq
  · exact hx c B1 ρ1 H' (s1.same sm) (t1.trans s1 (Tr.same sm)) xx
theorem RvAll.pure {vs : List V} {rs : List Sl} (h : RvAll K B σ ρ H H0 vs rs) : ∀ {ds : List D}, pureD rs = some ds → IpAll K B H vs ds := by
  induction h with
  | nil => intro ds e; cases e; exact .nil
  | @cons H0 H1 v vs r rs h1 h2 h3 h4 ih =>
    intro ds e
    cases r with
    | dat d =>
      cases e2 : pureD rs with
      | none => rw [pureD, e2] at e; cases e
      | some ds' => rw [pureD, e2] at e; cases e; exact .cons h1 (ih e2)
    | own _ => cases e
    | inn _ => cases e
    | bor _ => cases e
theorem sim_callI {W : WX} {n : Nat} {f : FI} {ta : TA} {wa : AW} (ha : SimA K W ta wa) (hf : ∀ dl ds Qw Xw, f dl ds Qw Xw → ds.length + 1 = n) : SimE K W (tCallS (spI K n f) (WE W) ta) (wCallI f wa) := by
  intro B σ ρ H Qw Xw Q s h hx q
  refine ha B σ ρ H _ Xw _ s h hx fun vs rs B1 ρ1 H1 s1 t1 rv1 q1 => ?_
  cases rv1 with
  | nil => exact q1.elim
  | @cons _ Hm v vs r rs h1 h2 h3 h4 =>
    cases r with
    | dat d => exact q1.elim
    | inn d => exact q1.elim
    | bor i =>
      obtain ⟨dl, e2, q1⟩ := withO_some q1
      obtain ⟨ds, e1, nl, q1⟩ := withP_some q1
      obtain ⟨ho, hv⟩ := h1
      obtain ⟨p, ws, rfl, nb, hp, il⟩ := s1.bor e2 hv
      refine ⟨B1, p, ws, vs, dl, ds, _, _, rfl, s1.sub, nb, hp, il.pure nl, h4.pure e1, hf _ _ _ _ q1, q1, fun v r dl' ws' H' ext hw iw rr qq => ?_, fun c dl' ws' H' ext hw iw xx => ?_⟩
      · obtain ⟨s2, t2⟩ := s1.mut ho hv ext hw (iw.mono same00 (Tups.of (Same.refl _)))
        obtain ⟨B', s', t', rv⟩ := after_call s1 s2 t2 rr
        exact q v r B' _ H' s' (t1.trans s1 t') (rv.early s1 t1) qq
      · obtain ⟨s2, t2⟩ := s1.mut ho hv ext hw (iw.mono same00 (Tups.of (Same.refl _)))
        exact hx c B1 _ H' s2 (t1.trans s1 t2) xx
    | own dl =>
      obtain ⟨ds, e1, nl, q1⟩ := withP_some q1
      obtain ⟨p, ws, rfl, fr, nb, hp, il, no⟩ := h1
      -- the new list is nobody's: it may change
      have mv : ∀ (H' : Hp), (∀ b o, H1 b = some o → b ≠ p → H' b = some o) → SR K B1 σ ρ1 H' := fun H' ext => by
        have tups : Tups H1 H' := ⟨fun b xs e => ext b _ e (ne_of e hp (by intro z; cases z)), fun b o u e => ext b _ e (ne_of e hp (by intro z; cases z))⟩
        refine ⟨s1.len, fun b o e => ext b o (s1.sub b o e) (ne_of_none e nb), fun i sl hi => ?_, s1.inj⟩
        obtain ⟨v, hv, r⟩ := s1.slot i sl hi
        refine ⟨v, hv, ?_⟩
        have other : ∀ dl, OwnL K B1 H1 v dl → isOwn ρ1[i]? = true → OwnL K B1 H' v dl := fun dl ⟨p', vs, a, b, c, d⟩ hoj => by
          subst a
          have hne : p' ≠ p := fun z => no ⟨i, hoj, z ▸ hv⟩
          exact ⟨p', vs, rfl, b, ext _ _ c hne, d.mono (Same.refl _) tups⟩
        cases sl with
        | dat d => exact Ip.mono (Same.refl _) tups r
        | own dl => exact other dl r (by rw [hi]; rfl)
        | inn dl => exact other dl r (by rw [hi]; rfl)
        | bor k => exact r.elim
      -- seen from the heap ahead of the whole expression p is not there
      have tr : ∀ (H' : Hp), (∀ b o, H1 b = some o → b ≠ p → H' b = some o) → Tr σ B ρ H B1 ρ1 H' := fun H' ext =>
        ⟨fun b o e n => ext b o (t1.ext b o e n) (ne_of_none e fr), t1.bex, t1.bnew, t1.shp, t1.shi⟩
      refine ⟨B1, p, ws, vs, dl, ds, _, _, rfl, s1.sub, nb, hp, il.pure nl, h4.pure e1, hf _ _ _ _ q1, q1, fun v r dl' ws' H' ext hw iw rr qq => ?_, fun c dl' ws' H' ext hw iw xx => ?_⟩
      · obtain ⟨F, fs, fn, hr⟩ := rr
        have s2 := mv H' ext
        have hbf : ∀ a, F a ≠ none → B1 a = none := fun a ha => Same.bnone s1.sub (fn a ha)
        have fo : ∀ b, OwnAt σ ρ1 b → F b = none := fun b ob => by
          obtain ⟨vs, q, _⟩ := s1.own ob
          cases z : F b with
          | none => rfl
          | some o => rw [fn b (by rw [z]; simp)] at q; cases q
        have s' : SR K (uni B1 F) σ ρ1 H' := s2.grow (uni_l hbf) (uni_sub s2.sub fs) fun b ob => by
          obtain ⟨_, _, q⟩ := s2.own ob
          exact uni_none (fo b ob) q
        have t3 := tr H' ext
        refine q v r (uni B1 F) ρ1 H' s' ⟨t3.ext, t3.bex.trans (uni_l hbf), fun b hb => (uni_some hb).elim (t3.bnew b) fun z => .inr (t1.free s1 (fn b z)), t3.shp, t3.shi⟩ ?_ qq
        cases r with
        | dat d => exact Ip.mono uni_r (Tups.of (Same.refl _)) hr
        | own ds =>
          obtain ⟨p2, vs2, a, b, c, d, e⟩ := hr
          refine ⟨p2, vs2, a, t1.free s1 b, uni_none c (Same.bnone s1.sub b), d, e.mono uni_r (Tups.of (Same.refl _)), fun z => ?_⟩
          obtain ⟨ws, q, _⟩ := s1.own z
          rw [b] at q; cases q
        | inn ds => exact hr.elim
        | bor i => exact hr.elim
      · exact hx c B1 ρ1 H' (mv H' ext) (tr H' ext) xx
end
section
variable {X : Cx} {W : WX} {e : Expr} {es : List Expr} {wr : AW} {pos p : Pos} {k : Nat} {f : Addr} {fd : FuncData} {ps : List Str} {x : Str}
theorem de_callD {n : Nat} {g : FD} (F : FnOk X.prog X.w X.K X.mg X.base (L2.CX X.prog X.w) k f fd ps (spD X.K n g)) (hr : Room k X.A) (hg : Gl X x) (hm : X.mg x = some (.ref f)) (hk : PySem.W.keepIn X.K (.ref f) = true) (hb : Binds X.K fd ps []) (tk : Takes X W) (hf : ∀ ds Qw Xw, g ds Qw Xw → ds.length = n)
    (ha : DA X W (e :: es) wr) (hdb : (x == ("__debug__" : Str)) = false := by decide) (he : starEach (e :: es) X.env = (false, eval e X.env) :: starEach es X.env := by rfl) (hpl : (backTo pos (starEach es X.env)).any (·.1) = false := by rfl) :
    DE X W (.Call (.Name x p) (e :: es) [] pos) (wCallD g wr) := by
  obtain ⟨t, pa, sa⟩ := ha.ok
  exact ⟨_, pe_callS F hr hg hm hk hb (fun σ => passAt tk σ) pa hdb he hpl, sim_callD sa hf⟩
theorem de_callI {n : Nat} {g : FI} (F : FnOk X.prog X.w X.K X.mg X.base (L2.CX X.prog X.w) k f fd ps (spI X.K n g)) (hr : Room k X.A) (hg : Gl X x) (hm : X.mg x = some (.ref f)) (hk : PySem.W.keepIn X.K (.ref f) = true) (hb : Binds X.K fd ps []) (tk : Takes X W) (hf : ∀ dl ds Qw Xw, g dl ds Qw Xw → ds.length + 1 = n)
    (ha : DA X W (e :: es) wr) (hdb : (x == ("__debug__" : Str)) = false := by decide) (he : starEach (e :: es) X.env = (false, eval e X.env) :: starEach es X.env := by rfl) (hpl : (backTo pos (starEach es X.env)).any (·.1) = false := by rfl) :
    DE X W (.Call (.Name x p) (e :: es) [] pos) (wCallI g wr) := by
  obtain ⟨t, pa, sa⟩ := ha.ok
  exact ⟨_, pe_callS F hr hg hm hk hb (fun σ => passAt tk σ) pa hdb he hpl, sim_callI sa hf⟩
end
end DL

set_option Elab.async false
set_option linter.all false
set_option maxRecDepth 100000
set_option maxHeartbeats 4000000
/-! DLe: statements, blocks, loops, a def's body. -/
namespace DL
open PySem L2

structure EndsW where
  nx : En → Prop
  rt : Sl → En → Prop
  ex : Value → En → Prop
  bk : En → Prop := fun _ => False
  ct : En → Prop := fun _ => False
abbrev SW := EndsW → En → Prop

/-- a state in a def's body: H0, B0 at its entry; L: the lists that were lent, by slot -/
structure FR (K : PySem.W.Frag) (H0 B0 : Hp) (L : Nat → Addr → Prop) (B : Hp) (σ : St) (ρ : En) (H : Hp) : Prop extends SR K B σ ρ H where
  ext0 : ∀ b o, H0 b = some o → (∀ i, ¬ L i b) → H b = some o
  fresh : ∀ b, OwnAt σ ρ b → H0 b = none ∨ ∃ i, L i b
  keep : ∀ i b, L i b → σ[i]? = some (some (.ref b)) ∧ ∃ ds, ρ[i]? = some (some (.inn ds))
  bnew : ∀ b, B b ≠ none → B0 b ≠ none ∨ H0 b = none
/-- lists that nobody changes, tuples: they stay -/
structure Gr (B H B' H' : Hp) : Prop where
  bex : Same B B'
  tups : Tups H H'
theorem Gr.refl (B H : Hp) : Gr B H B H := ⟨Same.refl _, Tups.of (Same.refl _)⟩
theorem Gr.trans {B H B1 H1 B2 H2 : Hp} (a : Gr B H B1 H1) (b : Gr B1 H1 B2 H2) : Gr B H B2 H2 := ⟨a.bex.trans b.bex, a.tups.trans b.tups⟩
section
variable {K : PySem.W.Frag} {H0 B0 B B' B1 H H' H1 : Hp} {L : Nat → Addr → Prop} {σ σ' : St} {ρ ρ' ρ1 : En}
theorem Tr.gr (s : SR K B σ ρ H) (t : Tr σ B ρ H B' ρ' H') : Gr B H B' H' := ⟨t.bex, t.tups s⟩
theorem FR.step (f : FR K H0 B0 L B σ ρ H) (s' : SR K B' σ ρ' H') (t : Tr σ B ρ H B' ρ' H') : FR K H0 B0 L B' σ ρ' H' where
  toSR := s'
  ext0 := fun b o e n => t.ext b o (f.ext0 b o e n) fun z => by
    rcases f.fresh b z with q | ⟨i, q⟩
    · rw [e] at q; cases q
    · exact n i q
  fresh := fun b z => f.fresh b (t.ownAt.mp z)
  keep := fun i b h => by
    obtain ⟨h1, ds, h2⟩ := f.keep i b h
    exact ⟨h1, t.shi i ds h2⟩
  bnew := fun b hb => by
    rcases t.bnew b hb with z | z
    · exact f.bnew b z
    · right
      cases q : H0 b with
      | none => rfl
      | some o =>
        exfalso
        by_cases n : ∃ i, L i b
        · obtain ⟨i, hi⟩ := n
          obtain ⟨h1, ds, h2⟩ := f.keep i b hi
          obtain ⟨vs, e, _⟩ := f.toSR.own ⟨i, by rw [h2]; rfl, h1⟩
          rw [z] at e; cases e
        · rw [f.ext0 b o q fun i hi => n ⟨i, hi⟩] at z; cases z
/-- a slot is set -/
theorem SR.set (s : SR K B σ ρ H) {i : Nat} {v : V} {sl : Sl} (hi : i < σ.length) (r : SlR K B H v sl) (no : ∀ p, isOwn (some (some sl)) = true → v = .ref p → ¬ OwnAt σ ρ p) : SR K B (σ.set i (some v)) (ρ.set i (some sl)) H where
  len := by simp [s.len]
  sub := s.sub
  slot := fun j sl' h => by
    have hr : i < ρ.length := by rw [← s.len]; exact hi
    by_cases hj : j = i
    · subst hj
      rw [List.getElem?_set_self hr] at h; cases h
      exact ⟨v, by rw [List.getElem?_set_self hi], r⟩
    · rw [List.getElem?_set_ne (Ne.symm hj)] at h
      rw [List.getElem?_set_ne (Ne.symm hj)]
      exact s.slot j sl' h
  inj := fun a b p ha hb h1 h2 => by
    have hr : i < ρ.length := by rw [← s.len]; exact hi
    by_cases hai : a = i
    · by_cases hbi : b = i
      · rw [hai, hbi]
      · exfalso
        subst hai
        rw [List.getElem?_set_self hr] at ha
        rw [List.getElem?_set_self hi] at h1
        rw [List.getElem?_set_ne (Ne.symm hbi)] at hb h2
        exact no p ha (Option.some.inj (Option.some.inj h1)) ⟨b, hb, h2⟩
    · by_cases hbi : b = i
      · exfalso
        subst hbi
        rw [List.getElem?_set_self hr] at hb
        rw [List.getElem?_set_self hi] at h2
        rw [List.getElem?_set_ne (Ne.symm hai)] at ha h1
        exact no p hb (Option.some.inj (Option.some.inj h2)) ⟨a, ha, h1⟩
      · rw [List.getElem?_set_ne (Ne.symm hai)] at ha h1
        rw [List.getElem?_set_ne (Ne.symm hbi)] at hb h2
        exact s.inj a b p ha hb h1 h2
def notInn (ρ : En) (i : Nat) : Prop := match ρ[i]? with
  | some (some (.inn _)) => False
  | some _ => True
  | none => False
theorem notInn_lt {i : Nat} (h : notInn ρ i) : i < ρ.length := by
  unfold notInn at h
  cases e : ρ[i]? with
  | none => rw [e] at h; exact h.elim
  | some o => exact (List.getElem?_eq_some_iff.mp e).1
theorem FR.set (f : FR K H0 B0 L B σ ρ H) {i : Nat} {v : V} {sl : Sl} (hn : notInn ρ i) (r : SlR K B H v sl) (no : ∀ p, isOwn (some (some sl)) = true → v = .ref p → ¬ OwnAt σ ρ p ∧ H0 p = none) : FR K H0 B0 L B (σ.set i (some v)) (ρ.set i (some sl)) H where
  toSR := f.toSR.set (by rw [f.len]; exact notInn_lt hn) r fun p a b => (no p a b).1
  ext0 := f.ext0
  fresh := fun b ⟨j, h1, h2⟩ => by
    have hr : i < ρ.length := notInn_lt hn
    have hs : i < σ.length := by rw [f.len]; exact hr
    by_cases hj : j = i
    · subst hj
      rw [List.getElem?_set_self hr] at h1
      rw [List.getElem?_set_self hs] at h2
      exact .inl (no b h1 (Option.some.inj (Option.some.inj h2))).2
    · rw [List.getElem?_set_ne (Ne.symm hj)] at h1 h2
      exact f.fresh b ⟨j, h1, h2⟩
  keep := fun j b h => by
    obtain ⟨h1, ds, h2⟩ := f.keep j b h
    have hj : j ≠ i := fun z => by
      subst z
      unfold notInn at hn
      rw [h2] at hn
      exact hn
    rw [List.getElem?_set_ne (Ne.symm hj), List.getElem?_set_ne (Ne.symm hj)]
    exact ⟨h1, ds, h2⟩
  bnew := f.bnew
/-- a new list's place was free at the def's entry -/
theorem FR.free (f : FR K H0 B0 L B σ ρ H) {b : Addr} (h : H b = none) : H0 b = none := by
  cases q : H0 b with
  | none => rfl
  | some o =>
    exfalso
    by_cases n : ∃ i, L i b
    · obtain ⟨i, hi⟩ := n
      obtain ⟨h1, ds, h2⟩ := f.keep i b hi
      obtain ⟨vs, e, _⟩ := f.toSR.own ⟨i, by rw [h2]; rfl, h1⟩
      rw [h] at e; cases e
    · rw [f.ext0 b o q fun i hi => n ⟨i, hi⟩] at h; cases h
end

/-- what a return hands on -/
def RtR (K : PySem.W.Frag) (H0 B H : Hp) (v : V) : Sl → Prop
  | .dat d => Ip K B H v d
  | .own ds => ∃ p vs, v = V.ref p ∧ H0 p = none ∧ B p = none ∧ H p = some (.lst vs) ∧ IpAll K B H vs ds
  | _ => False
def SimS (K : PySem.W.Frag) (W : WX) (t : TS) (w : SW) : Prop := ∀ (H0 B0 : Hp) (L : Nat → Addr → Prop) (B : Hp) (σ : St) (ρ : En) (H : Hp) (E : Ends) (Ew : EndsW), FR K H0 B0 L B σ ρ H → w Ew ρ →
  (∀ B' σ' ρ' H', FR K H0 B0 L B' σ' ρ' H' → Gr B H B' H' → Ew.nx ρ' → E.nx σ' H') →
  (∀ v r B' σ' ρ' H', FR K H0 B0 L B' σ' ρ' H' → RtR K H0 B' H' v r → Ew.rt r ρ' → E.rt v H') →
  (∀ B' σ' ρ' H', FR K H0 B0 L B' σ' ρ' H' → Gr B H B' H' → Ew.bk ρ' → E.bk σ' H') →
  (∀ B' σ' ρ' H', FR K H0 B0 L B' σ' ρ' H' → Gr B H B' H' → Ew.ct ρ' → E.ct σ' H') →
  (∀ c B' σ' ρ' H', FR K H0 B0 L B' σ' ρ' H' → Gr B H B' H' → Ew.ex c ρ' → W c none σ' H') → t E σ H
structure DS (X : Cx) (W : WX) (st : Stmt) (w : SW) : Prop where
  ok : ∃ t, PS X st t ∧ SimS X.K W t w
structure DSs (X : Cx) (W : WX) (st : List Stmt) (w : SW) : Prop where
  ok : ∃ t, PSs X st t ∧ SimS X.K W t w

def wNext : SW := fun E ρ => E.nx ρ
def wSeq (a b : SW) : SW := fun E ρ => a { E with nx := b E } ρ
def wDrop (we : EW) : SW := fun E ρ => we ρ (fun _ ρ1 => E.nx ρ1) E.ex
/-- return e: a list of the def's own, too -/
def wRet (we : EW) : SW := fun E ρ => we ρ (fun r ρ1 => match r with
  | .dat d => E.rt (.dat d) ρ1
  | .own ds => E.rt (.own ds) ρ1
  | .bor i => match ρ1[i]? with
    | some (some (.own ds)) => E.rt (.own ds) ρ1
    | _ => False
  | _ => False) E.ex
def wRetN : SW := fun E ρ => E.rt (.dat .non) ρ
def wIf (wc : TWs) (a b : SW) : SW := fun E ρ => wc ρ (fun c ρ1 => if c = true then a E ρ1 else b E ρ1) E.ex
def wBreak : SW := fun E ρ => E.bk ρ
def wCont : SW := fun E ρ => E.ct ρ
/-- x = e -/
def wSet (i : Nat) (we : EW) : SW := fun E ρ => we ρ (fun r ρ1 => notInn ρ1 i ∧ match r with
  | .dat d => E.nx (ρ1.set i (some (.dat d)))
  | .own ds => E.nx (ρ1.set i (some (.own ds)))
  | _ => False) E.ex
/-- x[j] = e, x a list of one's own -/
def wSetIt (i : Nat) (we wj : EW) : SW := fun E ρ => we ρ (fun r ρ1 => match r with
  | .dat d => isOwn ρ1[i]? = true ∧ wj ρ1 (fun rj ρ2 => match rj with
    | .dat (.int k) => withO ρ2 i fun ds => match ixN ds.length k with
      | some j => E.nx (setOwn ρ2 i (ds.set j d))
      | none => False
    | _ => False) E.ex
  | _ => False) E.ex
section
variable {K : PySem.W.Frag} {W : WX}
theorem sim_next : SimS K W tNext wNext := fun H0 B0 L B σ ρ H E Ew f h n r b c x => n B σ ρ H f (Gr.refl ..) h
theorem sim_seq {t u : TS} {w z : SW} (ht : SimS K W t w) (hu : SimS K W u z) : SimS K W (tSeq t u) (wSeq w z) := by
  intro H0 B0 L B σ ρ H E Ew f h n r b c x
  refine ht H0 B0 L B σ ρ H _ _ f h (fun B1 σ1 ρ1 H1 f1 g1 h1 => ?_) r b c x
  exact hu H0 B0 L B1 σ1 ρ1 H1 E Ew f1 h1 (fun B2 σ2 ρ2 H2 f2 g2 => n B2 σ2 ρ2 H2 f2 (g1.trans g2)) r (fun B2 σ2 ρ2 H2 f2 g2 => b B2 σ2 ρ2 H2 f2 (g1.trans g2)) (fun B2 σ2 ρ2 H2 f2 g2 => c B2 σ2 ρ2 H2 f2 (g1.trans g2)) (fun c B9 σ9 ρ9 H9 f9 g9 => x c B9 σ9 ρ9 H9 f9 (g1.trans g9))
theorem xw {H0 B0 B H : Hp} {L : Nat → Addr → Prop} {σ : St} {ρ : En} {Xw : Value → En → Prop} (f : FR K H0 B0 L B σ ρ H) (x : ∀ c B' σ' ρ' H', FR K H0 B0 L B' σ' ρ' H' → Gr B H B' H' → Xw c ρ' → W c none σ' H') : XWof K W σ B ρ H Xw :=
  fun c B' ρ' H' s' t' q => x c B' σ ρ' H' (f.step s' t') (t'.gr f.toSR) q
theorem sim_drop {te : TE} {we : EW} (he : SimE K W te we) : SimS K W (tDrop te) (wDrop we) := by
  intro H0 B0 L B σ ρ H E Ew f h n r b c x
  exact he B σ ρ H _ _ _ f.toSR h (xw f x) fun v rr B1 ρ1 H1 s1 t1 rv q => n B1 σ ρ1 H1 (f.step s1 t1) (t1.gr f.toSR) q
theorem sim_ret {te : TE} {we : EW} (he : SimE K W te we) : SimS K W (tRet te) (wRet we) := by
  intro H0 B0 L B σ ρ H E Ew f h n r b c x
  refine he B σ ρ H _ _ _ f.toSR h (xw f x) fun v rr B1 ρ1 H1 s1 t1 rv q => ?_
  have f1 := f.step s1 t1
  cases rr with
  | dat d => exact r v (.dat d) B1 σ ρ1 H1 f1 rv q
  | own ds =>
    obtain ⟨p, vs, a, b, c, d, e, _⟩ := rv
    exact r v (.own ds) B1 σ ρ1 H1 f1 ⟨p, vs, a, f.free b, c, d, e⟩ q
  | inn ds => exact q.elim
  | bor i =>
    obtain ⟨ho, hv⟩ := rv
    have q : (match ρ1[i]? with | some (some (.own ds)) => Ew.rt (.own ds) ρ1 | _ => False) := q
    cases e : ρ1[i]? with
    | none => rw [e] at q; exact q.elim
    | some o =>
      rw [e] at q
      cases o with
      | none => exact q.elim
      | some sl =>
        cases sl with
        | own ds =>
          obtain ⟨p, vs, rfl, nb, hp, ia⟩ := s1.bor (.inl e) hv
          refine r (.ref p) (.own ds) B1 σ ρ1 H1 f1 ⟨p, vs, rfl, ?_, nb, hp, ia⟩ q
          rcases f1.fresh p ⟨i, ho, hv⟩ with z | ⟨j, z⟩
          · exact z
          · exfalso
            obtain ⟨h1, ds', h2⟩ := f1.keep j p z
            have := s1.inj i j p ho (by rw [h2]; rfl) hv h1
            subst this
            rw [e] at h2; cases h2
        | _ => exact q.elim
theorem sim_retN : SimS K W tRetN wRetN := fun H0 B0 L B σ ρ H E Ew f h n r b c x => r .non (.dat .non) B σ ρ H f .non h
theorem sim_if {tc : TT} {wc : TWs} {t u : TS} {w z : SW} (hc : SimT K W tc wc) (ht : SimS K W t w) (hu : SimS K W u z) : SimS K W (tIfS tc t u) (wIf wc w z) := by
  intro H0 B0 L B σ ρ H E Ew f h n r b c x
  refine hc B σ ρ H _ _ _ f.toSR h (xw f x) fun k B1 ρ1 H1 s1 t1 q => ?_
  have f1 := f.step s1 t1
  have g1 := t1.gr f.toSR
  cases k with
  | true => exact ht H0 B0 L B1 σ ρ1 H1 E Ew f1 q (fun B2 σ2 ρ2 H2 f2 g2 => n B2 σ2 ρ2 H2 f2 (g1.trans g2)) r (fun B2 σ2 ρ2 H2 f2 g2 => b B2 σ2 ρ2 H2 f2 (g1.trans g2)) (fun B2 σ2 ρ2 H2 f2 g2 => c B2 σ2 ρ2 H2 f2 (g1.trans g2)) (fun c B9 σ9 ρ9 H9 f9 g9 => x c B9 σ9 ρ9 H9 f9 (g1.trans g9))
  | false => exact hu H0 B0 L B1 σ ρ1 H1 E Ew f1 q (fun B2 σ2 ρ2 H2 f2 g2 => n B2 σ2 ρ2 H2 f2 (g1.trans g2)) r (fun B2 σ2 ρ2 H2 f2 g2 => b B2 σ2 ρ2 H2 f2 (g1.trans g2)) (fun B2 σ2 ρ2 H2 f2 g2 => c B2 σ2 ρ2 H2 f2 (g1.trans g2)) (fun c B9 σ9 ρ9 H9 f9 g9 => x c B9 σ9 ρ9 H9 f9 (g1.trans g9))
theorem sim_break : SimS K W tBreak wBreak := fun H0 B0 L B σ ρ H E Ew f h n r b c x => b B σ ρ H f (Gr.refl ..) h
theorem sim_cont : SimS K W tCont wCont := fun H0 B0 L B σ ρ H E Ew f h n r b c x => c B σ ρ H f (Gr.refl ..) h
theorem sim_set {te : TE} {we : EW} (i : Nat) (he : SimE K W te we) : SimS K W (tAsg te (gName i)) (wSet i we) := by
  intro H0 B0 L B σ ρ H E Ew f h n r b c x
  refine he B σ ρ H _ _ _ f.toSR h (xw f x) fun v rr B1 ρ1 H1 s1 t1 rv q => ?_
  have f1 := f.step s1 t1
  have g1 := t1.gr f.toSR
  obtain ⟨hn, q⟩ := q
  cases rr with
  | dat d => exact n B1 _ _ H1 (f1.set hn (sl := .dat d) rv fun p a => by cases a) g1 q
  | own ds =>
    obtain ⟨p, vs, a, fr, c, d, e, no⟩ := rv
    refine n B1 _ _ H1 (f1.set hn (sl := .own ds) ⟨p, vs, a, c, d, e⟩ fun p' _ e2 => ?_) g1 q
    rw [a] at e2; cases e2
    exact ⟨no, f.free fr⟩
  | inn ds => exact q.elim
  | bor j => exact q.elim
theorem sim_setIt {te tj : TE} {we wj : EW} (i : Nat) (he : SimE K W te we) (hj : SimE K W tj wj) : SimS K W (tAsg te (gSub (tVar i) tj rSetL)) (wSetIt i we wj) := by
  intro H0 B0 L B σ ρ H E Ew f h n r b c x
  refine he B σ ρ H _ _ _ f.toSR h (xw f x) fun v rr B1 ρ1 H1 s1 t1 rv q => ?_
  have f1 := f.step s1 t1
  have g1 := t1.gr f.toSR
  cases rr with
  | dat d =>
    obtain ⟨ho, q⟩ := q
    obtain ⟨sl, e, ht⟩ := isOwn_some ho
    obtain ⟨u, hu, _⟩ := s1.slot i sl e
    refine ⟨u, hu, ?_⟩
    refine hj B1 σ ρ1 H1 _ _ _ s1 q (xw f1 (fun c B9 σ9 ρ9 H9 f9 g9 => x c B9 σ9 ρ9 H9 f9 (g1.trans g9))) fun vj rj B2 ρ2 H2 s2 t2 rvj q2 => ?_
    have f2 := f1.step s2 t2
    cases rj with
    | dat dj =>
      cases dj with
      | int k =>
        cases rvj
        obtain ⟨ds, e2, q2⟩ := withO_some q2
        obtain ⟨p, vs, rfl, nb, hp, ia⟩ := s2.bor e2 hu
        cases ej : ixN ds.length k with
        | none => rw [ej] at q2; exact q2.elim
        | some j =>
          rw [ej] at q2
          refine ⟨p, vs, k, j, rfl, rfl, hp, by rw [ia.length]; exact ej, ?_⟩
          have ho2 : isOwn ρ2[i]? = true := by rw [t2.shp i]; exact ho
          have tups : Tups H2 (upd H2 p (.lst (vs.set j v))) := ⟨fun b xs e => by rw [upd_ne (ne_of e hp (by intro z; cases z))]; exact e, fun b o u e => by rw [upd_ne (ne_of e hp (by intro z; cases z))]; exact e⟩
          have iv : Ip K B2 H2 v d := Ip.step s1 t2 rv
          obtain ⟨s3, t3⟩ := s2.mut (ds := ds.set j d) ho2 hu (fun b o e hb => by rw [upd_ne hb]; exact e) upd_same ((ia.set iv j).mono (Same.refl _) tups)
          exact n B2 σ _ _ (f2.step s3 t3) ((g1.trans (t2.gr s1)).trans (t3.gr s2)) q2
      | _ => exact q2.elim
    | _ => exact q2.elim
  | _ => exact q.elim
end
section
variable {X : Cx} {W : WX} {st : Stmt} {rest p q : List Stmt} {w z : SW} {we wj : EW} {wc : TWs} {e c tg : Expr} {pos : Pos}
theorem dss_nil : DSs X W [] wNext := ⟨_, pss_nil, sim_next⟩
theorem dss_cons (h1 : DS X W st w) (h2 : DSs X W rest z) : DSs X W (st :: rest) (wSeq w z) := by
  obtain ⟨t, pt, stt⟩ := h1.ok
  obtain ⟨u, pu, su⟩ := h2.ok
  exact ⟨_, pss_cons pt pu, sim_seq stt su⟩
theorem dss_one (h1 : DS X W st w) : DSs X W [st] w := by
  obtain ⟨t, pt, stt⟩ := h1.ok
  exact ⟨_, pss_one pt, stt⟩
theorem ds_pass : DS X W (.Pass pos) wNext := ⟨_, ps_pass, sim_next⟩
theorem ds_break : DS X W (.Break pos) wBreak := ⟨_, ps_break, sim_break⟩
theorem ds_cont : DS X W (.Continue pos) wCont := ⟨_, ps_continue, sim_cont⟩
theorem ds_expr (he : DE X W e we) (hs : swapsWith e none pos.line X.env = pure false := by rfl) : DS X W (.Expr e pos) (wDrop we) := by
  obtain ⟨t, pt, stt⟩ := he.ok
  exact ⟨_, ps_expr pt hs, sim_drop stt⟩
theorem ds_ret (he : DE X W e we) : DS X W (.Return (some e) pos) (wRet we) := by
  obtain ⟨t, pt, stt⟩ := he.ok
  exact ⟨_, ps_ret pt, sim_ret stt⟩
theorem ds_retN : DS X W (.Return none pos) wRetN := ⟨_, ps_retN, sim_retN⟩
theorem ds_if (hc : DT X W c wc) (ha : DSs X W p w) (hb : DSs X W q z) : DS X W (.If c p q pos) (wIf wc w z) := by
  obtain ⟨t, pt, stt⟩ := hc.ok
  obtain ⟨t1, pt1, st1⟩ := ha.ok
  obtain ⟨t2, pt2, st2⟩ := hb.ok
  exact ⟨_, ps_if pt pt1 pt2, sim_if stt st1 st2⟩
theorem ds_set (i : Nat) {x : Str} {pos' : Pos} (hN : X.N.Nodup) (he : DE X W e we) (hi : X.N[i]? = some x := by rfl) (hx : Loc X.env.scope x := by first | exact Or.inl rfl | exact Or.inr rfl) (hs : swapsWith e (some (.Name x pos')) pos.line X.env = pure false := by rfl) (hf : X.fn x = true ∨ X.env.scope.names.lookup x = some .local := by first | exact .inl rfl | exact .inr rfl | assumption) :
    DS X W (.Assign [.Name x pos'] e pos) (wSet i we) := by
  obtain ⟨t, pt, stt⟩ := he.ok
  exact ⟨_, ps_set hN hi hx pt hs hf, sim_set i stt⟩
end
end DL

set_option Elab.async false
set_option linter.all false
set_option maxRecDepth 100000
set_option maxHeartbeats 4000000
/-! DLf: targets, for, while, comprehensions, a def's body. -/
namespace DL
open PySem L2

/-! ### targets -/
def setsS : St → List Nat → List V → St
  | σ, i :: is, v :: vs => setsS (σ.set i (some v)) is vs
  | σ, _, _ => σ
def setsE : En → List Nat → List D → En
  | ρ, i :: is, d :: ds => setsE (ρ.set i (some (.dat d))) is ds
  | ρ, _, _ => ρ
def notInns (ρ : En) : List Nat → Prop
  | [] => True
  | i :: is => notInn ρ i ∧ notInns ρ is
def spName : D → Option (List D) := fun d => some [d]
def spTup (n : Nat) : D → Option (List D)
  | .tup ds => if ds.length = n then some ds else none
  | _ => none
def withS (o : Option (List D)) (k : List D → Prop) : Prop := match o with
  | some ds => k ds
  | none => False
theorem withS_some {o : Option (List D)} {k : List D → Prop} (h : withS o k) : ∃ ds, o = some ds ∧ k ds := by
  cases o with
  | none => exact h.elim
  | some ds => exact ⟨ds, rfl, h⟩
def SimG (K : PySem.W.Frag) (g : TG) (is : List Nat) (sp : D → Option (List D)) : Prop := ∀ (B H : Hp) (σ : St) (x : V) (d : D) (ds : List D) (Q : St → Hp → Prop), Ip K B H x d → sp d = some ds →
  (∀ vs, vs.length = is.length → IpAll K B H vs ds → Q (setsS σ is vs) H) → g x σ H Q
structure DG (X : Cx) (tg : Expr) (is : List Nat) (sp : D → Option (List D)) : Prop where
  ok : ∃ g, PG X tg g ∧ SimG X.K g is sp
section
variable {K : PySem.W.Frag}
theorem simg_name (i : Nat) : SimG K (gName i) [i] spName := fun B H σ x d ds Q h e q => by
  cases e
  exact q [x] rfl (.cons h .nil)
def gNames : List Nat → TGs
  | [] => gNil
  | i :: is => gCons (gName i) (gNames is)
theorem gNames_run {Q : St → Hp → Prop} {H : Hp} : ∀ (is : List Nat) (vs : List V) (σ : St), vs.length = is.length → Q (setsS σ is vs) H → gNames is vs σ H Q
  | [], [], σ, _, q => ⟨rfl, q⟩
  | i :: is, v :: vs, σ, h, q => ⟨v, vs, rfl, gNames_run is vs _ (by simpa using h) q⟩
  | [], _ :: _, _, h, _ => by simp at h
  | _ :: _, [], _, h, _ => by simp at h
theorem simg_tup (is : List Nat) : SimG K (gTup K is.length (gNames is)) is (spTup is.length) := fun B H σ x d ds Q h e q => by
  cases d with
  | tup es =>
    by_cases hl : es.length = is.length
    · have e : (if es.length = is.length then some es else none) = some ds := e
      rw [if_pos hl] at e
      cases e
      cases h with
      | tup hh hi =>
        have hv := hi.length.trans hl
        exact ⟨_, _, rfl, hh, hv, gNames_run is _ σ hv (q _ hv hi)⟩
    · have e : (if es.length = is.length then some es else none) = some ds := e
      rw [if_neg hl] at e
      cases e
  | _ => cases e
end
section
variable {X : Cx} {pos : Pos}
theorem dg_name (i : Nat) {x : Str} (hN : X.N.Nodup) (hi : X.N[i]? = some x := by rfl) (hx : Loc X.env.scope x := by first | exact Or.inl rfl | exact Or.inr rfl) (hf : X.fn x = true ∨ X.env.scope.names.lookup x = some .local := by first | exact .inl rfl | exact .inr rfl | assumption) : DG X (.Name x pos) [i] spName :=
  ⟨_, pg_name hN hi hx hf, simg_name i⟩
structure DGs (X : Cx) (es : List Expr) (is : List Nat) : Prop where
  ok : PGs X es (gNames is)
theorem dgs_nil : DGs X [] [] := ⟨pgs_nil⟩
theorem dgs_cons (i : Nat) {x : Str} {es : List Expr} {is : List Nat} (hN : X.N.Nodup) (h2 : DGs X es is) (hi : X.N[i]? = some x := by rfl) (hx : Loc X.env.scope x := by first | exact Or.inl rfl | exact Or.inr rfl) (hf : X.fn x = true ∨ X.env.scope.names.lookup x = some .local := by first | exact .inl rfl | exact .inr rfl | assumption)
    (ha : (assignEach (.Name x pos :: es) X.env).map (·.2) = assign (.Name x pos) X.env :: (assignEach es X.env).map (·.2) := by rfl) : DGs X (.Name x pos :: es) (i :: is) := ⟨pgs_cons (pg_name hN hi hx hf) h2.ok ha⟩
theorem dg_tup {es : List Expr} {is : List Nat} {k : Nat} (hc : X.calm = true) (h : DGs X es is) (hn : (assignEach es X.env).length = is.length := by rfl) (hst : (assignEach es X.env).findIdx? (·.1) = none := by rfl) : DG X (.Tuple es k pos) is (spTup is.length) :=
  ⟨_, pg_tup hc h.ok hn hst, simg_tup is⟩
end

section
variable {K : PySem.W.Frag} {H0 B0 B B' H H' : Hp} {L : Nat → Addr → Prop} {σ : St} {ρ : En}
theorem notInn_set {i j : Nat} {d : D} (h : notInn ρ j) : notInn (ρ.set i (some (.dat d))) j := by
  by_cases e : j = i
  · subst e
    have := notInn_lt h
    unfold notInn
    rw [List.getElem?_set_self this]
    trivial
  · unfold notInn at h ⊢
    rw [List.getElem?_set_ne (Ne.symm e)]
    exact h
theorem notInns_set {i : Nat} {d : D} : ∀ {is : List Nat}, notInns ρ is → notInns (ρ.set i (some (.dat d))) is
  | [], h => h
  | j :: is, h => ⟨notInn_set h.1, notInns_set h.2⟩
theorem FR.sets : ∀ {is : List Nat} {vs : List V} {ds : List D} {σ : St} {ρ : En}, FR K H0 B0 L B σ ρ H → notInns ρ is → IpAll K B H vs ds → FR K H0 B0 L B (setsS σ is vs) (setsE ρ is ds) H
  | [], vs, ds, σ, ρ, f, _, _ => by cases vs <;> cases ds <;> exact f
  | i :: is, [], [], σ, ρ, f, _, _ => f
  | i :: is, v :: vs, d :: ds, σ, ρ, f, hn, .cons h t => FR.sets (is := is) (vs := vs) (ds := ds) (σ := σ.set i (some v)) (ρ := ρ.set i (some (.dat d))) (f.set hn.1 (sl := .dat d) h fun p a => by cases a) (notInns_set hn.2) t
theorem FR.same (f : FR K H0 B0 L B σ ρ H) (e : Same H H') : FR K H0 B0 L B σ ρ H' := f.step (f.toSR.same e) (Tr.same e)
end

/-! ### what is walked -/
def okS (B0 H0 : Hp) (B H : Hp) : Prop := Same B0 B ∧ Tups H0 H ∧ Same B H
structure Wk (K : PySem.W.Frag) (J : It) (ds : List D) (ok : Hp → Hp → Prop) : Prop where
  go : ∀ k B H, ok B H → k < ds.length → J.go k H
  yld : ∀ k B H x H', ok B H → J.yld k H x H' → k < ds.length → ∃ d, ds[k]? = some d ∧ Same H H' ∧ Ip K B H' x d
  stop : ∀ k B H, ok B H → ds.length ≤ k → J.stop k H
abbrev IW := En → (List D → En → Prop) → (Value → En → Prop) → Prop
def SimI (K : PySem.W.Frag) (W : WX) (wi : TI) (w : IW) : Prop := ∀ (B : Hp) (σ : St) (ρ : En) (H : Hp) (Qw : List D → En → Prop) (Xw : Value → En → Prop) (R : It → Hp → Prop), SR K B σ ρ H → w ρ Qw Xw → XWof K W σ B ρ H Xw →
  (∀ J ds B' ρ' H', SR K B' σ ρ' H' → Tr σ B ρ H B' ρ' H' → Wk K J ds (okS B' H') → Qw ds ρ' → R J H') → wi σ H R
structure DI (X : Cx) (W : WX) (tg iter : Expr) (w : IW) : Prop where
  ok : ∃ wi, PI X tg iter wi ∧ SimI X.K W wi w

/-! ### for -/
def wFor (wi : IW) (is : List Nat) (sp : D → Option (List D)) (wb : SW) : SW := fun E ρ => wi ρ (fun ds ρ1 => ∃ W : Nat → En → Prop, W 0 ρ1 ∧ (∀ ρ2, W ds.length ρ2 → E.nx ρ2) ∧
  ∀ i d ρ2, ds[i]? = some d → W i ρ2 → withS (sp d) fun es => notInns ρ2 is ∧ wb { E with nx := W (i + 1), ct := W (i + 1), bk := E.nx } (setsE ρ2 is es)) E.ex
def wWhile (wc : TWs) (wb : SW) : SW := fun E ρ => ∃ W : Nat → En → Prop, (∃ m, W m ρ) ∧ ∀ m ρ1, W m ρ1 →
  wc ρ1 (fun b ρ2 => if b = true then wb { E with nx := fun ρ' => ∃ m', m' < m ∧ W m' ρ', ct := fun ρ' => ∃ m', m' < m ∧ W m' ρ', bk := E.nx } ρ2 else E.nx ρ2) E.ex
section
variable {K : PySem.W.Frag} {W : WX}
theorem sim_for {wi : TI} {w : IW} {g : TG} {is : List Nat} {sp : D → Option (List D)} {tb : TS} {wb : SW} (hi : SimI K W wi w) (hg : SimG K g is sp) (hb : SimS K W tb wb) : SimS K W (tFor wi g tb) (wFor w is sp wb) := by
  intro H0 B0 L B σ ρ H E Ew f h n r b c x
  refine hi B σ ρ H _ _ _ f.toSR h (xw f x) fun J ds B1 ρ1 H1 s1 t1 wk q => ?_
  obtain ⟨Wd, w0, wend, turn⟩ := q
  have g1 := t1.gr f.toSR
  refine ⟨fun i m σ2 H2 => i + m = ds.length ∧ ∃ B2 ρ2, FR K H0 B0 L B2 σ2 ρ2 H2 ∧ Gr B1 H1 B2 H2 ∧ Wd i ρ2, ⟨ds.length, by omega, B1, ρ1, f.step s1 t1, Gr.refl .., w0⟩, ?_⟩
  rintro i m σ2 H2 ⟨hm, B2, ρ2, f2, g2, w2⟩
  have ok2 : okS B1 H1 B2 H2 := ⟨g2.bex, g2.tups, f2.sub⟩
  by_cases hlt : i < ds.length
  · right
    refine ⟨wk.go i B2 H2 ok2 hlt, fun σ' H' => ∃ B' ρ', FR K H0 B0 L B' σ' ρ' H' ∧ Gr B1 H1 B' H' ∧ Wd (i + 1) ρ', fun σ' H' ⟨B', ρ', f', g', w'⟩ => ⟨m - 1, by omega, by omega, B', ρ', f', g', w'⟩, fun v H3 hy => ?_⟩
    obtain ⟨d, ed, sm, iv⟩ := wk.yld i B2 H2 v H3 ok2 hy hlt
    have tn := turn i d ρ2 ed w2
    obtain ⟨es, ee, hn, tn⟩ := withS_some tn
    have f3 := f2.same sm
    have g3 : Gr B1 H1 B2 H3 := g2.trans ⟨Same.refl _, Tups.of sm⟩
    refine hg B2 H3 σ2 v d es _ iv ee fun vs hl ia => ?_
    refine hb H0 B0 L B2 _ _ H3 _ _ (f3.sets hn ia) tn ?_ r ?_ ?_ (fun c B9 σ9 ρ9 H9 f9 g9 => x c B9 σ9 ρ9 H9 f9 ((g1.trans g3).trans g9))
    · exact fun B4 σ4 ρ4 H4 f4 g4 q4 => ⟨B4, ρ4, f4, g3.trans g4, q4⟩
    · exact fun B4 σ4 ρ4 H4 f4 g4 q4 => n B4 σ4 ρ4 H4 f4 (g1.trans (g3.trans g4)) q4
    · exact fun B4 σ4 ρ4 H4 f4 g4 q4 => ⟨B4, ρ4, f4, g3.trans g4, q4⟩
  · left
    have hi' : i = ds.length := by omega
    subst hi'
    exact ⟨wk.stop _ B2 H2 ok2 (Nat.le_refl _), n B2 σ2 ρ2 H2 f2 (g1.trans g2) (wend ρ2 w2)⟩
theorem sim_while {tc : TT} {wc : TWs} {tb : TS} {wb : SW} (hc : SimT K W tc wc) (hb : SimS K W tb wb) : SimS K W (tWhile tc tb) (wWhile wc wb) := by
  intro H0 B0 L B σ ρ H E Ew f h n r b c x
  obtain ⟨Wd, ⟨m0, w0⟩, turn⟩ := h
  refine ⟨fun m σ2 H2 => ∃ B2 ρ2, FR K H0 B0 L B2 σ2 ρ2 H2 ∧ Gr B H B2 H2 ∧ Wd m ρ2, ⟨m0, B, ρ, f, Gr.refl .., w0⟩, ?_⟩
  rintro m σ2 H2 ⟨B2, ρ2, f2, g2, w2⟩
  refine hc B2 σ2 ρ2 H2 _ _ _ f2.toSR (turn m ρ2 w2) (xw f2 (fun c B9 σ9 ρ9 H9 f9 g9 => x c B9 σ9 ρ9 H9 f9 (g2.trans g9))) fun k B3 ρ3 H3 s3 t3 q => ?_
  have f3 := f2.step s3 t3
  have g3 := g2.trans (t3.gr f2.toSR)
  cases k with
  | false => exact n B3 σ2 ρ3 H3 f3 g3 q
  | true =>
    refine ⟨fun σ' H' => ∃ m', m' < m ∧ ∃ B' ρ', FR K H0 B0 L B' σ' ρ' H' ∧ Gr B H B' H' ∧ Wd m' ρ', fun σ' H' z => z, ?_⟩
    refine hb H0 B0 L B3 σ2 ρ3 H3 _ _ f3 q ?_ r ?_ ?_ (fun c B9 σ9 ρ9 H9 f9 g9 => x c B9 σ9 ρ9 H9 f9 (g3.trans g9))
    · exact fun B4 σ4 ρ4 H4 f4 g4 ⟨m', hm, q4⟩ => ⟨m', hm, B4, ρ4, f4, g3.trans g4, q4⟩
    · exact fun B4 σ4 ρ4 H4 f4 g4 q4 => n B4 σ4 ρ4 H4 f4 (g3.trans g4) q4
    · exact fun B4 σ4 ρ4 H4 f4 g4 ⟨m', hm, q4⟩ => ⟨m', hm, B4, ρ4, f4, g3.trans g4, q4⟩
end
section
variable {X : Cx} {W : WX} {tg iter c : Expr} {body : List Stmt} {w : IW} {is : List Nat} {sp : D → Option (List D)} {wb : SW} {wc : TWs} {pos : Pos}
theorem ds_for (hp : PassesOwn (model X.prog X.w) X.A X.env X.xe) (hc : X.calm = true) (hi : DI X W tg iter w) (hg : DG X tg is sp) (hb : DSs X W body wb) (hs : ∀ x, foldedSetIterable iter X.env x = pure x := by intro _; rfl) : DS X W (.For tg iter body [] pos) (wFor w is sp wb) := by
  obtain ⟨wi, pi, si⟩ := hi.ok
  obtain ⟨g, pg, sg⟩ := hg.ok
  obtain ⟨tb, pb, sb⟩ := hb.ok
  exact ⟨_, ps_for hp hc pi pg pb hs, sim_for si sg sb⟩
theorem ds_while (hp : PassesOwn (model X.prog X.w) X.A X.env X.xe) (hc : DT X W c wc) (hb : DSs X W body wb) : DS X W (.While c body [] pos) (wWhile wc wb) := by
  obtain ⟨tc, pc, sc⟩ := hc.ok
  obtain ⟨tb, pb, sb⟩ := hb.ok
  exact ⟨_, ps_while hp pc pb, sim_while sc sb⟩
end

/-! ### comprehensions -/
def wipeE (ρ : En) : List Nat → En
  | [] => ρ
  | v :: vs => (wipeE ρ vs).set v none
def noOwns (ρ : En) (vs : List Nat) : Prop := ∀ v ∈ vs, isOwn ρ[v]? = false
def wYes : TWs := fun ρ Q _ => Q true ρ
def wLc (wi : IW) (is : List Nat) (sp : D → Option (List D)) (wt : TWs) (we : EW) (vs : List Nat) : EW := fun ρ Q X => wi ρ (fun ds ρ1 => noOwns ρ1 vs ∧ ∃ W : Nat → List D → En → Prop, W 0 [] (wipeE ρ1 vs) ∧ (∀ acc ρ2, W ds.length acc ρ2 → Q (.own acc) ρ2) ∧
  ∀ i d acc ρ2, ds[i]? = some d → W i acc ρ2 → withS (sp d) fun es => notInns (wipeE ρ2 vs) is ∧ wt (setsE (wipeE ρ2 vs) is es) (fun b ρ3 => if b = true then we ρ3 (fun r ρ4 => withD [r] fun rs => acc.length < sizeLine ∧ W (i + 1) (acc ++ rs) (wipeE ρ4 vs)) (fun _ _ => False) else W (i + 1) acc (wipeE ρ3 vs)) (fun _ _ => False)) X
section
variable {K : PySem.W.Frag} {B B' H H' : Hp} {σ σ' : St} {ρ ρ' : En}
theorem wipeE_length : ∀ vs : List Nat, (wipeE ρ vs).length = ρ.length
  | [] => rfl
  | v :: vs => by unfold wipeE; rw [List.length_set, wipeE_length vs]
theorem wipeE_in {i : Nat} : ∀ {vs : List Nat}, i ∈ vs → isOwn (wipeE ρ vs)[i]? = false ∧ ∀ sl, (wipeE ρ vs)[i]? ≠ some (some sl)
  | v :: vs, h => by
    unfold wipeE
    by_cases hi : v = i
    · subst hi
      by_cases hv : v < (wipeE ρ vs).length
      · rw [List.getElem?_set_self hv]; exact ⟨rfl, fun sl z => by cases z⟩
      · rw [List.getElem?_eq_none (by simpa using hv)]; exact ⟨rfl, fun sl z => by cases z⟩
    · rw [List.getElem?_set_ne hi]
      exact wipeE_in ((List.mem_cons.mp h).resolve_left fun e => hi e.symm)
theorem wipeE_out {i : Nat} : ∀ {vs : List Nat}, i ∉ vs → (wipeE ρ vs)[i]? = ρ[i]?
  | [], _ => rfl
  | v :: vs, h => by
    rw [List.mem_cons, not_or] at h
    unfold wipeE
    rw [List.getElem?_set_ne (fun e => h.1 e.symm)]
    exact wipeE_out h.2
theorem wipeS_out {i : Nat} : ∀ {vs : List Nat}, i ∉ vs → (wipe σ vs)[i]? = σ[i]?
  | [], _ => rfl
  | v :: vs, h => by
    rw [List.mem_cons, not_or] at h
    unfold wipe
    rw [List.getElem?_set_ne (fun e => h.1 e.symm)]
    exact wipeS_out h.2
/-- the slots outside vs are the same -/
def AgS (σ σ' : St) (vs : List Nat) : Prop := σ'.length = σ.length ∧ ∀ i, i ∉ vs → σ'[i]? = σ[i]?
theorem SR.agree {vs : List Nat} (s : SR K B σ ρ H) (a : AgS σ σ' vs) : SR K B σ' (wipeE ρ vs) H where
  len := by rw [wipeE_length, a.1]; exact s.len
  sub := s.sub
  slot := fun i sl h => by
    by_cases hi : i ∈ vs
    · exact absurd h ((wipeE_in hi).2 sl)
    · rw [wipeE_out hi] at h
      obtain ⟨v, hv, r⟩ := s.slot i sl h
      exact ⟨v, by rw [a.2 i hi]; exact hv, r⟩
  inj := fun i j p h1 h2 h3 h4 => by
    have hi : i ∉ vs := fun z => by rw [(wipeE_in z).1] at h1; cases h1
    have hj : j ∉ vs := fun z => by rw [(wipeE_in z).1] at h2; cases h2
    rw [wipeE_out hi] at h1
    rw [wipeE_out hj] at h2
    rw [a.2 i hi] at h3
    rw [a.2 j hj] at h4
    exact s.inj i j p h1 h2 h3 h4
theorem AgS.wipe (σ : St) (vs : List Nat) : AgS σ (wipe σ vs) vs := ⟨wipe_length σ vs, fun i hi => wipeS_out hi⟩
theorem AgS.symm {vs : List Nat} (a : AgS σ σ' vs) : AgS σ' σ vs := ⟨a.1.symm, fun i hi => (a.2 i hi).symm⟩
theorem AgS.trans {σ1 σ2 σ3 : St} {vs : List Nat} (a : AgS σ1 σ2 vs) (b : AgS σ2 σ3 vs) : AgS σ1 σ3 vs := ⟨b.1.trans a.1, fun i hi => (b.2 i hi).trans (a.2 i hi)⟩
theorem AgS.sets {vs : List Nat} : ∀ {is : List Nat} {ws : List V} {σ : St}, (∀ i ∈ is, i ∈ vs) → AgS σ (setsS σ is ws) vs
  | [], ws, σ, _ => by cases ws <;> exact ⟨rfl, fun _ _ => rfl⟩
  | i :: is, [], σ, _ => ⟨rfl, fun _ _ => rfl⟩
  | i :: is, w :: ws, σ, h => by
    have a := AgS.sets (vs := vs) (is := is) (ws := ws) (σ := σ.set i (some w)) fun j hj => h j (List.mem_cons_of_mem _ hj)
    refine ⟨a.1.trans (by simp), fun j hj => (a.2 j hj).trans ?_⟩
    have hij : i ≠ j := fun e => hj (by rw [← e]; exact h i List.mem_cons_self)
    rw [List.getElem?_set_ne hij]
theorem AgS.wipe_eq {vs : List Nat} (a : AgS σ σ' vs) : L2.wipe σ' vs = L2.wipe σ vs := by
  apply List.ext_getElem?
  intro i
  by_cases hi : i ∈ vs
  · have key : ∀ (τ : St) (ws : List Nat), i ∈ ws → (L2.wipe τ ws)[i]? = if i < τ.length then some none else none := by
      intro τ ws
      induction ws with
      | nil => intro h; cases h
      | cons v ws ih =>
        intro h
        unfold L2.wipe
        by_cases hv : v = i
        · subst hv
          by_cases hl : v < (L2.wipe τ ws).length
          · rw [List.getElem?_set_self hl, if_pos (by rw [wipe_length] at hl; exact hl)]
          · rw [List.getElem?_eq_none (by simpa using hl), if_neg (by rw [wipe_length] at hl; exact hl)]
        · rw [List.getElem?_set_ne hv]
          exact ih ((List.mem_cons.mp h).resolve_left fun e => hv e.symm)
    rw [key _ _ hi, key _ _ hi, a.1]
  · rw [wipeS_out hi, wipeS_out hi]
    exact a.2 i hi
theorem ownAt_agree {vs : List Nat} (a : AgS σ σ' vs) {b : Addr} (h : OwnAt σ' (wipeE ρ vs) b) : OwnAt σ ρ b := by
  obtain ⟨i, h1, h2⟩ := h
  have hi : i ∉ vs := fun z => by rw [(wipeE_in z).1] at h1; cases h1
  exact ⟨i, by rw [← wipeE_out (vs := vs) hi]; exact h1, by rw [← a.2 i hi]; exact h2⟩
theorem ownAt_agree' {vs : List Nat} (no : noOwns ρ vs) (a : AgS σ σ' vs) {b : Addr} (h : OwnAt σ ρ b) : OwnAt σ' (wipeE ρ vs) b := by
  obtain ⟨i, h1, h2⟩ := h
  have hi : i ∉ vs := fun z => by rw [no i z] at h1; cases h1
  exact ⟨i, by rw [wipeE_out hi]; exact h1, by rw [a.2 i hi]; exact h2⟩
/-- a list that is nobody's gets other items -/
theorem SR.other (s : SR K B σ ρ H) {p : Addr} {vs ws : List V} (hp : H p = some (.lst vs)) (no : ¬ OwnAt σ ρ p) (nb : B p = none) : SR K B σ ρ (upd H p (.lst ws)) := by
  have ext : ∀ b o, H b = some o → b ≠ p → (upd H p (.lst ws)) b = some o := fun b o e h => by rw [upd_ne h]; exact e
  have tups : Tups H (upd H p (.lst ws)) := ⟨fun b xs e => ext b _ e (ne_of e hp (by intro z; cases z)), fun b o u e => ext b _ e (ne_of e hp (by intro z; cases z))⟩
  refine ⟨s.len, fun b o e => ext b o (s.sub b o e) (ne_of_none e nb), fun i sl hi => ?_, s.inj⟩
  obtain ⟨v, hv, r⟩ := s.slot i sl hi
  refine ⟨v, hv, ?_⟩
  have oth : ∀ dl, OwnL K B H v dl → isOwn ρ[i]? = true → OwnL K B (upd H p (.lst ws)) v dl := fun dl ⟨p', us, a, b, c, d⟩ hoj => by
    subst a
    have hne : p' ≠ p := fun z => no ⟨i, hoj, z ▸ hv⟩
    exact ⟨p', us, rfl, b, ext _ _ c hne, d.mono (Same.refl _) tups⟩
  cases sl with
  | dat d => exact Ip.mono (Same.refl _) tups r
  | own dl => exact oth dl r (by rw [hi]; rfl)
  | inn dl => exact oth dl r (by rw [hi]; rfl)
  | bor k => exact r.elim
theorem tups_other {p : Addr} {vs ws : List V} (hp : H p = some (.lst vs)) : Tups H (upd H p (.lst ws)) :=
  ⟨fun b xs e => by rw [upd_ne (ne_of e hp (by intro z; cases z))]; exact e, fun b o u e => by rw [upd_ne (ne_of e hp (by intro z; cases z))]; exact e⟩
theorem SR.sets : ∀ {is : List Nat} {vs : List V} {ds : List D} {σ : St} {ρ : En}, SR K B σ ρ H → notInns ρ is → IpAll K B H vs ds → SR K B (setsS σ is vs) (setsE ρ is ds) H
  | [], vs, ds, σ, ρ, f, _, _ => by cases vs <;> cases ds <;> exact f
  | i :: is, [], [], σ, ρ, f, _, _ => f
  | i :: is, v :: vs, d :: ds, σ, ρ, f, hn, .cons h t => SR.sets (is := is) (vs := vs) (ds := ds) (σ := σ.set i (some v)) (ρ := ρ.set i (some (.dat d))) (f.set (by rw [f.len]; exact notInn_lt hn.1) (sl := .dat d) h fun p a => by cases a) (notInns_set hn.2) t
theorem setsE_wipe {vs : List Nat} : ∀ {is : List Nat} {ds : List D} {ρ : En}, (∀ i ∈ is, i ∈ vs) → ∀ j, j ∉ vs → (setsE ρ is ds)[j]? = ρ[j]?
  | [], ds, ρ, _, j, _ => by cases ds <;> rfl
  | i :: is, [], ρ, _, j, _ => rfl
  | i :: is, d :: ds, ρ, h, j, hj => by
    have hij : i ≠ j := fun e => hj (by rw [← e]; exact h i List.mem_cons_self)
    rw [show setsE ρ (i :: is) (d :: ds) = setsE (ρ.set i (some (.dat d))) is ds from rfl, setsE_wipe (fun k hk => h k (List.mem_cons_of_mem _ hk)) j hj, List.getElem?_set_ne hij]
theorem setsE_own {vs : List Nat} : ∀ {is : List Nat} {ds : List D} {ρ : En} (j : Nat), isOwn ρ[j]? = false → isOwn (setsE ρ is ds)[j]? = false
  | [], ds, ρ, j, h => by cases ds <;> exact h
  | i :: is, [], ρ, j, h => h
  | i :: is, d :: ds, ρ, j, h => by
    refine setsE_own (vs := vs) (is := is) (ds := ds) (ρ := ρ.set i (some (.dat d))) j ?_
    by_cases e : i = j
    · subst e
      by_cases hl : i < ρ.length
      · rw [List.getElem?_set_self hl]; rfl
      · rw [List.getElem?_eq_none (by simpa using hl)]; rfl
    · rw [List.getElem?_set_ne e]; exact h
end
section
variable {K : PySem.W.Frag} {W : WX}
theorem sim_lc {wi : TI} {w : IW} {g : TG} {is : List Nat} {sp : D → Option (List D)} {tt : TT} {wt : TWs} {te : TE} {we : EW} {vs : List Nat} (hi : SimI K W wi w) (hg : SimG K g is sp) (hiv : ∀ i ∈ is, i ∈ vs) (ht : SimT K (fun _ _ _ _ => False) tt wt) (he : SimE K (fun _ _ _ _ => False) te we) :
    SimE K W (tLc wi g tt te vs) (wLc w is sp wt we vs) := by
  intro B σ ρ H Qw Xw Q s h hx q
  refine hi B σ ρ H _ _ _ s h hx fun J ds B1 ρ1 H1 s1 t1 wk q1 => ?_
  obtain ⟨no, Wd, w0, wend, turn⟩ := q1
  intro a ha
  have na : ¬ OwnAt σ ρ1 a := fun z => by obtain ⟨_, e, _⟩ := s1.own z; rw [ha] at e; cases e
  have nb1 : B1 a = none := Same.bnone s1.sub ha
  have wip : ∀ {B ρ H}, SR K B σ ρ H → SR K B σ (wipeE ρ vs) H := fun s => s.agree ⟨rfl, fun _ _ => rfl⟩
  -- the state between two turns
  refine ⟨fun i m H2 => i + m = ds.length ∧ ∃ B2 ρ2 acc us, SR K B2 σ ρ2 H2 ∧ Tr σ B1 ρ1 H1 B2 ρ2 H2 ∧ H2 a = some (.lst us) ∧ B2 a = none ∧ IpAll K B2 H2 us acc ∧ Wd i acc ρ2, ⟨ds.length, by omega, B1, wipeE ρ1 vs, [], [], ?_, ?_, upd_same, nb1, .nil, w0⟩, ?_⟩
  · exact (wip s1).same fun b o e => by rw [upd_ne (ne_of_none e ha)]; exact e
  · refine ⟨fun b o e _ => by rw [upd_ne (ne_of_none e ha)]; exact e, Same.refl _, fun b hb => .inl hb, fun j => ?_, fun j dl e => ?_⟩
    · by_cases hj : j ∈ vs
      · rw [(wipeE_in hj).1, no j hj]
      · rw [wipeE_out hj]
    · have hj : j ∉ vs := fun z => by have := no j z; rw [e] at this; cases this
      exact ⟨dl, by rw [wipeE_out hj]; exact e⟩
  rintro i m H2 ⟨hm, B2, ρ2, acc, us, s2, t2, h2a, b2a, iacc, w2⟩
  have na2 : ¬ OwnAt σ ρ2 a := fun z => na (t2.ownAt.mp z)
  have no2 : noOwns ρ2 vs := fun j hj => by rw [t2.shp j]; exact no j hj
  have ok2 : okS B1 H1 B2 H2 := ⟨t2.bex, t2.tups s1, s2.sub⟩
  by_cases hlt : i < ds.length
  · right
    refine ⟨wk.go i B2 H2 ok2 hlt, fun H' => ∃ B' ρ' acc' us', SR K B' σ ρ' H' ∧ Tr σ B1 ρ1 H1 B' ρ' H' ∧ H' a = some (.lst us') ∧ B' a = none ∧ IpAll K B' H' us' acc' ∧ Wd (i + 1) acc' ρ',
      fun H' z => ⟨m - 1, by omega, by omega, z⟩, fun v H3 hy => ?_⟩
    obtain ⟨d, ed, sm, iv⟩ := wk.yld i B2 H2 v H3 ok2 hy hlt
    have tn := turn i d acc ρ2 ed w2
    obtain ⟨es, ee, hn, tn⟩ := withS_some tn
    refine hg B2 H3 (wipe σ vs) v d es _ iv ee fun ws hl ia => ?_
    have ag0 : AgS σ (wipe σ vs) vs := AgS.wipe σ vs
    have ag : AgS σ (setsS (wipe σ vs) is ws) vs := ag0.trans (AgS.sets hiv)
    refine ⟨by rw [(AgS.sets (σ := wipe σ vs) (ws := ws) hiv).wipe_eq]; exact ag0.wipe_eq, ?_⟩
    have s3 : SR K B2 (setsS (wipe σ vs) is ws) (setsE (wipeE ρ2 vs) is es) H3 := ((s2.same sm).agree ag0).sets hn ia
    -- from an inner state back to an outer one
    have out : ∀ {B5 ρ5 H5}, SR K B5 (setsS (wipe σ vs) is ws) ρ5 H5 → Tr (setsS (wipe σ vs) is ws) B2 (setsE (wipeE ρ2 vs) is es) H3 B5 ρ5 H5 →
        SR K B5 σ (wipeE ρ5 vs) H5 ∧ Tr σ B2 ρ2 H2 B5 (wipeE ρ5 vs) H5 := fun {B5 ρ5 H5} s5 t5 => by
      have shp0 : ∀ j, isOwn (setsE (wipeE ρ2 vs) is es)[j]? = isOwn ρ2[j]? := fun j => by
        by_cases hj : j ∈ vs
        · rw [no2 j hj]; exact setsE_own (vs := vs) j (wipeE_in hj).1
        · rw [setsE_wipe hiv j hj, wipeE_out hj]
      have oa : ∀ b, OwnAt (setsS (wipe σ vs) is ws) (setsE (wipeE ρ2 vs) is es) b → OwnAt σ ρ2 b := fun b ⟨j, h1, h2⟩ => by
        rw [shp0 j] at h1
        have hj : j ∉ vs := fun z => by rw [no2 j z] at h1; cases h1
        exact ⟨j, h1, by rw [← ag.2 j hj]; exact h2⟩
      refine ⟨s5.agree ag.symm, ⟨fun b o e n => t5.ext b o (sm b o e) fun z => n (oa b z), t5.bex, fun b hb => (t5.bnew b hb).imp id fun z => ?_, fun j => ?_, fun j dl e => ?_⟩⟩
      · cases qq : H2 b with
        | none => rfl
        | some o => rw [sm b o qq] at z; cases z
      · by_cases hj : j ∈ vs
        · rw [(wipeE_in hj).1, no2 j hj]
        · rw [wipeE_out hj, t5.shp j, shp0 j]
      · have hj : j ∉ vs := fun z => by have := no2 j z; rw [e] at this; cases this
        obtain ⟨d', e'⟩ := t5.shi j dl (by rw [setsE_wipe hiv j hj, wipeE_out hj]; exact e)
        exact ⟨d', by rw [wipeE_out hj]; exact e'⟩
    have keepA : ∀ {B5 ρ5 H5}, Tr σ B2 ρ2 H2 B5 ρ5 H5 → H5 a = some (.lst us) ∧ B5 a = none := fun {B5 ρ5 H5} t5 => ⟨t5.ext a _ h2a na2, by
      cases qq : B5 a with
      | none => rfl
      | some o =>
        exfalso
        rcases t5.bnew a (by rw [qq]; simp) with z | z
        · exact z b2a
        · rw [h2a] at z; cases z⟩
    refine ht B2 _ _ H3 _ _ _ s3 tn (fun _ _ _ _ _ _ z => z) fun b B4 ρ4 H4 s4 t4 q4 => ?_
    cases b with
    | false =>
      obtain ⟨so, tro⟩ := out s4 t4
      obtain ⟨k1, k2⟩ := keepA tro
      exact ⟨B4, wipeE ρ4 vs, acc, us, so, t2.trans s2 tro, k1, k2, IpAll.step s2 tro iacc, q4⟩
    | true =>
      refine he B4 _ ρ4 H4 _ _ _ s4 q4 (fun _ _ _ _ _ _ z => z) fun y r B5 ρ5 H5 s5 t5 rv q5 => ?_
      obtain ⟨rs, e5, hsz, q5⟩ := withD_some q5
      have rva : RvAll K B5 (setsS (wipe σ vs) is ws) ρ5 H5 H4 [y] [r] := .cons (H1 := H5) rv (fun b hb => t5.free s5 hb) (fun p dl e1 e2 => by
        subst e1
        obtain ⟨p', vs', e, _, _, hp, _⟩ := rv
        rw [e2] at e; cases e
        rw [hp]; simp) .nil
      obtain ⟨B6, s6, bb, bn, iy⟩ := rva.freeze s5 e5
      have t6 : Tr (setsS (wipe σ vs) is ws) B4 ρ4 H4 B6 ρ5 H5 := ⟨t5.ext, t5.bex.trans bb, fun b hb => (bn b hb).elim (fun z => t5.bnew b z) .inr, t5.shp, t5.shi⟩
      obtain ⟨so, tro⟩ := out s6 (t4.trans s4 t6)
      obtain ⟨k1, k2⟩ := keepA tro
      have iacc' := IpAll.step s2 tro iacc
      refine ⟨us, k1, by rw [iacc.length]; exact hsz, B6, wipeE ρ5 vs, acc ++ rs, us ++ [y], ?_, ?_, upd_same, k2, ?_, q5⟩
      · exact so.other k1 (fun z => na ((t2.trans s2 tro).ownAt.mp z)) k2
      · have tt := t2.trans s2 tro
        exact ⟨fun b o e n => by rw [upd_ne (ne_of_none e ha)]; exact tt.ext b o e n, tt.bex, tt.bnew, tt.shp, tt.shi⟩
      · exact (iacc'.append iy).mono (Same.refl _) (tups_other k1)
  · left
    have hi' : i = ds.length := by omega
    subst hi'
    refine ⟨wk.stop _ B2 H2 ok2 (Nat.le_refl _), ?_⟩
    exact q (.ref a) (.own acc) B2 ρ2 H2 s2 (t1.trans s1 t2) ⟨a, us, rfl, t1.free s1 ha, b2a, h2a, iacc, na2⟩ (wend acc ρ2 w2)
end
section
variable {X : Cx} {W : WX} {elt tg iter : Expr} {ifs : List Expr} {scope : Scope} {own : List (Str × Nat)} {pos : Pos} {w : IW} {is : List Nat} {sp : D → Option (List D)} {wt : TWs} {we : EW}
structure DTs (X : Cx) (W : WX) (es : List Expr) (w : TWs) : Prop where
  ok : ∃ t, PTs X es t ∧ SimT X.K W t w
theorem dts_nil : DTs X W [] wYes := ⟨_, pts_nil, fun B σ ρ H Qw Xw Q s h hx q => q true B ρ H s (Tr.refl ..) h⟩
theorem dts_one {c : Expr} {wt : TWs} (h : DT X W c wt) : DTs X W [c] wt := by
  obtain ⟨t, p, s⟩ := h.ok
  exact ⟨_, pts_one p, s⟩
/-- one reading for all contexts of a family -/
theorem de_all {ι : Type} {F : ι → Cx} {K : PySem.W.Frag} {W : WX} {e : Expr} {w : EW} (hK : ∀ c, (F c).K = K) (h : ∀ c, DE (F c) W e w) : ∃ t, (∀ c, PE (F c) e t) ∧ SimE K W t w := by
  have h' : ∀ c, ∃ t, PE (F c) e t ∧ SimE K W t w := fun c => by have z := (h c).ok; rw [hK c] at z; exact z
  refine ⟨fun σ H Q => ∀ c t, PE (F c) e t → SimE K W t w → t σ H Q, fun c => ?_, fun B σ ρ H Qw Xw Q s hw hx q c t _ z => z B σ ρ H Qw Xw Q s hw hx q⟩
  obtain ⟨t, p, z⟩ := h' c
  exact ⟨fun pins s σ H Q I q => p.run pins s σ H Q I (q c t p z)⟩
theorem dts_all {ι : Type} {F : ι → Cx} {K : PySem.W.Frag} {W : WX} {e : List Expr} {w : TWs} (hK : ∀ c, (F c).K = K) (h : ∀ c, DTs (F c) W e w) : ∃ t, (∀ c, PTs (F c) e t) ∧ SimT K W t w := by
  have h' : ∀ c, ∃ t, PTs (F c) e t ∧ SimT K W t w := fun c => by have z := (h c).ok; rw [hK c] at z; exact z
  refine ⟨fun σ H Q => ∀ c t, PTs (F c) e t → SimT K W t w → t σ H Q, fun c => ?_, fun B σ ρ H Qw Xw Q s hw hx q c t _ z => z B σ ρ H Qw Xw Q s hw hx q⟩
  obtain ⟨t, p, z⟩ := h' c
  exact ⟨fun pins s σ H Q I q => p.run pins s σ H Q I (q c t p z)⟩
theorem dg_all {ι : Type} {F : ι → Cx} {K : PySem.W.Frag} {e : Expr} {is : List Nat} {sp : D → Option (List D)} (hK : ∀ c, (F c).K = K) (h : ∀ c, DG (F c) e is sp) : ∃ t, (∀ c, PG (F c) e t) ∧ SimG K t is sp := by
  have h' : ∀ c, ∃ t, PG (F c) e t ∧ SimG K t is sp := fun c => by have z := (h c).ok; rw [hK c] at z; exact z
  refine ⟨fun v σ H Q => ∀ c t, PG (F c) e t → SimG K t is sp → t v σ H Q, fun c => ?_, fun B H σ x d ds Q i e q c t _ z => z B H σ x d ds Q i e q⟩
  obtain ⟨t, p, z⟩ := h' c
  exact ⟨fun pins s σ H v u Q I r q => p.run pins s σ H v u Q I r (q c t p z)⟩
theorem de_lc (hc : X.calm = true) (hN : X.N.Nodup) (hi : DI X W tg iter w) (ok : BlkOk X.N X.env.scope scope own)
    (hg : ∀ (s : Shared) (H : Hp) (C : Addr) (cl : List (Str × Addr)) (fp : List Addr), DG (X.blk s H scope (compEnvC scope cl C X.env) fp) tg is sp) (hiv : ∀ i ∈ is, i ∈ own.map (·.2))
    (ht : ∀ (s : Shared) (H : Hp) (C : Addr) (cl : List (Str × Addr)) (fp : List Addr), DTs (X.blk s H scope (compEnvC scope cl C X.env) fp) (fun _ _ _ _ => False) ifs wt)
    (he : ∀ (s : Shared) (H : Hp) (C : Addr) (cl : List (Str × Addr)) (fp : List Addr), DE (X.blk s H scope (compEnvC scope cl C X.env) fp) (fun _ _ _ _ => False) elt we) (hs : ∀ x, foldedSetIterable iter X.env x = pure x := by intro _; rfl) :
    DE X W (.ListComp elt [⟨tg, iter, ifs, 0⟩] scope pos) (wLc w is sp wt we (own.map (·.2))) := by
  obtain ⟨wi, pi, si⟩ := hi.ok
  obtain ⟨g, pg, sg⟩ := dg_all (F := fun c : Shared × Hp × Addr × List (Str × Addr) × List Addr => X.blk c.1 c.2.1 scope (compEnvC scope c.2.2.2.1 c.2.2.1 X.env) c.2.2.2.2) (K := X.K) (fun _ => rfl) fun c => hg ..
  obtain ⟨tt, pt, st⟩ := dts_all (F := fun c : Shared × Hp × Addr × List (Str × Addr) × List Addr => X.blk c.1 c.2.1 scope (compEnvC scope c.2.2.2.1 c.2.2.1 X.env) c.2.2.2.2) (K := X.K) (fun _ => rfl) fun c => ht ..
  obtain ⟨te, pe, se⟩ := de_all (F := fun c : Shared × Hp × Addr × List (Str × Addr) × List Addr => X.blk c.1 c.2.1 scope (compEnvC scope c.2.2.2.1 c.2.2.1 X.env) c.2.2.2.2) (K := X.K) (fun _ => rfl) fun c => he ..
  exact ⟨_, pe_lc hc hN pi ok (fun s H C cl fp => pg (s, H, C, cl, fp)) (fun s H C cl fp => pt (s, H, C, cl, fp)) (fun s H C cl fp => pe (s, H, C, cl, fp)) hs, sim_lc si sg hiv st se⟩
/-- x = [..] -/
theorem ds_setLc (i : Nat) {y : Str} {py spos : Pos} (hc : X.calm = true) (hN : X.N.Nodup) (hi : DI X W tg iter w) (ok : BlkOk X.N X.env.scope scope own)
    (hg : ∀ (s : Shared) (H : Hp) (C : Addr) (cl : List (Str × Addr)) (fp : List Addr), DG (X.blk s H scope (compEnvC scope cl C X.env) fp) tg is sp) (hiv : ∀ i ∈ is, i ∈ own.map (·.2))
    (ht : ∀ (s : Shared) (H : Hp) (C : Addr) (cl : List (Str × Addr)) (fp : List Addr), DTs (X.blk s H scope (compEnvC scope cl C X.env) fp) (fun _ _ _ _ => False) ifs wt)
    (he : ∀ (s : Shared) (H : Hp) (C : Addr) (cl : List (Str × Addr)) (fp : List Addr), DE (X.blk s H scope (compEnvC scope cl C X.env) fp) (fun _ _ _ _ => False) elt we)
    (hsw : swapsWith (.ListComp elt [⟨tg, iter, ifs, 0⟩] scope pos) (some (.Name y py)) spos.line X.env = pure true) (hy : X.N[i]? = some y := by rfl) (hyl : X.env.scope.names.lookup y = some .local := by rfl) (hs : ∀ x, foldedSetIterable iter X.env x = pure x := by intro _; rfl) :
    DS X W (.Assign [.Name y py] (.ListComp elt [⟨tg, iter, ifs, 0⟩] scope pos) spos) (wSet i (wLc w is sp wt we (own.map (·.2)))) := by
  obtain ⟨wi, pi, si⟩ := hi.ok
  obtain ⟨g, pg, sg⟩ := dg_all (F := fun c : Shared × Hp × Addr × List (Str × Addr) × List Addr => X.blk c.1 c.2.1 scope (compEnvC scope c.2.2.2.1 c.2.2.1 X.env) c.2.2.2.2) (K := X.K) (fun _ => rfl) fun c => hg ..
  obtain ⟨tt, pt, st⟩ := dts_all (F := fun c : Shared × Hp × Addr × List (Str × Addr) × List Addr => X.blk c.1 c.2.1 scope (compEnvC scope c.2.2.2.1 c.2.2.1 X.env) c.2.2.2.2) (K := X.K) (fun _ => rfl) fun c => ht ..
  obtain ⟨te, pe, se⟩ := de_all (F := fun c : Shared × Hp × Addr × List (Str × Addr) × List Addr => X.blk c.1 c.2.1 scope (compEnvC scope c.2.2.2.1 c.2.2.1 X.env) c.2.2.2.2) (K := X.K) (fun _ => rfl) fun c => he ..
  exact ⟨_, ps_setLc hc hN hy hyl hsw pi ok (fun s H C cl fp => pg (s, H, C, cl, fp)) (fun s H C cl fp => pt (s, H, C, cl, fp)) (fun s H C cl fp => pe (s, H, C, cl, fp)) hs, sim_set i (sim_lc si sg hiv st se)⟩
end

/-! ### a def's body -/
abbrev FnP (K : PySem.W.Frag) (x : Str) (st : Stmt) (f : Addr) (fd : FuncData) : Prop := FunD K x x (defArgs st) (defBody st) (defScope st) [] [] f fd
/-- a def of the text as it stands behind the top -/
structure At (K : PySem.W.Frag) (mg : Str → Option Value) (x : Str) (st : Stmt) (ps : List Str) where
  f : Addr
  fd : FuncData
  F : FnP K x st f fd
  g : mg x = some (.ref f)
  b : Binds K fd ps []
def startE (N : List Str) (sls : List Sl) : En := sls.map some ++ List.replicate (N.length - sls.length) none
/-- what may be handed back: a list within it must be new -/
def retOk (nl : Bool) : Sl → Prop
  | .dat d => (nl || d.nolist) = true
  | .own ds => (nl || D.nolists ds) = true
  | _ => False
section
variable {K : PySem.W.Frag} {B H H0 : Hp}
theorem start_get {N : List Str} {vs : List V} {sls : List Sl} (hl : vs.length = sls.length) (i : Nat) (sl : Sl) (h : (startE N sls)[i]? = some (some sl)) : sls[i]? = some sl ∧ ∃ v, vs[i]? = some v ∧ (start N vs)[i]? = some (some v) := by
  unfold startE at h
  unfold L2.start
  by_cases hi : i < sls.length
  · rw [List.getElem?_append_left (by simpa using hi), List.getElem?_map] at h
    rw [List.getElem?_append_left (by rw [List.length_map]; omega), List.getElem?_map]
    cases e : sls[i]? with
    | none => rw [e] at h; cases h
    | some s' =>
      rw [e] at h; cases h
      have hv : i < vs.length := by omega
      exact ⟨rfl, vs[i], List.getElem?_eq_getElem hv, by rw [List.getElem?_eq_getElem hv]; rfl⟩
  · exfalso
    rw [List.getElem?_append_right (by simpa using hi)] at h
    rw [List.getElem?_replicate] at h
    split at h <;> cases h
theorem res_of {v : V} {r : Sl} {nl : Bool} (sub : Same B H) (hb : nl = true → ∀ b, B b ≠ none → H0 b = none) (rr : RtR K H0 B H v r) (ok : retOk nl r) : ResR K H0 H v r := by
  cases nl with
  | true =>
    refine ⟨B, sub, hb rfl, ?_⟩
    cases r with
    | dat d => exact rr
    | own ds => obtain ⟨p, vs, a, b, c, d, e⟩ := rr; exact ⟨p, vs, a, b, c, d, e⟩
    | inn ds => exact rr
    | bor i => exact rr
  | false =>
    refine ⟨H00, same00, fun a h => absurd rfl h, ?_⟩
    cases r with
    | dat d => exact Ip.pure rr (by simpa [retOk] using ok)
    | own ds => obtain ⟨p, vs, a, b, c, d, e⟩ := rr; exact ⟨p, vs, a, b, rfl, d, e.pure (by simpa [retOk] using ok)⟩
    | inn ds => exact rr
    | bor i => exact rr
end
section
variable {P : Program} {w : World} {K : PySem.W.Frag} {mg : Str → Option Value} {base : Heap}
theorem IpAll.map_get {B H : Hp} {vs : List V} {ds : List D} (h : IpAll K B H vs ds) {i : Nat} {sl : Sl} (e : (ds.map Sl.dat)[i]? = some sl) : ∃ v, vs[i]? = some v ∧ SlR K B H v sl := by
  rw [List.getElem?_map] at e
  cases q : ds[i]? with
  | none => rw [q] at e; cases e
  | some d => rw [q] at e; cases e; exact h.get q
theorem isOwn_start {N : List Str} {sls : List Sl} {i : Nat} (h : isOwn (startE N sls)[i]? = true) : ∃ ds, sls[i]? = some (.own ds) ∨ sls[i]? = some (.inn ds) := by
  obtain ⟨sl, e, q⟩ := isOwn_some h
  obtain ⟨h1, _⟩ := start_get (vs := sls.map fun _ => V.non) (by simp) i sl e
  rcases q with ⟨ds, rfl⟩ | ⟨ds, rfl⟩
  · exact ⟨ds, .inl h1⟩
  · exact ⟨ds, .inr h1⟩
/-- a def that reads its arguments alone keeps its promise -/
theorem fn_D {x qual : Str} {st : Stmt} {f : Addr} {fd : FuncData} {N ps : List Str} {k : Nat} {g : FD} {wb : SW} (F : FunD K x qual (defArgs st) (defBody st) (defScope st) [] [] f fd) (S : FnScope N ps (defScope st))
    (hbody : ∀ (cdv : Value) (A : Around) (outer : List Env) (s : Shared) (H : Hp) (E : XK), Room k (A.deeper (PyProof.Rows.envOfC qual (defScope st) s.heap.objs.size f cdv)) →
      DSs (cxOf (L2.CX P w) P w K mg base N qual (defScope st) f cdv A outer s H E) (fun c d _ H => E c d H) (defBody st) wb)
    (hw : ∀ ds Qw Xw, ds.length = ps.length → g ds Qw Xw → wb { nx := fun _ => Qw (.dat .non), rt := fun r _ => retOk (D.nolists ds) r ∧ Qw r, ex := fun c _ => Xw c } (startE N (ds.map .dat))) :
    FnOk P w K mg base (L2.CX P w) (k + 1) f fd ps (spD K ps.length g) := by
  refine F.ok (CX := L2.CX P w) S (fun vs H Q E h => ?_) (fun cdv A outer s H vs Q E hr h => ?_)
  · obtain ⟨B, ds, Qw, Xw, _, ia, hl, _⟩ := h
    exact ia.length.trans hl
  · obtain ⟨B, ds, Qw, Xw, sub, ia, hl, hg, hq, hx⟩ := h
    obtain ⟨t, pt, stt⟩ := (hbody cdv A outer s H E hr).ok
    refine ⟨t, pt, ?_⟩
    have hlen : vs.length = (ds.map Sl.dat).length := by rw [List.length_map]; exact ia.length
    have key : ∀ B0 : Hp, Same B0 H → IpAll K B0 H vs ds → (D.nolists ds = true → B0 = H00) → t { nx := fun _ H' => Q .non H', rt := Q } (start N vs) H := fun B0 sub0 ia0 hB => by
      have sr : SR K B0 (start N vs) (startE N (ds.map .dat)) H := by
        refine ⟨?_, sub0, fun i sl h => ?_, fun i j p h1 _ _ _ => ?_⟩
        · simp [L2.start, startE, ia.length]
        · obtain ⟨h1, v, h2, h3⟩ := start_get hlen i sl h
          obtain ⟨v', h4, h5⟩ := ia0.map_get h1
          rw [h2] at h4; cases h4
          exact ⟨v, h3, h5⟩
        · exfalso
          obtain ⟨es, e⟩ := isOwn_start h1
          rw [List.getElem?_map] at e
          cases q : ds[i]? with
          | none => rw [q] at e; rcases e with e | e <;> cases e
          | some d => rw [q] at e; rcases e with e | e <;> cases e
      have noown : ∀ b, ¬ OwnAt (start N vs) (startE N (ds.map .dat)) b := fun b ⟨i, h1, _⟩ => by
        obtain ⟨es, e⟩ := isOwn_start h1
        rw [List.getElem?_map] at e
        cases q : ds[i]? with
        | none => rw [q] at e; rcases e with e | e <;> cases e
        | some d => rw [q] at e; rcases e with e | e <;> cases e
      have fr : FR K H B0 (fun _ _ => False) B0 (start N vs) (startE N (ds.map .dat)) H := ⟨sr, fun b o e _ => e, fun b z => absurd z (noown b), fun i b z => z.elim, fun b h => .inl h⟩
      refine stt H B0 (fun _ _ => False) B0 _ _ H _ _ fr (hw ds Qw Xw hl hg) ?_ ?_ ?_ ?_ ?_
      · intro B' σ' ρ' H' f' _ q
        exact hq .non (.dat .non) H' (fun b o e => f'.ext0 b o e fun _ z => z) ⟨H00, same00, fun a h => absurd rfl h, .non⟩ q
      · intro v r B' σ' ρ' H' f' rr ⟨ok, q⟩
        refine hq v r H' (fun b o e => f'.ext0 b o e fun _ z => z) (res_of f'.sub (fun hn b hb => ?_) rr ok) q
        rcases f'.bnew b hb with z | z
        · rw [hB hn] at z; exact absurd rfl z
        · exact z
      · intro B' σ' ρ' H' f' _ q; exact q.elim
      · intro B' σ' ρ' H' f' _ q; exact q.elim
      · intro c B' σ' ρ' H' f' g' q
        exact hx c H' (fun b o e => f'.ext0 b o e fun _ z => z) q
    by_cases hn : D.nolists ds = true
    · exact key H00 same00 (ia.pure hn) fun _ => rfl
    · exact key B sub ia fun z => absurd z hn
/-- a def that changes the list in its first argument -/
theorem fn_I {x qual : Str} {st : Stmt} {f : Addr} {fd : FuncData} {N ps : List Str} {k : Nat} {g : FI} {wb : SW} (F : FunD K x qual (defArgs st) (defBody st) (defScope st) [] [] f fd) (S : FnScope N ps (defScope st))
    (hbody : ∀ (cdv : Value) (A : Around) (outer : List Env) (s : Shared) (H : Hp) (E : XK), Room k (A.deeper (PyProof.Rows.envOfC qual (defScope st) s.heap.objs.size f cdv)) →
      DSs (cxOf (L2.CX P w) P w K mg base N qual (defScope st) f cdv A outer s H E) (fun c d _ H => E c d H) (defBody st) wb)
    (hw : ∀ dl ds Qw Xw, ds.length + 1 = ps.length → g dl ds Qw Xw → wb { nx := fun ρ => withO ρ 0 fun dl' => D.nolists dl' = true ∧ Qw (.dat .non) dl', rt := fun r ρ => retOk (D.nolists ds) r ∧ withO ρ 0 fun dl' => D.nolists dl' = true ∧ Qw r dl', ex := fun c ρ => withO ρ 0 fun dl' => D.nolists dl' = true ∧ Xw c dl' } (startE N (.inn dl :: ds.map .dat))) :
    FnOk P w K mg base (L2.CX P w) (k + 1) f fd ps (spI K ps.length g) := by
  refine F.ok (CX := L2.CX P w) S (fun vs H Q E h => ?_) (fun cdv A outer s H vs Q E hr h => ?_)
  · obtain ⟨B, p, ws, vs', dl, ds, Qw, Xw, rfl, _, _, _, _, ia, hl, _⟩ := h
    show vs'.length + 1 = ps.length
    rw [ia.length]; exact hl
  · obtain ⟨B, p, ws, vs', dl, ds, Qw, Xw, rfl, sub, nbp, hp, iw, ia, hl, hg, hq, hx⟩ := h
    obtain ⟨t, pt, stt⟩ := (hbody cdv A outer s H E hr).ok
    refine ⟨t, pt, ?_⟩
    have hlen : (V.ref p :: vs').length = (Sl.inn dl :: ds.map Sl.dat).length := by simp [ia.length]
    have key : ∀ B0 : Hp, Same B0 H → B0 p = none → IpAll K B0 H vs' ds → (D.nolists ds = true → B0 = H00) → t { nx := fun _ H' => Q .non H', rt := Q } (start N (.ref p :: vs')) H := fun B0 sub0 nb0 ia0 hB => by
      have get0 : (start N (V.ref p :: vs'))[0]? = some (some (.ref p)) := rfl
      have zero : ∀ i, isOwn (startE N (.inn dl :: ds.map .dat))[i]? = true → i = 0 := fun i h1 => by
        obtain ⟨es, e⟩ := isOwn_start h1
        cases i with
        | zero => rfl
        | succ i =>
          exfalso
          rw [List.getElem?_cons_succ, List.getElem?_map] at e
          cases q : ds[i]? with
          | none => rw [q] at e; rcases e with e | e <;> cases e
          | some d => rw [q] at e; rcases e with e | e <;> cases e
      have sr : SR K B0 (start N (.ref p :: vs')) (startE N (.inn dl :: ds.map .dat)) H := by
        refine ⟨?_, sub0, fun i sl h => ?_, fun i j q h1 h2 _ _ => (zero i h1).trans (zero j h2).symm⟩
        · simp [L2.start, startE, ia.length]
        · obtain ⟨h1, v, h2, h3⟩ := start_get hlen i sl h
          refine ⟨v, h3, ?_⟩
          cases i with
          | zero => cases h1; cases h2; exact ⟨p, ws, rfl, nb0, hp, iw.mono same00 (Tups.of (Same.refl _))⟩
          | succ i =>
            obtain ⟨v', h4, h5⟩ := ia0.map_get (i := i) (sl := sl) (by simpa using h1)
            have h2 : vs'[i]? = some v := by simpa using h2
            rw [h2] at h4; cases h4
            exact h5
      have fr : FR K H B0 (fun i b => i = 0 ∧ b = p) B0 (start N (.ref p :: vs')) (startE N (.inn dl :: ds.map .dat)) H := by
        refine ⟨sr, fun b o e _ => e, fun b ⟨i, h1, h2⟩ => .inr ⟨0, rfl, ?_⟩, fun i b ⟨h1, h2⟩ => ?_, fun b h => .inl h⟩
        · have := zero i h1
          subst this
          rw [get0] at h2
          cases h2; rfl
        · subst h1 h2; exact ⟨get0, dl, rfl⟩
      have lent : ∀ {B' σ' ρ' H'}, FR K H B0 (fun i b => i = 0 ∧ b = p) B' σ' ρ' H' → ∀ k, withO ρ' 0 k → ∃ dl' ws', H' p = some (.lst ws') ∧ IpAll K B' H' ws' dl' ∧ k dl' := fun {B' σ' ρ' H'} f' k hk => by
        obtain ⟨dl', e, hk⟩ := withO_some hk
        obtain ⟨h1, _⟩ := f'.keep 0 p ⟨rfl, rfl⟩
        obtain ⟨p', ws', ep, _, h2, h3⟩ := f'.toSR.bor e h1
        cases ep
        exact ⟨dl', ws', h2, h3, hk⟩
      have ext : ∀ {B' σ' ρ' H'}, FR K H B0 (fun i b => i = 0 ∧ b = p) B' σ' ρ' H' → ∀ b o, H b = some o → b ≠ p → H' b = some o := fun f' b o e hb => f'.ext0 b o e fun i z => hb z.2
      refine stt H B0 _ B0 _ _ H _ _ fr (hw dl ds Qw Xw hl hg) ?_ ?_ ?_ ?_ ?_
      · intro B' σ' ρ' H' f' _ q
        obtain ⟨dl', ws', h1, h2, h3, h4⟩ := lent f' _ q
        exact hq .non (.dat .non) dl' ws' H' (ext f') h1 (h2.pure h3) ⟨H00, same00, fun a h => absurd rfl h, .non⟩ h4
      · intro v r B' σ' ρ' H' f' rr ⟨ok, q⟩
        obtain ⟨dl', ws', h1, h2, h3, h4⟩ := lent f' _ q
        refine hq v r dl' ws' H' (ext f') h1 (h2.pure h3) (res_of f'.sub (fun hn b hb => ?_) rr ok) h4
        rcases f'.bnew b hb with z | z
        · rw [hB hn] at z; exact absurd rfl z
        · exact z
      · intro B' σ' ρ' H' f' _ q; exact q.elim
      · intro B' σ' ρ' H' f' _ q; exact q.elim
      · intro c B' σ' ρ' H' f' g' q
        obtain ⟨dl', ws', h1, h2, h3, h4⟩ := lent f' _ q
        exact hx c dl' ws' H' (ext f') h1 (h2.pure h3) h4
    by_cases hn : D.nolists ds = true
    · exact key H00 same00 rfl (ia.pure hn) fun _ => rfl
    · exact key B sub nbp ia fun z => absurd z hn
end
end DL

set_option Elab.async false
set_option linter.all false
set_option maxRecDepth 100000
set_option maxHeartbeats 4000000
/-! DLg: primitives. -/
namespace DL
open PySem L2

/-! ### binary operators -/
def gAdd : G2
  | .int i, .int j, Q => Q (.dat (.int (i + j)))
  | .lst a, .lst b, Q => a.length + b.length ≤ sizeLine ∧ Q (.own (a ++ b))
  | .str x, .str y, Q => x.length + y.length ≤ sizeLine ∧ Q (.dat (.str (x ++ y)))
  | _, _, _ => False
def gSub2 : G2
  | .int i, .int j, Q => Q (.dat (.int (i - j)))
  | _, _, _ => False
def gMul : G2
  | .int i, .int j, Q => IntMulOk i j ∧ Q (.dat (.int (i * j)))
  | _, _, _ => False
def gDiv : G2
  | .int i, .int j, Q => (j ≠ 0 ∧ Builtin.divisionGoesByPylong i j = false) ∧ Q (.dat (.int (i.fdiv j)))
  | _, _, _ => False
def gMod : G2
  | .int i, .int j, Q => j ≠ 0 ∧ Q (.dat (.int (i.fmod j)))
  | _, _, _ => False
def gPow : G2
  | .int i, .int j, Q => CPow i j ∧ Q (.dat (.int (i ^ j.toNat)))
  | _, _, _ => False
def gLt : G2
  | .int i, .int j, Q => Q (.dat (.bl (decide (i < j))))
  | _, _, _ => False
def gLe : G2
  | .int i, .int j, Q => Q (.dat (.bl (decide (i ≤ j))))
  | _, _, _ => False
def gGt : G2
  | .int i, .int j, Q => Q (.dat (.bl (decide (j < i))))
  | _, _, _ => False
def gGe : G2
  | .int i, .int j, Q => Q (.dat (.bl (decide (j ≤ i))))
  | _, _, _ => False
/-- list + list, of lists that may be read -/
def rCatR (K : PySem.W.Frag) : R2 := fun x y H Q => ∃ l b xs zs, x = .ref l ∧ y = .ref b ∧ SqL K H l xs ∧ SqL K H b zs ∧ xs.length + zs.length ≤ sizeLine ∧ ∀ p, H p = none → Q (.ref p) (upd H p (.lst (xs ++ zs)))
section
variable {X : Cx}
theorem Inv.lstR {pins : List (Addr × Obj)} {σ : St} {H : Hp} {s : Shared} {l : Addr} {xs : List V} (I : Inv X pins σ H s) (h : Rd H l (.lst xs)) : xs.length ≤ sizeLine ∧ ∃ (its : List Value) (n : Nat), Vals xs its ∧ xs.length = its.length ∧ s.heap.get? l = some { cls := .type "list", data := .seq its.toArray n } := by
  obtain ⟨z, its, n, r, e⟩ := h.ok I.hok
  exact ⟨z, its, n, r, r.length, e⟩
open PySem.Spec PyProof.Rows in
theorem op_catR : OpR X (binaryOp .Add) (rCatR X.K) := by
  intro pins s σ H x y v u Q I rx ry h
  obtain ⟨l, b, xs, zs, rfl, rfl, hH, hB, hz, q⟩ := h
  cases rx
  cases ry
  obtain ⟨its, r, pl, z⟩ := I.list hH
  obtain ⟨its2, r2, pl2, z2⟩ := I.list hB
  obtain ⟨⟨cls, dd, data, sl⟩, ho, hc, n, hd⟩ := pl.isList
  obtain ⟨⟨cls2, dd2, data2, sl2⟩, ho2, hc2, n2, hd2⟩ := pl2.isList
  simp only at hc hd hc2 hd2
  subst hc hd hc2 hd2
  have hl := r.length
  have hl2 := r2.length
  refine concat_meets ⟨_, ho, rfl⟩ ⟨_, ho2, rfl⟩ noFill_list_add seq_list_add PySem.F.slot_list_add PySem.F.entry_list_add (PySem.F.args_list_add_2 _ _)
    (PyProof.Rows.list_addW l b its.toArray its2.toArray n n2 dd dd2 sl sl2 (by rw [List.size_toArray, List.size_toArray]; omega)) ⟨ho, ho2, ?_⟩
  have ea : its.toArray ++ its2.toArray = (its ++ its2).toArray := by simp
  rw [ea]
  exact ⟨.ref _, _, I.lnew (t' := s.toks) (r.append r2) (by rw [List.length_append]; omega), rfl, q _ I.fresh⟩
def rAddA (K : PySem.W.Frag) : R2 := fun x y H Q => rI0 (fun i j => .int (i + j)) x y H Q ∨ (rCatR K x y H Q ∨ ∃ i j, x = .str i ∧ y = .str j ∧ i.length + j.length ≤ sizeLine ∧ Q (.str (i ++ j)) H)
theorem op_addA : OpR X (binaryOp .Add) (rAddA X.K) := op_add.or (op_catR.or op_add_str)
/-- a list times an int -/
def rRepR : R2 := fun x y H Q => ∃ l k xs, x = .ref l ∧ y = .int k ∧ Rd H l (.lst xs) ∧ -(2 ^ 63) ≤ k ∧ k < 2 ^ 63 ∧ xs.length * k.toNat ≤ sizeLine ∧
  ∀ p, H p = none → Q (.ref p) (upd H p (.lst (List.replicate k.toNat xs).flatten))
open PySem.Spec PyProof.Rows in
theorem op_repR : OpR X (binaryOp .Mult) rRepR := by
  intro pins s σ H x y v u Q I rx ry h
  obtain ⟨l, k, xs, rfl, rfl, hH, h1, h2, hz, q⟩ := h
  cases rx
  obtain ⟨t, rfl⟩ := ry
  obtain ⟨z, its, n, r, hl, e⟩ := Inv.lstR I hH
  have hlen : its.toArray.size * k.toNat ≤ sizeLine := by rw [List.size_toArray, ← hl]; exact hz
  have hcap : ¬ its.toArray.size * k.toNat > (2 ^ 63 - 1) / 8 := by
    have : (sizeLine : Nat) ≤ (2 ^ 63 - 1) / 8 := by decide
    omega
  have hfit : ¬ (!Builtin.List.listFitsIndex k) = true := by
    rw [fitsIndex_both h1 h2]
    exact Bool.false_ne_true
  have hlong : ¬ Builtin.List.listTooLong (its.toArray.size * k.toNat) = true := by
    rw [notLongL hlen]
    exact Bool.false_ne_true
  have hnew : List.foldl (fun x1 x2 => x1 ++ x2) #[] (List.replicate (if its.toArray.isEmpty = true then 0 else k.toNat) its.toArray) = (List.replicate k.toNat its).flatten.toArray := by
    have f0 : ∀ m : Nat, List.foldl (fun x1 x2 => x1 ++ x2) #[] (List.replicate m its.toArray) = (List.replicate m its).flatten.toArray := fun m => by
      have := foldl_rep its m []
      rw [List.nil_append] at this
      exact this
    rw [f0]
    cases its with
    | nil => simp
    | cons a r' => rw [if_neg (by simp)]
  refine wpAny_binaryOp_repeat_ref (T := "list") (U := "int") (by decide) ⟨_, e, rfl⟩ (fun s' => typeIs_int s' k t) noFill_list_mul F.fills_int_mul F.slot_int_rmul repeat_list F.slot_int_index.lookup
    (call_meets F.slot_int_rmul (typeIs_int s k t) F.entry_int_rmul (F.args_int_rmul_2 _ _) (int___rmul___int_list k t l its.toArray n)
      ⟨e, rfl, ⟨_, e, rfl⟩, call_meets F.slot_list_mul ⟨_, e, rfl⟩ F.entry_list_mul (F.args_list_mul_2 _ _) (AutoListH.list___mul___list_int_3 l its.toArray n k t hfit hcap hlong) ⟨e, ?_⟩⟩)
  rw [hnew]
  exact ⟨.ref _, _, I.lnew (t' := s.toks) (r.rep k.toNat) (by rw [lm_len_rep_flat, Nat.mul_comm]; exact hz), rfl, q _ I.fresh⟩
theorem op_mulI : OpR X (binaryOp .Mult) (rI IntMulOk fun i j => .int (i * j)) := opI fun _ _ _ _ _ _ _ hc q => PyProof.Rows.mul_int q hc
theorem op_fdivA : OpR X (binaryOp .FloorDiv) (rI (fun i j => j ≠ 0 ∧ Builtin.divisionGoesByPylong i j = false) fun i j => .int (i.fdiv j)) := opI fun _ _ _ _ _ _ _ hc q => PyProof.Rows.floordiv_int hc.1 q (.inl hc.2)
end
section
variable {K : PySem.W.Frag} {B H : Hp} {Qw : Sl → Prop} {Q : VK}
theorem PP.int (p : PP K B H Qw Q) {i : Int} (g : Qw (.dat (.int i))) : Q (.int i) H := p _ (.dat _) _ (Same.refl _) (show Ip K B H _ _ from .int i) g
theorem PP.bl (p : PP K B H Qw Q) {i : Bool} (g : Qw (.dat (.bl i))) : Q (.bl i) H := p _ (.dat _) _ (Same.refl _) (show Ip K B H _ _ from .bl i) g
theorem PP.str (p : PP K B H Qw Q) {i : Str} (g : Qw (.dat (.str i))) : Q (.str i) H := p _ (.dat _) _ (Same.refl _) (show Ip K B H _ _ from .str i) g
theorem PP.non (p : PP K B H Qw Q) (g : Qw (.dat .non)) : Q .non H := p _ (.dat _) _ (Same.refl _) (show Ip K B H _ _ from .non) g
theorem PP.old (p : PP K B H Qw Q) {v : V} {d : D} (i : Ip K B H v d) (g : Qw (.dat d)) : Q v H := p _ (.dat _) _ (Same.refl _) i g
theorem same_new {q : Addr} {o : HO} (hq : H q = none) : Same H (upd H q o) := fun b x e => by rw [upd_ne (ne_of_none e hq)]; exact e
theorem PP.lst (p : PP K B H Qw Q) {vs : List V} {ds : List D} (i : IpAll K B H vs ds) (g : Qw (.own ds)) (q : Addr) (hq : H q = none) : Q (.ref q) (upd H q (.lst vs)) :=
  p _ (.own _) _ (same_new hq) ⟨q, _, rfl, hq, upd_same, i.mono (Same.refl _) (Tups.of (same_new hq))⟩ g
theorem PP.tup (p : PP K B H Qw Q) {vs : List V} {ds : List D} (i : IpAll K B H vs ds) (g : Qw (.dat (.tup ds))) (q : Addr) (hq : H q = none) : Q (.ref q) (upd H q (.tup vs)) :=
  p _ (.dat _) _ (same_new hq) (show Ip K B _ _ _ from .tup (.inl (.inl upd_same)) (i.mono (Same.refl _) (Tups.of (same_new hq)))) g
theorem IpAll.rep {vs : List V} {ds : List D} (h : IpAll K B H vs ds) : ∀ k : Nat, IpAll K B H (List.replicate k vs).flatten (List.replicate k ds).flatten
  | 0 => .nil
  | k + 1 => by rw [List.replicate_succ, List.replicate_succ, List.flatten_cons, List.flatten_cons]; exact h.append (IpAll.rep h k)
end
section
variable {K : PySem.W.Frag}
theorem ops_add : OpS K (rAddA K) gAdd := by
  intro B H x y d e Qw Q sub hx hy g p
  cases d <;> cases e <;> first | exact g.elim | skip
  · cases hx; cases hy; exact .inl ⟨_, _, rfl, rfl, p.int g⟩
  · cases hx; cases hy; exact .inr (.inr ⟨_, _, rfl, rfl, g.1, p.str g.2⟩)
  · obtain ⟨a, xs, rfl, h1, i1⟩ := hx
    obtain ⟨b, ys, rfl, h2, i2⟩ := hy
    exact .inr (.inl ⟨a, b, xs, ys, rfl, rfl, h1, h2, by rw [i1.length, i2.length]; exact g.1, p.lst (i1.append i2) g.2⟩)
theorem ops_sub : OpS K (rI0 fun i j => .int (i - j)) gSub2 := by
  intro B H x y d e Qw Q sub hx hy g p
  cases d <;> cases e <;> first | exact g.elim | skip
  cases hx; cases hy; exact ⟨_, _, rfl, rfl, p.int g⟩
theorem ops_mul : OpS K (rI IntMulOk fun i j => .int (i * j)) gMul := by
  intro B H x y d e Qw Q sub hx hy g p
  cases d <;> cases e <;> first | exact g.elim | skip
  cases hx; cases hy; exact ⟨_, _, rfl, rfl, g.1, p.int g.2⟩
theorem ops_div : OpS K (rI (fun i j => j ≠ 0 ∧ Builtin.divisionGoesByPylong i j = false) fun i j => .int (i.fdiv j)) gDiv := by
  intro B H x y d e Qw Q sub hx hy g p
  cases d <;> cases e <;> first | exact g.elim | skip
  cases hx; cases hy; exact ⟨_, _, rfl, rfl, g.1, p.int g.2⟩
theorem ops_mod : OpS K (rI (fun _ j => j ≠ 0) fun i j => .int (i.fmod j)) gMod := by
  intro B H x y d e Qw Q sub hx hy g p
  cases d <;> cases e <;> first | exact g.elim | skip
  cases hx; cases hy; exact ⟨_, _, rfl, rfl, g.1, p.int g.2⟩
theorem ops_pow : OpS K (rI CPow fun i j => .int (i ^ j.toNat)) gPow := by
  intro B H x y d e Qw Q sub hx hy g p
  cases d <;> cases e <;> first | exact g.elim | skip
  cases hx; cases hy; exact ⟨_, _, rfl, rfl, g.1, p.int g.2⟩
theorem ops_lt : OpS K (rI0 fun i j => .bl (decide (i < j))) gLt := by
  intro B H x y d e Qw Q sub hx hy g p
  cases d <;> cases e <;> first | exact g.elim | skip
  cases hx; cases hy; exact ⟨_, _, rfl, rfl, p.bl g⟩
theorem ops_le : OpS K (rI0 fun i j => .bl (decide (i ≤ j))) gLe := by
  intro B H x y d e Qw Q sub hx hy g p
  cases d <;> cases e <;> first | exact g.elim | skip
  cases hx; cases hy; exact ⟨_, _, rfl, rfl, p.bl g⟩
theorem ops_gt : OpS K (rI0 fun i j => .bl (decide (j < i))) gGt := by
  intro B H x y d e Qw Q sub hx hy g p
  cases d <;> cases e <;> first | exact g.elim | skip
  cases hx; cases hy; exact ⟨_, _, rfl, rfl, p.bl g⟩
theorem ops_ge : OpS K (rI0 fun i j => .bl (decide (j ≤ i))) gGe := by
  intro B H x y d e Qw Q sub hx hy g p
  cases d <;> cases e <;> first | exact g.elim | skip
  cases hx; cases hy; exact ⟨_, _, rfl, rfl, p.bl g⟩
def gNeg : G1
  | .int i, Q => Q (.dat (.int (-i)))
  | _, _ => False
theorem uns_neg : UnS K (rU fun i => .int (-i)) gNeg := by
  intro B H x d Qw Q sub hx g p
  cases d <;> first | exact g.elim | skip
  cases hx; exact ⟨_, rfl, p.int g⟩
end

/-! ### [..] * k -/
def wRep (wa wb : EW) : EW := fun ρ Q X => wa ρ (fun a ρ1 => wb ρ1 (fun b ρ2 => match a, b with
  | .own ds, .dat (.int k) => (-(2 ^ 63) ≤ k ∧ k < 2 ^ 63 ∧ ds.length * k.toNat ≤ sizeLine) ∧ Q (.own (List.replicate k.toNat ds).flatten) ρ2
  | _, _ => False) X) X
section
variable {X : Cx} {W : WX} {a b : Expr} {wa wb : EW} {pos : Pos}
theorem de_rep (ha : DE X W a wa) (hb : DE X W b wb) : DE X W (.BinOp a .Mult b pos) (wRep wa wb) := by
  obtain ⟨ta, pa, sa⟩ := ha.ok
  obtain ⟨tb, pb, sb⟩ := hb.ok
  refine ⟨_, pe_op op_repR pa pb, ?_⟩
  intro B σ ρ H Qw Xw Q s h hx q
  refine sa B σ ρ H _ Xw _ s h hx fun v r1 B1 ρ1 H1 s1 t1 rv1 q1 => ?_
  refine sb B1 σ ρ1 H1 _ Xw _ s1 q1 (hx.lift s1 t1) fun u r2 B2 ρ2 H2 s2 t2 rv2 q2 => ?_
  cases r1 with
  | own ds =>
    cases r2 with
    | dat d =>
      cases d with
      | int k =>
        cases rv2
        obtain ⟨p, vs, rfl, _, nb, hp, ia, no⟩ := rv1.lift s1 t2
        obtain ⟨⟨c1, c2, c3⟩, q2⟩ := q2
        have t12 := t1.trans s1 t2
        have p0 : PP X.K B2 H2 (fun r => Qw r ρ2) Q := fun z sl H' sm rv qq => q z sl B2 ρ2 H' (s2.same sm) (t12.trans s2 (Tr.same sm)) ((rv.rv s2 sm).early s2 t12) qq
        exact ⟨p, k, vs, rfl, rfl, .inl hp, c1, c2, by rw [ia.length]; exact c3, p0.lst (ia.rep _) q2⟩
      | _ => exact q2.elim
    | _ => exact q2.elim
  | _ => cases r2 <;> exact q2.elim
end

/-! ### == of data -/
mutual
def D.py : D → PyData
  | .non => .none
  | .bl b => .bool b
  | .int i => .int i
  | .str x => .str x
  | .tup ds => .tuple (D.pys ds)
  | .lst ds => .list (D.pys ds)
  | .adr _ => .none
  | .ty _ => .none
def D.pys : List D → List PyData
  | [] => []
  | d :: ds => d.py :: D.pys ds
end
mutual
/-- plain: no place, no class, no text (a text's signs would be looked at) -/
def D.plain : D → Bool
  | .adr _ => false
  | .ty _ => false
  | .str _ => false
  | .tup ds => D.plains ds
  | .lst ds => D.plains ds
  | _ => true
def D.plains : List D → Bool
  | [] => true
  | d :: ds => D.plain d && D.plains ds
end
section
variable {K : PySem.W.Frag} {B H : Hp}
mutual
theorem Ip.dp (sub : Same B H) : ∀ {v : V} {d : D}, Ip K B H v d → d.plain = true → Dp K H v d.py
  | _, _, .non, _ => by rw [D.py]; exact .non
  | _, _, .bl b, _ => by rw [D.py]; exact .bl b
  | _, _, .int i, _ => by rw [D.py]; exact .int i
  | _, _, .str x, e => by simp [D.plain] at e
  | _, _, .adr a, e => by simp [D.plain] at e
  | _, _, .ty n, e => by simp [D.plain] at e
  | _, _, .tup h t, e => by rw [D.py]; exact .tup h (IpAll.dp sub t (by simpa [D.plain] using e))
  | _, _, .lst h t, e => by rw [D.py]; exact .lst (sub.seq h) (IpAll.dp sub t (by simpa [D.plain] using e))
theorem IpAll.dp (sub : Same B H) : ∀ {vs : List V} {ds : List D}, IpAll K B H vs ds → D.plains ds = true → DpAll K H vs (D.pys ds)
  | _, _, .nil, _ => by rw [D.pys]; exact .nil
  | _, _, .cons h t, e => by
    rw [D.plains, Bool.and_eq_true] at e
    rw [D.pys]
    exact .cons (Ip.dp sub h e.1) (IpAll.dp sub t e.2)
end
theorem RdB.dp (sub : Same B H) {v : V} {d : D} (h : RdB K B H v d) (e : d.plain = true) : Dp K H v d.py := by
  cases d with
  | lst ds =>
    obtain ⟨a, xs, rfl, h1, h2⟩ := h
    rw [D.py]
    exact .lst h1 (h2.dp sub (by simpa [D.plain] using e))
  | _ => exact Ip.dp sub h e
end
mutual
def D.deep : D → Nat
  | .tup ds => D.deeps ds + 1
  | .lst ds => D.deeps ds + 1
  | _ => 0
def D.deeps : List D → Nat
  | [] => 0
  | d :: ds => max d.deep (D.deeps ds)
end
mutual
theorem D.py_lay : ∀ d : D, d.plain = true → d.py.canLay0 = true
  | .non, _ => by simp [D.py, PyData.canLay0]
  | .bl _, _ => by simp [D.py, PyData.canLay0]
  | .int _, _ => by simp [D.py, PyData.canLay0]
  | .str _, e => by simp [D.plain] at e
  | .adr _, e => by simp [D.plain] at e
  | .ty _, e => by simp [D.plain] at e
  | .tup ds, e => by rw [D.py, PyData.canLay0]; exact D.pys_lay ds (by simpa [D.plain] using e)
  | .lst ds, e => by rw [D.py, PyData.canLay0]; exact D.pys_lay ds (by simpa [D.plain] using e)
theorem D.pys_lay : ∀ ds : List D, D.plains ds = true → PyData.canLayAll0 (D.pys ds) = true
  | [], _ => by simp [D.pys, PyData.canLayAll0]
  | d :: ds, e => by
    rw [D.plains, Bool.and_eq_true] at e
    rw [D.pys, PyData.canLayAll0, D.py_lay d e.1, D.pys_lay ds e.2]; rfl
end
mutual
theorem D.py_depth : ∀ d : D, d.py.depth = d.deep
  | .non => by simp [D.py, PyData.depth, D.deep]
  | .bl _ => by simp [D.py, PyData.depth, D.deep]
  | .int _ => by simp [D.py, PyData.depth, D.deep]
  | .str _ => by simp [D.py, PyData.depth, D.deep]
  | .adr _ => by simp [D.py, PyData.depth, D.deep]
  | .ty _ => by simp [D.py, PyData.depth, D.deep]
  | .tup ds => by have := D.pys_depth ds; simp [D.py, PyData.depth, D.deep]; omega
  | .lst ds => by have := D.pys_depth ds; simp [D.py, PyData.depth, D.deep]; omega
theorem D.pys_depth : ∀ ds : List D, PyData.depthAll (D.pys ds) = D.deeps ds
  | [] => by simp [D.pys, PyData.depthAll, D.deeps]
  | d :: ds => by
    have h1 := D.py_depth d
    have h2 := D.pys_depth ds
    simp [D.pys, PyData.depthAll, D.deeps, h1, h2]
end
def D.shp (d : D) : Bool := d.plain && decide (d.deep ≤ 64)
theorem D.shp_shaped {d : D} (h : d.shp = true) : SeqAt.shaped d.py = true := by
  unfold D.shp at h
  rw [Bool.and_eq_true] at h
  show (d.py.canLay0 && decide (d.py.depth ≤ 64)) = true
  rw [Bool.and_eq_true, D.py_depth]
  exact ⟨D.py_lay d h.1, h.2⟩
def D.eqb (d e : D) : Bool := PyData.eqv d.py e.py
def gEq : G2 := fun d e Q => (d.shp = true ∧ e.shp = true) ∧ Q (.dat (.bl (d.eqb e)))
def gNe : G2 := fun d e Q => (d.shp = true ∧ e.shp = true) ∧ Q (.dat (.bl (!d.eqb e)))
section
variable {K : PySem.W.Frag}
theorem shp_plain {d : D} (h : d.shp = true) : d.plain = true := by
  unfold D.shp at h
  rw [Bool.and_eq_true] at h
  exact h.1
theorem ops_eq : OpS K (rEqD K) gEq := fun B H x y d e Qw Q sub hx hy g p =>
  ⟨d.py, e.py, hx.dp sub (shp_plain g.1.1), hy.dp sub (shp_plain g.1.2), D.shp_shaped g.1.1, D.shp_shaped g.1.2, p.bl g.2⟩
theorem ops_ne : OpS K (rNeD K) gNe := fun B H x y d e Qw Q sub hx hy g p =>
  ⟨d.py, e.py, hx.dp sub (shp_plain g.1.1), hy.dp sub (shp_plain g.1.2), D.shp_shaped g.1.1, D.shp_shaped g.1.2, p.bl g.2⟩
def gInL : G2
  | d, .lst ds, Q => (d.shp = true ∧ (D.lst ds).shp = true) ∧ Q (.dat (.bl (ds.any fun z => z.eqb d)))
  | _, _, _ => False
def gNotInL : G2
  | d, .lst ds, Q => (d.shp = true ∧ (D.lst ds).shp = true) ∧ Q (.dat (.bl (!ds.any fun z => z.eqb d)))
  | _, _, _ => False
theorem pys_any (d : D) : ∀ ds : List D, ((D.pys ds).any fun z => PyData.eqv z d.py) = ds.any fun z => z.eqb d
  | [] => by simp [D.pys]
  | z :: ds => by rw [D.pys, List.any_cons, List.any_cons, pys_any d ds]; rfl
theorem ops_in : OpS K (rInD K) gInL := by
  intro B H x y d e Qw Q sub hx hy g p
  cases e with
  | lst ds =>
    have h2 := hy.dp sub (shp_plain g.1.2)
    have h3 := D.shp_shaped g.1.2
    rw [D.py] at h2 h3
    exact ⟨d.py, D.pys ds, hx.dp sub (shp_plain g.1.1), h2, D.shp_shaped g.1.1, h3, by rw [pys_any]; exact p.bl g.2⟩
  | _ => exact g.elim
theorem ops_notin : OpS K (rNotInD K) gNotInL := by
  intro B H x y d e Qw Q sub hx hy g p
  cases e with
  | lst ds =>
    have h2 := hy.dp sub (shp_plain g.1.2)
    have h3 := D.shp_shaped g.1.2
    rw [D.py] at h2 h3
    exact ⟨d.py, D.pys ds, hx.dp sub (shp_plain g.1.1), h2, D.shp_shaped g.1.1, h3, by rw [pys_any]; exact p.bl g.2⟩
  | _ => exact g.elim
end

/-! ### x[i], x[a:b] -/
def withOp {α : Type} (o : Option α) (k : α → Prop) : Prop := match o with
  | some x => k x
  | none => False
theorem withOp_some {α : Type} {o : Option α} {k : α → Prop} (h : withOp o k) : ∃ x, o = some x ∧ k x := by
  cases o with
  | none => exact h.elim
  | some x => exact ⟨x, rfl, h⟩
def gIx : G2
  | .tup ds, .int i, Q => withOp (atI ds i) fun d => Q (.dat d)
  | .lst ds, .int i, Q => withOp (atI ds i) fun d => Q (.dat d)
  | _, _, _ => False
section
variable {K : PySem.W.Frag}
theorem IpAll.atI {B H : Hp} {vs : List V} {ds : List D} (h : IpAll K B H vs ds) {i : Int} {d : D} (e : L2.atI ds i = some d) : ∃ v, L2.atI vs i = some v ∧ Ip K B H v d := by
  unfold L2.atI at e ⊢
  rw [h.length]
  cases q : ixN ds.length i with
  | none => rw [q] at e; cases e
  | some j =>
    rw [q] at e
    obtain ⟨v, h1, h2⟩ := h.get (i := j) (d := d) e
    exact ⟨v, h1, h2⟩
theorem ops_ix : OpS K (rIx K) gIx := by
  intro B H x y d e Qw Q sub hx hy g p
  cases d <;> cases e <;> first | exact g.elim | skip
  · cases hy
    obtain ⟨d, e, g⟩ := withOp_some g
    cases hx with
    | tup h t =>
      obtain ⟨v, h1, h2⟩ := t.atI e
      exact .inr (.inl ⟨_, _, _, v, rfl, rfl, h, h1, p.old h2 g⟩)
  · cases hy
    obtain ⟨d, e, g⟩ := withOp_some g
    obtain ⟨a, xs, rfl, h, t⟩ := hx
    obtain ⟨v, h1, h2⟩ := t.atI e
    exact .inl ⟨_, _, _, v, rfl, rfl, h, h1, p.old h2 g⟩
end
section
variable {X : Cx} {W : WX} {a b : Expr} {wa wb : EW} {pos : Pos}
theorem de_ix (ha : DE X W a wa) (hb : DE X W b wb) (hs : PlainIx b := by intro _ _; rfl) : DE X W (.Subscript a b pos) (wOp gIx wa wb) := by
  obtain ⟨ta, pa, sa⟩ := ha.ok
  obtain ⟨tb, pb, sb⟩ := hb.ok
  exact ⟨_, pe_ix ix_seq pa pb hs, sim_op ops_ix sa sb⟩
end
end DL

set_option Elab.async false
set_option linter.all false
set_option maxRecDepth 100000
set_option maxHeartbeats 4000000
/-! DLh: slices, built-ins, methods of lists, sources of loops, more statements. -/
namespace DL
open PySem L2

/-! ### slices -/
def cutD (xs : List D) (lo hi : Option Int) : List D := (xs.drop (HT.sIx xs.length 0 lo)).take (HT.sIx xs.length xs.length hi - HT.sIx xs.length 0 lo)
abbrev OW := En → (Option Int → En → Prop) → (Value → En → Prop) → Prop
def SimO (K : PySem.W.Frag) (W : WX) (t : TO) (w : OW) : Prop := ∀ (B : Hp) (σ : St) (ρ : En) (H : Hp) (Qw : Option Int → En → Prop) (Xw : Value → En → Prop) (Q : Option Int → Hp → Prop), SR K B σ ρ H → w ρ Qw Xw → XWof K W σ B ρ H Xw →
  (∀ o B' ρ' H', SR K B' σ ρ' H' → Tr σ B ρ H B' ρ' H' → Qw o ρ' → Q o H') → t σ H Q
structure DO (X : Cx) (W : WX) (e : Option Expr) (w : OW) : Prop where
  ok : ∃ t, PO X e t ∧ SimO X.K W t w
def wNoPart : OW := fun ρ Q _ => Q none ρ
def wPart (we : EW) : OW := fun ρ Q X => we ρ (fun r ρ1 => match r with
  | .dat (.int i) => Q (some i) ρ1
  | _ => False) X
def gSl (d : D) (lo hi : Option Int) (Q : Sl → Prop) : Prop := match d with
  | .lst ds => Q (.own (cutD ds lo hi))
  | .tup ds => Q (.dat (.tup (cutD ds lo hi)))
  | _ => False
def wSl (we : EW) (wl wh : OW) : EW := fun ρ Q X => we ρ (fun r ρ1 => wl ρ1 (fun lo ρ2 => wh ρ2 (fun hi ρ3 => withC ρ3 r fun d => gSl d lo hi fun s => Q s ρ3) X) X) X
/-- a slice of a list or a tuple (the whole tuple is itself) -/
def rSlW (K : PySem.W.Frag) : V → Option Int → Option Int → Hp → VK → Prop := fun x lo hi H Q => ∃ a xs, x = .ref a ∧ SqT K H a xs ∧
  (HT.sIx xs.length 0 lo = 0 ∧ HT.sIx xs.length xs.length hi = xs.length) ∧ Q (.ref a) H
section
open PySem.Spec PyProof.Rows
variable {prog : Program} {w : World} {A : Around} {E : Value → Shared → Prop} {s : Shared}
theorem getItem_tuple_whole {t sl : Addr} {items : Array Value} {vl vu : Value} {lo hi : Option Int} {Q : Value → Shared → Prop} (ht : IsTup s.heap t items) (hs : s.heap.IsSliceOf sl vl vu .none) (pl : IsPart vl lo) (pu : IsPart vu hi)
    (hw : HT.sIx items.size 0 lo = 0 ∧ HT.sIx items.size items.size hi = items.size)
    (h : Q (.ref t) s) : wpAny (model prog w) A (getItem (.ref t) (.ref sl)) Q E s := by
  obtain ⟨os, hos, hcs, hds⟩ := id hs
  have hTs : s.TypeIs (.ref sl) "slice" := ⟨os, hos, hcs⟩
  unfold getItem
  try with_reducible refine wpAny_holding ?_
  first | refine wpAny_bind (wpAny_pure ?_) | skip
  refine wpAny_bind (wpAny_sequenceKey ht.typeIs (by decide) ?_)
  refine wpAny_bind (wpAny_callSpecial?_slot (name := Str.ofString "__getitem__") ht.typeIs PyProof.Rows.slot_tuple_getitem
    (wpAny_call_entry PyProof.Rows.slot_tuple_getitem ht.typeIs entry_tuple_getitem ?_ (args_tuple_getitem _ _)))
  show wpAny _ _ (Builtin.Tuple.tupleItemsOf (.ref t) >>= _) _ _ s
  refine wpAny_bind (tupleItemsOf_ ht ?_)
  refine wpAny_bind (wpAny_typeOf hTs ?_)
  rw [if_pos (by decide)]
  refine wpAny_bind (HT.sliceApplied_gen hs pl pu ?_)
  have hyes : ((((HT.sIx items.size 0 lo : Nat) : Int) == 0 && (1 : Int) == 1 && (HT.sIx items.size items.size hi - HT.sIx items.size 0 lo) == items.size) = true) := by
    rw [hw.1, hw.2]
    simp
  show wpAny _ _ (if (((HT.sIx items.size 0 lo : Nat) : Int) == 0 && (1 : Int) == 1 && (HT.sIx items.size items.size hi - HT.sIx items.size 0 lo) == items.size) = true then _ else _) _ _ s
  rw [if_pos hyes]
  refine wpAny_bind (m := Builtin.Tuple.tupleIsExact _) (wpAny_bind (wpAny_typeOf ht.typeIs (wpAny_pure ?_)))
  rw [if_pos (by decide)]
  refine wpAny_bind (wpAny_rule ?_)
  first
    | exact wpAny_pure ⟨_, rfl, wpAny_pure h⟩
    | exact wpAny_bind (wpAny_pure (wpAny_pure ⟨_, rfl, wpAny_pure h⟩))
end
section
variable {X : Cx}
theorem sl_tupW : L2.SlR X (rSlW X.K) := by
  intro pins s σ H x v vl vu lo hi sl Q I rx hs pl pu h
  obtain ⟨a, xs, rfl, hx, hw, q⟩ := h
  cases rx
  obtain ⟨its, r, ht, hz⟩ := I.tuple hx
  have hlen : its.toArray.size = xs.length := by rw [List.size_toArray]; exact r.length.symm
  refine ⟨"tuple", _, PyProof.Rows.slot_tuple_getitem.lookup, ht.typeIs, ?_⟩
  exact getItem_tuple_whole ht hs pl pu (by rw [hlen]; exact hw) ⟨.ref a, H, I, rfl, q⟩
def rSlA (K : PySem.W.Frag) : V → Option Int → Option Int → Hp → VK → Prop := fun x lo hi H Q => rSlL K x lo hi H Q ∨ (rSlT K x lo hi H Q ∨ rSlW K x lo hi H Q)
theorem sl_any : L2.SlR X (rSlA X.K) := L2.SlR.or sl_list (L2.SlR.or sl_tup sl_tupW)
end
section
variable {K : PySem.W.Frag} {W : WX}
theorem IpAll.cut {B H : Hp} {vs : List V} {ds : List D} (h : IpAll K B H vs ds) (lo hi : Option Int) : IpAll K B H (cutV vs lo hi) (cutD ds lo hi) := by
  unfold cutV cutD
  rw [h.length]
  exact (h.drop _).take _
theorem cutD_whole {ds : List D} {lo hi : Option Int} (h : HT.sIx ds.length 0 lo = 0 ∧ HT.sIx ds.length ds.length hi = ds.length) : cutD ds lo hi = ds := by
  unfold cutD
  rw [h.1, h.2]
  simp
theorem sls {B H : Hp} {x : V} {d : D} {lo hi : Option Int} {Qw : Sl → Prop} {Q : VK} (sub : Same B H) (hx : RdB K B H x d) (g : gSl d lo hi Qw) (p : PP K B H Qw Q) : rSlA K x lo hi H Q := by
  cases d with
  | lst ds =>
    obtain ⟨a, xs, rfl, h1, h2⟩ := hx
    exact .inl ⟨a, xs, rfl, h1, p.lst (h2.cut lo hi) g⟩
  | tup ds =>
    cases hx with
    | tup h t =>
      rename_i a xs
      by_cases hw : HT.sIx xs.length 0 lo = 0 ∧ HT.sIx xs.length xs.length hi = xs.length
      · refine .inr (.inr ⟨_, _, rfl, h, hw, p.old (.tup h t) ?_⟩)
        rw [t.length] at hw
        have g : Qw (.dat (.tup (cutD ds lo hi))) := g
        rw [cutD_whole hw] at g
        exact g
      · exact .inr (.inl ⟨_, _, rfl, h, hw, p.tup (t.cut lo hi) g⟩)
  | _ => exact g.elim
theorem sim_sl {te : TE} {we : EW} {tl th : TO} {wl wh : OW} (he : SimE K W te we) (hl : SimO K W tl wl) (hh : SimO K W th wh) : SimE K W (tSl (rSlA K) te tl th) (wSl we wl wh) := by
  intro B σ ρ H Qw Xw Q s h hx q
  refine he B σ ρ H _ Xw _ s h hx fun v r B1 ρ1 H1 s1 t1 rv1 q1 => ?_
  refine hl B1 σ ρ1 H1 _ Xw _ s1 q1 (hx.lift s1 t1) fun lo B2 ρ2 H2 s2 t2 q2 => ?_
  refine hh B2 σ ρ2 H2 _ Xw _ s2 q2 ((hx.lift s1 t1).lift s2 t2) fun hi B3 ρ3 H3 s3 t3 q3 => ?_
  obtain ⟨d, e, q3⟩ := withC_some q3
  have t23 := t2.trans s2 t3
  have t13 := t1.trans s1 t23
  exact sls s3.sub ((rv1.lift s1 t23).rd s3 e) q3 fun z sl H' sm rv qq => q z sl B3 ρ3 H' (s3.same sm) (t13.trans s3 (Tr.same sm)) ((rv.rv s3 sm).early s3 t13) qq
end
section
variable {X : Cx} {W : WX} {e : Expr} {we : EW} {lo hi : Option Expr} {wl wh : OW} {pos p2 : Pos}
theorem do_none : DO X W none wNoPart := ⟨_, po_none, fun B σ ρ H Qw Xw Q s h hx q => q none B ρ H s (Tr.refl ..) h⟩
theorem do_some (h : DE X W e we) : DO X W (some e) (wPart we) := by
  obtain ⟨t, p, s⟩ := h.ok
  refine ⟨_, po_some p, fun B σ ρ H Qw Xw Q sr h hx q => ?_⟩
  refine s B σ ρ H _ Xw _ sr h hx fun v r B1 ρ1 H1 s1 t1 rv1 q1 => ?_
  cases r with
  | dat d =>
    cases d with
    | int i => cases rv1; exact ⟨i, rfl, q (some i) B1 ρ1 H1 s1 t1 q1⟩
    | _ => exact q1.elim
  | _ => exact q1.elim
theorem de_sl (he : DE X W e we) (hl : DO X W lo wl) (hh : DO X W hi wh) : DE X W (.Subscript e (.Slice lo hi none p2) pos) (wSl we wl wh) := by
  obtain ⟨t, p, s⟩ := he.ok
  obtain ⟨tl, pl, sl⟩ := hl.ok
  obtain ⟨th, ph, sh⟩ := hh.ok
  exact ⟨_, pe_slice sl_any p pl ph, sim_sl s sl sh⟩
end

/-! ### built-ins -/
def gLen : GN
  | [.tup ds], Q => Q (.dat (.int ds.length))
  | [.lst ds], Q => Q (.dat (.int ds.length))
  | _, _ => False
def gAbs : GN
  | [.int i], Q => Q (.dat (.int (if i < 0 then -i else i)))
  | _, _ => False
def gMax : GN
  | [.int i, .int j], Q => Q (.dat (.int (if j > i then j else i)))
  | _, _ => False
def gMin : GN
  | [.int i, .int j], Q => Q (.dat (.int (if j < i then j else i)))
  | _, _ => False
def gInt : GN
  | [.int i], Q => Q (.dat (.int i))
  | [.bl k], Q => Q (.dat (.int (if k then 1 else 0)))
  | _, _ => False
def gTuple : GN
  | [.lst ds], Q => Q (.dat (.tup ds))
  | [.tup ds], Q => Q (.dat (.tup ds))
  | _, _ => False
def gList : GN
  | [.lst ds], Q => Q (.own ds)
  | [.tup ds], Q => Q (.own ds)
  | _, _ => False
/-- bools of data -/
def blsOf : List D → Option (List Bool)
  | [] => some []
  | .bl b :: ds => (blsOf ds).map (b :: ·)
  | _ => none
def intsOf : List D → Option (List Int)
  | [] => some []
  | .int b :: ds => (intsOf ds).map (b :: ·)
  | _ => none
def gAny : GN
  | [.lst ds], Q => withOp (blsOf ds) fun bs => Q (.dat (.bl (bs.any id)))
  | _, _ => False
def gAll : GN
  | [.lst ds], Q => withOp (blsOf ds) fun bs => Q (.dat (.bl (bs.all id)))
  | _, _ => False
def gSorted : GN
  | [.lst ds], Q => withOp (intsOf ds) fun ns => ns.length < 64 ∧ ∀ ns' : List Int, ns'.Perm ns → ns'.Pairwise (· ≤ ·) → Q (.own (ns'.map .int))
  | _, _ => False
section
variable {K : PySem.W.Frag} {B H : Hp}
theorem bls_vs : ∀ {ds : List D} {vs : List V} {bs : List Bool}, IpAll K B H vs ds → blsOf ds = some bs → vs = bs.map V.bl
  | [], _, _, .nil, e => by cases e; rfl
  | .bl b :: ds, _, bs, .cons (.bl _) t, e => by
    cases q : blsOf ds with
    | none => rw [blsOf, q] at e; cases e
    | some bs' => rw [blsOf, q] at e; cases e; rw [bls_vs t q]; rfl
  | .non :: _, _, _, _, e => by cases e
  | .int _ :: _, _, _, _, e => by cases e
  | .str _ :: _, _, _, _, e => by cases e
  | .tup _ :: _, _, _, _, e => by cases e
  | .lst _ :: _, _, _, _, e => by cases e
  | .adr _ :: _, _, _, _, e => by cases e
  | .ty _ :: _, _, _, _, e => by cases e
theorem ints_vs : ∀ {ds : List D} {vs : List V} {bs : List Int}, IpAll K B H vs ds → intsOf ds = some bs → vs = bs.map V.int
  | [], _, _, .nil, e => by cases e; rfl
  | .int b :: ds, _, bs, .cons (.int _) t, e => by
    cases q : intsOf ds with
    | none => rw [intsOf, q] at e; cases e
    | some bs' => rw [intsOf, q] at e; cases e; rw [ints_vs t q]; rfl
  | .non :: _, _, _, _, e => by cases e
  | .bl _ :: _, _, _, _, e => by cases e
  | .str _ :: _, _, _, _, e => by cases e
  | .tup _ :: _, _, _, _, e => by cases e
  | .lst _ :: _, _, _, _, e => by cases e
  | .adr _ :: _, _, _, _, e => by cases e
  | .ty _ :: _, _, _, _, e => by cases e
end
section
variable {K : PySem.W.Frag}
theorem rd1 {B H : Hp} {xs : List V} {d : D} (h : RdAll K B H xs [d]) : ∃ x, xs = [x] ∧ RdB K B H x d := by
  cases h with
  | cons a b => cases b; exact ⟨_, rfl, a⟩
theorem rd2 {B H : Hp} {xs : List V} {d e : D} (h : RdAll K B H xs [d, e]) : ∃ x y, xs = [x, y] ∧ RdB K B H x d ∧ RdB K B H y e := by
  cases h with
  | cons a b => cases b with | cons c d => cases d; exact ⟨_, _, rfl, a, c⟩
theorem cs_len : CallS K (fun xs H Q => ∃ p ys, xs = [.ref p] ∧ (SqL K H p ys ∨ SqT K H p ys) ∧ Q (.int ys.length) H) gLen := by
  intro B H xs ds Qw Q sub hr g p
  match ds, hr, g with
  | [.tup ds], hr, g =>
    obtain ⟨x, rfl, h⟩ := rd1 hr
    cases h with
    | tup a b => exact ⟨_, _, rfl, .inr a, by rw [b.length]; exact p.int g⟩
  | [.lst ds], hr, g =>
    obtain ⟨x, rfl, a, xs, rfl, h1, h2⟩ := rd1 hr
    exact ⟨_, _, rfl, .inl h1, by rw [h2.length]; exact p.int g⟩
theorem cs_abs : CallS K (fun xs H Q => ∃ i, xs = [.int i] ∧ Q (.int (if i < 0 then -i else i)) H) gAbs := by
  intro B H xs ds Qw Q sub hr g p
  match ds, hr, g with
  | [.int i], hr, g =>
    obtain ⟨x, rfl, h⟩ := rd1 hr
    cases h
    exact ⟨_, rfl, p.int g⟩
theorem cs_max : CallS K (fun xs H Q => ∃ i j, xs = [.int i, .int j] ∧ Q (.int (if j > i then j else i)) H) gMax := by
  intro B H xs ds Qw Q sub hr g p
  match ds, hr, g with
  | [.int i, .int j], hr, g =>
    obtain ⟨x, y, rfl, h, h'⟩ := rd2 hr
    cases h; cases h'
    exact ⟨_, _, rfl, p.int g⟩
theorem cs_min : CallS K (fun xs H Q => ∃ i j, xs = [.int i, .int j] ∧ Q (.int (if j < i then j else i)) H) gMin := by
  intro B H xs ds Qw Q sub hr g p
  match ds, hr, g with
  | [.int i, .int j], hr, g =>
    obtain ⟨x, y, rfl, h, h'⟩ := rd2 hr
    cases h; cases h'
    exact ⟨_, _, rfl, p.int g⟩
theorem cs_int : CallS K (fun xs H Q => (∃ i, xs = [.int i] ∧ Q (.int i) H) ∨ ∃ k, xs = [.bl k] ∧ Q (.int (if k then 1 else 0)) H) gInt := by
  intro B H xs ds Qw Q sub hr g p
  match ds, hr, g with
  | [.int i], hr, g =>
    obtain ⟨x, rfl, h⟩ := rd1 hr
    cases h
    exact .inl ⟨_, rfl, p.int g⟩
  | [.bl i], hr, g =>
    obtain ⟨x, rfl, h⟩ := rd1 hr
    cases h
    exact .inr ⟨_, rfl, p.int g⟩
theorem cs_tuple : CallS K (fun xs H Q => ∃ p ys, xs = [.ref p] ∧ ((SqL K H p ys ∧ ∀ l, H l = none → Q (.ref l) (upd H l (.tup ys))) ∨ (SqT K H p ys ∧ Q (.ref p) H))) gTuple := by
  intro B H xs ds Qw Q sub hr g p
  match ds, hr, g with
  | [.tup ds], hr, g =>
    obtain ⟨x, rfl, h⟩ := rd1 hr
    cases h with
    | tup a b => exact ⟨_, _, rfl, .inr ⟨a, p.old (.tup a b) g⟩⟩
  | [.lst ds], hr, g =>
    obtain ⟨x, rfl, a, xs, rfl, h1, h2⟩ := rd1 hr
    exact ⟨_, _, rfl, .inl ⟨h1, p.tup h2 g⟩⟩
theorem cs_list : CallS K (fun xs H Q => ∃ p ys, xs = [.ref p] ∧ (SqL K H p ys ∨ SqT K H p ys) ∧ ∀ l, H l = none → Q (.ref l) (upd H l (.lst ys))) gList := by
  intro B H xs ds Qw Q sub hr g p
  match ds, hr, g with
  | [.tup ds], hr, g =>
    obtain ⟨x, rfl, h⟩ := rd1 hr
    cases h with
    | tup a b => exact ⟨_, _, rfl, .inr a, p.lst b g⟩
  | [.lst ds], hr, g =>
    obtain ⟨x, rfl, a, xs, rfl, h1, h2⟩ := rd1 hr
    exact ⟨_, _, rfl, .inl h1, p.lst h2 g⟩
theorem cs_any : CallS K (rAny K) gAny := by
  intro B H xs ds Qw Q sub hr g p
  match ds, hr, g with
  | [.lst ds], hr, g =>
    obtain ⟨x, rfl, a, xs, rfl, h1, h2⟩ := rd1 hr
    obtain ⟨bs, e, g⟩ := withOp_some g
    have ev := bls_vs h2 e
    subst ev
    exact ⟨a, bs, rfl, h1, p.bl g⟩
theorem cs_all : CallS K (rAll K) gAll := by
  intro B H xs ds Qw Q sub hr g p
  match ds, hr, g with
  | [.lst ds], hr, g =>
    obtain ⟨x, rfl, a, xs, rfl, h1, h2⟩ := rd1 hr
    obtain ⟨bs, e, g⟩ := withOp_some g
    have ev := bls_vs h2 e
    subst ev
    exact ⟨a, bs, rfl, h1, p.bl g⟩
theorem cs_sorted : CallS K (rSorted K) gSorted := by
  intro B H xs ds Qw Q sub hr g p
  match ds, hr, g with
  | [.lst ds], hr, g =>
    obtain ⟨x, rfl, a, xs, rfl, h1, h2⟩ := rd1 hr
    obtain ⟨bs, e, hl, g⟩ := withOp_some g
    have ev := ints_vs h2 e
    subst ev
    exact ⟨a, bs, rfl, h1, hl, fun ns' q hp hs hq => p.lst (IpAll.ints ns') (g ns' hp hs) q hq⟩
end

/-! ### methods of one's own list -/
def mAppend : GM
  | ds, [d], Q => ds.length < sizeLine ∧ Q .non (ds ++ [d])
  | _, _, _ => False
def mPop : GM
  | ds, [], Q => withOp ds[ds.length - 1]? fun d => Q d ds.dropLast
  | _, _, _ => False
def mPopAt : GM
  | ds, [.int i], Q => (-(2 ^ 63) ≤ i ∧ i < 2 ^ 63) ∧ withOp (seqIndex? i ds.length) fun k => withOp ds[k]? fun d => Q d (ds.eraseIdx k)
  | _, _, _ => False
def mReverse : GM
  | ds, [], Q => Q .non ds.reverse
  | _, _, _ => False
def mClear : GM
  | ds, [], Q => Q .non []
  | _, _, _ => False
section
variable {K : PySem.W.Frag}
theorem ms_append : MtS K rAppend mAppend := by
  intro B H p vs xs ds args Qw Q hp ia ix m q
  match args, ix, m with
  | [d], .cons h .nil, m => exact ⟨p, vs, _, rfl, rfl, hp, by rw [ia.length]; exact m.1, q _ _ _ _ (ia.append (.cons h .nil)) .non m.2⟩
theorem ms_pop : MtS K rPop mPop := by
  intro B H p vs xs ds args Qw Q hp ia ix m q
  match args, ix, m with
  | [], .nil, m =>
    obtain ⟨d, e, m⟩ := withOp_some m
    obtain ⟨v, h1, h2⟩ := ia.get e
    exact ⟨p, vs, v, rfl, rfl, hp, by rw [ia.length]; exact h1, q _ _ _ _ ia.dropLast h2 m⟩
theorem ms_popAt : MtS K rPopAt mPopAt := by
  intro B H p vs xs ds args Qw Q hp ia ix m q
  match args, ix, m with
  | [.int i], .cons (.int _) .nil, m =>
    obtain ⟨⟨b1, b2⟩, m⟩ := m
    obtain ⟨k, e, m⟩ := withOp_some m
    obtain ⟨d, e2, m⟩ := withOp_some m
    obtain ⟨v, h1, h2⟩ := ia.get e2
    exact ⟨p, vs, i, k, v, rfl, rfl, hp, b1, b2, by rw [ia.length]; exact e, h1, q _ _ _ _ (ia.eraseIdx k) h2 m⟩
theorem ms_reverse : MtS K rReverse mReverse := by
  intro B H p vs xs ds args Qw Q hp ia ix m q
  match args, ix, m with
  | [], .nil, m => exact ⟨p, vs, rfl, rfl, hp, q _ _ _ _ ia.reverse .non m⟩
theorem ms_clear : MtS K rClear mClear := by
  intro B H p vs xs ds args Qw Q hp ia ix m q
  match args, ix, m with
  | [], .nil, m => exact ⟨p, vs, rfl, rfl, hp, q _ _ _ _ .nil .non m⟩
end
section
variable {X : Cx} {W : WX} {e : Expr} {es : List Expr} {wr : AW} {name : Str} {apos cpos pos : Pos} {id : String} {r : V → List V → Hp → VK → Prop} {m : GM}
theorem de_mt (i : Nat) {x : Str} (slot : Slot "list" name id) (hty : typeOf (.builtin id) = pure (.type "method_descriptor")) (hm : MtR X id r) (ms : MtS X.K r m) (ha : DA X W (e :: es) wr)
    (hN : X.N[i]? = some x := by rfl) (hv : Vis X.env.scope x := by first | exact Or.inl rfl | exact Or.inr (Or.inl rfl) | exact Or.inr (Or.inr rfl)) (hd : (x == ("__debug__" : Str)) = false := by decide)
    (hcd : (x == ("__classdict__" : Str)) = false := by decide)
    (hbase : attributeBase (.Name x pos) name X.env (eval (.Name x pos) X.env) = eval (.Name x pos) X.env := by rfl)
    (hfew : ((backTo cpos (starEach (e :: es) X.env)).all (fun x => !x.1) && (backToKw cpos (keywordEach [] X.env)).all (fun x => x.1.isSome)
      && decide ((e :: es).length + ([] : List Keyword).length + (if ([] : List Keyword).isEmpty then 0 else 1) < 30)) = true := by rfl)
    (hline : (apos.endLine == cpos.line) = true := by rfl) (hs : starEach (e :: es) X.env = (false, eval e X.env) :: starEach es X.env := by rfl) (hplain : (backTo cpos (starEach es X.env)).any (·.1) = false := by rfl) :
    DE X W (.Call (.Attribute (.Name x pos) name apos) (e :: es) [] cpos) (wMt m i wr) := by
  obtain ⟨t, p, s⟩ := ha.ok
  exact ⟨_, pe_bm PySem.F.plainAttrs_list slot hty hm (pe_var hN hv hd hcd) p hbase hfew hline hs hplain, sim_mt ms i s⟩
theorem de_mt0 (i : Nat) {x : Str} (slot : Slot "list" name id) (hty : typeOf (.builtin id) = pure (.type "method_descriptor")) (hm : MtR X id r) (ms : MtS X.K r m)
    (hN : X.N[i]? = some x := by rfl) (hv : Vis X.env.scope x := by first | exact Or.inl rfl | exact Or.inr (Or.inl rfl) | exact Or.inr (Or.inr rfl)) (hd : (x == ("__debug__" : Str)) = false := by decide)
    (hcd : (x == ("__classdict__" : Str)) = false := by decide)
    (hbase : attributeBase (.Name x pos) name X.env (eval (.Name x pos) X.env) = eval (.Name x pos) X.env := by rfl) (hline : (apos.endLine == cpos.line) = true := by rfl) :
    DE X W (.Call (.Attribute (.Name x pos) name apos) [] [] cpos) (wMt0 m i) :=
  ⟨_, pe_bm0 PySem.F.plainAttrs_list slot hty hm (pe_var hN hv hd hcd) hbase hline, sim_mt0 ms i⟩
end
end DL

set_option Elab.async false
set_option linter.all false
set_option maxRecDepth 100000
set_option maxHeartbeats 4000000
/-! DLi: sources of loops; more statements. -/
namespace DL
open PySem L2

/-! ### a list or a tuple -/
def iSeq (K : PySem.W.Frag) (tl : TE) : TI := fun σ H R => tl σ H fun x H1 => ∃ a xs, x = .ref a ∧ ((SqL K H1 a xs ∧ R (Itl K a) H1) ∨ (SqT K H1 a xs ∧ R (Itt K a) H1))
section
variable {X : Cx} {tg : Expr}
theorem pi_seq {l : Expr} {tl : TE} (hl : PE X l tl) : PI X tg l (iSeq X.K tl) := by
  refine ⟨fun pins s σ H R I h => ?_⟩
  refine thn (hl.run pins s σ H _ I h) fun v s1 ⟨x, H1, I1, r1, q1⟩ => ?_
  obtain ⟨a, xs, e, q⟩ := q1
  subst e
  cases r1
  have fin : ∀ b, b ∈ [s1.heap.objs.size] → FpOk X pins H1 b := fun b hb => by
    have e : b = s1.heap.objs.size := by simpa using hb
    subst e
    exact I1.fpOk (Nat.le_refl _) (I1.hok.fresh (Nat.le_refl _))
  rcases q with ⟨hq, q⟩ | ⟨hq, q⟩
  · obtain ⟨its, rv, p, hz⟩ := I1.list hq
    refine wpAny_pyIter_list p.isList ?_
    exact ⟨s1.heap.objs.size, [s1.heap.objs.size], _, _, H1, rfl, I1.kept (t' := s1.toks) fun b o e => Heap.get?_push_of_some _ e, turn_list a _, ⟨_, Heap.get?_push_size _ rfl, rfl, rfl⟩, fin, q⟩
  · obtain ⟨its, rv, p, hz⟩ := I1.tuple hq
    refine wpAny_pyIter_tuple (show s1.heap.IsTuple a its.toArray from p) ?_
    exact ⟨s1.heap.objs.size, [s1.heap.objs.size], _, _, H1, rfl, I1.kept (t' := s1.toks) fun b o e => Heap.get?_push_of_some _ e, turn_tuple a _, ⟨_, Heap.get?_push_size _ rfl, rfl, rfl⟩, fin, q⟩
end
def wSrc (we : EW) : IW := fun ρ Q X => we ρ (fun r ρ1 => match r with
  | .dat (.tup ds) => Q ds ρ1
  | .dat (.lst ds) => Q ds ρ1
  | .own ds => Q ds ρ1
  | _ => False) X
section
variable {K : PySem.W.Frag} {W : WX}
theorem wk_list {a : Addr} {xs : List V} {ds : List D} {B0 H0 : Hp} (h : SqL K B0 a xs) (ia : IpAll K B0 H0 xs ds) : Wk K (Itl K a) ds (okS B0 H0) where
  go := fun k B H ⟨bb, tu, sub⟩ hk => by
    have hk' : k < xs.length := by rw [ia.length]; exact hk
    exact ⟨xs, xs[k], sub.seq (bb.seq h), List.getElem?_eq_getElem hk'⟩
  yld := fun k B H x H' ⟨bb, tu, sub⟩ hy hk => by
    obtain ⟨rfl, f⟩ := hy
    have hx := f xs (sub.seq (bb.seq h))
    obtain ⟨d, e, i⟩ := ia.getV hx
    exact ⟨d, e, Same.refl _, i.mono bb tu⟩
  stop := fun k B H ⟨bb, tu, sub⟩ hk => ⟨xs, sub.seq (bb.seq h), by rw [ia.length]; exact hk⟩
theorem wk_tup {a : Addr} {xs : List V} {ds : List D} {B0 H0 : Hp} (h : SqT K H0 a xs) (ia : IpAll K B0 H0 xs ds) : Wk K (Itt K a) ds (okS B0 H0) where
  go := fun k B H ⟨bb, tu, sub⟩ hk => by
    have hk' : k < xs.length := by rw [ia.length]; exact hk
    exact ⟨xs, xs[k], tu.sq h, List.getElem?_eq_getElem hk'⟩
  yld := fun k B H x H' ⟨bb, tu, sub⟩ hy hk => by
    obtain ⟨rfl, f⟩ := hy
    have hx := f xs (tu.sq h)
    obtain ⟨d, e, i⟩ := ia.getV hx
    exact ⟨d, e, Same.refl _, i.mono bb tu⟩
  stop := fun k B H ⟨bb, tu, sub⟩ hk => ⟨xs, tu.sq h, by rw [ia.length]; exact hk⟩
theorem sim_src {te : TE} {we : EW} (he : SimE K W te we) : SimI K W (iSeq K te) (wSrc we) := by
  intro B σ ρ H Qw Xw R s h hx q
  refine he B σ ρ H _ Xw _ s h hx fun v r B1 ρ1 H1 s1 t1 rv1 q1 => ?_
  cases r with
  | dat d =>
    cases d with
    | tup ds =>
      cases rv1 with
      | tup hh ia => exact ⟨_, _, rfl, .inr ⟨hh, q _ ds B1 ρ1 H1 s1 t1 (wk_tup hh ia) q1⟩⟩
    | lst ds =>
      cases rv1 with
      | lst hh ia => exact ⟨_, _, rfl, .inl ⟨s1.sub.seq hh, q _ ds B1 ρ1 H1 s1 t1 (wk_list hh ia) q1⟩⟩
    | _ => exact q1.elim
  | own ds =>
    have rva : RvAll K B1 σ ρ1 H1 H [v] [.own ds] := .cons (H1 := H1) rv1 (fun b hb => t1.free s1 hb) (fun p dl e1 e2 => by
      cases e1
      obtain ⟨p', vs', e, _, _, hp, _⟩ := rv1
      rw [e2] at e; cases e
      rw [hp]; simp) .nil
    obtain ⟨B2, s2, bb, bn, ia⟩ := rva.freeze s1 (ds := [.lst ds]) rfl
    have t2 : Tr σ B ρ H B2 ρ1 H1 := ⟨t1.ext, t1.bex.trans bb, fun b hb => (bn b hb).elim (fun z => t1.bnew b z) .inr, t1.shp, t1.shi⟩
    cases ia with
    | cons i0 _ =>
      cases i0 with
      | lst hh il => exact ⟨_, _, rfl, .inl ⟨s2.sub.seq hh, q _ ds B2 ρ1 H1 s2 t2 (wk_list hh il) q1⟩⟩
  | inn ds => exact q1.elim
  | bor i => exact q1.elim
end
/-! ### range -/
def rgD (lo : Int) (n : Nat) : List D := (List.range n).map fun i => .int (lo + (i : Nat))
def wRg1 (we : EW) : IW := fun ρ Q X => we ρ (fun r ρ1 => match r with
  | .dat (.int j) => (-(2 ^ 62) ≤ j ∧ j < 2 ^ 62) ∧ Q (rgD 0 j.toNat) ρ1
  | _ => False) X
def wRg2 (wa wb : EW) : IW := fun ρ Q X => wa ρ (fun r ρ1 => wb ρ1 (fun r' ρ2 => match r, r' with
  | .dat (.int i), .dat (.int j) => ((-(2 ^ 62) ≤ i ∧ i < 2 ^ 62) ∧ -(2 ^ 62) ≤ j ∧ j < 2 ^ 62) ∧ Q (rgD i (j - i).toNat) ρ2
  | _, _ => False) X) X
section
variable {K : PySem.W.Frag} {W : WX}
theorem rgD_len (lo : Int) (n : Nat) : (rgD lo n).length = n := by unfold rgD; simp
theorem rgD_get {lo : Int} {n k : Nat} (h : k < n) : (rgD lo n)[k]? = some (.int (lo + (k : Nat))) := by
  unfold rgD
  rw [List.getElem?_map, List.getElem?_range h]; rfl
theorem wk_rg (lo : Int) (n : Nat) (ok : Hp → Hp → Prop) : Wk K (Itr lo n) (rgD lo n) ok where
  go := fun k B H _ hk => by rw [rgD_len] at hk; exact hk
  yld := fun k B H x H' _ hy hk => by
    obtain ⟨rfl, rfl⟩ := hy
    rw [rgD_len] at hk
    exact ⟨_, rgD_get hk, Same.refl _, .int _⟩
  stop := fun k B H _ hk => by rw [rgD_len] at hk; exact hk
end
section
variable {X : Cx} {W : WX} {tg a b e : Expr} {wa wb we : EW} {pos p : Pos}
theorem di_seq (he : DE X W e we) : DI X W tg e (wSrc we) := by
  obtain ⟨t, p, s⟩ := he.ok
  exact ⟨_, pi_seq p, sim_src s⟩
theorem di_range1 (hg : Gl X "range") (hm : X.mg "range" = none) (ha : DE X W a wa) (hs : starEach [a] X.env = [(false, eval a X.env)] := by rfl) : DI X W tg (.Call (.Name "range" p) [a] [] pos) (wRg1 wa) := by
  obtain ⟨t, pa, sa⟩ := ha.ok
  refine ⟨_, pi_range1 hg hm (pa_cons pa pa_nil hs) hs, fun B σ ρ H Qw Xw R s h hx q => ?_⟩
  refine sa B σ ρ H _ Xw _ s h hx fun v r B1 ρ1 H1 s1 t1 rv1 q1 => ?_
  cases r with
  | dat d =>
    cases d with
    | int j =>
      cases rv1
      exact ⟨j, rfl, q1.1.1, q1.1.2, q _ _ B1 ρ1 H1 s1 t1 (wk_rg 0 _ _) q1.2⟩
    | _ => exact q1.elim
  | _ => exact q1.elim
theorem di_range2 (hg : Gl X "range") (hm : X.mg "range" = none) (ha : DE X W a wa) (hb : DE X W b wb) (hs : starEach [a, b] X.env = [(false, eval a X.env), (false, eval b X.env)] := by rfl) (hs2 : starEach [b] X.env = [(false, eval b X.env)] := by rfl) : DI X W tg (.Call (.Name "range" p) [a, b] [] pos) (wRg2 wa wb) := by
  obtain ⟨t, pa, sa⟩ := ha.ok
  obtain ⟨t2, pb, sb⟩ := hb.ok
  refine ⟨_, pi_range2 hg hm (pa_cons pa (pa_cons pb pa_nil hs2) (by rw [hs, hs2])) hs hs2, fun B σ ρ H Qw Xw R s h hx q => ?_⟩
  refine sa B σ ρ H _ Xw _ s h hx fun v r B1 ρ1 H1 s1 t1 rv1 q1 => ?_
  refine sb B1 σ ρ1 H1 _ Xw _ s1 q1 (hx.lift s1 t1) fun v2 r2 B2 ρ2 H2 s2 t2 rv2 q2 => ?_
  cases r with
  | dat d =>
    cases d with
    | int i =>
      cases r2 with
      | dat d2 =>
        cases d2 with
        | int j =>
          cases rv1
          cases rv2
          exact ⟨i, j, rfl, ⟨q2.1.1.1, q2.1.1.2, q2.1.2.1, q2.1.2.2⟩, q _ _ B2 ρ2 H2 s2 (t1.trans s1 t2) (wk_rg _ _ _) q2.2⟩
        | _ => exact q2.elim
      | _ => exact q2.elim
    | _ => exact q2.elim
  | _ => exact q2.elim
end

/-! ### list(range(..)), tuple(range(..)) -/
def wTupRg (we : IW) : EW := fun ρ Q X => we ρ (fun ds ρ1 => ds.length ≤ 16777216 ∧ Q (.dat (.tup ds)) ρ1) X
def wLstRg (we : IW) : EW := fun ρ Q X => we ρ (fun ds ρ1 => ds.length ≤ 16777216 ∧ Q (.own ds) ρ1) X
section
variable {X : Cx} {W : WX} {tg a b e : Expr} {wa wb we : EW} {pos p pos2 p2 : Pos}
theorem rgV_ip {K : PySem.W.Frag} {B H : Hp} (lo hi : Int) : IpAll K B H (rgV lo hi) (rgD lo (hi - lo).toNat) := by
  unfold rgV rgD
  generalize List.range (hi - lo).toNat = l
  induction l with
  | nil => exact .nil
  | cons x l ih => exact .cons (.int _) ih
theorem rg_post {K : PySem.W.Frag} {B B1 H H1 : Hp} {σ : St} {ρ ρ1 : En} {j : Int} {Qw : Sl → En → Prop} {Q : VK} (s1 : SR K B1 σ ρ1 H1) (t1 : Tr σ B ρ H B1 ρ1 H1) (q : ∀ v r B' ρ' H', SR K B' σ ρ' H' → Tr σ B ρ H B' ρ' H' → RvR K B' σ ρ' H H' v r → Qw r ρ' → Q v H') {v : V} {r : Sl} {H' : Hp} (sm : Same H1 H') (rv : RvV K B1 H1 H' v r) (qq : Qw r ρ1) : Q v H' :=
  q v r B1 ρ1 H' (s1.same sm) (t1.trans s1 (Tr.same sm)) ((rv.rv s1 sm).early s1 t1) qq
theorem de_tupRg1 (hc : X.calm = true) (hg0 : Gl X "tuple") (hm0 : X.mg "tuple" = none) (hg : Gl X "range") (hm : X.mg "range" = none) (ha : DE X W a wa) (na : starEach [a] X.env = (false, eval a X.env) :: starEach [] X.env := by rfl)
    (nb : starEach [Expr.Call (.Name "range" p) [a] [] pos] X.env = (false, eval (Expr.Call (.Name "range" p) [a] [] pos) X.env) :: starEach [] X.env := by rfl) : DE X W (.Call (.Name "tuple" p2) [.Call (.Name "range" p) [a] [] pos] [] pos2) (wTupRg (wRg1 wa)) := by
  obtain ⟨t, pa, sa⟩ := ha.ok
  refine ⟨_, pe_tupRg hc hg0 hm0 (prg_1 hg hm pa na) nb, fun B σ ρ H Qw Xw Q s h hx q => ?_⟩
  refine sa B σ ρ H _ Xw _ s h hx fun v r B1 ρ1 H1 s1 t1 rv1 q1 => ?_
  cases r with
  | dat d =>
    cases d with
    | int j =>
      cases rv1
      obtain ⟨⟨b1, b2⟩, hl, q1⟩ := q1
      rw [rgD_len] at hl
      have e : ((j : Int) - 0).toNat = j.toNat := by rw [Int.sub_zero]
      refine ⟨j, rfl, ⟨by omega, by omega, b1, b2, by omega⟩, fun p hp => ?_⟩
      have p0 : PP X.K B1 H1 (fun r => Qw r ρ1) Q := fun v sl H' sm rv qq => rg_post (j := j) s1 t1 q sm rv qq
      exact p0.tup (rgV_ip 0 j) (by rw [e]; exact q1) p hp
    | _ => exact q1.elim
  | _ => exact q1.elim
theorem de_lstRg1 (hc : X.calm = true) (hg0 : Gl X "list") (hm0 : X.mg "list" = none) (hg : Gl X "range") (hm : X.mg "range" = none) (ha : DE X W a wa) (na : starEach [a] X.env = (false, eval a X.env) :: starEach [] X.env := by rfl)
    (nb : starEach [Expr.Call (.Name "range" p) [a] [] pos] X.env = (false, eval (Expr.Call (.Name "range" p) [a] [] pos) X.env) :: starEach [] X.env := by rfl) : DE X W (.Call (.Name "list" p2) [.Call (.Name "range" p) [a] [] pos] [] pos2) (wLstRg (wRg1 wa)) := by
  obtain ⟨t, pa, sa⟩ := ha.ok
  refine ⟨_, pe_listRg hc hg0 hm0 (prg_1 hg hm pa na) nb, fun B σ ρ H Qw Xw Q s h hx q => ?_⟩
  refine sa B σ ρ H _ Xw _ s h hx fun v r B1 ρ1 H1 s1 t1 rv1 q1 => ?_
  cases r with
  | dat d =>
    cases d with
    | int j =>
      cases rv1
      obtain ⟨⟨b1, b2⟩, hl, q1⟩ := q1
      rw [rgD_len] at hl
      have e : ((j : Int) - 0).toNat = j.toNat := by rw [Int.sub_zero]
      refine ⟨j, rfl, ⟨by omega, by omega, b1, b2, by omega⟩, fun p hp => ?_⟩
      have p0 : PP X.K B1 H1 (fun r => Qw r ρ1) Q := fun v sl H' sm rv qq => rg_post (j := j) s1 t1 q sm rv qq
      exact p0.lst (rgV_ip 0 j) (by rw [e]; exact q1) p hp
    | _ => exact q1.elim
  | _ => exact q1.elim
end

/-! ### reversed -/
def wRev (we : EW) : IW := fun ρ Q X => we ρ (fun r ρ1 => match r with
  | .dat (.tup ds) => Q ds.reverse ρ1
  | .dat (.lst ds) => Q ds.reverse ρ1
  | .own ds => Q ds.reverse ρ1
  | _ => False) X
section
variable {K : PySem.W.Frag} {W : WX}
theorem rev_get {α : Type} {l : List α} {k : Nat} (h : k < l.length) : l.reverse[k]? = l[l.length - 1 - k]? := by
  rw [List.getElem?_reverse h]
theorem wk_revL {a : Addr} {xs : List V} {ds : List D} {B0 H0 : Hp} (h : SqL K B0 a xs) (ia : IpAll K B0 H0 xs ds) : Wk K (Itv K a xs.length) ds.reverse (okS B0 H0) where
  go := fun k B H ⟨bb, tu, sub⟩ hk => by
    rw [List.length_reverse, ← ia.length] at hk
    have h1 : xs.length - 1 - k < xs.length := by omega
    exact ⟨hk, xs, xs[xs.length - 1 - k], sub.seq (bb.seq h), List.getElem?_eq_getElem h1⟩
  yld := fun k B H x H' ⟨bb, tu, sub⟩ hy hk => by
    rw [List.length_reverse] at hk
    obtain ⟨rfl, f⟩ := hy
    have hx := f xs (sub.seq (bb.seq h))
    obtain ⟨d, e, i⟩ := ia.getV hx
    refine ⟨d, ?_, Same.refl _, i.mono bb tu⟩
    rw [rev_get hk, ← ia.length]; exact e
  stop := fun k B H ⟨bb, tu, sub⟩ hk => by
    rw [List.length_reverse, ← ia.length] at hk
    exact hk
theorem wk_revT {a : Addr} {xs : List V} {ds : List D} {B0 H0 : Hp} (h : SqT K H0 a xs) (ia : IpAll K B0 H0 xs ds) : Wk K (RT.ItvT K a xs.length) ds.reverse (okS B0 H0) where
  go := fun k B H ⟨bb, tu, sub⟩ hk => by
    rw [List.length_reverse, ← ia.length] at hk
    have h1 : xs.length - 1 - k < xs.length := by omega
    exact ⟨hk, xs, xs[xs.length - 1 - k], tu.sq h, List.getElem?_eq_getElem h1⟩
  yld := fun k B H x H' ⟨bb, tu, sub⟩ hy hk => by
    rw [List.length_reverse] at hk
    obtain ⟨rfl, f⟩ := hy
    have hx := f xs (tu.sq h)
    obtain ⟨d, e, i⟩ := ia.getV hx
    refine ⟨d, ?_, Same.refl _, i.mono bb tu⟩
    rw [rev_get hk, ← ia.length]; exact e
  stop := fun k B H ⟨bb, tu, sub⟩ hk => by
    rw [List.length_reverse, ← ia.length] at hk
    exact hk
theorem sim_rev {te : TE} {we : EW} (he : SimE K W te we) : SimI K W (RT.iRevA K te) (wRev we) := by
  intro B σ ρ H Qw Xw R s h hx q
  refine he B σ ρ H _ Xw _ s h hx fun v r B1 ρ1 H1 s1 t1 rv1 q1 => ?_
  cases r with
  | dat d =>
    cases d with
    | tup ds =>
      cases rv1 with
      | tup hh ia => exact ⟨_, _, rfl, .inr ⟨hh, q _ _ B1 ρ1 H1 s1 t1 (wk_revT hh ia) q1⟩⟩
    | lst ds =>
      cases rv1 with
      | lst hh ia => exact ⟨_, _, rfl, .inl ⟨s1.sub.seq hh, q _ _ B1 ρ1 H1 s1 t1 (wk_revL hh ia) q1⟩⟩
    | _ => exact q1.elim
  | own ds =>
    have rva : RvAll K B1 σ ρ1 H1 H [v] [.own ds] := .cons (H1 := H1) rv1 (fun b hb => t1.free s1 hb) (fun p dl e1 e2 => by
      cases e1
      obtain ⟨p', vs', e, _, _, hp, _⟩ := rv1
      rw [e2] at e; cases e
      rw [hp]; simp) .nil
    obtain ⟨B2, s2, bb, bn, ia⟩ := rva.freeze s1 (ds := [.lst ds]) rfl
    have t2 : Tr σ B ρ H B2 ρ1 H1 := ⟨t1.ext, t1.bex.trans bb, fun b hb => (bn b hb).elim (fun z => t1.bnew b z) .inr, t1.shp, t1.shi⟩
    cases ia with
    | cons i0 _ =>
      cases i0 with
      | lst hh il => exact ⟨_, _, rfl, .inl ⟨s2.sub.seq hh, q _ _ B2 ρ1 H1 s2 t2 (wk_revL hh il) q1⟩⟩
  | inn ds => exact q1.elim
  | bor i => exact q1.elim
end
section
variable {X : Cx} {W : WX} {tg e : Expr} {we : EW} {pos p : Pos}
theorem di_rev (hg : Gl X "reversed") (hm : X.mg "reversed" = none) (he : DE X W e we) (hs : starEach [e] X.env = (false, eval e X.env) :: starEach [] X.env := by rfl) : DI X W tg (.Call (.Name "reversed" p) [e] [] pos) (wRev we) := by
  obtain ⟨t, pa, sa⟩ := he.ok
  exact ⟨_, RT.pi_revA hg hm pa hs, sim_rev sa⟩
end

/-! ### a slot's list is given away (no step of the machine) -/
def frz (ρ : En) (i : Nat) : En := match ρ[i]? with
  | some (some (.own ds)) => ρ.set i (some (.dat (.lst ds)))
  | _ => ρ
def wFrz (i : Nat) (w : SW) : SW := fun E ρ => w E (frz ρ i)
section
variable {K : PySem.W.Frag} {W : WX}
theorem FR.frz {H0 B0 B H : Hp} {L : Nat → Addr → Prop} {σ : St} {ρ : En} (f : FR K H0 B0 L B σ ρ H) (i : Nat) : ∃ B', FR K H0 B0 L B' σ (frz ρ i) H ∧ Gr B H B' H := by
  unfold DL.frz
  split
  · rename_i ds e
    obtain ⟨v, hv, p, vs, ev, nb, hp, ia⟩ := f.slot i _ e
    subst ev
    have hi : i < ρ.length := (List.getElem?_eq_some_iff.mp e).1
    have hs : i < σ.length := by rw [f.len]; exact hi
    have own : OwnAt σ ρ p := ⟨i, by rw [e]; rfl, hv⟩
    have bb : Same B (upd B p (.lst vs)) := upd_same_sub nb
    have shp : ∀ j, isOwn (ρ.set i (some (.dat (.lst ds))))[j]? = true → j ≠ i ∧ isOwn ρ[j]? = true := fun j h => by
      by_cases hj : j = i
      · subst hj; rw [List.getElem?_set_self hi] at h; cases h
      · rw [List.getElem?_set_ne (Ne.symm hj)] at h; exact ⟨hj, h⟩
    have ownp : ∀ b, OwnAt σ (ρ.set i (some (.dat (.lst ds)))) b → OwnAt σ ρ b ∧ b ≠ p := fun b ⟨j, h1, h2⟩ => by
      obtain ⟨hj, h1⟩ := shp j h1
      exact ⟨⟨j, h1, h2⟩, fun z => hj (f.inj j i p h1 (by rw [e]; rfl) (z ▸ h2) hv)⟩
    refine ⟨upd B p (.lst vs), ⟨⟨by simp [f.len], ?_, ?_, ?_⟩, f.ext0, fun b z => f.fresh b (ownp b z).1, fun j b h => ?_, fun b hb => ?_⟩, ⟨bb, Tups.of (Same.refl _)⟩⟩
    · intro b o q
      by_cases hb : b = p
      · subst hb; rw [upd_same] at q; cases q; exact hp
      · rw [upd_ne hb] at q; exact f.sub b o q
    · intro j sl h
      by_cases hj : j = i
      · subst hj
        rw [List.getElem?_set_self hi] at h; cases h
        exact ⟨.ref p, hv, .lst (.inl (.inl upd_same)) (ia.mono bb (Tups.of (Same.refl _)))⟩
      · rw [List.getElem?_set_ne (Ne.symm hj)] at h
        obtain ⟨u, hu, r⟩ := f.slot j sl h
        refine ⟨u, hu, ?_⟩
        have oth : ∀ dl, OwnL K B H u dl → isOwn ρ[j]? = true → OwnL K (upd B p (.lst vs)) H u dl := fun dl ⟨p', us, a, b, c, d⟩ hoj => by
          subst a
          have hne : p' ≠ p := fun z => hj (f.inj j i p hoj (by rw [e]; rfl) (z ▸ hu) hv)
          exact ⟨p', us, rfl, by rw [upd_ne hne]; exact b, c, d.mono bb (Tups.of (Same.refl _))⟩
        cases sl with
        | dat d => exact Ip.mono bb (Tups.of (Same.refl _)) r
        | own dl => exact oth dl r (by rw [h]; rfl)
        | inn dl => exact oth dl r (by rw [h]; rfl)
        | bor k => exact r.elim
    · intro a b q h1 h2 h3 h4
      exact f.inj a b q (shp a h1).2 (shp b h2).2 h3 h4
    · obtain ⟨h1, dl, h2⟩ := f.keep j b h
      have hj : j ≠ i := fun z => by subst z; rw [e] at h2; cases h2
      rw [List.getElem?_set_ne (Ne.symm hj)]
      exact ⟨h1, dl, h2⟩
    · by_cases hbp : b = p
      · subst hbp
        rcases f.fresh b own with z | ⟨j, z⟩
        · exact .inr z
        · exfalso
          obtain ⟨h1, dl, h2⟩ := f.keep j b z
          have := f.inj j i b (by rw [h2]; rfl) (by rw [e]; rfl) h1 hv
          subst this
          rw [e] at h2; cases h2
      · rw [upd_ne hbp] at hb
        exact f.bnew b hb
  · exact ⟨B, f, Gr.refl ..⟩
theorem sim_frz (i : Nat) {t : TS} {w : SW} (h : SimS K W t w) : SimS K W t (wFrz i w) := by
  intro H0 B0 L B σ ρ H E Ew f hw n r b c x
  obtain ⟨B1, f1, g1⟩ := f.frz i
  exact h H0 B0 L B1 σ _ H E Ew f1 hw (fun B2 σ2 ρ2 H2 f2 g2 => n B2 σ2 ρ2 H2 f2 (g1.trans g2)) r (fun B2 σ2 ρ2 H2 f2 g2 => b B2 σ2 ρ2 H2 f2 (g1.trans g2)) (fun B2 σ2 ρ2 H2 f2 g2 => c B2 σ2 ρ2 H2 f2 (g1.trans g2)) (fun c B9 σ9 ρ9 H9 f9 g9 => x c B9 σ9 ρ9 H9 f9 (g1.trans g9))
end
/-- a, b = e -/
def wSetT (is : List Nat) (we : EW) : SW := fun E ρ => we ρ (fun r ρ1 => match r with
  | .dat (.tup ds) => (ds.length = is.length ∧ notInns ρ1 is) ∧ E.nx (setsE ρ1 is ds)
  | _ => False) E.ex
/-- a, b = e1, e2 -/
def wPar (i j : Nat) (wa wb : EW) : SW := fun E ρ => wa ρ (fun r ρ1 => wb ρ1 (fun r' ρ2 => match r, r' with
  | .dat d, .dat d' => (notInn ρ2 i ∧ notInn ρ2 j) ∧ E.nx ((ρ2.set i (some (.dat d))).set j (some (.dat d')))
  | _, _ => False) E.ex) E.ex
section
variable {X : Cx} {W : WX} {st : Stmt} {w : SW} {we wa wb wj : EW} {e a b o : Expr} {es : List Expr} {is : List Nat} {pos : Pos}
theorem ds_frz (i : Nat) (h : DS X W st w) : DS X W st (wFrz i w) := by
  obtain ⟨t, p, s⟩ := h.ok
  exact ⟨t, p, sim_frz i s⟩
theorem ds_setT {k : Nat} {tpos : Pos} (hc : X.calm = true) (he : DE X W e we) (hg : DGs X es is) (hn : (assignEach es X.env).length = is.length := by rfl) (hst : (assignEach es X.env).findIdx? (·.1) = none := by rfl)
    (hs : swapsWithSole [.Tuple es k tpos] e pos.line X.env = pure false := by rfl) (hw : swappedStores [.Tuple es k tpos] e X.env = pure none := by rfl)
    (h1 : (assignEach [.Tuple es k tpos] X.env).map (·.2) = [assign (.Tuple es k tpos) X.env] := by rfl) : DS X W (.Assign [.Tuple es k tpos] e pos) (wSetT is we) := by
  obtain ⟨t, p, s⟩ := he.ok
  refine ⟨_, ps_asg p (pg_tup hc hg.ok hn hst) hs hw h1, ?_⟩
  intro H0 B0 L B σ ρ H E Ew f h n r b c x
  refine s B σ ρ H _ _ _ f.toSR h (xw f x) fun v rr B1 ρ1 H1 s1 t1 rv q => ?_
  cases rr with
  | dat d =>
    cases d with
    | tup ds =>
      have hl : (if ds.length = is.length then some ds else none) = some ds := if_pos q.1.1
      exact simg_tup is B1 H1 σ v (.tup ds) ds _ rv hl fun vs hv ia => n B1 _ _ H1 ((f.step s1 t1).sets q.1.2 ia) (t1.gr f.toSR) q.2
    | _ => exact q.elim
  | _ => exact q.elim
theorem ds_par (i j : Nat) {x y : Str} {px py pt : Pos} {kt k2 pt2} (hc : X.calm = true) (hN : X.N.Nodup) (ha : DE X W a wa) (hb : DE X W b wb) (hi : X.N[i]? = some x := by rfl) (hj : X.N[j]? = some y := by rfl) (hij : i ≠ j := by decide)
    (hx : X.env.scope.names.lookup x = some .local := by rfl) (hy : X.env.scope.names.lookup y = some .local := by rfl)
    (hp : ∀ {ta tb : TE}, PE X a ta → PE X b tb → PS X (.Assign [.Tuple [.Name x px, .Name y py] kt pt] (.Tuple [a, b] k2 pt2) pos) (tPar i j (tCons ta (tCons tb tNil)))) :
    DS X W (.Assign [.Tuple [.Name x px, .Name y py] kt pt] (.Tuple [a, b] k2 pt2) pos) (wPar i j wa wb) := by
  obtain ⟨t1, p1, s1⟩ := ha.ok
  obtain ⟨t2, p2, s2⟩ := hb.ok
  refine ⟨_, hp p1 p2, ?_⟩
  intro H0 B0 L B σ ρ H E Ew f h n r b c x
  refine s1 B σ ρ H _ _ _ f.toSR h (xw f x) fun v rr B1 ρ1 H1 sr1 tr1 rv q => ?_
  have f1 := f.step sr1 tr1
  refine s2 B1 σ ρ1 H1 _ _ _ sr1 q (xw f1 (fun c B9 σ9 ρ9 H9 f9 g9 => x c B9 σ9 ρ9 H9 f9 ((tr1.gr f.toSR).trans g9))) fun v2 rr2 B2 ρ2 H2 sr2 tr2 rv2 q2 => ?_
  cases rr with
  | dat d =>
    cases rr2 with
    | dat d2 =>
      refine ⟨v, v2, rfl, ?_⟩
      have f2 := f1.step sr2 tr2
      have iv : Ip X.K B2 H2 v d := Ip.step sr1 tr2 rv
      have f3 := f2.set q2.1.1 (sl := .dat d) iv fun p a => by cases a
      have f4 := f3.set (notInn_set q2.1.2) (sl := .dat d2) rv2 fun p a => by cases a
      exact n B2 _ _ H2 f4 ((tr1.gr f.toSR).trans (tr2.gr sr1)) q2.2
    | _ => exact q2.elim
  | _ => cases rr2 <;> exact q2.elim
theorem ds_setIt (i : Nat) {x : Str} {xp tpos : Pos} (he : DE X W e we) (hj : DE X W o wj) (hN : X.N[i]? = some x := by rfl) (hv : Vis X.env.scope x := by first | exact Or.inl rfl | exact Or.inr (Or.inl rfl) | exact Or.inr (Or.inr rfl))
    (hp : ∀ {te tj : TE}, PE X e te → PE X o tj → PS X (.Assign [.Subscript (.Name x xp) o tpos] e pos) (tAsg te (gSub (tVar i) tj rSetL))) : DS X W (.Assign [.Subscript (.Name x xp) o tpos] e pos) (wSetIt i we wj) := by
  obtain ⟨t1, p1, s1⟩ := he.ok
  obtain ⟨t2, p2, s2⟩ := hj.ok
  exact ⟨_, hp p1 p2, sim_setIt i s1 s2⟩
end
end DL

set_option Elab.async false
set_option linter.all false
set_option maxRecDepth 100000
set_option maxHeartbeats 4000000
/-! DLj: enumerate of a tuple or a list. -/
namespace PySem
open Sem (wp)
open AutoSeq1 (wpAny_loadPart')
theorem meets_enumerate_newT (l : Addr) (items : Array Value) (n : Nat) (dct : Option Addr) (sl : Array (Option Value)) :
    Meets (Builtin.«enumerate.__new__» ⟨[.type "enumerate", .ref l], []⟩) (fun _ R s => s.heap.get? l = some { cls := .type "tuple", dict := dct, data := .seq items n, slots := sl } ∧
      R (.ok (.ret (.ref (s.heap.push { cls := .type "tuple_iterator", data := .fields #[.ref l, .int 0 0] }).objs.size)))
        { s with heap := (s.heap.push { cls := .type "tuple_iterator", data := .fields #[.ref l, .int 0 0] }).push { cls := .type "enumerate", data := .fields #[.none, .bool false, .ref s.heap.objs.size, rawInt 0, .none, .none] } }) :=
  .of_wp fun prog w A R s h => by
    obtain ⟨hp, g, d, tk, os⟩ := s; obtain ⟨hl, h⟩ := h
    have hsub := sub_enumerate
    have hL : Heap.IsTuple (Shared.heap ⟨hp, g, d, tk, os⟩) l items := ⟨_, hl, rfl, n, rfl⟩
    wp_walk using wpAny_loadPart' hl
    refine wpAny_stack_any fun st => wpAny_pure ?_
    split
    · rename_i c _ _ _ _ _
      cases (c == Value.type "enumerate")
      · wp_walk using wpAny_loadPart' hl, wpAny_pyIter_tuple hL
        exact ⟨_, rfl, h⟩
      · wp_walk using wpAny_loadPart' hl, wpAny_pyIter_tuple hL
        exact ⟨_, rfl, h⟩
    · wp_walk using wpAny_loadPart' hl, wpAny_pyIter_tuple hL
      exact ⟨_, rfl, h⟩
section
variable {prog : Program} {w : World} {A : Around} {E : Value → Shared → Prop} {s : Shared}
theorem call_enumerate_tuple {l : Addr} {items : Array Value} {Q : Value → Shared → Prop} (hL : s.heap.IsTuple l items)
    (h : ∀ h', IsEnum h' (s.heap.objs.size + 1) s.heap.objs.size 0 .none → h'.IsTupleIter s.heap.objs.size l 0 → h'.objs.size = s.heap.objs.size + 2 →
      (∀ b o, s.heap.get? b = some o → h'.get? b = some o) → Q (.ref (s.heap.objs.size + 1)) { s with heap := h' }) :
    wpAny (model prog w) A (call (.type "enumerate") [.ref l]) Q E s := by
  obtain ⟨⟨c, dct, dt, sl⟩, hl, hc, n, hd⟩ := hL
  replace hc : c = .type "tuple" := hc
  replace hd : dt = .seq items n := hd
  subst hc hd
  refine callType_new F.called_enumerate (by decide) (F.typeCall_enumerate_1 _) (F.newCall_enumerate_1 _) (fun obj => F.args_object_init_2 obj _) F.entry_enumerate_new
    (meets_enumerate_newT l items n dct sl) ⟨hl, ?_⟩
  have hz : (s.heap.push { cls := .type "tuple_iterator", data := .fields #[.ref l, .int 0 0] }).objs.size = s.heap.objs.size + 1 := Heap.size_push ..
  show _ ∧ _
  rw [hz]
  have he : IsEnum ((s.heap.push { cls := .type "tuple_iterator", data := .fields #[.ref l, .int 0 0] }).push
      { cls := .type "enumerate", data := .fields #[.none, .bool false, .ref s.heap.objs.size, rawInt 0, .none, .none] }) (s.heap.objs.size + 1) s.heap.objs.size 0 .none := by
    have := Heap.get?_push_size (s.heap.push { cls := .type "tuple_iterator", data := .fields #[.ref l, .int 0 0] })
      (o := { cls := .type "enumerate", data := .fields #[.none, .bool false, .ref s.heap.objs.size, rawInt 0, .none, .none] }) rfl
    rw [hz] at this; exact this
  refine ⟨⟨_, he, rfl⟩, h _ he ⟨_, Heap.get?_push_of_some _ (Heap.get?_push_size _ rfl), rfl, rfl⟩ (by rw [Heap.size_push, hz]) fun b o x => Heap.get?_push_of_some _ (Heap.get?_push_of_some _ x)⟩
end
end PySem

namespace DL
open PySem L2
/-- the tuple at a, each item in a new pair -/
def IteT (K : PySem.W.Frag) (a : Addr) : It :=
  ⟨fun i H => ∃ (xs : List V) (x : V), SqT K H a xs ∧ xs[i]? = some x, fun i H v H' => ∃ T x, v = .ref T ∧ H T = none ∧ H' = upd H T (.tup [.int (i : Nat), x]) ∧ ∀ xs, SqT K H a xs → xs[i]? = some x, fun i H => ∃ xs : List V, SqT K H a xs ∧ xs.length ≤ i⟩
open PySem.Spec PyProof.Rows in
theorem turn_enumT {P : Program} {w : World} {K : PySem.W.Frag} {elts : List Expr} {kk : Nat} {tpos : Pos} (a e it : Addr) :
    Turn P w K (.Tuple elts kk tpos) (IteT K a) [e, it] e (fun i h => (∃ old, IsEnum h e it ((i : Nat) : Int) old) ∧ h.IsTupleIter it a i ∧ e ≠ it) where
  mem := by simp
  obj := fun i h st b hb => by
    obtain ⟨⟨old, he⟩, ⟨o, ho, hc, hd⟩, _⟩ := st
    have e' : b = e ∨ b = it := by simpa using hb
    rcases e' with z | z
    · rw [z]; exact ⟨_, he, fun v q => nomatch q⟩
    · rw [z]; exact ⟨o, ho, fun v q => by rw [hd] at q; cases q⟩
  keep := fun i h h' st k => let ⟨⟨old, he⟩, hi, hne⟩ := st; ⟨⟨old, k e (by simp) _ he⟩, hi.at fun o q => k it (by simp) o q, hne⟩
  item := by
    intro X hP hw hK hc i pins s σ H E I hf st hg
    subst hP hw hK
    obtain ⟨⟨old, he⟩, hit, hne⟩ := st
    obtain ⟨xs, x, hq, hx⟩ := hg
    obtain ⟨its, rv, p, hz⟩ := I.tuple hq
    obtain ⟨u, hu, ru⟩ := rv.get hx
    have hel : e < s.heap.objs.size := Heap.lt_size he
    have hil : it < s.heap.objs.size := by obtain ⟨_, q, _⟩ := hit; exact Heap.lt_size q
    have hta : s.heap.IsTuple a its.toArray := p
    have hai : a ≠ it := fun z => by
      obtain ⟨o, ho, hcc, _⟩ := hta
      obtain ⟨o', ho', hc', _⟩ := hit
      rw [z, ho'] at ho; cases ho
      rw [hc'] at hcc; exact absurd hcc (by decide)
    have hae : e ≠ a := fun z => by
      obtain ⟨o, ho, hcc, _⟩ := hta
      rw [← z, he] at ho; cases ho
      have hcc : Value.type "enumerate" = Value.type "tuple" := hcc
      exact absurd hcc (by decide)
    have hlt : i < its.toArray.size := by
      have h1 : its[i]? = some u := hu
      have := (List.getElem?_eq_some_iff.mp h1).1
      simpa using this
    refine wpAny_pyNext_enum_itemD (Draws.tuple (prog := X.prog) (w := X.w) (A := X.A.in1) (I.ok.hd hc) it a hai its.toArray) he ⟨hit, hta⟩ hlt hne (by simp [hne, hae]) fun y h' tk hP hO hS hT hsz hk => ?_
    have hy : y = u := by
      have h1 : its.toArray[i]? = some y := hP
      have h2 : its.toArray[i]? = some u := by simpa using hu
      rw [h2] at h1; exact (Option.some.inj h1).symm
    subst hy
    obtain ⟨hit', _⟩ := hS
    refine ⟨_, rfl, wpAny_letOwnedTupleGo_enum (s := { s with heap := h', toks := tk + 1 }) hO fun h'' he' sb => ?_⟩
    have hT2 : h''.get? s.heap.objs.size = some { cls := .type "tuple", data := .seq #[.int i tk, y] } := (sb.2 _ (Nat.ne_of_gt hel)).trans hT
    have new : ObjOk X.prog X.w (upd H s.heap.objs.size (.tup [.int (i : Nat), x])) h'' s.heap.objs.size (.tup [.int (i : Nat), x]) :=
      ⟨by show 2 ≤ sizeLine; decide, [.int i tk, y], .cons ⟨_, rfl⟩ (.cons ru .nil), ⟨_, hT2, rfl, _, rfl⟩⟩
    have I1 : Inv X pins σ (upd H s.heap.objs.size (.tup [.int (i : Nat), x])) { s with heap := h'', toks := tk + 1 } :=
      I.turnedNew (ch := [e, it]) (fun b ob hb q => (sb.2 b (fun z => hb (by simp [z]))).trans (hk b ob (fun z => hb (by simp [z])) (fun z => hb (by simp [z])) q)) hf (Nat.le_refl _) new
    refine ⟨.ref s.heap.objs.size, _, I1, rfl, ⟨_, x, rfl, I.hok.fresh (Nat.le_refl _), rfl, fun ys hy => by rw [I.tuple_inj hy hq]; exact hx⟩, ⟨⟨y, ?_⟩, hit'.at fun o q => (sb.2 it (Ne.symm hne)).trans q, hne⟩, fun b hb => ?_⟩
    · have e1 : ((i + 1 : Nat) : Int) = (i : Int) + 1 := by omega
      rw [e1]; exact he'
    · have hb' : b < s.heap.objs.size := by
        have e' : b = e ∨ b = it := by simpa using hb
        rcases e' with z | z
        · rw [z]; exact hel
        · rw [z]; exact hil
      rw [upd_ne (Nat.ne_of_lt hb')]
      exact (hf b hb).1
  done := by
    intro X hP hw hK hc i pins s σ H E I hf st hg
    subst hP hw hK
    obtain ⟨⟨old, he⟩, hit, hne⟩ := st
    obtain ⟨xs, hq, hx⟩ := hg
    obtain ⟨its, rv, p, hz⟩ := I.tuple hq
    obtain ⟨f0, f1, f2, f3, f4, f5⟩ := hf it (by simp)
    have hl := rv.length
    have hT : s.TypeIs (.ref e) "enumerate" := ⟨_, he, rfl⟩
    unfold pyNext
    refine wpAny_bind (wpAny_attempt (wpAny_callSpecial?_slot (name := Str.ofString "__next__") hT F.slot_enumerate_next
      (wpAny_call_entry F.slot_enumerate_next hT F.entry_enumerate_next ?_ (F.args_enumerate_next_1 _))))
    show wpAny _ _ (field (.ref e) 2 >>= _) _ _ _
    refine wpAny_bind (wpAny_field he rfl (x := .ref it) rfl ?_)
    refine wpAny_bind (wpAny_nextOf_tuple_end (I.ok.hd hc) hit (show s.heap.IsTuple a its.toArray from p) (by simp; omega) fun h' x he' hx' => ?_)
    obtain ⟨o, ho, hc⟩ := hx'
    refine wpAny_bind (wpAny_isInstance (T := "StopIteration") (b := true) ⟨o, ho, hc⟩ isSubtype_stop ?_)
    exact wpAny_pure ⟨rfl, I.turned (t' := s.toks) (fun b o hb q => he' b o hb q) f0 f1 f3 f4 f5⟩
  self := fun A i s Q E st h => let ⟨⟨_, he⟩, _⟩ := st; wpAny_pyIter_enum he h
def iEnumA (K : PySem.W.Frag) (te : TE) : TI := fun σ H R => te σ H fun v H1 => ∃ (a : Addr) (xs : List V), v = .ref a ∧ ((SqL K H1 a xs ∧ R (Ite K a) H1) ∨ (SqT K H1 a xs ∧ R (IteT K a) H1))
open PySem.Spec PyProof.Rows in
theorem pi_enumA {X : Cx} {e : Expr} {te : TE} {p pos tpos : Pos} {elts : List Expr} {kk : Nat} (hg : Gl X "enumerate") (hm : X.mg "enumerate" = none) (he : PE X e te) (hs : starEach [e] X.env = [(false, eval e X.env)] := by rfl) :
    PI X (.Tuple elts kk tpos) (.Call (.Name "enumerate" p) [e] [] pos) (iEnumA X.K te) := by
  refine ⟨fun pins s σ H R I h => ?_⟩
  have h' : tCons te tNil σ H (fun vs H1 => ∃ (a : Addr) (xs : List V), vs = [.ref a] ∧ ((SqL X.K H1 a xs ∧ R (Ite X.K a) H1) ∨ (SqT X.K H1 a xs ∧ R (IteT X.K a) H1))) := by
    exact (show te σ H (fun x H1 => ∃ (a : Addr) (xs : List V), [x] = [V.ref a] ∧ ((SqL X.K H1 a xs ∧ R (Ite X.K a) H1) ∨ (SqT X.K H1 a xs ∧ R (IteT X.K a) H1))) from by
      have : (fun x H1 => ∃ (a : Addr) (xs : List V), x = V.ref a ∧ ((SqL X.K H1 a xs ∧ R (Ite X.K a) H1) ∨ (SqT X.K H1 a xs ∧ R (IteT X.K a) H1))) = (fun x H1 => ∃ (a : Addr) (xs : List V), [x] = [V.ref a] ∧ ((SqL X.K H1 a xs ∧ R (Ite X.K a) H1) ∨ (SqT X.K H1 a xs ∧ R (IteT X.K a) H1))) := by
        funext x H1
        simp
      rw [← this]
      exact h)
  have ha : PA X [e] (tCons te tNil) := pa_cons he pa_nil hs
  refine Call_ (ld_blt I hg hm boot_enumerate (PyProof.Rows.callWith_type1 (thn (ha.run pos pins s σ H _ I h') fun us s1 ⟨vs, H1, I1, r1, q1⟩ => ?_) hs rfl))
  obtain ⟨a, xs, ex, q⟩ := q1
  subst ex
  cases r1 with
  | cons r rr =>
    cases rr
    cases r
    have fin : ∀ b, b ∈ [s1.heap.objs.size + 1, s1.heap.objs.size] → FpOk X pins H1 b := fun b hb => by
      have e' : b = s1.heap.objs.size + 1 ∨ b = s1.heap.objs.size := by simpa using hb
      have hle : s1.heap.objs.size ≤ b := by
        rcases e' with z | z
        · rw [z]; exact Nat.le_add_right _ _
        · rw [z]; exact Nat.le_refl _
      exact I1.fpOk hle (I1.hok.fresh hle)
    rcases q with ⟨hq, q⟩ | ⟨hq, q⟩
    · obtain ⟨its, rv, p', hz⟩ := I1.list hq
      refine call_enumerate_list p'.isList fun h' he hit hsz hk => wpAny_pyIter_enum he ?_
      have I2 : Inv X pins σ H1 { s1 with heap := h' } := I1.kept (t' := s1.toks) hk
      exact ⟨s1.heap.objs.size + 1, [s1.heap.objs.size + 1, s1.heap.objs.size], _, _, H1, rfl, I2, turn_enum a (s1.heap.objs.size + 1) s1.heap.objs.size, ⟨⟨.none, he⟩, hit, Nat.succ_ne_self _⟩, fin, q⟩
    · obtain ⟨its, rv, p', hz⟩ := I1.tuple hq
      refine call_enumerate_tuple (show s1.heap.IsTuple a its.toArray from p') fun h' he hit hsz hk => wpAny_pyIter_enum he ?_
      have I2 : Inv X pins σ H1 { s1 with heap := h' } := I1.kept (t' := s1.toks) hk
      exact ⟨s1.heap.objs.size + 1, [s1.heap.objs.size + 1, s1.heap.objs.size], _, _, H1, rfl, I2, turn_enumT a (s1.heap.objs.size + 1) s1.heap.objs.size, ⟨⟨.none, he⟩, hit, Nat.succ_ne_self _⟩, fin, q⟩
/-- (0, x), (1, y) .. -/
def enumD (ds : List D) : List D := (List.range ds.length).map fun i => .tup [.int (i : Nat), ds.getD i .non]
def wEnum (we : EW) : IW := fun ρ Q X => we ρ (fun r ρ1 => match r with
  | .dat (.tup ds) => Q (enumD ds) ρ1
  | .dat (.lst ds) => Q (enumD ds) ρ1
  | .own ds => Q (enumD ds) ρ1
  | _ => False) X
section
variable {K : PySem.W.Frag} {W : WX}
theorem enumD_len (ds : List D) : (enumD ds).length = ds.length := by unfold enumD; simp
theorem enumD_get {ds : List D} {k : Nat} {d : D} (h : ds[k]? = some d) : (enumD ds)[k]? = some (.tup [.int (k : Nat), d]) := by
  unfold enumD
  have hk := (List.getElem?_eq_some_iff.mp h).1
  rw [List.getElem?_map, List.getElem?_range hk]
  simp [List.getD, h]
theorem yld_enum {B0 H0 B H H' : Hp} {k : Nat} {T : Addr} {x v : V} {ds : List D} {xs : List V} (ia : IpAll K B0 H0 xs ds) (bb : Same B0 B) (tu : Tups H0 H) (hT : H T = none) (ev : v = .ref T) (eh : H' = upd H T (.tup [.int (k : Nat), x])) (hx : xs[k]? = some x) :
    ∃ d, (enumD ds)[k]? = some d ∧ Same H H' ∧ Ip K B H' v d := by
  obtain ⟨d, e, i⟩ := ia.getV hx
  have sm : Same H H' := by rw [eh]; exact same_new hT
  refine ⟨_, enumD_get e, sm, ?_⟩
  rw [ev]
  exact .tup (xs := [.int (k : Nat), x]) (.inl (.inl (by rw [eh]; exact upd_same))) (.cons (.int _) (.cons (i.mono bb (tu.trans (Tups.of sm))) .nil))
theorem wk_enumL {a : Addr} {xs : List V} {ds : List D} {B0 H0 : Hp} (h : SqL K B0 a xs) (ia : IpAll K B0 H0 xs ds) : Wk K (Ite K a) (enumD ds) (okS B0 H0) where
  go := fun k B H ⟨bb, tu, sub⟩ hk => by
    rw [enumD_len, ← ia.length] at hk
    exact ⟨xs, xs[k], sub.seq (bb.seq h), List.getElem?_eq_getElem hk⟩
  yld := fun k B H v H' ⟨bb, tu, sub⟩ hy hk => by
    obtain ⟨T, x, ev, hT, eh, f⟩ := hy
    exact yld_enum ia bb tu hT ev eh (f xs (sub.seq (bb.seq h)))
  stop := fun k B H ⟨bb, tu, sub⟩ hk => ⟨xs, sub.seq (bb.seq h), by rw [enumD_len] at hk; rw [ia.length]; exact hk⟩
theorem wk_enumT {a : Addr} {xs : List V} {ds : List D} {B0 H0 : Hp} (h : SqT K H0 a xs) (ia : IpAll K B0 H0 xs ds) : Wk K (IteT K a) (enumD ds) (okS B0 H0) where
  go := fun k B H ⟨bb, tu, sub⟩ hk => by
    rw [enumD_len, ← ia.length] at hk
    exact ⟨xs, xs[k], tu.sq h, List.getElem?_eq_getElem hk⟩
  yld := fun k B H v H' ⟨bb, tu, sub⟩ hy hk => by
    obtain ⟨T, x, ev, hT, eh, f⟩ := hy
    exact yld_enum ia bb tu hT ev eh (f xs (tu.sq h))
  stop := fun k B H ⟨bb, tu, sub⟩ hk => ⟨xs, tu.sq h, by rw [enumD_len] at hk; rw [ia.length]; exact hk⟩
theorem sim_enum {te : TE} {we : EW} (he : SimE K W te we) : SimI K W (iEnumA K te) (wEnum we) := by
  intro B σ ρ H Qw Xw R s h hx q
  refine he B σ ρ H _ Xw _ s h hx fun v r B1 ρ1 H1 s1 t1 rv1 q1 => ?_
  cases r with
  | dat d =>
    cases d with
    | tup ds =>
      cases rv1 with
      | tup hh ia => exact ⟨_, _, rfl, .inr ⟨hh, q _ _ B1 ρ1 H1 s1 t1 (wk_enumT hh ia) q1⟩⟩
    | lst ds =>
      cases rv1 with
      | lst hh ia => exact ⟨_, _, rfl, .inl ⟨s1.sub.seq hh, q _ _ B1 ρ1 H1 s1 t1 (wk_enumL hh ia) q1⟩⟩
    | _ => exact q1.elim
  | own ds =>
    have rva : RvAll K B1 σ ρ1 H1 H [v] [.own ds] := .cons (H1 := H1) rv1 (fun b hb => t1.free s1 hb) (fun p dl e1 e2 => by
      cases e1
      obtain ⟨p', vs', e, _, _, hp, _⟩ := rv1
      rw [e2] at e; cases e
      rw [hp]; simp) .nil
    obtain ⟨B2, s2, bb, bn, ia⟩ := rva.freeze s1 (ds := [.lst ds]) rfl
    have t2 : Tr σ B ρ H B2 ρ1 H1 := ⟨t1.ext, t1.bex.trans bb, fun b hb => (bn b hb).elim (fun z => t1.bnew b z) .inr, t1.shp, t1.shi⟩
    cases ia with
    | cons i0 _ =>
      cases i0 with
      | lst hh il => exact ⟨_, _, rfl, .inl ⟨s2.sub.seq hh, q _ _ B2 ρ1 H1 s2 t2 (wk_enumL hh il) q1⟩⟩
  | inn ds => exact q1.elim
  | bor i => exact q1.elim
end
section
variable {X : Cx} {W : WX} {e : Expr} {we : EW} {pos p tpos : Pos} {elts : List Expr} {kk : Nat}
theorem di_enum (hg : Gl X "enumerate") (hm : X.mg "enumerate" = none) (he : DE X W e we) (hs : starEach [e] X.env = [(false, eval e X.env)] := by rfl) : DI X W (.Tuple elts kk tpos) (.Call (.Name "enumerate" p) [e] [] pos) (wEnum we) := by
  obtain ⟨t, pa, sa⟩ := he.ok
  exact ⟨_, pi_enumA hg hm pa hs, sim_enum sa⟩
end
end DL

set_option Elab.async false
set_option linter.all false
set_option maxRecDepth 100000
set_option maxHeartbeats 4000000
/-! DLk: isinstance by built-in classes; raise; helpers for proofs. -/
namespace DL
open PySem L2

def tyS : D → Option String
  | .non => some "NoneType"
  | .bl _ => some "bool"
  | .int _ => some "int"
  | .str _ => some "str"
  | .tup _ => some "tuple"
  | .lst _ => some "list"
  | _ => none
def isiB (a b : String) : Bool := a == b || (a == "bool" && b == "int")
theorem kitB_all : ∀ a ∈ ["NoneType", "bool", "int", "str", "tuple", "list"], ∀ b ∈ ["int", "bool", "tuple", "list"], L2.kitB a b = some (isiB a b) := by decide +kernel
def gIsi : GN
  | [d, .ty T], Q => T ∈ ["int", "bool", "tuple", "list"] ∧ withOp (tyS d) fun a => Q (.dat (.bl (isiB a T)))
  | _, _ => False
section
variable {K : PySem.W.Frag}
theorem tyx_of {B H : Hp} {v : V} {d : D} {a : String} (sub : Same B H) (h : RdB K B H v d) (e : tyS d = some a) : TyX K H v (.type a) ∧ a ∈ ["NoneType", "bool", "int", "str", "tuple", "list"] := by
  cases d with
  | non => cases h; cases e; exact ⟨.base .non, by simp⟩
  | bl b => cases h; cases e; exact ⟨.base (.bl b), by simp⟩
  | int b => cases h; cases e; exact ⟨.base (.int b), by simp⟩
  | str b => cases h; cases e; exact ⟨.base (.str b), by simp⟩
  | tup ds =>
    cases e
    cases h with
    | tup hh _ =>
      rcases hh with (hh | ⟨o, hh⟩) | ⟨o, its, n, hk, hc, _⟩
      · exact ⟨.base (.tup hh), by simp⟩
      · exact ⟨.fTuple hh, by simp⟩
      · exact ⟨.kTuple hk hc, by simp⟩
  | lst ds =>
    cases e
    obtain ⟨a, xs, rfl, hh, _⟩ := h
    rcases hh with (hh | ⟨o, hh⟩) | ⟨o, its, n, hk, hc, _⟩
    · exact ⟨.base (.lst hh), by simp⟩
    · exact ⟨.base (.frz hh), by simp⟩
    · exact ⟨.kList hk hc, by simp⟩
  | adr _ => cases e
  | ty _ => cases e
theorem cs_isi : CallS K (rIsi K) gIsi := by
  intro B H xs ds Qw Q sub hr g p
  match ds, hr, g with
  | [d, .ty T], hr, g =>
    obtain ⟨x, y, rfl, h1, h2⟩ := rd2 hr
    cases h2
    obtain ⟨hT, g⟩ := g
    obtain ⟨a, e, g⟩ := withOp_some g
    obtain ⟨t, ha⟩ := tyx_of sub h1 e
    exact ⟨x, .ty T, _, _, _, rfl, .ty T, t, kit_ty (kitB_all a ha T hT), p.bl g⟩
end
section
variable {X : Cx} {W : WX} {pos : Pos}
theorem de_ty {x : Str} {T : String} (hg : Gl X x) (hm : X.mg x = none) (hv : bootBuiltins x = some (.type T)) (hn : x ≠ "__name__" := by decide) (hd : (x == ("__debug__" : Str)) = false := by decide) : DE X W (.Name x pos) (wC (.ty T)) :=
  ⟨_, pe_bltn (v := .ty T) hg hm hv rfl hn hd, sim_c fun _ _ => .ty T⟩
theorem de_glob {x : Str} {a : Addr} {d : D} (hg : Gl X x) (hm : X.mg x = some (.ref a)) (h : ∀ B H, Ip X.K B H (.ref a) d) (hd : (x == ("__debug__" : Str)) = false := by decide) : DE X W (.Name x pos) (wC d) :=
  ⟨_, pe_glob (v := .ref a) hg hm rfl hd, sim_c h⟩
end
theorem hu65 {A : Around} {k : Nat} (hr : Room k A) : A.units + 65 < cLine := by have := hr.un; omega

/-! ### raise X('..') -/
def wRaise (c : Value) : SW := fun E ρ => E.ex c ρ
section
variable {X : Cx} {W : WX} {pos : Pos}
theorem ds_raise {e : Expr} {C : Addr} (hc : X.calm = true) (tk : Takes X W) (he : PMk X e (fun _ H Q => Q (.ref C) none H)) : DS X W (.Raise (some e) none pos) (wRaise (.ref C)) :=
  ⟨_, ps_raise hc tk he, fun H0 B0 L B σ ρ H E Ew f h n r b c x => x (.ref C) B σ ρ H f (Gr.refl ..) h⟩
end

/-! ### loops by lemmas -/
theorem for_by {is : List Nat} {sp : D → Option (List D)} {wb : SW} {E : EndsW} {ds : List D} {ρ1 : En} (W : Nat → En → Prop) (h0 : W 0 ρ1) (hd : ∀ ρ2, W ds.length ρ2 → E.nx ρ2)
    (hs : ∀ i d ρ2, ds[i]? = some d → W i ρ2 → withS (sp d) fun es => notInns ρ2 is ∧ wb { E with nx := W (i + 1), ct := W (i + 1), bk := E.nx } (setsE ρ2 is es)) :
    ∃ W : Nat → En → Prop, W 0 ρ1 ∧ (∀ ρ2, W ds.length ρ2 → E.nx ρ2) ∧ ∀ i d ρ2, ds[i]? = some d → W i ρ2 → withS (sp d) fun es => notInns ρ2 is ∧ wb { E with nx := W (i + 1), ct := W (i + 1), bk := E.nx } (setsE ρ2 is es) := ⟨W, h0, hd, hs⟩
/-- [f x for x in ..]: each item's element is known, the env stays -/
theorem lc_map {is : List Nat} {sp : D → Option (List D)} {we : EW} {vs : List Nat} {ds res : List D} {ρ1 : En} {Q : Sl → En → Prop} (no : noOwns ρ1 vs) (hl : res.length = ds.length) (hz : ds.length ≤ sizeLine)
    (hs : ∀ (i : Nat) (d d' : D), ds[i]? = some d → res[i]? = some d' → ∃ es, sp d = some es ∧ notInns (wipeE (wipeE ρ1 vs) vs) is ∧ ∀ (Q' : Sl → En → Prop) (X' : Value → En → Prop), (∀ ρ', wipeE ρ' vs = wipeE ρ1 vs → Q' (.dat d') ρ') → we (setsE (wipeE (wipeE ρ1 vs) vs) is es) Q' X')
    (q : Q (.own res) (wipeE ρ1 vs)) :
    noOwns ρ1 vs ∧ ∃ W : Nat → List D → En → Prop, W 0 [] (wipeE ρ1 vs) ∧ (∀ acc ρ2, W ds.length acc ρ2 → Q (.own acc) ρ2) ∧
      ∀ i d acc ρ2, ds[i]? = some d → W i acc ρ2 → withS (sp d) fun es => notInns (wipeE ρ2 vs) is ∧ wYes (setsE (wipeE ρ2 vs) is es) (fun b ρ3 => if b = true then we ρ3 (fun r ρ4 => withD [r] fun rs => acc.length < sizeLine ∧ W (i + 1) (acc ++ rs) (wipeE ρ4 vs)) (fun _ _ => False) else W (i + 1) acc (wipeE ρ3 vs)) (fun _ _ => False) := by
  refine ⟨no, fun i acc ρ2 => ρ2 = wipeE ρ1 vs ∧ acc = res.take i, ⟨rfl, rfl⟩, ?_, ?_⟩
  · rintro acc ρ2 ⟨rfl, rfl⟩
    rw [← hl, List.take_length]; exact q
  · rintro i d acc ρ2 hd ⟨rfl, rfl⟩
    have hi := (List.getElem?_eq_some_iff.mp hd).1
    have hr : i < res.length := by rw [hl]; exact hi
    obtain ⟨es, e1, e2, e3⟩ := hs i d res[i] hd (List.getElem?_eq_getElem hr)
    rw [e1]
    refine ⟨e2, e3 _ _ fun ρ' hρ => ?_⟩
    refine ⟨?_, hρ, ?_⟩
    · rw [List.length_take]; omega
    · rw [List.take_add_one, List.getElem?_eq_getElem hr]; rfl
end DL

set_option Elab.async false
set_option linter.all false
set_option maxRecDepth 100000
set_option maxHeartbeats 4000000
/-! DLm: the wishes unfolded, for simp. -/
namespace DL
open PySem L2
set_option checkBinderAnnotations false
/-! a wish that simp leaves alone until it is applied -/
def Post [Q : Sl → Prop] : Sl → Prop := Q
def PostX [Q : Value → Prop] : Value → Prop := Q
def Post2 [Q : Sl → List D → Prop] : Sl → List D → Prop := Q
def PostX2 [Q : Value → List D → Prop] : Value → List D → Prop := Q
def WOp {α : Type} (o : Option α) [k : α → Prop] : Prop := withOp o k
@[simp ↓] theorem post_app {Q : Sl → Prop} {r : Sl} : @Post Q r = Q r := id rfl
@[simp ↓] theorem postX_app {Q : Value → Prop} {r : Value} : @PostX Q r = Q r := id rfl
@[simp ↓] theorem post2_app {Q : Sl → List D → Prop} {r : Sl} {l : List D} : @Post2 Q r l = Q r l := id rfl
@[simp ↓] theorem postX2_app {Q : Value → List D → Prop} {r : Value} {l : List D} : @PostX2 Q r l = Q r l := id rfl
@[simp] theorem w_some {α : Type} {x : α} {k : α → Prop} : @WOp α (some x) k = k x := id rfl
@[simp] theorem w_none {α : Type} {k : α → Prop} : @WOp α none k = False := id rfl
/-- the ends of a statement that b follows -/
def thenE (E : EndsW) (b : SW) : EndsW := { E with nx := b E }
def VarK (o : Option (Option Sl)) (i : Nat) (ρ : En) [Q : Sl → En → Prop] : Prop := match o with
  | some (some (.dat d)) => Q (.dat d) ρ
  | some (some (.own _)) => Q (.bor i) ρ
  | some (some (.inn _)) => Q (.bor i) ρ
  | _ => False
@[simp] theorem vk_dat {i : Nat} {ρ : En} {Q : Sl → En → Prop} {d : D} : @VarK (some (some (.dat d))) i ρ Q = Q (.dat d) ρ := id rfl
@[simp] theorem vk_own {i : Nat} {ρ : En} {Q : Sl → En → Prop} {d : List D} : @VarK (some (some (.own d))) i ρ Q = Q (.bor i) ρ := id rfl
@[simp] theorem vk_inn {i : Nat} {ρ : En} {Q : Sl → En → Prop} {d : List D} : @VarK (some (some (.inn d))) i ρ Q = Q (.bor i) ρ := id rfl
section
variable {ρ : En} {E : EndsW} {Q : Sl → En → Prop} {X : Value → En → Prop} {QA : List Sl → En → Prop} {QT : Bool → En → Prop} {QI : List D → En → Prop} {QO : Option Int → En → Prop}
@[simp ↓] theorem e_var {i : Nat} : wVar i ρ Q X = @VarK ρ[i]? i ρ Q := id rfl
@[simp ↓] theorem e_c {d : D} : wC d ρ Q X = Q (.dat d) ρ := id rfl
@[simp ↓] theorem e_op {g : G2} {wa wb : EW} : wOp g wa wb ρ Q X = wa ρ (fun a ρ1 => wb ρ1 (fun b ρ2 => withC ρ2 a fun d => withC ρ2 b fun e => g d e fun r => Q r ρ2) X) X := id rfl
@[simp ↓] theorem e_un {g : G1} {wa : EW} : wUn g wa ρ Q X = wa ρ (fun a ρ1 => withC ρ1 a fun d => g d fun r => Q r ρ1) X := id rfl
@[simp ↓] theorem e_nil : wNil ρ QA X = QA [] ρ := id rfl
@[simp ↓] theorem e_cons {wa : EW} {wr : AW} : wCons wa wr ρ QA X = wa ρ (fun a ρ1 => wr ρ1 (fun rs ρ2 => QA (a :: rs) ρ2) X) X := id rfl
@[simp ↓] theorem e_cb {g : GN} {wa : AW} : wCB g wa ρ Q X = wa ρ (fun rs ρ1 => withCs ρ1 rs fun ds => g ds fun r => Q r ρ1) X := id rfl
@[simp ↓] theorem c_dat {d : D} {k : D → Prop} : withC ρ (.dat d) k = k d := id rfl
@[simp ↓] theorem c_own {ds : List D} {k : D → Prop} : withC ρ (.own ds) k = k (.lst ds) := id rfl
@[simp ↓] theorem c_bor {i : Nat} {k : D → Prop} : withC ρ (.bor i) k = match ρ[i]? with
    | some (some (.own ds)) => k (.lst ds)
    | some (some (.inn ds)) => k (.lst ds)
    | _ => False := by
  show (match (match ρ[i]? with | some (some (.own ds)) => some (D.lst ds) | some (some (.inn ds)) => some (.lst ds) | _ => none) with | some d => k d | none => False) = _
  split <;> rename_i h <;> (try split at h) <;> simp_all
@[simp ↓] theorem cs_nil {k : List D → Prop} : withCs ρ [] k = k [] := id rfl
@[simp ↓] theorem cs_cons {r : Sl} {rs : List Sl} {k : List D → Prop} : withCs ρ (r :: rs) k = withC ρ r fun d => withCs ρ rs fun ds => k (d :: ds) := by
  show (match (match cont ρ r, conts ρ rs with | some d, some ds => some (d :: ds) | _, _ => none) with | some ds => k ds | none => False) = (match cont ρ r with | some d => (match conts ρ rs with | some ds => k (d :: ds) | none => False) | none => False)
  cases cont ρ r <;> cases conts ρ rs <;> rfl
@[simp ↓] theorem e_tru {wa : EW} : wTru wa ρ QT X = wa ρ (fun a ρ1 => withC ρ1 a fun d => match d with
  | .bl b => QT b ρ1
  | .non => QT false ρ1
  | .int i => QT (i != 0) ρ1
  | .tup ds => QT (!ds.isEmpty) ρ1
  | .lst ds => QT (!ds.isEmpty) ρ1
  | _ => False) X := id rfl
@[simp ↓] theorem e_and {wa wb : TWs} : wAnd wa wb ρ QT X = wa ρ (fun c ρ1 => if c = true then wb ρ1 QT X else QT false ρ1) X := id rfl
@[simp ↓] theorem e_or {wa wb : TWs} : wOr wa wb ρ QT X = wa ρ (fun c ρ1 => if c = true then QT true ρ1 else wb ρ1 QT X) X := id rfl
@[simp ↓] theorem e_not {wa : TWs} : wNot wa ρ QT X = wa ρ (fun c ρ1 => QT (!c) ρ1) X := id rfl
@[simp ↓] theorem e_ifE {wc : TWs} {wa wb : EW} : wIfE wc wa wb ρ Q X = wc ρ (fun c ρ1 => if c = true then wa ρ1 Q X else wb ρ1 Q X) X := id rfl
@[simp ↓] theorem e_bv {w : TWs} : wBv w ρ Q X = w ρ (fun c ρ1 => Q (.dat (.bl c)) ρ1) X := id rfl
@[simp ↓] theorem e_andV {wa wb : EW} : wAndV wa wb ρ Q X = wa ρ (fun a ρ1 => match a with | .dat (.bl c) => if c = true then wb ρ1 Q X else Q (.dat (.bl false)) ρ1 | _ => False) X := id rfl
@[simp ↓] theorem e_orV {wa wb : EW} : wOrV wa wb ρ Q X = wa ρ (fun a ρ1 => match a with | .dat (.bl c) => if c = true then Q (.dat (.bl true)) ρ1 else wb ρ1 Q X | _ => False) X := id rfl
@[simp ↓] theorem e_notV {wa : EW} : wNotV wa ρ Q X = wa ρ (fun a ρ1 => match a with | .dat (.bl c) => Q (.dat (.bl (!c))) ρ1 | _ => False) X := id rfl
@[simp ↓] theorem e_tb {wa : EW} : wTb wa ρ QT X = wa ρ (fun a ρ1 => match a with | .dat (.bl b) => QT b ρ1 | _ => False) X := id rfl
@[simp ↓] theorem d_nil {k : List D → Prop} : withD [] k = k [] := id rfl
@[simp ↓] theorem d_dat {d : D} {rs : List Sl} {k : List D → Prop} : withD (.dat d :: rs) k = withD rs fun ds => k (d :: ds) := by
  show (match (dats rs).map (d :: ·) with | some ds => k ds | none => False) = (match dats rs with | some ds => k (d :: ds) | none => False)
  cases dats rs <;> rfl
@[simp ↓] theorem d_own {es : List D} {rs : List Sl} {k : List D → Prop} : withD (.own es :: rs) k = withD rs fun ds => k (.lst es :: ds) := by
  show (match (dats rs).map (D.lst es :: ·) with | some ds => k ds | none => False) = (match dats rs with | some ds => k (D.lst es :: ds) | none => False)
  cases dats rs <;> rfl
@[simp ↓] theorem e_tup {wa : AW} : wTup wa ρ Q X = wa ρ (fun rs ρ1 => withD rs fun ds => ds.length ≤ sizeLine ∧ Q (.dat (.tup ds)) ρ1) X := id rfl
@[simp ↓] theorem e_lst {wa : AW} : wLst wa ρ Q X = wa ρ (fun rs ρ1 => withD rs fun ds => ds.length ≤ sizeLine ∧ Q (.own ds) ρ1) X := id rfl
@[simp ↓] theorem e_callD {f : FD} {wa : AW} : wCallD f wa ρ Q X = wa ρ (fun rs ρ1 => withCs ρ1 rs fun ds => f ds (@Post fun r => Q r ρ1) (@PostX fun c => X c ρ1)) X := id rfl
@[simp ↓] theorem p_nil {k : List D → Prop} : withP [] k = k [] := id rfl
@[simp ↓] theorem p_dat {d : D} {rs : List Sl} {k : List D → Prop} : withP (.dat d :: rs) k = withP rs fun ds => k (d :: ds) := by
  show (match (pureD rs).map (d :: ·) with | some ds => k ds | none => False) = (match pureD rs with | some ds => k (d :: ds) | none => False)
  cases pureD rs <;> rfl
@[simp ↓] theorem e_callI {f : FI} {wa : AW} : wCallI f wa ρ Q X = wa ρ (fun rs ρ1 => match rs with
  | .bor i :: rs' => withO ρ1 i fun dl => withP rs' fun ds => D.nolists dl = true ∧ f dl ds (@Post2 fun r dl' => Q r (setOwn ρ1 i dl')) (@PostX2 fun c dl' => X c (setOwn ρ1 i dl'))
  | .own dl :: rs' => withP rs' fun ds => D.nolists dl = true ∧ f dl ds (@Post2 fun r _ => Q r ρ1) (@PostX2 fun c _ => X c ρ1)
  | _ => False) X := id rfl
@[simp ↓] theorem e_mt {m : GM} {i : Nat} {wa : AW} : wMt m i wa ρ Q X = (isOwn ρ[i]? = true ∧ wa ρ (fun rs ρ1 => withD rs fun args => withO ρ1 i fun ds => m ds args fun d ds' => Q (.dat d) (setOwn ρ1 i ds')) X) := id rfl
@[simp ↓] theorem e_mt0 {m : GM} {i : Nat} : wMt0 m i ρ Q X = withO ρ i fun ds => m ds [] fun d ds' => Q (.dat d) (setOwn ρ i ds') := id rfl
@[simp ↓] theorem s_next : wNext E ρ = E.nx ρ := id rfl
@[simp ↓] theorem s_seq {a b : SW} : wSeq a b E ρ = a (thenE E b) ρ := id rfl
@[simp ↓] theorem th_nx {b : SW} : (thenE E b).nx ρ = b E ρ := id rfl
@[simp ↓] theorem th_rt {b : SW} {r : Sl} : (thenE E b).rt r ρ = E.rt r ρ := id rfl
@[simp ↓] theorem th_ex {b : SW} : (thenE E b).ex = E.ex := id rfl
@[simp ↓] theorem th_bk {b : SW} : (thenE E b).bk ρ = E.bk ρ := id rfl
@[simp ↓] theorem th_ct {b : SW} : (thenE E b).ct ρ = E.ct ρ := id rfl
@[simp ↓] theorem s_drop {we : EW} : wDrop we E ρ = we ρ (fun _ ρ1 => E.nx ρ1) E.ex := id rfl
@[simp ↓] theorem s_ret {we : EW} : wRet we E ρ = we ρ (fun r ρ1 => match r with
  | .dat d => E.rt (.dat d) ρ1
  | .own ds => E.rt (.own ds) ρ1
  | .bor i => match ρ1[i]? with
    | some (some (.own ds)) => E.rt (.own ds) ρ1
    | _ => False
  | _ => False) E.ex := id rfl
@[simp ↓] theorem s_retN : wRetN E ρ = E.rt (.dat .non) ρ := id rfl
@[simp ↓] theorem s_if {wc : TWs} {a b : SW} : wIf wc a b E ρ = wc ρ (fun c ρ1 => if c = true then a E ρ1 else b E ρ1) E.ex := id rfl
@[simp ↓] theorem s_break : wBreak E ρ = E.bk ρ := id rfl
@[simp ↓] theorem s_cont : wCont E ρ = E.ct ρ := id rfl
@[simp ↓] theorem s_set {i : Nat} {we : EW} : wSet i we E ρ = we ρ (fun r ρ1 => notInn ρ1 i ∧ match r with
  | .dat d => E.nx (ρ1.set i (some (.dat d)))
  | .own ds => E.nx (ρ1.set i (some (.own ds)))
  | _ => False) E.ex := id rfl
@[simp ↓] theorem s_setIt {i : Nat} {we wj : EW} : wSetIt i we wj E ρ = we ρ (fun r ρ1 => match r with
  | .dat d => isOwn ρ1[i]? = true ∧ wj ρ1 (fun rj ρ2 => match rj with
    | .dat (.int k) => withO ρ2 i fun ds => match ixN ds.length k with
      | some j => E.nx (setOwn ρ2 i (ds.set j d))
      | none => False
    | _ => False) E.ex
  | _ => False) E.ex := id rfl
@[simp ↓] theorem s_raise {c : Value} : wRaise c E ρ = E.ex c ρ := id rfl
@[simp ↓] theorem s_frz {i : Nat} {w : SW} : wFrz i w E ρ = w E (frz ρ i) := id rfl
@[simp ↓] theorem s_setT {is : List Nat} {we : EW} : wSetT is we E ρ = we ρ (fun r ρ1 => match r with
  | .dat (.tup ds) => (ds.length = is.length ∧ notInns ρ1 is) ∧ E.nx (setsE ρ1 is ds)
  | _ => False) E.ex := id rfl
@[simp ↓] theorem s_par {i j : Nat} {wa wb : EW} : wPar i j wa wb E ρ = wa ρ (fun r ρ1 => wb ρ1 (fun r' ρ2 => match r, r' with
  | .dat d, .dat d' => (notInn ρ2 i ∧ notInn ρ2 j) ∧ E.nx ((ρ2.set i (some (.dat d))).set j (some (.dat d')))
  | _, _ => False) E.ex) E.ex := id rfl
@[simp ↓] theorem i_src {we : EW} : wSrc we ρ QI X = we ρ (fun r ρ1 => match r with
  | .dat (.tup ds) => QI ds ρ1
  | .dat (.lst ds) => QI ds ρ1
  | .own ds => QI ds ρ1
  | _ => False) X := id rfl
@[simp ↓] theorem i_rev {we : EW} : wRev we ρ QI X = we ρ (fun r ρ1 => match r with
  | .dat (.tup ds) => QI ds.reverse ρ1
  | .dat (.lst ds) => QI ds.reverse ρ1
  | .own ds => QI ds.reverse ρ1
  | _ => False) X := id rfl
@[simp ↓] theorem i_enum {we : EW} : wEnum we ρ QI X = we ρ (fun r ρ1 => match r with
  | .dat (.tup ds) => QI (enumD ds) ρ1
  | .dat (.lst ds) => QI (enumD ds) ρ1
  | .own ds => QI (enumD ds) ρ1
  | _ => False) X := id rfl
@[simp ↓] theorem i_rg1 {we : EW} : wRg1 we ρ QI X = we ρ (fun r ρ1 => match r with
  | .dat (.int j) => (-(2 ^ 62) ≤ j ∧ j < 2 ^ 62) ∧ QI (rgD 0 j.toNat) ρ1
  | _ => False) X := id rfl
@[simp ↓] theorem i_rg2 {wa wb : EW} : wRg2 wa wb ρ QI X = wa ρ (fun r ρ1 => wb ρ1 (fun r' ρ2 => match r, r' with
  | .dat (.int i), .dat (.int j) => ((-(2 ^ 62) ≤ i ∧ i < 2 ^ 62) ∧ -(2 ^ 62) ≤ j ∧ j < 2 ^ 62) ∧ QI (rgD i (j - i).toNat) ρ2
  | _, _ => False) X) X := id rfl
@[simp ↓] theorem e_tupRg {we : IW} : wTupRg we ρ Q X = we ρ (fun ds ρ1 => ds.length ≤ 16777216 ∧ Q (.dat (.tup ds)) ρ1) X := id rfl
@[simp ↓] theorem e_lstRg {we : IW} : wLstRg we ρ Q X = we ρ (fun ds ρ1 => ds.length ≤ 16777216 ∧ Q (.own ds) ρ1) X := id rfl
@[simp ↓] theorem e_rep {wa wb : EW} : wRep wa wb ρ Q X = wa ρ (fun a ρ1 => wb ρ1 (fun b ρ2 => match a, b with
  | .own ds, .dat (.int k) => (-(2 ^ 63) ≤ k ∧ k < 2 ^ 63 ∧ ds.length * k.toNat ≤ sizeLine) ∧ Q (.own (List.replicate k.toNat ds).flatten) ρ2
  | _, _ => False) X) X := id rfl
@[simp ↓] theorem o_no : wNoPart ρ QO X = QO none ρ := id rfl
@[simp ↓] theorem o_part {we : EW} : wPart we ρ QO X = we ρ (fun r ρ1 => match r with
  | .dat (.int i) => QO (some i) ρ1
  | _ => False) X := id rfl
@[simp ↓] theorem e_sl {we : EW} {wl wh : OW} : wSl we wl wh ρ Q X = we ρ (fun r ρ1 => wl ρ1 (fun lo ρ2 => wh ρ2 (fun hi ρ3 => withC ρ3 r fun d => gSl d lo hi fun s => Q s ρ3) X) X) X := id rfl
@[simp ↓] theorem e_yes : wYes ρ QT X = QT true ρ := id rfl
end
section
variable {Q : Sl → Prop} {i j : Int} {a b ds : List D}
@[simp ↓] theorem g_add : gAdd (.int i) (.int j) Q = Q (.dat (.int (i + j))) := id rfl
@[simp ↓] theorem g_addL : gAdd (.lst a) (.lst b) Q = (a.length + b.length ≤ sizeLine ∧ Q (.own (a ++ b))) := id rfl
@[simp ↓] theorem g_sub : gSub2 (.int i) (.int j) Q = Q (.dat (.int (i - j))) := id rfl
@[simp ↓] theorem g_mul : gMul (.int i) (.int j) Q = (IntMulOk i j ∧ Q (.dat (.int (i * j)))) := id rfl
@[simp ↓] theorem g_div : gDiv (.int i) (.int j) Q = ((j ≠ 0 ∧ Builtin.divisionGoesByPylong i j = false) ∧ Q (.dat (.int (i.fdiv j)))) := id rfl
@[simp ↓] theorem g_mod : gMod (.int i) (.int j) Q = (j ≠ 0 ∧ Q (.dat (.int (i.fmod j)))) := id rfl
@[simp ↓] theorem g_pow : gPow (.int i) (.int j) Q = (CPow i j ∧ Q (.dat (.int (i ^ j.toNat)))) := id rfl
@[simp ↓] theorem g_lt : gLt (.int i) (.int j) Q = Q (.dat (.bl (decide (i < j)))) := id rfl
@[simp ↓] theorem g_le : gLe (.int i) (.int j) Q = Q (.dat (.bl (decide (i ≤ j)))) := id rfl
@[simp ↓] theorem g_gt : gGt (.int i) (.int j) Q = Q (.dat (.bl (decide (j < i)))) := id rfl
@[simp ↓] theorem g_ge : gGe (.int i) (.int j) Q = Q (.dat (.bl (decide (j ≤ i)))) := id rfl
@[simp ↓] theorem g_neg : gNeg (.int i) Q = Q (.dat (.int (-i))) := id rfl
@[simp ↓] theorem g_eqI : gEq (.int i) (.int j) Q = Q (.dat (.bl (decide (i = j)))) := by
  have h : (D.int i).eqb (.int j) = decide (i = j) := by rw [Bool.eq_iff_iff]; simp [D.eqb, D.py, PyData.eqv]
  unfold gEq
  rw [h]; simp [D.shp, D.plain, D.deep]
@[simp ↓] theorem g_neI : gNe (.int i) (.int j) Q = Q (.dat (.bl (!decide (i = j)))) := by
  have h : (D.int i).eqb (.int j) = decide (i = j) := by rw [Bool.eq_iff_iff]; simp [D.eqb, D.py, PyData.eqv]
  unfold gNe
  rw [h]; simp [D.shp, D.plain, D.deep]
@[simp ↓] theorem g_ixT : gIx (.tup ds) (.int i) Q = @WOp _ (atI ds i) fun d => Q (.dat d) := id rfl
@[simp ↓] theorem g_ixL : gIx (.lst ds) (.int i) Q = @WOp _ (atI ds i) fun d => Q (.dat d) := id rfl
@[simp ↓] theorem g_slL {lo hi : Option Int} : gSl (.lst ds) lo hi Q = Q (.own (cutD ds lo hi)) := id rfl
@[simp ↓] theorem g_slT {lo hi : Option Int} : gSl (.tup ds) lo hi Q = Q (.dat (.tup (cutD ds lo hi))) := id rfl
@[simp ↓] theorem g_lenT : gLen [.tup ds] Q = Q (.dat (.int ds.length)) := id rfl
@[simp ↓] theorem g_lenL : gLen [.lst ds] Q = Q (.dat (.int ds.length)) := id rfl
theorem abs_if : (if i < 0 then -i else i) = (i.natAbs : Int) := by split <;> omega
@[simp ↓] theorem g_abs : gAbs [.int i] Q = Q (.dat (.int (i.natAbs : Int))) := by rw [← abs_if]; rfl
@[simp ↓] theorem g_max : gMax [.int i, .int j] Q = Q (.dat (.int (if j > i then j else i))) := id rfl
@[simp ↓] theorem g_min : gMin [.int i, .int j] Q = Q (.dat (.int (if j < i then j else i))) := id rfl
@[simp ↓] theorem g_intI : gInt [.int i] Q = Q (.dat (.int i)) := id rfl
@[simp ↓] theorem g_intB {k : Bool} : gInt [.bl k] Q = Q (.dat (.int (if k then 1 else 0))) := id rfl
@[simp ↓] theorem g_tupL : gTuple [.lst ds] Q = Q (.dat (.tup ds)) := id rfl
@[simp ↓] theorem g_tupT : gTuple [.tup ds] Q = Q (.dat (.tup ds)) := id rfl
@[simp ↓] theorem g_lstL : gList [.lst ds] Q = Q (.own ds) := id rfl
@[simp ↓] theorem g_lstT : gList [.tup ds] Q = Q (.own ds) := id rfl
@[simp ↓] theorem g_isi {d : D} {T : String} : gIsi [d, .ty T] Q = (T ∈ ["int", "bool", "tuple", "list"] ∧ @WOp _ (tyS d) fun a => Q (.dat (.bl (isiB a T)))) := id rfl
@[simp] theorem ty_int : tyS (.int i) = some "int" := id rfl
@[simp] theorem ty_tup : tyS (.tup ds) = some "tuple" := id rfl
@[simp] theorem ty_lst : tyS (.lst ds) = some "list" := id rfl
@[simp] theorem ty_bl {k : Bool} : tyS (.bl k) = some "bool" := id rfl
end
section
variable {Q : D → List D → Prop} {d : D} {ds : List D}
@[simp ↓] theorem m_append : mAppend ds [d] Q = (ds.length < sizeLine ∧ Q .non (ds ++ [d])) := id rfl
@[simp ↓] theorem m_pop : mPop ds [] Q = @WOp _ ds[ds.length - 1]? fun d => Q d ds.dropLast := id rfl
@[simp ↓] theorem m_reverse : mReverse ds [] Q = Q .non ds.reverse := id rfl
@[simp ↓] theorem m_clear : mClear ds [] Q = Q .non [] := id rfl
end
/-- a slot that may be set -/
def free : Option Sl → Prop
  | some (.inn _) => False
  | _ => True
section
variable {ρ : En} {i : Nat} {d : D} {o : Option Sl} {ds es : List D} {k : List D → Prop}
@[simp ↓] theorem o0_own : withO (some (.own ds) :: ρ) 0 k = k ds := id rfl
@[simp ↓] theorem o0_inn : withO (some (.inn ds) :: ρ) 0 k = k ds := id rfl
@[simp ↓] theorem o_suc : withO (o :: ρ) (i + 1) k = withO ρ i k := id rfl
@[simp] theorem so0_own : setOwn (some (.own ds) :: ρ) 0 es = some (.own es) :: ρ := id rfl
@[simp] theorem so0_inn : setOwn (some (.inn ds) :: ρ) 0 es = some (.inn es) :: ρ := id rfl
@[simp] theorem so_suc : setOwn (o :: ρ) (i + 1) es = o :: setOwn ρ i es := by
  unfold setOwn
  simp only [List.getElem?_cons_succ]
  split <;> simp_all
@[simp] theorem fz0_own : frz (some (.own ds) :: ρ) 0 = some (.dat (.lst ds)) :: ρ := id rfl
@[simp] theorem fz0_dat : frz (some (.dat d) :: ρ) 0 = some (.dat d) :: ρ := id rfl
@[simp] theorem fz_suc : frz (o :: ρ) (i + 1) = o :: frz ρ i := by
  unfold frz
  simp only [List.getElem?_cons_succ]
  split <;> simp_all
@[simp ↓] theorem ni0 : notInn (o :: ρ) 0 = free o := by cases o with | none => rfl | some r => cases r <;> rfl
@[simp] theorem fr_none : free none = True := id rfl
@[simp] theorem fr_dat : free (some (.dat d)) = True := id rfl
@[simp] theorem fr_own : free (some (.own ds)) = True := id rfl
@[simp ↓] theorem ni_suc : notInn (o :: ρ) (i + 1) = notInn ρ i := id rfl
@[simp ↓] theorem nis_nil : notInns ρ [] = True := id rfl
@[simp ↓] theorem nis_cons {is : List Nat} : notInns ρ (i :: is) = (notInn ρ i ∧ notInns ρ is) := id rfl
@[simp] theorem se_nil {is : List Nat} : setsE ρ is [] = ρ := by cases is <;> rfl
@[simp] theorem se_cons {is : List Nat} : setsE ρ (i :: is) (d :: ds) = setsE (ρ.set i (some (.dat d))) is ds := id rfl
@[simp] theorem io_own : isOwn (some (some (.own ds))) = true := id rfl
@[simp] theorem io_inn : isOwn (some (some (.inn ds))) = true := id rfl
@[simp] theorem io_dat : isOwn (some (some (.dat d))) = false := id rfl
@[simp] theorem io_none : isOwn (some none) = false := id rfl
@[simp] theorem sp_name : spName d = some [d] := id rfl
@[simp] theorem sp_tup {n : Nat} : spTup n (.tup ds) = if ds.length = n then some ds else none := id rfl
@[simp] theorem ws_some : withS (some ds) k = k ds := id rfl
@[simp] theorem wi_nil : wipeE ρ [] = ρ := id rfl
@[simp] theorem wi_cons {vs : List Nat} : wipeE ρ (i :: vs) = (wipeE ρ vs).set i none := id rfl
@[simp] theorem r_dat {nl : Bool} : retOk nl (.dat d) = ((nl || d.nolist) = true) := id rfl
@[simp] theorem r_own {nl : Bool} : retOk nl (.own ds) = ((nl || D.nolists ds) = true) := id rfl
end
@[simp] theorem nl_int {i : Int} : (D.int i).nolist = true := by simp [D.nolist]
@[simp] theorem nl_bl {i : Bool} : (D.bl i).nolist = true := by simp [D.nolist]
@[simp] theorem nl_non : D.non.nolist = true := by simp [D.nolist]
@[simp] theorem nl_adr {a : Addr} : (D.adr a).nolist = true := by simp [D.nolist]
@[simp] theorem nl_tup {ds : List D} : (D.tup ds).nolist = D.nolists ds := by simp [D.nolist]
@[simp] theorem nl_lst {ds : List D} : (D.lst ds).nolist = false := by simp [D.nolist]
@[simp] theorem nls_nil : D.nolists [] = true := by simp [D.nolists]
@[simp] theorem nls_cons {d : D} {ds : List D} : D.nolists (d :: ds) = (d.nolist && D.nolists ds) := by simp [D.nolists]
@[simp] theorem nls_app : ∀ {ds es : List D}, D.nolists (ds ++ es) = (D.nolists ds && D.nolists es)
  | [], _ => by simp
  | _ :: ds, _ => by simp [nls_app (ds := ds), Bool.and_assoc]
@[simp] theorem nls_ints : ∀ {ns : List Int}, D.nolists (ns.map D.int) = true
  | [] => by simp
  | _ :: ns => by simp [nls_ints (ns := ns)]
@[simp] theorem sizeLine_eq : sizeLine = 16777216 := id rfl
/-! ### x == y of plain data -/
theorem eqvAll_refl_of {ds : List D} (h : ∀ d ∈ ds, PyData.eqv d.py d.py = true) : PyData.eqvAll (D.pys ds) (D.pys ds) = true := by
  induction ds with
  | nil => simp [D.pys, PyData.eqvAll]
  | cons d ds ih => rw [D.pys, PyData.eqvAll, h d (by simp), ih fun x hx => h x (by simp [hx])]; rfl
mutual
theorem D.eqb_refl : ∀ d : D, d.plain = true → PyData.eqv d.py d.py = true
  | .non, _ => by simp [D.py, PyData.eqv]
  | .bl b, _ => by cases b <;> simp [D.py, PyData.eqv]
  | .int i, _ => by simp [D.py, PyData.eqv]
  | .str _, e => by simp [D.plain] at e
  | .adr _, e => by simp [D.plain] at e
  | .ty _, e => by simp [D.plain] at e
  | .tup ds, e => by rw [D.py, PyData.eqv]; exact D.eqbs_refl ds (by simpa [D.plain] using e)
  | .lst ds, e => by rw [D.py, PyData.eqv]; exact D.eqbs_refl ds (by simpa [D.plain] using e)
theorem D.eqbs_refl : ∀ ds : List D, D.plains ds = true → PyData.eqvAll (D.pys ds) (D.pys ds) = true
  | [], _ => by simp [D.pys, PyData.eqvAll]
  | d :: ds, e => by
    rw [D.plains, Bool.and_eq_true] at e
    rw [D.pys, PyData.eqvAll, D.eqb_refl d e.1, D.eqbs_refl ds e.2]; rfl
end
theorem g_eqR {d : D} {Q : Sl → Prop} (h : d.shp = true) : gEq d d Q = Q (.dat (.bl true)) := by
  unfold gEq D.eqb
  rw [D.eqb_refl d (shp_plain h), h]; simp
theorem g_neR {d : D} {Q : Sl → Prop} (h : d.shp = true) : gNe d d Q = Q (.dat (.bl false)) := by
  unfold gNe D.eqb
  rw [D.eqb_refl d (shp_plain h), h]; simp
/-! ### sizes -/
theorem mul_ok {i j : Int} {n m : Nat} (h : i.natAbs < 2 ^ n) (h' : j.natAbs < 2 ^ m) (hs : n + m ≤ 134217728) : IntMulOk i j := by
  have h1 := intBits_le_iff.mpr h
  have h2 := intBits_le_iff.mpr h'
  have h3 : Builtin.Int.intTooBig ((Builtin.Int.intBits i : Nat) + (Builtin.Int.intBits j : Nat) : Int) = false := by
    unfold Builtin.Int.intTooBig
    have : bitsLine = 134217728 := by rw [bitsLine]
    rw [decide_eq_false_iff_not, this]; omega
  unfold IntMulOk
  rw [h3]; simp
theorem div_ok {i j : Int} {n : Nat} (h : j.natAbs < 2 ^ n) (hn : n ≤ 9000) : Builtin.divisionGoesByPylong i j = false := by
  unfold Builtin.divisionGoesByPylong
  have h1 : (if (j == 0) = true then 0 else j.natAbs.log2 / 30 + 1) ≤ 300 := by
    split
    · omega
    · rename_i e
      have hne : j.natAbs ≠ 0 := by simp at e; omega
      have := (Nat.log2_lt hne).mpr h
      omega
  have h2 : ¬ (if (j == 0) = true then 0 else j.natAbs.log2 / 30 + 1) > 300 := by omega
  simp only [h2, decide_false, Bool.false_and]
/-! ### loops -/
def Whil [wc : TWs] [wb : SW] [E : EndsW] (ρ : En) : Prop := ∃ W : Nat → En → Prop, (∃ m, W m ρ) ∧ ∀ m ρ1, W m ρ1 →
  wc ρ1 (fun b ρ2 => if b = true then wb { E with nx := fun ρ' => ∃ m', m' < m ∧ W m' ρ', ct := fun ρ' => ∃ m', m' < m ∧ W m' ρ', bk := E.nx } ρ2 else E.nx ρ2) E.ex
@[simp ↓] theorem s_while {wc : TWs} {wb : SW} {E : EndsW} {ρ : En} : wWhile wc wb E ρ = @Whil wc wb E ρ := id rfl
theorem while_by {wc : TWs} {wb : SW} {E : EndsW} {ρ : En} (W : Nat → En → Prop) (m : Nat) (h0 : W m ρ) (h : ∀ m ρ1, W m ρ1 →
  wc ρ1 (fun b ρ2 => if b = true then wb { E with nx := fun ρ' => ∃ m', m' < m ∧ W m' ρ', ct := fun ρ' => ∃ m', m' < m ∧ W m' ρ', bk := E.nx } ρ2 else E.nx ρ2) E.ex) : @Whil wc wb E ρ := ⟨W, ⟨m, h0⟩, h⟩
def Loop (ds : List D) [is : List Nat] [sp : D → Option (List D)] [wb : SW] [E : EndsW] (ρ1 : En) : Prop := ∃ W : Nat → En → Prop, W 0 ρ1 ∧ (∀ ρ2, W ds.length ρ2 → E.nx ρ2) ∧
  ∀ i d ρ2, ds[i]? = some d → W i ρ2 → withS (sp d) fun es => notInns ρ2 is ∧ wb { E with nx := W (i + 1), ct := W (i + 1), bk := E.nx } (setsE ρ2 is es)
@[simp ↓] theorem s_for {wi : IW} {is : List Nat} {sp : D → Option (List D)} {wb : SW} {E : EndsW} {ρ : En} : wFor wi is sp wb E ρ = wi ρ (fun ds ρ1 => @Loop ds is sp wb E ρ1) E.ex := id rfl
theorem loop_by {ds : List D} {is : List Nat} {sp : D → Option (List D)} {wb : SW} {E : EndsW} {ρ1 : En} (W : Nat → En → Prop) (h0 : W 0 ρ1) (hd : ∀ ρ2, W ds.length ρ2 → E.nx ρ2)
    (hs : ∀ i d ρ2, ds[i]? = some d → W i ρ2 → withS (sp d) fun es => notInns ρ2 is ∧ wb { E with nx := W (i + 1), ct := W (i + 1), bk := E.nx } (setsE ρ2 is es)) : @Loop ds is sp wb E ρ1 := ⟨W, h0, hd, hs⟩
/-- loops in a row: no more items, one more -/
theorem loop_nil {is : List Nat} {sp : D → Option (List D)} {wb : SW} {E : EndsW} {ρ1 : En} (h : E.nx ρ1) : @Loop [] is sp wb E ρ1 :=
  ⟨fun i ρ => ρ = ρ1, rfl, by rintro ρ2 rfl; exact h, by intro i d ρ2 h; simp at h⟩
/-- the body's wish grows with its ends -/
def MonS (wb : SW) : Prop := ∀ (E E' : EndsW) (ρ : En), wb E ρ → (∀ ρ, E.nx ρ → E'.nx ρ) → (∀ r ρ, E.rt r ρ → E'.rt r ρ) → (∀ c ρ, E.ex c ρ → E'.ex c ρ) → (∀ ρ, E.bk ρ → E'.bk ρ) → (∀ ρ, E.ct ρ → E'.ct ρ) → wb E' ρ
def LcOk (ds : List D) [is : List Nat] [sp : D → Option (List D)] [wt : TWs] [we : EW] [vs : List Nat] [Q : Sl → En → Prop] (ρ1 : En) : Prop := noOwns ρ1 vs ∧ ∃ W : Nat → List D → En → Prop, W 0 [] (wipeE ρ1 vs) ∧ (∀ acc ρ2, W ds.length acc ρ2 → Q (.own acc) ρ2) ∧
  ∀ i d acc ρ2, ds[i]? = some d → W i acc ρ2 → withS (sp d) fun es => notInns (wipeE ρ2 vs) is ∧ wt (setsE (wipeE ρ2 vs) is es) (fun b ρ3 => if b = true then we ρ3 (fun r ρ4 => withD [r] fun rs => acc.length < sizeLine ∧ W (i + 1) (acc ++ rs) (wipeE ρ4 vs)) (fun _ _ => False) else W (i + 1) acc (wipeE ρ3 vs)) (fun _ _ => False)
@[simp ↓] theorem e_lc {wi : IW} {is : List Nat} {sp : D → Option (List D)} {wt : TWs} {we : EW} {vs : List Nat} {ρ : En} {Q : Sl → En → Prop} {X : Value → En → Prop} : wLc wi is sp wt we vs ρ Q X = wi ρ (fun ds ρ1 => @LcOk ds is sp wt we vs Q ρ1) X := id rfl
theorem lc_by {ds : List D} {is : List Nat} {sp : D → Option (List D)} {wt : TWs} {we : EW} {vs : List Nat} {Q : Sl → En → Prop} {ρ1 : En} (no : noOwns ρ1 vs) (W : Nat → List D → En → Prop) (h0 : W 0 [] (wipeE ρ1 vs)) (hd : ∀ acc ρ2, W ds.length acc ρ2 → Q (.own acc) ρ2)
    (hs : ∀ i d acc ρ2, ds[i]? = some d → W i acc ρ2 → withS (sp d) fun es => notInns (wipeE ρ2 vs) is ∧ wt (setsE (wipeE ρ2 vs) is es) (fun b ρ3 => if b = true then we ρ3 (fun r ρ4 => withD [r] fun rs => acc.length < sizeLine ∧ W (i + 1) (acc ++ rs) (wipeE ρ4 vs)) (fun _ _ => False) else W (i + 1) acc (wipeE ρ3 vs)) (fun _ _ => False)) : @LcOk ds is sp wt we vs Q ρ1 := ⟨no, W, h0, hd, hs⟩
/-- [f x for x in ..]: each item's element is known, the env stays -/
theorem lcm_by {is : List Nat} {sp : D → Option (List D)} {we : EW} {vs : List Nat} {ds res : List D} {ρ1 : En} {Q : Sl → En → Prop} (no : noOwns ρ1 vs) (hl : res.length = ds.length) (hz : ds.length ≤ sizeLine)
    (hs : ∀ (i : Nat) (d d' : D), ds[i]? = some d → res[i]? = some d' → ∃ es, sp d = some es ∧ notInns (wipeE (wipeE ρ1 vs) vs) is ∧ ∀ (Q' : Sl → En → Prop) (X' : Value → En → Prop), (∀ ρ', wipeE ρ' vs = wipeE ρ1 vs → Q' (.dat d') ρ') → we (setsE (wipeE (wipeE ρ1 vs) vs) is es) Q' X')
    (q : Q (.own res) (wipeE ρ1 vs)) : @LcOk ds is sp wYes we vs Q ρ1 := lc_map no hl hz hs q
@[simp] theorem no_nil {ρ : En} : noOwns ρ [] = True := by simp [noOwns]
@[simp] theorem no_cons {ρ : En} {v : Nat} {vs : List Nat} : noOwns ρ (v :: vs) = (isOwn ρ[v]? = false ∧ noOwns ρ vs) := by simp [noOwns]
theorem rg_get {lo : Int} {n k : Nat} {d : D} (h : (rgD lo n)[k]? = some d) : d = .int (lo + (k : Nat)) ∧ k < n := by
  have hk := (List.getElem?_eq_some_iff.mp h).1
  rw [rgD_len] at hk
  rw [rgD_get hk] at h
  cases h
  exact ⟨rfl, hk⟩
theorem mul_small {i j : Int} (h : j.natAbs < 2 ^ 64) : IntMulOk i j := .of_right (intBits_le_iff.mpr h)
theorem mul_small' {i j : Int} (h : i.natAbs < 2 ^ 64) : IntMulOk i j := .of_left (intBits_le_iff.mpr h)
theorem ixN_last (n : Nat) : ixN (n + 1) (-1) = some n := by
  unfold ixN; simp; omega
theorem cut_take {ds : List D} (k : Nat) : cutD ds none (some (k : Int)) = ds.take k := by
  unfold cutD
  rw [HT.sIx_none, HT.sIx_nat, List.drop_zero, Nat.sub_zero, List.take_eq_take_iff]
  omega
theorem fr_notInn {o : Option Sl} {ρ : En} : notInn (o :: ρ) 0 ↔ free o := by rw [ni0]
end DL

set_option Elab.async false
set_option linter.all false
set_option maxRecDepth 100000
set_option maxHeartbeats 4000000
set_option checkBinderAnnotations false
/-! DLn: try/except .. as e; a def held by a slot; isinstance of a caught error. -/
namespace DL
open PySem L2
section
variable {K : PySem.W.Frag} {H0 B0 B H : Hp} {L : Nat → Addr → Prop} {σ : St} {ρ : En}
theorem FR.unset (f : FR K H0 B0 L B σ ρ H) {i : Nat} (hn : notInn ρ i) : FR K H0 B0 L B (σ.set i none) (ρ.set i none) H where
  toSR := by
    have a : AgS σ (σ.set i none) [i] := ⟨by simp, fun j hj => by rw [List.getElem?_set_ne]; intro z; exact hj (by simp [z])⟩
    exact f.toSR.agree a
  ext0 := f.ext0
  fresh := fun b ⟨j, h1, h2⟩ => by
    have hr : i < ρ.length := notInn_lt hn
    have hs : i < σ.length := by rw [f.len]; exact hr
    by_cases hj : j = i
    · subst hj
      rw [List.getElem?_set_self hs] at h2; cases h2
    · rw [List.getElem?_set_ne (Ne.symm hj)] at h1 h2
      exact f.fresh b ⟨j, h1, h2⟩
  keep := fun j b h => by
    obtain ⟨h1, ds, h2⟩ := f.keep j b h
    have hj : j ≠ i := fun z => by
      subst z
      unfold notInn at hn
      rw [h2] at hn
      exact hn
    rw [List.getElem?_set_ne (Ne.symm hj), List.getElem?_set_ne (Ne.symm hj)]
    exact ⟨h1, ds, h2⟩
  bnew := f.bnew
end
theorem dss_all {ι : Type} {F : ι → Cx} {K : PySem.W.Frag} {W : WX} {e : List Stmt} {w : SW} (hK : ∀ c, (F c).K = K) (h : ∀ c, DSs (F c) W e w) : ∃ t, (∀ c, PSs (F c) e t) ∧ SimS K W t w := by
  have h' : ∀ c, ∃ t, PSs (F c) e t ∧ SimS K W t w := fun c => by have z := (h c).ok; rw [hK c] at z; exact z
  refine ⟨fun D σ H => ∀ c t, PSs (F c) e t → SimS K W t w → t D σ H, fun c => ?_, fun H0 B0 L B σ ρ H E Ew f hw n r b cc x c t _ z => z H0 B0 L B σ ρ H E Ew f hw n r b cc x⟩
  obtain ⟨t, p, z⟩ := h' c
  exact ⟨fun pins s σ H D I q => p.run pins s σ H D I (q c t p z)⟩
/-- try: body, except c as (slot i): the suite; only errors of the class at C are looked for -/
def wTry (K : PySem.W.Frag) (c : Value) (C : Addr) (i : Nat) (wb : SW) (wh : Addr → SW) : SW := fun E ρ => wb { E with ex := fun cls ρ1 => ∃ b, PySem.W.exmOne K cls c = some b ∧
  (b = true → cls = .ref C ∧ notInn ρ1 i ∧ ∀ a, wh a { nx := fun ρ2 => notInn ρ2 i ∧ E.nx (ρ2.set i none), rt := E.rt, ex := fun _ _ => False, bk := fun ρ2 => notInn ρ2 i ∧ E.bk (ρ2.set i none), ct := fun ρ2 => notInn ρ2 i ∧ E.ct (ρ2.set i none) } (ρ1.set i (some (.dat (.adr a))))) ∧ (b = false → E.ex cls ρ1) } ρ
section
variable {X : Cx} {W : WX} {x n : Str} {c : Value} {C : Addr} {i : Nat} {body suite : List Stmt} {b₀ : Stmt} {np pos pos' : Pos} {wb : SW} {wh : Addr → SW}
theorem ds_try (i : Nat) (hs : X.stack = X.env :: X.outer) (hf : X.env.frame = some X.env.locals) (hN : X.N.Nodup) (hi : X.N[i]? = some n) (hln : X.env.kindOf n = some .local) (hc : Names X x c) (tk : Takes X W)
    (hb : ∀ (W : WX) (pn : List (Addr × Obj)) (xe : Value → Shared → Prop), Takes (X.tr pn xe) W → PassesOwn (model X.prog X.w) X.A X.env xe → DSs (X.tr pn xe) W body wb)
    (hsu : ∀ (a : Addr) (oe : Obj) (pn : List (Addr × Obj)), Zc (.ref C) none oe → (∃ vs, oe.data = .fields vs) → DSs (X.suite a ((a, oe) :: pn)) (fun _ _ _ _ => False) (b₀ :: suite) (wh a)) :
    DS X W (.Try body [.ExceptHandler (some (.Name x np)) (some n) (b₀ :: suite) pos'] [] [] pos) (wTry X.K c C i wb wh) := by
  have hb' : ∀ W : WX, ∃ t, (∀ q : {q : List (Addr × Obj) × (Value → Shared → Prop) // Takes (X.tr q.1 q.2) W ∧ PassesOwn (model X.prog X.w) X.A X.env q.2}, PSs (X.tr q.1.1 q.1.2) body t) ∧ SimS X.K W t wb := fun W =>
    dss_all (F := fun q : {q : List (Addr × Obj) × (Value → Shared → Prop) // Takes (X.tr q.1 q.2) W ∧ PassesOwn (model X.prog X.w) X.A X.env q.2} => X.tr q.1.1 q.1.2) (fun _ => rfl) fun q => hb W q.1.1 q.1.2 q.2.1 q.2.2
  have hs' : ∀ a : Addr, ∃ t, (∀ q : {q : Obj × List (Addr × Obj) // Zc (.ref C) none q.1 ∧ ∃ vs, q.1.data = .fields vs}, PSs (X.suite a ((a, q.1.1) :: q.1.2)) (b₀ :: suite) t) ∧ SimS X.K (fun _ _ _ _ => False) t (wh a) := fun a =>
    dss_all (F := fun q : {q : Obj × List (Addr × Obj) // Zc (.ref C) none q.1 ∧ ∃ vs, q.1.data = .fields vs} => X.suite a ((a, q.1.1) :: q.1.2)) (fun _ => rfl) fun q => hsu a q.1.1 q.1.2 q.2.1 q.2.2
  have eb := fun W => (hb' W).choose_spec
  have es := fun a => (hs' a).choose_spec
  refine ⟨_, ps_try_as (i := i) (tb := fun W => (hb' W).choose) (ts := fun a cls d D σ H => (d = none ∧ cls = .ref C) ∧ (hs' a).choose D σ H) hs hf hN hi hln hc tk (fun W pn xe t p => (eb W).1 ⟨(pn, xe), t, p⟩) (fun a oe cls d pn z v => ⟨fun pins s σ H D I q => ?_⟩), ?_⟩
  · obtain ⟨⟨rfl, rfl⟩, q⟩ := q
    exact ((es a).1 ⟨(oe, pn), z, v⟩).run pins s σ H D I q
  · intro H0 B0 L B σ ρ H E Ew f h nx rt bk ct ex
    refine (eb _).2 H0 B0 L B σ ρ H E _ f h nx rt bk ct ?_
    rintro cls B1 σ1 ρ1 H1 f1 g1 ⟨b, hb, ht, hfalse⟩
    refine ⟨b, hb, fun e a na => ?_, fun e => ex cls B1 σ1 ρ1 H1 f1 g1 (hfalse e)⟩
    obtain ⟨rfl, hn, hw⟩ := ht e
    refine ⟨⟨rfl, rfl⟩, (es a).2 H0 B0 L B1 _ _ H1 _ _ (f1.set hn (sl := .dat (.adr a)) (.adr a) fun p z => by cases z) (hw a) ?_ rt ?_ ?_ fun _ _ _ _ _ _ _ z => z⟩
    · exact fun B2 σ2 ρ2 H2 f2 g2 q => nx B2 _ _ H2 (f2.unset q.1) (g1.trans g2) q.2
    · exact fun B2 σ2 ρ2 H2 f2 g2 q => bk B2 _ _ H2 (f2.unset q.1) (g1.trans g2) q.2
    · exact fun B2 σ2 ρ2 H2 f2 g2 q => ct B2 _ _ H2 (f2.unset q.1) (g1.trans g2) q.2
end
/-! ### a def that a slot holds -/
def wCallL (i : Nat) (S : Addr → FD → Prop) (wr : AW) : EW := fun ρ Q X => ∃ a g, ρ[i]? = some (some (.dat (.adr a))) ∧ S a g ∧ wCallD g wr ρ Q X
structure HeldD (P : Program) (w : World) (K : PySem.W.Frag) (mg : Str → Option Value) (base : Heap) (k n : Nat) (f : Addr) (g : FD) : Prop where
  ex : ∃ (fd : FuncData) (ps : List Str), FnOk P w K mg base (L2.CX P w) k f fd ps (spD K n g) ∧ PySem.W.keepIn K (.ref f) = true ∧ Binds K fd ps []
  len : ∀ ds Qw Xw, g ds Qw Xw → ds.length = n
section
variable {X : Cx} {W : WX} {k n : Nat} {S : Addr → FD → Prop} {x : Str} {p pos : Pos} {e : Expr} {es : List Expr} {wr : AW}
open PySem.Spec PyProof.Rows in
theorem de_callL (i : Nat) (A : ∀ f g, S f g → HeldD X.prog X.w X.K X.mg X.base k n f g) (hr : Room k X.A) (tk : Takes X W) (ha : DA X W (e :: es) wr) (hN : X.N[i]? = some x := by rfl) (hv : Vis X.env.scope x := by first | exact Or.inl rfl | exact Or.inr (Or.inl rfl) | exact Or.inr (Or.inr rfl))
    (hdb : (x == ("__debug__" : Str)) = false := by decide) (hcd : (x == ("__classdict__" : Str)) = false := by decide)
    (he : starEach (e :: es) X.env = (false, eval e X.env) :: starEach es X.env := by rfl) (hpl : (backTo pos (starEach es X.env)).any (·.1) = false := by rfl) : DE X W (.Call (.Name x p) (e :: es) [] pos) (wCallL i S wr) := by
  obtain ⟨t, pa, sa⟩ := ha.ok
  refine ⟨fun σ H Q => ∃ f g, σ[i]? = some (some (.ref f)) ∧ S f g ∧ tCallS (spD X.K n g) (WE W) t σ H Q, ⟨fun pins s σ H Q I h => ?_⟩, ?_⟩
  · obtain ⟨f, g, hs, hS, ht⟩ := h
    obtain ⟨fd, ps, F, hk, hb⟩ := (A f g hS).ex
    refine wpAny_Call_Name_kw (thn ((pe_var (pos := p) hN hv hdb hcd).run pins s σ H (fun v H1 => v = .ref f ∧ H1 = H) I ⟨.ref f, hs, rfl, rfl⟩) fun u s1 ⟨v, H1, I1, r1, q1⟩ => ?_)
    obtain ⟨rfl, rfl⟩ := q1
    cases r1
    refine PySem.W.callWith_K (h₀ := X.base) I.ok.mod.kin hk (thn (pa.run pos pins s1 σ _ _ I1 ht) fun us s2 ⟨vs, H2, I2, r, q⟩ => ⟨I2.kIn, ?_⟩) he hpl
    exact run_fnS F hr hb (passAt tk σ) I2 r q
  · rintro B σ ρ H Qw Xw Q s ⟨a, g, e1, e2, h⟩ hx q
    obtain ⟨v, hv', r⟩ := s.slot i _ e1
    have r : Ip X.K B H v (.adr a) := r
    cases r
    exact ⟨a, g, hv', e2, sim_callD sa (A a g e2).len B σ ρ H Qw Xw Q s h hx q⟩
end
/-! ### isinstance(e, C), isinstance(e, (C1, ..)), e the error that the suite holds -/
inductive ClsD : D → Value → Prop where
  | ty (n : String) : ClsD (.ty n) (.type n)
  | own (C : Addr) : ClsD (.adr C) (.ref C)
inductive ClsDs : List D → List Value → Prop where
  | nil : ClsDs [] []
  | cons {d : D} {ds : List D} {v : Value} {vs : List Value} (h : ClsD d v) (t : ClsDs ds vs) : ClsDs (d :: ds) (v :: vs)
theorem ClsD.clsV {K : PySem.W.Frag} {B H : Hp} {v : V} {d : D} {u : Value} (h : Ip K B H v d) (c : ClsD d u) : ClsV v u := by
  cases c with
  | ty n => cases h; exact .ty n
  | own C => cases h; exact .own C
theorem ClsDs.all {K : PySem.W.Frag} {B H : Hp} : ∀ {vs : List V} {ds : List D} {us ws : List Value}, IpAll K B H vs ds → ClsDs ds us → Vals vs ws → ws = us
  | _, _, _, _, .nil, .nil, .nil => rfl
  | _, _, _, _, .cons h t, .cons c cs, .cons r rs => by rw [(ClsD.clsV h c).eq r, ClsDs.all t cs rs]
def rIsET (K : PySem.W.Frag) (C a : Addr) : List V → Hp → VK → Prop := fun xs H Q => ∃ (tp : Addr) (cs : List V) (us : List Value) (b : Bool), xs = [.ref a, .ref tp] ∧ SqT K H tp cs ∧ (∀ ws, Vals cs ws → ws = us) ∧ PySem.W.kitAny K (.ref C) us = some b ∧ Q (.bl b) H
def gIsE (K : PySem.W.Frag) (C a : Addr) : GN
  | [.adr a', d], Q => a' = a ∧ ∃ u b, ClsD d u ∧ PySem.W.kitOne K (.ref C) u = some b ∧ Q (.dat (.bl b))
  | _, _ => False
def gIsET (K : PySem.W.Frag) (C a : Addr) : GN
  | [.adr a', .tup ds], Q => a' = a ∧ ∃ us b, ClsDs ds us ∧ PySem.W.kitAny K (.ref C) us = some b ∧ Q (.dat (.bl b))
  | _, _ => False
section
variable {K : PySem.W.Frag} {C a : Addr}
theorem cs_isE : CallS K (rIsE K C a) (gIsE K C a) := by
  intro B H xs ds Qw Q sub hx g p
  match ds, g with
  | [.adr a', d], g =>
    obtain ⟨rfl, u, b, c, e, q⟩ := g
    cases hx with
    | cons h1 t =>
      cases t with
      | cons h2 t =>
        cases t
        cases h1
        rename_i v
        have i2 : ClsV v u := by
          cases c with
          | ty n => cases h2; exact .ty n
          | own C => cases h2; exact .own C
        exact ⟨_, u, b, rfl, fun w r => i2.eq r, e, p.bl q⟩
theorem cs_isET : CallS K (rIsET K C a) (gIsET K C a) := by
  intro B H xs ds Qw Q sub hx g p
  match ds, g with
  | [.adr a', .tup es], g =>
    obtain ⟨rfl, us, b, c, e, q⟩ := g
    cases hx with
    | cons h1 t =>
      cases t with
      | cons h2 t =>
        cases t
        cases h1
        cases h2 with
        | tup hs ha => exact ⟨_, _, us, b, rfl, hs, fun ws r => ClsDs.all ha c r, e, p.bl q⟩
theorem call_isET {X : Cx} {a D : Addr} {oe : Obj} {pn : List (Addr × Obj)} (C : ExcC X.K D) (hz : Zc (.ref D) none oe) (hf : ∃ vs, oe.data = .fields vs) : CallR (X.suite a ((a, oe) :: pn)) (.builtin "isinstance") (rIsET X.K D a) := by
  intro pins s σ H xs us Q I r h
  obtain ⟨tp, cs, ws, b, rfl, hT, hcv, e, q⟩ := h
  obtain ⟨u1, u2, rfl, r1, r2⟩ := vals2 r
  cases (show u1 = Value.ref a from r1)
  cases (show u2 = Value.ref tp from r2)
  obtain ⟨its, o, n, rv, h1, h2, h3⟩ := sqT_at I.hok I.kIn hT
  have e3 := hcv _ rv
  subst e3
  obtain ⟨oc, od, dt, sl⟩ := o
  simp only at h2 h3
  subst h2 h3
  obtain ⟨hget, _⟩ := I.pin (a, oe) (List.mem_append.mpr (.inl List.mem_cons_self))
  obtain ⟨vs, hv⟩ := hf
  have J : PySem.W.InstAt s.heap a oe D none := by
    obtain ⟨oc, od, oda, osl⟩ := oe
    obtain ⟨h1, h2⟩ := hz
    dsimp only at h1 h2 hv
    subst h1 h2 hv
    exact ⟨hget, rfl, rfl, trivial⟩
  exact PySem.W.kia_tup (PySem.W.handS_kitx_exc C.hg C.hk C.hs C.hd C.ha C.hn C.ht C.hm) I.kIn J h1 e (fun z => nomatch z) fun tk => ⟨.bl b, H, I.kept (t' := tk) fun _ _ z => z, rfl, q⟩
end
theorem ClsD.fun_ {d : D} {u v : Value} (h : ClsD d u) (h' : ClsD d v) : u = v := by
  cases h <;> cases h' <;> rfl
theorem ClsDs.fun_ : ∀ {ds : List D} {us vs : List Value}, ClsDs ds us → ClsDs ds vs → us = vs
  | _, _, _, .nil, .nil => rfl
  | _, _, _, .cons h t, .cons h' t' => by rw [h.fun_ h', t.fun_ t']
theorem gIsE_of {K : PySem.W.Frag} {C a : Addr} {d : D} {u : Value} {b : Bool} {Q : Sl → Prop} (c : ClsD d u) (h : PySem.W.kitOne K (.ref C) u = some b) : gIsE K C a [.adr a, d] Q = Q (.dat (.bl b)) := by
  refine propext ⟨fun ⟨_, u', b', c', h', q⟩ => ?_, fun q => ⟨rfl, u, b, c, h, q⟩⟩
  cases c.fun_ c'
  rw [h] at h'; cases h'; exact q
theorem gIsET_of {K : PySem.W.Frag} {C a : Addr} {ds : List D} {us : List Value} {b : Bool} {Q : Sl → Prop} (c : ClsDs ds us) (h : PySem.W.kitAny K (.ref C) us = some b) : gIsET K C a [.adr a, .tup ds] Q = Q (.dat (.bl b)) := by
  refine propext ⟨fun ⟨_, u', b', c', h', q⟩ => ?_, fun q => ⟨rfl, us, b, c, h, q⟩⟩
  cases c.fun_ c'
  rw [h] at h'; cases h'; exact q
end DL

set_option Elab.async false
set_option linter.all false
set_option maxRecDepth 100000
set_option maxHeartbeats 4000000
/-! DLo: the head: facts by names, and others of one's own. -/
namespace DL
open PySem PySem.Spec PyProof.Rows L2
abbrev AlX : Type := Bool × He.AlD
def obsX (ex : PySem.W.Frag → Bool) (fa : List He.Fa) (fn : List He.DefD) (K : PySem.W.Frag) : AlX := (ex K, He.obsD fa fn K)
def obsXG (n : Nat) (ex : PySem.W.Frag → Bool) (fa : List He.Fa) (fn : List He.DefD) (g : Addr → Option Obj) : AlX := obsX ex fa fn (He.frG g (He.asD g n))
def hookX (n : Nat) (ex : PySem.W.Frag → Bool) (fa : List He.Fa) (fn : List He.DefD) : PySem.W.Hook where
  α := AlX
  obs := fun s => obsXG n ex fa fn s.heap.get?
  val := fun _ => (true, He.valD fn)
  says := fun _ h => ∃ K : PySem.W.Frag, K.In h ∧ (ex K = true ∧ He.SaysD fa fn K)
  of := fun _ _ e => ⟨_, He.frG_in, congrArg (fun z : AlX => z.1) e, congrArg (fun z : AlX => z.2) e⟩
  keeps := fun _ _ _ ⟨K, hK, c⟩ k => ⟨K, PySem.W.Frag.In.keeps hK k, c⟩
theorem obsXG_eq {n : Nat} {ex : PySem.W.Frag → Bool} {fa : List He.Fa} {fn : List He.DefD} {g : Addr → Option Obj} {s : Shared} (h : ∀ a, g a = s.heap.get? a) : obsXG n ex fa fn g = (hookX n ex fa fn).obs s := by
  have e : g = s.heap.get? := funext h
  rw [e] <;> rfl
/-- a def whose promise lets nothing out -/
theorem FnOk_cx0 {P : Program} {w : World} {K : PySem.W.Frag} {mg : Str → Option Value} {base : Heap} {k : Nat} {f : Addr} {fd : FuncData} {ps : List Str} {sp : Sp} (F : FnOk P w K mg base (L2.CX P w) k f fd ps sp) :
    FnOk P w K mg base CX0 k f fd ps (fun vs H Q _ => sp vs H Q fun _ _ _ => False) where
  len := fun vs H Q E h => F.len vs H Q _ h
  run := fun A outer s H args us vs Q E hr e0 hb hv h => by
    refine codeAny_mono (F.run A outer s H args us vs Q (fun _ _ _ => False) hr e0 hb hv h) fun r s' hq => ?_
    cases r with
    | error e =>
      obtain ⟨_, _, _, _, _, _, _, _, _, _, _, _, z⟩ := hq
      exact z.elim
    | ok fl => cases fl <;> exact hq
theorem ip_ints {K : PySem.W.Frag} {B H : Hp} : ∀ ns : List Int, IpAll K B H (ns.map V.int) (ns.map D.int)
  | [] => .nil
  | i :: ns => .cons (.int i) (ip_ints ns)
/-- the law's promise, at a list of ints -/
theorem law_at {K : PySem.W.Frag} {g : FD} (hg : ∀ (ns : List Int) (Q : Sl → Prop), Q (.dat (.bl true)) → g [.lst (ns.map D.int)] Q (fun _ => False)) (H : Hp) (a : Addr) (ns : List Int) (hS : SqL K H a (ns.map V.int)) :
    spD K 1 g [.ref a] H (fun v _ => v = .bl true) fun _ _ _ => False :=
  ⟨H, [.lst (ns.map D.int)], fun r => r = .dat (.bl true), fun _ => False, Same.refl _, .cons (.lst hS (ip_ints ns)) .nil, rfl, hg ns _ rfl, fun v r H' sm rr q => by
    subst q
    obtain ⟨F, _, _, z⟩ := rr
    have z : Ip K F H' v (.bl true) := z
    cases z; rfl, fun _ _ _ z => z⟩
def eB (a b : Option Bool) : Bool := decide (a = b)
theorem eB_ok {a b : Option Bool} (h : eB a b = true) : a = b := of_decide_eq_true h
/-- what isinstance asks of an own error class -/
def excB (K : PySem.W.Frag) (D : Addr) : Bool :=
  He.eqO (PySem.W.findIn K (.ref D) "__getattribute__") (some (some (.builtin "BaseException.__getattribute__"))) && (He.eqO (PySem.W.findIn K (.ref D) "__getattr__") (some none) && (eB (PySem.W.subIn K (.ref D) (.type "BaseException")) (some true) && (PySem.W.hasDictIn K D &&
    (He.eqO (PySem.W.findIn K (.ref D) "__class__") (some (some (.builtin "object.__class__"))) && (He.eqO (PySem.W.specialIn K (.builtin "object.__class__") "__get__") (some (some (.builtin "getset_descriptor.__get__"))) && (eB (PySem.W.takesIn K (.builtin "object.__class__")) (some true) && eB (PySem.W.mroIn K D (.type "object")) (some true)))))))
theorem excB_ok {K : PySem.W.Frag} {D : Addr} (h : excB K D = true) : ExcC K D := by
  obtain ⟨h1, h⟩ := He.ba h
  obtain ⟨h2, h⟩ := He.ba h
  obtain ⟨h3, h⟩ := He.ba h
  obtain ⟨h4, h⟩ := He.ba h
  obtain ⟨h5, h⟩ := He.ba h
  obtain ⟨h6, h⟩ := He.ba h
  obtain ⟨h7, h8⟩ := He.ba h
  exact ⟨He.eqO_ok h1, He.eqO_ok h2, eB_ok h3, h4, He.eqO_ok h5, He.eqO_ok h6, eB_ok h7, eB_ok h8⟩
/-- a tuple of the module's -/
def tupB (K : PySem.W.Frag) (a : Addr) (vs : List V) : Bool := match K.lookup a with
  | some ⟨.type c, _, .seq its _, _⟩ => decide (c = "tuple") && (decide (its.size ≤ sizeLine) && He.relAll vs its.toList)
  | _ => false
theorem tupB_ok {K : PySem.W.Frag} {a : Addr} {vs : List V} (h : tupB K a vs = true) (H : Hp) : SqT K H a vs := by
  unfold tupB at h
  split at h
  · rename_i c d its n sl q
    obtain ⟨h1, h2⟩ := He.ba h
    obtain ⟨h3, h4⟩ := He.ba h2
    exact .inr ⟨_, its, n, q, congrArg Value.type (of_decide_eq_true h1), rfl, of_decide_eq_true h3, He.relAll_ok h4⟩
  · cases h
theorem ip_pair {K : PySem.W.Frag} {a : Addr} {x y : Int} (h : tupB K a [.int x, .int y] = true) (B H : Hp) : Ip K B H (.ref a) (.tup [.int x, .int y]) := .tup (tupB_ok h H) (.cons (.int x) (.cons (.int y) .nil))
end DL

set_option Elab.async false
set_option linter.all false
set_option maxRecDepth 100000
set_option maxHeartbeats 4000000
set_option checkBinderAnnotations false
/-! DLp: ranges downwards and with a step; the module's ints and texts. -/
namespace DL
open PySem L2
def rcD (lo c : Int) (n : Nat) : List D := (List.range n).map fun i => .int (lo + (i : Nat) * c)
theorem rcD_len (lo c : Int) (n : Nat) : (rcD lo c n).length = n := by unfold rcD; simp
theorem rcD_get {lo c : Int} {n k : Nat} (h : k < n) : (rcD lo c n)[k]? = some (.int (lo + (k : Nat) * c)) := by
  unfold rcD
  rw [List.getElem?_map, List.getElem?_range h]; rfl
theorem rc_get {lo c : Int} {n k : Nat} {d : D} (h : (rcD lo c n)[k]? = some d) : d = .int (lo + (k : Nat) * c) ∧ k < n := by
  have hk := (List.getElem?_eq_some_iff.mp h).1
  rw [rcD_len] at hk
  rw [rcD_get hk] at h
  cases h
  exact ⟨rfl, hk⟩
theorem wk_rc {K : PySem.W.Frag} (lo c : Int) (n : Nat) (ok : Hp → Hp → Prop) : Wk K (Itc lo c n) (rcD lo c n) ok where
  go := fun k B H _ hk => by rw [rcD_len] at hk; exact hk
  yld := fun k B H x H' _ hy hk => by
    obtain ⟨rfl, rfl⟩ := hy
    rw [rcD_len] at hk
    exact ⟨_, rcD_get hk, Same.refl _, .int _⟩
  stop := fun k B H _ hk => by rw [rcD_len] at hk; exact hk
/-- reversed(range(n)) -/
def wRevRg1 (we : EW) : IW := fun ρ Q X => we ρ (fun r ρ1 => match r with
  | .dat (.int j) => (-(2 ^ 62) ≤ j ∧ j < 2 ^ 62) ∧ Q (rcD ((j.toNat : Int) - 1) (-1) j.toNat) ρ1
  | _ => False) X
/-- range(i, j, c) -/
def wRg3 (wa wb wc : EW) : IW := fun ρ Q X => wa ρ (fun r ρ1 => wb ρ1 (fun r' ρ2 => wc ρ2 (fun r'' ρ3 => match r, r', r'' with
  | .dat (.int i), .dat (.int j), .dat (.int c) => ∃ n : Nat, RgC i j c n ∧ Q (rcD i c n) ρ3
  | _, _, _ => False) X) X) X
section
variable {X : Cx} {W : WX} {tg a b c e : Expr} {wa wb wc we : EW} {pos p pos2 p2 : Pos}
theorem di_revRg1 (hg0 : Gl X "reversed") (hm0 : X.mg "reversed" = none) (hg : Gl X "range") (hm : X.mg "range" = none) (ha : DE X W a wa) (hs : starEach [a] X.env = (false, eval a X.env) :: starEach [] X.env := by rfl)
    (hs2 : starEach [.Call (.Name "range" p2) [a] [] pos2] X.env = (false, eval (.Call (.Name "range" p2) [a] [] pos2) X.env) :: starEach [] X.env := by rfl) : DI X W tg (.Call (.Name "reversed" p) [.Call (.Name "range" p2) [a] [] pos2] [] pos) (wRevRg1 wa) := by
  obtain ⟨t, pa, sa⟩ := ha.ok
  refine ⟨_, pi_revR hg0 hm0 (prg_1 hg hm pa hs) hs2, fun B σ ρ H Qw Xw R s h hx q => ?_⟩
  refine sa B σ ρ H _ Xw _ s h hx fun v r B1 ρ1 H1 s1 t1 rv1 q1 => ?_
  cases r with
  | dat d =>
    cases d with
    | int j =>
      cases rv1
      refine ⟨j, rfl, by decide, by decide, q1.1.1, q1.1.2, ?_⟩
      have e1 : ((j - 0).toNat) = j.toNat := by omega
      have e2 : (0 : Int) + ((j.toNat : Nat) : Int) - 1 = (j.toNat : Int) - 1 := by omega
      rw [e1, e2]
      exact q _ _ B1 ρ1 H1 s1 t1 (wk_rc _ _ _ _) q1.2
    | _ => exact q1.elim
  | _ => exact q1.elim
theorem di_range3 (hg : Gl X "range") (hm : X.mg "range" = none) (ha : DE X W a wa) (hb : DE X W b wb) (hc : DE X W c wc) (hs : starEach [a, b, c] X.env = (false, eval a X.env) :: starEach [b, c] X.env := by rfl) (hs2 : starEach [b, c] X.env = (false, eval b X.env) :: starEach [c] X.env := by rfl)
    (hs3 : starEach [c] X.env = (false, eval c X.env) :: starEach [] X.env := by rfl) (hpl : (backTo pos (starEach [b, c] X.env)).any (·.1) = false := by rfl) : DI X W tg (.Call (.Name "range" p) [a, b, c] [] pos) (wRg3 wa wb wc) := by
  obtain ⟨t, pa, sa⟩ := ha.ok
  obtain ⟨t2, pb, sb⟩ := hb.ok
  obtain ⟨t3, pc, sc⟩ := hc.ok
  refine ⟨_, pi_range3 hg hm (pa_cons pa (pa_cons pb (pa_cons pc pa_nil hs3) hs2) hs) hs hpl, fun B σ ρ H Qw Xw R s h hx q => ?_⟩
  refine sa B σ ρ H _ Xw _ s h hx fun v r B1 ρ1 H1 s1 t1 rv1 q1 => ?_
  refine sb B1 σ ρ1 H1 _ Xw _ s1 q1 (hx.lift s1 t1) fun v2 r2 B2 ρ2 H2 s2 t2 rv2 q2 => ?_
  refine sc B2 σ ρ2 H2 _ Xw _ s2 q2 ((hx.lift s1 t1).lift s2 t2) fun v3 r3 B3 ρ3 H3 s3 t3 rv3 q3 => ?_
  cases r with
  | dat d =>
    cases d with
    | int i =>
      cases r2 with
      | dat d2 =>
        cases d2 with
        | int j =>
          cases r3 with
          | dat d3 =>
            cases d3 with
            | int c =>
              obtain ⟨n, hn, q3⟩ := q3
              cases rv1; cases rv2; cases rv3
              exact ⟨i, j, c, n, rfl, hn, q _ _ B3 ρ3 H3 s3 (t1.trans s1 (t2.trans s2 t3)) (wk_rc _ _ _ _) q3⟩
            | _ => exact q3.elim
          | _ => exact q3.elim
        | _ => exact q3.elim
      | _ => exact q3.elim
    | _ => exact q3.elim
  | _ => exact q3.elim
end
section
variable {ρ : En} {X : Value → En → Prop} {QI : List D → En → Prop}
@[simp ↓] theorem i_revRg1 {we : EW} : wRevRg1 we ρ QI X = we ρ (fun r ρ1 => match r with
  | .dat (.int j) => (-(2 ^ 62) ≤ j ∧ j < 2 ^ 62) ∧ QI (rcD ((j.toNat : Int) - 1) (-1) j.toNat) ρ1
  | _ => False) X := id rfl
@[simp ↓] theorem i_rg3 {wa wb wc : EW} : wRg3 wa wb wc ρ QI X = wa ρ (fun r ρ1 => wb ρ1 (fun r' ρ2 => wc ρ2 (fun r'' ρ3 => match r, r', r'' with
  | .dat (.int i), .dat (.int j), .dat (.int c) => ∃ n : Nat, RgC i j c n ∧ QI (rcD i c n) ρ3
  | _, _, _ => False) X) X) X := id rfl
end
end DL

set_option Elab.async false
set_option linter.all false
set_option maxRecDepth 100000
set_option maxHeartbeats 4000000
set_option checkBinderAnnotations false
/-! DLq: x // y of ints of any size. -/
namespace DL
open PySem PySem.Spec PyProof.Rows L2
theorem ns_of {K : PySem.W.Frag} {h : Heap} {a : Addr} {mg : Str → Option Value} {n : Str} {v : Value} (X : K.In h) (G : h.Ns a mg) (e : PySem.W.nsIn K a n = some (some v)) : mg n = some v := by
  obtain ⟨o, es, ep, ho, hd, _, hf⟩ := G
  unfold PySem.W.nsIn at e
  split at e
  · rename_i c d es' n' sl q
    have := X _ _ q
    rw [ho] at this
    cases this
    cases hd
    split at e
    · rename_i en he
      cases e
      rw [← hf]
      unfold nsFind findBy
      rw [← Array.find?_toList, he]
      rfl
    · split at e <;> cases e
  · cases e
theorem ns_none {K : PySem.W.Frag} {h : Heap} {a : Addr} {mg : Str → Option Value} {n : Str} (X : K.In h) (G : h.Ns a mg) (e : PySem.W.nsIn K a n = some none) : mg n = none := by
  obtain ⟨o, es, ep, ho, hd, _, hf⟩ := G
  unfold PySem.W.nsIn at e
  split at e
  · rename_i c d es' n' sl q
    have := X _ _ q
    rw [ho] at this
    cases this
    cases hd
    split at e
    · cases e
    · rename_i he
      rw [← hf]
      unfold nsFind findBy
      rw [← Array.find?_toList, he]
      rfl
  · cases e
/-- a dict whose keys are texts -/
def strK (e : DictEntry) : Bool := match e.key with
  | .str _ _ => true
  | _ => false
def nsB (K : PySem.W.Frag) (a : Addr) : Bool := match K.lookup a with
  | some ⟨_, _, .dict es _, _⟩ => es.toList.all strK
  | _ => false
theorem nsB_ok {K : PySem.W.Frag} {h : Heap} {a : Addr} (X : K.In h) (e : nsB K a = true) : ∃ m, h.Ns a m := by
  unfold nsB at e
  split at e
  · rename_i c d es n sl q
    refine ⟨nsFind es, _, es, n, X _ _ q, rfl, fun x hx => ?_, fun _ => rfl⟩
    have := List.all_eq_true.mp e x (by simpa using hx)
    unfold strK at this
    split at this
    · rename_i y t q; exact ⟨y, t, q⟩
    · cases this
  · cases e
def modB (K : PySem.W.Frag) (a : Addr) : Bool := match K.lookup a with
  | some ⟨.type c, some d, _, _⟩ => decide (c = "module") && decide (d = builtinsNs)
  | _ => false
theorem modB_ok {K : PySem.W.Frag} {h : Heap} {a : Addr} (X : K.In h) (e : modB K a = true) : ∃ ob, h.get? a = some ob ∧ ob.cls = .type "module" ∧ ob.dict = some builtinsNs := by
  unfold modB at e
  split at e
  · rename_i c d dt sl q
    obtain ⟨h1, h2⟩ := He.ba e
    exact ⟨_, X _ _ q, congrArg Value.type (of_decide_eq_true h1), congrArg some (of_decide_eq_true h2)⟩
  · cases e
/-- what a division that goes by _pylong looks at -/
def seerB (K : PySem.W.Frag) : Bool := He.eqO (PySem.W.nsIn K cStatics "sys.audit-hooks") (some none) && (He.eqO (PySem.W.nsIn K cStatics "sys.dict") (some none) && (nsB K sysModules && (He.eqO (PySem.W.nsIn K sysModules "_pylong") (some none) &&
  (He.eqO (PySem.W.nsIn K mainGlobals "__builtins__") (some (some (.ref (He.ga K "__builtins__")))) && modB K (He.ga K "__builtins__")))))
theorem seer_of {K : PySem.W.Frag} {mg : Str → Option Value} {base : Heap} (e : seerB K = true) (M : Mod K mg base) : base.NoSeer := by
  obtain ⟨h1, e⟩ := He.ba e
  obtain ⟨h2, e⟩ := He.ba e
  obtain ⟨h3, e⟩ := He.ba e
  obtain ⟨h4, e⟩ := He.ba e
  obtain ⟨h5, h6⟩ := He.ba e
  obtain ⟨mc, nc, _⟩ := M.nolimit
  obtain ⟨mm, nm⟩ := nsB_ok M.kin h3
  obtain ⟨ob, o1, o2, o3⟩ := modB_ok M.kin h6
  exact ⟨⟨mc, nc, ns_none M.kin nc (He.eqO_ok h1), ns_none M.kin nc (He.eqO_ok h2)⟩, ⟨mm, nm, ns_none M.kin nm (He.eqO_ok h4)⟩, M.blt, ⟨mg, _, ob, M.glob, ns_of M.kin M.glob (He.eqO_ok h5), o1, o2, o3⟩⟩
/-- the program brings no files -/
class PlP (P : Program) : Prop where
  ht : P.given.tree = none
def StkOk (X : Cx) : Prop := ∃ env l, X.stack = env :: l ∧ env.scope.isGenerator = false ∧ env.scope.isCoroutine = false ∧ env.builtins = builtinsNs ∧ env.globals = mainGlobals
theorem op_fdivP {X : Cx} (ip : PlP X.prog) (hr : Room 40 X.A) (hs : StkOk X) (sr : seerB X.K = true) : OpR X (binaryOp .FloorDiv) (rI (fun _ j => j ≠ 0) fun i j => .int (i.fdiv j)) := by
  intro pins s σ H x y v u Q I rx ry h
  obtain ⟨i, j, rfl, rfl, hc, q⟩ := h
  obtain ⟨t, rfl⟩ := rx
  obtain ⟨t', rfl⟩ := ry
  obtain ⟨env, l, e1, e2, e3, e4, e5⟩ := hs
  have hp : PylongRoom (model X.prog X.w) X.A s := PylongRoom.of I.nolimit (by have := hr.dp; show X.A.depth + 100 < _; omega) (SeerAt.of ((seer_of sr I.mod).keeps I.bk) ip.ht (I.ok.frames.trans (congrArg some e1)) e2 e3 e4 e5)
  exact floordiv_int hc ⟨.int (i.fdiv j), H, I.tok _, ⟨_, rfl⟩, q⟩ (.inr hp)
def gDivP : G2
  | .int i, .int j, Q => j ≠ 0 ∧ Q (.dat (.int (i.fdiv j)))
  | _, _, _ => False
theorem ops_divP {K : PySem.W.Frag} : OpS K (rI (fun _ j => j ≠ 0) fun i j => .int (i.fdiv j)) gDivP := by
  intro B H x y d e Qw Q sub hx hy g p
  match d, e, g with
  | .int i, .int j, g =>
    cases hx; cases hy
    exact ⟨i, j, rfl, rfl, g.1, p.int g.2⟩
@[simp ↓] theorem g_divP {i j : Int} {Q : Sl → Prop} : gDivP (.int i) (.int j) Q = (j ≠ 0 ∧ Q (.dat (.int (i.fdiv j)))) := id rfl
/-! ### the head -/
def bmG (g : Addr → Option Obj) : List Addr := match g mainGlobals with
  | some ⟨_, _, .dict es _, _⟩ => es.toList.filterMap fun e => if e.key.isStr "__builtins__" then (match e.val with | .ref a => some a | _ => none) else none
  | _ => []
def asY (g : Addr → Option Obj) (n : Nat) : List Addr := He.asD g n ++ (cStatics :: sysModules :: bmG g)
def obsYG (n : Nat) (ex : PySem.W.Frag → Bool) (fa : List He.Fa) (fn : List He.DefD) (g : Addr → Option Obj) : AlX := obsX ex fa fn (He.frG g (asY g n))
def hookY (n : Nat) (ex : PySem.W.Frag → Bool) (fa : List He.Fa) (fn : List He.DefD) : PySem.W.Hook where
  α := AlX
  obs := fun s => obsYG n ex fa fn s.heap.get?
  val := fun _ => (true, He.valD fn)
  says := fun _ h => ∃ K : PySem.W.Frag, K.In h ∧ (ex K = true ∧ He.SaysD fa fn K)
  of := fun _ _ e => ⟨_, He.frG_in, congrArg (fun z : AlX => z.1) e, congrArg (fun z : AlX => z.2) e⟩
  keeps := fun _ _ _ ⟨K, hK, c⟩ k => ⟨K, PySem.W.Frag.In.keeps hK k, c⟩
theorem obsYG_eq {n : Nat} {ex : PySem.W.Frag → Bool} {fa : List He.Fa} {fn : List He.DefD} {g : Addr → Option Obj} {s : Shared} (h : ∀ a, g a = s.heap.get? a) : obsYG n ex fa fn g = (hookY n ex fa fn).obs s := by
  have e : g = s.heap.get? := funext h
  rw [e] <;> rfl
end DL

set_option Elab.async false
set_option linter.all false
set_option maxRecDepth 100000
set_option maxHeartbeats 4000000
/-! RQ: fractions as rationals, polynomials as lists of them; plain Lean. (RL of k12, with tops of any size.) -/
namespace RL
/-! ### lowest terms -/
theorem mk_low (t b : Int) (hb : b ≠ 0) : t.fdiv (if b < 0 then -(Int.gcd t b : Int) else (Int.gcd t b : Int)) = (Rat.divInt t b).num ∧ b.fdiv (if b < 0 then -(Int.gcd t b : Int) else (Int.gcd t b : Int)) = ((Rat.divInt t b).den : Int) := by
  rw [Rat.num_divInt, Rat.den_divInt, if_neg hb, Int.gcd_comm b t]
  have hg : (Int.gcd t b : Int) ≠ 0 := by
    intro z
    exact hb (Int.gcd_eq_zero_iff.mp (Int.ofNat.inj z)).2
  have hgN : Int.gcd t b ≠ 0 := fun z => hg (by rw [z]; rfl)
  obtain ⟨k, hk⟩ : (Int.gcd t b : Int) ∣ t := Int.gcd_dvd_left ..
  obtain ⟨m, hm⟩ : (Int.gcd t b : Int) ∣ b := Int.gcd_dvd_right ..
  have e3 : b.natAbs / Int.gcd t b = m.natAbs := by
    have : b.natAbs = Int.gcd t b * m.natAbs := by
      have := congrArg Int.natAbs hm
      rw [Int.natAbs_mul] at this
      simpa using this
    rw [this, Nat.mul_div_cancel_left _ (by omega)]
  rw [e3]
  generalize Int.gcd t b = g at *
  have gp : (0 : Int) < (g : Int) := by omega
  by_cases hn : b < 0
  · rw [if_pos hn, Int.sign_eq_neg_one_of_neg hn]
    have hmn : m < 0 := by
      rcases Int.lt_or_le m 0 with z | z
      · exact z
      · have := Int.mul_nonneg (Int.le_of_lt gp) z
        omega
    constructor
    · have e1 : t = -(g : Int) * -k := by rw [Int.neg_mul_neg]; exact hk
      have e2 : (-1 : Int) * t = (g : Int) * -k := by rw [hk]; simp [Int.mul_neg]
      rw [e2, Int.mul_ediv_cancel_left _ hg]
      conv => lhs; rw [e1]
      exact Int.mul_fdiv_cancel_left _ (by omega)
    · have e1 : b = -(g : Int) * -m := by rw [Int.neg_mul_neg]; exact hm
      conv => lhs; rw [e1]
      rw [Int.mul_fdiv_cancel_left _ (by omega)]
      omega
  · rw [if_neg hn, Int.sign_eq_one_of_pos (by omega)]
    have hmn : 0 ≤ m := by
      rcases Int.lt_or_le m 0 with z | z
      · have := Int.mul_neg_of_pos_of_neg gp z
        omega
      · exact z
    constructor
    · rw [Int.one_mul]
      conv => lhs; rw [hk]
      conv => rhs; rw [hk]
      rw [Int.mul_fdiv_cancel_left _ hg, Int.mul_ediv_cancel_left _ hg]
    · conv => lhs; rw [hm]
      rw [Int.mul_fdiv_cancel_left _ hg]
      omega
/-! ### sizes: a / D, the top at most N -/
def In (D N : Nat) (r : Rat) : Prop := ∃ a : Int, r = Rat.divInt a D ∧ a.natAbs ≤ N
theorem In.add {D N M : Nat} (hD : D ≠ 0) {p q : Rat} (h : In D N p) (h' : In D M q) : In D (N + M) (p + q) := by
  obtain ⟨a, rfl, ha⟩ := h
  obtain ⟨b, rfl, hb⟩ := h'
  refine ⟨a + b, ?_, by omega⟩
  have hD' : (D : Int) ≠ 0 := by omega
  rw [Rat.divInt_add_divInt _ _ hD' hD', ← Int.add_mul, Rat.divInt_mul_right hD']
theorem In.mul {D E N M : Nat} {p q : Rat} (h : In D N p) (h' : In E M q) : In (D * E) (N * M) (p * q) := by
  obtain ⟨a, rfl, ha⟩ := h
  obtain ⟨b, rfl, hb⟩ := h'
  refine ⟨a * b, ?_, ?_⟩
  · rw [Rat.divInt_mul_divInt]; simp
  · rw [Int.natAbs_mul]; exact Nat.mul_le_mul ha hb
theorem In.neg {D N : Nat} {p : Rat} (h : In D N p) : In D N (-p) := by
  obtain ⟨a, rfl, ha⟩ := h
  exact ⟨-a, Rat.neg_divInt .., by omega⟩
theorem In.mono {D N M : Nat} {p : Rat} (h : In D N p) (hm : N ≤ M) : In D M p := by
  obtain ⟨a, e, ha⟩ := h
  exact ⟨a, e, by omega⟩
theorem In.up {D N : Nat} {p : Rat} (h : In D N p) (E : Nat) (hE : E ≠ 0) : In (D * E) (N * E) p := by
  obtain ⟨a, rfl, ha⟩ := h
  refine ⟨a * E, ?_, by rw [Int.natAbs_mul]; exact Nat.mul_le_mul ha (by omega)⟩
  have : (E : Int) ≠ 0 := by omega
  rw [Int.natCast_mul, Rat.divInt_mul_right this]
theorem In.zero {D N : Nat} : In D N 0 := ⟨0, by simp, by omega⟩
theorem In.self (r : Rat) : In r.den r.num.natAbs r := ⟨r.num, (Rat.num_divInt_den r).symm, Nat.le_refl _⟩
theorem In.den {D N : Nat} (hD : D ≠ 0) {r : Rat} (h : In D N r) : r.den ≤ D ∧ r.num.natAbs ≤ N := by
  obtain ⟨a, rfl, ha⟩ := h
  have hD' : (D : Int) ≠ 0 := by omega
  constructor
  · rw [Rat.den_divInt, if_neg hD']
    exact Nat.le_trans (Nat.div_le_self ..) (by omega)
  · rw [Rat.num_divInt, Int.sign_eq_one_of_pos (by omega), Int.one_mul]
    refine Nat.le_trans ?_ ha
    obtain ⟨k, hk⟩ : (Int.gcd (D : Int) a : Int) ∣ a := Int.gcd_dvd_right ..
    have hg : (Int.gcd (D : Int) a : Int) ≠ 0 := by
      intro z
      exact hD' (Int.gcd_eq_zero_iff.mp (Int.ofNat.inj z)).1
    have e := congrArg Int.natAbs hk
    rw [Int.natAbs_mul] at e
    have e2 : a / (Int.gcd (D : Int) a : Int) = k := Int.ediv_eq_of_eq_mul_right hg hk
    rw [e2, e]
    exact Nat.le_mul_of_pos_left _ (by omega)
/-! ### polynomials -/
def trim : List Rat → List Rat
  | [] => []
  | a :: l => match trim l with
    | [] => if a = 0 then [] else [a]
    | b :: m => a :: b :: m
theorem trim_zero_end : ∀ l : List Rat, trim (l ++ [0]) = trim l
  | [] => by simp [trim]
  | a :: l => by
    show trim (a :: (l ++ [0])) = trim (a :: l)
    unfold trim
    rw [trim_zero_end l]
theorem trim_end {a : Rat} (h : a ≠ 0) : ∀ l : List Rat, trim (l ++ [a]) = l ++ [a]
  | [] => by simp [trim, h]
  | b :: l => by
    show trim (b :: (l ++ [a])) = b :: (l ++ [a])
    unfold trim
    rw [trim_end h l]
    cases l <;> rfl
theorem co_trim : ∀ (l : List Rat) (k : Nat), (trim l).getD k 0 = l.getD k 0
  | [], k => by simp [trim]
  | a :: l, k => by
    have ih := co_trim l
    unfold trim
    cases e : trim l with
    | nil =>
      rw [e] at ih
      cases k with
      | zero =>
        by_cases ha : a = 0
        · simp [ha]
        · simp [ha]
      | succ k =>
        have z : l.getD k 0 = 0 := by rw [← ih k]; rfl
        have z2 : (a :: l).getD (k + 1) 0 = 0 := by simpa using z
        rw [z2]
        by_cases ha : a = 0
        · simp [ha]
        · simp [ha]
    | cons b m =>
      rw [e] at ih
      cases k with
      | zero => simp
      | succ k => have := ih k; simpa using this
theorem trim_zero : ∀ {l : List Rat}, (∀ k, l.getD k 0 = 0) → trim l = []
  | [], _ => rfl
  | a :: l, h => by
    have h0 := h 0
    have ih := trim_zero (l := l) fun k => by simpa using h (k + 1)
    unfold trim
    rw [ih]
    simp at h0
    simp [h0]
theorem trim_ext : ∀ {l l' : List Rat}, (∀ k, l.getD k 0 = l'.getD k 0) → trim l = trim l'
  | [], l', h => by
    rw [trim_zero (l := l') fun k => by rw [← h k]; simp]; rfl
  | a :: l, [], h => by
    rw [trim_zero (l := a :: l) fun k => by rw [h k]; simp]; rfl
  | a :: l, b :: l', h => by
    have h0 : a = b := by simpa using h 0
    have ih := trim_ext (l := l) (l' := l') fun k => by simpa using h (k + 1)
    unfold trim
    rw [ih, h0]
theorem trim_idem (l : List Rat) : trim (trim l) = trim l := trim_ext (co_trim l)
/-- sums up to n -/
def sm : Nat → (Nat → Rat) → Rat
  | 0, h => h 0
  | n + 1, h => sm n h + h (n + 1)
theorem sm_add (h g : Nat → Rat) : ∀ n, sm n (fun i => h i + g i) = sm n h + sm n g
  | 0 => rfl
  | n + 1 => by unfold sm; rw [sm_add h g n]; grind
theorem sm_mul (x : Rat) (h : Nat → Rat) : ∀ n, sm n (fun i => x * h i) = x * sm n h
  | 0 => rfl
  | n + 1 => by unfold sm; rw [sm_mul x h n]; grind
theorem sm_congr {h g : Nat → Rat} : ∀ {n}, (∀ i, i ≤ n → h i = g i) → sm n h = sm n g
  | 0, e => e 0 (Nat.le_refl _)
  | n + 1, e => by
    unfold sm
    rw [sm_congr fun i hi => e i (by omega), e (n + 1) (Nat.le_refl _)]
theorem sm_zero : ∀ n, sm n (fun _ => (0 : Rat)) = 0
  | 0 => rfl
  | n + 1 => by unfold sm; rw [sm_zero n]; exact Rat.add_zero _
/-- the first one ahead -/
theorem sm_first (h : Nat → Rat) : ∀ n, sm (n + 1) h = h 0 + sm n (fun i => h (i + 1))
  | 0 => rfl
  | n + 1 => by
    show sm (n + 1) h + h (n + 1 + 1) = h 0 + (sm n (fun i => h (i + 1)) + h (n + 1 + 1))
    rw [sm_first h n]; grind
/-- the product's coefficients -/
def cv (f g : Nat → Rat) (n : Nat) : Rat := sm n fun i => f i * g (n - i)
def co (l : List Rat) (k : Nat) : Rat := l.getD k 0
theorem cv_addL (f f' g : Nat → Rat) (n : Nat) : cv (fun i => f i + f' i) g n = cv f g n + cv f' g n := by
  unfold cv
  rw [← sm_add]
  exact sm_congr fun i _ => by grind
theorem cv_mulL (x : Rat) (f g : Nat → Rat) (n : Nat) : cv (fun i => x * f i) g n = x * cv f g n := by
  unfold cv
  rw [← sm_mul]
  exact sm_congr fun i _ => by grind
def sh (f : Nat → Rat) : Nat → Rat
  | 0 => 0
  | n + 1 => f n
theorem cv_sh (f g : Nat → Rat) : ∀ n, cv (sh f) g n = sh (cv f g) n
  | 0 => by simp [cv, sm, sh, Rat.zero_mul]
  | n + 1 => by
    show sm (n + 1) (fun i => sh f i * g (n + 1 - i)) = sm n fun i => f i * g (n - i)
    rw [sm_first]
    have e : (fun i => sh f (i + 1) * g (n + 1 - (i + 1))) = fun i => f i * g (n - i) := by
      funext i; rw [Nat.add_sub_add_right]; rfl
    rw [e]
    simp [sh, Rat.zero_mul, Rat.zero_add]
theorem co_cons (x : Rat) (a : List Rat) : co (x :: a) = fun i => (if i = 0 then x else 0) + sh (co a) i := by
  funext i
  cases i with
  | zero => simp [co, sh, Rat.add_zero]
  | succ n => simp [co, sh, Rat.zero_add]
theorem cv_one (x : Rat) (g : Nat → Rat) : ∀ n, cv (fun i => if i = 0 then x else 0) g n = x * g n
  | 0 => by simp [cv, sm]
  | n + 1 => by
    unfold cv
    rw [sm_first]
    have e : (fun i => (if i + 1 = 0 then x else 0) * g (n + 1 - (i + 1))) = fun _ => (0 : Rat) := by
      funext i; simp [Rat.zero_mul]
    rw [e, sm_zero]
    simp [Rat.add_zero]
theorem cv_cons (x : Rat) (a : List Rat) (g : Nat → Rat) : cv (co (x :: a)) g = fun n => x * g n + sh (cv (co a) g) n := by
  funext n
  rw [co_cons, cv_addL, cv_one, cv_sh]
theorem cv_nil (g : Nat → Rat) : cv (co []) g = fun _ => 0 := by
  funext n
  unfold cv
  have e : (fun i => co [] i * g (n - i)) = fun _ => (0 : Rat) := by funext i; simp [co, Rat.zero_mul]
  rw [e, sm_zero]
/-- (a b) f = a (b f) -/
theorem cv_assoc (g f : Nat → Rat) : ∀ a : List Rat, cv (cv (co a) g) f = cv (co a) (cv g f)
  | [] => by
    rw [cv_nil, cv_nil]
    funext n
    unfold cv
    have e : (fun i => (0 : Rat) * f (n - i)) = fun _ => (0 : Rat) := by funext i; exact Rat.zero_mul _
    rw [e, sm_zero]
  | x :: a => by
    have ih := cv_assoc g f a
    rw [cv_cons, cv_cons]
    funext n
    rw [cv_addL (fun i => x * g i) (sh (cv (co a) g)), cv_mulL, cv_sh, ih]
theorem cv_snoc (g : Nat → Rat) (x : Rat) : ∀ (l : List Rat) (m : Nat), cv (co (l ++ [x])) g m = cv (co l) g m + (if l.length ≤ m then x * g (m - l.length) else 0)
  | [], m => by
    show cv (co [x]) g m = _
    rw [cv_cons, cv_nil]
    have : sh (fun _ => (0 : Rat)) m = 0 := by cases m <;> rfl
    simp [this, Rat.add_zero, Rat.zero_add]
  | y :: l, m => by
    show cv (co (y :: (l ++ [x]))) g m = _
    rw [cv_cons, cv_cons]
    cases m with
    | zero => simp [sh, Rat.add_zero]
    | succ m =>
      have ih := cv_snoc g x l m
      show y * g (m + 1) + cv (co (l ++ [x])) g m = y * g (m + 1) + cv (co l) g m + _
      rw [ih]
      simp only [List.length_cons, Nat.add_le_add_iff_right, Nat.add_sub_add_right]
      grind
theorem cv_big (b : List Rat) : ∀ (a : List Rat) (m : Nat), a.length + b.length ≤ m + 1 → cv (co a) (co b) m = 0
  | [], m, _ => by rw [cv_nil]
  | x :: a, m, h => by
    rw [cv_cons]
    simp only [List.length_cons] at h
    have e : co b m = 0 := by
      show b.getD m 0 = 0
      rw [List.getD_eq_getElem?_getD, List.getElem?_eq_none (by omega)]; rfl
    have e2 : sh (cv (co a) (co b)) m = 0 := by
      cases m with
      | zero => rfl
      | succ m => exact cv_big b a m (by omega)
    show x * co b m + sh (cv (co a) (co b)) m = 0
    rw [e, e2, Rat.mul_zero, Rat.add_zero]
theorem co_in {D N : Nat} {l : List Rat} (h : ∀ r ∈ l, In D N r) (k : Nat) : In D N (co l k) := by
  unfold co
  rw [List.getD_eq_getElem?_getD]
  cases e : l[k]? with
  | none => exact In.zero
  | some r => exact h r (List.mem_of_getElem? e)
theorem cv_in {D E N M : Nat} (hD : D ≠ 0) (hE : E ≠ 0) {g : Nat → Rat} (hg : ∀ k, In E M (g k)) : ∀ {a : List Rat} (ha : ∀ r ∈ a, In D N r) (m : Nat), In (D * E) (a.length * (N * M)) (cv (co a) g m)
  | [], _, m => by rw [cv_nil]; exact In.zero
  | x :: a, ha, m => by
    rw [cv_cons]
    have h1 : In (D * E) (N * M) (x * g m) := (ha x (by simp)).mul (hg m)
    have h2 : In (D * E) (a.length * (N * M)) (sh (cv (co a) g) m) := by
      cases m with
      | zero => exact In.zero
      | succ m => exact cv_in hD hE hg (fun r hr => ha r (by simp [hr])) m
    have := In.add (Nat.mul_ne_zero hD hE) h1 h2
    refine this.mono ?_
    rw [List.length_cons, Nat.add_mul, Nat.one_mul]; omega
/-! ### fractions and polynomials as data -/
open DL
def rD (r : Rat) : D := .tup [.int r.num, .int (r.den : Int)]
def pD (l : List Rat) : D := .tup (l.map rD)
@[irreducible] def sz (n : Nat) (x : Int) : Prop := x.natAbs < 2 ^ n
theorem sz_iff {n : Nat} {i : Int} : sz n i ↔ i.natAbs < 2 ^ n := by unfold sz; exact Iff.rfl
theorem sz_mono {n m : Nat} {i : Int} (h : sz n i) (hm : n ≤ m) : sz m i := sz_iff.mpr (Nat.lt_of_lt_of_le (sz_iff.mp h) (Nat.pow_le_pow_right (by decide) hm))
theorem sz_mul {n m k : Nat} {i j : Int} (h : sz n i) (h' : sz m j) (hk : n + m ≤ k) : sz k (i * j) := by
  refine sz_mono (n := n + m) ?_ hk
  rw [sz_iff] at *
  rw [Int.natAbs_mul, Nat.pow_add]
  exact Nat.mul_lt_mul'' h h'
theorem mulz {n m : Nat} {i j : Int} (h : sz n i) (h' : sz m j) (hs : n + m ≤ 134217728) : PySem.IntMulOk i j := mul_ok (sz_iff.mp h) (sz_iff.mp h') hs
theorem sz_neg {n : Nat} {i : Int} (h : sz n i) : sz n (-i) := by rw [sz_iff] at *; omega
/-- so great that products may be made; n is not looked at -/
def rz (n : Nat) (r : Rat) : Prop := sz 60000000 r.num ∧ sz 60000000 (r.den : Int)
theorem rz_of {D N n : Nat} (hD : D ≠ 0) {r : Rat} (h : In D N r) (h1 : D < 2 ^ 60000000) (h2 : N < 2 ^ 60000000) : rz n r := by
  have g := h.den hD
  refine ⟨sz_iff.mpr (Nat.lt_of_le_of_lt g.2 h2), sz_iff.mpr (Nat.lt_of_le_of_lt ?_ h1)⟩
  rw [Int.natAbs_natCast]; exact g.1
theorem rz_neg {n : Nat} {r : Rat} (h : rz n r) : rz n (-r) := by
  unfold rz; rw [Rat.neg_num, Rat.neg_den]; exact ⟨sz_neg h.1, h.2⟩
theorem rD_neg (r : Rat) : D.tup [.int (-r.num), .int (r.den : Int)] = rD (-r) := by
  unfold rD; rw [Rat.neg_num, Rat.neg_den]
theorem den_ne (r : Rat) : (r.den : Int) ≠ 0 := by have := r.den_pos; omega
theorem mk_one (x : Int) : (Rat.divInt x 1).num = x ∧ (Rat.divInt x 1).den = 1 := by
  rw [Rat.num_divInt, Rat.den_divInt]; simp
theorem add_eq (p q : Rat) : Rat.divInt (p.num * q.den + q.num * p.den) (p.den * q.den) = p + q := by
  rw [← Rat.divInt_add_divInt _ _ (den_ne p) (den_ne q), Rat.num_divInt_den, Rat.num_divInt_den]
theorem mul_eq (p q : Rat) : Rat.divInt (p.num * q.num) (p.den * q.den) = p * q := by
  rw [← Rat.divInt_mul_divInt, Rat.num_divInt_den, Rat.num_divInt_den]
theorem add_one {p q : Rat} (hp : (p.den : Int) = 1) (hq : (q.den : Int) = 1) : D.tup [.int (p.num + q.num), .int 1] = rD (p + q) := by
  have e := add_eq p q
  rw [hp, hq, Int.mul_one, Int.mul_one, Int.mul_one] at e
  have := mk_one (p.num + q.num)
  rw [e] at this
  unfold rD
  rw [this.1, this.2]; rfl
theorem mul_one {p q : Rat} (hp : (p.den : Int) = 1) (hq : (q.den : Int) = 1) : D.tup [.int (p.num * q.num), .int 1] = rD (p * q) := by
  have e := mul_eq p q
  rw [hp, hq, Int.mul_one] at e
  have := mk_one (p.num * q.num)
  rw [e] at this
  unfold rD
  rw [this.1, this.2]; rfl
/-! ### what the defs of fractions and polynomials are worth -/
open PySem
def f_greatest_divisor : FD := fun ds Q _ => ∃ a b : Int, ds = [.int a, .int b] ∧ Q (.dat (.int (Int.gcd a b)))
def f_fraction (C : Addr) : FD := fun ds Q X => ∃ t b : Int, ds = [.int t, .int b] ∧ (b = 0 → X (.ref C)) ∧ (b ≠ 0 → Q (.dat (rD (Rat.divInt t b))))
def f_plus (C : Addr) : FD := fun ds Q _ => ∃ p q : Rat, ds = [rD p, rD q] ∧ rz 4400 p ∧ rz 4400 q ∧ Q (.dat (rD (p + q)))
def f_minus (C : Addr) : FD := fun ds Q _ => ∃ p q : Rat, ds = [rD p, rD q] ∧ rz 4400 p ∧ rz 4400 q ∧ Q (.dat (rD (p + -q)))
def f_times (C : Addr) : FD := fun ds Q _ => ∃ p q : Rat, ds = [rD p, rD q] ∧ rz 4400 p ∧ rz 4400 q ∧ Q (.dat (rD (p * q)))
def f_poly : FD := fun ds Q _ => ∃ l : List Rat, (ds = [.lst (l.map rD)] ∨ ds = [.tup (l.map rD)]) ∧ Q (.dat (pD (trim l)))
def f_degree : FD := fun ds Q _ => ∃ l : List Rat, ds = [pD l] ∧ Q (.dat (.int ((l.length : Int) - 1)))
def f_at_power : FD := fun ds Q _ => ∃ (l : List Rat) (k : Nat), ds = [pD l, .int (k : Int)] ∧ Q (.dat (rD (co l k)))
def len2 (a b : List Rat) : Nat := max a.length b.length
def padd (a b : List Rat) : List Rat := trim ((List.range (len2 a b)).map fun k => co a k + co b k)
def psub (a b : List Rat) : List Rat := trim ((List.range (len2 a b)).map fun k => co a k + -co b k)
def pmul (a b : List Rat) : List Rat := trim ((List.range (a.length + b.length)).map (cv (co a) (co b)))
/-- all are a / D, tops at most N -/
def AllIn (D N : Nat) (l : List Rat) : Prop := ∀ r ∈ l, In D N r
def f_poly_plus (C : Addr) : FD := fun ds Q _ => ∃ a b : List Rat, ds = [pD a, pD b] ∧ a.length < 1000 ∧ b.length < 1000 ∧ (∀ r ∈ a, rz 4400 r) ∧ (∀ r ∈ b, rz 4400 r) ∧ Q (.dat (pD (padd a b)))
def f_poly_minus (C : Addr) : FD := fun ds Q _ => ∃ a b : List Rat, ds = [pD a, pD b] ∧ a.length < 1000 ∧ b.length < 1000 ∧ (∀ r ∈ a, rz 4400 r) ∧ (∀ r ∈ b, rz 4400 r) ∧ Q (.dat (pD (psub a b)))
def f_poly_times (C : Addr) : FD := fun ds Q _ => ∃ (a b : List Rat) (D E N M : Nat), ds = [pD a, pD b] ∧ a.length < 1000 ∧ b.length < 1000 ∧ D ≠ 0 ∧ E ≠ 0 ∧ AllIn D N a ∧ AllIn E M b ∧ D * E < 2 ^ 50000000 ∧ N < 2 ^ 20000000 ∧ M < 2 ^ 20000000 ∧ Q (.dat (pD (pmul a b)))
def f_over (C : Addr) : FD := fun ds Q X => ∃ p q : Rat, ds = [rD p, rD q] ∧ rz 4400 p ∧ rz 4400 q ∧ (q = 0 → X (.ref C)) ∧ (q ≠ 0 → Q (.dat (rD (p * q⁻¹))))
theorem len_over {C} : ∀ ds Qw Xw, f_over C ds Qw Xw → ds.length = 2 := by rintro ds Q X ⟨a, b, rfl, _⟩; rfl
theorem len_greatest_divisor : ∀ ds Qw Xw, f_greatest_divisor ds Qw Xw → ds.length = 2 := by rintro ds Q X ⟨a, b, rfl, _⟩; rfl
theorem len_fraction {C} : ∀ ds Qw Xw, f_fraction C ds Qw Xw → ds.length = 2 := by rintro ds Q X ⟨a, b, rfl, _⟩; rfl
theorem len_plus {C} : ∀ ds Qw Xw, f_plus C ds Qw Xw → ds.length = 2 := by rintro ds Q X ⟨a, b, rfl, _⟩; rfl
theorem len_minus {C} : ∀ ds Qw Xw, f_minus C ds Qw Xw → ds.length = 2 := by rintro ds Q X ⟨a, b, rfl, _⟩; rfl
theorem len_times {C} : ∀ ds Qw Xw, f_times C ds Qw Xw → ds.length = 2 := by rintro ds Q X ⟨a, b, rfl, _⟩; rfl
theorem len_poly : ∀ ds Qw Xw, f_poly ds Qw Xw → ds.length = 1 := by rintro ds Q X ⟨l, rfl | rfl, _⟩ <;> rfl
theorem len_degree : ∀ ds Qw Xw, f_degree ds Qw Xw → ds.length = 1 := by rintro ds Q X ⟨l, rfl, _⟩; rfl
theorem len_at_power : ∀ ds Qw Xw, f_at_power ds Qw Xw → ds.length = 2 := by rintro ds Q X ⟨l, k, rfl, _⟩; rfl
theorem len_poly_plus {C} : ∀ ds Qw Xw, f_poly_plus C ds Qw Xw → ds.length = 2 := by rintro ds Q X ⟨a, b, rfl, _⟩; rfl
theorem len_poly_minus {C} : ∀ ds Qw Xw, f_poly_minus C ds Qw Xw → ds.length = 2 := by rintro ds Q X ⟨a, b, rfl, _⟩; rfl
theorem len_poly_times {C} : ∀ ds Qw Xw, f_poly_times C ds Qw Xw → ds.length = 2 := by rintro ds Q X ⟨a, b, _, _, _, _, rfl, _⟩; rfl
end RL

set_option Elab.async false
set_option linter.all false
set_option maxRecDepth 100000
set_option maxHeartbeats 4000000
/-! RP: more plain Lean of fractions and polynomials, and of their data. -/
namespace RL
open PySem L2 DL
/-! ### numbers -/
theorem gcd_step (x y : Nat) : Int.fmod (x : Int) (y : Int) = ((x % y : Nat) : Int) := by
  rw [Int.fmod_eq_emod_of_nonneg _ (by omega)]; rfl
theorem gcd_swap (x y : Nat) : Nat.gcd y (x % y) = Nat.gcd x y := by
  rw [Nat.gcd_comm x y, Nat.gcd_rec y x, Nat.gcd_comm]
theorem gcd_le {t b : Int} (hb : b ≠ 0) : Int.gcd t b ≤ b.natAbs := Nat.le_of_dvd (by omega) (Nat.gcd_dvd_right _ _)
theorem gcd_ne {t b : Int} (hb : b ≠ 0) : Int.gcd t b ≠ 0 := by
  intro h
  have := (Int.gcd_eq_zero_iff.mp h).2
  exact hb this
theorem ne_split {ns : List Int} (h : ns ≠ []) : ∃ (l : List Int) (x : Int), ns = l ++ [x] := ⟨ns.dropLast, ns.getLast h, (List.dropLast_concat_getLast h).symm⟩
@[simp] theorem nl_rD (r : Rat) : (rD r).nolist = true := by simp [rD]
@[simp] theorem nl_rDs : ∀ l : List Rat, D.nolists (l.map rD) = true
  | [] => by simp
  | r :: l => by simp [nl_rDs l]
@[simp] theorem nl_pD (l : List Rat) : (pD l).nolist = true := by simp [pD]
@[simp ↓] theorem g_ix0 (r : Rat) (Q : Sl → Prop) : gIx (rD r) (.int 0) Q = Q (.dat (.int r.num)) := id rfl
@[simp ↓] theorem g_ix1 (r : Rat) (Q : Sl → Prop) : gIx (rD r) (.int 1) Q = Q (.dat (.int (r.den : Int))) := id rfl
theorem div_eq {p q : Rat} (h : q ≠ 0) : (p.den : Int) * q.num ≠ 0 ∧ Rat.divInt (p.num * q.den) (p.den * q.num) = p * q⁻¹ := by
  have hn : q.num ≠ 0 := fun z => h (Rat.num_eq_zero.mp z)
  refine ⟨Int.mul_ne_zero (den_ne p) hn, ?_⟩
  have e : q⁻¹ = Rat.divInt q.den q.num := by
    rw [Rat.inv_def]
  rw [e]
  conv => rhs; rw [← Rat.num_divInt_den p]
  rw [Rat.divInt_mul_divInt]
def CutW (l : List Rat) (d0 : D) (m : Nat) (ρ : En) : Prop := m ≤ l.length ∧ trim l = trim (l.take m) ∧ ρ = [some (.dat d0), some (.dat (.int (m : Int)))]
theorem cut_step (l : List Rat) {m : Nat} (hm : m ≤ l.length) (ht : trim l = trim (l.take m)) : (m = 0 ∧ [] = trim l) ∨ ∃ k, m = k + 1 ∧ ∃ r : Rat, atI (l.map rD) (k : Int) = some (rD r) ∧ (r = 0 → trim l = trim (l.take k)) ∧ (¬ r = 0 → l.take (k + 1) = trim l) := by
  cases m with
  | zero => left; refine ⟨rfl, ?_⟩; rw [ht]; simp [trim]
  | succ k =>
    right
    refine ⟨k, rfl, l[k], ?_, fun z => ?_, fun z => ?_⟩
    · have : k < l.length := by omega
      simp [atI, ixN, this]
    · have e : l.take (k + 1) = l.take k ++ [0] := by
        rw [List.take_succ_eq_append_getElem (by omega), z]
      rw [ht, e, trim_zero_end]
    · have e : l.take (k + 1) = l.take k ++ [l[k]] := List.take_succ_eq_append_getElem (by omega)
      rw [ht, e, trim_end z]
theorem cut_take0 (ds : List D) : cutD ds none (some 0) = [] := by
  have := cut_take (ds := ds) 0
  simpa using this
theorem cut_takeN (l : List Rat) (k : Nat) : cutD (l.map rD) none (some ((k : Int) + 1)) = (l.take (k + 1)).map rD := by
  have := cut_take (ds := l.map rD) (k + 1)
  rw [Int.natCast_add] at this
  simpa using this
@[simp ↓] theorem g_lenP (l : List Rat) (Q : Sl → Prop) : gLen [pD l] Q = Q (.dat (.int (l.length : Int))) := by simp [pD]
theorem co_mem {l : List Rat} {n : Nat} (h : ∀ r ∈ l, rz n r) (hn : 1 ≤ n) (k : Nat) : rz n (co l k) := by
  unfold co
  rw [List.getD_eq_getElem?_getD]
  cases e : l[k]? with
  | none =>
    have z : (2 : Nat) ^ 1 ≤ 2 ^ 60000000 := Nat.pow_le_pow_right (by decide) (by decide)
    refine ⟨sz_iff.mpr (Nat.two_pow_pos _), sz_iff.mpr ?_⟩
    exact Nat.lt_of_lt_of_le (by decide) z
  | some r => exact h r (List.mem_of_getElem? e)
theorem max_len (a b : List Rat) : (if a.length < b.length then (b.length : Int) else (a.length : Int)) = ((len2 a b : Nat) : Int) := by
  unfold len2; split <;> omega
theorem mul_pow {x y i j k : Nat} (hx : x < 2 ^ i) (hy : y < 2 ^ j) (hk : i + j ≤ k) : x * y < 2 ^ k := by
  have h1 : x * y < 2 ^ i * 2 ^ j := Nat.mul_lt_mul'' hx hy
  rw [← Nat.pow_add] at h1
  exact Nat.lt_of_lt_of_le h1 (Nat.pow_le_pow_right (by decide) hk)
theorem up_pow {x i k : Nat} (hx : x < 2 ^ i) (hk : i ≤ k) : x < 2 ^ k := Nat.lt_of_lt_of_le hx (Nat.pow_le_pow_right (by decide) hk)
theorem enum_get {l : List Rat} {i : Nat} {d : D} (h : (enumD (l.map rD))[i]? = some d) : d = .tup [.int (i : Nat), rD (co l i)] ∧ i < l.length := by
  unfold enumD at h
  have hi : i < l.length := by
    have := (List.getElem?_eq_some_iff.mp h).1
    simpa using this
  rw [List.getElem?_map, List.length_map, List.getElem?_range hi] at h
  have h := Option.some.inj h
  refine ⟨?_, hi⟩
  rw [← h]
  simp [co, hi]
theorem enum_len (l : List Rat) : (enumD (l.map rD)).length = l.length := by simp [enumD]
theorem co_set {f : List Rat} {i : Nat} {v : Rat} (hi : i < f.length) (m : Nat) : co (f.set i v) m = if m = i then v else co f m := by
  unfold co
  simp only [List.getD_eq_getElem?_getD]
  by_cases e : m = i
  · subst e; simp [hi]
  · rw [if_neg e, List.getElem?_set_ne (Ne.symm e)]
theorem co_rep (n m : Nat) : co (List.replicate n (0 : Rat)) m = 0 := by
  unfold co
  rw [List.getD_eq_getElem?_getD, List.getElem?_replicate]
  split <;> rfl
theorem co_big {f : List Rat} {m : Nat} (h : f.length ≤ m) : co f m = 0 := by
  unfold co
  rw [List.getD_eq_getElem?_getD, List.getElem?_eq_none h]; rfl
theorem at_co {f : List Rat} {m : Nat} (h : m < f.length) : atI (f.map rD) (m : Int) = some (rD (co f m)) ∧ ixN f.length (m : Int) = some m := by
  constructor
  · simp [atI, ixN, h, co]
  · simp [ixN, h]
def Wo (a b : List Rat) (n j : Nat) (ρ : En) : Prop := ∃ (f : List Rat) (o3 o4 o5 o6 : Option Sl), f.length = n ∧ (∀ m, m < n → co f m = cv (co (a.take j)) (co b) m) ∧ (free o3 ∧ free o4 ∧ free o5 ∧ free o6) ∧ ρ = [some (.dat (pD a)), some (.dat (pD b)), some (.own (f.map rD)), o3, o4, o5, o6]
def Wi (a b : List Rat) (n j k : Nat) (ρ : En) : Prop := ∃ (f : List Rat) (o5 o6 : Option Sl), f.length = n ∧ (∀ m, m < n → co f m = cv (co (a.take j)) (co b) m + (if j ≤ m ∧ m - j < k then co a j * co b (m - j) else 0)) ∧ (free o5 ∧ free o6) ∧
  ρ = [some (.dat (pD a)), some (.dat (pD b)), some (.own (f.map rD)), some (.dat (.int (j : Int))), some (.dat (rD (co a j))), o5, o6]
theorem take_co {a : List Rat} {j : Nat} (h : j < a.length) : a.take (j + 1) = a.take j ++ [co a j] := by
  rw [List.take_succ_eq_append_getElem h]
  simp [co, h]
/-- the list of the products' sums, cut -/
theorem conv_end {a b f : List Rat} {n : Nat} (hn : n ≤ a.length + b.length) (hn2 : a.length + b.length ≤ n + 1) (hl : f.length = n) (h : ∀ m, m < n → co f m = cv (co a) (co b) m) : trim f = pmul a b := by
  refine trim_ext fun k => ?_
  show co f k = ((List.range (a.length + b.length)).map (cv (co a) (co b))).getD k 0
  by_cases hk : k < n
  · rw [h k hk, List.getD_eq_getElem?_getD, List.getElem?_map, List.getElem?_range (by omega)]; rfl
  · rw [co_big (by omega), List.getD_eq_getElem?_getD, List.getElem?_map]
    by_cases hk2 : k < a.length + b.length
    · rw [List.getElem?_range hk2]
      show (0 : Rat) = cv (co a) (co b) k
      rw [cv_big _ _ _ (by omega)]
    · rw [List.getElem?_eq_none (by simp; omega)]; rfl
/-- behind a row -/
theorem row_end {a b f : List Rat} {n j : Nat} (hj : j < a.length) (h : ∀ m, m < n → co f m = cv (co (a.take j)) (co b) m + (if j ≤ m ∧ m - j < b.length then co a j * co b (m - j) else 0)) : ∀ m, m < n → co f m = cv (co (a.take (j + 1))) (co b) m := fun m hm => by
  rw [take_co hj, cv_snoc, h m hm]
  have e : (a.take j).length = j := by simp; omega
  rw [e]
  by_cases c : j ≤ m
  · by_cases c2 : m - j < b.length
    · rw [if_pos ⟨c, c2⟩, if_pos c]
    · rw [if_neg fun z => c2 z.2, if_pos c, co_big (f := b) (by omega), Rat.mul_zero]
  · rw [if_neg fun z => c z.1, if_neg c]
/-- a fraction of up to twelve figures -/
def small (r : Rat) : Prop := r.den ≤ 1000000000000 ∧ r.num.natAbs ≤ 1000000000000
theorem small_of {t b : Int} (hb : 1 ≤ b) (hb2 : b ≤ 1000000000000) (ht : t.natAbs ≤ 1000000000000) : small (Rat.divInt t b) := by
  obtain ⟨n, rfl⟩ : ∃ n : Nat, b = n := ⟨b.toNat, by omega⟩
  have := In.den (D := n) (N := t.natAbs) (by omega) ⟨t, rfl, Nat.le_refl _⟩
  exact ⟨by omega, by omega⟩
theorem trim_mem : ∀ {l : List Rat} {r : Rat}, r ∈ trim l → r ∈ l
  | [], r, h => h
  | a :: l, r, h => by
    unfold trim at h
    cases e : trim l with
    | nil =>
      rw [e] at h
      by_cases ha : a = 0
      · simp [ha] at h
      · simp [ha] at h; simp [h]
    | cons b m =>
      rw [e] at h
      have h : r ∈ a :: b :: m := h
      rcases List.mem_cons.mp h with z | z
      · simp [z]
      · exact List.mem_cons_of_mem _ (trim_mem (l := l) (by rw [e]; exact z))
theorem trim_len : ∀ l : List Rat, (trim l).length ≤ l.length
  | [] => Nat.le_refl _
  | a :: l => by
    have ih := trim_len l
    unfold trim
    cases e : trim l with
    | nil =>
      by_cases ha : a = 0 <;> simp [ha]
    | cons b m =>
      rw [e] at ih
      simp at ih ⊢
      omega
theorem smalls_in : ∀ {l : List Rat}, (∀ r ∈ l, small r) → ∃ D : Nat, D ≠ 0 ∧ D ≤ 1000000000000 ^ l.length ∧ AllIn D (1000000000000 * D) l
  | [], _ => ⟨1, by decide, by simp, fun r hr => by simp at hr⟩
  | r :: l, h => by
    obtain ⟨D, hD, hl, ha⟩ := smalls_in (l := l) fun x hx => h x (by simp [hx])
    have hr := h r (by simp)
    have hd : r.den ≠ 0 := by have := r.den_pos; omega
    refine ⟨D * r.den, Nat.mul_ne_zero hD hd, ?_, fun x hx => ?_⟩
    · rw [List.length_cons, Nat.pow_succ]
      exact Nat.mul_le_mul hl hr.1
    · rcases List.mem_cons.mp hx with rfl | hx
      · have := (In.self x).up D hD
        rw [Nat.mul_comm x.den D] at this
        refine this.mono ?_
        have h1 : x.num.natAbs * D ≤ 1000000000000 * D := Nat.mul_le_mul_right _ hr.2
        have h2 : 1000000000000 * D ≤ 1000000000000 * (D * x.den) := Nat.mul_le_mul_left _ (Nat.le_mul_of_pos_right _ (by omega))
        exact Nat.le_trans h1 h2
      · have := (ha x hx).up r.den hd
        refine this.mono ?_
        rw [Nat.mul_assoc]; exact Nat.le_refl _
def Wl (m i : Nat) (acc : List D) (ρ : En) : Prop := ∃ (l : List Rat) (ns' : List Int), l.length = i ∧ (∀ r ∈ l, small r) ∧ acc = l.map rD ∧ ns' ≠ [] ∧ ρ = [some (.inn (ns'.map .int)), some (.dat (.int (m : Int))), none]
theorem cut_at (a : List Rat) (k : Nat) : atI (cutD (a.map rD) (some (k : Int)) (some ((k : Int) + 1)) ++ [rD 0]) 0 = some (rD (co a k)) := by
  have e : ((k : Int) + 1) = ((k + 1 : Nat) : Int) := by omega
  unfold cutD
  rw [e, HT.sIx_nat, HT.sIx_nat, List.length_map]
  by_cases h : k < a.length
  · rw [Nat.min_eq_left (by omega), Nat.min_eq_left (by omega), Nat.add_sub_cancel_left, List.drop_eq_getElem_cons (by simpa using h)]
    simp [atI, ixN, co, h]
  · rw [List.drop_eq_nil_of_le (by simp; omega)]
    have : co a k = 0 := co_big (by omega)
    simp [atI, ixN, this]
theorem cut_len (ds : List D) (lo hi : Option Int) : (cutD ds lo hi).length ≤ ds.length := by
  unfold cutD
  simp; omega
theorem rD0 : D.tup [.int 0, .int 1] = rD 0 := rfl
def Wa (a b : List Rat) (s : Int) (sg : Rat → Rat) (j : Nat) (ρ : En) : Prop := ∃ o4 o5 o6 : Option Sl, (free o4 ∧ free o5 ∧ free o6) ∧ ρ = [some (.dat (pD a)), some (.dat (pD b)), some (.dat (.int s)), some (.own (((List.range j).map fun k => co a k + sg (co b k)).map rD)), o4, o5, o6]
theorem pl_rDs : ∀ l : List Rat, D.plains (l.map rD) = true
  | [] => by simp [D.plains]
  | r :: l => by simp [D.plains, pl_rDs l, rD, D.plain]
theorem dp_rDs : ∀ l : List Rat, D.deeps (l.map rD) ≤ 1
  | [] => by simp [D.deeps]
  | r :: l => by
    have := dp_rDs l
    simp [D.deeps, rD, D.deep]
    omega
theorem shp_pD (l : List Rat) : (pD l).shp = true := by
  have := dp_rDs l
  simp [D.shp, pD, D.plain, pl_rDs, D.deep]
  omega
theorem shp_lD (l : List Rat) : (D.lst (l.map rD)).shp = true := by
  have := dp_rDs l
  simp [D.shp, D.plain, pl_rDs, D.deep]
  omega
theorem get_rD {l : List Rat} {i : Nat} {d : D} (h : (l.map rD)[i]? = some d) : ∃ r ∈ l, d = rD r := by
  rw [List.getElem?_map] at h
  cases e : l[i]? with
  | none => rw [e] at h; cases h
  | some r => rw [e] at h; exact ⟨r, List.mem_of_getElem? e, (Option.some.inj h).symm⟩
@[simp] theorem ty_rD (r : Rat) : tyS (rD r) = some "tuple" := rfl
@[simp] theorem ty_pD (l : List Rat) : tyS (pD l) = some "tuple" := rfl
@[simp ↓] theorem g_lenR (r : Rat) (Q : Sl → Prop) : gLen [rD r] Q = Q (.dat (.int 2)) := id rfl
theorem made_trim {l : List Rat} (h : trim l = l) (z : Nat) : trim (l ++ List.replicate z 0) = l := by
  induction z with
  | zero => simpa using h
  | succ z ih => rw [List.replicate_succ', ← List.append_assoc, trim_zero_end, ih]
/-! ### sizes of sums and products -/
def bnd (n : Nat) (l : List Rat) : Prop := ∃ D N : Nat, D ≠ 0 ∧ AllIn D N l ∧ D < 2 ^ n ∧ N < 2 ^ n
theorem bnd.mono {n m : Nat} {l : List Rat} (h : bnd n l) (hm : n ≤ m) : bnd m l := by
  obtain ⟨D, N, h1, h2, h3, h4⟩ := h
  exact ⟨D, N, h1, h2, up_pow h3 hm, up_pow h4 hm⟩
theorem bnd.rz {n : Nat} {l : List Rat} (h : bnd n l) (hn : n ≤ 50000000) : ∀ r ∈ l, rz 4400 r := by
  obtain ⟨D, N, h1, h2, h3, h4⟩ := h
  exact fun r hr => rz_of h1 (h2 r hr) (up_pow h3 (Nat.le_trans hn (by decide))) (up_pow h4 (Nat.le_trans hn (by decide)))
theorem mem_padd {a b : List Rat} {f : Nat → Rat} {n : Nat} {r : Rat} (h : r ∈ trim ((List.range n).map f)) : ∃ k, r = f k := by
  obtain ⟨k, _, e⟩ := List.mem_map.mp (trim_mem h)
  exact ⟨k, e.symm⟩
theorem sum_lt {x y n m : Nat} (h : x < 2 ^ n) (h' : y < 2 ^ m) {k : Nat} (hn : n < k) (hm : m < k) : x + y < 2 ^ k := by
  have h1 := up_pow h (show n ≤ k - 1 by omega)
  have h2 := up_pow h' (show m ≤ k - 1 by omega)
  have e : 2 ^ k = 2 ^ (k - 1) * 2 := by rw [← Nat.pow_succ]; congr 1; omega
  rw [e]
  generalize 2 ^ (k - 1) = z at *
  omega
theorem bnd.two {n m : Nat} {a b : List Rat} (ha : bnd n a) (hb : bnd m b) (sg : Rat → Rat) (hs : ∀ (D N : Nat) (q : Rat), RL.In D N q → RL.In D N (sg q)) (c : Nat) : bnd (n + m + 1) (trim ((List.range c).map fun k => co a k + sg (co b k))) := by
  obtain ⟨D, N, h1, h2, h3, h4⟩ := ha
  obtain ⟨E, M, g1, g2, g3, g4⟩ := hb
  refine ⟨D * E, N * E + M * D, Nat.mul_ne_zero h1 g1, fun r hr => ?_, mul_pow h3 g3 (by omega), ?_⟩
  · obtain ⟨k, rfl⟩ := mem_padd (a := a) (b := b) hr
    have i1 := (co_in h2 k).up E g1
    have i2 := (hs _ _ _ (co_in g2 k)).up D h1
    rw [Nat.mul_comm E D] at i2
    exact i1.add (Nat.mul_ne_zero h1 g1) i2
  · exact sum_lt (mul_pow h4 g3 (Nat.le_refl _)) (mul_pow g4 h3 (Nat.le_refl _)) (by omega) (by omega)
theorem bnd.add {n m : Nat} {a b : List Rat} (ha : bnd n a) (hb : bnd m b) : bnd (n + m + 1) (padd a b) := ha.two hb id (fun _ _ _ h => h) _
theorem bnd.sub {n m : Nat} {a b : List Rat} (ha : bnd n a) (hb : bnd m b) : bnd (n + m + 1) (psub a b) := ha.two hb (fun q => -q) (fun _ _ _ h => h.neg) _
theorem bnd.mul {n m : Nat} {a b : List Rat} (ha : bnd n a) (hb : bnd m b) (hl : a.length < 1000) : bnd (n + m + 10) (pmul a b) := by
  obtain ⟨D, N, h1, h2, h3, h4⟩ := ha
  obtain ⟨E, M, g1, g2, g3, g4⟩ := hb
  refine ⟨D * E, a.length * (N * M), Nat.mul_ne_zero h1 g1, fun r hr => ?_, mul_pow h3 g3 (by omega), ?_⟩
  · obtain ⟨k, rfl⟩ := mem_padd (a := a) (b := b) hr
    exact cv_in h1 g1 (co_in g2) h2 k
  · exact mul_pow (i := 10) (by omega) (mul_pow h4 g4 (Nat.le_refl _)) (by omega)
theorem len_padd (a b : List Rat) : (padd a b).length ≤ len2 a b ∧ (psub a b).length ≤ len2 a b ∧ (pmul a b).length ≤ a.length + b.length := by
  refine ⟨?_, ?_, ?_⟩
  · have := trim_len ((List.range (len2 a b)).map fun k => co a k + co b k); simpa [padd] using this
  · have := trim_len ((List.range (len2 a b)).map fun k => co a k + -co b k); simpa [psub] using this
  · have := trim_len ((List.range (a.length + b.length)).map (cv (co a) (co b))); simpa [pmul] using this
/-! ### coefficients -/
theorem co_range (n : Nat) (f : Nat → Rat) (k : Nat) : co (trim ((List.range n).map f)) k = if k < n then f k else 0 := by
  show (trim _).getD k 0 = _
  rw [co_trim, List.getD_eq_getElem?_getD, List.getElem?_map]
  by_cases h : k < n
  · rw [List.getElem?_range h, if_pos h]; rfl
  · rw [List.getElem?_eq_none (by simp; omega), if_neg h]; rfl
theorem co_padd (a b : List Rat) : co (padd a b) = fun k => co a k + co b k := by
  funext k
  unfold padd
  rw [co_range]
  split
  · rfl
  · rename_i h
    unfold len2 at h
    rw [co_big (f := a) (by omega), co_big (f := b) (by omega), Rat.add_zero]
theorem co_psub (a b : List Rat) : co (psub a b) = fun k => co a k + -co b k := by
  funext k
  unfold psub
  rw [co_range]
  split
  · rfl
  · rename_i h
    unfold len2 at h
    rw [co_big (f := a) (by omega), co_big (f := b) (by omega)]; grind
theorem co_pmul (a b : List Rat) : co (pmul a b) = cv (co a) (co b) := by
  funext k
  unfold pmul
  rw [co_range]
  split
  · rfl
  · rw [cv_big _ _ _ (by omega)]
theorem eq_of_co {l l' : List Rat} (h : trim l = l) (h' : trim l' = l') (e : co l = co l') : l = l' := by
  rw [← h, ← h']
  exact trim_ext fun k => congrFun e k
theorem t_add (a b : List Rat) : trim (padd a b) = padd a b := trim_idem _
theorem t_sub (a b : List Rat) : trim (psub a b) = psub a b := trim_idem _
theorem t_mul (a b : List Rat) : trim (pmul a b) = pmul a b := trim_idem _
theorem law1 (a b c : List Rat) : pmul (padd a b) c = padd (pmul a c) (pmul b c) := by
  refine eq_of_co (t_mul ..) (t_add ..) ?_
  rw [co_pmul, co_padd, co_padd, co_pmul, co_pmul]
  funext k
  exact cv_addL ..
theorem law2 (a b c : List Rat) : pmul (pmul a b) c = pmul a (pmul b c) := by
  refine eq_of_co (t_mul ..) (t_mul ..) ?_
  rw [co_pmul, co_pmul, co_pmul, co_pmul, cv_assoc]
theorem law3 {a : List Rat} (b : List Rat) (h : trim a = a) : padd (psub a b) b = a := by
  refine eq_of_co (t_add ..) h ?_
  rw [co_padd, co_psub]
  funext k
  grind
theorem law4 {a : List Rat} (b : List Rat) (h : trim a = a) : psub (padd a b) b = a := by
  refine eq_of_co (t_sub ..) h ?_
  rw [co_psub, co_padd]
  funext k
  grind
theorem pt_ok {C : Addr} {a b : List Rat} {n m : Nat} (ha : bnd n a) (hb : bnd m b) (hn : n + m ≤ 20000000) (la : a.length < 1000) (lb : b.length < 1000) {Q : Sl → Prop} {X : Value → Prop} (h : Q (.dat (pD (pmul a b)))) : f_poly_times C [pD a, pD b] Q X := by
  obtain ⟨D, N, h1, h2, h3, h4⟩ := ha
  obtain ⟨E, M, g1, g2, g3, g4⟩ := hb
  exact ⟨a, b, D, E, N, M, rfl, la, lb, h1, g1, h2, g2, mul_pow h3 g3 (Nat.le_trans hn (by decide)), up_pow h4 (by omega), up_pow g4 (by omega), h⟩
theorem pp_ok {C : Addr} {a b : List Rat} {n m : Nat} (ha : bnd n a) (hb : bnd m b) (hn : n ≤ 50000000) (hm : m ≤ 50000000) (la : a.length < 1000) (lb : b.length < 1000) {Q : Sl → Prop} {X : Value → Prop} (h : Q (.dat (pD (padd a b)))) : f_poly_plus C [pD a, pD b] Q X :=
  ⟨a, b, rfl, la, lb, ha.rz hn, hb.rz hm, h⟩
theorem pm_ok {C : Addr} {a b : List Rat} {n m : Nat} (ha : bnd n a) (hb : bnd m b) (hn : n ≤ 50000000) (hm : m ≤ 50000000) (la : a.length < 1000) (lb : b.length < 1000) {Q : Sl → Prop} {X : Value → Prop} (h : Q (.dat (pD (psub a b)))) : f_poly_minus C [pD a, pD b] Q X :=
  ⟨a, b, rfl, la, lb, ha.rz hn, hb.rz hm, h⟩
def Wg (d1 : D) (i : Nat) (acc : List D) (ρ : En) : Prop := ∃ (l : List Rat) (ns' : List Int), l.length = i ∧ (∀ r ∈ l, RL.In 1 9 r) ∧ acc = l.map rD ∧ ns' ≠ [] ∧ ρ = [some (.inn (ns'.map .int)), some (.dat d1), none]
end RL
namespace RL
open PySem L2 DL
theorem eqb_nil (l : List Rat) : (pD l).eqb (.tup []) = l.isEmpty := by
  cases l with
  | nil => simp [pD, D.eqb, D.py, D.pys, PyData.eqv, PyData.eqvAll]
  | cons x l => simp [pD, D.eqb, D.py, D.pys, PyData.eqv, PyData.eqvAll]
theorem shp_nil : (D.tup []).shp = true := shp_pD []
theorem eq_nil (l : List Rat) (Q : Sl → Prop) : gEq (pD l) (.tup []) Q = Q (.dat (.bl l.isEmpty)) := by
  unfold gEq
  rw [eqb_nil, shp_pD, shp_nil]; simp
end RL

set_option Elab.async false
set_option linter.all false
set_option maxRecDepth 100000
set_option maxHeartbeats 4000000
/-! RD: quotients and rests of polynomials, and how great their numbers are. -/
namespace RL
/-! ### a / D, |r| at most B -/
def Ix (D B : Nat) (r : Rat) : Prop := In D (B * D) r
theorem Ix.zero {D B : Nat} : Ix D B 0 := In.zero
theorem Ix.add {D B C : Nat} (hD : D ≠ 0) {p q : Rat} (h : Ix D B p) (h' : Ix D C q) : Ix D (B + C) (p + q) := by
  unfold Ix
  rw [Nat.add_mul]
  exact In.add hD h h'
theorem Ix.mul {D E B C : Nat} {p q : Rat} (h : Ix D B p) (h' : Ix E C q) : Ix (D * E) (B * C) (p * q) := by
  have := In.mul h h'
  refine this.mono ?_
  rw [Nat.mul_mul_mul_comm]; exact Nat.le_refl _
theorem Ix.neg {D B : Nat} {p : Rat} (h : Ix D B p) : Ix D B (-p) := In.neg h
theorem Ix.mono {D B C : Nat} {p : Rat} (h : Ix D B p) (hc : B ≤ C) : Ix D C p := In.mono h (Nat.mul_le_mul_right _ hc)
theorem Ix.up {D E B : Nat} {p : Rat} (h : Ix D B p) (hE : E ≠ 0) (hd : D ∣ E) : Ix E B p := by
  obtain ⟨k, rfl⟩ := hd
  have hk : k ≠ 0 := by rintro rfl; simp at hE
  have := In.up h k hk
  refine this.mono ?_
  rw [Nat.mul_assoc]; exact Nat.le_refl _
theorem Ix.rz {D B n : Nat} {p : Rat} (h : Ix D B p) (hD : D ≠ 0) (h1 : D < 2 ^ 60000000) (h2 : B * D < 2 ^ 60000000) : rz n p := rz_of hD h h1 h2
def AllIx (D B : Nat) (l : List Rat) : Prop := ∀ r ∈ l, Ix D B r
theorem AllIx.co {D B : Nat} {l : List Rat} (h : AllIx D B l) (k : Nat) : Ix D B (co l k) := co_in h k
/-! ### one more coefficient -/
theorem cv_delta (c : Rat) (g : Nat → Rat) : ∀ (k n : Nat), cv (fun i => if i = k then c else 0) g n = if k ≤ n then c * g (n - k) else 0
  | 0, n => by rw [cv_one]; simp
  | k + 1, n => by
    have e : (fun i => if i = k + 1 then c else 0) = sh fun i => if i = k then c else 0 := by
      funext i
      cases i with
      | zero => simp [sh]
      | succ i => simp [sh]
    rw [e, cv_sh]
    cases n with
    | zero => simp [sh]
    | succ n =>
      show cv _ g n = _
      rw [cv_delta c g k n]
      simp [Nat.add_sub_add_right]
theorem cv_set (g : List Rat) (b : Nat → Rat) {k : Nat} (c : Rat) (hk : k < g.length) (h0 : co g k = 0) (n : Nat) : cv (co (g.set k c)) b n = cv (co g) b n + (if k ≤ n then c * b (n - k) else 0) := by
  rw [← cv_delta, ← cv_addL]
  congr 1
  funext i
  rw [co_set hk]
  by_cases e : i = k
  · subst e; rw [if_pos rfl, if_pos rfl, h0, Rat.zero_add]
  · rw [if_neg e, if_neg e, Rat.add_zero]
/-! ### what a division wants of the sizes -/
structure DivSz (a b : List Rat) (D0 B0 α E H : Nat) (M : Nat → Nat) : Prop where
  la : a.length ≤ 40
  ne : b ≠ []
  tr : trim b = b
  hD : D0 ≠ 0
  ia : AllIx D0 B0 a
  hM : ∀ i, M i ≠ 0
  sup : ∀ i j, M i * M j ∣ M (i + j)
  hα : α ≠ 0
  ln : (co b (b.length - 1)).num.natAbs ≤ α
  iv : Ix α H (co b (b.length - 1))⁻¹
  hj : ∀ j, j < b.length - 1 → Ix (M (b.length - 1 - j)) H (co b j * (co b (b.length - 1))⁻¹)
  hj2 : ∀ j, j < b.length - 1 → Ix (α * E) H (co b j * (co b (b.length - 1))⁻¹)
  hE : E ≠ 0
  ib : AllIx E H b
  h1 : 1 ≤ H
  big : D0 * M (a.length - b.length) * (α * E) < 2 ^ 20000000
  b1 : 1 ≤ B0
  bB : B0 < 2 ^ 10000000
  bH : H < 2 ^ 100000
theorem trim_last : ∀ {b : List Rat}, trim b = b → b ≠ [] → co b (b.length - 1) ≠ 0
  | [], _, h => absurd rfl h
  | a :: l, h, _ => by
    cases l with
    | nil =>
      unfold trim at h
      simp [trim] at h
      simpa [co] using h
    | cons x m =>
      have ih : trim (x :: m) = x :: m := by
        unfold trim at h
        cases e : trim (x :: m) with
        | nil =>
          rw [e] at h
          by_cases ha : a = 0 <;> simp [ha] at h
        | cons y n =>
          rw [e] at h
          exact (List.cons.inj h).2
      have := trim_last ih (by simp)
      simpa [co] using this
section
variable {a b : List Rat} {D0 B0 α E H : Nat} {M : Nat → Nat}
/-- all denominators -/
def DivSz.T (_ : DivSz a b D0 B0 α E H M) : Nat := D0 * M (a.length - b.length) * (α * E)
theorem DivSz.hT (s : DivSz a b D0 B0 α E H M) : s.T ≠ 0 := Nat.mul_ne_zero (Nat.mul_ne_zero s.hD (s.hM _)) (Nat.mul_ne_zero s.hα s.hE)
theorem DivSz.up (s : DivSz a b D0 B0 α E H M) {i j : Nat} (h : i ≤ j) : M i ∣ M j := by
  have := s.sup i (j - i)
  rw [Nat.add_sub_cancel' h] at this
  exact Nat.dvd_trans (Nat.dvd_mul_right _ _) this
/-- between two rows of the division: k the last row done -/
structure DivI (s : DivSz a b D0 B0 α E H M) (k : Nat) (f g : List Rat) : Prop where
  lf : f.length = a.length
  lg : g.length = a.length - b.length + 1
  eq : ∀ i, co f i + cv (co g) (co b) i = co a i
  top : ∀ i, k + (b.length - 1) ≤ i → co f i = 0
  low : ∀ i, i < k → co g i = 0
  s1 : ∀ i, b.length - 1 ≤ i → Ix (D0 * M (a.length - 1 - i)) (B0 * (1 + H) ^ (a.length - b.length + 1 - k)) (co f i)
  s2 : ∀ i, Ix s.T (B0 * (1 + H) ^ (a.length - b.length + 1 - k)) (co f i)
  s3 : ∀ i, Ix (D0 * M (a.length - b.length) * α) (B0 * (1 + H) ^ (a.length - b.length + 1 - k) * H) (co g i)
theorem DivI.start (s : DivSz a b D0 B0 α E H M) (hab : b.length ≤ a.length) : DivI s (a.length - b.length + 1) a (List.replicate (a.length - b.length + 1) 0) where
  lf := rfl
  lg := by simp
  eq := fun i => by
    have e : co (List.replicate (a.length - b.length + 1) (0 : Rat)) = fun _ => 0 := funext fun m => co_rep _ m
    rw [e]
    unfold cv
    have e2 : (fun i_1 => (0 : Rat) * co b (i - i_1)) = fun _ => (0 : Rat) := by funext j; exact Rat.zero_mul _
    rw [e2, sm_zero, Rat.add_zero]
  top := fun i hi => co_big (by have : b.length ≠ 0 := fun z => s.ne (List.length_eq_zero_iff.mp z); omega)
  low := fun i hi => co_rep _ _
  s1 := fun i hi => by
    rw [Nat.sub_self, Nat.pow_zero, Nat.mul_one]
    exact (s.ia.co i).up (Nat.mul_ne_zero s.hD (s.hM _)) (Nat.dvd_mul_right _ _)
  s2 := fun i => by
    rw [Nat.sub_self, Nat.pow_zero, Nat.mul_one]
    exact (s.ia.co i).up s.hT (by unfold DivSz.T; rw [Nat.mul_assoc]; exact Nat.dvd_mul_right _ _)
  s3 := fun i => by rw [co_rep]; exact Ix.zero
/-- the row k: the factor, and the rest's new numbers -/
theorem DivI.rho (s : DivSz a b D0 B0 α E H M) (hab : b.length ≤ a.length) {k : Nat} (hk : k ≤ a.length - b.length) {f g : List Rat} (h : DivI s (k + 1) f g) (c : Rat) (hc : c = co f (k + (b.length - 1)) * (co b (b.length - 1))⁻¹) :
    Ix (D0 * M (a.length - b.length) * α) (B0 * (1 + H) ^ (a.length - b.length + 1 - (k + 1)) * H) c ∧
    (∀ j, Ix s.T (B0 * (1 + H) ^ (a.length - b.length + 1 - (k + 1)) * H) (c * co b j)) ∧
    (∀ j, b.length - 1 ≤ k + j → Ix (D0 * M (a.length - 1 - (k + j))) (B0 * (1 + H) ^ (a.length - b.length + 1 - (k + 1)) * H) (c * co b j)) ∧
    c * co b (b.length - 1) = co f (k + (b.length - 1)) := by
  have hb : b.length ≠ 0 := fun z => s.ne (List.length_eq_zero_iff.mp z)
  have hl := trim_last s.tr s.ne
  have hx := h.s1 (k + (b.length - 1)) (by omega)
  have hw : a.length - 1 - (k + (b.length - 1)) = a.length - b.length - k := by omega
  rw [hw] at hx
  generalize B0 * (1 + H) ^ (a.length - b.length + 1 - (k + 1)) = B at *
  have hDM : ∀ n, D0 * M n ≠ 0 := fun n => Nat.mul_ne_zero s.hD (s.hM n)
  have hx' := hx.up (hDM (a.length - b.length)) (Nat.mul_dvd_mul_left _ (s.up (by omega)))
  have e4 : c * co b (b.length - 1) = co f (k + (b.length - 1)) := by
    rw [hc, Rat.mul_assoc, Rat.inv_mul_cancel _ hl, Rat.mul_one]
  have ecb : ∀ j, c * co b j = co f (k + (b.length - 1)) * (co b j * (co b (b.length - 1))⁻¹) := fun j => by rw [hc]; grind
  refine ⟨?_, fun j => ?_, fun j hj => ?_, e4⟩
  · rw [hc]; exact hx'.mul s.iv
  · by_cases h1 : j < b.length - 1
    · rw [ecb]
      exact hx'.mul (s.hj2 j h1)
    · by_cases h2 : j = b.length - 1
      · subst h2
        rw [e4]
        exact (hx'.up s.hT (by unfold DivSz.T; exact Nat.dvd_mul_right _ _)).mono (Nat.le_mul_of_pos_right _ s.h1)
      · rw [co_big (f := b) (by omega), Rat.mul_zero]; exact Ix.zero
  · by_cases h1 : j < b.length - 1
    · rw [ecb]
      have := hx.mul (s.hj j h1)
      refine this.up (hDM _) ?_
      rw [Nat.mul_assoc]
      refine Nat.mul_dvd_mul_left _ ?_
      have := s.sup (a.length - b.length - k) (b.length - 1 - j)
      have e : a.length - b.length - k + (b.length - 1 - j) = a.length - 1 - (k + j) := by omega
      rw [e] at this
      exact this
    · by_cases h2 : j = b.length - 1
      · subst h2
        rw [e4, hw]
        exact hx.mono (Nat.le_mul_of_pos_right _ s.h1)
      · rw [co_big (f := b) (by omega), Rat.mul_zero]; exact Ix.zero
theorem DivI.step (s : DivSz a b D0 B0 α E H M) (hab : b.length ≤ a.length) {k : Nat} (hk : k ≤ a.length - b.length) {f g f' : List Rat} (h : DivI s (k + 1) f g) (c : Rat) (hc : c = co f (k + (b.length - 1)) * (co b (b.length - 1))⁻¹)
    (hl : f'.length = f.length) (hf : ∀ i, co f' i = co f i + -(if k ≤ i then c * co b (i - k) else 0)) : DivI s k f' (g.set k c) := by
  have hb : b.length ≠ 0 := fun z => s.ne (List.length_eq_zero_iff.mp z)
  obtain ⟨r1, r2, r3, r4⟩ := h.rho s hab hk c hc
  have hgk : co g k = 0 := h.low k (by omega)
  have hkl : k < g.length := by rw [h.lg]; omega
  have epow : B0 * (1 + H) ^ (a.length - b.length + 1 - k) = B0 * (1 + H) ^ (a.length - b.length + 1 - (k + 1)) + B0 * (1 + H) ^ (a.length - b.length + 1 - (k + 1)) * H := by
    have : a.length - b.length + 1 - k = (a.length - b.length + 1 - (k + 1)) + 1 := by omega
    rw [this, Nat.pow_succ, ← Nat.mul_assoc, Nat.mul_add, Nat.mul_one]
  refine ⟨hl.trans h.lf, by rw [List.length_set]; exact h.lg, fun i => ?_, fun i hi => ?_, fun i hi => ?_, fun i hi => ?_, fun i => ?_, fun i => ?_⟩
  · rw [cv_set g _ c hkl hgk, hf, ← h.eq i]
    grind
  · rw [hf]
    by_cases e : i = k + (b.length - 1)
    · subst e
      rw [if_pos (by omega), Nat.add_sub_cancel_left, r4]
      grind
    · rw [h.top i (by omega), if_pos (by omega), co_big (f := b) (by omega), Rat.mul_zero]
      grind
  · rw [co_set hkl, if_neg (by omega)]
    exact h.low i (by omega)
  · rw [hf, epow]
    refine (h.s1 i hi).add (Nat.mul_ne_zero s.hD (s.hM _)) (Ix.neg ?_)
    split
    · rename_i hki
      have := r3 (i - k) (by omega)
      rw [Nat.add_sub_cancel' hki] at this
      exact this
    · exact Ix.zero
  · rw [hf, epow]
    refine (h.s2 i).add s.hT (Ix.neg ?_)
    split
    · exact r2 _
    · exact Ix.zero
  · rw [co_set hkl]
    have hle : B0 * (1 + H) ^ (a.length - b.length + 1 - (k + 1)) ≤ B0 * (1 + H) ^ (a.length - b.length + 1 - k) := by rw [epow]; omega
    split
    · exact r1.mono (Nat.mul_le_mul_right _ hle)
    · exact (h.s3 i).mono (Nat.mul_le_mul_right _ hle)
end
end RL

set_option Elab.async false
set_option linter.all false
set_option maxRecDepth 100000
set_option maxHeartbeats 4000000
/-! RE: the end of a division; it is the only one; sizes by the divisor's numbers. -/
namespace RL
structure QR (a b q r : List Rat) : Prop where
  eq : ∀ i, co a i = cv (co q) (co b) i + co r i
  tq : trim q = q
  tr : trim r = r
  lr : r.length < b.length
  lq : q.length ≤ a.length
  sz : ∃ Dq Eb B : Nat, Dq ≠ 0 ∧ Eb ≠ 0 ∧ AllIx Dq B q ∧ AllIx Eb B b ∧ AllIx (Dq * Eb) B r ∧ Dq * Eb < 2 ^ 20000000 ∧ B < 2 ^ 19000000
theorem co_take (f : List Rat) (n i : Nat) : co (f.take n) i = if i < n then co f i else 0 := by
  unfold co
  simp only [List.getD_eq_getElem?_getD, List.getElem?_take]
  split <;> rfl
theorem co_trim' (l : List Rat) : co (trim l) = co l := funext fun k => co_trim l k
theorem AllIx.of {D B : Nat} {l : List Rat} (h : ∀ i, Ix D B (RL.co l i)) : AllIx D B l := fun r hr => by
  obtain ⟨i, hi, e⟩ := List.getElem_of_mem hr
  have := h i
  have e2 : RL.co l i = r := by simp [RL.co, hi, e]
  rw [e2] at this; exact this
theorem AllIx.trim {D B : Nat} {l : List Rat} (h : AllIx D B l) : AllIx D B (RL.trim l) := fun r hr => h r (trim_mem hr)
theorem AllIx.mono {D B C : Nat} {l : List Rat} (h : AllIx D B l) (hc : B ≤ C) : AllIx D C l := fun r hr => (h r hr).mono hc
theorem pow_le_two {x n e : Nat} (h : x ≤ 2 ^ n) : x ^ e ≤ 2 ^ (n * e) := by rw [Nat.pow_mul]; exact Nat.pow_le_pow_left h e
section
variable {a b : List Rat} {D0 B0 α E H : Nat} {M : Nat → Nat}
theorem DivSz.bound (s : DivSz a b D0 B0 α E H M) (k : Nat) : B0 * (1 + H) ^ (a.length - b.length + 1 - k) * H < 2 ^ 19000000 := by
  have h1 : 1 + H ≤ 2 ^ 100000 := by have := s.bH; omega
  have h2 : (1 + H) ^ (a.length - b.length + 1 - k) < 2 ^ 4200000 := by
    refine Nat.lt_of_le_of_lt (pow_le_two h1) (Nat.pow_lt_pow_right (by decide) ?_)
    have := s.la
    omega
  exact mul_pow (mul_pow s.bB h2 (Nat.le_refl _)) s.bH (by decide)
theorem DivI.fin (s : DivSz a b D0 B0 α E H M) {f g : List Rat} (h : DivI s 0 f g) (hab : b.length ≤ a.length) : QR a b (trim g) (trim (f.take (b.length - 1))) := by
  have hb : b.length ≠ 0 := fun z => s.ne (List.length_eq_zero_iff.mp z)
  have e : ∀ i, co (f.take (b.length - 1)) i = co f i := fun i => by
    rw [co_take]
    split
    · rfl
    · rw [h.top i (by omega)]
  have hB := s.bound 0
  refine ⟨fun i => ?_, trim_idem _, trim_idem _, ?_, ?_, D0 * M (a.length - b.length) * α, E, _, Nat.mul_ne_zero (Nat.mul_ne_zero s.hD (s.hM _)) s.hα, s.hE, (AllIx.of h.s3).trim, s.ib.mono ?_, AllIx.trim (AllIx.of fun i => ?_), ?_, hB⟩
  · rw [co_trim', co_trim', e, ← h.eq i, Rat.add_comm]
  · have := trim_len (f.take (b.length - 1))
    rw [List.length_take] at this
    omega
  · have := trim_len g
    rw [h.lg] at this
    have := s.la
    have hne : a.length - b.length + 1 ≤ a.length := by omega
    omega
  · exact Nat.le_mul_of_pos_left _ (Nat.mul_pos s.b1 (Nat.pow_pos (by omega)))
  · rw [e]
    have := (h.s2 i).mono (Nat.le_mul_of_pos_right _ s.h1)
    unfold DivSz.T at this
    rw [← Nat.mul_assoc] at this
    exact this
  · have := s.big
    rw [← Nat.mul_assoc] at this
    exact this
theorem QR.short (s : DivSz a b D0 B0 α E H M) (hab : a.length < b.length) : QR a b [] (trim (a.take (b.length - 1))) := by
  have e : a.take (b.length - 1) = a := List.take_of_length_le (by omega)
  rw [e]
  have hm : a.length - b.length = 0 := by omega
  have hB := s.bound 0
  refine ⟨fun i => ?_, rfl, trim_idem _, ?_, by simp, D0 * M (a.length - b.length) * α, E, _, Nat.mul_ne_zero (Nat.mul_ne_zero s.hD (s.hM _)) s.hα, s.hE, fun r hr => by simp at hr, s.ib.mono ?_, AllIx.trim fun r hr => ?_, ?_, hB⟩
  · rw [cv_nil, co_trim', Rat.zero_add]
  · have := trim_len a
    omega
  · exact Nat.le_mul_of_pos_left _ (Nat.mul_pos s.b1 (Nat.pow_pos (by omega)))
  · refine ((s.ia r hr).up ?_ ?_).mono ?_
    · have := s.hT
      unfold DivSz.T at this
      rw [← Nat.mul_assoc] at this
      exact this
    · rw [Nat.mul_assoc, Nat.mul_assoc]; exact Nat.dvd_mul_right _ _
    · rw [Nat.mul_assoc]
      exact Nat.le_mul_of_pos_right _ (Nat.mul_pos (Nat.pow_pos (by omega)) s.h1)
  · have := s.big
    rw [← Nat.mul_assoc] at this
    exact this
end
/-! ### the only one -/
theorem cv_top (b : List Rat) (d : List Rat) (x : Rat) : cv (co (d ++ [x])) (co b) (d.length + (b.length - 1)) = x * co b (b.length - 1) := by
  rw [cv_snoc, if_pos (by omega), Nat.add_sub_cancel_left]
  by_cases hb : b.length = 0
  · have : b = [] := List.length_eq_zero_iff.mp hb
    subst this
    have e : cv (co d) (co []) (d.length + (([] : List Rat).length - 1)) = 0 := by
      unfold cv
      have : (fun i => co d i * co [] (d.length + (([] : List Rat).length - 1) - i)) = fun _ => (0 : Rat) := by funext i; simp [co, Rat.mul_zero]
      rw [this, sm_zero]
    rw [e, Rat.zero_add]
  · rw [cv_big _ _ _ (by omega), Rat.zero_add]
theorem div_only {b q q' r r' : List Rat} (hb : trim b = b) (hne : b ≠ []) (tq : trim q = q) (tq' : trim q' = q') (tr : trim r = r) (tr' : trim r' = r') (lr : r.length < b.length) (lr' : r'.length < b.length)
    (h : ∀ i, cv (co q) (co b) i + co r i = cv (co q') (co b) i + co r' i) : q = q' ∧ r = r' := by
  have key : psub q q' = [] := by
    by_cases hd : psub q q' = []
    · exact hd
    · exfalso
      have hl := trim_last (t_sub q q') hd
      have hbl := trim_last hb hne
      obtain ⟨d, x, e⟩ : ∃ d x, psub q q' = d ++ [x] := ⟨_, _, (List.dropLast_concat_getLast hd).symm⟩
      have ex : co (psub q q') ((psub q q').length - 1) = x := by rw [e]; simp [co]
      rw [ex] at hl
      have h1 := cv_top b d x
      rw [← e, co_psub] at h1
      have h2 : cv (fun k => co q k + -co q' k) (co b) (d.length + (b.length - 1)) = cv (co q) (co b) (d.length + (b.length - 1)) + -cv (co q') (co b) (d.length + (b.length - 1)) := by
        rw [cv_addL]
        congr 1
        have := cv_mulL (-1) (co q') (co b) (d.length + (b.length - 1))
        have e3 : (fun k => -co q' k) = fun k => -1 * co q' k := by funext k; grind
        rw [e3, this]; grind
      have h3 := h (d.length + (b.length - 1))
      rw [co_big (f := r) (by omega), co_big (f := r') (by omega), Rat.add_zero, Rat.add_zero] at h3
      rw [h2, h3] at h1
      have h4 : x * co b (b.length - 1) = 0 := by rw [← h1]; grind
      rcases Rat.mul_eq_zero.mp h4 with z | z
      · exact hl z
      · exact hbl z
  have eq : co q = co q' := by
    funext k
    have := congrFun (co_psub q q') k
    rw [key] at this
    have z : co [] k = 0 := by simp [co]
    rw [z] at this
    grind
  have hq := eq_of_co tq tq' eq
  refine ⟨hq, eq_of_co tr tr' ?_⟩
  subst hq
  funext i
  have := h i
  grind
/-! ### sizes -/
def pr (f : Nat → Nat) : Nat → Nat
  | 0 => 1
  | n + 1 => pr f n * f n
def ps (f : Nat → Nat) : Nat → Nat
  | 0 => 0
  | n + 1 => ps f n + f n
theorem pr_ne {f : Nat → Nat} (h : ∀ j, f j ≠ 0) : ∀ n, pr f n ≠ 0
  | 0 => by simp [pr]
  | n + 1 => Nat.mul_ne_zero (pr_ne h n) (h n)
theorem pr_mem {f : Nat → Nat} {j : Nat} : ∀ {n}, j < n → f j ∣ pr f n
  | n + 1, h => by
    by_cases e : j = n
    · subst e; exact Nat.dvd_mul_left _ _
    · exact Nat.dvd_trans (pr_mem (by omega)) (Nat.dvd_mul_right _ _)
theorem pr_mul_dvd {f g h : Nat → Nat} (e : ∀ j, f j * g j ∣ h j) : ∀ n, pr f n * pr g n ∣ pr h n
  | 0 => by simp [pr]
  | n + 1 => by
    show pr f n * f n * (pr g n * g n) ∣ pr h n * h n
    rw [Nat.mul_mul_mul_comm]
    exact Nat.mul_dvd_mul (pr_mul_dvd e n) (e n)
theorem pr_le {f : Nat → Nat} {S : Nat} {e : Nat → Nat} (h : ∀ j, f j ≤ S ^ e j) : ∀ n, pr f n ≤ S ^ ps e n
  | 0 => by simp [pr, ps]
  | n + 1 => by
    show pr f n * f n ≤ S ^ (ps e n + e n)
    rw [Nat.pow_add]
    exact Nat.mul_le_mul (pr_le h n) (h n)
theorem ps_one : ∀ n, ps (fun _ => 1) n = n
  | 0 => rfl
  | n + 1 => by show ps _ n + 1 = n + 1; rw [ps_one n]
theorem ps_mono {f g : Nat → Nat} (h : ∀ j, f j ≤ g j) : ∀ n, ps f n ≤ ps g n
  | 0 => Nat.le_refl _
  | n + 1 => Nat.add_le_add (ps_mono h n) (h n)
/-- how often the bottoms of a divisor of degree m come in, n degrees down -/
def hs (n m : Nat) : Nat := ps (fun j => n / (m - j)) m
theorem divsz {a b : List Rat} {D0 B0 Sa Sb : Nat} (la : a.length ≤ 40) (ne : b ≠ []) (tr : trim b = b) (hD : D0 ≠ 0) (ia : AllIx D0 B0 a) (b1 : 1 ≤ B0) (bB : B0 < 2 ^ 10000000) (sa : 1 ≤ Sa) (sb : 1 ≤ Sb) (bS : Sa * Sb < 2 ^ 100000)
    (hb : ∀ r ∈ b, r.den ≤ Sb ∧ r.num.natAbs ≤ Sa) (big : D0 * (Sa ^ (a.length - b.length + 1) * Sb ^ (hs (a.length - b.length) (b.length - 1) + b.length)) < 2 ^ 20000000) : ∃ α E M, DivSz a b D0 B0 α E (Sa * Sb) M := by
  have hb0 : b.length ≠ 0 := fun z => ne (List.length_eq_zero_iff.mp z)
  have hl := trim_last tr ne
  have hco : ∀ j, (co b j).den ≤ Sb ∧ (co b j).num.natAbs ≤ Sa := fun j => by
    by_cases h : j < b.length
    · have : co b j ∈ b := by simp [co, h]
      exact hb _ this
    · rw [co_big (by omega)]
      exact ⟨sb, by simp⟩
  have hde : ∀ j, (co b j).den ≠ 0 := fun j => by have := (co b j).den_pos; omega
  have hnum : (co b (b.length - 1)).num ≠ 0 := fun z => hl (Rat.num_eq_zero.mp z)
  obtain ⟨m, hm⟩ : ∃ m, b.length = m + 1 := ⟨b.length - 1, by omega⟩
  have hm1 : b.length - 1 = m := by omega
  let α := (co b m).num.natAbs
  have hα : α ≠ 0 := by have : (co b m).num ≠ 0 := by rw [← hm1]; exact hnum
                        show (co b m).num.natAbs ≠ 0; omega
  let M : Nat → Nat := fun i => α ^ i * pr (fun j => (co b j).den ^ (i / (m - j))) m
  let E := pr (fun j => (co b j).den) (m + 1)
  have hE : E ≠ 0 := pr_ne hde _
  have hM : ∀ i, M i ≠ 0 := fun i => Nat.mul_ne_zero (by have := Nat.pow_pos (n := i) (Nat.pos_of_ne_zero hα); omega) (pr_ne (fun j => by have := Nat.pow_pos (n := i / (m - j)) (co b j).den_pos; omega) _)
  have hiv : Ix α Sb (co b m)⁻¹ := by
    have hbd : (co b m).den ≤ Sb * α := Nat.le_trans (hco m).1 (Nat.le_mul_of_pos_right _ (Nat.pos_of_ne_zero hα))
    rcases Int.lt_or_le (co b m).num 0 with z | z
    · refine ⟨-(co b m).den, ?_, by rw [Int.natAbs_neg]; exact hbd⟩
      have e1 : (co b m).num = -((α : Nat) : Int) := by show _ = -(((co b m).num.natAbs : Nat) : Int); omega
      rw [Rat.inv_def, e1, Rat.divInt_neg']
    · refine ⟨(co b m).den, ?_, hbd⟩
      have e1 : (co b m).num = ((α : Nat) : Int) := by show _ = (((co b m).num.natAbs : Nat) : Int); omega
      rw [Rat.inv_def, e1]
  have hbj : ∀ j, Ix (co b j).den Sa (co b j) := fun j => In.mono (In.self _) (Nat.le_trans (hco j).2 (Nat.le_mul_of_pos_right _ (co b j).den_pos))
  have hh : ∀ j, Ix ((co b j).den * α) (Sa * Sb) (co b j * (co b m)⁻¹) := fun j => (hbj j).mul hiv
  have hαE : α * E ≠ 0 := Nat.mul_ne_zero hα hE
  refine ⟨α, E, M, ⟨la, ne, tr, hD, ia, hM, fun i j => ?_, hα, by rw [hm1]; exact Nat.le_refl _, ?_, fun j hj => ?_, fun j hj => ?_, hE, fun r hr => ?_, Nat.mul_pos sa sb, ?_, b1, bB, bS⟩⟩
  · show α ^ i * pr _ m * (α ^ j * pr _ m) ∣ α ^ (i + j) * pr _ m
    rw [Nat.mul_mul_mul_comm, Nat.pow_add]
    refine Nat.mul_dvd_mul_left _ (pr_mul_dvd (fun k => ?_) m)
    rw [← Nat.pow_add]
    exact Nat.pow_dvd_pow _ (Nat.div_add_div_le_add_div ..)
  · rw [hm1]; exact hiv.mono (Nat.le_mul_of_pos_left _ sa)
  · rw [hm1] at hj ⊢
    refine (hh j).up (hM _) ?_
    show (co b j).den * α ∣ α ^ (m - j) * pr _ m
    rw [Nat.mul_comm]
    refine Nat.mul_dvd_mul (Nat.dvd_trans (by rw [Nat.pow_one]; exact Nat.dvd_refl _) (Nat.pow_dvd_pow α (show 1 ≤ m - j by omega))) ?_
    have := pr_mem (f := fun k => (co b k).den ^ ((m - j) / (m - k))) hj
    simp only [Nat.div_self (show 0 < m - j by omega), Nat.pow_one] at this
    exact this
  · rw [hm1] at hj ⊢
    refine (hh j).up hαE ?_
    rw [Nat.mul_comm]
    exact Nat.mul_dvd_mul_left _ (pr_mem (f := fun k => (co b k).den) (by omega))
  · obtain ⟨i, hi, e⟩ := List.getElem_of_mem hr
    have e2 : co b i = r := by simp [co, hi, e]
    have := (hbj i).up hE (pr_mem (f := fun k => (co b k).den) (by omega))
    rw [e2] at this
    exact this.mono (Nat.le_mul_of_pos_right _ sb)
  · refine Nat.lt_of_le_of_lt ?_ big
    rw [Nat.mul_assoc]
    refine Nat.mul_le_mul_left _ ?_
    show α ^ (a.length - b.length) * pr _ m * (α * E) ≤ _
    rw [Nat.mul_mul_mul_comm, ← Nat.pow_succ]
    refine Nat.mul_le_mul (Nat.pow_le_pow_left (hco m).2 _) ?_
    rw [Nat.pow_add, hm1, hm]
    refine Nat.mul_le_mul (pr_le (fun j => Nat.pow_le_pow_left (hco j).1 _) m) ?_
    have := pr_le (f := fun k => (co b k).den) (S := Sb) (e := fun _ => 1) (fun j => by rw [Nat.pow_one]; exact (hco j).1) (m + 1)
    rw [ps_one] at this
    exact this
/-! ### as data -/
open DL PySem
def f_poly_over (C : Addr) : FD := fun ds Q X => ∃ a b : List Rat, ds = [pD a, pD b] ∧ (b = [] → X (.ref C)) ∧ (b ≠ [] → (∃ D0 B0 α E H M, DivSz a b D0 B0 α E H M) ∧ ∀ q r, QR a b q r → Q (.dat (.tup [pD q, pD r])))
theorem len_poly_over {C} : ∀ ds Qw Xw, f_poly_over C ds Qw Xw → ds.length = 2 := by rintro ds Q X ⟨a, b, rfl, _⟩; rfl
end RL
namespace RL
open PySem L2 DL
@[simp ↓] theorem g_lstP (l : List Rat) (Q : Sl → Prop) : gList [pD l] Q = Q (.own (l.map rD)) := id rfl
@[simp ↓] theorem g_tupP (l : List Rat) (Q : Sl → Prop) : gTuple [pD l] Q = Q (.dat (pD l)) := id rfl
@[simp ↓] theorem g_ixP (l : List Rat) (i : Int) (Q : Sl → Prop) : gIx (pD l) (.int i) Q = @WOp _ (atI (l.map rD) i) fun d => Q (.dat d) := id rfl
theorem at_last {l : List Rat} (h : l ≠ []) : atI (l.map rD) (-1) = some (rD (co l (l.length - 1))) := by
  obtain ⟨d, x, e⟩ : ∃ d x, l = d ++ [x] := ⟨_, _, (List.dropLast_concat_getLast h).symm⟩
  subst e
  simp [atI_last, co]
section
variable {a b : List Rat} {D0 B0 α E H : Nat} {M : Nat → Nat}
theorem DivSz.rzT (s : DivSz a b D0 B0 α E H M) {B : Nat} {p : Rat} (h : Ix s.T B p) (hB : B < 2 ^ 19000000) : rz 4400 p := h.rz s.hT (up_pow s.big (by decide)) (mul_pow hB s.big (by decide))
theorem DivSz.rzb (s : DivSz a b D0 B0 α E H M) (j : Nat) : rz 4400 (co b j) :=
  s.rzT ((s.ib.co j).up s.hT (by unfold DivSz.T; exact Nat.dvd_trans (Nat.dvd_mul_left _ _) (Nat.dvd_mul_left _ _))) (up_pow s.bH (by decide))
end
end RL

set_option Elab.async false
set_option linter.all false
set_option maxRecDepth 100000
set_option maxHeartbeats 4000000
/-! RV: values, growth, moved, stretched. -/
namespace RL
def ev : List Rat → Rat → Rat
  | [], _ => 0
  | a :: l, x => a + x * ev l x
/-! ### sums and products, number by number -/
def addl : List Rat → List Rat → List Rat
  | [], b => b
  | a :: l, [] => a :: l
  | a :: l, b :: m => (a + b) :: addl l m
def scal (s : Rat) (l : List Rat) : List Rat := l.map (s * ·)
theorem co_nil (k : Nat) : co [] k = 0 := by simp [co]
theorem co_c0 (a : Rat) (l : List Rat) : co (a :: l) 0 = a := by simp [co]
theorem co_cs (a : Rat) (l : List Rat) (k : Nat) : co (a :: l) (k + 1) = co l k := by simp [co]
theorem co_addl : ∀ (a b : List Rat) (k : Nat), co (addl a b) k = co a k + co b k
  | [], b, k => by rw [addl, co_nil, Rat.zero_add]
  | a :: l, [], k => by rw [addl, co_nil, Rat.add_zero]
  | a :: l, b :: m, 0 => by rw [addl, co_c0, co_c0, co_c0]
  | a :: l, b :: m, k + 1 => by rw [addl, co_cs, co_cs, co_cs]; exact co_addl l m k
theorem co_scal (s : Rat) : ∀ (l : List Rat) (k : Nat), co (scal s l) k = s * co l k
  | [], k => by simp [scal, co_nil, Rat.mul_zero]
  | a :: l, 0 => by simp [scal, co_c0]
  | a :: l, k + 1 => by
    have := co_scal s l k
    simp only [scal, List.map_cons, co_cs] at *
    exact this
theorem ev_addl (x : Rat) : ∀ a b : List Rat, ev (addl a b) x = ev a x + ev b x
  | [], b => by rw [addl, ev, Rat.zero_add]
  | a :: l, [] => by rw [addl, ev, ev, Rat.add_zero]
  | a :: l, b :: m => by rw [addl, ev, ev, ev, ev_addl x l m]; grind
theorem ev_scal (s x : Rat) : ∀ l : List Rat, ev (scal s l) x = s * ev l x
  | [] => by simp [scal, ev, Rat.mul_zero]
  | a :: l => by
    have := ev_scal s x l
    simp only [scal, List.map_cons, ev] at *
    rw [this]; grind
theorem ev_trim (x : Rat) : ∀ l : List Rat, ev (trim l) x = ev l x
  | [] => rfl
  | a :: l => by
    have ih := ev_trim x l
    unfold trim
    cases e : trim l with
    | nil =>
      rw [e] at ih
      by_cases ha : a = 0
      · simp [ha, ev] at *; rw [← ih]; grind
      · simp only [ha, if_false, ev] at *; rw [← ih]
    | cons b m =>
      rw [e] at ih
      show a + x * ev (b :: m) x = a + x * ev l x
      rw [ih]
theorem ev_ext {a b : List Rat} (h : ∀ k, co a k = co b k) (x : Rat) : ev a x = ev b x := by
  rw [← ev_trim x a, ← ev_trim x b, trim_ext h]
theorem ev_padd (a b : List Rat) (x : Rat) : ev (padd a b) x = ev a x + ev b x := by
  rw [← ev_addl]
  exact ev_ext (fun k => by rw [co_padd, co_addl]) x
/-- (x + u) f -/
def mlin (f : List Rat) (u : Rat) : List Rat := addl (scal u f) (0 :: f)
theorem ev_mlin (f : List Rat) (u x : Rat) : ev (mlin f u) x = (x + u) * ev f x := by
  rw [mlin, ev_addl, ev_scal, ev]; grind
theorem co_mlin (f : List Rat) (u : Rat) (k : Nat) : co (mlin f u) k = u * co f k + sh (co f) k := by
  rw [mlin, co_addl, co_scal]
  cases k with
  | zero => rw [co_c0]; rfl
  | succ k => rw [co_cs]; rfl
theorem cv_comm1 (u : Rat) : ∀ (f : List Rat) (k : Nat), cv (co f) (co [u, 1]) k = u * co f k + sh (co f) k
  | [], k => by
    rw [cv_nil]
    cases k <;> simp [co_nil, sh, Rat.mul_zero, Rat.add_zero]
  | a :: l, k => by
    rw [cv_cons]
    show a * co [u, 1] k + sh (cv (co l) (co [u, 1])) k = _
    cases k with
    | zero => simp only [sh, co_c0]; grind
    | succ k =>
      simp only [sh, co_cs]
      rw [cv_comm1 u l k]
      cases k with
      | zero => simp only [sh, co_c0, co_nil]; grind
      | succ k => simp only [sh, co_cs, co_nil]; grind
theorem co_lin (f : List Rat) (u : Rat) (k : Nat) : co (pmul f [u, 1]) k = co (mlin f u) k := by
  rw [co_pmul, cv_comm1, co_mlin]
theorem ev_lin (f : List Rat) (u x : Rat) : ev (pmul f [u, 1]) x = (x + u) * ev f x := by
  rw [← ev_mlin]
  exact ev_ext (co_lin f u) x
/-! ### moved -/
def mv (c : Rat) : List Rat → List Rat
  | [] => []
  | a :: l => padd (pmul (mv c l) [-c, 1]) (trim [a])
theorem trim_mv (c : Rat) : ∀ l : List Rat, trim (mv c l) = mv c l
  | [] => rfl
  | a :: l => t_add ..
theorem ev_mv (c x : Rat) : ∀ l : List Rat, ev (mv c l) x = ev l (x + -c)
  | [] => rfl
  | a :: l => by
    rw [mv, ev_padd, ev_lin, ev_mv c x l, ev_trim, ev, ev, ev]; grind
def mvl (c : Rat) : List Rat → List Rat
  | [] => []
  | a :: l => addl (mlin (mvl c l) (-c)) [a]
theorem co_mv (c : Rat) : ∀ (l : List Rat) (k : Nat), co (mv c l) k = co (mvl c l) k
  | [], k => rfl
  | a :: l, k => by
    rw [mv, mvl, co_padd, co_addl, co_trim']
    show co (pmul (mv c l) [-c, 1]) k + co [a] k = _
    rw [co_lin, co_mlin, co_mlin]
    have ih : co (mv c l) = co (mvl c l) := funext (co_mv c l)
    rw [ih]
theorem mvl_add (c : Rat) : ∀ (a b : List Rat) (k : Nat), co (mvl c (addl a b)) k = co (mvl c a) k + co (mvl c b) k
  | [], b, k => by rw [addl, mvl, co_nil, Rat.zero_add]
  | a :: l, [], k => by rw [addl, mvl, mvl, co_nil, Rat.add_zero]
  | a :: l, b :: m, k => by
    have ih : ∀ k, co (mvl c (addl l m)) k = co (mvl c l) k + co (mvl c m) k := mvl_add c l m
    rw [addl, mvl, mvl, mvl, co_addl, co_addl, co_addl, co_mlin, co_mlin, co_mlin, ih]
    cases k with
    | zero => simp only [sh, co_c0]; grind
    | succ k => simp only [sh, co_cs, co_nil]; rw [ih]; grind
theorem mvl_scal (c s : Rat) : ∀ (a : List Rat) (k : Nat), co (mvl c (scal s a)) k = s * co (mvl c a) k
  | [], k => by simp [scal, mvl, co_nil, Rat.mul_zero]
  | a :: l, k => by
    have ih : ∀ k, co (mvl c (scal s l)) k = s * co (mvl c l) k := mvl_scal c s l
    have e : scal s (a :: l) = (s * a) :: scal s l := rfl
    rw [e, mvl, mvl, co_addl, co_addl, co_mlin, co_mlin, ih]
    cases k with
    | zero => simp only [sh, co_c0]; grind
    | succ k => simp only [sh, co_cs, co_nil]; rw [ih]; grind
theorem mvl_trim (c : Rat) : ∀ (l : List Rat) (k : Nat), co (mvl c (trim l)) k = co (mvl c l) k
  | [], k => rfl
  | a :: l, k => by
    have ih : ∀ k, co (mvl c (trim l)) k = co (mvl c l) k := mvl_trim c l
    unfold trim
    cases e : trim l with
    | nil =>
      rw [e] at ih
      have ih' : ∀ k, co (mvl c l) k = 0 := fun k => by rw [← ih k, mvl, co_nil]
      have r : co (mvl c (a :: l)) k = co [a] k := by
        rw [mvl, co_addl, co_mlin, ih']
        cases k with
        | zero => simp only [sh]; grind
        | succ k => simp only [sh]; rw [ih']; grind
      rw [r]
      by_cases ha : a = 0
      · simp only [ha, if_true]
        rw [mvl, co_nil]
        cases k with
        | zero => rw [co_c0]
        | succ k => rw [co_cs, co_nil]
      · simp only [ha, if_false]
        rw [mvl, mvl, co_addl, co_mlin, co_nil]
        cases k with
        | zero => simp only [sh]; grind
        | succ k => simp only [sh, co_nil]; grind
    | cons b m =>
      rw [e] at ih
      show co (addl (mlin (mvl c (b :: m)) (-c)) [a]) k = co (addl (mlin (mvl c l) (-c)) [a]) k
      rw [co_addl, co_addl, co_mlin, co_mlin, ih]
      cases k with
      | zero => rfl
      | succ k => simp only [sh]; rw [ih]
theorem mvl_ext {c : Rat} {a b : List Rat} (h : ∀ k, co a k = co b k) (k : Nat) : co (mvl c a) k = co (mvl c b) k := by
  rw [← mvl_trim c a, ← mvl_trim c b, trim_ext h]
theorem mvl_back (c : Rat) : ∀ (l : List Rat) (k : Nat), co (mvl (-c) (mvl c l)) k = co l k
  | [], k => rfl
  | a :: l, k => by
    have ih : ∀ k, co (mvl (-c) (mvl c l)) k = co l k := mvl_back c l
    have e0 : ∀ k, co (mvl (-c) [a]) k = co [a] k := fun k => by
      rw [mvl, mvl, co_addl, co_mlin, co_nil]
      cases k with
      | zero => simp only [sh]; grind
      | succ k => simp only [sh, co_nil]; grind
    have e1 : ∀ k, co (mvl (-c) (0 :: mvl c l)) k = c * co l k + sh (co l) k := fun k => by
      rw [mvl, co_addl, co_mlin, ih]
      cases k with
      | zero => simp only [sh, co_c0]; grind
      | succ k => simp only [sh, co_cs, co_nil]; rw [ih]; grind
    rw [mvl, mvl_add, e0, mlin, mvl_add, mvl_scal, ih, e1]
    cases k with
    | zero => simp only [sh, co_c0]; grind
    | succ k => simp only [sh, co_cs, co_nil]; grind
theorem mv_back {c : Rat} {l : List Rat} (h : trim l = l) : mv (-c) (mv c l) = l := by
  refine eq_of_co (trim_mv ..) h ?_
  funext k
  rw [co_mv, mvl_ext (co_mv c l), mvl_back]
theorem mvl_top (c : Rat) : ∀ (l : List Rat), (∀ k, l.length ≤ k → co (mvl c l) k = 0) ∧ (l ≠ [] → co (mvl c l) (l.length - 1) = co l (l.length - 1))
  | [] => ⟨fun k _ => co_nil k, fun h => absurd rfl h⟩
  | a :: l => by
    obtain ⟨h1, h2⟩ := mvl_top c l
    refine ⟨fun k hk => ?_, fun _ => ?_⟩
    · simp only [List.length_cons] at hk
      obtain ⟨j, rfl⟩ : ∃ j, k = j + 1 := ⟨k - 1, by omega⟩
      rw [mvl, co_addl, co_mlin, h1 _ (by omega), co_cs, co_nil]
      simp only [sh]
      rw [h1 _ (by omega)]; grind
    · cases l with
      | nil =>
        show co (mvl c [a]) 0 = co [a] 0
        rw [mvl, mvl, co_addl, co_mlin, co_nil]
        simp only [sh]; grind
      | cons b m =>
        have h2 := h2 (by simp)
        simp only [List.length_cons, Nat.add_sub_cancel] at h2 ⊢
        rw [mvl, co_addl, co_mlin, h1 (m.length + 1) (by simp), co_cs, co_nil, co_cs]
        simp only [sh]
        rw [h2]; grind
theorem len_of {l : List Rat} {n : Nat} (h : trim l = l) (h1 : ∀ k, n + 1 ≤ k → co l k = 0) (h2 : co l n ≠ 0) : l.length = n + 1 := by
  have hne : l ≠ [] := by rintro rfl; exact h2 (co_nil _)
  have h3 := trim_last h hne
  have : l.length ≠ 0 := fun z => hne (List.length_eq_zero_iff.mp z)
  rcases Nat.lt_trichotomy l.length (n + 1) with z | z | z
  · exact absurd (co_big (by omega)) h2
  · exact z
  · exact absurd (h1 _ (by omega)) h3
theorem mv_len {c : Rat} {l : List Rat} (h : trim l = l) : (mv c l).length = l.length ∧ co (mv c l) (l.length - 1) = co l (l.length - 1) := by
  by_cases hl : l = []
  · subst hl; exact ⟨rfl, rfl⟩
  · obtain ⟨h1, h2⟩ := mvl_top c l
    have hz : l.length ≠ 0 := fun z => hl (List.length_eq_zero_iff.mp z)
    have h2 := h2 hl
    rw [← co_mv] at h2
    refine ⟨?_, h2⟩
    have := len_of (n := l.length - 1) (trim_mv c l) (fun k hk => by rw [co_mv]; exact h1 k (by omega)) (by rw [h2]; exact trim_last h hl)
    omega
/-! ### how it grows -/
def gr (l : List Rat) : List Rat := (List.range (l.length - 1)).map fun k => co l (k + 1) * ((k + 1 : Nat) : Rat)
theorem co_map (n : Nat) (f : Nat → Rat) (k : Nat) : co ((List.range n).map f) k = if k < n then f k else 0 := by
  unfold co
  rw [List.getD_eq_getElem?_getD, List.getElem?_map]
  by_cases h : k < n
  · rw [List.getElem?_range h, if_pos h]; rfl
  · rw [List.getElem?_eq_none (by simp; omega), if_neg h]; rfl
def dv (f : Nat → Rat) (k : Nat) : Rat := f (k + 1) * ((k + 1 : Nat) : Rat)
theorem co_gr (l : List Rat) : co (gr l) = dv (co l) := by
  funext k
  unfold gr dv
  rw [co_map]
  split
  · rfl
  · rw [co_big (f := l) (by omega), Rat.zero_mul]
theorem trim_of_last {l : List Rat} (h : l ≠ [] → co l (l.length - 1) ≠ 0) : trim l = l := by
  by_cases hl : l = []
  · subst hl; rfl
  · obtain ⟨d, x, e⟩ : ∃ d x, l = d ++ [x] := ⟨_, _, (List.dropLast_concat_getLast hl).symm⟩
    have := h hl
    rw [e] at this ⊢
    refine trim_end ?_ d
    have e2 : co (d ++ [x]) ((d ++ [x]).length - 1) = x := by simp [co]
    rw [e2] at this; exact this
theorem trim_gr {l : List Rat} (h : trim l = l) : trim (gr l) = gr l := by
  refine trim_of_last fun hl => ?_
  have e : (gr l).length = l.length - 1 := by simp [gr]
  have h0 : (gr l).length ≠ 0 := fun z => hl (List.length_eq_zero_iff.mp z)
  have hne : l ≠ [] := by rintro rfl; exact h0 rfl
  rw [co_gr, e]
  unfold dv
  have e2 : l.length - 1 - 1 + 1 = l.length - 1 := by omega
  rw [e2]
  intro z
  rcases Rat.mul_eq_zero.mp z with z | z
  · exact trim_last h hne z
  · have : ((l.length - 1 : Nat) : Rat) ≠ 0 := by
      intro q
      have q2 : ((l.length - 1 : Nat) : Rat) = ((0 : Nat) : Rat) := q
      have := Rat.natCast_inj.mp q2
      omega
    exact this z
theorem dv_sh (f : Nat → Rat) (k : Nat) : dv (sh f) k = f k + sh (dv f) k := by
  cases k with
  | zero => simp only [dv, sh]; grind
  | succ k =>
    simp only [dv, sh]
    have : ((k + 1 + 1 : Nat) : Rat) = ((k + 1 : Nat) : Rat) + 1 := by rw [Rat.natCast_add]; rfl
    rw [this]; grind
theorem sh_add (f g : Nat → Rat) (k : Nat) : sh (fun i => f i + g i) k = sh f k + sh g k := by
  cases k with
  | zero => simp only [sh]; grind
  | succ k => rfl
theorem dv_cv (g : Nat → Rat) : ∀ (a : List Rat) (k : Nat), dv (cv (co a) g) k = cv (dv (co a)) g k + cv (co a) (dv g) k
  | [], k => by
    have e : dv (co []) = co [] := by funext k; simp only [dv, co_nil]; grind
    rw [e, cv_nil, cv_nil]
    simp only [dv]; grind
  | x :: a, k => by
    have ih : dv (cv (co a) g) = fun k => cv (dv (co a)) g k + cv (co a) (dv g) k := funext (dv_cv g a)
    have e1 : dv (co (x :: a)) = fun k => co a k + sh (dv (co a)) k := by
      funext k
      rw [← dv_sh]
      simp only [dv, co_cs, sh]
    rw [e1, cv_addL, cv_sh, cv_cons, cv_cons]
    show (x * g (k + 1) + cv (co a) g k) * ((k + 1 : Nat) : Rat) = _
    have e2 : cv (co a) g k * ((k + 1 : Nat) : Rat) = cv (co a) g k + sh (dv (cv (co a) g)) k := by
      rw [← dv_sh]; rfl
    rw [ih, sh_add] at e2
    show _ = cv (co a) g k + sh (cv (dv (co a)) g) k + (x * dv g k + sh (cv (co a) (dv g)) k)
    simp only [dv] at *
    grind
theorem gr_mul {a b : List Rat} (ha : trim a = a) (hb : trim b = b) : gr (pmul a b) = padd (pmul (gr a) b) (pmul a (gr b)) := by
  refine eq_of_co (trim_gr (t_mul ..)) (t_add ..) ?_
  rw [co_gr, co_pmul, co_padd, co_pmul, co_pmul, co_gr, co_gr]
  funext k
  exact dv_cv _ _ _
/-! ### stretched -/
def st (c : Rat) (l : List Rat) : List Rat := (List.range l.length).map fun k => co l k * c ^ (l.length - 1 - k)
theorem ev_take (l : List Rat) (x : Rat) {j : Nat} (h : j < l.length) : ev (l.take (j + 1)) x = ev (l.take j) x + co l j * x ^ j := by
  induction l generalizing j with
  | nil => simp at h
  | cons a l ih =>
    cases j with
    | zero => simp [ev, co_c0]; grind
    | succ j =>
      simp only [List.take_succ_cons, ev, co_cs]
      rw [ih (by simpa using h), Rat.pow_succ]; grind
theorem ev_sum (x : Rat) : ∀ (n : Nat) (l : List Rat), l.length ≤ n → ev l x = ((List.range n).map fun k => co l k * x ^ k).sum
  | n, l, h => by
    have key : ∀ j, ev (l.take j) x = ((List.range j).map fun k => co l k * x ^ k).sum := by
      intro j
      induction j with
      | zero => simp [ev]
      | succ j ih =>
        rw [List.range_succ, List.map_append, List.sum_append, ← ih]
        by_cases hj : j < l.length
        · rw [ev_take l x hj]; simp; grind
        · rw [List.take_of_length_le (by omega), List.take_of_length_le (by omega)]
          simp only [List.map_cons, List.map_nil, List.sum_cons, List.sum_nil]
          rw [co_big (f := l) (by omega)]; grind
    rw [← key n, List.take_of_length_le h]
theorem st_len (c : Rat) (l : List Rat) : (st c l).length = l.length := by simp [st]
theorem co_st (c : Rat) (l : List Rat) (k : Nat) : co (st c l) k = co l k * c ^ (l.length - 1 - k) := by
  unfold st
  rw [co_map]
  split
  · rfl
  · rw [co_big (f := l) (by omega), Rat.zero_mul]
theorem rat_pow_ne {c : Rat} (h : c ≠ 0) : ∀ n : Nat, c ^ n ≠ 0
  | 0 => by rw [Rat.pow_zero]; decide
  | n + 1 => by
    rw [Rat.pow_succ]
    intro z
    rcases Rat.mul_eq_zero.mp z with z | z
    · exact rat_pow_ne h n z
    · exact h z
theorem mul_pow' (a b : Rat) : ∀ n : Nat, (a * b) ^ n = a ^ n * b ^ n
  | 0 => by rw [Rat.pow_zero, Rat.pow_zero, Rat.pow_zero]; grind
  | n + 1 => by rw [Rat.pow_succ, Rat.pow_succ, Rat.pow_succ, mul_pow' a b n]; grind
theorem pow_one' (n : Nat) : (1 : Rat) ^ n = 1 := by
  induction n with
  | zero => rw [Rat.pow_zero]
  | succ n ih => rw [Rat.pow_succ, ih]; grind
theorem rpow_add (a : Rat) (m : Nat) : ∀ n : Nat, a ^ (m + n) = a ^ m * a ^ n
  | 0 => by rw [Rat.pow_zero, Nat.add_zero]; grind
  | n + 1 => by rw [← Nat.add_assoc, Rat.pow_succ, Rat.pow_succ, rpow_add a m n]; grind
theorem st_back {c : Rat} (hc : c ≠ 0) (l : List Rat) : st c⁻¹ (st c l) = l := by
  apply List.ext_getElem (by rw [st_len, st_len])
  intro k h1 h2
  have e : ∀ (m : List Rat) (h : k < m.length), m[k] = co m k := fun m h => by simp [co, h]
  rw [e _ h1, e _ h2, co_st, co_st, st_len, Rat.mul_assoc, ← mul_pow', Rat.mul_inv_cancel _ hc, pow_one', Rat.mul_one]
theorem ev_st {c : Rat} (hc : c ≠ 0) (l : List Rat) (x : Rat) : ev (st c l) (x * c) = c ^ (l.length - 1) * ev l x := by
  rw [ev_sum _ l.length (st c l) (by rw [st_len]; exact Nat.le_refl _), ev_sum _ l.length l (Nat.le_refl _)]
  have key : ∀ j, j ≤ l.length → ((List.range j).map fun k => co (st c l) k * (x * c) ^ k).sum = c ^ (l.length - 1) * ((List.range j).map fun k => co l k * x ^ k).sum := by
    intro j
    induction j with
    | zero => intro _; simp [Rat.mul_zero]
    | succ j ih =>
      intro hj
      rw [List.range_succ, List.map_append, List.map_append, List.sum_append, List.sum_append, ih (by omega)]
      have e : co (st c l) j * (x * c) ^ j = c ^ (l.length - 1) * (co l j * x ^ j) := by
        rw [co_st, mul_pow']
        have : c ^ (l.length - 1) = c ^ (l.length - 1 - j) * c ^ j := by rw [← rpow_add]; congr 1; omega
        rw [this]; grind
      simp only [List.map_cons, List.map_nil, List.sum_cons, List.sum_nil, e]
      grind
  exact key _ (Nat.le_refl _)
end RL
namespace RL
open PySem L2 DL
/-! ### sizes, number by number -/
def hz (n : Nat) (r : Rat) : Prop := r.num.natAbs < 2 ^ n ∧ r.den < 2 ^ n
theorem hz_of {D N n : Nat} (hD : D ≠ 0) {r : Rat} (h : In D N r) (h1 : D < 2 ^ n) (h2 : N < 2 ^ n) : hz n r :=
  have g := h.den hD
  ⟨Nat.lt_of_le_of_lt g.2 h2, Nat.lt_of_le_of_lt g.1 h1⟩
theorem hz.mono {n m : Nat} {r : Rat} (h : hz n r) (hm : n ≤ m) : hz m r := ⟨up_pow h.1 hm, up_pow h.2 hm⟩
theorem den0 (r : Rat) : r.den ≠ 0 := by have := r.den_pos; omega
theorem hz.add {n m : Nat} {p q : Rat} (h : hz n p) (h' : hz m q) : hz (n + m + 1) (p + q) := by
  have i1 := (In.self p).up q.den (den0 q)
  have i2 := (In.self q).up p.den (den0 p)
  rw [Nat.mul_comm q.den p.den] at i2
  exact hz_of (Nat.mul_ne_zero (den0 p) (den0 q)) (i1.add (Nat.mul_ne_zero (den0 p) (den0 q)) i2) (mul_pow h.2 h'.2 (by omega)) (sum_lt (mul_pow h.1 h'.2 (Nat.le_refl _)) (mul_pow h'.1 h.2 (Nat.le_refl _)) (by omega) (by omega))
theorem hz.mul {n m : Nat} {p q : Rat} (h : hz n p) (h' : hz m q) : hz (n + m) (p * q) :=
  hz_of (Nat.mul_ne_zero (den0 p) (den0 q)) ((In.self p).mul (In.self q)) (mul_pow h.2 h'.2 (Nat.le_refl _)) (mul_pow h.1 h'.1 (Nat.le_refl _))
theorem hz.neg {n : Nat} {p : Rat} (h : hz n p) : hz n (-p) := by
  unfold hz; rw [Rat.neg_num, Rat.neg_den, Int.natAbs_neg]; exact h
theorem hz.rz {n k : Nat} {p : Rat} (h : hz n p) (hn : n ≤ 60000000) : rz k p := rz_of (den0 p) (In.self p) (up_pow h.2 hn) (up_pow h.1 hn)
theorem hz0 : hz 1 0 := by constructor <;> decide
theorem hz1 : hz 1 1 := by constructor <;> decide
theorem hz_one {n : Nat} {p : Rat} (h : hz n p) : 1 ≤ n := by
  cases n with
  | zero => have := h.2; have := p.den_pos; simp at *; omega
  | succ n => omega
theorem hz.pow {n : Nat} {x : Rat} (h : hz n x) : ∀ k : Nat, hz (n * k + 1) (x ^ k)
  | 0 => by rw [Rat.pow_zero]; exact hz1
  | k + 1 => by
    rw [Rat.pow_succ]
    exact ((hz.pow h k).mul h).mono (by rw [Nat.mul_add]; omega)
theorem hz_nat {n k : Nat} (h : k < 2 ^ n) (hn : 1 ≤ n) : hz n ((k : Nat) : Rat) := by
  have : (2 : Nat) ^ 1 ≤ 2 ^ n := Nat.pow_le_pow_right (by decide) hn
  constructor
  · rw [Rat.num_natCast]; simpa using h
  · rw [Rat.den_natCast]; omega
theorem bnd.hz {n : Nat} {l : List Rat} (h : bnd n l) (k : Nat) : hz n (co l k) := by
  obtain ⟨D, N, h1, h2, h3, h4⟩ := h
  exact hz_of h1 (co_in h2 k) h3 h4
theorem hz_bnd {n : Nat} (hn : 1 ≤ n) : ∀ {l : List Rat}, (∀ r ∈ l, RL.hz n r) → bnd (n * (l.length + 1) + 1) l := by
  have key : ∀ {l : List Rat}, (∀ r ∈ l, RL.hz n r) → ∃ D, D ≠ 0 ∧ D ≤ 2 ^ (n * l.length) ∧ AllIn D (2 ^ n * D) l := by
    intro l
    induction l with
    | nil => intro _; exact ⟨1, by decide, by simp, fun r hr => by simp at hr⟩
    | cons r l ih =>
      intro h
      obtain ⟨D, hD, hl, ha⟩ := ih fun x hx => h x (by simp [hx])
      have hr := h r (by simp)
      refine ⟨D * r.den, Nat.mul_ne_zero hD (den0 r), ?_, fun x hx => ?_⟩
      · rw [List.length_cons, Nat.mul_add, Nat.mul_one, Nat.pow_add]
        exact Nat.mul_le_mul hl (Nat.le_of_lt hr.2)
      · rcases List.mem_cons.mp hx with rfl | hx
        · have := (In.self x).up D hD
          rw [Nat.mul_comm x.den D] at this
          refine this.mono ?_
          have h1 : x.num.natAbs * D ≤ 2 ^ n * D := Nat.mul_le_mul_right _ (Nat.le_of_lt hr.1)
          have h2 : 2 ^ n * D ≤ 2 ^ n * (D * x.den) := Nat.mul_le_mul_left _ (Nat.le_mul_of_pos_right _ x.den_pos)
          exact Nat.le_trans h1 h2
        · have := (ha x hx).up r.den (den0 r)
          refine this.mono ?_
          rw [Nat.mul_assoc]; exact Nat.le_refl _
  intro l h
  obtain ⟨D, h1, h2, h3⟩ := key h
  refine ⟨D, _, h1, h3, ?_, ?_⟩
  · refine Nat.lt_of_le_of_lt h2 (Nat.pow_lt_pow_right (by decide) ?_)
    rw [Nat.mul_add]; omega
  · have : 2 ^ n * D ≤ 2 ^ n * 2 ^ (n * l.length) := Nat.mul_le_mul_left _ h2
    rw [← Nat.pow_add] at this
    refine Nat.lt_of_le_of_lt this (Nat.pow_lt_pow_right (by decide) ?_)
    rw [Nat.mul_add]; omega
theorem ev_hz {n m : Nat} {x : Rat} (hx : hz m x) : ∀ {l : List Rat}, (∀ r ∈ l, hz n r) → hz (l.length * (n + m + 1) + 1) (ev l x)
  | [], _ => hz0.mono (by omega)
  | a :: l, h => by
    have ih := ev_hz hx (l := l) fun r hr => h r (by simp [hr])
    rw [ev]
    exact ((h a (by simp)).add (hx.mul ih)).mono (by rw [List.length_cons, Nat.add_mul]; omega)
theorem bnd.all {n : Nat} {l : List Rat} (h : bnd n l) : ∀ r ∈ l, RL.hz n r := fun r hr => by
  obtain ⟨D, N, h1, h2, h3, h4⟩ := h
  exact hz_of h1 (h2 r hr) h3 h4
theorem bnd_lin {m : Nat} {c : Rat} (h : hz m c) : bnd (m * 3 + 1) [-c, 1] := by
  have := hz_bnd (hz_one h) (l := [-c, 1]) fun r hr => by
    rcases List.mem_cons.mp hr with rfl | hr
    · exact h.neg
    · simp at hr; subst hr; exact hz1.mono (hz_one h)
  exact this
theorem bnd_sub {n : Nat} {l m : List Rat} (h : bnd n l) (hm : ∀ r ∈ m, r ∈ l) : bnd n m := by
  obtain ⟨D, N, h1, h2, h3, h4⟩ := h
  exact ⟨D, N, h1, fun r hr => h2 r (hm r hr), h3, h4⟩
theorem mv_len_le (c : Rat) : ∀ l : List Rat, (mv c l).length ≤ 3 * l.length
  | [] => Nat.le_refl _
  | a :: l => by
    have ih := mv_len_le c l
    have h1 := len_padd (pmul (mv c l) [-c, 1]) (trim [a])
    have h2 := len_padd (mv c l) [-c, 1]
    have h3 := trim_len [a]
    rw [mv]
    unfold len2 at h1
    simp only [List.length_cons, List.length_nil] at *
    omega
theorem mv_bnd {n m : Nat} {c : Rat} (hc : hz m c) : ∀ {l : List Rat}, bnd n l → l.length < 100 → bnd (l.length * (n + m * 3 + 12) + 1) (mv c l)
  | [], _, _ => ⟨1, 0, by decide, fun r hr => by simp [mv] at hr, by simp, by simp⟩
  | a :: l, h, hl => by
    simp only [List.length_cons] at hl
    have ih := mv_bnd hc (l := l) (bnd_sub h fun r hr => by simp [hr]) (by omega)
    have hle := mv_len_le c l
    have h1 := (ih.mul (bnd_lin hc) (by omega)).add (bnd_sub (m := trim [a]) h fun r hr => by have := trim_mem hr; simp at this; simp [this])
    rw [mv, List.length_cons]
    refine h1.mono ?_
    rw [Nat.add_mul (l.length) 1]; omega
theorem gr_bnd {n : Nat} {l : List Rat} (h : bnd n l) (hl : l.length < 1000) : bnd (n + 10) (gr l) := by
  obtain ⟨D, N, h1, h2, h3, h4⟩ := h
  refine ⟨D, N * 1000, h1, fun r hr => ?_, up_pow h3 (by omega), mul_pow h4 (show 1000 < 2 ^ 10 by decide) (Nat.le_refl _)⟩
  obtain ⟨k, hk, rfl⟩ := List.mem_map.mp hr
  have hk := List.mem_range.mp hk
  have := In.mul (co_in h2 (k + 1)) (In.self ((k + 1 : Nat) : Rat))
  rw [Rat.den_natCast, Nat.mul_one, Rat.num_natCast] at this
  refine this.mono (Nat.mul_le_mul_left _ ?_)
  simp; omega
theorem st_hz {n m : Nat} {c : Rat} (hc : hz m c) {l : List Rat} (h : bnd n l) : ∀ r ∈ st c l, hz (n + (m * l.length + 1)) r := fun r hr => by
  obtain ⟨k, hk, rfl⟩ := List.mem_map.mp hr
  have hk := List.mem_range.mp hk
  refine ((h.hz k).mul (hc.pow _)).mono ?_
  have : m * (l.length - 1 - k) ≤ m * l.length := Nat.mul_le_mul_left _ (by omega)
  omega
end RL
namespace RL
open PySem L2 DL
@[simp ↓] theorem g_slP (l : List Rat) (lo hi : Option Int) (Q : Sl → Prop) : gSl (pD l) lo hi Q = Q (.dat (.tup (cutD (l.map rD) lo hi))) := id rfl
theorem cut_drop (ds : List D) (k : Nat) : cutD ds (some (k : Int)) none = ds.drop k := by
  unfold cutD
  rw [HT.sIx_none, HT.sIx_nat]
  by_cases h : k ≤ ds.length
  · rw [Nat.min_eq_left h]
    exact List.take_of_length_le (by simp)
  · rw [Nat.min_eq_right (by omega), List.drop_eq_nil_of_le (Nat.le_refl _), List.drop_eq_nil_of_le (by omega)]; simp
theorem co_drop (l : List Rat) (n k : Nat) : co (l.drop n) k = co l (n + k) := by
  unfold co
  simp [List.getElem?_drop]
theorem rD_nat (k : Nat) : D.tup [.int (k : Int), .int 1] = rD ((k : Nat) : Rat) := by
  unfold rD
  rw [Rat.num_natCast, Rat.den_natCast]; rfl
theorem rD_int (k : Int) : D.tup [.int k, .int 1] = rD ((k : Int) : Rat) := by
  unfold rD
  rw [Rat.num_intCast, Rat.den_intCast]; rfl
theorem rev_get' {l : List Rat} {i : Nat} {d : D} (h : (l.map rD).reverse[i]? = some d) : i < l.length ∧ d = rD (co l (l.length - 1 - i)) := by
  have hi : i < l.length := by
    have := (List.getElem?_eq_some_iff.mp h).1
    simpa using this
  refine ⟨hi, ?_⟩
  rw [List.getElem?_reverse (by simpa using hi), List.length_map, List.getElem?_map] at h
  have h2 : l.length - 1 - i < l.length := by omega
  rw [List.getElem?_eq_getElem h2] at h
  have := (Option.some.inj h).symm
  rw [this]
  simp [co, h2]
theorem drop_co {l : List Rat} {j : Nat} (h : j < l.length) : l.drop j = co l j :: l.drop (j + 1) := by
  rw [List.drop_eq_getElem_cons h]
  simp [co, h]
end RL

set_option Elab.async false
set_option linter.all false
set_option maxRecDepth 100000
set_option maxHeartbeats 4000000
/-! RG: quotients, rests, greatest common parts; how great their numbers are. -/
namespace RL
/-! ### products of lists -/
theorem cv_comm (b : List Rat) : ∀ (a : List Rat) (k : Nat), cv (co a) (co b) k = cv (co b) (co a) k
  | [], k => by
    rw [cv_nil]
    unfold cv
    have e : (fun i => co b i * co [] (k - i)) = fun _ => (0 : Rat) := by funext i; rw [co_nil, Rat.mul_zero]
    rw [e, sm_zero]
  | x :: a, k => by
    have ih : ∀ k, cv (co a) (co b) k = cv (co b) (co a) k := cv_comm b a
    have key : ∀ (f : Nat → Rat) (b : List Rat) (k : Nat), cv (co b) (fun i => (if i = 0 then x else 0) + sh f i) k = x * co b k + sh (cv (co b) f) k := by
      intro f b
      induction b with
      | nil => intro k; rw [cv_nil, cv_nil]; cases k <;> simp [co_nil, sh, Rat.mul_zero, Rat.add_zero]
      | cons y b ihb =>
        intro k
        rw [cv_cons, cv_cons]
        show y * ((if k = 0 then x else 0) + sh f k) + sh (cv (co b) fun i => (if i = 0 then x else 0) + sh f i) k = x * co (y :: b) k + sh (fun n => y * f n + sh (cv (co b) f) n) k
        cases k with
        | zero => simp only [sh, co_c0]; grind
        | succ k =>
          have s1 : ∀ (f : Nat → Rat), sh f (k + 1) = f k := fun _ => rfl
          rw [s1, s1, s1, co_cs, ihb k]; grind
    rw [cv_cons, co_cons x a, key]
    cases k with
    | zero => rfl
    | succ k => simp only [sh]; rw [ih]
theorem pmul_comm (a b : List Rat) : pmul a b = pmul b a := by
  refine eq_of_co (t_mul ..) (t_mul ..) ?_
  rw [co_pmul, co_pmul]
  funext k; exact cv_comm b a k
theorem pmul_assoc (a b c : List Rat) : pmul (pmul a b) c = pmul a (pmul b c) := law2 a b c
theorem pmul_nil (a : List Rat) : pmul a [] = [] := by
  rw [pmul_comm]
  refine eq_of_co (t_mul ..) rfl ?_
  rw [co_pmul, cv_nil]
  funext k; rw [co_nil]
theorem nil_pmul (a : List Rat) : pmul [] a = [] := by rw [pmul_comm, pmul_nil]
theorem pmul_one {a : List Rat} (h : trim a = a) : pmul a [1] = a := by
  refine eq_of_co (t_mul ..) h ?_
  rw [pmul_comm, co_pmul, cv_cons, cv_nil]
  funext k
  cases k with
  | zero => simp only [sh]; grind
  | succ k => simp only [sh]; grind
def ld (l : List Rat) : Rat := co l (l.length - 1)
theorem ne_len {l : List Rat} (h : l ≠ []) : l.length ≠ 0 := fun z => h (List.length_eq_zero_iff.mp z)
theorem pmul_len {a b : List Rat} (ha : trim a = a) (hb : trim b = b) (na : a ≠ []) (nb : b ≠ []) : (pmul a b).length = a.length + b.length - 1 ∧ ld (pmul a b) = ld a * ld b ∧ pmul a b ≠ [] := by
  have la := ne_len na
  have lb := ne_len nb
  have h1 := trim_last ha na
  have h2 := trim_last hb nb
  obtain ⟨d, x, e⟩ : ∃ d x, a = d ++ [x] := ⟨_, _, (List.dropLast_concat_getLast na).symm⟩
  have ex : co a (a.length - 1) = x := by rw [e]; simp [co]
  have dl : d.length = a.length - 1 := by rw [e]; simp
  have top : co (pmul a b) (a.length - 1 + (b.length - 1)) = ld a * ld b := by
    rw [co_pmul, ← dl]
    have := cv_top b d x
    rw [← e] at this
    rw [this]
    unfold ld
    rw [ex]
  have nz : ld a * ld b ≠ 0 := fun z => by
    rcases Rat.mul_eq_zero.mp z with z | z
    · exact h1 z
    · exact h2 z
  have hl := len_of (l := pmul a b) (n := a.length - 1 + (b.length - 1)) (t_mul ..) (fun k hk => by rw [co_pmul]; exact cv_big _ _ _ (by omega)) (by rw [top]; exact nz)
  refine ⟨by omega, ?_, ?_⟩
  · unfold ld at *
    rw [hl, Nat.add_sub_cancel]; exact top
  · intro z; rw [z] at hl; simp at hl
theorem pmul_cancel {a b c : List Rat} (ha : trim a = a) (hb : trim b = b) (hc : trim c = c) (nc : c ≠ []) (h : pmul a c = pmul b c) : a = b := by
  have key : psub a b = [] := by
    by_cases hd : psub a b = []
    · exact hd
    · exfalso
      have h1 : pmul (psub a b) c = [] := by
        refine eq_of_co (t_mul ..) rfl ?_
        rw [co_pmul, co_psub]
        funext k
        rw [cv_addL]
        have e3 : (fun k => -co b k) = fun k => -1 * co b k := by funext k; grind
        rw [e3, cv_mulL, co_nil]
        have := congrFun (congrArg co h) k
        rw [co_pmul, co_pmul] at this
        rw [this]; grind
      exact (pmul_len (t_sub a b) hc hd nc).2.2 h1
  refine eq_of_co ha hb ?_
  funext k
  have := congrFun (co_psub a b) k
  rw [key, co_nil] at this
  grind
/-! ### division -/
structure DE (a b q r : List Rat) : Prop where
  eq : ∀ i, co a i = cv (co q) (co b) i + co r i
  tq : trim q = q
  tr : trim r = r
  lr : r.length < b.length
theorem DE.only {a b q q' r r' : List Rat} (hb : trim b = b) (hne : b ≠ []) (h : DE a b q r) (h' : DE a b q' r') : q = q' ∧ r = r' :=
  div_only hb hne h.tq h'.tq h.tr h'.tr h.lr h'.lr fun i => by rw [← h.eq i, ← h'.eq i]
/-- there is one -/
theorem DE.ex {b : List Rat} (hb : trim b = b) (hne : b ≠ []) : ∀ a : List Rat, ∃ q r, DE a b q r
  | [] => ⟨[], [], fun i => by rw [cv_nil, co_nil]; grind, rfl, rfl, by have := ne_len hne; simp; omega⟩
  | x :: a => by
    obtain ⟨q, r, h⟩ := DE.ex hb hne a
    have hl := trim_last hb hne
    have lb := ne_len hne
    -- x + X r, reduced
    let c := co (x :: r) (b.length - 1) * (co b (b.length - 1))⁻¹
    let f : List Rat := addl (x :: r) (scal (-c) b)
    have hf : ∀ i, co f i = co (x :: r) i + -c * co b i := fun i => by rw [co_addl, co_scal]
    have hfl : ∀ i, b.length - 1 ≤ i → co f i = 0 := fun i hi => by
      rw [hf]
      by_cases e : i = b.length - 1
      · subst e
        show co (x :: r) (b.length - 1) + -(co (x :: r) (b.length - 1) * (co b (b.length - 1))⁻¹) * co b (b.length - 1) = 0
        have := Rat.inv_mul_cancel _ hl
        grind
      · have h1 : co b i = 0 := co_big (by omega)
        have h2 : co (x :: r) i = 0 := co_big (by have := h.lr; simp; omega)
        rw [h1, h2]; grind
    refine ⟨trim (c :: q), trim f, fun i => ?_, trim_idem _, trim_idem _, ?_⟩
    · rw [co_trim', co_trim', cv_cons, hf]
      have e1 : co (x :: a) i = (if i = 0 then x else 0) + sh (co a) i := congrFun (co_cons x a) i
      have e2 : co (x :: r) i = (if i = 0 then x else 0) + sh (co r) i := congrFun (co_cons x r) i
      rw [e1, e2]
      have e3 : sh (co a) i = sh (cv (co q) (co b)) i + sh (co r) i := by
        rw [← sh_add]
        congr 1
        funext j; exact h.eq j
      rw [e3]
      show _ = c * co b i + sh (cv (co q) (co b)) i + _
      grind
    · by_cases ht : trim f = []
      · rw [ht]; simp; omega
      · have h1 := trim_last (trim_idem f) ht
        rw [co_trim'] at h1
        have := ne_len ht
        rcases Nat.lt_or_ge (trim f).length b.length with z | z
        · exact z
        · exact absurd (hfl _ (by omega)) h1
/-- the quotient's numbers from the k-th on -/
def hi (q : List Rat) (k : Nat) : Nat → Rat := fun i => if k ≤ i then co q i else 0
/-- what is left when these are taken -/
def lf (a b q : List Rat) (k i : Nat) : Rat := co a i + -cv (hi q k) (co b) i
theorem hi_step (q : List Rat) (k : Nat) : hi q k = fun i => hi q (k + 1) i + (if i = k then co q k else 0) := by
  funext i
  unfold hi
  by_cases h : i = k
  · subst h; rw [if_pos (Nat.le_refl _), if_neg (by omega), if_pos rfl, Rat.zero_add]
  · rw [if_neg h, Rat.add_zero]
    by_cases h2 : k ≤ i
    · rw [if_pos h2, if_pos (by omega)]
    · rw [if_neg h2, if_neg (by omega)]
theorem lf_step (a b q : List Rat) (k i : Nat) : lf a b q k i = lf a b q (k + 1) i + -(if k ≤ i then co q k * co b (i - k) else 0) := by
  unfold lf
  rw [hi_step, cv_addL, cv_delta]; grind
theorem hi_big {q : List Rat} {k : Nat} (h : q.length ≤ k) : hi q k = fun _ => 0 := by
  funext i
  unfold hi
  split
  · exact co_big (by omega)
  · rfl
theorem cv_zero (g : Nat → Rat) (n : Nat) : cv (fun _ => 0) g n = 0 := by
  unfold cv
  have e : (fun i => (0 : Rat) * g (n - i)) = fun _ => (0 : Rat) := by funext j; exact Rat.zero_mul _
  rw [e, sm_zero]
theorem lf_big {a b q : List Rat} {k : Nat} (h : q.length ≤ k) (i : Nat) : lf a b q k i = co a i := by
  unfold lf
  rw [hi_big h, cv_zero]; grind
theorem hi_zero (q : List Rat) : hi q 0 = co q := by
  funext i; unfold hi; rw [if_pos (Nat.zero_le _)]
theorem lf_zero {a b q r : List Rat} (h : DE a b q r) (i : Nat) : lf a b q 0 i = co r i := by
  unfold lf
  rw [hi_zero, h.eq i]; grind
/-- the numbers below k, times b, are what is still left, but for r -/
theorem lf_low {a b q r : List Rat} (h : DE a b q r) (k i : Nat) : lf a b q k i = cv (co (q.take k)) (co b) i + co r i := by
  unfold lf
  rw [h.eq i]
  have e : co q = fun i => hi q k i + co (q.take k) i := by
    funext j
    rw [co_take]
    unfold hi
    by_cases c : k ≤ j
    · rw [if_pos c, if_neg (by omega), Rat.add_zero]
    · rw [if_neg c, if_pos (by omega), Rat.zero_add]
  conv => lhs; lhs; lhs; rw [e, cv_addL]
  grind
theorem lf_top {a b q r : List Rat} (h : DE a b q r) {k i : Nat} (hi : k + (b.length - 1) ≤ i) : lf a b q k i = 0 := by
  rw [lf_low h, cv_big _ _ _ (by simp; omega), co_big (f := r) (by have := h.lr; omega), Rat.add_zero]
theorem lf_fac {a b q r : List Rat} (hb : trim b = b) (hne : b ≠ []) (h : DE a b q r) (k : Nat) : lf a b q (k + 1) (k + (b.length - 1)) * (co b (b.length - 1))⁻¹ = co q k := by
  have h1 := lf_step a b q k (k + (b.length - 1))
  rw [lf_top h (Nat.le_refl _), if_pos (by omega), Nat.add_sub_cancel_left] at h1
  have h2 := Rat.mul_inv_cancel _ (trim_last hb hne)
  have h3 : lf a b q (k + 1) (k + (b.length - 1)) = co q k * co b (b.length - 1) := by grind
  rw [h3, Rat.mul_assoc, h2, Rat.mul_one]
theorem DE.lq {a b q r : List Rat} (ha : b.length ≤ a.length) (hb : trim b = b) (hne : b ≠ []) (h : DE a b q r) : q.length ≤ a.length - b.length + 1 := by
  by_cases hq : q = []
  · subst hq; simp
  · have h1 := trim_last h.tq hq
    have lq := ne_len hq
    have lb := ne_len hne
    rcases Nat.lt_or_ge (a.length - b.length + 1) q.length with z | z
    · exfalso
      have e := h.eq (q.length - 1 + (b.length - 1))
      obtain ⟨d, x, ed⟩ : ∃ d x, q = d ++ [x] := ⟨_, _, (List.dropLast_concat_getLast hq).symm⟩
      have dl : d.length = q.length - 1 := by rw [ed]; simp
      have ex : co q (q.length - 1) = x := by rw [ed]; simp [co]
      have ht := cv_top b d x
      rw [← ed, dl] at ht
      rw [ht, co_big (f := a) (by omega), co_big (f := r) (by have := h.lr; omega), Rat.add_zero] at e
      rcases Rat.mul_eq_zero.mp e.symm with y | y
      · rw [← ex] at y; exact h1 y
      · exact trim_last hb hne y
    · exact z
theorem DE.short {a b q r : List Rat} (ha : a.length < b.length) (hb : trim b = b) (hne : b ≠ []) (h : DE a b q r) : q = [] ∧ r = trim a := by
  have : DE a b [] (trim a) := ⟨fun i => by rw [cv_nil, co_trim', Rat.zero_add], rfl, trim_idem _, by have := trim_len a; omega⟩
  exact h.only hb hne this
end RL

set_option Elab.async false
set_option linter.all false
set_option maxRecDepth 100000
set_option maxHeartbeats 4000000
/-! RH: how great the numbers of divisions and of Euclid's run are. -/
namespace RL
theorem in_iff {D N : Nat} (hD : D ≠ 0) {r : Rat} : In D N r ↔ ∃ a : Int, r * (D : Rat) = (a : Rat) ∧ a.natAbs ≤ N := by
  have hd : (D : Rat) ≠ 0 := fun z => by
    have z2 : (D : Rat) = ((0 : Nat) : Rat) := z
    exact hD (Rat.natCast_inj.mp z2)
  constructor
  · rintro ⟨a, rfl, h⟩
    refine ⟨a, ?_, h⟩
    rw [Rat.divInt_eq_div]
    have e : ((D : Int) : Rat) = (D : Rat) := rfl
    rw [e, Rat.div_def, Rat.mul_assoc, Rat.inv_mul_cancel _ hd, Rat.mul_one]
  · rintro ⟨a, e, h⟩
    refine ⟨a, ?_, h⟩
    rw [Rat.divInt_eq_div, ← e]
    have e : ((D : Int) : Rat) = (D : Rat) := rfl
    rw [e, Rat.div_def, Rat.mul_assoc, Rat.mul_inv_cancel _ hd, Rat.mul_one]
/-- by a whole number of either sign -/
theorem in_of {D N : Nat} {z a : Int} {r : Rat} (hD : D ≠ 0) (hz : z ≠ 0) (h : r * ((D : Rat) * (z : Rat)) = (a : Rat)) (ha : a.natAbs ≤ N) : In (D * z.natAbs) N r := by
  have hn : z.natAbs ≠ 0 := by omega
  rw [in_iff (Nat.mul_ne_zero hD hn)]
  rcases Int.lt_or_le z 0 with c | c
  · refine ⟨-a, ?_, by omega⟩
    have e : ((D * z.natAbs : Nat) : Rat) = (D : Rat) * (-(z : Rat)) := by
      rw [Rat.natCast_mul]
      congr 1
      have : ((z.natAbs : Nat) : Int) = -z := by omega
      have e2 : ((z.natAbs : Nat) : Rat) = (((z.natAbs : Nat) : Int) : Rat) := rfl
      rw [e2, this, Rat.intCast_neg]
    rw [e, Rat.intCast_neg, ← h]; grind
  · refine ⟨a, ?_, ha⟩
    have e : ((D * z.natAbs : Nat) : Rat) = (D : Rat) * (z : Rat) := by
      rw [Rat.natCast_mul]
      congr 1
      have : ((z.natAbs : Nat) : Int) = z := by omega
      have e2 : ((z.natAbs : Nat) : Rat) = (((z.natAbs : Nat) : Int) : Rat) := rfl
      rw [e2, this]
    rw [e, h]
def FB (n : Nat) (f : Nat → Rat) : Prop := ∃ D N : Nat, D ≠ 0 ∧ D < 2 ^ n ∧ N < 2 ^ n ∧ ∀ i, In D N (f i)
theorem bnd.fb {n : Nat} {l : List Rat} (h : bnd n l) : FB n (co l) := by
  obtain ⟨D, N, h1, h2, h3, h4⟩ := h
  exact ⟨D, N, h1, h3, h4, co_in h2⟩
theorem FB.bnd {n : Nat} {l : List Rat} (h : FB n (co l)) : bnd n l := by
  obtain ⟨D, N, h1, h2, h3, h4⟩ := h
  refine ⟨D, N, h1, fun r hr => ?_, h2, h3⟩
  obtain ⟨i, hi, e⟩ := List.getElem_of_mem hr
  have := h4 i
  have e2 : co l i = r := by simp [co, hi, e]
  rw [e2] at this; exact this
theorem FB.mono {n m : Nat} {f : Nat → Rat} (h : FB n f) (hm : n ≤ m) : FB m f := by
  obtain ⟨D, N, h1, h2, h3, h4⟩ := h
  exact ⟨D, N, h1, up_pow h2 hm, up_pow h3 hm, h4⟩
theorem FB.hz {n : Nat} {f : Nat → Rat} (h : FB n f) (i : Nat) : hz n (f i) := by
  obtain ⟨D, N, h1, h2, h3, h4⟩ := h
  exact hz_of h1 (h4 i) h2 h3
/-- one row of a division -/
theorem fb_step {n m : Nat} {f g : Nat → Rat} {b : List Rat} (hf : FB n f) (hb : bnd m b) (htr : trim b = b) (hne : b ≠ []) (t : Nat) (s : Nat → Nat → Prop) [∀ i j, Decidable (s i j)] {k : Nat} (c : Rat) (hc : c = f t * (co b (b.length - 1))⁻¹)
    (hg : ∀ i, g i = f i + -(if k ≤ i then c * co b (i - k) else 0)) : FB (n + (m + 1)) g ∧ RL.hz (n + m) c := by
  obtain ⟨D, N, d1, d2, d3, d4⟩ := hf
  obtain ⟨E, M, e1, e2, e3, e4⟩ := hb
  have hl := trim_last htr hne
  obtain ⟨z, hz, hzM⟩ := (in_iff e1).mp (co_in e2 (b.length - 1))
  obtain ⟨xt, hxt, hxN⟩ := (in_iff d1).mp (d4 t)
  have hE : (E : Rat) ≠ 0 := fun w => by
    have w2 : (E : Rat) = ((0 : Nat) : Rat) := w
    exact e1 (Rat.natCast_inj.mp w2)
  have hz0 : z ≠ 0 := by
    rintro rfl
    rcases Rat.mul_eq_zero.mp hz with w | w
    · exact hl w
    · exact hE w
  have hcl : c * co b (b.length - 1) = f t := by rw [hc, Rat.mul_assoc, Rat.inv_mul_cancel _ hl, Rat.mul_one]
  have hzn : z.natAbs ≠ 0 := by omega
  have hzl : z.natAbs < 2 ^ m := Nat.lt_of_le_of_lt hzM e4
  refine ⟨⟨D * z.natAbs, N * M + N * M, Nat.mul_ne_zero d1 hzn, mul_pow d2 hzl (by omega), ?_, fun i => ?_⟩, ?_⟩
  · exact sum_lt (mul_pow d3 e4 (Nat.le_refl _)) (mul_pow d3 e4 (Nat.le_refl _)) (by omega) (by omega)
  · obtain ⟨x, hx, hxN'⟩ := (in_iff d1).mp (d4 i)
    rw [hg]
    by_cases hk : k ≤ i
    · rw [if_pos hk]
      obtain ⟨y, hy, hyM⟩ := (in_iff e1).mp (co_in e2 (i - k))
      refine in_of (a := x * z - xt * y) d1 hz0 ?_ ?_
      · rw [Rat.intCast_sub, Rat.intCast_mul, Rat.intCast_mul, ← hx, ← hz, ← hxt, ← hy, ← hcl]; grind
      · have h1 : (x * z).natAbs ≤ N * M := by rw [Int.natAbs_mul]; exact Nat.mul_le_mul hxN' hzM
        have h2 : (xt * y).natAbs ≤ N * M := by rw [Int.natAbs_mul]; exact Nat.mul_le_mul hxN hyM
        omega
    · rw [if_neg hk]
      refine in_of (a := x * z) d1 hz0 ?_ ?_
      · rw [Rat.intCast_mul, ← hx]; grind
      · have h1 : (x * z).natAbs ≤ N * M := by rw [Int.natAbs_mul]; exact Nat.mul_le_mul hxN' hzM
        omega
  · refine hz_of (Nat.mul_ne_zero d1 hzn) (in_of (a := xt * E) (N := N * E) d1 hz0 ?_ ?_) (mul_pow d2 hzl (Nat.le_refl _)) (mul_pow d3 e3 (Nat.le_refl _))
    · rw [Rat.intCast_mul, ← hz, ← hxt, ← hcl]
      have : ((E : Int) : Rat) = (E : Rat) := rfl
      rw [this]; grind
    · rw [Int.natAbs_mul]; exact Nat.mul_le_mul hxN (by simp)
theorem div_bits {a b q r : List Rat} {n m : Nat} (ha : bnd n a) (hb : bnd m b) (htr : trim b = b) (hne : b ≠ []) (h : DE a b q r) : ∀ j k, q.length ≤ j + k → FB (n + j * (m + 1)) (lf a b q k)
  | 0, k, hk => by
    have e : lf a b q k = co a := funext (lf_big (by omega))
    rw [e, Nat.zero_mul, Nat.add_zero]; exact ha.fb
  | j + 1, k, hk => by
    have ih := div_bits ha hb htr hne h j (k + 1) (by omega)
    have := (fb_step ih hb htr hne (k + (b.length - 1)) (fun _ _ => True) (k := k) (co q k) (lf_fac htr hne h k).symm (lf_step a b q k)).1
    refine this.mono ?_
    rw [Nat.add_mul]; omega
theorem div_bits' {a b q r : List Rat} {n m : Nat} (ha : bnd n a) (hb : bnd m b) (htr : trim b = b) (hne : b ≠ []) (h : DE a b q r) : (∀ k, FB (n + q.length * (m + 1)) (lf a b q k)) ∧ (∀ k, hz (n + q.length * (m + 1) + m) (co q k)) ∧ bnd (n + q.length * (m + 1)) r := by
  have h1 : ∀ k, FB (n + q.length * (m + 1)) (lf a b q k) := fun k => div_bits ha hb htr hne h q.length k (by omega)
  refine ⟨h1, fun k => ?_, ?_⟩
  · exact (fb_step (h1 (k + 1)) hb htr hne (k + (b.length - 1)) (fun _ _ => True) (k := k) (co q k) (lf_fac htr hne h k).symm (lf_step a b q k)).2
  · have e : lf a b q 0 = co r := funext (lf_zero h)
    have := h1 0
    rw [e] at this
    exact this.bnd
/-! ### by its lead -/
def mon (l : List Rat) : List Rat := l.map (· * (ld l)⁻¹)
theorem co_mon (l : List Rat) (k : Nat) : co (mon l) k = co l k * (ld l)⁻¹ := by
  unfold mon co
  simp only [List.getD_eq_getElem?_getD, List.getElem?_map]
  cases l[k]? <;> simp [Rat.zero_mul]
theorem mon_len (l : List Rat) : (mon l).length = l.length := by simp [mon]
theorem mon_nil : mon [] = [] := rfl
theorem mon_ne {l : List Rat} (h : l ≠ []) : mon l ≠ [] := fun z => h (List.length_eq_zero_iff.mp (by rw [← mon_len, z]; rfl))
theorem mon_ld {l : List Rat} (h : trim l = l) (hn : l ≠ []) : ld (mon l) = 1 := by
  unfold ld
  rw [mon_len, co_mon]
  exact Rat.mul_inv_cancel _ (trim_last h hn)
theorem mon_trim {l : List Rat} (h : trim l = l) : trim (mon l) = mon l := by
  refine trim_of_last fun hn => ?_
  have hl : l ≠ [] := by rintro rfl; exact hn rfl
  have := mon_ld h hl
  unfold ld at this
  rw [this]; decide
theorem mon_one {l : List Rat} (h : ld l = 1) : mon l = l := by
  unfold mon
  rw [h]
  have : (1 : Rat)⁻¹ = 1 := by decide +kernel
  rw [this]
  simp [Rat.mul_one]
theorem mon_bnd {n : Nat} {l : List Rat} (hb : bnd n l) (h : trim l = l) : bnd n (mon l) := by
  by_cases hn : l = []
  · subst hn; exact hb
  obtain ⟨D, N, d1, d2, d3, d4⟩ := hb
  have hl := trim_last h hn
  obtain ⟨z, hz, hzN⟩ := (in_iff d1).mp (co_in d2 (l.length - 1))
  have hD : (D : Rat) ≠ 0 := fun w => by
    have w2 : (D : Rat) = ((0 : Nat) : Rat) := w
    exact d1 (Rat.natCast_inj.mp w2)
  have hz0 : z ≠ 0 := by
    rintro rfl
    rcases Rat.mul_eq_zero.mp hz with w | w
    · exact hl w
    · exact hD w
  refine FB.bnd ⟨z.natAbs, N, by omega, Nat.lt_of_le_of_lt hzN d4, d4, fun i => ?_⟩
  obtain ⟨x, hx, hxN⟩ := (in_iff d1).mp (co_in d2 i)
  have := in_of (D := 1) (z := z) (a := x) (r := co (mon l) i) (by decide) hz0 (by
    rw [co_mon, ← hx, ← hz]
    have e : ld l * (ld l)⁻¹ = 1 := Rat.mul_inv_cancel _ hl
    unfold ld at *
    have e1 : ((1 : Nat) : Rat) = 1 := rfl
    rw [e1]; grind) hxN
  rw [Nat.one_mul] at this
  exact this
theorem mon_mul {a g : List Rat} (ha : trim a = a) (hg : trim g = g) (na : a ≠ []) (ng : g ≠ []) (h1 : ld g = 1) : mon (pmul a g) = pmul (mon a) g := by
  have hl := pmul_len ha hg na ng
  refine eq_of_co (mon_trim (t_mul ..)) (t_mul ..) ?_
  funext k
  rw [co_mon, co_pmul, co_pmul, hl.2.1, h1, Rat.mul_one]
  have e : co (mon a) = fun i => (ld a)⁻¹ * co a i := by funext i; rw [co_mon, Rat.mul_comm]
  rw [e, cv_mulL, Rat.mul_comm]
end RL

set_option Elab.async false
set_option linter.all false
set_option maxRecDepth 100000
set_option maxHeartbeats 4000000
/-! RI: Euclid's run. -/
namespace RL
open DL PySem
/-- all numbers of the run have at most N bits -/
inductive Eu (N : Nat) : List Rat → List Rat → List Rat → Prop
  | fin {x : List Rat} : bnd N x → Eu N x [] x
  | step {x y q r g : List Rat} : y ≠ [] → trim y = y → bnd N x → bnd N y → DE x y q r → (∀ k, FB N (lf x y q k)) → (∀ k, hz N (co q k)) → bnd N r → Eu N y (mon r) g → Eu N x y g
def Dvd (d a : List Rat) : Prop := ∃ q, trim q = q ∧ a = pmul q d
theorem Dvd.refl {a : List Rat} (h : trim a = a) : Dvd a a := ⟨[1], by rfl, by rw [pmul_comm, pmul_one h]⟩
theorem Dvd.nil (d : List Rat) : Dvd d [] := ⟨[], rfl, by rw [nil_pmul]⟩
theorem Dvd.len {d a : List Rat} (h : Dvd d a) (hd : trim d = d) (nd : d ≠ []) (na : a ≠ []) : d.length ≤ a.length := by
  obtain ⟨q, tq, rfl⟩ := h
  have nq : q ≠ [] := by rintro rfl; rw [nil_pmul] at na; exact na rfl
  have := (pmul_len tq hd nq nd).1
  have := ne_len nq
  omega
theorem padd_nil {a : List Rat} (h : trim a = a) : padd a [] = a := by
  refine eq_of_co (t_add ..) h ?_
  rw [co_padd]; funext k; rw [co_nil, Rat.add_zero]
theorem DE.whole {a b q r : List Rat} (ha : trim a = a) (h : DE a b q r) : a = padd (pmul q b) r := by
  refine eq_of_co ha (t_add ..) ?_
  rw [co_padd, co_pmul]; funext k; exact h.eq k
theorem Dvd.add {d a b : List Rat} (ha : Dvd d a) (hb : Dvd d b) : Dvd d (padd a b) := by
  obtain ⟨p, tp, rfl⟩ := ha
  obtain ⟨q, tq, rfl⟩ := hb
  exact ⟨padd p q, t_add .., (law1 p q d).symm⟩
theorem Dvd.mul {d a : List Rat} (ha : Dvd d a) (c : List Rat) : Dvd d (pmul c a) := by
  obtain ⟨p, tp, rfl⟩ := ha
  exact ⟨pmul c p, t_mul .., by rw [pmul_assoc]⟩
theorem Dvd.trans {d a b : List Rat} (h : Dvd d a) (h' : Dvd a b) : Dvd d b := by
  obtain ⟨q, tq, rfl⟩ := h'
  exact h.mul q
/-- a number times -/
theorem mon_dvd {l : List Rat} (h : trim l = l) : Dvd l (mon l) ∧ Dvd (mon l) l := by
  by_cases hn : l = []
  · subst hn; exact ⟨Dvd.nil _, Dvd.nil _⟩
  · have hl := trim_last h hn
    have hi : (ld l)⁻¹ ≠ 0 := fun z => by
      have := Rat.mul_inv_cancel _ hl
      unfold ld at z
      rw [z, Rat.mul_zero] at this
      exact absurd this (by decide)
    have one : ∀ c : Rat, c ≠ 0 → trim [c] = [c] := fun c hc => trim_end hc []
    have mulc : ∀ (c : Rat) (a : List Rat) (k : Nat), co (pmul [c] a) k = c * co a k := fun c a k => by
      rw [co_pmul, cv_cons, cv_nil]
      cases k with
      | zero => simp only [sh]; grind
      | succ k => simp only [sh]; grind
    constructor
    · refine ⟨[(ld l)⁻¹], one _ hi, eq_of_co (mon_trim h) (t_mul ..) ?_⟩
      funext k
      rw [mulc, co_mon, Rat.mul_comm]
    · refine ⟨[ld l], one _ hl, eq_of_co h (t_mul ..) ?_⟩
      funext k
      rw [mulc, co_mon]
      have := Rat.mul_inv_cancel _ hl
      unfold ld at *
      grind
theorem Dvd.rest {d a b q r : List Rat} (ha : Dvd d a) (hb : Dvd d b) (hd : trim d = d) (ta : trim a = a) (h : DE a b q r) : Dvd d r := by
  have e : r = padd a (pmul (pmul q [-1]) b) := by
    refine eq_of_co h.tr (t_add ..) ?_
    rw [co_padd, co_pmul, co_pmul]
    funext k
    have e1 : cv (co q) (co [-1]) = fun i => -1 * co q i := by
      funext i
      rw [cv_comm, cv_cons, cv_nil]
      cases i with
      | zero => simp only [sh]; grind
      | succ i => simp only [sh]; grind
    rw [e1, cv_mulL, h.eq k]; grind
  rw [e]
  exact ha.add (hb.mul _)
theorem Eu.dvd {N : Nat} {x y g : List Rat} (h : Eu N x y g) : trim x = x → trim y = y → Dvd g x ∧ Dvd g y := by
  induction h with
  | fin hb => exact fun tx _ => ⟨Dvd.refl tx, Dvd.nil _⟩
  | @step x y q r g ny ty bx by_ de fb hq br run ih =>
    intro tx ty
    obtain ⟨h1, h2⟩ := ih ty (mon_trim de.tr)
    refine ⟨?_, h1⟩
    rw [de.whole tx]
    exact (h1.mul q).add (h2.trans (mon_dvd de.tr).2)
theorem Eu.com {N : Nat} {x y g d : List Rat} (h : Eu N x y g) (hd : trim d = d) : trim x = x → Dvd d x → Dvd d y → Dvd d g := by
  induction h with
  | fin hb => exact fun _ h1 _ => h1
  | @step x y q r g ny ty bx by_ de fb hq br run ih =>
    intro tx h1 h2
    exact ih ty h2 ((h1.rest h2 hd tx de).trans (mon_dvd de.tr).1)
theorem Eu.lead {N : Nat} {x y g : List Rat} (h : Eu N x y g) : trim x = x → (x = [] ∨ ld x = 1) → (y = [] ∨ ld y = 1) → (x ≠ [] ∨ y ≠ []) → g ≠ [] ∧ ld g = 1 ∧ trim g = g := by
  induction h with
  | fin hb =>
    intro tx h1 _ h3
    rcases h3 with h3 | h3
    · exact ⟨h3, h1.resolve_left h3, tx⟩
    · exact absurd rfl h3
  | @step x y q r g ny ty bx by_ de fb hq br run ih =>
    intro tx h1 h2 h3
    refine ih ty h2 ?_ (.inl ny)
    by_cases hr : r = []
    · subst hr; exact .inl rfl
    · exact .inr (mon_ld de.tr hr)
theorem Eu.both {N : Nat} {g : List Rat} (h : Eu N [] [] g) : g = [] := by
  cases h with
  | fin _ => rfl
  | step ny => exact absurd rfl ny
theorem Eu.bg {N : Nat} {x y g : List Rat} (h : Eu N x y g) : bnd N g := by
  induction h with
  | fin hb => exact hb
  | step _ _ _ _ _ _ _ _ _ ih => exact ih
theorem three_le {s : Nat} (h : 2 ≤ s) : s + 1 ≤ 3 ^ (s - 1) := by
  induction s with
  | zero => omega
  | succ s ih =>
    by_cases h2 : 2 ≤ s
    · have := ih h2
      have e : s + 1 - 1 = (s - 1) + 1 := by omega
      rw [e, Nat.pow_succ]; omega
    · have : s = 1 := by omega
      subst this; decide
/-- there is one, and its numbers' bits by the degrees -/
theorem Eu.ex {p : List Rat} {K c e : Nat} (tp : trim p = p) (np : p ≠ []) (hK : K + 1 ≤ p.length + e) : ∀ (n : Nat) (x y : List Rat) (B E : Nat), y.length ≤ n → trim x = x → trim y = y → (y = [] ∨ ld y = 1) → Dvd p x → Dvd p y → x.length ≤ K → y.length ≤ K →
    bnd B x → bnd B y → B + 1 ≤ c * 3 ^ E → E ≤ e → (E = 0 ∨ (y.length < x.length ∧ E + x.length ≤ K + 1)) → ∃ g, Eu (2 * (c * 3 ^ e)) x y g
  | n, x, [], B, E, _, tx, _, _, _, _, _, _, bx, _, hB, hE, _ => by
    refine ⟨x, .fin (bx.mono ?_)⟩
    have : c * 3 ^ E ≤ c * 3 ^ e := Nat.mul_le_mul_left _ (Nat.pow_le_pow_right (by decide) hE)
    omega
  | 0, x, y0 :: ys, B, E, hn, _, _, _, _, _, _, _, _, _, _, _, _ => by simp at hn
  | n + 1, x, y0 :: ys, B, E, hn, tx, ty, ly, px, py, kx, ky, bx, by_, hB, hE, hc => by
    obtain ⟨y, hy⟩ : ∃ y, y = y0 :: ys := ⟨_, rfl⟩
    have ny : y ≠ [] := by rw [hy]; simp
    rw [← hy] at hn ty ly py ky by_ hc ⊢
    obtain ⟨q, r, de⟩ := DE.ex ty ny x
    obtain ⟨h1, h2, h3⟩ := div_bits' bx by_ ty ny de
    have hp := py.len tp np ny
    have hlr := de.lr
    -- rows
    have hs : ∃ E', q.length + 1 ≤ 3 ^ (E' - E) ∧ E ≤ E' ∧ E' ≤ e ∧ (E' = 0 ∨ (r.length < y.length ∧ E' + y.length ≤ K + 1)) := by
      by_cases c1 : x.length < y.length
      · have := (de.short c1 ty ny).1
        subst this
        have hE0 : E = 0 := by omega
        exact ⟨E, by simp, Nat.le_refl _, hE, .inl hE0⟩
      · have lq := de.lq (by omega) ty ny
        by_cases c2 : x.length = y.length
        · have hE0 : E = 0 := by omega
          refine ⟨1, ?_, by omega, by omega, .inr ⟨hlr, by omega⟩⟩
          rw [hE0]
          show q.length + 1 ≤ 3 ^ 1
          omega
        · refine ⟨E + (x.length - y.length), ?_, by omega, by omega, .inr ⟨hlr, by omega⟩⟩
          have := three_le (s := x.length - y.length + 1) (by omega)
          rw [Nat.add_sub_cancel_left]
          rw [Nat.add_sub_cancel] at this
          omega
    obtain ⟨E', e1, e2, e3, e4⟩ := hs
    have hB' : B + q.length * (B + 1) + 1 ≤ c * 3 ^ E' := by
      have a1 : B + q.length * (B + 1) + 1 = (q.length + 1) * (B + 1) := by rw [Nat.add_mul, Nat.one_mul]; omega
      rw [a1]
      refine Nat.le_trans (Nat.mul_le_mul e1 hB) ?_
      have a2 : c * 3 ^ E' = 3 ^ (E' - E) * (c * 3 ^ E) := by
        have : 3 ^ E' = 3 ^ (E' - E) * 3 ^ E := by rw [← Nat.pow_add]; congr 1; omega
        rw [this, ← Nat.mul_assoc, Nat.mul_comm c, Nat.mul_assoc]
      rw [a2]; exact Nat.le_refl _
    have hN : c * 3 ^ E' ≤ c * 3 ^ e := Nat.mul_le_mul_left _ (Nat.pow_le_pow_right (by decide) e3)
    have hBB : B ≤ B + q.length * (B + 1) := by omega
    obtain ⟨g, run⟩ := Eu.ex tp np hK n y (mon r) (B + q.length * (B + 1)) E' (by rw [mon_len]; omega) ty (mon_trim de.tr) (by
      by_cases hr : r = []
      · subst hr; exact .inl rfl
      · exact .inr (mon_ld de.tr hr)) py ((px.rest py tp tx de).trans (mon_dvd de.tr).1) ky (by rw [mon_len]; omega) (by_.mono hBB) (mon_bnd h3 de.tr) hB' e3 (by rw [mon_len]; exact e4)
    refine ⟨g, .step ny ty (bx.mono (by omega)) (by_.mono (by omega)) de (fun k => (h1 k).mono (by omega)) (fun k => (h2 k).mono ?_) (h3.mono (by omega)) run⟩
    omega
end RL

set_option Elab.async false
set_option linter.all false
set_option maxRecDepth 100000
set_option maxHeartbeats 4000000
/-! RJ: what the walks ask of a division and of a run. -/
namespace RL
open DL PySem L2
structure SzD (x y q : List Rat) : Prop where
  slx : x.length < 1000
  sly : y.length < 1000
  slf : ∀ k i, rz 4400 (lf x y q k i)
  sq : ∀ k, rz 4400 (co q k)
  sy : ∀ k, rz 4400 (co y k)
  sqy : ∀ k j, rz 4400 (co q k * co y j)
inductive Ez : List Rat → List Rat → List Rat → Prop
  | fin {x : List Rat} : Ez x [] x
  | step {x y q r g : List Rat} : y ≠ [] → trim y = y → DE x y q r → SzD x y q → (∀ k, rz 4400 (co r k)) → Ez y (mon r) g → Ez x y g
theorem szd_of {a b q r : List Rat} {n m : Nat} (ha : bnd n a) (hb : bnd m b) (htr : trim b = b) (hne : b ≠ []) (h : DE a b q r) (la : a.length < 1000) (lb : b.length < 1000) (hn : n + q.length * (m + 1) + m + m ≤ 60000000) : SzD a b q ∧ ∀ k, rz 4400 (co r k) := by
  obtain ⟨h1, h2, h3⟩ := div_bits' ha hb htr hne h
  refine ⟨⟨la, lb, fun k i => ((h1 k).hz i).rz (by omega), fun k => (h2 k).rz (by omega), fun k => (hb.hz k).rz (by omega), fun k j => ((h2 k).mul (hb.hz j)).rz (by omega)⟩, fun k => (h3.hz k).rz (by omega)⟩
theorem Eu.ez {N : Nat} {x y g : List Rat} (hN : N ≤ 20000000) (h : Eu N x y g) : x.length < 1000 → y.length < 1000 → Ez x y g := by
  induction h with
  | fin hb => exact fun _ _ => .fin
  | @step x y q r g ny ty bx by_ de fb hq br run ih =>
    intro lx ly
    have hl := de.lr
    refine .step ny ty de ⟨lx, ly, fun k i => ((fb k).hz i).rz (by omega), fun k => (hq k).rz (by omega), fun k => (by_.hz k).rz (by omega), fun k j => ((hq k).mul (by_.hz j)).rz (by omega)⟩ (fun k => (br.hz k).rz (by omega)) (ih ly (by rw [mon_len]; omega))
/-- times g -/
theorem DE.times {x y q r g : List Rat} (h : DE x y q r) (tg : trim g = g) (ng : g ≠ []) (ty : trim y = y) (ny : y ≠ []) : DE (pmul x g) (pmul y g) q (pmul r g) := by
  refine ⟨fun i => ?_, h.tq, t_mul .., ?_⟩
  · rw [co_pmul, co_pmul, co_pmul]
    have e : co x = fun i => cv (co q) (co y) i + co r i := funext h.eq
    rw [e, cv_addL, cv_assoc]
  · have l2 := (pmul_len ty tg ny ng).1
    have := ne_len ny
    have := ne_len ng
    by_cases hr : r = []
    · subst hr; rw [nil_pmul]; simp; omega
    · have l1 := (pmul_len h.tr tg hr ng).1
      have := h.lr
      omega
/-- a factor's bits -/
theorem fac_bits {F f g : List Rat} {n m : Nat} (hF : bnd n F) (hg : bnd m g) (tg : trim g = g) (ng : g ≠ []) (tf : trim f = f) (e : F = pmul f g) (k : Nat) : hz (n + f.length * (m + 1) + m) (co f k) := by
  have de : DE F g f [] := ⟨fun i => by rw [e, co_pmul, co_nil, Rat.add_zero], tf, rfl, by have := ne_len ng; simp; omega⟩
  exact (div_bits' hF hg tg ng de).2.1 k
/-- a run over what is left by g -/
theorem Eu.by_ {N : Nat} {X Y G g : List Rat} (hN : 30 * N + 100 ≤ 60000000) (h : Eu N X Y G) (tg : trim g = g) (ng : g ≠ []) (hg : ld g = 1) (bg : bnd N g) : ∀ {x y : List Rat}, trim x = x → trim y = y → X = pmul x g → Y = pmul y g → x.length ≤ 10 → y.length ≤ 10 → ∃ z, trim z = z ∧ G = pmul z g ∧ Ez x y z := by
  induction h with
  | fin hb =>
    intro x y tx ty ex ey lx ly
    have hy : y = [] := by
      by_cases hy : y = []
      · exact hy
      · exact absurd ey.symm (pmul_len ty tg hy ng).2.2
    subst hy
    exact ⟨x, tx, ex, .fin⟩
  | @step X Y q R G ny tY bX bY de fb hq br run ih =>
    intro x y tx ty ex ey lx ly
    have hy : y ≠ [] := by rintro rfl; rw [nil_pmul] at ey; exact ny ey
    obtain ⟨q', r, de'⟩ := DE.ex ty hy x
    have deg := de'.times tg ng ty hy
    rw [← ex, ← ey] at deg
    obtain ⟨e1, e2⟩ := deg.only tY ny de
    subst e1
    have lr := de'.lr
    have emon : mon R = pmul (mon r) g := by
      rw [← e2]
      by_cases hr : r = []
      · subst hr; rw [nil_pmul, mon_nil, nil_pmul]
      · exact mon_mul de'.tr tg hr ng hg
    obtain ⟨z, tz, eG, ez⟩ := ih ty (mon_trim de'.tr) ey emon ly (by rw [mon_len]; omega)
    refine ⟨z, tz, eG, .step hy ty de' ?_ (fun k => ?_) ez⟩
    · -- what is left, as a list
      have lq : q'.length ≤ 10 ∧ q'.length + y.length ≤ 21 := by
        by_cases c1 : x.length < y.length
        · have := (de'.short c1 ty hy).1
          subst this
          simp; omega
        · have := de'.lq (by omega) ty hy
          have := ne_len hy
          omega
      have hlf : ∀ k, ∃ f F : List Rat, trim f = f ∧ F = pmul f g ∧ co f = lf x y q' k ∧ co F = lf X Y q' k ∧ f.length ≤ 21 := fun k => by
        refine ⟨padd (pmul (q'.take k) y) r, _, t_add .., rfl, ?_, ?_, ?_⟩
        · rw [co_padd, co_pmul]; funext i; exact (lf_low de' k i).symm
        · funext i
          rw [lf_low deg, ey, law1, co_padd]
          show co (pmul (pmul (q'.take k) y) g) i + co (pmul r g) i = cv (co (q'.take k)) (co (pmul y g)) i + co (pmul r g) i
          rw [co_pmul (pmul (q'.take k) y) g, co_pmul (q'.take k) y, co_pmul y g, cv_assoc]
        · have h1 := (len_padd (pmul (q'.take k) y) r).1
          have h2 := (len_padd (q'.take k) y).2.2
          unfold len2 at h1
          rw [List.length_take] at h2
          omega
      have hzy : ∀ k, hz (N + 10 * (N + 1) + N) (co y k) := fun k => (fac_bits bY bg tg ng ty ey k).mono (by
        have : y.length * (N + 1) ≤ 10 * (N + 1) := Nat.mul_le_mul_right _ ly
        omega)
      refine ⟨by omega, by omega, fun k i => ?_, fun k => (hq k).rz (by omega), fun k => (hzy k).rz (by omega), fun k j => ((hq k).mul (hzy j)).rz (by omega)⟩
      obtain ⟨f, F, tf, eF, c1, c2, lf'⟩ := hlf k
      have bF : bnd N F := FB.bnd (by rw [c2]; exact fb k)
      have := fac_bits bF bg tg ng tf eF i
      rw [c1] at this
      refine this.rz ?_
      have : f.length * (N + 1) ≤ 21 * (N + 1) := Nat.mul_le_mul_right _ lf'
      omega
    · have := fac_bits br bg tg ng de'.tr e2.symm k
      refine this.rz ?_
      have : r.length * (N + 1) ≤ 10 * (N + 1) := Nat.mul_le_mul_right _ (by omega)
      omega
/-! ### as data -/
def f_poly_div (C : Addr) : FD := fun ds Q X => ∃ a b : List Rat, ds = [pD a, pD b] ∧ (b = [] → X (.ref C)) ∧ (b ≠ [] → trim b = b ∧ ∃ q r, DE a b q r ∧ SzD a b q ∧ Q (.dat (.tup [pD q, pD r])))
theorem len_poly_div {C} : ∀ ds Qw Xw, f_poly_div C ds Qw Xw → ds.length = 2 := by rintro ds Q X ⟨a, b, rfl, _⟩; rfl
def f_with_lead_one (C : Addr) : FD := fun ds Q _ => ∃ l : List Rat, ds = [pD l] ∧ trim l = l ∧ (∀ k, rz 4400 (co l k)) ∧ l.length < 1000 ∧ Q (.dat (pD (mon l)))
theorem len_with_lead_one {C} : ∀ ds Qw Xw, f_with_lead_one C ds Qw Xw → ds.length = 1 := by rintro ds Q X ⟨a, rfl, _⟩; rfl
/-- the greatest common part as the program finds it -/
def Cm (a b g : List Rat) : Prop := trim a = a ∧ trim b = b ∧ (∀ k, rz 4400 (co a k)) ∧ (∀ k, rz 4400 (co b k)) ∧ a.length < 1000 ∧ b.length < 1000 ∧ Ez (mon a) (mon b) g
def f_common (C : Addr) : FD := fun ds Q _ => ∃ a b g : List Rat, ds = [pD a, pD b] ∧ Cm a b g ∧ Q (.dat (pD g))
theorem len_common {C} : ∀ ds Qw Xw, f_common C ds Qw Xw → ds.length = 2 := by rintro ds Q X ⟨a, b, _, rfl, _⟩; rfl
end RL
namespace RL
open DL PySem L2
theorem lf_down {a b q r : List Rat} (hb : trim b = b) (hne : b ≠ []) (h : DE a b q r) : ∀ (k L : Nat), (∀ i, L ≤ i → lf a b q k i = 0) → L + 1 - b.length ≤ k → lf a b q k = lf a b q (L + 1 - b.length)
  | 0, L, _, hk => by
    have : L + 1 - b.length = 0 := by omega
    rw [this]
  | k + 1, L, hz, hk => by
    by_cases e : L + 1 - b.length = k + 1
    · rw [e]
    · have lb := ne_len hne
      have hq : co q k = 0 := by
        rw [← lf_fac hb hne h k, hz _ (by omega), Rat.zero_mul]
      have e1 : lf a b q k = lf a b q (k + 1) := by
        funext i
        rw [lf_step, hq]
        split <;> grind
      rw [← e1]
      exact lf_down hb hne h k L (by rw [e1]; exact hz) (by omega)
structure PartsOk (a b p : List Rat) : Prop where
  ok : ∃ g, Cm a b g ∧ (a = [] ∧ b = [] → g = []) ∧ (¬ (a = [] ∧ b = []) → g ≠ [] ∧ trim g = g ∧ ld g = 1 ∧ ∃ q1 q2, trim q1 = q1 ∧ trim q2 = q2 ∧ a = pmul q1 g ∧ b = pmul q2 g ∧ SzD a g q1 ∧ SzD b g q2 ∧ (p ≠ [] → trim p = p ∧ ∃ q3, trim q3 = q3 ∧ g = pmul q3 p ∧ SzD g p q3) ∧ Cm q1 q2 [1])
theorem de_mul {q g : List Rat} (tq : trim q = q) (ng : g ≠ []) : DE (pmul q g) g q [] :=
  ⟨fun i => by rw [co_pmul, co_nil, Rat.add_zero], tq, rfl, by have := ne_len ng; simp; omega⟩
theorem parts_of {a b p p0 : List Rat} {n c e K : Nat} (ta : trim a = a) (tb : trim b = b) (tp : trim p0 = p0) (np : p0 ≠ []) (da : Dvd p0 a) (db : Dvd p0 b) (la : a.length ≤ K) (lb : b.length ≤ K) (hK : K + 1 ≤ p0.length + e) (he : e ≤ 10) (hK2 : K ≤ 100)
    (ba : bnd n a) (bb : bnd n b) (hn : n + 1 ≤ c) (hn2 : n ≤ 100000) (hN : 30 * (2 * (c * 3 ^ e)) + 100 ≤ 60000000) (hp : p = [] ∨ (p = p0 ∧ bnd n p)) : PartsOk a b p := by
  have ma : trim (mon a) = mon a := mon_trim ta
  have mb : trim (mon b) = mon b := mon_trim tb
  have lead : ∀ l : List Rat, trim l = l → (mon l = [] ∨ ld (mon l) = 1) := fun l hl => by
    by_cases h : l = []
    · subst h; exact .inl rfl
    · exact .inr (mon_ld hl h)
  have hnN : n ≤ 2 * (c * 3 ^ e) := by
    have : c * 1 ≤ c * 3 ^ e := Nat.mul_le_mul_left _ (Nat.pow_pos (by decide))
    omega
  obtain ⟨g, run⟩ := Eu.ex (c := c) tp np hK (mon b).length (mon a) (mon b) n 0 (Nat.le_refl _) ma mb (lead b tb) (da.trans (mon_dvd ta).1) (db.trans (mon_dvd tb).1) (by rw [mon_len]; exact la) (by rw [mon_len]; exact lb) (mon_bnd ba ta) (mon_bnd bb tb) (by simpa using hn) (Nat.zero_le _) (.inl rfl)
  generalize hNN : 2 * (c * 3 ^ e) = N at *
  have rza : ∀ k, rz 4400 (co a k) := fun k => (ba.hz k).rz (by omega)
  have rzb : ∀ k, rz 4400 (co b k) := fun k => (bb.hz k).rz (by omega)
  refine ⟨g, ⟨ta, tb, rza, rzb, by omega, by omega, run.ez (by omega) (by rw [mon_len]; omega) (by rw [mon_len]; omega)⟩, ?_, fun hab => ?_⟩
  · rintro ⟨rfl, rfl⟩
    exact run.both
  · have hne : mon a ≠ [] ∨ mon b ≠ [] := by
      by_cases h : a = []
      · right
        exact mon_ne fun h2 => hab ⟨h, h2⟩
      · exact .inl (mon_ne h)
    obtain ⟨ng, hg1, tg⟩ := run.lead ma (lead a ta) (lead b tb) hne
    obtain ⟨dga, dgb⟩ := run.dvd ma mb
    obtain ⟨q1, t1, e1⟩ := dga.trans (mon_dvd ta).2
    obtain ⟨q2, t2, e2⟩ := dgb.trans (mon_dvd tb).2
    have dpg := run.com tp ma (da.trans (mon_dvd ta).1) (db.trans (mon_dvd tb).1)
    have bg : bnd N g := run.bg
    have lpg := dpg.len tp np ng
    have lq : ∀ q l : List Rat, trim q = q → l = pmul q g → l.length ≤ K → q.length ≤ 10 := fun q l tq el hl => by
      by_cases h : q = []
      · subst h; simp
      · have := (pmul_len tq tg h ng).1
        rw [← el] at this
        have := ne_len ng
        omega
    have l1 := lq q1 a t1 e1 la
    have l2 := lq q2 b t2 e2 lb
    have lg : g.length < 1000 := by
      by_cases h : a = []
      · have h2 : b ≠ [] := fun z => hab ⟨h, z⟩
        have := (dgb.trans (mon_dvd tb).2).len tg ng h2
        omega
      · have := (dga.trans (mon_dvd ta).2).len tg ng h
        omega
    have m1 : q1.length * (N + 1) ≤ 10 * (N + 1) := Nat.mul_le_mul_right _ l1
    have m2 : q2.length * (N + 1) ≤ 10 * (N + 1) := Nat.mul_le_mul_right _ l2
    have d1 : DE a g q1 [] := by rw [e1]; exact de_mul t1 ng
    have d2 : DE b g q2 [] := by rw [e2]; exact de_mul t2 ng
    have mq : ∀ q l : List Rat, trim q = q → l = pmul q g → mon l = pmul (mon q) g := fun q l tq el => by
      rw [el]
      by_cases h : q = []
      · subst h; rw [nil_pmul, mon_nil, nil_pmul]
      · exact mon_mul tq tg h ng hg1
    refine ⟨ng, tg, hg1, q1, q2, t1, t2, e1, e2, (szd_of ba bg tg ng d1 (by omega) lg (by omega)).1, (szd_of bb bg tg ng d2 (by omega) lg (by omega)).1, fun hpn => ?_, t1, t2, fun k => (fac_bits ba bg tg ng t1 e1 k).rz (by omega), fun k => (fac_bits bb bg tg ng t2 e2 k).rz (by omega), by omega, by omega, ?_⟩
    · obtain ⟨rfl, bp⟩ := hp.resolve_left hpn
      obtain ⟨q3, t3, e3⟩ := dpg
      have d3 : DE g p q3 [] := by rw [e3]; exact de_mul t3 hpn
      have l3 : q3.length ≤ 1000 := by
        by_cases h : q3 = []
        · subst h; simp
        · have := (pmul_len t3 tp h hpn).1
          rw [← e3] at this
          have := ne_len hpn
          omega
      have m3 : q3.length * (n + 1) ≤ 100 * (n + 1) := Nat.mul_le_mul_right _ (by
        by_cases h : q3 = []
        · subst h; simp
        · have := (pmul_len t3 tp h hpn).1
          rw [← e3] at this
          have := ne_len hpn
          have hga : g.length ≤ K := by
            by_cases h : a = []
            · have h2 : b ≠ [] := fun z => hab ⟨h, z⟩
              have := (dgb.trans (mon_dvd tb).2).len tg ng h2
              omega
            · have := (dga.trans (mon_dvd ta).2).len tg ng h
              omega
          omega)
      exact ⟨tp, q3, t3, e3, (szd_of bg bp tp hpn d3 lg (by omega) (by omega)).1⟩
    · obtain ⟨z, tz, ez, Z⟩ := run.by_ (by omega) tg ng hg1 bg (mon_trim t1) (mon_trim t2) (mq q1 a t1 e1) (mq q2 b t2 e2) (by rw [mon_len]; exact l1) (by rw [mon_len]; exact l2)
      have : z = [1] := by
        refine pmul_cancel tz (by rfl) tg ng ?_
        rw [← ez, pmul_comm, pmul_one tg]
      rw [this] at Z
      exact Z
end RL

set_option Elab.async false
set_option linter.all false
set_option maxRecDepth 100000
set_option maxHeartbeats 4000000
namespace K14
open PySem L2 DL RL
def f__law_cell : FD := fun ds Q _ => ∃ (ns : List Int) (k : Nat), ds = [.lst (ns.map .int), .int (k : Int)] ∧ ∀ c : Int, Q (.dat (.int c))
def f__law_pot : FD := fun ds Q _ => ∃ c : Int, ds = [.int c] ∧ ∀ ns : List Int, ns ≠ [] → Q (.own (ns.map .int))
def f__law_take : FI := fun dl ds Q _ => ∃ (ns : List Int) (m : Int), dl = ns.map .int ∧ ns ≠ [] ∧ ds = [.int m] ∧ 0 < m ∧ m < 4000000000000 ∧ ∀ (d : Int) (ns' : List Int), 0 ≤ d → d < m → ns' ≠ [] → Q (.dat (.int d)) (ns'.map .int)
def f__law_lowest : FD := fun ds Q _ => ∃ t b : Int, ds = [.int t, .int b] ∧ b ≠ 0 ∧ Q (.dat (rD (Rat.divInt t b)))
def f__law_sum : FD := fun ds Q _ => ∃ p q : Rat, ds = [rD p, rD q] ∧ rz 4400 p ∧ rz 4400 q ∧ Q (.dat (rD (p + q)))
def f__law_product : FD := fun ds Q _ => ∃ p q : Rat, ds = [rD p, rD q] ∧ rz 4400 p ∧ rz 4400 q ∧ Q (.dat (rD (p * q)))
def f__law_fraction : FI := fun dl ds Q _ => ∃ (ns : List Int), dl = ns.map .int ∧ ns ≠ [] ∧ ds = [] ∧ ∀ (r : Rat) (ns' : List Int), small r → ns' ≠ [] → Q (.dat (rD r)) (ns'.map .int)
def f__law_cut : FD := f_poly
/-- a polynomial as the law draws it -/
def smalls (n : Nat) (l : List Rat) : Prop := (∀ r ∈ l, small r) ∧ l.length ≤ n ∧ trim l = l
def f__law_poly : FI := fun dl ds Q _ => ∃ (ns : List Int) (m : Nat), dl = ns.map .int ∧ ns ≠ [] ∧ ds = [.int (m : Int)] ∧ m < 1000 ∧ ∀ (l : List Rat) (ns' : List Int), smalls (m + 1) l → ns' ≠ [] → Q (.dat (pD l)) (ns'.map .int)
def f__law_added : FD := fun ds Q _ => ∃ (a b : List Rat) (s : Int), ds = [pD a, pD b, .int s] ∧ (s = 1 ∨ s = -1) ∧ a.length < 1000 ∧ b.length < 1000 ∧ (∀ r ∈ a, rz 4400 r) ∧ (∀ r ∈ b, rz 4400 r) ∧ Q (.dat (pD (if s = 1 then padd a b else psub a b)))
def f__law_multiplied : FD := f_poly_times 0
def f__law_is : FD := fun ds Q _ => ∃ l : List Rat, ds = [pD l, pD l] ∧ Q (.dat (.bl true))
def f_law : FD := fun ds Q _ => ∃ ns : List Int, ds = [.lst (ns.map .int)] ∧ Q (.dat (.bl true))
theorem len__law_cell : ∀ ds Qw Xw, f__law_cell ds Qw Xw → ds.length = 2 := by rintro ds Q X ⟨a, b, rfl, _⟩; rfl
theorem len__law_pot : ∀ ds Qw Xw, f__law_pot ds Qw Xw → ds.length = 1 := by rintro ds Q X ⟨a, rfl, _⟩; rfl
theorem len__law_take : ∀ dl ds Qw Xw, f__law_take dl ds Qw Xw → ds.length + 1 = 2 := by rintro dl ds Q X ⟨a, b, _, _, rfl, _⟩; rfl
theorem len__law_lowest : ∀ ds Qw Xw, f__law_lowest ds Qw Xw → ds.length = 2 := by rintro ds Q X ⟨a, b, rfl, _⟩; rfl
theorem len__law_sum : ∀ ds Qw Xw, f__law_sum ds Qw Xw → ds.length = 2 := by rintro ds Q X ⟨a, b, rfl, _⟩; rfl
theorem len__law_product : ∀ ds Qw Xw, f__law_product ds Qw Xw → ds.length = 2 := by rintro ds Q X ⟨a, b, rfl, _⟩; rfl
theorem len__law_fraction : ∀ dl ds Qw Xw, f__law_fraction dl ds Qw Xw → ds.length + 1 = 1 := by rintro dl ds Q X ⟨a, _, _, rfl, _⟩; rfl
theorem len__law_cut : ∀ ds Qw Xw, f__law_cut ds Qw Xw → ds.length = 1 := len_poly
theorem len__law_poly : ∀ dl ds Qw Xw, f__law_poly dl ds Qw Xw → ds.length + 1 = 2 := by rintro dl ds Q X ⟨a, _, _, _, rfl, _⟩; rfl
theorem len__law_added : ∀ ds Qw Xw, f__law_added ds Qw Xw → ds.length = 3 := by rintro ds Q X ⟨a, b, s, rfl, _⟩; rfl
theorem len__law_multiplied : ∀ ds Qw Xw, f__law_multiplied ds Qw Xw → ds.length = 2 := len_poly_times
theorem len__law_is : ∀ ds Qw Xw, f__law_is ds Qw Xw → ds.length = 2 := by rintro ds Q X ⟨a, rfl, _⟩; rfl

def wholes (n : Nat) (l : List Rat) : Prop := (∀ r ∈ l, RL.In 1 9 r) ∧ l.length ≤ n ∧ trim l = l
def f_poly_over (C : Addr) : FD := f_poly_div C
theorem len_poly_over {C} : ∀ ds Qw Xw, f_poly_over C ds Qw Xw → ds.length = 2 := len_poly_div
def f__law_by_lead : FD := fun ds Q _ => ∃ l : List Rat, ds = [pD l] ∧ trim l = l ∧ (∀ k, rz 4400 (co l k)) ∧ l.length < 1000 ∧ Q (.dat (pD (mon l)))
theorem len__law_by_lead : ∀ ds Qw Xw, f__law_by_lead ds Qw Xw → ds.length = 1 := by rintro ds Q X ⟨a, rfl, _⟩; rfl
def f__law_rest : FD := fun ds Q _ => ∃ a b q r : List Rat, ds = [pD a, pD b] ∧ trim a = a ∧ trim b = b ∧ b ≠ [] ∧ ld b = 1 ∧ DE a b q r ∧ SzD a b q ∧ Q (.dat (pD r))
theorem len__law_rest : ∀ ds Qw Xw, f__law_rest ds Qw Xw → ds.length = 2 := by rintro ds Q X ⟨a, b, _, _, rfl, _⟩; rfl
def f__law_common : FD := fun ds Q _ => ∃ a b g : List Rat, ds = [pD a, pD b] ∧ Cm a b g ∧ Q (.dat (pD g))
theorem len__law_common : ∀ ds Qw Xw, f__law_common ds Qw Xw → ds.length = 2 := by rintro ds Q X ⟨a, b, _, rfl, _⟩; rfl
def f__law_parts : FD := fun ds Q _ => ∃ a b p : List Rat, ds = [pD a, pD b, pD p] ∧ PartsOk a b p ∧ Q (.dat (.bl true))
theorem len__law_parts : ∀ ds Qw Xw, f__law_parts ds Qw Xw → ds.length = 3 := by rintro ds Q X ⟨a, b, _, rfl, _⟩; rfl
def f__law_long : FI := fun dl ds Q _ => ∃ (ns : List Int) (b : Bool) (m k : Nat), dl = ns.map .int ∧ ns ≠ [] ∧ ds = [.bl b, .int (m : Int), .int (k : Int)] ∧ 0 < m ∧ m < 1000 ∧ k < 1000 ∧ (b = true → ∀ (l : List Rat) (ns' : List Int), wholes (m - 1) l → ns' ≠ [] → Q (.dat (pD l)) (ns'.map .int)) ∧ (b = false → ∀ (l : List Rat) (ns' : List Int), smalls (k + 1) l → ns' ≠ [] → Q (.dat (pD l)) (ns'.map .int))
theorem len__law_long : ∀ dl ds Qw Xw, f__law_long dl ds Qw Xw → ds.length + 1 = 4 := by rintro dl ds Q X ⟨a, b, _, _, _, _, rfl, _⟩; rfl
end K14

set_option Elab.async false
set_option linter.all false
set_option maxRecDepth 100000
set_option maxHeartbeats 4000000
/-! printed by gen2.py: the text by places, names by slot -/
namespace K14
open PySem L2 DL RL
def topS (i : Nat) : Stmt := PySem.Challenge.pw_rootgroup_k14_whole_greatest_common_part.main.body.getD i (.Pass ⟨0, 0, 0, 0⟩)
abbrev s_greatest_divisor : Stmt := topS 5
theorem sc_greatest_divisor : FnScope ["one", "other", "left"] ["one", "other"] (defScope s_greatest_divisor) := ⟨rfl, rfl, rfl, by decide +kernel, rfl, by decide +kernel, by decide +kernel⟩
abbrev s_fraction : Stmt := topS 6
theorem sc_fraction : FnScope ["top", "bottom", "by"] ["top", "bottom"] (defScope s_fraction) := ⟨rfl, rfl, rfl, by decide +kernel, rfl, by decide +kernel, by decide +kernel⟩
abbrev s_plus : Stmt := topS 7
theorem sc_plus : FnScope ["one", "other"] ["one", "other"] (defScope s_plus) := ⟨rfl, rfl, rfl, by decide +kernel, rfl, by decide +kernel, by decide +kernel⟩
abbrev s_minus : Stmt := topS 8
theorem sc_minus : FnScope ["one", "other"] ["one", "other"] (defScope s_minus) := ⟨rfl, rfl, rfl, by decide +kernel, rfl, by decide +kernel, by decide +kernel⟩
abbrev s_times : Stmt := topS 9
theorem sc_times : FnScope ["one", "other"] ["one", "other"] (defScope s_times) := ⟨rfl, rfl, rfl, by decide +kernel, rfl, by decide +kernel, by decide +kernel⟩
abbrev s_over : Stmt := topS 10
theorem sc_over : FnScope ["one", "other"] ["one", "other"] (defScope s_over) := ⟨rfl, rfl, rfl, by decide +kernel, rfl, by decide +kernel, by decide +kernel⟩
abbrev s_poly : Stmt := topS 12
theorem sc_poly : FnScope ["some", "many"] ["some"] (defScope s_poly) := ⟨rfl, rfl, rfl, by decide +kernel, rfl, by decide +kernel, by decide +kernel⟩
abbrev s_poly_times : Stmt := topS 13
theorem sc_poly_times : FnScope ["one", "other", "found", "j", "left", "k", "right"] ["one", "other"] (defScope s_poly_times) := ⟨rfl, rfl, rfl, by decide +kernel, rfl, by decide +kernel, by decide +kernel⟩
abbrev s_poly_over : Stmt := topS 14
theorem sc_poly_over : FnScope ["one", "other", "rest", "quotient", "k", "factor", "j", "part"] ["one", "other"] (defScope s_poly_over) := ⟨rfl, rfl, rfl, by decide +kernel, rfl, by decide +kernel, by decide +kernel⟩
abbrev s_with_lead_one : Stmt := topS 15
theorem sc_with_lead_one : FnScope ["one", "part"] ["one"] (defScope s_with_lead_one) := ⟨rfl, rfl, rfl, by decide +kernel, rfl, by decide +kernel, by decide +kernel⟩
abbrev s_common : Stmt := topS 16
theorem sc_common : FnScope ["one", "other", "left"] ["one", "other"] (defScope s_common) := ⟨rfl, rfl, rfl, by decide +kernel, rfl, by decide +kernel, by decide +kernel⟩
abbrev s__law_cell : Stmt := topS 18
theorem sc__law_cell : FnScope ["_law_script", "_law_k"] ["_law_script", "_law_k"] (defScope s__law_cell) := ⟨rfl, rfl, rfl, by decide +kernel, rfl, by decide +kernel, by decide +kernel⟩
abbrev s__law_pot : Stmt := topS 19
theorem sc__law_pot : FnScope ["_law_cell_here", "_law_number", "_law_mixed", "_law_k"] ["_law_cell_here"] (defScope s__law_pot) := ⟨rfl, rfl, rfl, by decide +kernel, rfl, by decide +kernel, by decide +kernel⟩
abbrev s__law_take : Stmt := topS 20
theorem sc__law_take : FnScope ["_law_pot_here", "_law_many", "_law_digit"] ["_law_pot_here", "_law_many"] (defScope s__law_take) := ⟨rfl, rfl, rfl, by decide +kernel, rfl, by decide +kernel, by decide +kernel⟩
abbrev s__law_lowest : Stmt := topS 21
theorem sc__law_lowest : FnScope ["_law_top", "_law_bottom", "_law_one", "_law_other"] ["_law_top", "_law_bottom"] (defScope s__law_lowest) := ⟨rfl, rfl, rfl, by decide +kernel, rfl, by decide +kernel, by decide +kernel⟩
abbrev s__law_sum : Stmt := topS 22
theorem sc__law_sum : FnScope ["_law_one", "_law_other"] ["_law_one", "_law_other"] (defScope s__law_sum) := ⟨rfl, rfl, rfl, by decide +kernel, rfl, by decide +kernel, by decide +kernel⟩
abbrev s__law_product : Stmt := topS 23
theorem sc__law_product : FnScope ["_law_one", "_law_other"] ["_law_one", "_law_other"] (defScope s__law_product) := ⟨rfl, rfl, rfl, by decide +kernel, rfl, by decide +kernel, by decide +kernel⟩
abbrev s__law_fraction : Stmt := topS 24
theorem sc__law_fraction : FnScope ["_law_pot_here", "_law_kind", "_law_top"] ["_law_pot_here"] (defScope s__law_fraction) := ⟨rfl, rfl, rfl, by decide +kernel, rfl, by decide +kernel, by decide +kernel⟩
abbrev s__law_cut : Stmt := topS 25
theorem sc__law_cut : FnScope ["_law_some", "_law_many"] ["_law_some"] (defScope s__law_cut) := ⟨rfl, rfl, rfl, by decide +kernel, rfl, by decide +kernel, by decide +kernel⟩
abbrev s__law_poly : Stmt := topS 26
theorem sc__law_poly : FnScope ["_law_pot_here", "_law_most", "_law_k"] ["_law_pot_here", "_law_most"] (defScope s__law_poly) := ⟨rfl, rfl, rfl, by decide +kernel, rfl, by decide +kernel, by decide +kernel⟩
abbrev s__law_added : Stmt := topS 27
theorem sc__law_added : FnScope ["_law_one", "_law_other", "_law_sign", "_law_found", "_law_k", "_law_left", "_law_right"] ["_law_one", "_law_other", "_law_sign"] (defScope s__law_added) := ⟨rfl, rfl, rfl, by decide +kernel, rfl, by decide +kernel, by decide +kernel⟩
abbrev s__law_multiplied : Stmt := topS 28
theorem sc__law_multiplied : FnScope ["_law_one", "_law_other", "_law_found", "_law_j", "_law_left", "_law_k", "_law_right"] ["_law_one", "_law_other"] (defScope s__law_multiplied) := ⟨rfl, rfl, rfl, by decide +kernel, rfl, by decide +kernel, by decide +kernel⟩
abbrev s__law_is : Stmt := topS 29
theorem sc__law_is : FnScope ["_law_found", "_law_due", "_law_one"] ["_law_found", "_law_due"] (defScope s__law_is) := ⟨rfl, rfl, rfl, by decide +kernel, rfl, by decide +kernel, by decide +kernel⟩
abbrev s__law_by_lead : Stmt := topS 30
theorem sc__law_by_lead : FnScope ["_law_one", "_law_top", "_law_bottom"] ["_law_one"] (defScope s__law_by_lead) := ⟨rfl, rfl, rfl, by decide +kernel, rfl, by decide +kernel, by decide +kernel⟩
abbrev s__law_rest : Stmt := topS 31
theorem sc__law_rest : FnScope ["_law_one", "_law_other", "_law_rest_here", "_law_factor", "_law_k", "_law_at", "_law_left"] ["_law_one", "_law_other"] (defScope s__law_rest) := ⟨rfl, rfl, rfl, by decide +kernel, rfl, by decide +kernel, by decide +kernel⟩
abbrev s__law_common : Stmt := topS 32
theorem sc__law_common : FnScope ["_law_one", "_law_other", "_law_left", "_law_right"] ["_law_one", "_law_other"] (defScope s__law_common) := ⟨rfl, rfl, rfl, by decide +kernel, rfl, by decide +kernel, by decide +kernel⟩
abbrev s__law_parts : Stmt := topS 33
theorem sc__law_parts : FnScope ["_law_one", "_law_other", "_law_part", "_law_found"] ["_law_one", "_law_other", "_law_part"] (defScope s__law_parts) := ⟨rfl, rfl, rfl, by decide +kernel, rfl, by decide +kernel, by decide +kernel⟩
abbrev s__law_long : Stmt := topS 34
theorem sc__law_long : FnScope ["_law_pot_here", "_law_is_long", "_law_many", "_law_most", "_law_k"] ["_law_pot_here", "_law_is_long", "_law_many", "_law_most"] (defScope s__law_long) := ⟨rfl, rfl, rfl, by decide +kernel, rfl, by decide +kernel, by decide +kernel⟩
abbrev s_law : Stmt := topS 35
theorem sc_law : FnScope ["_law_script", "_law_is_long", "_law_part", "_law_one", "_law_other", "_law_whole", "_law_twin"] ["_law_script"] (defScope s_law) := ⟨rfl, rfl, rfl, by decide +kernel, rfl, by decide +kernel, by decide +kernel⟩
structure Txt (K : PySem.W.Frag) (mg : Str → Option Value) where
  a_greatest_divisor : At K mg "greatest_divisor" s_greatest_divisor ["one", "other"]
  a_fraction : At K mg "fraction" s_fraction ["top", "bottom"]
  a_plus : At K mg "plus" s_plus ["one", "other"]
  a_minus : At K mg "minus" s_minus ["one", "other"]
  a_times : At K mg "times" s_times ["one", "other"]
  a_over : At K mg "over" s_over ["one", "other"]
  a_poly : At K mg "poly" s_poly ["some"]
  a_poly_times : At K mg "poly_times" s_poly_times ["one", "other"]
  a_poly_over : At K mg "poly_over" s_poly_over ["one", "other"]
  a_with_lead_one : At K mg "with_lead_one" s_with_lead_one ["one"]
  a_common : At K mg "common" s_common ["one", "other"]
  a__law_cell : At K mg "_law_cell" s__law_cell ["_law_script", "_law_k"]
  a__law_pot : At K mg "_law_pot" s__law_pot ["_law_cell_here"]
  a__law_take : At K mg "_law_take" s__law_take ["_law_pot_here", "_law_many"]
  a__law_lowest : At K mg "_law_lowest" s__law_lowest ["_law_top", "_law_bottom"]
  a__law_sum : At K mg "_law_sum" s__law_sum ["_law_one", "_law_other"]
  a__law_product : At K mg "_law_product" s__law_product ["_law_one", "_law_other"]
  a__law_fraction : At K mg "_law_fraction" s__law_fraction ["_law_pot_here"]
  a__law_cut : At K mg "_law_cut" s__law_cut ["_law_some"]
  a__law_poly : At K mg "_law_poly" s__law_poly ["_law_pot_here", "_law_most"]
  a__law_added : At K mg "_law_added" s__law_added ["_law_one", "_law_other", "_law_sign"]
  a__law_multiplied : At K mg "_law_multiplied" s__law_multiplied ["_law_one", "_law_other"]
  a__law_is : At K mg "_law_is" s__law_is ["_law_found", "_law_due"]
  a__law_by_lead : At K mg "_law_by_lead" s__law_by_lead ["_law_one"]
  a__law_rest : At K mg "_law_rest" s__law_rest ["_law_one", "_law_other"]
  a__law_common : At K mg "_law_common" s__law_common ["_law_one", "_law_other"]
  a__law_parts : At K mg "_law_parts" s__law_parts ["_law_one", "_law_other", "_law_part"]
  a__law_long : At K mg "_law_long" s__law_long ["_law_pot_here", "_law_is_long", "_law_many", "_law_most"]
  a_law : At K mg "law" s_law ["_law_script"]
  n_abs : mg "abs" = none
  x_NoDivisor : Addr
  g_NoDivisor : mg "NoDivisor" = some (.ref x_NoDivisor)
  q_NoDivisor : PySem.W.excIn K x_NoDivisor [.type "ValueError", .type "Exception", .type "BaseException", .type "object"] "ValueError.__new__" = true
  k_NoDivisor : PySem.W.keepIn K (.ref x_NoDivisor) = true
  b_NoDivisor : PySem.W.subIn K (.ref x_NoDivisor) (.type "BaseException") = some true
  t_NoDivisor : PySem.W.typeIn K (.ref x_NoDivisor) = some (.type "type")
  sr : seerB K = true
  n_len : mg "len" = none
  n_tuple : mg "tuple" = none
  x_NOUGHT : Addr
  c_NOUGHT : mg "NOUGHT" = some (.ref x_NOUGHT)
  i_NOUGHT : ∀ B H, Ip K B H (.ref x_NOUGHT) (rD 0)
  n_max : mg "max" = none
  n_enumerate : mg "enumerate" = none
  n_list : mg "list" = none
  n_reversed : mg "reversed" = none
  n_range : mg "range" = none
  n_isinstance : mg "isinstance" = none
  n_int : mg "int" = none
  n_bool : mg "bool" = none
section
variable {P : Program} [PlP P] {w : World} {K : PySem.W.Frag} {mg : Str → Option Value} {base : Heap}
def w_greatest_divisor : SW := (wSeq (wSet 2 (wTup (wCons (wCB gAbs (wCons (wVar 0) wNil)) (wCons (wCB gAbs (wCons (wVar 1) wNil)) wNil)))) (wSeq (wWhile (wTb (wOp gNe (wOp gIx (wVar 2) (wC (.int 1))) (wC (.int 0)))) (wSet 2 (wTup (wCons (wOp gIx (wVar 2) (wC (.int 1))) (wCons (wOp gMod (wOp gIx (wVar 2) (wC (.int 0))) (wOp gIx (wVar 2) (wC (.int 1)))) wNil))))) (wRet (wOp gIx (wVar 2) (wC (.int 0))))))
theorem d_greatest_divisor (T : Txt K mg) : ∀ (cdv : Value) (A : Around) (outer : List PySem.Env) (s : Shared) (H : Hp) (E : XK), Room 40 (A.deeper (PyProof.Rows.envOfC "greatest_divisor" (defScope s_greatest_divisor) s.heap.objs.size T.a_greatest_divisor.f cdv)) → DSs (cxOf (L2.CX P w) P w K mg base ["one", "other", "left"] "greatest_divisor" (defScope s_greatest_divisor) T.a_greatest_divisor.f cdv A outer s H E) (fun c d _ H => E c d H) (defBody s_greatest_divisor) (w_greatest_divisor) := by
  intro cdv A outer s H E hr
  exact (dss_cons (ds_set 2 sc_greatest_divisor.nd (de_tup (da_cons (de_cb call_abs cs_abs (by rfl) T.n_abs (by decide +kernel) (da_cons (de_var 0) da_nil)) (da_cons (de_cb call_abs cs_abs (by rfl) T.n_abs (by decide +kernel) (da_cons (de_var 1) da_nil)) da_nil)))) (dss_cons (ds_while (passes_of rfl) (dt_cmp (op_neD hr.units) ops_ne (de_ix (de_var 2) de_int) de_int (nomark _)) (dss_one (ds_set 2 sc_greatest_divisor.nd (de_tup (da_cons (de_ix (de_var 2) de_int) (da_cons (de_op op_modN ops_mod (de_ix (de_var 2) de_int) (de_ix (de_var 2) de_int)) da_nil)))))) (dss_one (ds_ret (de_ix (de_var 2) de_int)))))
def w_fraction (T : Txt K mg) : SW := (wSeq (wIf (wTb (wOp gEq (wVar 1) (wC (.int 0)))) (wRaise (.ref T.x_NoDivisor)) wNext) (wSeq (wSet 2 (wCallD f_greatest_divisor (wCons (wVar 0) (wCons (wVar 1) wNil)))) (wSeq (wIf (wTb (wOp gLt (wVar 1) (wC (.int 0)))) (wSet 2 (wUn gNeg (wVar 2))) wNext) (wRet (wTup (wCons (wOp gDivP (wVar 0) (wVar 2)) (wCons (wOp gDivP (wVar 1) (wVar 2)) wNil)))))))
theorem d_fraction (T : Txt K mg) (h_greatest_divisor : FnOk P w K mg base (L2.CX P w) 41 T.a_greatest_divisor.f T.a_greatest_divisor.fd ["one", "other"] (spD K 2 f_greatest_divisor)) : ∀ (cdv : Value) (A : Around) (outer : List PySem.Env) (s : Shared) (H : Hp) (E : XK), Room 41 (A.deeper (PyProof.Rows.envOfC "fraction" (defScope s_fraction) s.heap.objs.size T.a_fraction.f cdv)) → DSs (cxOf (L2.CX P w) P w K mg base ["top", "bottom", "by"] "fraction" (defScope s_fraction) T.a_fraction.f cdv A outer s H E) (fun c d _ H => E c d H) (defBody s_fraction) (w_fraction T) := by
  intro cdv A outer s H E hr
  exact (dss_cons (ds_if (dt_cmp (op_eqD hr.units) ops_eq (de_var 1) de_int (nomark _)) (dss_one (ds_raise rfl (takes_of rfl rfl rfl rfl) (pmk_own PySem.F.excBase_ValueError T.q_NoDivisor T.g_NoDivisor T.k_NoDivisor (raises_own T.b_NoDivisor T.t_NoDivisor) rfl))) dss_nil) (dss_cons (ds_set 2 sc_fraction.nd (de_callD h_greatest_divisor (hr.mono (by decide)) (by rfl) T.a_greatest_divisor.g T.a_greatest_divisor.F.kp T.a_greatest_divisor.b (takes_of rfl rfl rfl rfl) len_greatest_divisor (da_cons (de_var 0) (da_cons (de_var 1) da_nil)))) (dss_cons (ds_if (dt_cmp op_lt ops_lt (de_var 1) de_int (nomark _)) (dss_one (ds_set 2 sc_fraction.nd (de_un un_neg uns_neg (de_var 2)))) dss_nil) (dss_one (ds_ret (de_tup (da_cons (de_op (op_fdivP ‹PlP P› (hr.mono (by decide)) ⟨_, _, rfl, rfl, rfl, rfl, rfl⟩ T.sr) ops_divP (de_var 0) (de_var 2)) (da_cons (de_op (op_fdivP ‹PlP P› (hr.mono (by decide)) ⟨_, _, rfl, rfl, rfl, rfl, rfl⟩ T.sr) ops_divP (de_var 1) (de_var 2)) da_nil))))))))
def w_plus (T : Txt K mg) : SW := (wSeq (wIf (wAnd (wTb (wOp gEq (wOp gIx (wVar 0) (wC (.int 1))) (wC (.int 1)))) (wTb (wOp gEq (wOp gIx (wVar 1) (wC (.int 1))) (wC (.int 1))))) (wRet (wTup (wCons (wOp gAdd (wOp gIx (wVar 0) (wC (.int 0))) (wOp gIx (wVar 1) (wC (.int 0)))) (wCons (wC (.int 1)) wNil)))) wNext) (wRet (wCallD (f_fraction T.x_NoDivisor) (wCons (wOp gAdd (wOp gMul (wOp gIx (wVar 0) (wC (.int 0))) (wOp gIx (wVar 1) (wC (.int 1)))) (wOp gMul (wOp gIx (wVar 1) (wC (.int 0))) (wOp gIx (wVar 0) (wC (.int 1))))) (wCons (wOp gMul (wOp gIx (wVar 0) (wC (.int 1))) (wOp gIx (wVar 1) (wC (.int 1)))) wNil)))))
theorem d_plus (T : Txt K mg) (h_fraction : FnOk P w K mg base (L2.CX P w) 42 T.a_fraction.f T.a_fraction.fd ["top", "bottom"] (spD K 2 (f_fraction T.x_NoDivisor))) : ∀ (cdv : Value) (A : Around) (outer : List PySem.Env) (s : Shared) (H : Hp) (E : XK), Room 42 (A.deeper (PyProof.Rows.envOfC "plus" (defScope s_plus) s.heap.objs.size T.a_plus.f cdv)) → DSs (cxOf (L2.CX P w) P w K mg base ["one", "other"] "plus" (defScope s_plus) T.a_plus.f cdv A outer s H E) (fun c d _ H => E c d H) (defBody s_plus) (w_plus T) := by
  intro cdv A outer s H E hr
  exact (dss_cons (ds_if (dt_w (dw_and (dt_cmp (op_eqD hr.units) ops_eq (de_ix (de_var 0) de_int) de_int (nomark _)) (dw_and1 (dt_cmp (op_eqD hr.units) ops_eq (de_ix (de_var 1) de_int) de_int (nomark _))))) (dss_one (ds_ret (de_tup (da_cons (de_op op_addA ops_add (de_ix (de_var 0) de_int) (de_ix (de_var 1) de_int)) (da_cons de_int da_nil))))) dss_nil) (dss_one (ds_ret (de_callD h_fraction (hr.mono (by decide)) (by rfl) T.a_fraction.g T.a_fraction.F.kp T.a_fraction.b (takes_of rfl rfl rfl rfl) len_fraction (da_cons (de_op op_addA ops_add (de_op op_mulI ops_mul (de_ix (de_var 0) de_int) (de_ix (de_var 1) de_int)) (de_op op_mulI ops_mul (de_ix (de_var 1) de_int) (de_ix (de_var 0) de_int))) (da_cons (de_op op_mulI ops_mul (de_ix (de_var 0) de_int) (de_ix (de_var 1) de_int)) da_nil))))))
def w_minus (T : Txt K mg) : SW := (wRet (wCallD (f_plus T.x_NoDivisor) (wCons (wVar 0) (wCons (wTup (wCons (wUn gNeg (wOp gIx (wVar 1) (wC (.int 0)))) (wCons (wOp gIx (wVar 1) (wC (.int 1))) wNil))) wNil))))
theorem d_minus (T : Txt K mg) (h_plus : FnOk P w K mg base (L2.CX P w) 43 T.a_plus.f T.a_plus.fd ["one", "other"] (spD K 2 (f_plus T.x_NoDivisor))) : ∀ (cdv : Value) (A : Around) (outer : List PySem.Env) (s : Shared) (H : Hp) (E : XK), Room 43 (A.deeper (PyProof.Rows.envOfC "minus" (defScope s_minus) s.heap.objs.size T.a_minus.f cdv)) → DSs (cxOf (L2.CX P w) P w K mg base ["one", "other"] "minus" (defScope s_minus) T.a_minus.f cdv A outer s H E) (fun c d _ H => E c d H) (defBody s_minus) (w_minus T) := by
  intro cdv A outer s H E hr
  exact (dss_one (ds_ret (de_callD h_plus (hr.mono (by decide)) (by rfl) T.a_plus.g T.a_plus.F.kp T.a_plus.b (takes_of rfl rfl rfl rfl) len_plus (da_cons (de_var 0) (da_cons (de_tup (da_cons (de_un un_neg uns_neg (de_ix (de_var 1) de_int)) (da_cons (de_ix (de_var 1) de_int) da_nil))) da_nil)))))
def w_times (T : Txt K mg) : SW := (wSeq (wIf (wAnd (wTb (wOp gEq (wOp gIx (wVar 0) (wC (.int 1))) (wC (.int 1)))) (wTb (wOp gEq (wOp gIx (wVar 1) (wC (.int 1))) (wC (.int 1))))) (wRet (wTup (wCons (wOp gMul (wOp gIx (wVar 0) (wC (.int 0))) (wOp gIx (wVar 1) (wC (.int 0)))) (wCons (wC (.int 1)) wNil)))) wNext) (wRet (wCallD (f_fraction T.x_NoDivisor) (wCons (wOp gMul (wOp gIx (wVar 0) (wC (.int 0))) (wOp gIx (wVar 1) (wC (.int 0)))) (wCons (wOp gMul (wOp gIx (wVar 0) (wC (.int 1))) (wOp gIx (wVar 1) (wC (.int 1)))) wNil)))))
theorem d_times (T : Txt K mg) (h_fraction : FnOk P w K mg base (L2.CX P w) 42 T.a_fraction.f T.a_fraction.fd ["top", "bottom"] (spD K 2 (f_fraction T.x_NoDivisor))) : ∀ (cdv : Value) (A : Around) (outer : List PySem.Env) (s : Shared) (H : Hp) (E : XK), Room 42 (A.deeper (PyProof.Rows.envOfC "times" (defScope s_times) s.heap.objs.size T.a_times.f cdv)) → DSs (cxOf (L2.CX P w) P w K mg base ["one", "other"] "times" (defScope s_times) T.a_times.f cdv A outer s H E) (fun c d _ H => E c d H) (defBody s_times) (w_times T) := by
  intro cdv A outer s H E hr
  exact (dss_cons (ds_if (dt_w (dw_and (dt_cmp (op_eqD hr.units) ops_eq (de_ix (de_var 0) de_int) de_int (nomark _)) (dw_and1 (dt_cmp (op_eqD hr.units) ops_eq (de_ix (de_var 1) de_int) de_int (nomark _))))) (dss_one (ds_ret (de_tup (da_cons (de_op op_mulI ops_mul (de_ix (de_var 0) de_int) (de_ix (de_var 1) de_int)) (da_cons de_int da_nil))))) dss_nil) (dss_one (ds_ret (de_callD h_fraction (hr.mono (by decide)) (by rfl) T.a_fraction.g T.a_fraction.F.kp T.a_fraction.b (takes_of rfl rfl rfl rfl) len_fraction (da_cons (de_op op_mulI ops_mul (de_ix (de_var 0) de_int) (de_ix (de_var 1) de_int)) (da_cons (de_op op_mulI ops_mul (de_ix (de_var 0) de_int) (de_ix (de_var 1) de_int)) da_nil))))))
def w_over (T : Txt K mg) : SW := (wSeq (wIf (wTb (wOp gEq (wOp gIx (wVar 1) (wC (.int 0))) (wC (.int 0)))) (wRaise (.ref T.x_NoDivisor)) wNext) (wRet (wCallD (f_fraction T.x_NoDivisor) (wCons (wOp gMul (wOp gIx (wVar 0) (wC (.int 0))) (wOp gIx (wVar 1) (wC (.int 1)))) (wCons (wOp gMul (wOp gIx (wVar 0) (wC (.int 1))) (wOp gIx (wVar 1) (wC (.int 0)))) wNil)))))
theorem d_over (T : Txt K mg) (h_fraction : FnOk P w K mg base (L2.CX P w) 42 T.a_fraction.f T.a_fraction.fd ["top", "bottom"] (spD K 2 (f_fraction T.x_NoDivisor))) : ∀ (cdv : Value) (A : Around) (outer : List PySem.Env) (s : Shared) (H : Hp) (E : XK), Room 42 (A.deeper (PyProof.Rows.envOfC "over" (defScope s_over) s.heap.objs.size T.a_over.f cdv)) → DSs (cxOf (L2.CX P w) P w K mg base ["one", "other"] "over" (defScope s_over) T.a_over.f cdv A outer s H E) (fun c d _ H => E c d H) (defBody s_over) (w_over T) := by
  intro cdv A outer s H E hr
  exact (dss_cons (ds_if (dt_cmp (op_eqD hr.units) ops_eq (de_ix (de_var 1) de_int) de_int (nomark _)) (dss_one (ds_raise rfl (takes_of rfl rfl rfl rfl) (pmk_own PySem.F.excBase_ValueError T.q_NoDivisor T.g_NoDivisor T.k_NoDivisor (raises_own T.b_NoDivisor T.t_NoDivisor) rfl))) dss_nil) (dss_one (ds_ret (de_callD h_fraction (hr.mono (by decide)) (by rfl) T.a_fraction.g T.a_fraction.F.kp T.a_fraction.b (takes_of rfl rfl rfl rfl) len_fraction (da_cons (de_op op_mulI ops_mul (de_ix (de_var 0) de_int) (de_ix (de_var 1) de_int)) (da_cons (de_op op_mulI ops_mul (de_ix (de_var 0) de_int) (de_ix (de_var 1) de_int)) da_nil))))))
def w_poly : SW := (wSeq (wSet 1 (wCB gLen (wCons (wVar 0) wNil))) (wSeq (wWhile (wAnd (wTb (wOp gGt (wVar 1) (wC (.int 0)))) (wTb (wOp gEq (wOp gIx (wOp gIx (wVar 0) (wOp gSub2 (wVar 1) (wC (.int 1)))) (wC (.int 0))) (wC (.int 0))))) (wSet 1 (wOp gSub2 (wVar 1) (wC (.int 1))))) (wRet (wCB gTuple (wCons (wSl (wVar 0) wNoPart (wPart (wVar 1))) wNil)))))
theorem d_poly (T : Txt K mg) : ∀ (cdv : Value) (A : Around) (outer : List PySem.Env) (s : Shared) (H : Hp) (E : XK), Room 40 (A.deeper (PyProof.Rows.envOfC "poly" (defScope s_poly) s.heap.objs.size T.a_poly.f cdv)) → DSs (cxOf (L2.CX P w) P w K mg base ["some", "many"] "poly" (defScope s_poly) T.a_poly.f cdv A outer s H E) (fun c d _ H => E c d H) (defBody s_poly) (w_poly) := by
  intro cdv A outer s H E hr
  exact (dss_cons (ds_set 1 sc_poly.nd (de_cb call_len_seq cs_len (by rfl) T.n_len (by decide +kernel) (da_cons (de_var 0) da_nil))) (dss_cons (ds_while (passes_of rfl) (dt_w (dw_and (dt_cmp op_gt ops_gt (de_var 1) de_int (nomark _)) (dw_and1 (dt_cmp (op_eqD hr.units) ops_eq (de_ix (de_ix (de_var 0) (de_op op_sub ops_sub (de_var 1) de_int)) de_int) de_int (nomark _))))) (dss_one (ds_set 1 sc_poly.nd (de_op op_sub ops_sub (de_var 1) de_int)))) (dss_one (ds_ret (de_ct call_tuple_of cs_tuple (by rfl) T.n_tuple (by decide +kernel) (da_cons (de_sl (de_var 0) do_none (do_some (de_var 1))) da_nil))))))
def w_poly_times (T : Txt K mg) : SW := (wSeq (wSet 2 (wRep (wLst (wCons (wC (rD 0)) wNil)) (wCB gMax (wCons (wOp gSub2 (wOp gAdd (wCB gLen (wCons (wVar 0) wNil)) (wCB gLen (wCons (wVar 1) wNil))) (wC (.int 1))) (wCons (wC (.int 0)) wNil))))) (wSeq (wFor (wEnum (wVar 0)) [3, 4] (spTup 2) (wFor (wEnum (wVar 1)) [5, 6] (spTup 2) (wSetIt 2 (wCallD (f_plus T.x_NoDivisor) (wCons (wOp gIx (wVar 2) (wOp gAdd (wVar 3) (wVar 5))) (wCons (wCallD (f_times T.x_NoDivisor) (wCons (wVar 4) (wCons (wVar 6) wNil))) wNil))) (wOp gAdd (wVar 3) (wVar 5))))) (wRet (wCallD f_poly (wCons (wVar 2) wNil)))))
theorem d_poly_times (T : Txt K mg) (h_plus : FnOk P w K mg base (L2.CX P w) 43 T.a_plus.f T.a_plus.fd ["one", "other"] (spD K 2 (f_plus T.x_NoDivisor))) (h_times : FnOk P w K mg base (L2.CX P w) 43 T.a_times.f T.a_times.fd ["one", "other"] (spD K 2 (f_times T.x_NoDivisor))) (h_poly : FnOk P w K mg base (L2.CX P w) 41 T.a_poly.f T.a_poly.fd ["some"] (spD K 1 f_poly)) : ∀ (cdv : Value) (A : Around) (outer : List PySem.Env) (s : Shared) (H : Hp) (E : XK), Room 43 (A.deeper (PyProof.Rows.envOfC "poly_times" (defScope s_poly_times) s.heap.objs.size T.a_poly_times.f cdv)) → DSs (cxOf (L2.CX P w) P w K mg base ["one", "other", "found", "j", "left", "k", "right"] "poly_times" (defScope s_poly_times) T.a_poly_times.f cdv A outer s H E) (fun c d _ H => E c d H) (defBody s_poly_times) (w_poly_times T) := by
  intro cdv A outer s H E hr
  exact (dss_cons (ds_set 2 sc_poly_times.nd (de_rep (de_lst (da_cons (de_glob (by rfl) T.c_NOUGHT T.i_NOUGHT) da_nil)) (de_cb (call_max2 rfl) cs_max (by rfl) T.n_max (by decide +kernel) (da_cons (de_op op_sub ops_sub (de_op op_addA ops_add (de_cb call_len_seq cs_len (by rfl) T.n_len (by decide +kernel) (da_cons (de_var 0) da_nil)) (de_cb call_len_seq cs_len (by rfl) T.n_len (by decide +kernel) (da_cons (de_var 1) da_nil))) de_int) (da_cons de_int da_nil))))) (dss_cons (ds_for (passes_of rfl) rfl (di_enum (by rfl) T.n_enumerate (de_var 0)) (dg_tup rfl (dgs_cons 3 sc_poly_times.nd (dgs_cons 4 sc_poly_times.nd dgs_nil))) (dss_one (ds_for (passes_of rfl) rfl (di_enum (by rfl) T.n_enumerate (de_var 1)) (dg_tup rfl (dgs_cons 5 sc_poly_times.nd (dgs_cons 6 sc_poly_times.nd dgs_nil))) (dss_one (ds_setIt 2 (de_callD h_plus (hr.mono (by decide)) (by rfl) T.a_plus.g T.a_plus.F.kp T.a_plus.b (takes_of rfl rfl rfl rfl) len_plus (da_cons (de_ix (de_var 2) (de_op op_addA ops_add (de_var 3) (de_var 5))) (da_cons (de_callD h_times (hr.mono (by decide)) (by rfl) T.a_times.g T.a_times.F.kp T.a_times.b (takes_of rfl rfl rfl rfl) len_times (da_cons (de_var 4) (da_cons (de_var 6) da_nil))) da_nil))) (de_op op_addA ops_add (de_var 3) (de_var 5)) (hp := fun p1 p2 => ps_asg p1 (pg_sub (pv 2) p2 set_list))))))) (dss_one (ds_ret (de_callD h_poly (hr.mono (by decide)) (by rfl) T.a_poly.g T.a_poly.F.kp T.a_poly.b (takes_of rfl rfl rfl rfl) len_poly (da_cons (de_var 2) da_nil))))))
def w_poly_over (T : Txt K mg) : SW := (wSeq (wIf (wTb (wOp gEq (wVar 1) (wTup wNil))) (wRaise (.ref T.x_NoDivisor)) wNext) (wSeq (wSet 2 (wCB gList (wCons (wVar 0) wNil))) (wSeq (wSet 3 (wRep (wLst (wCons (wC (rD 0)) wNil)) (wCB gMax (wCons (wOp gAdd (wOp gSub2 (wCB gLen (wCons (wVar 0) wNil)) (wCB gLen (wCons (wVar 1) wNil))) (wC (.int 1))) (wCons (wC (.int 0)) wNil))))) (wSeq (wFor (wRevRg1 (wCB gLen (wCons (wVar 3) wNil))) [4] spName (wSeq (wSet 5 (wCallD (f_over T.x_NoDivisor) (wCons (wOp gIx (wVar 2) (wOp gSub2 (wOp gAdd (wVar 4) (wCB gLen (wCons (wVar 1) wNil))) (wC (.int 1)))) (wCons (wOp gIx (wVar 1) (wUn gNeg (wC (.int 1)))) wNil)))) (wSeq (wSetIt 3 (wVar 5) (wVar 4)) (wFor (wEnum (wVar 1)) [6, 7] (spTup 2) (wSetIt 2 (wCallD (f_minus T.x_NoDivisor) (wCons (wOp gIx (wVar 2) (wOp gAdd (wVar 4) (wVar 6))) (wCons (wCallD (f_times T.x_NoDivisor) (wCons (wVar 5) (wCons (wVar 7) wNil))) wNil))) (wOp gAdd (wVar 4) (wVar 6))))))) (wRet (wTup (wCons (wCallD f_poly (wCons (wVar 3) wNil)) (wCons (wCallD f_poly (wCons (wSl (wVar 2) wNoPart (wPart (wOp gSub2 (wCB gLen (wCons (wVar 1) wNil)) (wC (.int 1))))) wNil)) wNil))))))))
theorem d_poly_over (T : Txt K mg) (h_over : FnOk P w K mg base (L2.CX P w) 43 T.a_over.f T.a_over.fd ["one", "other"] (spD K 2 (f_over T.x_NoDivisor))) (h_minus : FnOk P w K mg base (L2.CX P w) 44 T.a_minus.f T.a_minus.fd ["one", "other"] (spD K 2 (f_minus T.x_NoDivisor))) (h_times : FnOk P w K mg base (L2.CX P w) 43 T.a_times.f T.a_times.fd ["one", "other"] (spD K 2 (f_times T.x_NoDivisor))) (h_poly : FnOk P w K mg base (L2.CX P w) 41 T.a_poly.f T.a_poly.fd ["some"] (spD K 1 f_poly)) : ∀ (cdv : Value) (A : Around) (outer : List PySem.Env) (s : Shared) (H : Hp) (E : XK), Room 44 (A.deeper (PyProof.Rows.envOfC "poly_over" (defScope s_poly_over) s.heap.objs.size T.a_poly_over.f cdv)) → DSs (cxOf (L2.CX P w) P w K mg base ["one", "other", "rest", "quotient", "k", "factor", "j", "part"] "poly_over" (defScope s_poly_over) T.a_poly_over.f cdv A outer s H E) (fun c d _ H => E c d H) (defBody s_poly_over) (w_poly_over T) := by
  intro cdv A outer s H E hr
  exact (dss_cons (ds_if (dt_cmp (op_eqD hr.units) ops_eq (de_var 1) (de_tup da_nil) (nomark _)) (dss_one (ds_raise rfl (takes_of rfl rfl rfl rfl) (pmk_own PySem.F.excBase_ValueError T.q_NoDivisor T.g_NoDivisor T.k_NoDivisor (raises_own T.b_NoDivisor T.t_NoDivisor) rfl))) dss_nil) (dss_cons (ds_set 2 sc_poly_over.nd (de_ct call_list_of cs_list (by rfl) T.n_list (by decide +kernel) (da_cons (de_var 0) da_nil))) (dss_cons (ds_set 3 sc_poly_over.nd (de_rep (de_lst (da_cons (de_glob (by rfl) T.c_NOUGHT T.i_NOUGHT) da_nil)) (de_cb (call_max2 rfl) cs_max (by rfl) T.n_max (by decide +kernel) (da_cons (de_op op_addA ops_add (de_op op_sub ops_sub (de_cb call_len_seq cs_len (by rfl) T.n_len (by decide +kernel) (da_cons (de_var 0) da_nil)) (de_cb call_len_seq cs_len (by rfl) T.n_len (by decide +kernel) (da_cons (de_var 1) da_nil))) de_int) (da_cons de_int da_nil))))) (dss_cons (ds_for (passes_of rfl) rfl (di_revRg1 (by rfl) T.n_reversed (by rfl) T.n_range (de_cb call_len_seq cs_len (by rfl) T.n_len (by decide +kernel) (da_cons (de_var 3) da_nil))) (dg_name 4 sc_poly_over.nd) (dss_cons (ds_set 5 sc_poly_over.nd (de_callD h_over (hr.mono (by decide)) (by rfl) T.a_over.g T.a_over.F.kp T.a_over.b (takes_of rfl rfl rfl rfl) len_over (da_cons (de_ix (de_var 2) (de_op op_sub ops_sub (de_op op_addA ops_add (de_var 4) (de_cb call_len_seq cs_len (by rfl) T.n_len (by decide +kernel) (da_cons (de_var 1) da_nil))) de_int)) (da_cons (de_ix (de_var 1) (de_un un_neg uns_neg de_int)) da_nil)))) (dss_cons (ds_setIt 3 (de_var 5) (de_var 4) (hp := fun p1 p2 => ps_asg p1 (pg_sub (pv 3) p2 set_list))) (dss_one (ds_for (passes_of rfl) rfl (di_enum (by rfl) T.n_enumerate (de_var 1)) (dg_tup rfl (dgs_cons 6 sc_poly_over.nd (dgs_cons 7 sc_poly_over.nd dgs_nil))) (dss_one (ds_setIt 2 (de_callD h_minus (hr.mono (by decide)) (by rfl) T.a_minus.g T.a_minus.F.kp T.a_minus.b (takes_of rfl rfl rfl rfl) len_minus (da_cons (de_ix (de_var 2) (de_op op_addA ops_add (de_var 4) (de_var 6))) (da_cons (de_callD h_times (hr.mono (by decide)) (by rfl) T.a_times.g T.a_times.F.kp T.a_times.b (takes_of rfl rfl rfl rfl) len_times (da_cons (de_var 5) (da_cons (de_var 7) da_nil))) da_nil))) (de_op op_addA ops_add (de_var 4) (de_var 6)) (hp := fun p1 p2 => ps_asg p1 (pg_sub (pv 2) p2 set_list))))))))) (dss_one (ds_ret (de_tup (da_cons (de_callD h_poly (hr.mono (by decide)) (by rfl) T.a_poly.g T.a_poly.F.kp T.a_poly.b (takes_of rfl rfl rfl rfl) len_poly (da_cons (de_var 3) da_nil)) (da_cons (de_callD h_poly (hr.mono (by decide)) (by rfl) T.a_poly.g T.a_poly.F.kp T.a_poly.b (takes_of rfl rfl rfl rfl) len_poly (da_cons (de_sl (de_var 2) do_none (do_some (de_op op_sub ops_sub (de_cb call_len_seq cs_len (by rfl) T.n_len (by decide +kernel) (da_cons (de_var 1) da_nil)) de_int))) da_nil)) da_nil)))))))))
def w_with_lead_one (T : Txt K mg) : SW := (wRet (wCB gTuple (wCons (wLc (wSrc (wVar 0)) [1] spName wYes (wCallD (f_over T.x_NoDivisor) (wCons (wVar 1) (wCons (wOp gIx (wVar 0) (wUn gNeg (wC (.int 1)))) wNil))) [1]) wNil)))
theorem d_with_lead_one (T : Txt K mg) (h_over : FnOk P w K mg base (L2.CX P w) 43 T.a_over.f T.a_over.fd ["one", "other"] (spD K 2 (f_over T.x_NoDivisor))) : ∀ (cdv : Value) (A : Around) (outer : List PySem.Env) (s : Shared) (H : Hp) (E : XK), Room 43 (A.deeper (PyProof.Rows.envOfC "with_lead_one" (defScope s_with_lead_one) s.heap.objs.size T.a_with_lead_one.f cdv)) → DSs (cxOf (L2.CX P w) P w K mg base ["one", "part"] "with_lead_one" (defScope s_with_lead_one) T.a_with_lead_one.f cdv A outer s H E) (fun c d _ H => E c d H) (defBody s_with_lead_one) (w_with_lead_one T) := by
  intro cdv A outer s H E hr
  exact (dss_one (ds_ret (de_ct call_tuple_of cs_tuple (by rfl) T.n_tuple (by decide +kernel) (da_cons (de_lc (own := [("part", 1)]) rfl sc_with_lead_one.nd (di_seq (de_var 0)) (blkOk_by (own := [("part", 1)]) (N := ["one", "part"]) (sc := defScope s_with_lead_one) (by decide +kernel)) (fun _ _ _ _ _ => (dg_name 1 sc_with_lead_one.nd)) (by decide) (fun _ _ _ _ _ => dts_nil) (fun _ _ _ _ _ => (de_callD h_over (hr.mono (by decide)) (by rfl) T.a_over.g T.a_over.F.kp T.a_over.b takes0 len_over (da_cons (de_var 1) (da_cons (de_ix (de_var 0) (de_un un_neg uns_neg de_int)) da_nil))))) da_nil))))
def w_common (T : Txt K mg) : SW := (wSeq (wSet 2 (wTup (wCons (wCallD (f_with_lead_one T.x_NoDivisor) (wCons (wVar 0) wNil)) (wCons (wCallD (f_with_lead_one T.x_NoDivisor) (wCons (wVar 1) wNil)) wNil)))) (wSeq (wWhile (wTb (wOp gNe (wOp gIx (wVar 2) (wC (.int 1))) (wTup wNil))) (wSet 2 (wTup (wCons (wOp gIx (wVar 2) (wC (.int 1))) (wCons (wCallD (f_with_lead_one T.x_NoDivisor) (wCons (wOp gIx (wCallD (f_poly_over T.x_NoDivisor) (wCons (wOp gIx (wVar 2) (wC (.int 0))) (wCons (wOp gIx (wVar 2) (wC (.int 1))) wNil))) (wC (.int 1))) wNil)) wNil))))) (wRet (wOp gIx (wVar 2) (wC (.int 0))))))
theorem d_common (T : Txt K mg) (h_with_lead_one : FnOk P w K mg base (L2.CX P w) 44 T.a_with_lead_one.f T.a_with_lead_one.fd ["one"] (spD K 1 (f_with_lead_one T.x_NoDivisor))) (h_poly_over : FnOk P w K mg base (L2.CX P w) 45 T.a_poly_over.f T.a_poly_over.fd ["one", "other"] (spD K 2 (f_poly_over T.x_NoDivisor))) : ∀ (cdv : Value) (A : Around) (outer : List PySem.Env) (s : Shared) (H : Hp) (E : XK), Room 45 (A.deeper (PyProof.Rows.envOfC "common" (defScope s_common) s.heap.objs.size T.a_common.f cdv)) → DSs (cxOf (L2.CX P w) P w K mg base ["one", "other", "left"] "common" (defScope s_common) T.a_common.f cdv A outer s H E) (fun c d _ H => E c d H) (defBody s_common) (w_common T) := by
  intro cdv A outer s H E hr
  exact (dss_cons (ds_set 2 sc_common.nd (de_tup (da_cons (de_callD h_with_lead_one (hr.mono (by decide)) (by rfl) T.a_with_lead_one.g T.a_with_lead_one.F.kp T.a_with_lead_one.b (takes_of rfl rfl rfl rfl) len_with_lead_one (da_cons (de_var 0) da_nil)) (da_cons (de_callD h_with_lead_one (hr.mono (by decide)) (by rfl) T.a_with_lead_one.g T.a_with_lead_one.F.kp T.a_with_lead_one.b (takes_of rfl rfl rfl rfl) len_with_lead_one (da_cons (de_var 1) da_nil)) da_nil)))) (dss_cons (ds_while (passes_of rfl) (dt_cmp (op_neD hr.units) ops_ne (de_ix (de_var 2) de_int) (de_tup da_nil) (nomark _)) (dss_one (ds_set 2 sc_common.nd (de_tup (da_cons (de_ix (de_var 2) de_int) (da_cons (de_callD h_with_lead_one (hr.mono (by decide)) (by rfl) T.a_with_lead_one.g T.a_with_lead_one.F.kp T.a_with_lead_one.b (takes_of rfl rfl rfl rfl) len_with_lead_one (da_cons (de_ix (de_callD h_poly_over (hr.mono (by decide)) (by rfl) T.a_poly_over.g T.a_poly_over.F.kp T.a_poly_over.b (takes_of rfl rfl rfl rfl) len_poly_over (da_cons (de_ix (de_var 2) de_int) (da_cons (de_ix (de_var 2) de_int) da_nil))) de_int) da_nil)) da_nil)))))) (dss_one (ds_ret (de_ix (de_var 2) de_int)))))
def w__law_cell : SW := (wSeq (wIf (wTb (wOp gLt (wVar 1) (wCB gLen (wCons (wVar 0) wNil)))) (wRet (wOp gIx (wVar 0) (wVar 1))) wNext) (wRet (wC (.int 0))))
theorem d__law_cell (T : Txt K mg) : ∀ (cdv : Value) (A : Around) (outer : List PySem.Env) (s : Shared) (H : Hp) (E : XK), Room 40 (A.deeper (PyProof.Rows.envOfC "_law_cell" (defScope s__law_cell) s.heap.objs.size T.a__law_cell.f cdv)) → DSs (cxOf (L2.CX P w) P w K mg base ["_law_script", "_law_k"] "_law_cell" (defScope s__law_cell) T.a__law_cell.f cdv A outer s H E) (fun c d _ H => E c d H) (defBody s__law_cell) (w__law_cell) := by
  intro cdv A outer s H E hr
  exact (dss_cons (ds_if (dt_cmp op_lt ops_lt (de_var 1) (de_cb call_len_seq cs_len (by rfl) T.n_len (by decide +kernel) (da_cons (de_var 0) da_nil)) (nomark _)) (dss_one (ds_ret (de_ix (de_var 0) (de_var 1)))) dss_nil) (dss_one (ds_ret de_int)))
def w__law_pot : SW := (wSeq (wSet 1 (wOp gAdd (wOp gMod (wVar 0) (wOp gSub2 (wOp gPow (wC (.int 2)) (wC (.int 61))) (wC (.int 2)))) (wC (.int 1)))) (wSeq (wSet 2 (wC (.int 0))) (wSeq (wFor (wRg1 (wC (.int 44))) [3] spName (wSeq (wSet 1 (wOp gMod (wOp gMul (wVar 1) (wC (.int 437799614237992725))) (wOp gSub2 (wOp gPow (wC (.int 2)) (wC (.int 61))) (wC (.int 1))))) (wSet 2 (wOp gAdd (wOp gMul (wVar 2) (wOp gPow (wC (.int 2)) (wC (.int 61)))) (wVar 1))))) (wSeq (wIf (wTb (wOp gGe (wVar 0) (wOp gPow (wC (.int 10)) (wC (.int 18))))) (wRet (wLst (wCons (wVar 2) (wCons (wOp gSub2 (wVar 0) (wOp gPow (wC (.int 10)) (wC (.int 18)))) wNil)))) wNext) (wRet (wLst (wCons (wVar 2) wNil)))))))
theorem d__law_pot (T : Txt K mg) : ∀ (cdv : Value) (A : Around) (outer : List PySem.Env) (s : Shared) (H : Hp) (E : XK), Room 40 (A.deeper (PyProof.Rows.envOfC "_law_pot" (defScope s__law_pot) s.heap.objs.size T.a__law_pot.f cdv)) → DSs (cxOf (L2.CX P w) P w K mg base ["_law_cell_here", "_law_number", "_law_mixed", "_law_k"] "_law_pot" (defScope s__law_pot) T.a__law_pot.f cdv A outer s H E) (fun c d _ H => E c d H) (defBody s__law_pot) (w__law_pot) := by
  intro cdv A outer s H E hr
  exact (dss_cons (ds_set 1 sc__law_pot.nd (de_op op_addA ops_add (de_op op_modN ops_mod (de_var 0) (de_op op_sub ops_sub (de_op op_pow ops_pow de_int de_int) de_int)) de_int)) (dss_cons (ds_set 2 sc__law_pot.nd de_int) (dss_cons (ds_for (passes_of rfl) rfl (di_range1 (by rfl) T.n_range de_int) (dg_name 3 sc__law_pot.nd) (dss_cons (ds_set 1 sc__law_pot.nd (de_op op_modN ops_mod (de_op op_mulI ops_mul (de_var 1) de_int) (de_op op_sub ops_sub (de_op op_pow ops_pow de_int de_int) de_int))) (dss_one (ds_set 2 sc__law_pot.nd (de_op op_addA ops_add (de_op op_mulI ops_mul (de_var 2) (de_op op_pow ops_pow de_int de_int)) (de_var 1)))))) (dss_cons (ds_if (dt_cmp op_ge ops_ge (de_var 0) (de_op op_pow ops_pow de_int de_int) (nomark _)) (dss_one (ds_ret (de_lst (da_cons (de_var 2) (da_cons (de_op op_sub ops_sub (de_var 0) (de_op op_pow ops_pow de_int de_int)) da_nil))))) dss_nil) (dss_one (ds_ret (de_lst (da_cons (de_var 2) da_nil))))))))
def w__law_take : SW := (wSeq (wSet 2 (wOp gMod (wOp gIx (wVar 0) (wUn gNeg (wC (.int 1)))) (wVar 1))) (wSeq (wSetIt 0 (wOp gDivP (wOp gIx (wVar 0) (wUn gNeg (wC (.int 1)))) (wVar 1)) (wUn gNeg (wC (.int 1)))) (wSeq (wIf (wAnd (wTb (wOp gEq (wOp gIx (wVar 0) (wUn gNeg (wC (.int 1)))) (wC (.int 0)))) (wTb (wOp gGt (wCB gLen (wCons (wVar 0) wNil)) (wC (.int 1))))) (wDrop (wMt0 mPop 0)) wNext) (wRet (wVar 2)))))
theorem d__law_take (T : Txt K mg) : ∀ (cdv : Value) (A : Around) (outer : List PySem.Env) (s : Shared) (H : Hp) (E : XK), Room 40 (A.deeper (PyProof.Rows.envOfC "_law_take" (defScope s__law_take) s.heap.objs.size T.a__law_take.f cdv)) → DSs (cxOf (L2.CX P w) P w K mg base ["_law_pot_here", "_law_many", "_law_digit"] "_law_take" (defScope s__law_take) T.a__law_take.f cdv A outer s H E) (fun c d _ H => E c d H) (defBody s__law_take) (w__law_take) := by
  intro cdv A outer s H E hr
  exact (dss_cons (ds_set 2 sc__law_take.nd (de_op op_modN ops_mod (de_ix (de_var 0) (de_un un_neg uns_neg de_int)) (de_var 1))) (dss_cons (ds_setIt 0 (de_op (op_fdivP ‹PlP P› (hr.mono (by decide)) ⟨_, _, rfl, rfl, rfl, rfl, rfl⟩ T.sr) ops_divP (de_ix (de_var 0) (de_un un_neg uns_neg de_int)) (de_var 1)) (de_un un_neg uns_neg de_int) (hp := fun p1 p2 => ps_asg p1 (pg_sub (pv 0) p2 set_list))) (dss_cons (ds_if (dt_w (dw_and (dt_cmp (op_eqD hr.units) ops_eq (de_ix (de_var 0) (de_un un_neg uns_neg de_int)) de_int (nomark _)) (dw_and1 (dt_cmp op_gt ops_gt (de_cb call_len_seq cs_len (by rfl) T.n_len (by decide +kernel) (da_cons (de_var 0) da_nil)) de_int (nomark _))))) (dss_one (ds_expr (de_mt0 0 PySem.F.slot_list_pop PySem.F.type_list_pop mt_pop ms_pop))) dss_nil) (dss_one (ds_ret (de_var 2))))))
def w__law_lowest : SW := (wSeq (wSet 2 (wCB gAbs (wCons (wVar 0) wNil))) (wSeq (wSet 3 (wCB gAbs (wCons (wVar 1) wNil))) (wSeq (wWhile (wTb (wOp gGt (wVar 3) (wC (.int 0)))) (wPar 2 3 (wVar 3) (wOp gMod (wVar 2) (wVar 3)))) (wSeq (wIf (wTb (wOp gLt (wVar 1) (wC (.int 0)))) (wSet 2 (wUn gNeg (wVar 2))) wNext) (wRet (wTup (wCons (wOp gDivP (wVar 0) (wVar 2)) (wCons (wOp gDivP (wVar 1) (wVar 2)) wNil))))))))
theorem d__law_lowest (T : Txt K mg) : ∀ (cdv : Value) (A : Around) (outer : List PySem.Env) (s : Shared) (H : Hp) (E : XK), Room 40 (A.deeper (PyProof.Rows.envOfC "_law_lowest" (defScope s__law_lowest) s.heap.objs.size T.a__law_lowest.f cdv)) → DSs (cxOf (L2.CX P w) P w K mg base ["_law_top", "_law_bottom", "_law_one", "_law_other"] "_law_lowest" (defScope s__law_lowest) T.a__law_lowest.f cdv A outer s H E) (fun c d _ H => E c d H) (defBody s__law_lowest) (w__law_lowest) := by
  intro cdv A outer s H E hr
  exact (dss_cons (ds_set 2 sc__law_lowest.nd (de_cb call_abs cs_abs (by rfl) T.n_abs (by decide +kernel) (da_cons (de_var 0) da_nil))) (dss_cons (ds_set 3 sc__law_lowest.nd (de_cb call_abs cs_abs (by rfl) T.n_abs (by decide +kernel) (da_cons (de_var 1) da_nil))) (dss_cons (ds_while (passes_of rfl) (dt_cmp op_gt ops_gt (de_var 3) de_int (nomark _)) (dss_one (ds_par 2 3 rfl sc__law_lowest.nd (de_var 3) (de_op op_modN ops_mod (de_var 2) (de_var 3)) (hp := fun p1 p2 => ps_par (by rfl) sc__law_lowest.nd rfl rfl (by decide) rfl rfl (pa_cons p1 (pa_cons p2 pa_nil)) (by rfl))))) (dss_cons (ds_if (dt_cmp op_lt ops_lt (de_var 1) de_int (nomark _)) (dss_one (ds_set 2 sc__law_lowest.nd (de_un un_neg uns_neg (de_var 2)))) dss_nil) (dss_one (ds_ret (de_tup (da_cons (de_op (op_fdivP ‹PlP P› (hr.mono (by decide)) ⟨_, _, rfl, rfl, rfl, rfl, rfl⟩ T.sr) ops_divP (de_var 0) (de_var 2)) (da_cons (de_op (op_fdivP ‹PlP P› (hr.mono (by decide)) ⟨_, _, rfl, rfl, rfl, rfl, rfl⟩ T.sr) ops_divP (de_var 1) (de_var 2)) da_nil)))))))))
def w__law_sum : SW := (wRet (wCallD f__law_lowest (wCons (wOp gAdd (wOp gMul (wOp gIx (wVar 0) (wC (.int 0))) (wOp gIx (wVar 1) (wC (.int 1)))) (wOp gMul (wOp gIx (wVar 1) (wC (.int 0))) (wOp gIx (wVar 0) (wC (.int 1))))) (wCons (wOp gMul (wOp gIx (wVar 0) (wC (.int 1))) (wOp gIx (wVar 1) (wC (.int 1)))) wNil))))
theorem d__law_sum (T : Txt K mg) (h__law_lowest : FnOk P w K mg base (L2.CX P w) 41 T.a__law_lowest.f T.a__law_lowest.fd ["_law_top", "_law_bottom"] (spD K 2 f__law_lowest)) : ∀ (cdv : Value) (A : Around) (outer : List PySem.Env) (s : Shared) (H : Hp) (E : XK), Room 41 (A.deeper (PyProof.Rows.envOfC "_law_sum" (defScope s__law_sum) s.heap.objs.size T.a__law_sum.f cdv)) → DSs (cxOf (L2.CX P w) P w K mg base ["_law_one", "_law_other"] "_law_sum" (defScope s__law_sum) T.a__law_sum.f cdv A outer s H E) (fun c d _ H => E c d H) (defBody s__law_sum) (w__law_sum) := by
  intro cdv A outer s H E hr
  exact (dss_one (ds_ret (de_callD h__law_lowest (hr.mono (by decide)) (by rfl) T.a__law_lowest.g T.a__law_lowest.F.kp T.a__law_lowest.b (takes_of rfl rfl rfl rfl) len__law_lowest (da_cons (de_op op_addA ops_add (de_op op_mulI ops_mul (de_ix (de_var 0) de_int) (de_ix (de_var 1) de_int)) (de_op op_mulI ops_mul (de_ix (de_var 1) de_int) (de_ix (de_var 0) de_int))) (da_cons (de_op op_mulI ops_mul (de_ix (de_var 0) de_int) (de_ix (de_var 1) de_int)) da_nil)))))
def w__law_product : SW := (wRet (wCallD f__law_lowest (wCons (wOp gMul (wOp gIx (wVar 0) (wC (.int 0))) (wOp gIx (wVar 1) (wC (.int 0)))) (wCons (wOp gMul (wOp gIx (wVar 0) (wC (.int 1))) (wOp gIx (wVar 1) (wC (.int 1)))) wNil))))
theorem d__law_product (T : Txt K mg) (h__law_lowest : FnOk P w K mg base (L2.CX P w) 41 T.a__law_lowest.f T.a__law_lowest.fd ["_law_top", "_law_bottom"] (spD K 2 f__law_lowest)) : ∀ (cdv : Value) (A : Around) (outer : List PySem.Env) (s : Shared) (H : Hp) (E : XK), Room 41 (A.deeper (PyProof.Rows.envOfC "_law_product" (defScope s__law_product) s.heap.objs.size T.a__law_product.f cdv)) → DSs (cxOf (L2.CX P w) P w K mg base ["_law_one", "_law_other"] "_law_product" (defScope s__law_product) T.a__law_product.f cdv A outer s H E) (fun c d _ H => E c d H) (defBody s__law_product) (w__law_product) := by
  intro cdv A outer s H E hr
  exact (dss_one (ds_ret (de_callD h__law_lowest (hr.mono (by decide)) (by rfl) T.a__law_lowest.g T.a__law_lowest.F.kp T.a__law_lowest.b (takes_of rfl rfl rfl rfl) len__law_lowest (da_cons (de_op op_mulI ops_mul (de_ix (de_var 0) de_int) (de_ix (de_var 1) de_int)) (da_cons (de_op op_mulI ops_mul (de_ix (de_var 0) de_int) (de_ix (de_var 1) de_int)) da_nil)))))
def w__law_fraction : SW := (wSeq (wSet 1 (wCallI f__law_take (wCons (wVar 0) (wCons (wC (.int 4)) wNil)))) (wSeq (wIf (wTb (wOp gEq (wVar 1) (wC (.int 3)))) (wSeq (wSet 2 (wOp gAdd (wOp gSub2 (wCallI f__law_take (wCons (wVar 0) (wCons (wOp gSub2 (wOp gMul (wC (.int 2)) (wOp gPow (wC (.int 10)) (wC (.int 12)))) (wC (.int 1))) wNil))) (wOp gPow (wC (.int 10)) (wC (.int 12)))) (wC (.int 1)))) (wRet (wCallD f__law_lowest (wCons (wVar 2) (wCons (wOp gAdd (wC (.int 1)) (wCallI f__law_take (wCons (wVar 0) (wCons (wOp gSub2 (wOp gPow (wC (.int 10)) (wC (.int 12))) (wC (.int 1))) wNil)))) wNil))))) wNext) (wSeq (wSet 2 (wOp gSub2 (wCallI f__law_take (wCons (wVar 0) (wCons (wC (.int 19)) wNil))) (wC (.int 9)))) (wRet (wCallD f__law_lowest (wCons (wVar 2) (wCons (wOp gAdd (wC (.int 1)) (wCallI f__law_take (wCons (wVar 0) (wCons (wOp gIx (wLst (wCons (wC (.int 1)) (wCons (wC (.int 1)) (wCons (wC (.int 9)) wNil)))) (wVar 1)) wNil)))) wNil)))))))
theorem d__law_fraction (T : Txt K mg) (h__law_take : FnOk P w K mg base (L2.CX P w) 41 T.a__law_take.f T.a__law_take.fd ["_law_pot_here", "_law_many"] (spI K 2 f__law_take)) (h__law_lowest : FnOk P w K mg base (L2.CX P w) 41 T.a__law_lowest.f T.a__law_lowest.fd ["_law_top", "_law_bottom"] (spD K 2 f__law_lowest)) : ∀ (cdv : Value) (A : Around) (outer : List PySem.Env) (s : Shared) (H : Hp) (E : XK), Room 41 (A.deeper (PyProof.Rows.envOfC "_law_fraction" (defScope s__law_fraction) s.heap.objs.size T.a__law_fraction.f cdv)) → DSs (cxOf (L2.CX P w) P w K mg base ["_law_pot_here", "_law_kind", "_law_top"] "_law_fraction" (defScope s__law_fraction) T.a__law_fraction.f cdv A outer s H E) (fun c d _ H => E c d H) (defBody s__law_fraction) (w__law_fraction) := by
  intro cdv A outer s H E hr
  exact (dss_cons (ds_set 1 sc__law_fraction.nd (de_callI h__law_take (hr.mono (by decide)) (by rfl) T.a__law_take.g T.a__law_take.F.kp T.a__law_take.b (takes_of rfl rfl rfl rfl) len__law_take (da_cons (de_var 0) (da_cons de_int da_nil)))) (dss_cons (ds_if (dt_cmp (op_eqD hr.units) ops_eq (de_var 1) de_int (nomark _)) (dss_cons (ds_set 2 sc__law_fraction.nd (de_op op_addA ops_add (de_op op_sub ops_sub (de_callI h__law_take (hr.mono (by decide)) (by rfl) T.a__law_take.g T.a__law_take.F.kp T.a__law_take.b (takes_of rfl rfl rfl rfl) len__law_take (da_cons (de_var 0) (da_cons (de_op op_sub ops_sub (de_op op_mulI ops_mul de_int (de_op op_pow ops_pow de_int de_int)) de_int) da_nil))) (de_op op_pow ops_pow de_int de_int)) de_int)) (dss_one (ds_ret (de_callD h__law_lowest (hr.mono (by decide)) (by rfl) T.a__law_lowest.g T.a__law_lowest.F.kp T.a__law_lowest.b (takes_of rfl rfl rfl rfl) len__law_lowest (da_cons (de_var 2) (da_cons (de_op op_addA ops_add de_int (de_callI h__law_take (hr.mono (by decide)) (by rfl) T.a__law_take.g T.a__law_take.F.kp T.a__law_take.b (takes_of rfl rfl rfl rfl) len__law_take (da_cons (de_var 0) (da_cons (de_op op_sub ops_sub (de_op op_pow ops_pow de_int de_int) de_int) da_nil)))) da_nil)))))) dss_nil) (dss_cons (ds_set 2 sc__law_fraction.nd (de_op op_sub ops_sub (de_callI h__law_take (hr.mono (by decide)) (by rfl) T.a__law_take.g T.a__law_take.F.kp T.a__law_take.b (takes_of rfl rfl rfl rfl) len__law_take (da_cons (de_var 0) (da_cons de_int da_nil))) de_int)) (dss_one (ds_ret (de_callD h__law_lowest (hr.mono (by decide)) (by rfl) T.a__law_lowest.g T.a__law_lowest.F.kp T.a__law_lowest.b (takes_of rfl rfl rfl rfl) len__law_lowest (da_cons (de_var 2) (da_cons (de_op op_addA ops_add de_int (de_callI h__law_take (hr.mono (by decide)) (by rfl) T.a__law_take.g T.a__law_take.F.kp T.a__law_take.b (takes_of rfl rfl rfl rfl) len__law_take (da_cons (de_var 0) (da_cons (de_ix (de_lst (da_cons de_int (da_cons de_int (da_cons de_int da_nil)))) (de_var 1)) da_nil)))) da_nil))))))))
def w__law_cut : SW := (wSeq (wSet 1 (wCB gLen (wCons (wVar 0) wNil))) (wSeq (wWhile (wAnd (wTb (wOp gGt (wVar 1) (wC (.int 0)))) (wTb (wOp gEq (wOp gIx (wOp gIx (wVar 0) (wOp gSub2 (wVar 1) (wC (.int 1)))) (wC (.int 0))) (wC (.int 0))))) (wSet 1 (wOp gSub2 (wVar 1) (wC (.int 1))))) (wRet (wCB gTuple (wCons (wSl (wVar 0) wNoPart (wPart (wVar 1))) wNil)))))
theorem d__law_cut (T : Txt K mg) : ∀ (cdv : Value) (A : Around) (outer : List PySem.Env) (s : Shared) (H : Hp) (E : XK), Room 40 (A.deeper (PyProof.Rows.envOfC "_law_cut" (defScope s__law_cut) s.heap.objs.size T.a__law_cut.f cdv)) → DSs (cxOf (L2.CX P w) P w K mg base ["_law_some", "_law_many"] "_law_cut" (defScope s__law_cut) T.a__law_cut.f cdv A outer s H E) (fun c d _ H => E c d H) (defBody s__law_cut) (w__law_cut) := by
  intro cdv A outer s H E hr
  exact (dss_cons (ds_set 1 sc__law_cut.nd (de_cb call_len_seq cs_len (by rfl) T.n_len (by decide +kernel) (da_cons (de_var 0) da_nil))) (dss_cons (ds_while (passes_of rfl) (dt_w (dw_and (dt_cmp op_gt ops_gt (de_var 1) de_int (nomark _)) (dw_and1 (dt_cmp (op_eqD hr.units) ops_eq (de_ix (de_ix (de_var 0) (de_op op_sub ops_sub (de_var 1) de_int)) de_int) de_int (nomark _))))) (dss_one (ds_set 1 sc__law_cut.nd (de_op op_sub ops_sub (de_var 1) de_int)))) (dss_one (ds_ret (de_ct call_tuple_of cs_tuple (by rfl) T.n_tuple (by decide +kernel) (da_cons (de_sl (de_var 0) do_none (do_some (de_var 1))) da_nil))))))
def w__law_poly : SW := (wRet (wCallD f__law_cut (wCons (wLc (wRg1 (wCallI f__law_take (wCons (wVar 0) (wCons (wOp gAdd (wVar 1) (wC (.int 2))) wNil)))) [2] spName wYes (wCallI f__law_fraction (wCons (wVar 0) wNil)) [2]) wNil)))
theorem d__law_poly (T : Txt K mg) (h__law_cut : FnOk P w K mg base (L2.CX P w) 41 T.a__law_cut.f T.a__law_cut.fd ["_law_some"] (spD K 1 f__law_cut)) (h__law_take : FnOk P w K mg base (L2.CX P w) 41 T.a__law_take.f T.a__law_take.fd ["_law_pot_here", "_law_many"] (spI K 2 f__law_take)) (h__law_fraction : FnOk P w K mg base (L2.CX P w) 42 T.a__law_fraction.f T.a__law_fraction.fd ["_law_pot_here"] (spI K 1 f__law_fraction)) : ∀ (cdv : Value) (A : Around) (outer : List PySem.Env) (s : Shared) (H : Hp) (E : XK), Room 42 (A.deeper (PyProof.Rows.envOfC "_law_poly" (defScope s__law_poly) s.heap.objs.size T.a__law_poly.f cdv)) → DSs (cxOf (L2.CX P w) P w K mg base ["_law_pot_here", "_law_most", "_law_k"] "_law_poly" (defScope s__law_poly) T.a__law_poly.f cdv A outer s H E) (fun c d _ H => E c d H) (defBody s__law_poly) (w__law_poly) := by
  intro cdv A outer s H E hr
  exact (dss_one (ds_ret (de_callD h__law_cut (hr.mono (by decide)) (by rfl) T.a__law_cut.g T.a__law_cut.F.kp T.a__law_cut.b (takes_of rfl rfl rfl rfl) len__law_cut (da_cons (de_lc (own := [("_law_k", 2)]) rfl sc__law_poly.nd (di_range1 (by rfl) T.n_range (de_callI h__law_take (hr.mono (by decide)) (by rfl) T.a__law_take.g T.a__law_take.F.kp T.a__law_take.b (takes_of rfl rfl rfl rfl) len__law_take (da_cons (de_var 0) (da_cons (de_op op_addA ops_add (de_var 1) de_int) da_nil)))) (blkOk_by (own := [("_law_k", 2)]) (N := ["_law_pot_here", "_law_most", "_law_k"]) (sc := defScope s__law_poly) (by decide +kernel)) (fun _ _ _ _ _ => (dg_name 2 sc__law_poly.nd)) (by decide) (fun _ _ _ _ _ => dts_nil) (fun _ _ _ _ _ => (de_callI h__law_fraction (hr.mono (by decide)) (by rfl) T.a__law_fraction.g T.a__law_fraction.F.kp T.a__law_fraction.b takes0 len__law_fraction (da_cons (de_var 0) da_nil)))) da_nil))))
def w__law_added : SW := (wSeq (wSet 3 (wLst wNil)) (wSeq (wFor (wRg1 (wCB gMax (wCons (wCB gLen (wCons (wVar 0) wNil)) (wCons (wCB gLen (wCons (wVar 1) wNil)) wNil)))) [4] spName (wSeq (wSet 5 (wOp gIx (wOp gAdd (wCB gList (wCons (wSl (wVar 0) (wPart (wVar 4)) (wPart (wOp gAdd (wVar 4) (wC (.int 1))))) wNil)) (wLst (wCons (wTup (wCons (wC (.int 0)) (wCons (wC (.int 1)) wNil))) wNil))) (wC (.int 0)))) (wSeq (wSet 6 (wOp gIx (wOp gAdd (wCB gList (wCons (wSl (wVar 1) (wPart (wVar 4)) (wPart (wOp gAdd (wVar 4) (wC (.int 1))))) wNil)) (wLst (wCons (wTup (wCons (wC (.int 0)) (wCons (wC (.int 1)) wNil))) wNil))) (wC (.int 0)))) (wDrop (wMt mAppend 3 (wCons (wCallD f__law_sum (wCons (wVar 5) (wCons (wTup (wCons (wOp gMul (wVar 2) (wOp gIx (wVar 6) (wC (.int 0)))) (wCons (wOp gIx (wVar 6) (wC (.int 1))) wNil))) wNil))) wNil)))))) (wRet (wCallD f__law_cut (wCons (wVar 3) wNil)))))
theorem d__law_added (T : Txt K mg) (h__law_sum : FnOk P w K mg base (L2.CX P w) 42 T.a__law_sum.f T.a__law_sum.fd ["_law_one", "_law_other"] (spD K 2 f__law_sum)) (h__law_cut : FnOk P w K mg base (L2.CX P w) 41 T.a__law_cut.f T.a__law_cut.fd ["_law_some"] (spD K 1 f__law_cut)) : ∀ (cdv : Value) (A : Around) (outer : List PySem.Env) (s : Shared) (H : Hp) (E : XK), Room 42 (A.deeper (PyProof.Rows.envOfC "_law_added" (defScope s__law_added) s.heap.objs.size T.a__law_added.f cdv)) → DSs (cxOf (L2.CX P w) P w K mg base ["_law_one", "_law_other", "_law_sign", "_law_found", "_law_k", "_law_left", "_law_right"] "_law_added" (defScope s__law_added) T.a__law_added.f cdv A outer s H E) (fun c d _ H => E c d H) (defBody s__law_added) (w__law_added) := by
  intro cdv A outer s H E hr
  exact (dss_cons (ds_set 3 sc__law_added.nd (de_lst da_nil)) (dss_cons (ds_for (passes_of rfl) rfl (di_range1 (by rfl) T.n_range (de_cb (call_max2 rfl) cs_max (by rfl) T.n_max (by decide +kernel) (da_cons (de_cb call_len_seq cs_len (by rfl) T.n_len (by decide +kernel) (da_cons (de_var 0) da_nil)) (da_cons (de_cb call_len_seq cs_len (by rfl) T.n_len (by decide +kernel) (da_cons (de_var 1) da_nil)) da_nil)))) (dg_name 4 sc__law_added.nd) (dss_cons (ds_set 5 sc__law_added.nd (de_ix (de_op op_addA ops_add (de_ct call_list_of cs_list (by rfl) T.n_list (by decide +kernel) (da_cons (de_sl (de_var 0) (do_some (de_var 4)) (do_some (de_op op_addA ops_add (de_var 4) de_int))) da_nil)) (de_lst (da_cons (de_tup (da_cons de_int (da_cons de_int da_nil))) da_nil))) de_int)) (dss_cons (ds_set 6 sc__law_added.nd (de_ix (de_op op_addA ops_add (de_ct call_list_of cs_list (by rfl) T.n_list (by decide +kernel) (da_cons (de_sl (de_var 1) (do_some (de_var 4)) (do_some (de_op op_addA ops_add (de_var 4) de_int))) da_nil)) (de_lst (da_cons (de_tup (da_cons de_int (da_cons de_int da_nil))) da_nil))) de_int)) (dss_one (ds_expr (de_mt 3 PySem.F.slot_list_append PySem.F.type_list_append mt_append ms_append (da_cons (de_callD h__law_sum (hr.mono (by decide)) (by rfl) T.a__law_sum.g T.a__law_sum.F.kp T.a__law_sum.b (takes_of rfl rfl rfl rfl) len__law_sum (da_cons (de_var 5) (da_cons (de_tup (da_cons (de_op op_mulI ops_mul (de_var 2) (de_ix (de_var 6) de_int)) (da_cons (de_ix (de_var 6) de_int) da_nil))) da_nil))) da_nil))))))) (dss_one (ds_ret (de_callD h__law_cut (hr.mono (by decide)) (by rfl) T.a__law_cut.g T.a__law_cut.F.kp T.a__law_cut.b (takes_of rfl rfl rfl rfl) len__law_cut (da_cons (de_var 3) da_nil))))))
def w__law_multiplied : SW := (wSeq (wSet 2 (wRep (wLst (wCons (wTup (wCons (wC (.int 0)) (wCons (wC (.int 1)) wNil))) wNil)) (wOp gAdd (wCB gLen (wCons (wVar 0) wNil)) (wCB gLen (wCons (wVar 1) wNil))))) (wSeq (wFor (wEnum (wVar 0)) [3, 4] (spTup 2) (wFor (wEnum (wVar 1)) [5, 6] (spTup 2) (wSetIt 2 (wCallD f__law_sum (wCons (wOp gIx (wVar 2) (wOp gAdd (wVar 3) (wVar 5))) (wCons (wCallD f__law_product (wCons (wVar 4) (wCons (wVar 6) wNil))) wNil))) (wOp gAdd (wVar 3) (wVar 5))))) (wRet (wCallD f__law_cut (wCons (wVar 2) wNil)))))
theorem d__law_multiplied (T : Txt K mg) (h__law_sum : FnOk P w K mg base (L2.CX P w) 42 T.a__law_sum.f T.a__law_sum.fd ["_law_one", "_law_other"] (spD K 2 f__law_sum)) (h__law_product : FnOk P w K mg base (L2.CX P w) 42 T.a__law_product.f T.a__law_product.fd ["_law_one", "_law_other"] (spD K 2 f__law_product)) (h__law_cut : FnOk P w K mg base (L2.CX P w) 41 T.a__law_cut.f T.a__law_cut.fd ["_law_some"] (spD K 1 f__law_cut)) : ∀ (cdv : Value) (A : Around) (outer : List PySem.Env) (s : Shared) (H : Hp) (E : XK), Room 42 (A.deeper (PyProof.Rows.envOfC "_law_multiplied" (defScope s__law_multiplied) s.heap.objs.size T.a__law_multiplied.f cdv)) → DSs (cxOf (L2.CX P w) P w K mg base ["_law_one", "_law_other", "_law_found", "_law_j", "_law_left", "_law_k", "_law_right"] "_law_multiplied" (defScope s__law_multiplied) T.a__law_multiplied.f cdv A outer s H E) (fun c d _ H => E c d H) (defBody s__law_multiplied) (w__law_multiplied) := by
  intro cdv A outer s H E hr
  exact (dss_cons (ds_set 2 sc__law_multiplied.nd (de_rep (de_lst (da_cons (de_tup (da_cons de_int (da_cons de_int da_nil))) da_nil)) (de_op op_addA ops_add (de_cb call_len_seq cs_len (by rfl) T.n_len (by decide +kernel) (da_cons (de_var 0) da_nil)) (de_cb call_len_seq cs_len (by rfl) T.n_len (by decide +kernel) (da_cons (de_var 1) da_nil))))) (dss_cons (ds_for (passes_of rfl) rfl (di_enum (by rfl) T.n_enumerate (de_var 0)) (dg_tup rfl (dgs_cons 3 sc__law_multiplied.nd (dgs_cons 4 sc__law_multiplied.nd dgs_nil))) (dss_one (ds_for (passes_of rfl) rfl (di_enum (by rfl) T.n_enumerate (de_var 1)) (dg_tup rfl (dgs_cons 5 sc__law_multiplied.nd (dgs_cons 6 sc__law_multiplied.nd dgs_nil))) (dss_one (ds_setIt 2 (de_callD h__law_sum (hr.mono (by decide)) (by rfl) T.a__law_sum.g T.a__law_sum.F.kp T.a__law_sum.b (takes_of rfl rfl rfl rfl) len__law_sum (da_cons (de_ix (de_var 2) (de_op op_addA ops_add (de_var 3) (de_var 5))) (da_cons (de_callD h__law_product (hr.mono (by decide)) (by rfl) T.a__law_product.g T.a__law_product.F.kp T.a__law_product.b (takes_of rfl rfl rfl rfl) len__law_product (da_cons (de_var 4) (da_cons (de_var 6) da_nil))) da_nil))) (de_op op_addA ops_add (de_var 3) (de_var 5)) (hp := fun p1 p2 => ps_asg p1 (pg_sub (pv 2) p2 set_list))))))) (dss_one (ds_ret (de_callD h__law_cut (hr.mono (by decide)) (by rfl) T.a__law_cut.g T.a__law_cut.F.kp T.a__law_cut.b (takes_of rfl rfl rfl rfl) len__law_cut (da_cons (de_var 2) da_nil))))))
def w__law_is : SW := (wSeq (wIf (wOr (wNot (wTru (wCB gIsi (wCons (wVar 0) (wCons (wC (.ty "tuple")) wNil))))) (wTb (wOp gNe (wVar 0) (wVar 1)))) (wRet (wC (.bl false))) wNext) (wSeq (wFor (wSrc (wVar 0)) [2] spName (wSeq (wIf (wOr (wNot (wTru (wCB gIsi (wCons (wVar 2) (wCons (wC (.ty "tuple")) wNil))))) (wTb (wOp gNe (wCB gLen (wCons (wVar 2) wNil)) (wC (.int 2))))) (wRet (wC (.bl false))) wNext) (wSeq (wIf (wOr (wNot (wTru (wCB gIsi (wCons (wOp gIx (wVar 2) (wC (.int 0))) (wCons (wC (.ty "int")) wNil))))) (wOr (wTru (wCB gIsi (wCons (wOp gIx (wVar 2) (wC (.int 0))) (wCons (wC (.ty "bool")) wNil)))) (wNot (wTru (wCB gIsi (wCons (wOp gIx (wVar 2) (wC (.int 1))) (wCons (wC (.ty "int")) wNil))))))) (wRet (wC (.bl false))) wNext) (wIf (wTru (wCB gIsi (wCons (wOp gIx (wVar 2) (wC (.int 1))) (wCons (wC (.ty "bool")) wNil)))) (wRet (wC (.bl false))) wNext)))) (wRet (wC (.bl true)))))
theorem d__law_is (T : Txt K mg) : ∀ (cdv : Value) (A : Around) (outer : List PySem.Env) (s : Shared) (H : Hp) (E : XK), Room 40 (A.deeper (PyProof.Rows.envOfC "_law_is" (defScope s__law_is) s.heap.objs.size T.a__law_is.f cdv)) → DSs (cxOf (L2.CX P w) P w K mg base ["_law_found", "_law_due", "_law_one"] "_law_is" (defScope s__law_is) T.a__law_is.f cdv A outer s H E) (fun c d _ H => E c d H) (defBody s__law_is) (w__law_is) := by
  intro cdv A outer s H E hr
  exact (dss_cons (ds_if (dt_w (dw_or (dt_not (dt_tru (de_cb call_isi cs_isi (by rfl) T.n_isinstance (by decide +kernel) (da_cons (de_var 0) (da_cons (de_ty (by rfl) T.n_tuple (by decide +kernel)) da_nil))))) (dw_or1 (dt_cmp (op_neD hr.units) ops_ne (de_var 0) (de_var 1) (nomark _))))) (dss_one (ds_ret de_bl)) dss_nil) (dss_cons (ds_for (passes_of rfl) rfl (di_seq (de_var 0)) (dg_name 2 sc__law_is.nd) (dss_cons (ds_if (dt_w (dw_or (dt_not (dt_tru (de_cb call_isi cs_isi (by rfl) T.n_isinstance (by decide +kernel) (da_cons (de_var 2) (da_cons (de_ty (by rfl) T.n_tuple (by decide +kernel)) da_nil))))) (dw_or1 (dt_cmp (op_neD hr.units) ops_ne (de_cb call_len_seq cs_len (by rfl) T.n_len (by decide +kernel) (da_cons (de_var 2) da_nil)) de_int (nomark _))))) (dss_one (ds_ret de_bl)) dss_nil) (dss_cons (ds_if (dt_w (dw_or (dt_not (dt_tru (de_cb call_isi cs_isi (by rfl) T.n_isinstance (by decide +kernel) (da_cons (de_ix (de_var 2) de_int) (da_cons (de_ty (by rfl) T.n_int (by decide +kernel)) da_nil))))) (dw_or (dt_tru (de_cb call_isi cs_isi (by rfl) T.n_isinstance (by decide +kernel) (da_cons (de_ix (de_var 2) de_int) (da_cons (de_ty (by rfl) T.n_bool (by decide +kernel)) da_nil)))) (dw_or1 (dt_not (dt_tru (de_cb call_isi cs_isi (by rfl) T.n_isinstance (by decide +kernel) (da_cons (de_ix (de_var 2) de_int) (da_cons (de_ty (by rfl) T.n_int (by decide +kernel)) da_nil))))))))) (dss_one (ds_ret de_bl)) dss_nil) (dss_one (ds_if (dt_tru (de_cb call_isi cs_isi (by rfl) T.n_isinstance (by decide +kernel) (da_cons (de_ix (de_var 2) de_int) (da_cons (de_ty (by rfl) T.n_bool (by decide +kernel)) da_nil)))) (dss_one (ds_ret de_bl)) dss_nil))))) (dss_one (ds_ret de_bl))))
def w__law_by_lead : SW := (wRet (wCB gTuple (wCons (wLc (wSrc (wVar 0)) [1, 2] (spTup 2) wYes (wCallD f__law_lowest (wCons (wOp gMul (wVar 1) (wOp gIx (wOp gIx (wVar 0) (wUn gNeg (wC (.int 1)))) (wC (.int 1)))) (wCons (wOp gMul (wVar 2) (wOp gIx (wOp gIx (wVar 0) (wUn gNeg (wC (.int 1)))) (wC (.int 0)))) wNil))) [1, 2]) wNil)))
theorem d__law_by_lead (T : Txt K mg) (h__law_lowest : FnOk P w K mg base (L2.CX P w) 41 T.a__law_lowest.f T.a__law_lowest.fd ["_law_top", "_law_bottom"] (spD K 2 f__law_lowest)) : ∀ (cdv : Value) (A : Around) (outer : List PySem.Env) (s : Shared) (H : Hp) (E : XK), Room 41 (A.deeper (PyProof.Rows.envOfC "_law_by_lead" (defScope s__law_by_lead) s.heap.objs.size T.a__law_by_lead.f cdv)) → DSs (cxOf (L2.CX P w) P w K mg base ["_law_one", "_law_top", "_law_bottom"] "_law_by_lead" (defScope s__law_by_lead) T.a__law_by_lead.f cdv A outer s H E) (fun c d _ H => E c d H) (defBody s__law_by_lead) (w__law_by_lead) := by
  intro cdv A outer s H E hr
  exact (dss_one (ds_ret (de_ct call_tuple_of cs_tuple (by rfl) T.n_tuple (by decide +kernel) (da_cons (de_lc (own := [("_law_top", 1), ("_law_bottom", 2)]) rfl sc__law_by_lead.nd (di_seq (de_var 0)) (blkOk_by (own := [("_law_top", 1), ("_law_bottom", 2)]) (N := ["_law_one", "_law_top", "_law_bottom"]) (sc := defScope s__law_by_lead) (by decide +kernel)) (fun _ _ _ _ _ => (dg_tup rfl (dgs_cons 1 sc__law_by_lead.nd (dgs_cons 2 sc__law_by_lead.nd dgs_nil)))) (by decide) (fun _ _ _ _ _ => dts_nil) (fun _ _ _ _ _ => (de_callD h__law_lowest (hr.mono (by decide)) (by rfl) T.a__law_lowest.g T.a__law_lowest.F.kp T.a__law_lowest.b takes0 len__law_lowest (da_cons (de_op op_mulI ops_mul (de_var 1) (de_ix (de_ix (de_var 0) (de_un un_neg uns_neg de_int)) de_int)) (da_cons (de_op op_mulI ops_mul (de_var 2) (de_ix (de_ix (de_var 0) (de_un un_neg uns_neg de_int)) de_int)) da_nil))))) da_nil))))
def w__law_rest : SW := (wSeq (wSet 2 (wCB gList (wCons (wVar 0) wNil))) (wSeq (wWhile (wTb (wOp gGe (wCB gLen (wCons (wVar 2) wNil)) (wCB gLen (wCons (wVar 1) wNil)))) (wSeq (wSet 3 (wOp gIx (wVar 2) (wUn gNeg (wC (.int 1))))) (wSeq (wFor (wRg1 (wCB gLen (wCons (wVar 1) wNil))) [4] spName (wSeq (wSet 5 (wOp gAdd (wOp gSub2 (wCB gLen (wCons (wVar 2) wNil)) (wCB gLen (wCons (wVar 1) wNil))) (wVar 4))) (wSeq (wSet 6 (wCallD f__law_product (wCons (wVar 3) (wCons (wOp gIx (wVar 1) (wVar 4)) wNil)))) (wSetIt 2 (wCallD f__law_sum (wCons (wOp gIx (wVar 2) (wVar 5)) (wCons (wTup (wCons (wUn gNeg (wOp gIx (wVar 6) (wC (.int 0)))) (wCons (wOp gIx (wVar 6) (wC (.int 1))) wNil))) wNil))) (wVar 5))))) (wSet 2 (wCB gList (wCons (wCallD f__law_cut (wCons (wVar 2) wNil)) wNil)))))) (wRet (wCB gTuple (wCons (wVar 2) wNil)))))
theorem d__law_rest (T : Txt K mg) (h__law_product : FnOk P w K mg base (L2.CX P w) 42 T.a__law_product.f T.a__law_product.fd ["_law_one", "_law_other"] (spD K 2 f__law_product)) (h__law_sum : FnOk P w K mg base (L2.CX P w) 42 T.a__law_sum.f T.a__law_sum.fd ["_law_one", "_law_other"] (spD K 2 f__law_sum)) (h__law_cut : FnOk P w K mg base (L2.CX P w) 41 T.a__law_cut.f T.a__law_cut.fd ["_law_some"] (spD K 1 f__law_cut)) : ∀ (cdv : Value) (A : Around) (outer : List PySem.Env) (s : Shared) (H : Hp) (E : XK), Room 42 (A.deeper (PyProof.Rows.envOfC "_law_rest" (defScope s__law_rest) s.heap.objs.size T.a__law_rest.f cdv)) → DSs (cxOf (L2.CX P w) P w K mg base ["_law_one", "_law_other", "_law_rest_here", "_law_factor", "_law_k", "_law_at", "_law_left"] "_law_rest" (defScope s__law_rest) T.a__law_rest.f cdv A outer s H E) (fun c d _ H => E c d H) (defBody s__law_rest) (w__law_rest) := by
  intro cdv A outer s H E hr
  exact (dss_cons (ds_set 2 sc__law_rest.nd (de_ct call_list_of cs_list (by rfl) T.n_list (by decide +kernel) (da_cons (de_var 0) da_nil))) (dss_cons (ds_while (passes_of rfl) (dt_cmp op_ge ops_ge (de_cb call_len_seq cs_len (by rfl) T.n_len (by decide +kernel) (da_cons (de_var 2) da_nil)) (de_cb call_len_seq cs_len (by rfl) T.n_len (by decide +kernel) (da_cons (de_var 1) da_nil)) (nomark _)) (dss_cons (ds_set 3 sc__law_rest.nd (de_ix (de_var 2) (de_un un_neg uns_neg de_int))) (dss_cons (ds_for (passes_of rfl) rfl (di_range1 (by rfl) T.n_range (de_cb call_len_seq cs_len (by rfl) T.n_len (by decide +kernel) (da_cons (de_var 1) da_nil))) (dg_name 4 sc__law_rest.nd) (dss_cons (ds_set 5 sc__law_rest.nd (de_op op_addA ops_add (de_op op_sub ops_sub (de_cb call_len_seq cs_len (by rfl) T.n_len (by decide +kernel) (da_cons (de_var 2) da_nil)) (de_cb call_len_seq cs_len (by rfl) T.n_len (by decide +kernel) (da_cons (de_var 1) da_nil))) (de_var 4))) (dss_cons (ds_set 6 sc__law_rest.nd (de_callD h__law_product (hr.mono (by decide)) (by rfl) T.a__law_product.g T.a__law_product.F.kp T.a__law_product.b (takes_of rfl rfl rfl rfl) len__law_product (da_cons (de_var 3) (da_cons (de_ix (de_var 1) (de_var 4)) da_nil)))) (dss_one (ds_setIt 2 (de_callD h__law_sum (hr.mono (by decide)) (by rfl) T.a__law_sum.g T.a__law_sum.F.kp T.a__law_sum.b (takes_of rfl rfl rfl rfl) len__law_sum (da_cons (de_ix (de_var 2) (de_var 5)) (da_cons (de_tup (da_cons (de_un un_neg uns_neg (de_ix (de_var 6) de_int)) (da_cons (de_ix (de_var 6) de_int) da_nil))) da_nil))) (de_var 5) (hp := fun p1 p2 => ps_asg p1 (pg_sub (pv 2) p2 set_list))))))) (dss_one (ds_set 2 sc__law_rest.nd (de_ct call_list_of cs_list (by rfl) T.n_list (by decide +kernel) (da_cons (de_callD h__law_cut (hr.mono (by decide)) (by rfl) T.a__law_cut.g T.a__law_cut.F.kp T.a__law_cut.b (takes_of rfl rfl rfl rfl) len__law_cut (da_cons (de_var 2) da_nil)) da_nil))))))) (dss_one (ds_ret (de_ct call_tuple_of cs_tuple (by rfl) T.n_tuple (by decide +kernel) (da_cons (de_var 2) da_nil))))))
def w__law_common : SW := (wSeq (wSet 2 (wCallD f__law_by_lead (wCons (wVar 0) wNil))) (wSeq (wSet 3 (wCallD f__law_by_lead (wCons (wVar 1) wNil))) (wSeq (wWhile (wTb (wOp gNe (wVar 3) (wTup wNil))) (wPar 2 3 (wVar 3) (wCallD f__law_by_lead (wCons (wCallD f__law_rest (wCons (wVar 2) (wCons (wVar 3) wNil))) wNil)))) (wRet (wVar 2)))))
theorem d__law_common (T : Txt K mg) (h__law_by_lead : FnOk P w K mg base (L2.CX P w) 42 T.a__law_by_lead.f T.a__law_by_lead.fd ["_law_one"] (spD K 1 f__law_by_lead)) (h__law_rest : FnOk P w K mg base (L2.CX P w) 43 T.a__law_rest.f T.a__law_rest.fd ["_law_one", "_law_other"] (spD K 2 f__law_rest)) : ∀ (cdv : Value) (A : Around) (outer : List PySem.Env) (s : Shared) (H : Hp) (E : XK), Room 43 (A.deeper (PyProof.Rows.envOfC "_law_common" (defScope s__law_common) s.heap.objs.size T.a__law_common.f cdv)) → DSs (cxOf (L2.CX P w) P w K mg base ["_law_one", "_law_other", "_law_left", "_law_right"] "_law_common" (defScope s__law_common) T.a__law_common.f cdv A outer s H E) (fun c d _ H => E c d H) (defBody s__law_common) (w__law_common) := by
  intro cdv A outer s H E hr
  exact (dss_cons (ds_set 2 sc__law_common.nd (de_callD h__law_by_lead (hr.mono (by decide)) (by rfl) T.a__law_by_lead.g T.a__law_by_lead.F.kp T.a__law_by_lead.b (takes_of rfl rfl rfl rfl) len__law_by_lead (da_cons (de_var 0) da_nil))) (dss_cons (ds_set 3 sc__law_common.nd (de_callD h__law_by_lead (hr.mono (by decide)) (by rfl) T.a__law_by_lead.g T.a__law_by_lead.F.kp T.a__law_by_lead.b (takes_of rfl rfl rfl rfl) len__law_by_lead (da_cons (de_var 1) da_nil))) (dss_cons (ds_while (passes_of rfl) (dt_cmp (op_neD hr.units) ops_ne (de_var 3) (de_tup da_nil) (nomark _)) (dss_one (ds_par 2 3 rfl sc__law_common.nd (de_var 3) (de_callD h__law_by_lead (hr.mono (by decide)) (by rfl) T.a__law_by_lead.g T.a__law_by_lead.F.kp T.a__law_by_lead.b (takes_of rfl rfl rfl rfl) len__law_by_lead (da_cons (de_callD h__law_rest (hr.mono (by decide)) (by rfl) T.a__law_rest.g T.a__law_rest.F.kp T.a__law_rest.b (takes_of rfl rfl rfl rfl) len__law_rest (da_cons (de_var 2) (da_cons (de_var 3) da_nil))) da_nil)) (hp := fun p1 p2 => ps_par (by rfl) sc__law_common.nd rfl rfl (by decide) rfl rfl (pa_cons p1 (pa_cons p2 pa_nil)) (by rfl))))) (dss_one (ds_ret (de_var 2))))))
def w__law_parts (T : Txt K mg) : SW := (wSeq (wSet 3 (wCallD (f_common T.x_NoDivisor) (wCons (wVar 0) (wCons (wVar 1) wNil)))) (wSeq (wIf (wNot (wTru (wCallD f__law_is (wCons (wVar 3) (wCons (wCallD f__law_common (wCons (wVar 0) (wCons (wVar 1) wNil))) wNil))))) (wRet (wC (.bl false))) wNext) (wSeq (wIf (wAnd (wTb (wOp gEq (wVar 0) (wTup wNil))) (wTb (wOp gEq (wVar 1) (wTup wNil)))) (wRet (wOp gEq (wVar 3) (wTup wNil))) wNext) (wSeq (wIf (wOr (wTb (wOp gNe (wOp gIx (wVar 3) (wUn gNeg (wC (.int 1)))) (wTup (wCons (wC (.int 1)) (wCons (wC (.int 1)) wNil))))) (wOr (wTb (wOp gNe (wOp gIx (wCallD (f_poly_over T.x_NoDivisor) (wCons (wVar 0) (wCons (wVar 3) wNil))) (wC (.int 1))) (wTup wNil))) (wTb (wOp gNe (wOp gIx (wCallD (f_poly_over T.x_NoDivisor) (wCons (wVar 1) (wCons (wVar 3) wNil))) (wC (.int 1))) (wTup wNil))))) (wRet (wC (.bl false))) wNext) (wSeq (wIf (wAnd (wTb (wOp gNe (wVar 2) (wTup wNil))) (wTb (wOp gNe (wOp gIx (wCallD (f_poly_over T.x_NoDivisor) (wCons (wVar 3) (wCons (wVar 2) wNil))) (wC (.int 1))) (wTup wNil)))) (wRet (wC (.bl false))) wNext) (wRet (wCallD f__law_is (wCons (wCallD (f_common T.x_NoDivisor) (wCons (wOp gIx (wCallD (f_poly_over T.x_NoDivisor) (wCons (wVar 0) (wCons (wVar 3) wNil))) (wC (.int 0))) (wCons (wOp gIx (wCallD (f_poly_over T.x_NoDivisor) (wCons (wVar 1) (wCons (wVar 3) wNil))) (wC (.int 0))) wNil))) (wCons (wTup (wCons (wTup (wCons (wC (.int 1)) (wCons (wC (.int 1)) wNil))) wNil)) wNil)))))))))
theorem d__law_parts (T : Txt K mg) (h_common : FnOk P w K mg base (L2.CX P w) 46 T.a_common.f T.a_common.fd ["one", "other"] (spD K 2 (f_common T.x_NoDivisor))) (h__law_is : FnOk P w K mg base (L2.CX P w) 41 T.a__law_is.f T.a__law_is.fd ["_law_found", "_law_due"] (spD K 2 f__law_is)) (h__law_common : FnOk P w K mg base (L2.CX P w) 44 T.a__law_common.f T.a__law_common.fd ["_law_one", "_law_other"] (spD K 2 f__law_common)) (h_poly_over : FnOk P w K mg base (L2.CX P w) 45 T.a_poly_over.f T.a_poly_over.fd ["one", "other"] (spD K 2 (f_poly_over T.x_NoDivisor))) : ∀ (cdv : Value) (A : Around) (outer : List PySem.Env) (s : Shared) (H : Hp) (E : XK), Room 46 (A.deeper (PyProof.Rows.envOfC "_law_parts" (defScope s__law_parts) s.heap.objs.size T.a__law_parts.f cdv)) → DSs (cxOf (L2.CX P w) P w K mg base ["_law_one", "_law_other", "_law_part", "_law_found"] "_law_parts" (defScope s__law_parts) T.a__law_parts.f cdv A outer s H E) (fun c d _ H => E c d H) (defBody s__law_parts) (w__law_parts T) := by
  intro cdv A outer s H E hr
  exact (dss_cons (ds_set 3 sc__law_parts.nd (de_callD h_common (hr.mono (by decide)) (by rfl) T.a_common.g T.a_common.F.kp T.a_common.b (takes_of rfl rfl rfl rfl) len_common (da_cons (de_var 0) (da_cons (de_var 1) da_nil)))) (dss_cons (ds_if (dt_not (dt_tru (de_callD h__law_is (hr.mono (by decide)) (by rfl) T.a__law_is.g T.a__law_is.F.kp T.a__law_is.b (takes_of rfl rfl rfl rfl) len__law_is (da_cons (de_var 3) (da_cons (de_callD h__law_common (hr.mono (by decide)) (by rfl) T.a__law_common.g T.a__law_common.F.kp T.a__law_common.b (takes_of rfl rfl rfl rfl) len__law_common (da_cons (de_var 0) (da_cons (de_var 1) da_nil))) da_nil))))) (dss_one (ds_ret de_bl)) dss_nil) (dss_cons (ds_if (dt_w (dw_and (dt_cmp (op_eqD hr.units) ops_eq (de_var 0) (de_tup da_nil) (nomark _)) (dw_and1 (dt_cmp (op_eqD hr.units) ops_eq (de_var 1) (de_tup da_nil) (nomark _))))) (dss_one (ds_ret (de_cmp (op_eqD hr.units) ops_eq (de_var 3) (de_tup da_nil) (nomark _)))) dss_nil) (dss_cons (ds_if (dt_w (dw_or (dt_cmp (op_neD hr.units) ops_ne (de_ix (de_var 3) (de_un un_neg uns_neg de_int)) (de_tup (da_cons de_int (da_cons de_int da_nil))) (nomark _)) (dw_or (dt_cmp (op_neD hr.units) ops_ne (de_ix (de_callD h_poly_over (hr.mono (by decide)) (by rfl) T.a_poly_over.g T.a_poly_over.F.kp T.a_poly_over.b (takes_of rfl rfl rfl rfl) len_poly_over (da_cons (de_var 0) (da_cons (de_var 3) da_nil))) de_int) (de_tup da_nil) (nomark _)) (dw_or1 (dt_cmp (op_neD hr.units) ops_ne (de_ix (de_callD h_poly_over (hr.mono (by decide)) (by rfl) T.a_poly_over.g T.a_poly_over.F.kp T.a_poly_over.b (takes_of rfl rfl rfl rfl) len_poly_over (da_cons (de_var 1) (da_cons (de_var 3) da_nil))) de_int) (de_tup da_nil) (nomark _)))))) (dss_one (ds_ret de_bl)) dss_nil) (dss_cons (ds_if (dt_w (dw_and (dt_cmp (op_neD hr.units) ops_ne (de_var 2) (de_tup da_nil) (nomark _)) (dw_and1 (dt_cmp (op_neD hr.units) ops_ne (de_ix (de_callD h_poly_over (hr.mono (by decide)) (by rfl) T.a_poly_over.g T.a_poly_over.F.kp T.a_poly_over.b (takes_of rfl rfl rfl rfl) len_poly_over (da_cons (de_var 3) (da_cons (de_var 2) da_nil))) de_int) (de_tup da_nil) (nomark _))))) (dss_one (ds_ret de_bl)) dss_nil) (dss_one (ds_ret (de_callD h__law_is (hr.mono (by decide)) (by rfl) T.a__law_is.g T.a__law_is.F.kp T.a__law_is.b (takes_of rfl rfl rfl rfl) len__law_is (da_cons (de_callD h_common (hr.mono (by decide)) (by rfl) T.a_common.g T.a_common.F.kp T.a_common.b (takes_of rfl rfl rfl rfl) len_common (da_cons (de_ix (de_callD h_poly_over (hr.mono (by decide)) (by rfl) T.a_poly_over.g T.a_poly_over.F.kp T.a_poly_over.b (takes_of rfl rfl rfl rfl) len_poly_over (da_cons (de_var 0) (da_cons (de_var 3) da_nil))) de_int) (da_cons (de_ix (de_callD h_poly_over (hr.mono (by decide)) (by rfl) T.a_poly_over.g T.a_poly_over.F.kp T.a_poly_over.b (takes_of rfl rfl rfl rfl) len_poly_over (da_cons (de_var 1) (da_cons (de_var 3) da_nil))) de_int) da_nil))) (da_cons (de_tup (da_cons (de_tup (da_cons de_int (da_cons de_int da_nil))) da_nil)) da_nil))))))))))
def w__law_long : SW := (wSeq (wIf (wTru (wVar 1)) (wRet (wCallD f__law_cut (wCons (wLc (wRg1 (wCallI f__law_take (wCons (wVar 0) (wCons (wVar 2) wNil)))) [4] spName wYes (wTup (wCons (wOp gSub2 (wCallI f__law_take (wCons (wVar 0) (wCons (wC (.int 19)) wNil))) (wC (.int 9))) (wCons (wC (.int 1)) wNil))) [4]) wNil))) wNext) (wRet (wCallI f__law_poly (wCons (wVar 0) (wCons (wVar 3) wNil)))))
theorem d__law_long (T : Txt K mg) (h__law_cut : FnOk P w K mg base (L2.CX P w) 41 T.a__law_cut.f T.a__law_cut.fd ["_law_some"] (spD K 1 f__law_cut)) (h__law_take : FnOk P w K mg base (L2.CX P w) 41 T.a__law_take.f T.a__law_take.fd ["_law_pot_here", "_law_many"] (spI K 2 f__law_take)) (h__law_poly : FnOk P w K mg base (L2.CX P w) 43 T.a__law_poly.f T.a__law_poly.fd ["_law_pot_here", "_law_most"] (spI K 2 f__law_poly)) : ∀ (cdv : Value) (A : Around) (outer : List PySem.Env) (s : Shared) (H : Hp) (E : XK), Room 43 (A.deeper (PyProof.Rows.envOfC "_law_long" (defScope s__law_long) s.heap.objs.size T.a__law_long.f cdv)) → DSs (cxOf (L2.CX P w) P w K mg base ["_law_pot_here", "_law_is_long", "_law_many", "_law_most", "_law_k"] "_law_long" (defScope s__law_long) T.a__law_long.f cdv A outer s H E) (fun c d _ H => E c d H) (defBody s__law_long) (w__law_long) := by
  intro cdv A outer s H E hr
  exact (dss_cons (ds_if (dt_tru (de_var 1)) (dss_one (ds_ret (de_callD h__law_cut (hr.mono (by decide)) (by rfl) T.a__law_cut.g T.a__law_cut.F.kp T.a__law_cut.b (takes_of rfl rfl rfl rfl) len__law_cut (da_cons (de_lc (own := [("_law_k", 4)]) rfl sc__law_long.nd (di_range1 (by rfl) T.n_range (de_callI h__law_take (hr.mono (by decide)) (by rfl) T.a__law_take.g T.a__law_take.F.kp T.a__law_take.b (takes_of rfl rfl rfl rfl) len__law_take (da_cons (de_var 0) (da_cons (de_var 2) da_nil)))) (blkOk_by (own := [("_law_k", 4)]) (N := ["_law_pot_here", "_law_is_long", "_law_many", "_law_most", "_law_k"]) (sc := defScope s__law_long) (by decide +kernel)) (fun _ _ _ _ _ => (dg_name 4 sc__law_long.nd)) (by decide) (fun _ _ _ _ _ => dts_nil) (fun _ _ _ _ _ => (de_tup (da_cons (de_op op_sub ops_sub (de_callI h__law_take (hr.mono (by decide)) (by rfl) T.a__law_take.g T.a__law_take.F.kp T.a__law_take.b takes0 len__law_take (da_cons (de_var 0) (da_cons de_int da_nil))) de_int) (da_cons de_int da_nil))))) da_nil)))) dss_nil) (dss_one (ds_ret (de_callI h__law_poly (hr.mono (by decide)) (by rfl) T.a__law_poly.g T.a__law_poly.F.kp T.a__law_poly.b (takes_of rfl rfl rfl rfl) len__law_poly (da_cons (de_var 0) (da_cons (de_var 3) da_nil))))))
def w_law (T : Txt K mg) : SW := (wSeq (wSet 1 (wOp gEq (wOp gMod (wCallD f__law_cell (wCons (wVar 0) (wCons (wC (.int 0)) wNil))) (wC (.int 4))) (wC (.int 3)))) (wSeq (wSet 2 (wCallI f__law_long (wCons (wCallD f__law_pot (wCons (wCallD f__law_cell (wCons (wVar 0) (wCons (wC (.int 1)) wNil))) wNil)) (wCons (wVar 1) (wCons (wC (.int 22)) (wCons (wC (.int 5)) wNil)))))) (wSeq (wSet 3 (wCallI f__law_long (wCons (wCallD f__law_pot (wCons (wCallD f__law_cell (wCons (wVar 0) (wCons (wC (.int 2)) wNil))) wNil)) (wCons (wVar 1) (wCons (wC (.int 11)) (wCons (wC (.int 4)) wNil)))))) (wSeq (wSet 4 (wCallI f__law_long (wCons (wCallD f__law_pot (wCons (wCallD f__law_cell (wCons (wVar 0) (wCons (wC (.int 3)) wNil))) wNil)) (wCons (wVar 1) (wCons (wC (.int 11)) (wCons (wC (.int 4)) wNil)))))) (wSeq (wSet 5 (wCallD (f_poly_times T.x_NoDivisor) (wCons (wVar 2) (wCons (wVar 3) wNil)))) (wSeq (wSet 6 (wCallD (f_poly_times T.x_NoDivisor) (wCons (wVar 2) (wCons (wVar 4) wNil)))) (wSeq (wIf (wOr (wTb (wOp gNe (wVar 5) (wCallD f__law_multiplied (wCons (wVar 2) (wCons (wVar 3) wNil))))) (wTb (wOp gNe (wVar 6) (wCallD f__law_multiplied (wCons (wVar 2) (wCons (wVar 4) wNil)))))) (wRet (wC (.bl false))) wNext) (wSeq (wIf (wOr (wNot (wTru (wCallD f__law_parts (wCons (wVar 5) (wCons (wVar 6) (wCons (wVar 2) wNil)))))) (wNot (wTru (wCallD f__law_parts (wCons (wVar 6) (wCons (wVar 5) (wCons (wVar 2) wNil))))))) (wRet (wC (.bl false))) wNext) (wSeq (wIf (wOr (wNot (wTru (wCallD f__law_parts (wCons (wVar 3) (wCons (wVar 4) (wCons (wTup wNil) wNil)))))) (wNot (wTru (wCallD f__law_parts (wCons (wVar 2) (wCons (wTup wNil) (wCons (wVar 2) wNil))))))) (wRet (wC (.bl false))) wNext) (wRet (wAndV (wCallD f__law_parts (wCons (wTup wNil) (wCons (wVar 3) (wCons (wVar 3) wNil)))) (wOp gEq (wCallD (f_common T.x_NoDivisor) (wCons (wTup wNil) (wCons (wTup wNil) wNil))) (wTup wNil)))))))))))))
theorem d_law (T : Txt K mg) (h__law_cell : FnOk P w K mg base (L2.CX P w) 41 T.a__law_cell.f T.a__law_cell.fd ["_law_script", "_law_k"] (spD K 2 f__law_cell)) (h__law_long : FnOk P w K mg base (L2.CX P w) 44 T.a__law_long.f T.a__law_long.fd ["_law_pot_here", "_law_is_long", "_law_many", "_law_most"] (spI K 4 f__law_long)) (h__law_pot : FnOk P w K mg base (L2.CX P w) 41 T.a__law_pot.f T.a__law_pot.fd ["_law_cell_here"] (spD K 1 f__law_pot)) (h_poly_times : FnOk P w K mg base (L2.CX P w) 44 T.a_poly_times.f T.a_poly_times.fd ["one", "other"] (spD K 2 (f_poly_times T.x_NoDivisor))) (h__law_multiplied : FnOk P w K mg base (L2.CX P w) 43 T.a__law_multiplied.f T.a__law_multiplied.fd ["_law_one", "_law_other"] (spD K 2 f__law_multiplied)) (h__law_parts : FnOk P w K mg base (L2.CX P w) 47 T.a__law_parts.f T.a__law_parts.fd ["_law_one", "_law_other", "_law_part"] (spD K 3 f__law_parts)) (h_common : FnOk P w K mg base (L2.CX P w) 46 T.a_common.f T.a_common.fd ["one", "other"] (spD K 2 (f_common T.x_NoDivisor))) : ∀ (cdv : Value) (A : Around) (outer : List PySem.Env) (s : Shared) (H : Hp) (E : XK), Room 47 (A.deeper (PyProof.Rows.envOfC "law" (defScope s_law) s.heap.objs.size T.a_law.f cdv)) → DSs (cxOf (L2.CX P w) P w K mg base ["_law_script", "_law_is_long", "_law_part", "_law_one", "_law_other", "_law_whole", "_law_twin"] "law" (defScope s_law) T.a_law.f cdv A outer s H E) (fun c d _ H => E c d H) (defBody s_law) (w_law T) := by
  intro cdv A outer s H E hr
  exact (dss_cons (ds_set 1 sc_law.nd (de_cmp (op_eqD hr.units) ops_eq (de_op op_modN ops_mod (de_callD h__law_cell (hr.mono (by decide)) (by rfl) T.a__law_cell.g T.a__law_cell.F.kp T.a__law_cell.b (takes_of rfl rfl rfl rfl) len__law_cell (da_cons (de_var 0) (da_cons de_int da_nil))) de_int) de_int (nomark _))) (dss_cons (ds_set 2 sc_law.nd (de_callI h__law_long (hr.mono (by decide)) (by rfl) T.a__law_long.g T.a__law_long.F.kp T.a__law_long.b (takes_of rfl rfl rfl rfl) len__law_long (da_cons (de_callD h__law_pot (hr.mono (by decide)) (by rfl) T.a__law_pot.g T.a__law_pot.F.kp T.a__law_pot.b (takes_of rfl rfl rfl rfl) len__law_pot (da_cons (de_callD h__law_cell (hr.mono (by decide)) (by rfl) T.a__law_cell.g T.a__law_cell.F.kp T.a__law_cell.b (takes_of rfl rfl rfl rfl) len__law_cell (da_cons (de_var 0) (da_cons de_int da_nil))) da_nil)) (da_cons (de_var 1) (da_cons de_int (da_cons de_int da_nil)))))) (dss_cons (ds_set 3 sc_law.nd (de_callI h__law_long (hr.mono (by decide)) (by rfl) T.a__law_long.g T.a__law_long.F.kp T.a__law_long.b (takes_of rfl rfl rfl rfl) len__law_long (da_cons (de_callD h__law_pot (hr.mono (by decide)) (by rfl) T.a__law_pot.g T.a__law_pot.F.kp T.a__law_pot.b (takes_of rfl rfl rfl rfl) len__law_pot (da_cons (de_callD h__law_cell (hr.mono (by decide)) (by rfl) T.a__law_cell.g T.a__law_cell.F.kp T.a__law_cell.b (takes_of rfl rfl rfl rfl) len__law_cell (da_cons (de_var 0) (da_cons de_int da_nil))) da_nil)) (da_cons (de_var 1) (da_cons de_int (da_cons de_int da_nil)))))) (dss_cons (ds_set 4 sc_law.nd (de_callI h__law_long (hr.mono (by decide)) (by rfl) T.a__law_long.g T.a__law_long.F.kp T.a__law_long.b (takes_of rfl rfl rfl rfl) len__law_long (da_cons (de_callD h__law_pot (hr.mono (by decide)) (by rfl) T.a__law_pot.g T.a__law_pot.F.kp T.a__law_pot.b (takes_of rfl rfl rfl rfl) len__law_pot (da_cons (de_callD h__law_cell (hr.mono (by decide)) (by rfl) T.a__law_cell.g T.a__law_cell.F.kp T.a__law_cell.b (takes_of rfl rfl rfl rfl) len__law_cell (da_cons (de_var 0) (da_cons de_int da_nil))) da_nil)) (da_cons (de_var 1) (da_cons de_int (da_cons de_int da_nil)))))) (dss_cons (ds_set 5 sc_law.nd (de_callD h_poly_times (hr.mono (by decide)) (by rfl) T.a_poly_times.g T.a_poly_times.F.kp T.a_poly_times.b (takes_of rfl rfl rfl rfl) len_poly_times (da_cons (de_var 2) (da_cons (de_var 3) da_nil)))) (dss_cons (ds_set 6 sc_law.nd (de_callD h_poly_times (hr.mono (by decide)) (by rfl) T.a_poly_times.g T.a_poly_times.F.kp T.a_poly_times.b (takes_of rfl rfl rfl rfl) len_poly_times (da_cons (de_var 2) (da_cons (de_var 4) da_nil)))) (dss_cons (ds_if (dt_w (dw_or (dt_cmp (op_neD hr.units) ops_ne (de_var 5) (de_callD h__law_multiplied (hr.mono (by decide)) (by rfl) T.a__law_multiplied.g T.a__law_multiplied.F.kp T.a__law_multiplied.b (takes_of rfl rfl rfl rfl) len__law_multiplied (da_cons (de_var 2) (da_cons (de_var 3) da_nil))) (nomark _)) (dw_or1 (dt_cmp (op_neD hr.units) ops_ne (de_var 6) (de_callD h__law_multiplied (hr.mono (by decide)) (by rfl) T.a__law_multiplied.g T.a__law_multiplied.F.kp T.a__law_multiplied.b (takes_of rfl rfl rfl rfl) len__law_multiplied (da_cons (de_var 2) (da_cons (de_var 4) da_nil))) (nomark _))))) (dss_one (ds_ret de_bl)) dss_nil) (dss_cons (ds_if (dt_w (dw_or (dt_not (dt_tru (de_callD h__law_parts (hr.mono (by decide)) (by rfl) T.a__law_parts.g T.a__law_parts.F.kp T.a__law_parts.b (takes_of rfl rfl rfl rfl) len__law_parts (da_cons (de_var 5) (da_cons (de_var 6) (da_cons (de_var 2) da_nil)))))) (dw_or1 (dt_not (dt_tru (de_callD h__law_parts (hr.mono (by decide)) (by rfl) T.a__law_parts.g T.a__law_parts.F.kp T.a__law_parts.b (takes_of rfl rfl rfl rfl) len__law_parts (da_cons (de_var 6) (da_cons (de_var 5) (da_cons (de_var 2) da_nil))))))))) (dss_one (ds_ret de_bl)) dss_nil) (dss_cons (ds_if (dt_w (dw_or (dt_not (dt_tru (de_callD h__law_parts (hr.mono (by decide)) (by rfl) T.a__law_parts.g T.a__law_parts.F.kp T.a__law_parts.b (takes_of rfl rfl rfl rfl) len__law_parts (da_cons (de_var 3) (da_cons (de_var 4) (da_cons (de_tup da_nil) da_nil)))))) (dw_or1 (dt_not (dt_tru (de_callD h__law_parts (hr.mono (by decide)) (by rfl) T.a__law_parts.g T.a__law_parts.F.kp T.a__law_parts.b (takes_of rfl rfl rfl rfl) len__law_parts (da_cons (de_var 2) (da_cons (de_tup da_nil) (da_cons (de_var 2) da_nil))))))))) (dss_one (ds_ret de_bl)) dss_nil) (dss_one (ds_ret (de_and (de_callD h__law_parts (hr.mono (by decide)) (by rfl) T.a__law_parts.g T.a__law_parts.F.kp T.a__law_parts.b (takes_of rfl rfl rfl rfl) len__law_parts (da_cons (de_tup da_nil) (da_cons (de_var 3) (da_cons (de_var 3) da_nil)))) (de_one (de_cmp (op_eqD hr.units) ops_eq (de_callD h_common (hr.mono (by decide)) (by rfl) T.a_common.g T.a_common.F.kp T.a_common.b (takes_of rfl rfl rfl rfl) len_common (da_cons (de_tup da_nil) (da_cons (de_tup da_nil) da_nil))) (de_tup da_nil) (nomark _)))))))))))))))
end
end K14

set_option Elab.async false
set_option linter.all false
set_option maxRecDepth 100000
set_option maxHeartbeats 4000000
namespace K14
open PySem L2 DL RL
section
variable {P : Program} [PlP P] {w : World} {K : PySem.W.Frag} {mg : Str → Option Value} {base : Heap}
theorem ok_greatest_divisor (T : Txt K mg) : FnOk P w K mg base (L2.CX P w) 41 T.a_greatest_divisor.f T.a_greatest_divisor.fd ["one", "other"] (spD K 2 f_greatest_divisor) :=
  fn_D (wb := w_greatest_divisor) T.a_greatest_divisor.F sc_greatest_divisor (d_greatest_divisor T) (by
    rintro ds Q X hl ⟨a, b, rfl, h⟩
    simp [w_greatest_divisor, startE]
    refine while_by (fun y ρ => ∃ x : Nat, Nat.gcd x y = Int.gcd a b ∧ ρ = [some (.dat (.int a)), some (.dat (.int b)), some (.dat (.tup [.int x, .int y]))]) b.natAbs ⟨a.natAbs, rfl, rfl⟩ ?_
    rintro y ρ ⟨x, hg, rfl⟩
    simp [atI, ixN]
    by_cases hy : y = 0
    · subst hy
      simpa [← hg] using h
    · simp [hy]
      refine ⟨x % y, Nat.mod_lt _ (by omega), y, ?_, ?_⟩
      · rw [gcd_swap, hg]
      · rw [gcd_step]; simp)
theorem ok_fraction (T : Txt K mg) : FnOk P w K mg base (L2.CX P w) 42 T.a_fraction.f T.a_fraction.fd ["top", "bottom"] (spD K 2 (f_fraction T.x_NoDivisor)) :=
  fn_D (wb := w_fraction T) T.a_fraction.F sc_fraction (d_fraction T (ok_greatest_divisor T)) (by
    rintro ds Q X hl ⟨t, b, rfl, h0, h1⟩
    simp [w_fraction, startE]
    by_cases hb : b = 0
    · simpa [hb] using h0 hb
    · simp [hb]
      refine ⟨t, b, rfl, ?_⟩
      have hg := gcd_ne (t := t) hb
      have := h1 hb
      have low := mk_low t b hb
      unfold rD at this
      rw [← low.1, ← low.2] at this
      by_cases hn : b < 0
      · simp [hn] at this
        simp [hn, hg, this]
      · simp [hn] at this
        simp [hn, hg, this])
theorem ok_plus (T : Txt K mg) : FnOk P w K mg base (L2.CX P w) 43 T.a_plus.f T.a_plus.fd ["one", "other"] (spD K 2 (f_plus T.x_NoDivisor)) :=
  fn_D (wb := w_plus T) T.a_plus.F sc_plus (d_plus T (ok_fraction T)) (by
    rintro ds Q X hl ⟨p, q, rfl, hp, hq, h⟩
    have hf : (IntMulOk p.num q.den ∧ IntMulOk q.num p.den ∧ IntMulOk p.den q.den) := ⟨mulz hp.1 hq.2 (by decide), mulz hq.1 hp.2 (by decide), mulz hp.2 hq.2 (by decide)⟩
    have hm : ∀ (Q' : Sl → Prop) (X' : Value → Prop), Q' (.dat (rD (p + q))) → f_fraction T.x_NoDivisor [D.int (p.num * q.den + q.num * p.den), D.int (p.den * q.den)] Q' X' := fun Q' X' hq' => ⟨_, _, rfl, fun e => absurd e (Int.mul_ne_zero (den_ne p) (den_ne q)), fun _ => by rw [add_eq]; exact hq'⟩
    have h1 : (p.den : Int) = 1 → (q.den : Int) = 1 → Q (.dat (.tup [.int (p.num + q.num), .int 1])) := fun a b => by rw [add_one a b]; exact h
    have hn : (rD p).nolist = true ∧ (rD q).nolist = true := ⟨nl_rD p, nl_rD q⟩
    simp only [w_plus]
    unfold rD
    simp [startE, atI, ixN]
    split
    · split
      · exact h1 (by omega) (by omega)
      · exact ⟨hf.1, hf.2.1, hf.2.2, hm _ _ h⟩
    · exact ⟨hf.1, hf.2.1, hf.2.2, hm _ _ h⟩)
theorem ok_minus (T : Txt K mg) : FnOk P w K mg base (L2.CX P w) 44 T.a_minus.f T.a_minus.fd ["one", "other"] (spD K 2 (f_minus T.x_NoDivisor)) :=
  fn_D (wb := w_minus T) T.a_minus.F sc_minus (d_minus T (ok_plus T)) (by
    rintro ds Q X hl ⟨p, q, rfl, hp, hq, h⟩
    simp only [w_minus]
    unfold rD
    simp [startE, atI, ixN]
    rw [rD_neg]
    exact ⟨p, -q, rfl, hp, rz_neg hq, h⟩)
theorem ok_times (T : Txt K mg) : FnOk P w K mg base (L2.CX P w) 43 T.a_times.f T.a_times.fd ["one", "other"] (spD K 2 (f_times T.x_NoDivisor)) :=
  fn_D (wb := w_times T) T.a_times.F sc_times (d_times T (ok_fraction T)) (by
    rintro ds Q X hl ⟨p, q, rfl, hp, hq, h⟩
    have hf : (IntMulOk p.num q.num ∧ IntMulOk p.den q.den) := ⟨mulz hp.1 hq.1 (by decide), mulz hp.2 hq.2 (by decide)⟩
    have hm : ∀ (Q' : Sl → Prop) (X' : Value → Prop), Q' (.dat (rD (p * q))) → f_fraction T.x_NoDivisor [D.int (p.num * q.num), D.int (p.den * q.den)] Q' X' := fun Q' X' hq' => ⟨_, _, rfl, fun e => absurd e (Int.mul_ne_zero (den_ne p) (den_ne q)), fun _ => by rw [mul_eq]; exact hq'⟩
    have h1 : (p.den : Int) = 1 → (q.den : Int) = 1 → Q (.dat (.tup [.int (p.num * q.num), .int 1])) := fun a b => by rw [mul_one a b]; exact h
    simp only [w_times]
    unfold rD
    simp [startE, atI, ixN]
    split
    · split
      · exact ⟨hf.1, h1 (by omega) (by omega)⟩
      · exact ⟨hf.1, hf.2, hm _ _ h⟩
    · exact ⟨hf.1, hf.2, hm _ _ h⟩)
theorem ok_over (T : Txt K mg) : FnOk P w K mg base (L2.CX P w) 43 T.a_over.f T.a_over.fd ["one", "other"] (spD K 2 (f_over T.x_NoDivisor)) :=
  fn_D (wb := w_over T) T.a_over.F sc_over (d_over T (ok_fraction T)) (by
    rintro ds Q X hl ⟨p, q, rfl, hp, hq, h0, h1⟩
    simp [w_over, startE]
    by_cases hb : q = 0
    · simpa [hb] using h0 hb
    · obtain ⟨e1, e2⟩ := div_eq (p := p) hb
      have hn : ¬ q = 0 := hb
      simp [hn]
      refine ⟨mulz hp.1 hq.2 (by decide), mulz hp.2 hq.1 (by decide), _, _, rfl, fun z => absurd z e1, fun _ => ?_⟩
      rw [e2]
      simpa using h1 hb)
theorem ok_poly (T : Txt K mg) : FnOk P w K mg base (L2.CX P w) 41 T.a_poly.f T.a_poly.fd ["some"] (spD K 1 f_poly) :=
  fn_D (wb := w_poly) T.a_poly.F sc_poly (d_poly T) (by
    rintro ds Q X hl ⟨l, rfl | rfl, h⟩
    · simp [w_poly, startE]
      refine while_by (CutW l (.lst (l.map rD))) l.length ⟨Nat.le_refl _, by simp, rfl⟩ ?_
      rintro m ρ ⟨hm, ht, rfl⟩
      rcases cut_step l hm ht with ⟨rfl, e⟩ | ⟨k, rfl, r, e1, e2, e3⟩
      · simp [cut_take0, ← e, pD] at h ⊢
        exact h
      · have kk : (0 : Int) < (k : Int) + 1 := by omega
        simp [e1, kk]
        split
        · rename_i z
          exact ⟨k, by omega, by omega, e2 z, rfl⟩
        · rename_i z
          simp only [cut_takeN, e3 z]
          simpa [pD] using h
    · simp [w_poly, startE]
      refine while_by (CutW l (.tup (l.map rD))) l.length ⟨Nat.le_refl _, by simp, rfl⟩ ?_
      rintro m ρ ⟨hm, ht, rfl⟩
      rcases cut_step l hm ht with ⟨rfl, e⟩ | ⟨k, rfl, r, e1, e2, e3⟩
      · simp [cut_take0, ← e, pD] at h ⊢
        exact h
      · have kk : (0 : Int) < (k : Int) + 1 := by omega
        simp [e1, kk]
        split
        · rename_i z
          exact ⟨k, by omega, by omega, e2 z, rfl⟩
        · rename_i z
          simp only [cut_takeN, e3 z]
          simpa [pD] using h)
end
section
variable {P : Program} [PlP P] {w : World} {K : PySem.W.Frag} {mg : Str → Option Value} {base : Heap}
end
section
variable {P : Program} [PlP P] {w : World} {K : PySem.W.Frag} {mg : Str → Option Value} {base : Heap}
theorem ok_poly_times (T : Txt K mg) : FnOk P w K mg base (L2.CX P w) 44 T.a_poly_times.f T.a_poly_times.fd ["one", "other"] (spD K 2 (f_poly_times T.x_NoDivisor)) :=
  fn_D (wb := w_poly_times T) T.a_poly_times.F sc_poly_times (d_poly_times T (ok_plus T) (ok_times T) (ok_poly T)) (by
    rintro ds Q X hl ⟨a, b, D, E, N, M, rfl, ha, hb, hD, hE, ia, ib, zDE, n1, m1, h⟩
    have hDE : D * E ≠ 0 := Nat.mul_ne_zero hD hE
    have d1 : D < 2 ^ 50000000 := Nat.lt_of_le_of_lt (Nat.le_mul_of_pos_right _ (Nat.pos_of_ne_zero hE)) zDE
    have e1 : E < 2 ^ 50000000 := Nat.lt_of_le_of_lt (Nat.le_mul_of_pos_left _ (Nat.pos_of_ne_zero hD)) zDE
    have zNM : N * M < 2 ^ 40000000 := mul_pow n1 m1 (by decide)
    have rza : ∀ k, rz 4400 (co a k) := fun k => rz_of hD (co_in ia k) (up_pow d1 (by decide)) (up_pow n1 (by decide))
    have rzb : ∀ k, rz 4400 (co b k) := fun k => rz_of hE (co_in ib k) (up_pow e1 (by decide)) (up_pow m1 (by decide))
    have rzp : ∀ j k, rz 4400 (co a j * co b k) := fun j k => rz_of hDE ((co_in ia j).mul (co_in ib k)) (up_pow zDE (by decide)) (up_pow zNM (by decide))
    have rzc : ∀ j m, rz 4400 (cv (co (a.take j)) (co b) m) := fun j m => by
      refine rz_of hDE (cv_in hD hE (co_in ib) (fun r hr => ia r (List.mem_of_mem_take hr)) m) (up_pow zDE (by decide)) ?_
      have : (a.take j).length < 2 ^ 10 := by simp; omega
      exact mul_pow this zNM (by decide)
    simp [w_poly_times, startE, -List.flatten_replicate_singleton]
    refine ⟨by split <;> omega, ?_⟩
    have hn : ∃ n : Nat, (if (a.length : Int) + (b.length : Int) - 1 < 0 then (0 : Int) else (a.length : Int) + (b.length : Int) - 1).toNat = n ∧ n ≤ a.length + b.length ∧ a.length + b.length ≤ n + 1 := ⟨_, rfl, by split <;> omega, by split <;> omega⟩
    obtain ⟨n, en, hn1, hn2⟩ := hn
    rw [en]
    have efl : (List.replicate n [rD 0]).flatten = (List.replicate n (0 : Rat)).map rD := by simp
    rw [efl]
    refine loop_by (ds := enumD (a.map rD)) (Wo a b n) ⟨List.replicate n 0, none, none, none, none, by simp, fun m _ => by rw [co_rep]; simp [cv_nil], ⟨trivial, trivial, trivial, trivial⟩, rfl⟩ ?_ ?_
    · rintro ρ ⟨f, o3, o4, o5, o6, hf, hc, fr, rfl⟩
      rw [enum_len, List.take_length] at hc
      simp
      refine ⟨f, .inl rfl, ?_⟩
      simp [conv_end hn1 hn2 hf hc]
      exact h
    · rintro j d ρ hd ⟨f, o3, o4, o5, o6, hf, hc, ⟨f3, f4, f5, f6⟩, rfl⟩
      obtain ⟨rfl, hj⟩ := enum_get hd
      simp [f3, f4]
      refine loop_by (ds := enumD (b.map rD)) (Wi a b n j) ⟨f, o5, o6, hf, fun m hm => by rw [hc m hm, if_neg fun z => Nat.not_lt_zero _ z.2, Rat.add_zero], ⟨f5, f6⟩, rfl⟩ ?_ ?_
      · rintro ρ ⟨f', o5', o6', hf', hc', ⟨f5', f6'⟩, rfl⟩
        rw [enum_len] at hc'
        exact ⟨f', some (.dat (.int (j : Int))), some (.dat (rD (co a j))), o5', o6', hf', row_end hj hc', ⟨trivial, trivial, f5', f6'⟩, rfl⟩
      · rintro k d ρ hd' ⟨f', o5', o6', hf', hc', ⟨f5', f6'⟩, rfl⟩
        obtain ⟨rfl, hk⟩ := enum_get hd'
        have hjk : j + k < f'.length := by omega
        obtain ⟨t1, t2⟩ := at_co hjk
        rw [Int.natCast_add] at t1 t2
        have hv : co f' (j + k) = cv (co (a.take j)) (co b) (j + k) := by
          rw [hc' _ (by omega), if_neg fun z => by omega, Rat.add_zero]
        simp [f5', f6', t1, t2]
        refine ⟨_, _, rfl, rza j, rzb k, ?_⟩
        simp
        refine ⟨_, _, rfl, by rw [hv]; exact rzc _ _, rzp j k, ?_⟩
        simp [t2]
        refine ⟨f'.set (j + k) (co f' (j + k) + co a j * co b k), some (.dat (.int (k : Int))), some (.dat (rD (co b k))), by simp [hf'], fun m hm => ?_, ⟨trivial, trivial⟩, by simp⟩
        rw [co_set hjk]
        by_cases e : m = j + k
        · subst e
          rw [if_pos rfl, hv, if_pos ⟨by omega, by omega⟩, Nat.add_sub_cancel_left]
        · rw [if_neg e, hc' m hm]
          by_cases c : j ≤ m ∧ m - j < k
          · rw [if_pos c, if_pos ⟨c.1, by omega⟩]
          · rw [if_neg c, if_neg fun z => c ⟨z.1, by omega⟩])
end
end K14



set_option Elab.async false
set_option linter.all false
set_option maxRecDepth 100000
set_option maxHeartbeats 4000000
namespace K14
open PySem L2 DL RL
section
variable {P : Program} [PlP P] {w : World} {K : PySem.W.Frag} {mg : Str → Option Value} {base : Heap}
theorem ok__law_cell (T : Txt K mg) : FnOk P w K mg base (L2.CX P w) 41 T.a__law_cell.f T.a__law_cell.fd ["_law_script", "_law_k"] (spD K 2 f__law_cell) :=
  fn_D (wb := w__law_cell) T.a__law_cell.F sc__law_cell (d__law_cell T) (by
    rintro ds Q X hl ⟨ns, k, rfl, h⟩
    simp [w__law_cell, startE]
    split
    · rename_i hk
      have e : atI (ns.map D.int) (k : Int) = some (.int ns[k]) := by
        simp [atI, ixN, hk]
      simp [e]
      exact h _
    · exact h _)
theorem ok__law_pot (T : Txt K mg) : FnOk P w K mg base (L2.CX P w) 41 T.a__law_pot.f T.a__law_pot.fd ["_law_cell_here"] (spD K 1 f__law_pot) :=
  fn_D (wb := w__law_pot) T.a__law_pot.F sc__law_pot (d__law_pot T) (by
    rintro ds Q X hl ⟨c, rfl, h⟩
    simp [w__law_pot, startE, CPow]
    refine loop_by (fun _ ρ => ∃ (x y : Int) (o : Option Sl), free o ∧ ρ = [some (.dat (.int c)), some (.dat (.int x)), some (.dat (.int y)), o]) ⟨_, _, none, by simp, rfl⟩ ?_ ?_
    · rintro ρ ⟨x, y, o, ho, rfl⟩
      simp [CPow]
      split
      · exact h [_, _] (by simp)
      · exact h [_] (by simp)
    · rintro i d ρ hd ⟨x, y, o, ho, rfl⟩
      obtain ⟨rfl, _⟩ := rg_get hd
      simp [CPow]
      refine ⟨ho, mul_small (by decide), mul_small (by decide), ?_⟩
      exact ⟨_, _, some (.dat (.int i)), trivial, rfl, rfl, rfl⟩)
theorem ok__law_take (T : Txt K mg) : FnOk P w K mg base (L2.CX P w) 41 T.a__law_take.f T.a__law_take.fd ["_law_pot_here", "_law_many"] (spI K 2 f__law_take) :=
  fn_I (wb := w__law_take) T.a__law_take.F sc__law_take (d__law_take T) (by
    rintro dl ds Q X hl ⟨ns, m, rfl, hn, rfl, hm0, hm, h⟩
    obtain ⟨l, x, rfl⟩ := ne_split hn
    have hq := h (x.fmod m)
    have h1 : 0 ≤ x.fmod m := Int.fmod_nonneg_of_pos _ hm0
    have h2 : x.fmod m < m := Int.fmod_lt_of_pos _ hm0
    have h4 : m ≠ 0 := by omega
    simp [w__law_take, startE, atI_last, ixN_last, h4]
    split
    · split
      · refine hq _ h1 h2 ?_
        rintro rfl
        simp at *
      · simpa using hq (l ++ [x.fdiv m]) h1 h2 (by simp)
    · simpa using hq (l ++ [x.fdiv m]) h1 h2 (by simp))
theorem ok__law_lowest (T : Txt K mg) : FnOk P w K mg base (L2.CX P w) 41 T.a__law_lowest.f T.a__law_lowest.fd ["_law_top", "_law_bottom"] (spD K 2 f__law_lowest) :=
  fn_D (wb := w__law_lowest) T.a__law_lowest.F sc__law_lowest (d__law_lowest T) (by
    rintro ds Q X hl ⟨a, b, rfl, hb, h⟩
    simp [w__law_lowest, startE]
    refine while_by (fun y ρ => ∃ x : Nat, Nat.gcd x y = Int.gcd a b ∧ ρ = [some (.dat (.int a)), some (.dat (.int b)), some (.dat (.int x)), some (.dat (.int y))]) b.natAbs ⟨a.natAbs, rfl, rfl⟩ ?_
    rintro y ρ ⟨x, hg, rfl⟩
    simp
    by_cases hy : y = 0
    · subst hy
      have hg0 := gcd_ne (t := a) hb
      have low := mk_low a b hb
      unfold rD at h
      rw [← low.1, ← low.2] at h
      simp at hg
      by_cases hn : b < 0
      · simp [hn] at h
        simp [hn, hg, hg0, h]
      · simp [hn] at h
        simp [hn, hg, hg0, h]
    · have : 0 < y := by omega
      simp [hy, this]
      refine ⟨x % y, Nat.mod_lt _ (by omega), y, ?_, ?_⟩
      · rw [gcd_swap, hg]
      · rw [gcd_step]; simp)
theorem ok__law_sum (T : Txt K mg) : FnOk P w K mg base (L2.CX P w) 42 T.a__law_sum.f T.a__law_sum.fd ["_law_one", "_law_other"] (spD K 2 f__law_sum) :=
  fn_D (wb := w__law_sum) T.a__law_sum.F sc__law_sum (d__law_sum T (ok__law_lowest T)) (by
    rintro ds Q X hl ⟨p, q, rfl, hp, hq, h⟩
    simp [w__law_sum, startE]
    refine ⟨mulz hp.1 hq.2 (by decide), mulz hq.1 hp.2 (by decide), mulz hp.2 hq.2 (by decide), _, _, rfl, Int.mul_ne_zero (den_ne p) (den_ne q), ?_⟩
    rw [add_eq]
    simpa using h)
theorem ok__law_product (T : Txt K mg) : FnOk P w K mg base (L2.CX P w) 42 T.a__law_product.f T.a__law_product.fd ["_law_one", "_law_other"] (spD K 2 f__law_product) :=
  fn_D (wb := w__law_product) T.a__law_product.F sc__law_product (d__law_product T (ok__law_lowest T)) (by
    rintro ds Q X hl ⟨p, q, rfl, hp, hq, h⟩
    simp [w__law_product, startE]
    refine ⟨mulz hp.1 hq.1 (by decide), mulz hp.2 hq.2 (by decide), _, _, rfl, Int.mul_ne_zero (den_ne p) (den_ne q), ?_⟩
    rw [mul_eq]
    simpa using h)
theorem ok__law_fraction (T : Txt K mg) : FnOk P w K mg base (L2.CX P w) 42 T.a__law_fraction.f T.a__law_fraction.fd ["_law_pot_here"] (spI K 1 f__law_fraction) :=
  fn_I (wb := w__law_fraction) T.a__law_fraction.F sc__law_fraction (d__law_fraction T (ok__law_take T) (ok__law_lowest T)) (by
    rintro dl ds Q X hl ⟨ns, rfl, hn, rfl, h⟩
    simp [w__law_fraction, startE]
    refine ⟨ns, 4, rfl, hn, rfl, by decide, by decide, fun kind ns1 k1 k2 hn1 => ?_⟩
    simp [CPow]
    split
    · refine ⟨mul_small (by decide), ns1, _, rfl, hn1, rfl, by decide, by decide, fun t ns2 t1 t2 hn2 => ?_⟩
      simp [CPow]
      refine ⟨ns2, _, rfl, hn2, rfl, by decide, by decide, fun b ns3 b1 b2 hn3 => ?_⟩
      simp
      refine ⟨_, _, rfl, by omega, ?_⟩
      simpa using h _ ns3 (small_of (by omega) (by omega) (by omega)) hn3
    · have hm : ∃ m : Int, atI [D.int 1, D.int 1, D.int 9] kind = some (.int m) ∧ 1 ≤ m ∧ m ≤ 9 := by
        have : kind = 0 ∨ kind = 1 ∨ kind = 2 := by omega
        rcases this with rfl | rfl | rfl
        · exact ⟨1, rfl, by decide, by decide⟩
        · exact ⟨1, rfl, by decide, by decide⟩
        · exact ⟨9, rfl, by decide, by decide⟩
      obtain ⟨m, e, m1, m2⟩ := hm
      refine ⟨ns1, 19, rfl, hn1, rfl, by decide, by decide, fun t ns2 t1 t2 hn2 => ?_⟩
      simp [e]
      refine ⟨ns2, m, rfl, hn2, rfl, by omega, by omega, fun b ns3 b1 b2 hn3 => ?_⟩
      simp
      refine ⟨_, _, rfl, by omega, ?_⟩
      simpa using h _ ns3 (small_of (by omega) (by omega) (by omega)) hn3)
theorem ok__law_cut (T : Txt K mg) : FnOk P w K mg base (L2.CX P w) 41 T.a__law_cut.f T.a__law_cut.fd ["_law_some"] (spD K 1 f__law_cut) :=
  fn_D (wb := w__law_cut) T.a__law_cut.F sc__law_cut (d__law_cut T) (by
    rintro ds Q X hl ⟨l, rfl | rfl, h⟩
    · simp [w__law_cut, startE]
      refine while_by (CutW l (.lst (l.map rD))) l.length ⟨Nat.le_refl _, by simp, rfl⟩ ?_
      rintro m ρ ⟨hm, ht, rfl⟩
      rcases cut_step l hm ht with ⟨rfl, e⟩ | ⟨k, rfl, r, e1, e2, e3⟩
      · simp [cut_take0, ← e, pD] at h ⊢
        exact h
      · have kk : (0 : Int) < (k : Int) + 1 := by omega
        simp [e1, kk]
        split
        · rename_i z
          exact ⟨k, by omega, by omega, e2 z, rfl⟩
        · rename_i z
          simp only [cut_takeN, e3 z]
          simpa [pD] using h
    · simp [w__law_cut, startE]
      refine while_by (CutW l (.tup (l.map rD))) l.length ⟨Nat.le_refl _, by simp, rfl⟩ ?_
      rintro m ρ ⟨hm, ht, rfl⟩
      rcases cut_step l hm ht with ⟨rfl, e⟩ | ⟨k, rfl, r, e1, e2, e3⟩
      · simp [cut_take0, ← e, pD] at h ⊢
        exact h
      · have kk : (0 : Int) < (k : Int) + 1 := by omega
        simp [e1, kk]
        split
        · rename_i z
          exact ⟨k, by omega, by omega, e2 z, rfl⟩
        · rename_i z
          simp only [cut_takeN, e3 z]
          simpa [pD] using h)
end
section
variable {P : Program} [PlP P] {w : World} {K : PySem.W.Frag} {mg : Str → Option Value} {base : Heap}
theorem ok__law_poly (T : Txt K mg) : FnOk P w K mg base (L2.CX P w) 43 T.a__law_poly.f T.a__law_poly.fd ["_law_pot_here", "_law_most"] (spI K 2 f__law_poly) :=
  fn_I (wb := w__law_poly) T.a__law_poly.F sc__law_poly (d__law_poly T (ok__law_cut T) (ok__law_take T) (ok__law_fraction T)) (by
    rintro dl ds Q X hl ⟨ns, m, rfl, hn, rfl, hm, h⟩
    simp [w__law_poly, startE]
    refine ⟨ns, (m : Int) + 2, rfl, hn, rfl, by omega, by omega, fun n ns1 n1 n2 hn1 => ?_⟩
    simp
    refine ⟨by omega, ?_⟩
    refine lc_by (by simp) (Wl m) ⟨[], ns1, rfl, by simp, rfl, hn1, rfl⟩ ?_ ?_
    · rintro acc ρ ⟨l, ns', hl, hs, rfl, hn', rfl⟩
      rw [rgD_len] at hl
      simp
      refine ⟨l, .inl rfl, ?_⟩
      have tl := trim_len l
      simpa using h _ ns' ⟨fun r hr => hs r (trim_mem hr), by omega, trim_idem l⟩ hn'
    · rintro i d acc ρ hd ⟨l, ns', hl, hs, rfl, hn', rfl⟩
      have hi := (rg_get hd).2
      simp
      refine ⟨ns', rfl, hn', rfl, fun r ns'' hr hn'' => ?_⟩
      simp
      refine ⟨by omega, l ++ [r], ns'', by simp [hl], fun x hx => ?_, by simp, hn'', rfl⟩
      rcases List.mem_append.mp hx with z | z
      · exact hs x z
      · simp at z; subst z; exact hr)
theorem ok__law_added (T : Txt K mg) : FnOk P w K mg base (L2.CX P w) 43 T.a__law_added.f T.a__law_added.fd ["_law_one", "_law_other", "_law_sign"] (spD K 3 f__law_added) :=
  fn_D (wb := w__law_added) T.a__law_added.F sc__law_added (d__law_added T (ok__law_sum T) (ok__law_cut T)) (by
    rintro ds Q X hl ⟨a, b, s, rfl, hs, ha, hb, hza, hzb, h⟩
    have hsg : ∃ sg : Rat → Rat, (∀ q : Rat, D.tup [.int (s * q.num), .int (q.den : Int)] = rD (sg q)) ∧ (∀ q, rz 4400 q → rz 4400 (sg q)) ∧ Q (.dat (pD (trim ((List.range (len2 a b)).map fun k => co a k + sg (co b k))))) := by
      rcases hs with rfl | rfl
      · exact ⟨id, fun q => by rw [Int.one_mul]; rfl, fun q h => h, by simpa [padd] using h⟩
      · exact ⟨fun q => -q, fun q => by rw [← rD_neg, Int.neg_mul, Int.one_mul], fun q h => rz_neg h, by simpa [psub] using h⟩
    obtain ⟨sg, e1, e2, e3⟩ := hsg
    have hms : ∀ q : Rat, IntMulOk s q.num := fun q => mul_small' (by rcases hs with rfl | rfl <;> decide)
    simp [w__law_added, startE, max_len]
    have hn : len2 a b < 1000 := by unfold len2; omega
    refine ⟨by omega, ?_⟩
    refine loop_by (Wa a b s sg) ⟨none, none, none, ⟨trivial, trivial, trivial⟩, rfl⟩ ?_ ?_
    · rintro ρ ⟨o4, o5, o6, hf, rfl⟩
      rw [rgD_len]
      simp
      refine ⟨(List.range (len2 a b)).map fun k => co a k + sg (co b k), .inl (by simp), ?_⟩
      simpa using e3
    · rintro i d ρ hd ⟨o4, o5, o6, ⟨f4, f5, f6⟩, rfl⟩
      obtain ⟨rfl, hi⟩ := rg_get hd
      have l1 : (cutD (a.map rD) (some (i : Int)) (some ((i : Int) + 1))).length ≤ 16777215 := by have := cut_len (a.map rD) (some (i : Int)) (some ((i : Int) + 1)); simp at this; omega
      have l2 : (cutD (b.map rD) (some (i : Int)) (some ((i : Int) + 1))).length ≤ 16777215 := by have := cut_len (b.map rD) (some (i : Int)) (some ((i : Int) + 1)); simp at this; omega
      have ca := cut_at a i
      have cb := cut_at b i
      simp [f4, f5, f6, pD, rD0, l1, l2, ca, cb]
      refine ⟨hms _, _, _, by rw [e1], co_mem hza (by decide) i, e2 _ (co_mem hzb (by decide) i), ?_⟩
      simp
      refine ⟨by omega, some (.dat (.int (i : Int))), some (.dat (rD (co a i))), some (.dat (rD (co b i))), ⟨trivial, trivial, trivial⟩, ?_⟩
      simp [List.range_succ, pD])
end
section
variable {P : Program} [PlP P] {w : World} {K : PySem.W.Frag} {mg : Str → Option Value} {base : Heap}
theorem ok__law_multiplied (T : Txt K mg) : FnOk P w K mg base (L2.CX P w) 43 T.a__law_multiplied.f T.a__law_multiplied.fd ["_law_one", "_law_other"] (spD K 2 f__law_multiplied) :=
  fn_D (wb := w__law_multiplied) T.a__law_multiplied.F sc__law_multiplied (d__law_multiplied T (ok__law_sum T) (ok__law_product T) (ok__law_cut T)) (by
    rintro ds Q X hl ⟨a, b, D, E, N, M, rfl, ha, hb, hD, hE, ia, ib, zDE, n1, m1, h⟩
    have hDE : D * E ≠ 0 := Nat.mul_ne_zero hD hE
    have d1 : D < 2 ^ 50000000 := Nat.lt_of_le_of_lt (Nat.le_mul_of_pos_right _ (Nat.pos_of_ne_zero hE)) zDE
    have e1 : E < 2 ^ 50000000 := Nat.lt_of_le_of_lt (Nat.le_mul_of_pos_left _ (Nat.pos_of_ne_zero hD)) zDE
    have zNM : N * M < 2 ^ 40000000 := mul_pow n1 m1 (by decide)
    have rza : ∀ k, rz 4400 (co a k) := fun k => rz_of hD (co_in ia k) (up_pow d1 (by decide)) (up_pow n1 (by decide))
    have rzb : ∀ k, rz 4400 (co b k) := fun k => rz_of hE (co_in ib k) (up_pow e1 (by decide)) (up_pow m1 (by decide))
    have rzp : ∀ j k, rz 4400 (co a j * co b k) := fun j k => rz_of hDE ((co_in ia j).mul (co_in ib k)) (up_pow zDE (by decide)) (up_pow zNM (by decide))
    have rzc : ∀ j m, rz 4400 (cv (co (a.take j)) (co b) m) := fun j m => by
      refine rz_of hDE (cv_in hD hE (co_in ib) (fun r hr => ia r (List.mem_of_mem_take hr)) m) (up_pow zDE (by decide)) ?_
      have : (a.take j).length < 2 ^ 10 := by simp; omega
      exact mul_pow this zNM (by decide)
    simp [w__law_multiplied, startE, rD0, -List.flatten_replicate_singleton]
    refine ⟨by omega, ?_⟩
    have hn : ∃ n : Nat, ((a.length : Int) + (b.length : Int)).toNat = n ∧ n ≤ a.length + b.length ∧ a.length + b.length ≤ n + 1 := ⟨_, rfl, by omega, by omega⟩
    obtain ⟨n, en, hn1, hn2⟩ := hn
    rw [en]
    have efl : (List.replicate n [rD 0]).flatten = (List.replicate n (0 : Rat)).map rD := by simp
    rw [efl]
    refine loop_by (ds := enumD (a.map rD)) (Wo a b n) ⟨List.replicate n 0, none, none, none, none, by simp, fun m _ => by rw [co_rep]; simp [cv_nil], ⟨trivial, trivial, trivial, trivial⟩, rfl⟩ ?_ ?_
    · rintro ρ ⟨f, o3, o4, o5, o6, hf, hc, fr, rfl⟩
      rw [enum_len, List.take_length] at hc
      simp
      refine ⟨f, .inl rfl, ?_⟩
      simp [conv_end hn1 hn2 hf hc]
      exact h
    · rintro j d ρ hd ⟨f, o3, o4, o5, o6, hf, hc, ⟨f3, f4, f5, f6⟩, rfl⟩
      obtain ⟨rfl, hj⟩ := enum_get hd
      simp [f3, f4]
      refine loop_by (ds := enumD (b.map rD)) (Wi a b n j) ⟨f, o5, o6, hf, fun m hm => by rw [hc m hm, if_neg fun z => Nat.not_lt_zero _ z.2, Rat.add_zero], ⟨f5, f6⟩, rfl⟩ ?_ ?_
      · rintro ρ ⟨f', o5', o6', hf', hc', ⟨f5', f6'⟩, rfl⟩
        rw [enum_len] at hc'
        exact ⟨f', some (.dat (.int (j : Int))), some (.dat (rD (co a j))), o5', o6', hf', row_end hj hc', ⟨trivial, trivial, f5', f6'⟩, rfl⟩
      · rintro k d ρ hd' ⟨f', o5', o6', hf', hc', ⟨f5', f6'⟩, rfl⟩
        obtain ⟨rfl, hk⟩ := enum_get hd'
        have hjk : j + k < f'.length := by omega
        obtain ⟨t1, t2⟩ := at_co hjk
        rw [Int.natCast_add] at t1 t2
        have hv : co f' (j + k) = cv (co (a.take j)) (co b) (j + k) := by
          rw [hc' _ (by omega), if_neg fun z => by omega, Rat.add_zero]
        simp [f5', f6', t1, t2]
        refine ⟨_, _, rfl, rza j, rzb k, ?_⟩
        simp
        refine ⟨_, _, rfl, by rw [hv]; exact rzc _ _, rzp j k, ?_⟩
        simp [t2]
        refine ⟨f'.set (j + k) (co f' (j + k) + co a j * co b k), some (.dat (.int (k : Int))), some (.dat (rD (co b k))), by simp [hf'], fun m hm => ?_, ⟨trivial, trivial⟩, by simp⟩
        rw [co_set hjk]
        by_cases e : m = j + k
        · subst e
          rw [if_pos rfl, hv, if_pos ⟨by omega, by omega⟩, Nat.add_sub_cancel_left]
        · rw [if_neg e, hc' m hm]
          by_cases c : j ≤ m ∧ m - j < k
          · rw [if_pos c, if_pos ⟨c.1, by omega⟩]
          · rw [if_neg c, if_neg fun z => c ⟨z.1, by omega⟩])
theorem ok__law_is (T : Txt K mg) : FnOk P w K mg base (L2.CX P w) 41 T.a__law_is.f T.a__law_is.fd ["_law_found", "_law_due"] (spD K 2 f__law_is) :=
  fn_D (wb := w__law_is) T.a__law_is.F sc__law_is (d__law_is T) (by
    rintro ds Q X hl ⟨l, rfl, h⟩
    simp [w__law_is, startE, isiB, g_neR (shp_pD l)]
    refine loop_by (ds := l.map rD) (fun _ ρ => ∃ o : Option Sl, free o ∧ ρ = [some (.dat (pD l)), some (.dat (pD l)), o]) ⟨none, trivial, rfl⟩ ?_ ?_
    · rintro ρ ⟨o, fo, rfl⟩
      simpa using h
    · rintro i d ρ hd ⟨o, fo, rfl⟩
      obtain ⟨r, _, rfl⟩ := get_rD hd
      simp [fo, isiB])
end
end K14



set_option Elab.async false
set_option linter.all false
set_option maxRecDepth 100000
set_option maxHeartbeats 4000000
namespace K14
open PySem L2 DL RL
def Wq (a b q : List Rat) (n i : Nat) (ρ : En) : Prop := ∃ (f g : List Rat) (o4 o5 o6 o7 : Option Sl), (f.length = a.length ∧ g.length = n ∧ (∀ m, co f m = lf a b q (n - i) m) ∧ ∀ m, co g m = hi q (n - i) m) ∧ (free o4 ∧ free o5 ∧ free o6 ∧ free o7) ∧ ρ = [some (.dat (pD a)), some (.dat (pD b)), some (.own (f.map rD)), some (.own (g.map rD)), o4, o5, o6, o7]
def Wr (a b f0 g : List Rat) (k : Nat) (c : Rat) (j : Nat) (ρ : En) : Prop := ∃ (f : List Rat) (o6 o7 : Option Sl), f.length = f0.length ∧ (∀ i, co f i = co f0 i + -(if k ≤ i ∧ i - k < j then c * co b (i - k) else 0)) ∧ (free o6 ∧ free o7) ∧
  ρ = [some (.dat (pD a)), some (.dat (pD b)), some (.own (f.map rD)), some (.own (g.map rD)), some (.dat (.int (k : Int))), some (.dat (rD c)), o6, o7]
section
variable {P : Program} [PlP P] {w : World} {K : PySem.W.Frag} {mg : Str → Option Value} {base : Heap}
theorem ok_poly_over (T : Txt K mg) : FnOk P w K mg base (L2.CX P w) 45 T.a_poly_over.f T.a_poly_over.fd ["one", "other"] (spD K 2 (f_poly_over T.x_NoDivisor)) :=
  fn_D (wb := w_poly_over T) T.a_poly_over.F sc_poly_over (d_poly_over T (ok_over T) (ok_minus T) (ok_times T) (ok_poly T)) (by
    rintro ds Q X hl ⟨a, b, rfl, h0, h1⟩
    by_cases hb : b = []
    · subst hb
      simp [w_poly_over, startE, eq_nil]
      exact h0 rfl
    · obtain ⟨tb, q, r, de, s, h⟩ := h1 hb
      clear h0 h1
      have hb0 := ne_len hb
      have hla := s.slx
      have hlz := trim_last tb hb
      have hn : ∃ n : Nat, (if (a.length : Int) - (b.length : Int) + 1 < 0 then (0 : Int) else (a.length : Int) - (b.length : Int) + 1) = (n : Int) ∧ (b.length ≤ a.length → n = a.length - b.length + 1) ∧ (a.length < b.length → n = 0) ∧ n ≤ 1000 := by
        split
        · exact ⟨0, rfl, by omega, by omega, by omega⟩
        · exact ⟨((a.length : Int) - (b.length : Int) + 1).toNat, by omega, by omega, by omega, by omega⟩
      obtain ⟨n, en, n1, n2, n3⟩ := hn
      have hqn : q.length ≤ n := by
        by_cases c1 : a.length < b.length
        · have := (de.short c1 tb hb).1
          rw [this]; simp
        · have := de.lq (by omega) tb hb
          omega
      have efl : (List.replicate n [rD 0]).flatten = (List.replicate n (0 : Rat)).map rD := by simp
      have ek : ((b.length : Int) - 1) = ((b.length - 1 : Nat) : Int) := by omega
      simp [w_poly_over, startE, eq_nil, hb, en, -List.flatten_replicate_singleton]
      rw [efl]
      refine ⟨by omega, by omega, ?_⟩
      refine loop_by (Wq a b q n) ⟨a, _, none, none, none, none, ⟨rfl, by simp, fun m => ?_, fun m => ?_⟩, ⟨trivial, trivial, trivial, trivial⟩, rfl⟩ ?_ ?_
      · rw [Nat.sub_zero, lf_big hqn]
      · rw [Nat.sub_zero, hi_big hqn, co_rep]
      · rintro ρ ⟨f, g, o4, o5, o6, o7, ⟨lf', lg, hf, hg⟩, fr, rfl⟩
        rw [rcD_len, Nat.sub_self] at hf hg
        have eg : trim g = q := by
          rw [← de.tq]
          exact trim_ext fun k => by
            have := hg k
            rw [hi_zero] at this
            exact this
        have ef : trim (f.take (b.length - 1)) = r := by
          rw [← de.tr]
          refine trim_ext fun k => ?_
          show co _ k = co _ k
          rw [co_take, hf, lf_zero de]
          split
          · rfl
          · rw [co_big]
            have := de.lr
            omega
        simp
        refine ⟨g, .inl rfl, ?_⟩
        simp [ek, cut_take]
        refine ⟨f.take (b.length - 1), .inl (by simp), ?_⟩
        rw [eg, ef]
        simp
        exact h
      · rintro i d ρ hd ⟨f, g, o4, o5, o6, o7, ⟨hlf, hlg, hf, hg⟩, ⟨f4, f5, f6, f7⟩, rfl⟩
        obtain ⟨rfl, hi⟩ := rc_get hd
        obtain ⟨k, hk, hk2⟩ : ∃ k : Nat, n - i = k + 1 ∧ ((n : Int) - 1 + (i : Int) * -1) = (k : Int) := ⟨n - 1 - i, by omega, by omega⟩
        have hab : b.length ≤ a.length := by
          rcases Nat.lt_or_ge a.length b.length with c1 | c1
          · have := n2 c1; omega
          · exact c1
        have hn' := n1 hab
        rw [hk] at hf hg
        rw [hk2]
        have hkl : k + (b.length - 1) < f.length := by omega
        have hkg : k < g.length := by omega
        have t1 : atI (f.map rD) ((k : Int) + (b.length : Int) - 1) = some (rD (co f (k + (b.length - 1)))) := by
          have e : ((k : Int) + (b.length : Int) - 1) = ((k + (b.length - 1) : Nat) : Int) := by omega
          rw [e]; exact (at_co hkl).1
        have t2 := at_last hb
        have t3 := (at_co hkg).2
        have hc : co f (k + (b.length - 1)) * (co b (b.length - 1))⁻¹ = co q k := by rw [hf]; exact lf_fac tb hb de k
        simp [f4, f5, t1, t2]
        refine ⟨_, _, rfl, by rw [hf]; exact s.slf _ _, s.sy _, fun z => absurd z hlz, fun _ => ?_⟩
        rw [hc]
        simp [t3]
        refine loop_by (ds := enumD (b.map rD)) (Wr a b f (g.set k (co q k)) k (co q k)) ⟨f, o6, o7, rfl, fun i => ?_, ⟨f6, f7⟩, by simp⟩ ?_ ?_
        · rw [if_neg fun z => Nat.not_lt_zero _ z.2]; grind
        · rintro ρ ⟨f', o6', o7', hl', hc', ⟨f6', f7'⟩, rfl⟩
          rw [enum_len] at hc'
          have e : n - (i + 1) = k := by omega
          refine ⟨f', g.set k (co q k), some (.dat (.int (k : Int))), some (.dat (rD (co q k))), o6', o7', ⟨by omega, by simp [hlg], fun m => ?_, fun m => ?_⟩, ⟨trivial, trivial, f6', f7'⟩, rfl⟩
          · rw [e, hc' m, lf_step, hf]
            by_cases c1 : k ≤ m
            · by_cases c2 : m - k < b.length
              · rw [if_pos ⟨c1, c2⟩, if_pos c1]
              · rw [if_neg fun z => c2 z.2, if_pos c1, co_big (f := b) (by omega), Rat.mul_zero]
            · rw [if_neg fun z => c1 z.1, if_neg c1]
          · rw [e, co_set hkg, hi_step, hg]
            show _ = RL.hi q (k + 1) m + (if m = k then co q k else 0)
            by_cases c1 : m = k
            · subst c1
              rw [if_pos rfl, if_pos rfl]
              unfold RL.hi
              rw [if_neg (by omega), Rat.zero_add]
            · rw [if_neg c1, if_neg c1, Rat.add_zero]
        · rintro j d ρ hd' ⟨f', o6', o7', hl', hc', ⟨f6', f7'⟩, rfl⟩
          obtain ⟨rfl, hj⟩ := enum_get hd'
          have hjk : k + j < f'.length := by omega
          obtain ⟨u1, u2⟩ := at_co hjk
          rw [Int.natCast_add] at u1 u2
          have hv : co f' (k + j) = co f (k + j) := by
            rw [hc', if_neg fun z => by omega]; grind
          simp [f6', f7', u1, u2]
          refine ⟨_, _, rfl, s.sq k, s.sy j, ?_⟩
          simp
          refine ⟨_, _, rfl, by rw [hv, hf]; exact s.slf _ _, s.sqy k j, ?_⟩
          simp [u2]
          refine ⟨f'.set (k + j) (co f' (k + j) + -(co q k * co b j)), some (.dat (.int (j : Int))), some (.dat (rD (co b j))), by simp [hl'], fun m => ?_, ⟨trivial, trivial⟩, by simp⟩
          rw [co_set hjk]
          by_cases e : m = k + j
          · subst e
            rw [if_pos rfl, hv, if_pos ⟨by omega, by omega⟩, Nat.add_sub_cancel_left]
          · rw [if_neg e, hc' m]
            by_cases c1 : k ≤ m ∧ m - k < j
            · rw [if_pos c1, if_pos ⟨c1.1, by omega⟩]
            · rw [if_neg c1, if_neg fun z => c1 ⟨z.1, by omega⟩])
theorem ok_with_lead_one (T : Txt K mg) : FnOk P w K mg base (L2.CX P w) 44 T.a_with_lead_one.f T.a_with_lead_one.fd ["one"] (spD K 1 (f_with_lead_one T.x_NoDivisor)) :=
  fn_D (wb := w_with_lead_one T) T.a_with_lead_one.F sc_with_lead_one (d_with_lead_one T (ok_over T)) (by
    rintro ds Q X hl ⟨l, rfl, tl, hz, hn, h⟩
    simp [w_with_lead_one, startE]
    refine lcm_by (ds := l.map rD) (res := (mon l).map rD) (by simp) (by simp [mon_len]) (by simp; omega) ?_ ?_
    · intro i d d' hd hd'
      have hi : i < l.length := by
        have := (List.getElem?_eq_some_iff.mp hd).1
        simpa using this
      have hne : l ≠ [] := by rintro rfl; simp at hi
      have e1 : d = rD (co l i) := by
        rw [List.getElem?_map, List.getElem?_eq_getElem hi] at hd
        rw [← Option.some.inj hd]
        simp [co, hi]
      have e2 : d' = rD (co (mon l) i) := by
        have hi2 : i < (mon l).length := by rw [mon_len]; exact hi
        rw [List.getElem?_map, List.getElem?_eq_getElem hi2] at hd'
        rw [← Option.some.inj hd']
        simp [co, hi2]
      subst e1 e2
      refine ⟨_, rfl, by simp, fun Q' X' hq => ?_⟩
      simp [at_last hne]
      refine ⟨_, _, rfl, hz i, hz _, fun z => absurd z (trim_last tl hne), fun _ => ?_⟩
      have := hq [some (.dat (pD l)), some (.dat (rD (co l i)))] (by simp)
      rw [co_mon] at this
      exact this
    · simp
      exact h)
theorem ok_common (T : Txt K mg) : FnOk P w K mg base (L2.CX P w) 46 T.a_common.f T.a_common.fd ["one", "other"] (spD K 2 (f_common T.x_NoDivisor)) :=
  fn_D (wb := w_common T) T.a_common.F sc_common (d_common T (ok_with_lead_one T) (ok_poly_over T)) (by
    rintro ds Q X hl ⟨a, b, g, rfl, ⟨ta, tb, za, zb, la, lb, run⟩, h⟩
    simp [w_common, startE]
    refine ⟨a, rfl, ta, za, la, ?_⟩
    simp
    refine ⟨b, rfl, tb, zb, lb, ?_⟩
    simp
    refine while_by (fun m ρ => ∃ x y : List Rat, m = y.length ∧ Ez x y g ∧ ρ = [some (.dat (pD a)), some (.dat (pD b)), some (.dat (.tup [pD x, pD y]))]) (mon b).length ⟨_, _, rfl, run, rfl⟩ ?_
    rintro m ρ ⟨x, y, rfl, run, rfl⟩
    have at0 : atI [pD x, pD y] 0 = some (pD x) := rfl
    have at1 : atI [pD x, pD y] 1 = some (pD y) := rfl
    have ne : ∀ R : Sl → Prop, gNe (pD y) (.tup []) R = R (.dat (.bl (!y.isEmpty))) := fun R => by
      unfold gNe
      rw [eqb_nil, shp_pD, shp_nil]; simp
    cases run with
    | fin =>
      simp [at0, at1, ne]
      exact h
    | @step _ _ q r _ ny ty de sz rzr run =>
      have e : y.isEmpty = false := by cases y with | nil => exact absurd rfl ny | cons _ _ => rfl
      have bt0 : atI [pD q, pD r] 1 = some (pD r) := rfl
      simp [at0, at1, ne, e]
      refine ⟨x, y, rfl, fun z => absurd z ny, fun _ => ⟨ty, q, r, de, sz, ?_⟩⟩
      simp [bt0]
      have hlr := de.lr
      have := sz.sly
      refine ⟨r, rfl, de.tr, rzr, by omega, ?_⟩
      simp
      exact ⟨(mon r).length, by rw [mon_len]; exact hlr, y, mon r, rfl, run, rfl, rfl⟩)
end
end K14


set_option Elab.async false
set_option linter.all false
set_option maxRecDepth 100000
set_option maxHeartbeats 4000000
namespace K14
open PySem L2 DL RL
theorem get_map {l : List Rat} {i : Nat} {d : D} (h : (l.map rD)[i]? = some d) : i < l.length ∧ d = rD (co l i) := by
  have hi : i < l.length := by
    have := (List.getElem?_eq_some_iff.mp h).1
    simpa using this
  refine ⟨hi, ?_⟩
  rw [List.getElem?_map, List.getElem?_eq_getElem hi] at h
  rw [← Option.some.inj h]
  simp [co, hi]
def Wk (a b q : List Rat) (m : Nat) (ρ : En) : Prop := ∃ (f : List Rat) (o3 o4 o5 o6 : Option Sl), m = f.length ∧ trim f = f ∧ f.length < 1000 ∧ (∀ i, co f i = lf a b q (f.length + 1 - b.length) i) ∧ (free o3 ∧ free o4 ∧ free o5 ∧ free o6) ∧ ρ = [some (.dat (pD a)), some (.dat (pD b)), some (.own (f.map rD)), o3, o4, o5, o6]
def Wj (a b f0 : List Rat) (k : Nat) (c : Rat) (j : Nat) (ρ : En) : Prop := ∃ (f : List Rat) (o4 o5 o6 : Option Sl), f.length = f0.length ∧ (∀ i, co f i = co f0 i + -(if k ≤ i ∧ i - k < j then c * co b (i - k) else 0)) ∧ (free o4 ∧ free o5 ∧ free o6) ∧
  ρ = [some (.dat (pD a)), some (.dat (pD b)), some (.own (f.map rD)), some (.dat (rD c)), o4, o5, o6]
def Wgg (m k i : Nat) (acc : List D) (ρ : En) : Prop := ∃ (l : List Rat) (ns' : List Int), l.length = i ∧ (∀ r ∈ l, RL.In 1 9 r) ∧ acc = l.map rD ∧ ns' ≠ [] ∧ ρ = [some (.inn (ns'.map .int)), some (.dat (.bl true)), some (.dat (.int (m : Int))), some (.dat (.int (k : Int))), none]
theorem ne_nil (y : List Rat) (R : Sl → Prop) : gNe (pD y) (.tup []) R = R (.dat (.bl (!y.isEmpty))) := by
  unfold gNe
  rw [eqb_nil, shp_pD, shp_nil]; simp
theorem emp {y : List Rat} (h : y ≠ []) : y.isEmpty = false := by cases y with | nil => exact absurd rfl h | cons _ _ => rfl
section
variable {P : Program} [PlP P] {w : World} {K : PySem.W.Frag} {mg : Str → Option Value} {base : Heap}
theorem ok__law_by_lead (T : Txt K mg) : FnOk P w K mg base (L2.CX P w) 42 T.a__law_by_lead.f T.a__law_by_lead.fd ["_law_one"] (spD K 1 f__law_by_lead) :=
  fn_D (wb := w__law_by_lead) T.a__law_by_lead.F sc__law_by_lead (d__law_by_lead T (ok__law_lowest T)) (by
    rintro ds Q X hl ⟨l, rfl, tl, hz, hn, h⟩
    simp [w__law_by_lead, startE]
    refine lcm_by (ds := l.map rD) (res := (mon l).map rD) (by simp) (by simp [mon_len]) (by simp; omega) ?_ ?_
    · intro i d d' hd hd'
      obtain ⟨hi, rfl⟩ := get_map hd
      obtain ⟨hi2, rfl⟩ := get_map hd'
      have hne : l ≠ [] := by rintro rfl; simp at hi
      have e2 := div_eq (p := co l i) (trim_last tl hne)
      refine ⟨[.int (co l i).num, .int ((co l i).den : Int)], rfl, by simp, fun Q' X' hq => ?_⟩
      simp [at_last hne]
      refine ⟨mulz (hz i).1 (hz _).2 (by decide), mulz (hz i).2 (hz _).1 (by decide), _, _, rfl, e2.1, ?_⟩
      rw [e2.2]
      have := hq [some (.dat (pD l)), some (.dat (.int (co l i).num)), some (.dat (.int ((co l i).den : Int)))] (by simp)
      rw [co_mon] at this
      exact this
    · simp
      exact h)
theorem ok__law_rest (T : Txt K mg) : FnOk P w K mg base (L2.CX P w) 43 T.a__law_rest.f T.a__law_rest.fd ["_law_one", "_law_other"] (spD K 2 f__law_rest) :=
  fn_D (wb := w__law_rest) T.a__law_rest.F sc__law_rest (d__law_rest T (ok__law_product T) (ok__law_sum T) (ok__law_cut T)) (by
    rintro ds Q X hl ⟨a, b, q, r, rfl, ta, tb, nb, lb, de, s, h⟩
    have hb0 := ne_len nb
    have hlb := s.sly
    simp [w__law_rest, startE]
    refine while_by (Wk a b q) a.length ⟨a, none, none, none, none, rfl, ta, s.slx, fun i => ?_, ⟨trivial, trivial, trivial, trivial⟩, rfl⟩ ?_
    · rw [lf_big]
      by_cases c1 : a.length < b.length
      · rw [(de.short c1 tb nb).1]; simp
      · have := de.lq (by omega) tb nb
        omega
    · rintro m ρ ⟨f, o3, o4, o5, o6, rfl, tf, lf1, hf, ⟨f3, f4, f5, f6⟩, rfl⟩
      by_cases c1 : f.length < b.length
      · have e : f.length + 1 - b.length = 0 := by omega
        have ef : f = r := by
          refine eq_of_co tf de.tr ?_
          funext k
          rw [hf, e, lf_zero de]
        have c2 : ¬ ((b.length : Int) ≤ (f.length : Int)) := by omega
        simp [c2, Nat.not_le.mpr c1]
        rw [ef]
        exact h
      · have c2 : (b.length : Int) ≤ (f.length : Int) := by omega
        have nf : f ≠ [] := fun z => by
          have : f.length = 0 := by rw [z]; rfl
          omega
        obtain ⟨k, hk⟩ : ∃ k, f.length = k + b.length := ⟨f.length - b.length, by omega⟩
        have ek : f.length + 1 - b.length = k + 1 := by omega
        rw [ek] at hf
        have hc : co f (f.length - 1) = co q k := by
          have h1 := lf_fac tb nb de k
          unfold ld at lb
          rw [lb] at h1
          have h2 : (1 : Rat)⁻¹ = 1 := by decide +kernel
          rw [h2, Rat.mul_one] at h1
          rw [hf, ← h1]
          congr 1; omega
        simp [c2, Nat.le_of_not_lt c1, f3, at_last nf, hc]
        refine ⟨by omega, ?_⟩
        refine loop_by (Wj a b f k (co q k)) ⟨f, o4, o5, o6, rfl, fun i => ?_, ⟨f4, f5, f6⟩, rfl⟩ ?_ ?_
        · rw [if_neg fun z => Nat.not_lt_zero _ z.2]; grind
        · rintro ρ ⟨f', o4', o5', o6', hl', hc', ⟨f4', f5', f6'⟩, rfl⟩
          rw [rgD_len] at hc'
          have hf' : ∀ i, co f' i = lf a b q k i := fun i => by
            rw [hc' i, lf_step, hf]
            by_cases c1 : k ≤ i
            · by_cases c2 : i - k < b.length
              · rw [if_pos ⟨c1, c2⟩, if_pos c1]
              · rw [if_neg fun z => c2 z.2, if_pos c1, co_big (f := b) (by omega), Rat.mul_zero]
            · rw [if_neg fun z => c1 z.1, if_neg c1]
          have htl : (trim f').length < f.length := by
            by_cases ht : trim f' = []
            · rw [ht]; have := ne_len nf; simp; omega
            · have h1 := trim_last (trim_idem f') ht
              rw [co_trim', hf'] at h1
              have := ne_len ht
              rcases Nat.lt_or_ge (trim f').length f.length with z | z
              · exact z
              · exact absurd (lf_top de (by omega)) h1
          simp
          refine ⟨f', .inl rfl, ?_⟩
          simp
          refine ⟨(trim f').length, htl, trim f', some (.dat (rD (co q k))), o4', o5', o6', rfl, trim_idem _, by omega, fun i => ?_, ⟨trivial, f4', f5', f6'⟩, by simp⟩
          have e1 : co (trim f') i = lf a b q k i := by rw [co_trim', hf']
          rw [e1]
          have := lf_down tb nb de k (trim f').length (fun i hi => by rw [← hf', ← co_trim']; exact co_big hi) (by omega)
          exact congrFun this i
        · rintro j d ρ hd' ⟨f', o4', o5', o6', hl', hc', ⟨f4', f5', f6'⟩, rfl⟩
          obtain ⟨rfl, hj⟩ := rg_get hd'
          have hj : j < b.length := by omega
          have hjk : k + j < f'.length := by omega
          obtain ⟨u1, u2⟩ := at_co hjk
          have eat : (f'.length : Int) - (b.length : Int) + (j : Int) = ((k + j : Nat) : Int) := by omega
          rw [Int.natCast_add] at u1 u2 eat
          have b1 := (at_co hj).1
          have hv : co f' (k + j) = co f (k + j) := by
            rw [hc', if_neg fun z => by omega]; grind
          simp [f4', f5', f6', eat, b1]
          refine ⟨_, _, rfl, s.sq k, s.sy j, ?_⟩
          simp [u1, u2, rD_neg]
          refine ⟨_, _, rfl, by rw [hv, hf]; exact s.slf _ _, rz_neg (s.sqy k j), ?_⟩
          simp [u2]
          refine ⟨f'.set (k + j) (co f' (k + j) + -(co q k * co b j)), some (.dat (.int (j : Int))), some (.dat (.int ((k : Int) + (j : Int)))), some (.dat (rD (co q k * co b j))), by simp [hl'], fun m => ?_, ⟨trivial, trivial, trivial⟩, by simp⟩
          rw [co_set hjk]
          by_cases e : m = k + j
          · subst e
            rw [if_pos rfl, hv, if_pos ⟨by omega, by omega⟩, Nat.add_sub_cancel_left]
          · rw [if_neg e, hc' m]
            by_cases c1 : k ≤ m ∧ m - k < j
            · rw [if_pos c1, if_pos ⟨c1.1, by omega⟩]
            · rw [if_neg c1, if_neg fun z => c1 ⟨z.1, by omega⟩])
theorem ok__law_common (T : Txt K mg) : FnOk P w K mg base (L2.CX P w) 44 T.a__law_common.f T.a__law_common.fd ["_law_one", "_law_other"] (spD K 2 f__law_common) :=
  fn_D (wb := w__law_common) T.a__law_common.F sc__law_common (d__law_common T (ok__law_by_lead T) (ok__law_rest T)) (by
    rintro ds Q X hl ⟨a, b, g, rfl, ⟨ta, tb, za, zb, la, lb, run⟩, h⟩
    simp [w__law_common, startE]
    refine ⟨a, rfl, ta, za, la, ?_⟩
    simp
    refine ⟨b, rfl, tb, zb, lb, ?_⟩
    simp
    have lead : ∀ l : List Rat, trim l = l → (mon l = [] ∨ ld (mon l) = 1) := fun l hl => by
      by_cases h : l = []
      · subst h; exact .inl rfl
      · exact .inr (mon_ld hl h)
    refine while_by (fun m ρ => ∃ x y : List Rat, m = y.length ∧ Ez x y g ∧ trim x = x ∧ (y = [] ∨ ld y = 1) ∧ ρ = [some (.dat (pD a)), some (.dat (pD b)), some (.dat (pD x)), some (.dat (pD y))]) (mon b).length ⟨_, _, rfl, run, mon_trim ta, lead b tb, rfl⟩ ?_
    rintro m ρ ⟨x, y, rfl, run, tx, ly, rfl⟩
    cases run with
    | fin =>
      simp [ne_nil]
      exact h
    | @step _ _ q r _ ny ty de sz rzr run =>
      simp [ne_nil, emp ny]
      refine ⟨x, y, q, r, rfl, tx, ty, ny, ly.resolve_left ny, de, sz, ?_⟩
      simp
      have hlr := de.lr
      have := sz.sly
      refine ⟨r, rfl, de.tr, rzr, by omega, ?_⟩
      simp
      exact ⟨(mon r).length, by rw [mon_len]; exact hlr, y, mon r, rfl, run, ty, lead r de.tr, rfl, rfl⟩)
theorem ok__law_long (T : Txt K mg) : FnOk P w K mg base (L2.CX P w) 44 T.a__law_long.f T.a__law_long.fd ["_law_pot_here", "_law_is_long", "_law_many", "_law_most"] (spI K 4 f__law_long) :=
  fn_I (wb := w__law_long) T.a__law_long.F sc__law_long (d__law_long T (ok__law_cut T) (ok__law_take T) (ok__law_poly T)) (by
    rintro dl ds Q X hl ⟨ns, b, m, k, rfl, hn, rfl, hm0, hm, hk, h1, h0⟩
    cases b with
    | false =>
      have h := h0 rfl
      simp [w__law_long, startE]
      refine ⟨ns, k, rfl, hn, rfl, hk, fun l ns' gl hn' => ?_⟩
      simpa using h l ns' gl hn'
    | true =>
      have h := h1 rfl
      simp [w__law_long, startE]
      refine ⟨ns, (m : Int), rfl, hn, rfl, by omega, by omega, fun n ns1 n1 n2 hn1 => ?_⟩
      simp
      refine ⟨by omega, ?_⟩
      refine lc_by (by simp) (Wgg m k) ⟨[], ns1, rfl, by simp, rfl, hn1, rfl⟩ ?_ ?_
      · rintro acc ρ ⟨l, ns', hl, hs, rfl, hn', rfl⟩
        rw [rgD_len] at hl
        simp
        refine ⟨l, .inl rfl, ?_⟩
        have tl := trim_len l
        simpa using h _ ns' ⟨fun r hr => hs r (trim_mem hr), by omega, trim_idem l⟩ hn'
      · rintro i d acc ρ hd ⟨l, ns', hl, hs, rfl, hn', rfl⟩
        have hi := (rg_get hd).2
        simp
        refine ⟨ns', 19, rfl, hn', rfl, by decide, by decide, fun t ns'' t1 t2 hn'' => ?_⟩
        have e : D.tup [.int (t - 9), .int 1] = rD (Rat.divInt (t - 9) 1) := by
          have := mk_one (t - 9)
          unfold rD
          rw [this.1, this.2]; rfl
        simp [e]
        refine ⟨by omega, l ++ [Rat.divInt (t - 9) 1], ns'', by simp [hl], fun x hx => ?_, by simp, hn'', rfl⟩
        rcases List.mem_append.mp hx with z | z
        · exact hs x z
        · simp only [List.mem_singleton] at z; subst z; exact ⟨t - 9, rfl, by omega⟩)
theorem shp_rD (r : Rat) : (rD r).shp = true := by simp [D.shp, rD, D.plain, D.plains, D.deep, D.deeps]
theorem ok__law_parts (T : Txt K mg) : FnOk P w K mg base (L2.CX P w) 47 T.a__law_parts.f T.a__law_parts.fd ["_law_one", "_law_other", "_law_part"] (spD K 3 f__law_parts) :=
  fn_D (wb := w__law_parts T) T.a__law_parts.F sc__law_parts (d__law_parts T (ok_common T) (ok__law_is T) (ok__law_common T) (ok_poly_over T)) (by
    rintro ds Q X hl ⟨a, b, p, rfl, ⟨g, cm, hg0, hg1⟩, h⟩
    have eN : D.tup [] = pD [] := rfl
    have eqn : ∀ (y : List Rat) (R : Sl → Prop), gEq (pD y) (pD []) R = R (.dat (.bl y.isEmpty)) := fun y R => eq_nil y R
    have nen : ∀ (y : List Rat) (R : Sl → Prop), gNe (pD y) (pD []) R = R (.dat (.bl (!y.isEmpty))) := fun y R => ne_nil y R
    have rD1 : D.tup [.int 1, .int 1] = rD 1 := rfl
    have e11 : D.tup [rD 1] = pD [1] := rfl
    simp [w__law_parts, startE, eN]
    refine ⟨a, b, g, rfl, cm, ?_⟩
    simp
    refine ⟨a, b, g, rfl, cm, ?_⟩
    simp
    refine ⟨g, rfl, ?_⟩
    by_cases hab : a = [] ∧ b = []
    · obtain ⟨rfl, rfl⟩ := hab
      have := hg0 ⟨rfl, rfl⟩
      subst this
      simp [eqn, eN]
      exact h
    · obtain ⟨ng, tg, lg, q1, q2, t1, t2, e1, e2, s1, s2, hp, cmq⟩ := hg1 hab
      have d1 : RL.DE a g q1 [] := by rw [e1]; exact de_mul t1 ng
      have d2 : RL.DE b g q2 [] := by rw [e2]; exact de_mul t2 ng
      have bt1 : ∀ x y : List Rat, atI [pD x, pD y] 1 = some (pD y) := fun _ _ => rfl
      have bt0 : ∀ x y : List Rat, atI [pD x, pD y] 0 = some (pD x) := fun _ _ => rfl
      have ldg : co g (g.length - 1) = 1 := lg
      have hcond : (a.isEmpty && b.isEmpty) = false := by
        cases a with
        | nil => cases b with
          | nil => exact absurd ⟨rfl, rfl⟩ hab
          | cons _ _ => rfl
        | cons _ _ => rfl
      have key : ∀ A B : Prop, B → (if a = [] then if b = [] then A else B else B) := fun A B hB => by
        by_cases h1 : a = []
        · rw [if_pos h1, if_neg fun h2 => hab ⟨h1, h2⟩]; exact hB
        · rw [if_neg h1]; exact hB
      simp [eN, eqn]
      refine key _ _ ?_
      simp [at_last ng, ldg, rD1, g_neR (shp_rD 1)]
      refine ⟨a, g, rfl, fun z => absurd z ng, fun _ => ⟨tg, q1, [], d1, s1, ?_⟩⟩
      simp [bt1, nen, eN]
      refine ⟨b, g, rfl, fun z => absurd z ng, fun _ => ⟨tg, q2, [], d2, s2, ?_⟩⟩
      simp [bt1, nen, eN]
      have fin : ∀ A B : Prop, A → B → A ∧ B := fun _ _ a b => ⟨a, b⟩
      by_cases hpn : p = []
      · simp [hpn]
        refine ⟨a, g, rfl, fun z => absurd z ng, fun _ => ⟨tg, q1, [], d1, s1, ?_⟩⟩
        simp [bt0]
        refine ⟨b, g, rfl, fun z => absurd z ng, fun _ => ⟨tg, q2, [], d2, s2, ?_⟩⟩
        simp [bt0]
        refine ⟨q1, q2, [1], rfl, cmq, ?_⟩
        simp [rD1, e11]
        refine ⟨[1], rfl, ?_⟩
        simp
        exact h
      · obtain ⟨tp, q3, t3, e3, s3⟩ := hp hpn
        have d3 : RL.DE g p q3 [] := by rw [e3]; exact de_mul t3 hpn
        simp [hpn, emp hpn]
        refine ⟨g, p, rfl, fun z => absurd z hpn, fun _ => ⟨tp, q3, [], d3, s3, ?_⟩⟩
        simp [bt1, nen, eN]
        refine ⟨a, g, rfl, fun z => absurd z ng, fun _ => ⟨tg, q1, [], d1, s1, ?_⟩⟩
        simp [bt0]
        refine ⟨b, g, rfl, fun z => absurd z ng, fun _ => ⟨tg, q2, [], d2, s2, ?_⟩⟩
        simp [bt0]
        refine ⟨q1, q2, [1], rfl, cmq, ?_⟩
        simp [rD1, e11]
        refine ⟨[1], rfl, ?_⟩
        simp
        exact h)
structure Lim (p a b : List Rat) : Prop where
  ok : ∃ n c e : Nat, bnd n p ∧ bnd n a ∧ bnd n b ∧ bnd n (pmul p a) ∧ bnd n (pmul p b) ∧ a.length ≤ e ∧ b.length ≤ e ∧ 1 ≤ e ∧ e ≤ 10 ∧ n + 1 ≤ c ∧ n ≤ 100000 ∧ 30 * (2 * (c * 3 ^ e)) + 100 ≤ 60000000
  tp : trim p = p
  ta : trim a = a
  tb : trim b = b
  lp : p.length ≤ 21
theorem lim_long {p a b : List Rat} (hp : wholes 21 p) (ha : wholes 10 a) (hb : wholes 10 b) : Lim p a b := by
  have h1 : ∀ {n : Nat} {l : List Rat}, wholes n l → bnd 11 l := fun h => ⟨1, 9, by decide, h.1, by decide, by decide⟩
  have h2 : ∀ {l : List Rat}, wholes 10 l → bnd 11 (pmul p l) := fun {l} h => by
    refine ⟨1 * 1, 21 * (9 * 9), by decide, fun r hr => ?_, by decide, by decide⟩
    obtain ⟨k, rfl⟩ := mem_padd (a := p) (b := l) hr
    exact (cv_in (by decide) (by decide) (co_in h.1) hp.1 k).mono (Nat.mul_le_mul_right _ hp.2.1)
  exact ⟨⟨11, 12, 10, h1 hp, h1 ha, h1 hb, h2 ha, h2 hb, ha.2.1, hb.2.1, by decide, by decide, by decide, by decide, by decide⟩, hp.2.2, ha.2.2, hb.2.2, hp.2.1⟩
theorem lim_short {p a b : List Rat} (hp : smalls 6 p) (ha : smalls 5 a) (hb : smalls 5 b) : Lim p a b := by
  have h1 : ∀ {n : Nat} {l : List Rat}, n ≤ 6 → smalls n l → ∃ D, D ≠ 0 ∧ D ≤ 1000000000000 ^ n ∧ AllIn D (1000000000000 * D) l := fun hn h => by
    obtain ⟨D, h1, h2, h3⟩ := smalls_in h.1
    exact ⟨D, h1, Nat.le_trans h2 (Nat.pow_le_pow_right (by decide) h.2.1), h3⟩
  have h2 : ∀ {n : Nat} {l : List Rat}, n ≤ 6 → smalls n l → bnd 525 l := fun hn h => by
    obtain ⟨D, d1, d2, d3⟩ := h1 hn h
    have d4 : D ≤ 1000000000000 ^ 6 := Nat.le_trans d2 (Nat.pow_le_pow_right (by decide) hn)
    exact ⟨D, _, d1, d3, Nat.lt_of_le_of_lt d4 (by decide +kernel), Nat.lt_of_le_of_lt (Nat.mul_le_mul_left _ d4) (by decide +kernel)⟩
  have h3 : ∀ {l : List Rat}, smalls 5 l → bnd 525 (pmul p l) := fun {l} h => by
    obtain ⟨D, d1, d2, d3⟩ := h1 (Nat.le_refl _) hp
    obtain ⟨E, e1, e2, e3⟩ := h1 (by decide) h
    refine ⟨D * E, 6 * (1000000000000 * D * (1000000000000 * E)), Nat.mul_ne_zero d1 e1, fun r hr => ?_, ?_, ?_⟩
    · obtain ⟨k, rfl⟩ := mem_padd (a := p) (b := l) hr
      exact (cv_in d1 e1 (co_in e3) d3 k).mono (Nat.mul_le_mul_right _ hp.2.1)
    · exact Nat.lt_of_le_of_lt (Nat.mul_le_mul d2 e2) (by decide +kernel)
    · exact Nat.lt_of_le_of_lt (Nat.mul_le_mul_left _ (Nat.mul_le_mul (Nat.mul_le_mul_left _ d2) (Nat.mul_le_mul_left _ e2))) (by decide +kernel)
  exact ⟨⟨525, 526, 5, h2 (by decide) hp, h2 (by decide) ha, h2 (by decide) hb, h3 ha, h3 hb, ha.2.1, hb.2.1, by decide, by decide, by decide, by decide, by decide⟩, hp.2.2, ha.2.2, hb.2.2, Nat.le_trans hp.2.1 (by decide)⟩
theorem parts_nil (p : List Rat) : PartsOk [] [] p := by
  have z : ∀ k, rz 4400 (co [] k) := fun k => by rw [co_nil]; exact hz0.rz (by decide)
  exact ⟨[], ⟨rfl, rfl, z, z, by simp, by simp, .fin⟩, fun _ => rfl, fun h => absurd ⟨rfl, rfl⟩ h⟩
theorem nil_bnd (n : Nat) (hn : 1 ≤ n) : bnd n [] := ⟨1, 0, by decide, fun r hr => absurd hr List.not_mem_nil, Nat.one_lt_two_pow (by omega), Nat.two_pow_pos _⟩
theorem Lim.parts {p a b : List Rat} (h : Lim p a b) : PartsOk (pmul p a) (pmul p b) p ∧ PartsOk (pmul p b) (pmul p a) p ∧ PartsOk a b [] ∧ PartsOk p [] p ∧ PartsOk [] a a := by
  obtain ⟨n, c, e, b1, b2, b3, b4, b5, l1, l2, e0, e1, n1, n2, big⟩ := h.ok
  have n0 : 1 ≤ n := by
    rcases Nat.eq_zero_or_pos n with z | z
    · subst z
      obtain ⟨D, N, h1, h2, h3, h4⟩ := b1
      simp at h3; omega
    · exact z
  have lp := h.lp
  have pl : ∀ l : List Rat, trim l = l → p ≠ [] → l.length ≤ e → (pmul p l).length ≤ p.length + e - 1 := fun l tl np hl => by
    by_cases hn : l = []
    · subst hn; rw [pmul_nil]; simp
    · have := (pmul_len h.tp tl np hn).1
      omega
  have dv : ∀ l : List Rat, trim l = l → Dvd p (pmul p l) := fun l tl => ⟨l, tl, pmul_comm p l⟩
  refine ⟨?_, ?_, ?_, ?_, ?_⟩
  · by_cases np : p = []
    · subst np; rw [nil_pmul, nil_pmul]; exact parts_nil _
    · have := ne_len np
      exact parts_of (K := p.length + e - 1) (t_mul ..) (t_mul ..) h.tp np (dv a h.ta) (dv b h.tb) (pl a h.ta np l1) (pl b h.tb np l2) (by omega) e1 (by omega) b4 b5 n1 n2 big (.inr ⟨rfl, b1⟩)
  · by_cases np : p = []
    · subst np; rw [nil_pmul, nil_pmul]; exact parts_nil _
    · have := ne_len np
      exact parts_of (K := p.length + e - 1) (t_mul ..) (t_mul ..) h.tp np (dv b h.tb) (dv a h.ta) (pl b h.tb np l2) (pl a h.ta np l1) (by omega) e1 (by omega) b5 b4 n1 n2 big (.inr ⟨rfl, b1⟩)
  · exact parts_of (p0 := [1]) (K := e) h.ta h.tb (by rfl) (by simp) ⟨a, h.ta, (pmul_one h.ta).symm⟩ ⟨b, h.tb, (pmul_one h.tb).symm⟩ l1 l2 (by simp; omega) e1 (by omega) b2 b3 n1 n2 big (.inl rfl)
  · by_cases np : p = []
    · subst np; exact parts_nil _
    · exact parts_of (K := p.length) h.tp rfl h.tp np (Dvd.refl h.tp) (Dvd.nil _) (Nat.le_refl _) (by simp) (by omega) e1 (by omega) b1 (nil_bnd n n0) n1 n2 big (.inr ⟨rfl, b1⟩)
  · by_cases na : a = []
    · subst na; exact parts_nil _
    · exact parts_of (K := a.length) rfl h.ta h.ta na (Dvd.nil _) (Dvd.refl h.ta) (by simp) (Nat.le_refl _) (by omega) e1 (by omega) (nil_bnd n n0) b2 n1 n2 big (.inr ⟨rfl, b2⟩)
theorem long_of {ns : List Int} {b : Bool} {m k : Nat} {Q : Sl → List D → Prop} {X : Value → List D → Prop} (hn : ns ≠ []) (h0 : 0 < m) (hm : m < 1000) (hk : k < 1000) (h : ∀ (l : List Rat) (ns' : List Int), ((b = true ∧ wholes (m - 1) l) ∨ (b = false ∧ smalls (k + 1) l)) → ns' ≠ [] → Q (.dat (pD l)) (ns'.map .int)) : f__law_long (ns.map .int) [.bl b, .int (m : Int), .int (k : Int)] Q X :=
  ⟨ns, b, m, k, rfl, hn, rfl, h0, hm, hk, fun e l ns' g => h l ns' (.inl ⟨e, g⟩), fun e l ns' g => h l ns' (.inr ⟨e, g⟩)⟩
theorem ok_law (T : Txt K mg) : FnOk P w K mg base (L2.CX P w) 48 T.a_law.f T.a_law.fd ["_law_script"] (spD K 1 f_law) :=
  fn_D (wb := w_law T) T.a_law.F sc_law (d_law T (ok__law_cell T) (ok__law_long T) (ok__law_pot T) (ok_poly_times T) (ok__law_multiplied T) (ok__law_parts T) (ok_common T)) (by
    rintro ds Q X hl ⟨ns, rfl, h⟩
    show w_law T _ [some (.dat (.lst (ns.map .int))), none, none, none, none, none, none]
    unfold w_law
    simp only [s_seq, s_set, e_op, e_callD, e_cons, e_nil, e_var, e_c, List.getElem?_cons_zero, vk_dat, cs_cons, cs_nil, c_dat]
    refine ⟨ns, 0, rfl, fun c0 => ?_⟩
    simp (maxSteps := 3000000)
    obtain ⟨isl, hisl⟩ : ∃ isl : Bool, isl = decide (Int.fmod c0 4 = 3) := ⟨_, rfl⟩
    rw [← hisl]
    refine ⟨ns, 1, rfl, fun c => ?_⟩
    simp
    refine ⟨c, rfl, fun pot hp => ?_⟩
    simp
    refine long_of (m := 22) (k := 5) hp (by decide) (by decide) (by decide) fun p _ g1 _ => ?_
    simp
    refine ⟨ns, 2, rfl, fun c => ?_⟩
    simp
    refine ⟨c, rfl, fun pot hp => ?_⟩
    simp
    refine long_of (m := 11) (k := 4) hp (by decide) (by decide) (by decide) fun a _ g2 _ => ?_
    simp
    refine ⟨ns, 3, rfl, fun c => ?_⟩
    simp
    refine ⟨c, rfl, fun pot hp => ?_⟩
    simp
    refine long_of (m := 11) (k := 4) hp (by decide) (by decide) (by decide) fun b _ g3 _ => ?_
    have lim : Lim p a b := by
      cases hb : isl with
      | true =>
        rw [hb] at g1 g2 g3
        simp at g1 g2 g3
        exact lim_long g1 g2 g3
      | false =>
        rw [hb] at g1 g2 g3
        simp at g1 g2 g3
        exact lim_short g1 g2 g3
    clear g1 g2 g3
    obtain ⟨q1, q2, q3, q4, q5⟩ := lim.parts
    obtain ⟨n, c, e, b1, b2, b3, b4, b5, l1, l2, e0, e1, n1, n2, big⟩ := lim.ok
    have lp := lim.lp
    have eN : D.tup [] = pD [] := rfl
    have z : ∀ k, rz 4400 (co [] k) := fun k => by rw [co_nil]; exact hz0.rz (by decide)
    have ptm : ∀ {C : Addr} {l : List Rat} {Q : Sl → Prop} {X : Value → Prop}, bnd n l → l.length ≤ e → Q (.dat (pD (pmul p l))) → f_poly_times C [pD p, pD l] Q X := fun hb hl hq => pt_ok b1 hb (by omega) (by omega) (by omega) hq
    simp
    refine ptm b2 l1 ?_
    simp
    refine ptm b3 l2 ?_
    simp
    refine ptm b2 l1 ?_
    simp [g_neR (shp_pD _)]
    refine ptm b3 l2 ?_
    simp [g_neR (shp_pD _)]
    refine ⟨_, _, _, rfl, q1, ?_⟩
    simp
    refine ⟨_, _, _, rfl, q2, ?_⟩
    simp [eN]
    refine ⟨_, _, _, rfl, q3, ?_⟩
    simp [eN]
    refine ⟨_, _, _, rfl, q4, ?_⟩
    simp [eN]
    refine ⟨_, _, _, rfl, q5, ?_⟩
    simp [eN]
    refine ⟨[], [], [], rfl, ⟨rfl, rfl, z, z, by simp, by simp, .fin⟩, ?_⟩
    simp [eN, g_eqR (shp_pD _)]
    exact h)
end
end K14

set_option Elab.async false
set_option linter.all false
set_option maxRecDepth 100000
set_option maxHeartbeats 0
namespace K14
open PySem PySem.Spec PyProof.Rows L2 DL RL
def hd_greatest_divisor : He.DefD := ⟨("greatest_divisor", none), "greatest_divisor", "greatest_divisor", defArgs s_greatest_divisor, defBody s_greatest_divisor, defScope s_greatest_divisor, [], []⟩
def hd_fraction : He.DefD := ⟨("fraction", none), "fraction", "fraction", defArgs s_fraction, defBody s_fraction, defScope s_fraction, [], []⟩
def hd_plus : He.DefD := ⟨("plus", none), "plus", "plus", defArgs s_plus, defBody s_plus, defScope s_plus, [], []⟩
def hd_minus : He.DefD := ⟨("minus", none), "minus", "minus", defArgs s_minus, defBody s_minus, defScope s_minus, [], []⟩
def hd_times : He.DefD := ⟨("times", none), "times", "times", defArgs s_times, defBody s_times, defScope s_times, [], []⟩
def hd_over : He.DefD := ⟨("over", none), "over", "over", defArgs s_over, defBody s_over, defScope s_over, [], []⟩
def hd_poly : He.DefD := ⟨("poly", none), "poly", "poly", defArgs s_poly, defBody s_poly, defScope s_poly, [], []⟩
def hd_poly_times : He.DefD := ⟨("poly_times", none), "poly_times", "poly_times", defArgs s_poly_times, defBody s_poly_times, defScope s_poly_times, [], []⟩
def hd_poly_over : He.DefD := ⟨("poly_over", none), "poly_over", "poly_over", defArgs s_poly_over, defBody s_poly_over, defScope s_poly_over, [], []⟩
def hd_with_lead_one : He.DefD := ⟨("with_lead_one", none), "with_lead_one", "with_lead_one", defArgs s_with_lead_one, defBody s_with_lead_one, defScope s_with_lead_one, [], []⟩
def hd_common : He.DefD := ⟨("common", none), "common", "common", defArgs s_common, defBody s_common, defScope s_common, [], []⟩
def hd__law_cell : He.DefD := ⟨("_law_cell", none), "_law_cell", "_law_cell", defArgs s__law_cell, defBody s__law_cell, defScope s__law_cell, [], []⟩
def hd__law_pot : He.DefD := ⟨("_law_pot", none), "_law_pot", "_law_pot", defArgs s__law_pot, defBody s__law_pot, defScope s__law_pot, [], []⟩
def hd__law_take : He.DefD := ⟨("_law_take", none), "_law_take", "_law_take", defArgs s__law_take, defBody s__law_take, defScope s__law_take, [], []⟩
def hd__law_lowest : He.DefD := ⟨("_law_lowest", none), "_law_lowest", "_law_lowest", defArgs s__law_lowest, defBody s__law_lowest, defScope s__law_lowest, [], []⟩
def hd__law_sum : He.DefD := ⟨("_law_sum", none), "_law_sum", "_law_sum", defArgs s__law_sum, defBody s__law_sum, defScope s__law_sum, [], []⟩
def hd__law_product : He.DefD := ⟨("_law_product", none), "_law_product", "_law_product", defArgs s__law_product, defBody s__law_product, defScope s__law_product, [], []⟩
def hd__law_fraction : He.DefD := ⟨("_law_fraction", none), "_law_fraction", "_law_fraction", defArgs s__law_fraction, defBody s__law_fraction, defScope s__law_fraction, [], []⟩
def hd__law_cut : He.DefD := ⟨("_law_cut", none), "_law_cut", "_law_cut", defArgs s__law_cut, defBody s__law_cut, defScope s__law_cut, [], []⟩
def hd__law_poly : He.DefD := ⟨("_law_poly", none), "_law_poly", "_law_poly", defArgs s__law_poly, defBody s__law_poly, defScope s__law_poly, [], []⟩
def hd__law_added : He.DefD := ⟨("_law_added", none), "_law_added", "_law_added", defArgs s__law_added, defBody s__law_added, defScope s__law_added, [], []⟩
def hd__law_multiplied : He.DefD := ⟨("_law_multiplied", none), "_law_multiplied", "_law_multiplied", defArgs s__law_multiplied, defBody s__law_multiplied, defScope s__law_multiplied, [], []⟩
def hd__law_is : He.DefD := ⟨("_law_is", none), "_law_is", "_law_is", defArgs s__law_is, defBody s__law_is, defScope s__law_is, [], []⟩
def hd__law_by_lead : He.DefD := ⟨("_law_by_lead", none), "_law_by_lead", "_law_by_lead", defArgs s__law_by_lead, defBody s__law_by_lead, defScope s__law_by_lead, [], []⟩
def hd__law_rest : He.DefD := ⟨("_law_rest", none), "_law_rest", "_law_rest", defArgs s__law_rest, defBody s__law_rest, defScope s__law_rest, [], []⟩
def hd__law_common : He.DefD := ⟨("_law_common", none), "_law_common", "_law_common", defArgs s__law_common, defBody s__law_common, defScope s__law_common, [], []⟩
def hd__law_parts : He.DefD := ⟨("_law_parts", none), "_law_parts", "_law_parts", defArgs s__law_parts, defBody s__law_parts, defScope s__law_parts, [], []⟩
def hd__law_long : He.DefD := ⟨("_law_long", none), "_law_long", "_law_long", defArgs s__law_long, defBody s__law_long, defScope s__law_long, [], []⟩
def hd_law : He.DefD := ⟨("law", none), "law", "law", defArgs s_law, defBody s_law, defScope s_law, [], []⟩
def hfn : List He.DefD := [hd_greatest_divisor, hd_fraction, hd_plus, hd_minus, hd_times, hd_over, hd_poly, hd_poly_times, hd_poly_over, hd_with_lead_one, hd_common, hd__law_cell, hd__law_pot, hd__law_take, hd__law_lowest, hd__law_sum, hd__law_product, hd__law_fraction, hd__law_cut, hd__law_poly, hd__law_added, hd__law_multiplied, hd__law_is, hd__law_by_lead, hd__law_rest, hd__law_common, hd__law_parts, hd__law_long, hd_law]
def hfa0 : List He.Fa := [.free "abs", .glo "NoDivisor", .exc "NoDivisor", .free "len", .free "tuple", .glo "NOUGHT", .free "max", .free "enumerate", .free "list", .free "reversed", .free "range", .free "isinstance", .free "int", .free "bool", .glo "greatest_divisor", .glo "fraction", .glo "plus", .glo "minus", .glo "times", .glo "over", .glo "poly", .glo "poly_times", .glo "poly_over", .glo "with_lead_one", .glo "common", .glo "_law_cell", .glo "_law_pot", .glo "_law_take", .glo "_law_lowest", .glo "_law_sum"]
def hfa1 : List He.Fa := [.glo "_law_product", .glo "_law_fraction", .glo "_law_cut", .glo "_law_poly", .glo "_law_added", .glo "_law_multiplied", .glo "_law_is", .glo "_law_by_lead", .glo "_law_rest", .glo "_law_common", .glo "_law_parts", .glo "_law_long", .glo "law"]
def hfa : List He.Fa := hfa0 ++ hfa1
def hex (K : PySem.W.Frag) : Bool := seerB K && (tupB K (He.ga K "NOUGHT") [.int 0, .int 1] && (true))
def loose0 : List Str := ["RootError", "NoDivisor", "NOUGHT", "greatest_divisor", "fraction", "plus", "minus", "times", "over", "poly", "poly_times", "poly_over", "with_lead_one", "common", "_law_cell", "_law_pot", "_law_take", "_law_lowest", "_law_sum", "_law_product", "_law_fraction", "_law_cut", "_law_poly", "_law_added", "_law_multiplied", "_law_is", "_law_by_lead", "_law_rest", "_law_common", "_law_parts"]
def loose1 : List Str := ["_law_long"]
def loose : List Str := loose0 ++ loose1
abbrev hR : PySem.W.OpenRow := PySem.W.OpenLaw.row PySem.Challenge.rw_rootgroup_k14_whole_greatest_common_part
abbrev hk : PySem.W.Hook := hookY 4 hex hfa hfn
def ob (s : PySem.W.SharedT) : AlX := obsYG 4 hex hfa hfn (HandSHeadRun.getT s)
theorem ob_eq (s : PySem.W.SharedT) : ob s = hk.obs s.abs := obsYG_eq (HandSHeadRun.getT_eq s)
theorem run (w : World) : HandSHeadRun.RunEq hR (PySem.W.view hR.prog [35]) hk ob 8000 loose w := by
  intro os
  kernel_rfl
theorem facts {P : Program} [PlP P] {w : World} {K : PySem.W.Frag} {h : Heap} {mg : Str → Option Value} {f : Addr} (X : K.In h) (G : h.Ns mainGlobals mg) (hf : mg ("law" : Str) = some (.ref f)) (cx : hex K = true) (c : He.SaysD hfa hfn K) :
    ∃ fd : FuncData, (∀ (s : Shared) (v : Value), BindsTo s fd ⟨[v], []⟩ [("_law_script", v)]) ∧ ∀ base : Heap, K.In base → base.Ns mainGlobals mg → FnOk P w K mg base (L2.CX P w) 48 f fd ["_law_script"] (spD K 1 f_law) := by
  obtain ⟨y0, cx⟩ := He.ba cx
  obtain ⟨y1, cx⟩ := He.ba cx
  obtain ⟨fd0, F0⟩ := c.def_ 0 (d := hd_greatest_divisor) rfl
  obtain ⟨fd1, F1⟩ := c.def_ 1 (d := hd_fraction) rfl
  obtain ⟨fd2, F2⟩ := c.def_ 2 (d := hd_plus) rfl
  obtain ⟨fd3, F3⟩ := c.def_ 3 (d := hd_minus) rfl
  obtain ⟨fd4, F4⟩ := c.def_ 4 (d := hd_times) rfl
  obtain ⟨fd5, F5⟩ := c.def_ 5 (d := hd_over) rfl
  obtain ⟨fd6, F6⟩ := c.def_ 6 (d := hd_poly) rfl
  obtain ⟨fd7, F7⟩ := c.def_ 7 (d := hd_poly_times) rfl
  obtain ⟨fd8, F8⟩ := c.def_ 8 (d := hd_poly_over) rfl
  obtain ⟨fd9, F9⟩ := c.def_ 9 (d := hd_with_lead_one) rfl
  obtain ⟨fd10, F10⟩ := c.def_ 10 (d := hd_common) rfl
  obtain ⟨fd11, F11⟩ := c.def_ 11 (d := hd__law_cell) rfl
  obtain ⟨fd12, F12⟩ := c.def_ 12 (d := hd__law_pot) rfl
  obtain ⟨fd13, F13⟩ := c.def_ 13 (d := hd__law_take) rfl
  obtain ⟨fd14, F14⟩ := c.def_ 14 (d := hd__law_lowest) rfl
  obtain ⟨fd15, F15⟩ := c.def_ 15 (d := hd__law_sum) rfl
  obtain ⟨fd16, F16⟩ := c.def_ 16 (d := hd__law_product) rfl
  obtain ⟨fd17, F17⟩ := c.def_ 17 (d := hd__law_fraction) rfl
  obtain ⟨fd18, F18⟩ := c.def_ 18 (d := hd__law_cut) rfl
  obtain ⟨fd19, F19⟩ := c.def_ 19 (d := hd__law_poly) rfl
  obtain ⟨fd20, F20⟩ := c.def_ 20 (d := hd__law_added) rfl
  obtain ⟨fd21, F21⟩ := c.def_ 21 (d := hd__law_multiplied) rfl
  obtain ⟨fd22, F22⟩ := c.def_ 22 (d := hd__law_is) rfl
  obtain ⟨fd23, F23⟩ := c.def_ 23 (d := hd__law_by_lead) rfl
  obtain ⟨fd24, F24⟩ := c.def_ 24 (d := hd__law_rest) rfl
  obtain ⟨fd25, F25⟩ := c.def_ 25 (d := hd__law_common) rfl
  obtain ⟨fd26, F26⟩ := c.def_ 26 (d := hd__law_parts) rfl
  obtain ⟨fd27, F27⟩ := c.def_ 27 (d := hd__law_long) rfl
  obtain ⟨fd28, F28⟩ := c.def_ 28 (d := hd_law) rfl
  let A0 : At K mg "greatest_divisor" s_greatest_divisor ["one", "other"] := { f := _, fd := fd0, F := F0, g := He.glo_ok X G (c.fact 14 (f := .glo "greatest_divisor") rfl), b := FunD.bindsN F0 fun _ _ _ _ _ _ us hl => match us, hl with | [_, _], _ => rfl }
  let A1 : At K mg "fraction" s_fraction ["top", "bottom"] := { f := _, fd := fd1, F := F1, g := He.glo_ok X G (c.fact 15 (f := .glo "fraction") rfl), b := FunD.bindsN F1 fun _ _ _ _ _ _ us hl => match us, hl with | [_, _], _ => rfl }
  let A2 : At K mg "plus" s_plus ["one", "other"] := { f := _, fd := fd2, F := F2, g := He.glo_ok X G (c.fact 16 (f := .glo "plus") rfl), b := FunD.bindsN F2 fun _ _ _ _ _ _ us hl => match us, hl with | [_, _], _ => rfl }
  let A3 : At K mg "minus" s_minus ["one", "other"] := { f := _, fd := fd3, F := F3, g := He.glo_ok X G (c.fact 17 (f := .glo "minus") rfl), b := FunD.bindsN F3 fun _ _ _ _ _ _ us hl => match us, hl with | [_, _], _ => rfl }
  let A4 : At K mg "times" s_times ["one", "other"] := { f := _, fd := fd4, F := F4, g := He.glo_ok X G (c.fact 18 (f := .glo "times") rfl), b := FunD.bindsN F4 fun _ _ _ _ _ _ us hl => match us, hl with | [_, _], _ => rfl }
  let A5 : At K mg "over" s_over ["one", "other"] := { f := _, fd := fd5, F := F5, g := He.glo_ok X G (c.fact 19 (f := .glo "over") rfl), b := FunD.bindsN F5 fun _ _ _ _ _ _ us hl => match us, hl with | [_, _], _ => rfl }
  let A6 : At K mg "poly" s_poly ["some"] := { f := _, fd := fd6, F := F6, g := He.glo_ok X G (c.fact 20 (f := .glo "poly") rfl), b := FunD.bindsN F6 fun _ _ _ _ _ _ us hl => match us, hl with | [_], _ => rfl }
  let A7 : At K mg "poly_times" s_poly_times ["one", "other"] := { f := _, fd := fd7, F := F7, g := He.glo_ok X G (c.fact 21 (f := .glo "poly_times") rfl), b := FunD.bindsN F7 fun _ _ _ _ _ _ us hl => match us, hl with | [_, _], _ => rfl }
  let A8 : At K mg "poly_over" s_poly_over ["one", "other"] := { f := _, fd := fd8, F := F8, g := He.glo_ok X G (c.fact 22 (f := .glo "poly_over") rfl), b := FunD.bindsN F8 fun _ _ _ _ _ _ us hl => match us, hl with | [_, _], _ => rfl }
  let A9 : At K mg "with_lead_one" s_with_lead_one ["one"] := { f := _, fd := fd9, F := F9, g := He.glo_ok X G (c.fact 23 (f := .glo "with_lead_one") rfl), b := FunD.bindsN F9 fun _ _ _ _ _ _ us hl => match us, hl with | [_], _ => rfl }
  let A10 : At K mg "common" s_common ["one", "other"] := { f := _, fd := fd10, F := F10, g := He.glo_ok X G (c.fact 24 (f := .glo "common") rfl), b := FunD.bindsN F10 fun _ _ _ _ _ _ us hl => match us, hl with | [_, _], _ => rfl }
  let A11 : At K mg "_law_cell" s__law_cell ["_law_script", "_law_k"] := { f := _, fd := fd11, F := F11, g := He.glo_ok X G (c.fact 25 (f := .glo "_law_cell") rfl), b := FunD.bindsN F11 fun _ _ _ _ _ _ us hl => match us, hl with | [_, _], _ => rfl }
  let A12 : At K mg "_law_pot" s__law_pot ["_law_cell_here"] := { f := _, fd := fd12, F := F12, g := He.glo_ok X G (c.fact 26 (f := .glo "_law_pot") rfl), b := FunD.bindsN F12 fun _ _ _ _ _ _ us hl => match us, hl with | [_], _ => rfl }
  let A13 : At K mg "_law_take" s__law_take ["_law_pot_here", "_law_many"] := { f := _, fd := fd13, F := F13, g := He.glo_ok X G (c.fact 27 (f := .glo "_law_take") rfl), b := FunD.bindsN F13 fun _ _ _ _ _ _ us hl => match us, hl with | [_, _], _ => rfl }
  let A14 : At K mg "_law_lowest" s__law_lowest ["_law_top", "_law_bottom"] := { f := _, fd := fd14, F := F14, g := He.glo_ok X G (c.fact 28 (f := .glo "_law_lowest") rfl), b := FunD.bindsN F14 fun _ _ _ _ _ _ us hl => match us, hl with | [_, _], _ => rfl }
  let A15 : At K mg "_law_sum" s__law_sum ["_law_one", "_law_other"] := { f := _, fd := fd15, F := F15, g := He.glo_ok X G (c.fact 29 (f := .glo "_law_sum") rfl), b := FunD.bindsN F15 fun _ _ _ _ _ _ us hl => match us, hl with | [_, _], _ => rfl }
  let A16 : At K mg "_law_product" s__law_product ["_law_one", "_law_other"] := { f := _, fd := fd16, F := F16, g := He.glo_ok X G (c.fact 30 (f := .glo "_law_product") rfl), b := FunD.bindsN F16 fun _ _ _ _ _ _ us hl => match us, hl with | [_, _], _ => rfl }
  let A17 : At K mg "_law_fraction" s__law_fraction ["_law_pot_here"] := { f := _, fd := fd17, F := F17, g := He.glo_ok X G (c.fact 31 (f := .glo "_law_fraction") rfl), b := FunD.bindsN F17 fun _ _ _ _ _ _ us hl => match us, hl with | [_], _ => rfl }
  let A18 : At K mg "_law_cut" s__law_cut ["_law_some"] := { f := _, fd := fd18, F := F18, g := He.glo_ok X G (c.fact 32 (f := .glo "_law_cut") rfl), b := FunD.bindsN F18 fun _ _ _ _ _ _ us hl => match us, hl with | [_], _ => rfl }
  let A19 : At K mg "_law_poly" s__law_poly ["_law_pot_here", "_law_most"] := { f := _, fd := fd19, F := F19, g := He.glo_ok X G (c.fact 33 (f := .glo "_law_poly") rfl), b := FunD.bindsN F19 fun _ _ _ _ _ _ us hl => match us, hl with | [_, _], _ => rfl }
  let A20 : At K mg "_law_added" s__law_added ["_law_one", "_law_other", "_law_sign"] := { f := _, fd := fd20, F := F20, g := He.glo_ok X G (c.fact 34 (f := .glo "_law_added") rfl), b := FunD.bindsN F20 fun _ _ _ _ _ _ us hl => match us, hl with | [_, _, _], _ => rfl }
  let A21 : At K mg "_law_multiplied" s__law_multiplied ["_law_one", "_law_other"] := { f := _, fd := fd21, F := F21, g := He.glo_ok X G (c.fact 35 (f := .glo "_law_multiplied") rfl), b := FunD.bindsN F21 fun _ _ _ _ _ _ us hl => match us, hl with | [_, _], _ => rfl }
  let A22 : At K mg "_law_is" s__law_is ["_law_found", "_law_due"] := { f := _, fd := fd22, F := F22, g := He.glo_ok X G (c.fact 36 (f := .glo "_law_is") rfl), b := FunD.bindsN F22 fun _ _ _ _ _ _ us hl => match us, hl with | [_, _], _ => rfl }
  let A23 : At K mg "_law_by_lead" s__law_by_lead ["_law_one"] := { f := _, fd := fd23, F := F23, g := He.glo_ok X G (c.fact 37 (f := .glo "_law_by_lead") rfl), b := FunD.bindsN F23 fun _ _ _ _ _ _ us hl => match us, hl with | [_], _ => rfl }
  let A24 : At K mg "_law_rest" s__law_rest ["_law_one", "_law_other"] := { f := _, fd := fd24, F := F24, g := He.glo_ok X G (c.fact 38 (f := .glo "_law_rest") rfl), b := FunD.bindsN F24 fun _ _ _ _ _ _ us hl => match us, hl with | [_, _], _ => rfl }
  let A25 : At K mg "_law_common" s__law_common ["_law_one", "_law_other"] := { f := _, fd := fd25, F := F25, g := He.glo_ok X G (c.fact 39 (f := .glo "_law_common") rfl), b := FunD.bindsN F25 fun _ _ _ _ _ _ us hl => match us, hl with | [_, _], _ => rfl }
  let A26 : At K mg "_law_parts" s__law_parts ["_law_one", "_law_other", "_law_part"] := { f := _, fd := fd26, F := F26, g := He.glo_ok X G (c.fact 40 (f := .glo "_law_parts") rfl), b := FunD.bindsN F26 fun _ _ _ _ _ _ us hl => match us, hl with | [_, _, _], _ => rfl }
  let A27 : At K mg "_law_long" s__law_long ["_law_pot_here", "_law_is_long", "_law_many", "_law_most"] := { f := _, fd := fd27, F := F27, g := He.glo_ok X G (c.fact 41 (f := .glo "_law_long") rfl), b := FunD.bindsN F27 fun _ _ _ _ _ _ us hl => match us, hl with | [_, _, _, _], _ => rfl }
  let A28 : At K mg "law" s_law ["_law_script"] := { f := _, fd := fd28, F := F28, g := He.glo_ok X G (c.fact 42 (f := .glo "law") rfl), b := FunD.bindsN F28 fun _ _ _ _ _ _ us hl => match us, hl with | [_], _ => rfl }
  let T : Txt K mg := { a_greatest_divisor := A0, a_fraction := A1, a_plus := A2, a_minus := A3, a_times := A4, a_over := A5, a_poly := A6, a_poly_times := A7, a_poly_over := A8, a_with_lead_one := A9, a_common := A10, a__law_cell := A11, a__law_pot := A12, a__law_take := A13, a__law_lowest := A14, a__law_sum := A15, a__law_product := A16, a__law_fraction := A17, a__law_cut := A18, a__law_poly := A19, a__law_added := A20, a__law_multiplied := A21, a__law_is := A22, a__law_by_lead := A23, a__law_rest := A24, a__law_common := A25, a__law_parts := A26, a__law_long := A27, a_law := A28, n_abs := He.free_ok X G (c.fact 0 (f := .free "abs") rfl), x_NoDivisor := He.ga K "NoDivisor", g_NoDivisor := He.glo_ok X G (c.fact 1 (f := .glo "NoDivisor") rfl), q_NoDivisor := (He.exc_ok (c.fact 2 (f := .exc "NoDivisor") rfl)).1, k_NoDivisor := (He.exc_ok (c.fact 2 (f := .exc "NoDivisor") rfl)).2.1, b_NoDivisor := (He.exc_ok (c.fact 2 (f := .exc "NoDivisor") rfl)).2.2.1, t_NoDivisor := (He.exc_ok (c.fact 2 (f := .exc "NoDivisor") rfl)).2.2.2, sr := y0, n_len := He.free_ok X G (c.fact 3 (f := .free "len") rfl), n_tuple := He.free_ok X G (c.fact 4 (f := .free "tuple") rfl), x_NOUGHT := He.ga K "NOUGHT", c_NOUGHT := He.glo_ok X G (c.fact 5 (f := .glo "NOUGHT") rfl), i_NOUGHT := fun B H => .tup (tupB_ok y1 H) (.cons (.int 0) (.cons (.int 1) .nil)), n_max := He.free_ok X G (c.fact 6 (f := .free "max") rfl), n_enumerate := He.free_ok X G (c.fact 7 (f := .free "enumerate") rfl), n_list := He.free_ok X G (c.fact 8 (f := .free "list") rfl), n_reversed := He.free_ok X G (c.fact 9 (f := .free "reversed") rfl), n_range := He.free_ok X G (c.fact 10 (f := .free "range") rfl), n_isinstance := He.free_ok X G (c.fact 11 (f := .free "isinstance") rfl), n_int := He.free_ok X G (c.fact 12 (f := .free "int") rfl), n_bool := He.free_ok X G (c.fact 13 (f := .free "bool") rfl) }
  have e := hf.symm.trans A28.g
  cases e
  have b := FunD.bindsA (ps := ["_law_script"]) F28 fun _ _ _ _ _ _ us hl => match us, hl with | [_], _ => rfl
  exact ⟨fd28, fun s v => b s [v] rfl, fun base _ _ => ok_law T⟩
end K14
open PySem PySem.W PySem.Calls PyProof.Rows
theorem PySem.Challenge.cw_rootgroup_k14_whole_greatest_common_part_holds : PySem.Challenge.rw_rootgroup_k14_whole_greatest_common_part.Holds := by
  w_on; o_law
  refine HandSHeadRun.head_any (r := OpenLaw.row PySem.Challenge.rw_rootgroup_k14_whole_greatest_common_part) (q := view (OpenLaw.row PySem.Challenge.rw_rootgroup_k14_whole_greatest_common_part).prog [35]) (H := K14.hk) (ob := K14.ob) (M := 8000) (loose := K14.loose) (d := HandSHeadRun.topDef (OpenLaw.row PySem.Challenge.rw_rootgroup_k14_whole_greatest_common_part).prog 35) (kwd := []) K14.ob_eq
    (by kernel_rfl) (fun s => by kernel_rfl) K14.run (by kernel_rfl) (by kernel_rfl) (by kernel_rfl) (by rfl) (by first | assumption | decide +kernel) (by decide +kernel) ⟨rfl, rfl, rfl, rfl, rfl, by decide +kernel⟩ ?hw ?hc
  case hw => w_witness2
  case hc =>
    refine L2.walk_ofE (l := PySem.Challenge.rw_rootgroup_k14_whole_greatest_common_part) (n := 63) (k := 48) (x := "_law_script") (CX := L2.CX0) rfl (by decide) (by kernel_rfl) ⟨rfl, by decide, by decide⟩ ?F (fun _ _ _ _ z => z)
    intro w mg fa h Y G hmg0
    obtain ⟨K, KX, cx, c⟩ := Y
    have hmg : mg ("law" : PySem.Str) = some (.ref fa) := by
      have e : (HandSHeadRun.topDef (OpenLaw.row PySem.Challenge.rw_rootgroup_k14_whole_greatest_common_part).prog 35).name = ("law" : PySem.Str) := by kernel_rfl
      rw [← e]
      exact hmg0
    haveI : DL.PlP (PySem.Challenge.rw_rootgroup_k14_whole_greatest_common_part).prog := ⟨by kernel_rfl⟩
    obtain ⟨fd, hb, hF⟩ := K14.facts (P := (PySem.Challenge.rw_rootgroup_k14_whole_greatest_common_part).prog) (w := w) KX G hmg cx c
    exact ⟨K, fd, fun vs H Q _ => DL.spD K 1 K14.f_law vs H Q fun _ _ _ => False, KX, hb, fun H a ns hl _ hS => DL.law_at (fun ns Q q => ⟨ns, rfl, q⟩) H a ns hS, fun base kb gb => DL.FnOk_cx0 (hF base kb gb)⟩

