import PyProof.Rows.All
import Wide.All
import OpenK.AllK
import Wide.FinOn
import HandS.ForMost
import HandS.ForExc
import HandS.Lambda
import HandS.HotCalls
import HandS.ExcIs
import HandS.EndTab
import HandS.HeadWalk
import HandS.Walk
import HandS.TupAny
import HandS.TupLe
import HandS.Wide
import HandS.IsInst
import HandS.Conv
import KE.GoesEnum
import KE.GoesZip
import KE.GoesMore
import HandS.Zip
import HandS.Style
import HandS.Defaults
import HandS.Head0
import HandS.Head1
import HandS.Head2
import HandS.HeadEnd
import HandS.HeadHook1
import HandS.HeadHook2
import HandS.ExcValue
import HandS.ExcInit
import HandS.More
import HandS.SortRule
import HandS.SortInts
import HandS.DictTup
import HandS.ListItems
import PySem.Challenge.RW_sceneflies_k10_houses
set_option Elab.async false
set_option linter.all false
set_option maxRecDepth 100000
set_option maxHeartbeats 4000000
/-! Data, stores, and how they lie in the abstract heap. -/
namespace SF
open PySem L2

/-- a datum: by value; a changeable thing by its number in the store -/
inductive D where
  | non | bl (b : Bool) | int (i : Int) | str (x : Str)
  | scr (ns : List Int) | tup (ds : List D) | xtup (ds : List D) | lst (ds : List D) | dct (kvs : List (Key × D)) | ref (i : Nat) | adr (a : Addr)

inductive Cell where
  | dead | lst (ds : List D) | dct (kvs : List (Key × D)) | ins (C : Addr) (fs : List (Str × D)) | tab (P : Addr) (q : Str)

abbrev Sto := List Cell
structure Exn where
  C : Addr
  fs : List (Str × D)
  w : Nat := 0
inductive R (α : Type) where
  | ok (a : α) (S : Sto) | exc (x : Exn) (S : Sto) | stuck
def R.bind {α β : Type} (r : R α) (k : α → Sto → R β) : R β := match r with
  | .ok a S => k a S
  | .exc x S => .exc x S
  | .stuck => .stuck
@[simp] theorem R.bind_ok {α β : Type} (a : α) (S : Sto) (k : α → Sto → R β) : (R.ok a S).bind k = k a S := rfl
@[simp] theorem R.bind_exc {α β : Type} (x : Exn) (S : Sto) (k : α → Sto → R β) : (R.exc x S : R α).bind k = .exc x S := rfl
@[simp] theorem R.bind_stuck {α β : Type} (k : α → Sto → R β) : (R.stuck : R α).bind k = .stuck := rfl

/-- where the store's cells lie; what is being built and not to be touched -/
structure Rho (K : PySem.W.Frag) where
  own : List Addr
  prot : List Addr
def Rho.add (ρ : Rho K) (p : Addr) : Rho K := ⟨ρ.own ++ [p], ρ.prot⟩
def live (ρ : Rho K) (S : Sto) (a : Addr) : Prop := a ∈ ρ.prot ∨ ∃ (i : Nat) (c : Cell), ρ.own[i]? = some a ∧ S[i]? = some c ∧ c ≠ Cell.dead

inductive RelD (ρ : Rho K) (S : Sto) (H : Hp) : D → V → Prop where
  | non : RelD ρ S H .non .non
  | bl (b : Bool) : RelD ρ S H (.bl b) (.bl b)
  | int (i : Int) : RelD ρ S H (.int i) (.int i)
  | str (x : Str) : RelD ρ S H (.str x) (.str x)
  | scr {ns : List Int} {a : Addr} : (Rd H a (.lst (ns.map V.int)) ∧ ¬ live ρ S a) ∨ SqL K (fun _ => none) a (ns.map V.int) → RelD ρ S H (.scr ns) (.ref a)
  | tup {ds : List D} {vs : List V} {a : Addr} : H a = some (.tup vs) → ¬ live ρ S a → ds.length = vs.length →
      (∀ (i : Nat) d v, ds[i]? = some d → vs[i]? = some v → RelD ρ S H d v) → RelD ρ S H (.tup ds) (.ref a)
  | xtup {ds : List D} {vs : List V} {a : Addr} {o : Obj} : H a = some (.frz o (.tup vs)) → o.dict = none → ¬ live ρ S a → ds.length = vs.length →
      (∀ (i : Nat) d v, ds[i]? = some d → vs[i]? = some v → RelD ρ S H d v) → RelD ρ S H (.xtup ds) (.ref a)
  | lst {ds : List D} {vs : List V} {a : Addr} : H a = some (.lst vs) → ¬ live ρ S a → ds.length = vs.length →
      (∀ (i : Nat) d v, ds[i]? = some d → vs[i]? = some v → RelD ρ S H d v) → RelD ρ S H (.lst ds) (.ref a)
  | dct {kvs : List (Key × D)} {kws : List (Key × V)} {a : Addr} : Rd H a (.dK kws) → ¬ live ρ S a → kvs.map (·.1) = kws.map (·.1) →
      (∀ (i : Nat) d v, (kvs.map (·.2))[i]? = some d → (kws.map (·.2))[i]? = some v → RelD ρ S H d v) → RelD ρ S H (.dct kvs) (.ref a)
  | ref {i : Nat} {a : Addr} : ρ.own[i]? = some a → RelD ρ S H (.ref i) (.ref a)
  | adr (a : Addr) : RelD ρ S H (.adr a) (.ref a)

def RelDs (ρ : Rho K) (S : Sto) (H : Hp) (ds : List D) (vs : List V) : Prop :=
  ds.length = vs.length ∧ ∀ (i : Nat) d v, ds[i]? = some d → vs[i]? = some v → RelD ρ S H d v

def RelK {κ : Type} (ρ : Rho K) (S : Sto) (H : Hp) (kvs : List (κ × D)) (kws : List (κ × V)) : Prop :=
  kvs.map (·.1) = kws.map (·.1) ∧ ∀ (i : Nat) d v, (kvs.map (·.2))[i]? = some d → (kws.map (·.2))[i]? = some v → RelD ρ S H d v

def RelC (ρ : Rho K) (S : Sto) (H : Hp) (a : Addr) : Cell → Prop
  | .dead => ∃ o, H a = some o ∧ ∀ ps, o ≠ .tbl ps
  | .lst ds => ∃ vs, H a = some (.lst vs) ∧ RelDs ρ S H ds vs
  | .dct kvs => ∃ kws, H a = some (.dK kws) ∧ RelK ρ S H kvs kws
  | .ins C fs => ∃ dx gs, H a = some (.ins C dx gs) ∧ RelK ρ S H fs gs
  | .tab P q => a = P ∧ ∃ ps : Array Value, H a = some (.tbl ps) ∧ TriplesOk ps.toList ∧ ∀ (pos : Pos) (cv : Value), codeAmong pos ps.toList = some cv → ∃ c, cv = .ref c ∧ H c = some (LamX.CodeO c q) ∧ ¬ live ρ S c
/-- no table, no code object -/
structure Pln (o : HO) : Prop where
  t : ∀ ps, o ≠ .tbl ps
  x : ∀ f, o ≠ .ext f

structure Rel (ρ : Rho K) (H : Hp) (S : Sto) : Prop where
  len : ρ.own.length = S.length
  inj : ∀ (i j : Nat) a, ρ.own[i]? = some a → ρ.own[j]? = some a → i = j
  cell : ∀ (i : Nat) a c, ρ.own[i]? = some a → S[i]? = some c → RelC ρ S H a c
  there : ∀ (i : Nat) a, ρ.own[i]? = some a → ∃ o, H a = some o
  apart : ∀ (i : Nat) a, ρ.own[i]? = some a → a ∉ ρ.prot
  prt : ∀ a, a ∈ ρ.prot → ∃ o, H a = some o ∧ Pln o

structure Ext0 (ρ : Rho K) (S : Sto) (H : Hp) (ρ' : Rho K) (S' : Sto) (H' : Hp) : Prop where
  pre : ∀ (i : Nat) a, ρ.own[i]? = some a → ρ'.own[i]? = some a
  frame0 : ∀ a o, H a = some o → ¬ live ρ S a → (∀ ps, o ≠ .tbl ps) → H' a = some o ∧ ¬ live ρ' S' a
structure Ext (ρ : Rho K) (S : Sto) (H : Hp) (ρ' : Rho K) (S' : Sto) (H' : Hp) : Prop extends Ext0 ρ S H ρ' S' H' where
  prot : ρ'.prot = ρ.prot
  pk : ∀ a, a ∈ ρ.prot → H' a = H a

theorem Ext0.frame {ρ ρ' : Rho K} {S S' : Sto} {H H' : Hp} (e : Ext0 ρ S H ρ' S' H') (a : Addr) (o : HO) (h : H a = some o) (n : ¬ live ρ S a) (t : ∀ ps, o ≠ .tbl ps := by intro _ z; cases z) : H' a = some o ∧ ¬ live ρ' S' a := e.frame0 a o h n t
theorem Ext.refl (ρ : Rho K) (S : Sto) (H : Hp) : Ext ρ S H ρ S H := ⟨⟨fun _ _ h => h, fun _ _ h n _ => ⟨h, n⟩⟩, rfl, fun _ _ => rfl⟩
theorem Ext.trans {ρ ρ1 ρ2 : Rho K} {S S1 S2 : Sto} {H H1 H2 : Hp} (a : Ext ρ S H ρ1 S1 H1) (b : Ext ρ1 S1 H1 ρ2 S2 H2) : Ext ρ S H ρ2 S2 H2 :=
  ⟨⟨fun i x h => b.pre i x (a.pre i x h), fun x o h n t => let ⟨h1, n1⟩ := a.frame0 x o h n t; b.frame0 x o h1 n1 t⟩, b.prot.trans a.prot, fun x h => (b.pk x (by rw [a.prot]; exact h)).trans (a.pk x h)⟩

theorem Ext0.trans {ρ ρ1 ρ2 : Rho K} {S S1 S2 : Sto} {H H1 H2 : Hp} (a : Ext0 ρ S H ρ1 S1 H1) (b : Ext0 ρ1 S1 H1 ρ2 S2 H2) : Ext0 ρ S H ρ2 S2 H2 :=
  ⟨fun i x h => b.pre i x (a.pre i x h), fun x o h n t => let ⟨h1, n1⟩ := a.frame0 x o h n t; b.frame0 x o h1 n1 t⟩
theorem RelD.mono0 {ρ ρ' : Rho K} {S S' : Sto} {H H' : Hp} {d : D} {v : V} (e : Ext0 ρ S H ρ' S' H') (r : RelD ρ S H d v) : RelD ρ' S' H' d v := by
  induction r with
  | non => exact .non
  | bl b => exact .bl b
  | int i => exact .int i
  | str x => exact .str x
  | tup h n l _ ih => exact .tup (e.frame _ _ h n).1 (e.frame _ _ h n).2 l ih
  | scr h =>
    rcases h with ⟨h | ⟨o, h⟩, n⟩ | h
    · exact .scr (.inl ⟨.inl (e.frame _ _ h n).1, (e.frame _ _ h n).2⟩)
    · exact .scr (.inl ⟨.inr ⟨o, (e.frame _ _ h n).1⟩, (e.frame _ _ h n).2⟩)
    · exact .scr (.inr h)
  | xtup h x n l _ ih => exact .xtup (e.frame _ _ h n).1 x (e.frame _ _ h n).2 l ih
  | lst h n l _ ih => exact .lst (e.frame _ _ h n).1 (e.frame _ _ h n).2 l ih
  | dct h n l _ ih =>
    rcases h with h | ⟨o, h⟩
    · exact .dct (.inl (e.frame _ _ h n).1) (e.frame _ _ h n).2 l ih
    · exact .dct (.inr ⟨o, (e.frame _ _ h n).1⟩) (e.frame _ _ h n).2 l ih
  | ref h => exact .ref (e.pre _ _ h)
  | adr a => exact .adr a
theorem RelD.mono {ρ ρ' : Rho K} {S S' : Sto} {H H' : Hp} {d : D} {v : V} (e : Ext ρ S H ρ' S' H') (r : RelD ρ S H d v) : RelD ρ' S' H' d v := r.mono0 e.toExt0
theorem RelDs.mono0 {ρ ρ' : Rho K} {S S' : Sto} {H H' : Hp} {ds : List D} {vs : List V} (e : Ext0 ρ S H ρ' S' H') (r : RelDs ρ S H ds vs) : RelDs ρ' S' H' ds vs :=
  ⟨r.1, fun i d v a b => (r.2 i d v a b).mono0 e⟩
theorem RelDs.mono {ρ ρ' : Rho K} {S S' : Sto} {H H' : Hp} {ds : List D} {vs : List V} (e : Ext ρ S H ρ' S' H') (r : RelDs ρ S H ds vs) : RelDs ρ' S' H' ds vs := r.mono0 e.toExt0
theorem RelK.mono0 {κ : Type} {ρ ρ' : Rho K} {S S' : Sto} {H H' : Hp} {ds : List (κ × D)} {vs : List (κ × V)} (e : Ext0 ρ S H ρ' S' H') (r : RelK ρ S H ds vs) : RelK ρ' S' H' ds vs :=
  ⟨r.1, fun i d v a b => (r.2 i d v a b).mono0 e⟩
theorem RelK.mono {κ : Type} {ρ ρ' : Rho K} {S S' : Sto} {H H' : Hp} {ds : List (κ × D)} {vs : List (κ × V)} (e : Ext ρ S H ρ' S' H') (r : RelK ρ S H ds vs) : RelK ρ' S' H' ds vs := r.mono0 e.toExt0
section
variable {ρ ρ' : Rho K} {S S' : Sto} {H H' : Hp}
theorem RelDs.nil : RelDs ρ S H [] [] := ⟨rfl, fun i d v a _ => by simp at a⟩
theorem RelDs.cons {d : D} {v : V} {ds : List D} {vs : List V} (h : RelD ρ S H d v) (t : RelDs ρ S H ds vs) : RelDs ρ S H (d :: ds) (v :: vs) := by
  refine ⟨by simp [t.1], fun i d' v' a b => ?_⟩
  cases i with
  | zero => simp at a b; subst a; subst b; exact h
  | succ i => simp at a b; exact t.2 i d' v' a b
theorem RelDs.uncons {d : D} {ds : List D} {vs : List V} (h : RelDs ρ S H (d :: ds) vs) : ∃ v ws, vs = v :: ws ∧ RelD ρ S H d v ∧ RelDs ρ S H ds ws := by
  cases vs with
  | nil => have := h.1; simp at this
  | cons v ws => exact ⟨v, ws, rfl, h.2 0 d v (by simp) (by simp), by have := h.1; simpa using this, fun i d' v' a b => h.2 (i + 1) d' v' (by simpa using a) (by simpa using b)⟩
theorem RelDs.append {ds es : List D} {vs ws : List V} (h : RelDs ρ S H ds vs) (t : RelDs ρ S H es ws) : RelDs ρ S H (ds ++ es) (vs ++ ws) := by
  refine ⟨by simp [h.1, t.1], fun i d v a b => ?_⟩
  by_cases hi : i < ds.length
  · rw [List.getElem?_append_left hi] at a
    rw [List.getElem?_append_left (by rw [← h.1]; exact hi)] at b
    exact h.2 i d v a b
  · rw [List.getElem?_append_right (by omega)] at a
    rw [List.getElem?_append_right (by have := h.1; omega), ← h.1] at b
    exact t.2 _ d v a b
theorem RelDs.get {ds : List D} {vs : List V} (h : RelDs ρ S H ds vs) {i : Nat} {d : D} (e : ds[i]? = some d) : ∃ v, vs[i]? = some v ∧ RelD ρ S H d v := by
  have hi : i < ds.length := (List.getElem?_eq_some_iff.mp e).1
  have hv : i < vs.length := by rw [← h.1]; exact hi
  exact ⟨vs[i], List.getElem?_eq_getElem hv, h.2 i d _ e (List.getElem?_eq_getElem hv)⟩
theorem RelDs.getR {ds : List D} {vs : List V} (h : RelDs ρ S H ds vs) {i : Nat} {v : V} (e : vs[i]? = some v) : ∃ d, ds[i]? = some d ∧ RelD ρ S H d v := by
  have hi : i < vs.length := (List.getElem?_eq_some_iff.mp e).1
  have hv : i < ds.length := by rw [h.1]; exact hi
  exact ⟨ds[i], List.getElem?_eq_getElem hv, h.2 i _ v (List.getElem?_eq_getElem hv) e⟩
theorem RelDs.set {ds : List D} {vs : List V} (h : RelDs ρ S H ds vs) {d : D} {v : V} (r : RelD ρ S H d v) (j : Nat) : RelDs ρ S H (ds.set j d) (vs.set j v) := by
  refine ⟨by simp [h.1], fun i d' v' a b => ?_⟩
  by_cases e : j = i
  · subst e
    have hi : j < ds.length := by
      have := (List.getElem?_eq_some_iff.mp a).1
      simpa using this
    rw [List.getElem?_set_self hi] at a
    rw [List.getElem?_set_self (by rw [← h.1]; exact hi)] at b
    cases a; cases b; exact r
  · rw [List.getElem?_set_ne e] at a b
    exact h.2 i d' v' a b
theorem RelDs.take {ds : List D} {vs : List V} (h : RelDs ρ S H ds vs) (n : Nat) : RelDs ρ S H (ds.take n) (vs.take n) := by
  refine ⟨by simp [h.1], fun i d v a b => ?_⟩
  by_cases e : i < n
  · rw [List.getElem?_take_of_lt e] at a b
    exact h.2 i d v a b
  · rw [List.getElem?_take_eq_none (by omega)] at a
    cases a
theorem RelDs.drop {ds : List D} {vs : List V} (h : RelDs ρ S H ds vs) (n : Nat) : RelDs ρ S H (ds.drop n) (vs.drop n) := by
  refine ⟨by simp [h.1], fun i d v a b => ?_⟩
  rw [List.getElem?_drop] at a b
  exact h.2 _ d v a b
theorem Rel.lv (r : Rel ρ H S) {a : Addr} (h : live ρ S a) : ∃ o, H a = some o := h.elim (fun z => let ⟨o, e, _⟩ := r.prt a z; ⟨o, e⟩) fun ⟨i, _, e, _, _⟩ => r.there i a e
theorem Rel.fresh (r : Rel ρ H S) {p : Addr} (h : H p = none) : ¬ live ρ S p := fun l => by
  obtain ⟨o, e⟩ := r.lv l
  rw [h] at e; cases e
theorem Rel.notin (r : Rel ρ H S) {p : Addr} (h : H p = none) (i : Nat) : ρ.own[i]? ≠ some p := fun e => by
  obtain ⟨o, e'⟩ := r.there i p e
  rw [h] at e'; cases e'
theorem Rel.noprot (r : Rel ρ H S) {p : Addr} (h : H p = none) : p ∉ ρ.prot := fun e => by
  obtain ⟨o, e', _⟩ := r.prt p e
  rw [h] at e'; cases e'

/-- a thing by value is laid -/
theorem Ext.laid (r : Rel ρ H S) {p : Addr} {o : HO} (h : H p = none) : Ext ρ S H ρ S (upd H p o) :=
  ⟨⟨fun _ _ e => e, fun a u e n _ => ⟨by rw [upd_ne (ne_of_none e h)]; exact e, n⟩⟩, rfl, fun a ha => upd_ne (fun z => r.noprot h (z ▸ ha))⟩
theorem RelC.mono0 {a : Addr} {c : Cell} (e : Ext0 ρ S H ρ' S' H') (k : ∀ o, H a = some o → H' a = some o) (r : RelC ρ S H a c) : RelC ρ' S' H' a c := by
  cases c with
  | dead => obtain ⟨o, h, n⟩ := r; exact ⟨o, k _ h, n⟩
  | lst ds => obtain ⟨vs, h, q⟩ := r; exact ⟨vs, k _ h, q.mono0 e⟩
  | dct kvs => obtain ⟨vs, h, q⟩ := r; exact ⟨vs, k _ h, q.mono0 e⟩
  | ins C fs => obtain ⟨dx, vs, h, q⟩ := r; exact ⟨dx, vs, k _ h, q.mono0 e⟩
  | tab P q =>
    obtain ⟨h0, ps, h1, h2, h3⟩ := r
    refine ⟨h0, ps, k _ h1, h2, fun pos cv hc => ?_⟩
    obtain ⟨c, e1, e2, e3⟩ := h3 pos cv hc
    obtain ⟨f1, f2⟩ := e.frame0 c _ e2 e3 LamX.codeO_ne
    exact ⟨c, e1, f1, f2⟩
theorem RelC.mono {a : Addr} {c : Cell} (e : Ext ρ S H ρ' S' H') (k : ∀ o, H a = some o → H' a = some o) (r : RelC ρ S H a c) : RelC ρ' S' H' a c := r.mono0 e.toExt0 k
theorem Rel.laid (r : Rel ρ H S) {p : Addr} {o : HO} (h : H p = none) : Rel ρ (upd H p o) S :=
  ⟨r.len, r.inj, fun i a c e1 e2 => (r.cell i a c e1 e2).mono (Ext.laid r h) (fun u e => by rw [upd_ne (ne_of_none e h)]; exact e),
   fun i a e => let ⟨u, q⟩ := r.there i a e; ⟨u, by rw [upd_ne (ne_of_none q h)]; exact q⟩, r.apart, fun a e => let ⟨u, q, t⟩ := r.prt a e; ⟨u, by rw [upd_ne (ne_of_none q h)]; exact q, t⟩⟩

/-- a new cell at a new place -/
theorem live_new {c : Cell} {p a : Addr} (hl : ρ.own.length = S.length) : live (ρ.add p) (S ++ [c]) a ↔ live ρ S a ∨ (a = p ∧ c ≠ .dead) := by
  constructor
  · rintro (hp | ⟨i, c', e1, e2, n⟩)
    · exact .inl (.inl hp)
    change (ρ.own ++ [p])[i]? = some a at e1
    by_cases hi : i < ρ.own.length
    · rw [List.getElem?_append_left hi] at e1
      rw [List.getElem?_append_left (by omega)] at e2
      exact .inl (.inr ⟨i, c', e1, e2, n⟩)
    · rw [List.getElem?_append_right (by omega)] at e1
      rw [List.getElem?_append_right (by omega)] at e2
      have h0 : i - ρ.own.length = 0 := by
        have := (List.getElem?_eq_some_iff.mp e1).1
        simp at this; omega
      have h1 : i - S.length = 0 := by omega
      rw [h0] at e1; rw [h1] at e2
      simp at e1 e2
      exact .inr ⟨e1.symm, by rw [e2]; exact n⟩
  · rintro ((hp | ⟨i, c', e1, e2, n⟩) | ⟨rfl, n⟩)
    · exact .inl hp
    · have hi := (List.getElem?_eq_some_iff.mp e1).1
      exact .inr ⟨i, c', by show (ρ.own ++ [p])[i]? = some a; rw [List.getElem?_append_left hi]; exact e1, by rw [List.getElem?_append_left (by omega)]; exact e2, n⟩
    · exact .inr ⟨ρ.own.length, c, by simp [Rho.add], by rw [hl]; simp, n⟩
theorem Ext.new (r : Rel ρ H S) {p : Addr} {o : HO} {c : Cell} (h : H p = none) (h' : H' p = some o) (k : ∀ a u, H a = some u → H' a = some u) : Ext ρ S H (ρ.add p) (S ++ [c]) H' :=
  ⟨⟨fun i a e => by show (ρ.own ++ [p])[i]? = some a; rw [List.getElem?_append_left (List.getElem?_eq_some_iff.mp e).1]; exact e,
   fun a u e n _ => ⟨k a u e, fun l => ((live_new r.len).mp l).elim n fun ⟨q, _⟩ => by rw [q, h] at e; cases e⟩⟩, rfl, fun a ha => by
    obtain ⟨u, q, _⟩ := r.prt a ha
    rw [k a u q, q]⟩
theorem Rel.new' {p : Addr} {o : HO} {c : Cell} {pr : List Addr} (r : Rel ρ H S) (hn : ∀ i : Nat, ρ.own[i]? ≠ some p) (hpr : ∀ a ∈ pr, a ∈ ρ.prot) (hp : p ∉ pr) (h' : H' p = some o) (e : Ext0 ρ S H (⟨ρ.own ++ [p], pr⟩ : Rho K) (S ++ [c]) H') (k : ∀ a u, H a = some u → H' a = some u) (hc : RelC (⟨ρ.own ++ [p], pr⟩ : Rho K) (S ++ [c]) H' p c) : Rel (⟨ρ.own ++ [p], pr⟩ : Rho K) H' (S ++ [c]) := by
  refine ⟨by simp [r.len], fun i j a e1 e2 => ?_, fun i a c' e1 e2 => ?_, fun i a e1 => ?_, fun i a e1 => ?_, fun a ha => let ⟨u, q, t⟩ := r.prt a (hpr a ha); ⟨u, k a u q, t⟩⟩
  · change (ρ.own ++ [p])[i]? = some a at e1
    change (ρ.own ++ [p])[j]? = some a at e2
    by_cases hi : i < ρ.own.length
    · by_cases hj : j < ρ.own.length
      · rw [List.getElem?_append_left hi] at e1
        rw [List.getElem?_append_left hj] at e2
        exact r.inj i j a e1 e2
      · rw [List.getElem?_append_left hi] at e1
        rw [List.getElem?_append_right (by omega)] at e2
        have : a = p := by
          have := (List.getElem?_eq_some_iff.mp e2).2
          simpa using this.symm
        subst this
        exact absurd e1 (hn i)
    · by_cases hj : j < ρ.own.length
      · rw [List.getElem?_append_left hj] at e2
        rw [List.getElem?_append_right (by omega)] at e1
        have : a = p := by
          have := (List.getElem?_eq_some_iff.mp e1).2
          simpa using this.symm
        subst this
        exact absurd e2 (hn j)
      · have h1 := (List.getElem?_eq_some_iff.mp e1).1
        have h2 := (List.getElem?_eq_some_iff.mp e2).1
        simp at h1 h2; omega
  · change (ρ.own ++ [p])[i]? = some a at e1
    by_cases hi : i < ρ.own.length
    · rw [List.getElem?_append_left hi] at e1
      rw [List.getElem?_append_left (by have := r.len; omega)] at e2
      exact (r.cell i a c' e1 e2).mono0 e (k a)
    · have h1 := (List.getElem?_eq_some_iff.mp e1).1
      have hi' : i = ρ.own.length := by simp at h1; omega
      subst hi'
      rw [r.len] at e2
      simp at e1 e2
      subst e1; subst e2
      exact hc
  · change (ρ.own ++ [p])[i]? = some a at e1
    by_cases hi : i < ρ.own.length
    · rw [List.getElem?_append_left hi] at e1
      obtain ⟨u, q⟩ := r.there i a e1
      exact ⟨u, k a u q⟩
    · have h1 := (List.getElem?_eq_some_iff.mp e1).1
      have hi' : i = ρ.own.length := by simp at h1; omega
      subst hi'
      simp at e1
      subst e1
      exact ⟨o, h'⟩
  · change (ρ.own ++ [p])[i]? = some a at e1
    by_cases hi : i < ρ.own.length
    · rw [List.getElem?_append_left hi] at e1
      exact fun z => r.apart i a e1 (hpr a z)
    · have h1 := (List.getElem?_eq_some_iff.mp e1).1
      have hi' : i = ρ.own.length := by simp at h1; omega
      subst hi'
      simp at e1
      subst e1
      exact hp
theorem Rel.new (r : Rel ρ H S) {p : Addr} {o : HO} {c : Cell} (h : H p = none) (h' : H' p = some o) (k : ∀ a u, H a = some u → H' a = some u) (hc : RelC (ρ.add p) (S ++ [c]) H' p c) : Rel (ρ.add p) H' (S ++ [c]) :=
  r.new' (pr := ρ.prot) (r.notin h) (fun _ z => z) (r.noprot h) h' (Ext.new (c := c) r h h' k).toExt0 k hc

/-- a live cell is written -/
theorem live_set {i : Nat} {c c' : Cell} {a : Addr} (hc : S[i]? = some c) (n : c ≠ .dead) (n' : c' ≠ .dead) : live ρ (S.set i c') a ↔ live ρ S a := by
  have hi := (List.getElem?_eq_some_iff.mp hc).1
  constructor
  · rintro (hp | ⟨j, x, e1, e2, m⟩)
    · exact .inl hp
    by_cases e : i = j
    · subst e; exact .inr ⟨i, c, e1, hc, n⟩
    · rw [List.getElem?_set_ne e] at e2; exact .inr ⟨j, x, e1, e2, m⟩
  · rintro (hp | ⟨j, x, e1, e2, m⟩)
    · exact .inl hp
    by_cases e : i = j
    · subst e; exact .inr ⟨i, c', e1, List.getElem?_set_self hi, n'⟩
    · exact .inr ⟨j, x, e1, by rw [List.getElem?_set_ne e]; exact e2, m⟩
theorem Ext.write (r : Rel ρ H S) {i : Nat} {c c' : Cell} {a : Addr} {o : HO} (ha : ρ.own[i]? = some a) (hc : S[i]? = some c) (n : c ≠ .dead) (n' : c' ≠ .dead) : Ext ρ S H ρ (S.set i c') (upd H a o) :=
  ⟨⟨fun _ _ e => e, fun b u e m _ => ⟨by
    rw [upd_ne]; · exact e
    rintro rfl; exact m (.inr ⟨i, c, ha, hc, n⟩), fun l => m ((live_set hc n n').mp l)⟩⟩, rfl, fun b hb => upd_ne fun z => r.apart i a ha (z ▸ hb)⟩
theorem Rel.write (r : Rel ρ H S) {i : Nat} {c c' : Cell} {a : Addr} {o : HO} (ha : ρ.own[i]? = some a) (hc : S[i]? = some c) (n : c ≠ .dead) (n' : c' ≠ .dead) (hr : RelC ρ (S.set i c') (upd H a o) a c') : Rel ρ (upd H a o) (S.set i c') := by
  have hi := (List.getElem?_eq_some_iff.mp hc).1
  refine ⟨by rw [r.len, List.length_set], r.inj, fun j b x e1 e2 => ?_, fun j b e1 => ?_, r.apart, fun b hb => ?_⟩
  · by_cases e : i = j
    · subst e
      rw [List.getElem?_set_self hi] at e2
      cases e2
      rw [ha] at e1; cases e1
      exact hr
    · rw [List.getElem?_set_ne e] at e2
      refine (r.cell j b x e1 e2).mono (Ext.write r ha hc n n') fun u q => ?_
      rw [upd_ne]; · exact q
      rintro rfl; exact e (r.inj i j _ ha e1)
  · by_cases e : b = a
    · subst e; exact ⟨o, upd_same⟩
    · rw [upd_ne e]; exact r.there j b e1
  · rw [upd_ne (fun z : b = a => r.apart i a ha (z ▸ hb))]; exact r.prt b hb

/-- a cell is closed: from now on it goes by value -/
theorem live_dead {i : Nat} {a : Addr} (h : live ρ (S.set i .dead) a) : live ρ S a := by
  rcases h with hp | ⟨j, x, e1, e2, m⟩
  · exact .inl hp
  by_cases e : i = j
  · subst e
    have hi : i < S.length := by
      have := (List.getElem?_eq_some_iff.mp e2).1
      simpa using this
    rw [List.getElem?_set_self hi] at e2
    cases e2
    exact absurd rfl m
  · rw [List.getElem?_set_ne e] at e2; exact .inr ⟨j, x, e1, e2, m⟩
theorem Ext.close {i : Nat} : Ext ρ S H ρ (S.set i .dead) H := ⟨⟨fun _ _ e => e, fun _ _ e m _ => ⟨e, fun l => m (live_dead l)⟩⟩, rfl, fun _ _ => rfl⟩
theorem Rel.close (r : Rel ρ H S) {i : Nat} (hn : ∀ a, ρ.own[i]? = some a → ∃ o, H a = some o ∧ ∀ ps, o ≠ .tbl ps) : Rel ρ H (S.set i .dead) := by
  refine ⟨by rw [r.len, List.length_set], r.inj, fun j b x e1 e2 => ?_, r.there, r.apart, r.prt⟩
  by_cases e : i = j
  · subst e
    have hi : i < S.length := by
      have := (List.getElem?_eq_some_iff.mp e2).1
      simpa using this
    rw [List.getElem?_set_self hi] at e2
    cases e2
    exact hn b e1
  · rw [List.getElem?_set_ne e] at e2
    exact (r.cell j b x e1 e2).mono Ext.close fun _ q => q
theorem Rel.closed (r : Rel ρ H S) {i : Nat} {a : Addr} (ha : ρ.own[i]? = some a) : ¬ live ρ (S.set i .dead) a := by
  rintro (hp | ⟨j, x, e1, e2, m⟩)
  · exact r.apart i a ha hp
  have e := r.inj i j a ha e1
  subst e
  have hi : i < S.length := by
    have := (List.getElem?_eq_some_iff.mp e2).1
    simpa using this
  rw [List.getElem?_set_self hi] at e2
  cases e2
  exact m rfl
/-! ### something is being built at p -/
def Rho.guard (ρ : Rho K) (p : Addr) : Rho K := ⟨ρ.own, p :: ρ.prot⟩
theorem live_guard {p a : Addr} : live (ρ.guard p) S a ↔ a = p ∨ live ρ S a := by
  constructor
  · rintro (h | h)
    · rcases List.mem_cons.mp h with h | h
      · exact .inl h
      · exact .inr (.inl h)
    · exact .inr (.inr h)
  · rintro (h | h | h)
    · exact .inl (List.mem_cons.mpr (.inl h))
    · exact .inl (List.mem_cons_of_mem _ h)
    · exact .inr h
theorem Ext0.guard (r : Rel ρ H S) {p : Addr} {o : HO} (h : H p = none) : Ext0 ρ S H (ρ.guard p) S (upd H p o) :=
  ⟨fun _ _ e => e, fun a u e n _ => ⟨by rw [upd_ne (ne_of_none e h)]; exact e, fun l => (live_guard.mp l).elim (fun z => by rw [z, h] at e; cases e) n⟩⟩
theorem Rel.guard (r : Rel ρ H S) {p : Addr} {o : HO} (h : H p = none) (ho : Pln o := by exact ⟨fun _ z => (by cases z), fun _ z => (by cases z)⟩) : Rel (ρ.guard p) (upd H p o) S :=
  ⟨r.len, r.inj, fun i a c e1 e2 => (r.cell i a c e1 e2).mono0 (Ext0.guard r h) (fun u e => by rw [upd_ne (ne_of_none e h)]; exact e),
   fun i a e => let ⟨u, q⟩ := r.there i a e; ⟨u, by rw [upd_ne (ne_of_none q h)]; exact q⟩, fun i a e z => (List.mem_cons.mp z).elim (fun z => r.notin h i (z ▸ e)) (r.apart i a e),
   fun a e => (List.mem_cons.mp e).elim (fun z => ⟨o, by rw [z]; exact upd_same, ho⟩) fun z => let ⟨u, q, t⟩ := r.prt a z; ⟨u, by rw [upd_ne (ne_of_none q h)]; exact q, t⟩⟩
/-- what is guarded grows -/
theorem Ext0.grow {p : Addr} {o : HO} (hp : p ∈ ρ.prot) : Ext0 ρ S H ρ S (upd H p o) :=
  ⟨fun _ _ e => e, fun a u e n _ => ⟨by rw [upd_ne (fun z : a = p => n (.inl (by rw [z]; exact hp)))]; exact e, n⟩⟩
theorem Rel.grow (r : Rel ρ H S) {p : Addr} {o : HO} (hp : p ∈ ρ.prot) (ho : Pln o := by exact ⟨fun _ z => (by cases z), fun _ z => (by cases z)⟩) : Rel ρ (upd H p o) S :=
  ⟨r.len, r.inj, fun i a c e1 e2 => (r.cell i a c e1 e2).mono0 (Ext0.grow hp) (fun u e => by rw [upd_ne (fun z : a = p => r.apart i a e1 (by rw [z]; exact hp))]; exact e),
   fun i a e => let ⟨u, q⟩ := r.there i a e; ⟨u, by rw [upd_ne (fun z : a = p => r.apart i a e (by rw [z]; exact hp))]; exact q⟩, r.apart,
   fun a e => by
    by_cases z : a = p
    · exact ⟨o, by rw [z]; exact upd_same, ho⟩
    · rw [upd_ne z]; exact r.prt a e⟩
/-- the guard is left -/
theorem Ext0.leave {pr : List Addr} (hpr : ∀ a ∈ pr, a ∈ ρ.prot) : Ext0 (K := K) ρ S H ⟨ρ.own, pr⟩ S H :=
  ⟨fun _ _ e => e, fun a u e n _ => ⟨e, fun l => n (l.elim (fun z => .inl (hpr a z)) .inr)⟩⟩
theorem Rel.leave (r : Rel ρ H S) {pr : List Addr} (hpr : ∀ a ∈ pr, a ∈ ρ.prot) : Rel (K := K) ⟨ρ.own, pr⟩ H S :=
  ⟨r.len, r.inj, fun i a c e1 e2 => (r.cell i a c e1 e2).mono0 (Ext0.leave hpr) (fun u e => e), r.there, fun i a e z => r.apart i a e (hpr a z), fun a e => r.prt a (hpr a e)⟩
theorem Ext0.adopt (r : Rel ρ H S) {p : Addr} {c : Cell} {pr : List Addr} (hp : p ∈ ρ.prot) (hpr : ∀ a ∈ pr, a ∈ ρ.prot) : Ext0 ρ S H (⟨ρ.own ++ [p], pr⟩ : Rho K) (S ++ [c]) H :=
  ⟨fun i a e => by show (ρ.own ++ [p])[i]? = some a; rw [List.getElem?_append_left (List.getElem?_eq_some_iff.mp e).1]; exact e,
   fun a u e n _ => ⟨e, fun l => by
    have l' : live (Rho.add (⟨ρ.own, pr⟩ : Rho K) p) (S ++ [c]) a := l
    rcases (live_new (ρ := (⟨ρ.own, pr⟩ : Rho K)) (S := S) r.len).mp l' with l1 | ⟨z, _⟩
    · exact n (l1.elim (fun z => .inl (hpr a z)) .inr)
    · exact n (.inl (z ▸ hp))⟩⟩
end
end SF

/-! Judgements: an expression, a test, a statement, a def, by a plain function upon data and store. -/
namespace SF
open PySem L2

abbrev En := List (Option D)
abbrev Exp := En → Sto → R D
abbrev Exps := En → Sto → R (List D)
abbrev Tst := En → Sto → R Bool

def RelE (ρ : Rho K) (S : Sto) (H : Hp) (en : En) (σ : L2.St) : Prop := en.length = σ.length ∧ ∀ (i : Nat) d, en[i]? = some (some d) → ∃ v, σ[i]? = some (some v) ∧ RelD ρ S H d v
section
variable {ρ ρ' : Rho K} {S S' : Sto} {H H' : Hp} {en : En} {σ : L2.St}
theorem RelE.mono (e : Ext ρ S H ρ' S' H') (r : RelE ρ S H en σ) : RelE ρ' S' H' en σ := ⟨r.1, fun i d h => let ⟨v, a, b⟩ := r.2 i d h; ⟨v, a, b.mono e⟩⟩
theorem RelE.set (r : RelE ρ S H en σ) {d : D} {v : V} (h : RelD ρ S H d v) (i : Nat) : RelE ρ S H (en.set i (some d)) (σ.set i (some v)) := by
  refine ⟨by simp [r.1], fun j d' e => ?_⟩
  by_cases q : i = j
  · subst q
    have hi : i < en.length := by
      have := (List.getElem?_eq_some_iff.mp e).1
      simpa using this
    rw [List.getElem?_set_self hi] at e
    cases e
    exact ⟨v, List.getElem?_set_self (by rw [← r.1]; exact hi), h⟩
  · rw [List.getElem?_set_ne q] at e
    rw [List.getElem?_set_ne q]
    exact r.2 j d' e
theorem RelE.forget (r : RelE ρ S H en σ) {en' : En} (hl : en'.length = en.length) (h : ∀ (i : Nat) d, en'[i]? = some (some d) → en[i]? = some (some d)) : RelE ρ S H en' σ := ⟨hl.trans r.1, fun i d e => r.2 i d (h i d e)⟩
end

def XRel (ρ : Rho K) (S : Sto) (H : Hp) (x : Exn) (dO : Option Addr) : Prop :=
  (x.fs = [] ∧ dO = none) ∨ x.fs ≠ [] ∧ ∃ dx gs, dO = some dx ∧ H dx = some (.xd gs) ∧ RelK ρ S H x.fs gs

/-- what is wanted behind r -/
def PostG {α β : Type} (RR : Rho K → Sto → Hp → α → β → Prop) (r : R α) (ρ : Rho K) (S : Sto) (H : Hp) (Q : β → Hp → Prop) (E : XK) : Prop := match r with
  | .ok d S' => ∀ v H' ρ', Ext ρ S H ρ' S' H' → Rel ρ' H' S' → RR ρ' S' H' d v → Q v H'
  | .exc x S' => ∀ dO H' ρ', Ext ρ S H ρ' S' H' → Rel ρ' H' S' → XRel ρ' S' H' x dO → E (.ref x.C) dO H'
  | .stuck => False
def RelB (_ : Rho K) (_ : Sto) (_ : Hp) (b c : Bool) : Prop := b = c
abbrev Post {K : PySem.W.Frag} (r : R D) (ρ : Rho K) := PostG RelD r ρ
abbrev PostA {K : PySem.W.Frag} (r : R (List D)) (ρ : Rho K) := PostG RelDs r ρ
abbrev PostT {K : PySem.W.Frag} (r : R Bool) (ρ : Rho K) := PostG RelB r ρ
section
variable {α β γ δ : Type} {RR : Rho K → Sto → Hp → α → β → Prop} {RG : Rho K → Sto → Hp → γ → δ → Prop} {r : R α} {k : α → Sto → R γ} {ρ ρ1 : Rho K} {S S1 : Sto} {H H1 : Hp} {Q Q' : β → Hp → Prop} {Q2 : δ → Hp → Prop} {E : XK}
theorem PostG.ext (h : PostG RR r ρ S H Q E) (e : Ext ρ S H ρ1 S1 H1) : PostG RR r ρ1 S1 H1 Q E := by
  cases r with
  | ok d S' => exact fun v H' ρ' x => h v H' ρ' (e.trans x)
  | exc x S' => exact fun dO H' ρ' y => h dO H' ρ' (e.trans y)
  | stuck => exact h
theorem PostG.mono (h : PostG RR r ρ S H Q E) (q : ∀ v H', Q v H' → Q' v H') : PostG RR r ρ S H Q' E := by
  cases r with
  | ok d S' => exact fun v H' ρ' x y z => q _ _ (h v H' ρ' x y z)
  | exc x S' => exact h
  | stuck => exact h
theorem PostG.bind (h : PostG RG (r.bind k) ρ S H Q2 E) : PostG RR r ρ S H (fun v H1 => ∃ d ρ1 S1, r = .ok d S1 ∧ Ext ρ S H ρ1 S1 H1 ∧ Rel ρ1 H1 S1 ∧ RR ρ1 S1 H1 d v ∧ PostG RG (k d S1) ρ1 S1 H1 Q2 E) E := by
  cases r with
  | ok d S' => exact fun v H' ρ' x y z => ⟨d, ρ', S', rfl, x, y, z, PostG.ext h x⟩
  | exc x S' => exact h
  | stuck => exact h
theorem PostG.ok {d : α} {v : β} (h : PostG RR (.ok d S) ρ S H Q E) (r : Rel ρ H S) (q : RR ρ S H d v) : Q v H := h v H ρ (Ext.refl _ _ _) r q
end

def tM (K : PySem.W.Frag) (E : XK) (m : Exp) : TE := fun σ H Q => ∃ (ρ : Rho K) (S : Sto) (en : En), Rel ρ H S ∧ RelE ρ S H en σ ∧ Post (m en S) ρ S H Q E
def tMA (K : PySem.W.Frag) (E : XK) (m : Exps) : TA := fun σ H Q => ∃ (ρ : Rho K) (S : Sto) (en : En), Rel ρ H S ∧ RelE ρ S H en σ ∧ PostA (m en S) ρ S H Q E
def tMT (K : PySem.W.Frag) (E : XK) (m : Tst) : TT := fun σ H Q => ∃ (ρ : Rho K) (S : Sto) (en : En), Rel ρ H S ∧ RelE ρ S H en σ ∧ PostT (m en S) ρ S H Q E
def PM (X : Cx) (E : XK) (e : Expr) (m : Exp) : Prop := PE X e (tM X.K E m)
def PMA (X : Cx) (E : XK) (es : List Expr) (m : Exps) : Prop := PA X es (tMA X.K E m)
def PMT (X : Cx) (E : XK) (e : Expr) (m : Tst) : Prop := PT X e (tMT X.K E m)

inductive RS where
  | nx (en : En) (S : Sto) | rt (d : D) (S : Sto) | exc (x : Exn) (S : Sto) | stuck
abbrev Stm := En → Sto → RS
def PostS (r : RS) (ρ : Rho K) (S : Sto) (H : Hp) (Dn : Ends) (E : XK) : Prop := match r with
  | .nx en S' => ∀ σ' H' ρ', Ext ρ S H ρ' S' H' → Rel ρ' H' S' → RelE ρ' S' H' en σ' → Dn.nx σ' H'
  | .rt d S' => ∀ v H' ρ', Ext ρ S H ρ' S' H' → Rel ρ' H' S' → RelD ρ' S' H' d v → Dn.rt v H'
  | .exc x S' => ∀ dO H' ρ', Ext ρ S H ρ' S' H' → Rel ρ' H' S' → XRel ρ' S' H' x dO → E (.ref x.C) dO H'
  | .stuck => False
def tMS (K : PySem.W.Frag) (E : XK) (m : Stm) : TS := fun Dn σ H => ∃ (ρ : Rho K) (S : Sto) (en : En), Rel ρ H S ∧ RelE ρ S H en σ ∧ PostS (m en S) ρ S H Dn E
def PMS (X : Cx) (E : XK) (st : Stmt) (m : Stm) : Prop := PS X st (tMS X.K E m)
def PMSs (X : Cx) (E : XK) (sts : List Stmt) (m : Stm) : Prop := PSs X sts (tMS X.K E m)
section
variable {r : RS} {ρ ρ1 : Rho K} {S S1 : Sto} {H H1 : Hp} {Dn Dn' : Ends} {E : XK}
theorem PostS.ext (h : PostS r ρ S H Dn E) (e : Ext ρ S H ρ1 S1 H1) : PostS r ρ1 S1 H1 Dn E := by
  cases r with
  | nx en S' => exact fun v H' ρ' x => h v H' ρ' (e.trans x)
  | rt d S' => exact fun v H' ρ' x => h v H' ρ' (e.trans x)
  | exc x S' => exact fun v H' ρ' x => h v H' ρ' (e.trans x)
  | stuck => exact h
end
/-- r, then a statement -/
def R.thenS {α : Type} (r : R α) (k : α → Sto → RS) : RS := match r with
  | .ok a S => k a S
  | .exc x S => .exc x S
  | .stuck => .stuck
@[simp] theorem R.thenS_ok {α : Type} (a : α) (S : Sto) (k : α → Sto → RS) : (R.ok a S).thenS k = k a S := rfl
@[simp] theorem R.thenS_exc {α : Type} (x : Exn) (S : Sto) (k : α → Sto → RS) : (R.exc x S : R α).thenS k = .exc x S := rfl
@[simp] theorem R.thenS_stuck {α : Type} (k : α → Sto → RS) : (R.stuck : R α).thenS k = .stuck := rfl
def RS.andThen (r : RS) (k : Stm) : RS := match r with
  | .nx en S => k en S
  | .rt d S => .rt d S
  | .exc x S => .exc x S
  | .stuck => .stuck
@[simp] theorem RS.andThen_nx (en : En) (S : Sto) (k : Stm) : (RS.nx en S).andThen k = k en S := rfl
@[simp] theorem RS.andThen_rt (d : D) (S : Sto) (k : Stm) : (RS.rt d S).andThen k = .rt d S := rfl
@[simp] theorem RS.andThen_exc (x : Exn) (S : Sto) (k : Stm) : (RS.exc x S).andThen k = .exc x S := rfl
@[simp] theorem RS.andThen_stuck (k : Stm) : RS.stuck.andThen k = .stuck := rfl
section
variable {α β : Type} {RR : Rho K → Sto → Hp → α → β → Prop} {r : R α} {k : α → Sto → RS} {ρ ρ1 : Rho K} {S S1 : Sto} {H H1 : Hp} {Dn : Ends} {E : XK}
theorem PostS.bind (h : PostS (r.thenS k) ρ S H Dn E) : PostG RR r ρ S H (fun v H1 => ∃ d ρ1 S1, r = .ok d S1 ∧ Ext ρ S H ρ1 S1 H1 ∧ Rel ρ1 H1 S1 ∧ RR ρ1 S1 H1 d v ∧ PostS (k d S1) ρ1 S1 H1 Dn E) E := by
  cases r with
  | ok d S' => exact fun v H' ρ' x y z => ⟨d, ρ', S', rfl, x, y, z, PostS.ext h x⟩
  | exc x S' => exact h
  | stuck => exact h
end

/-! ### contexts -/
theorem takes0N {X : Cx} : L2N.Takes X (fun _ _ _ _ => False) := fun _ _ x => by
  obtain ⟨_, _, _, _, _, _, _, _, _, _, _, _, _, _, _, _, z⟩ := x
  exact z.elim
structure Ctx (X : Cx) (E : XK) (k : Nat) : Prop where
  calm : X.calm = true
  nd : X.N.Nodup
  takes : L2N.Takes X (fun c d _ H => E c d H)
  own : PassesOwn (model X.prog X.w) X.A X.env X.xe
  room : Room k X.A
theorem Ctx.pass {X : Cx} {E : XK} {k : Nat} (c : Ctx X E k) : Passes (L2N.CX X.prog X.w) X E := L2N.passes_call c.takes fun _ _ _ _ h => h
theorem Ctx.hu {X : Cx} {E : XK} {k : Nat} (c : Ctx X E k) : X.A.units + 64 < cLine := by have := c.room.un; omega
theorem Ctx.hu1 {X : Cx} {E : XK} {k : Nat} (c : Ctx X E k) : X.A.units + 1 < cLine := by have := c.room.un; omega
theorem Ctx.mono {X : Cx} {E : XK} {j k : Nat} (c : Ctx X E k) (h : j ≤ k) : Ctx X E j := ⟨c.calm, c.nd, c.takes, c.own, c.room.mono h⟩
theorem Ctx.blk {X : Cx} {E : XK} {k : Nat} (c : Ctx X E k) (s : Shared) (H : Hp) (scope : Scope) (cenv : Env) (fp : List Addr) : Ctx (X.blk s H scope cenv fp) E0 k :=
  ⟨c.calm, c.nd, takes0N, PassesOwn.never, c.room⟩

/-! ### the parts of a reading in a row -/
section
variable {X : Cx} {E : XK}
theorem tM_bind {m : Exp} {ρ : Rho K} {S : Sto} {en : En} {H : Hp} {σ : L2.St} {Q : VK} (r : Rel ρ H S) (re : RelE ρ S H en σ)
    (h : Post (m en S) ρ S H Q E) : tM K E m σ H Q := ⟨ρ, S, en, r, re, h⟩
theorem tMA_bind {m : Exps} {ρ : Rho K} {S : Sto} {en : En} {H : Hp} {σ : L2.St} {Q : List V → Hp → Prop} (r : Rel ρ H S) (re : RelE ρ S H en σ)
    (h : PostA (m en S) ρ S H Q E) : tMA K E m σ H Q := ⟨ρ, S, en, r, re, h⟩

/-! ### names, constants -/
def eV (i : Nat) : Exp := fun en S => match en[i]? with
  | some (some d) => .ok d S
  | _ => .stuck
theorem pm_v (i : Nat) {x : Str} {pos : Pos} (h : PE X (.Name x pos) (tVar i)) : PM X E (.Name x pos) (eV i) := by
  refine ⟨fun pins s σ H Q I ht => h.run pins s σ H Q I ?_⟩
  obtain ⟨ρ, S, en, r, re, p⟩ := ht
  unfold eV at p
  split at p
  · rename_i d e
    obtain ⟨v, e', q⟩ := re.2 i d e
    exact ⟨v, e', p.ok r q⟩
  · exact p.elim
def eK (d : D) : Exp := fun _ S => .ok d S
theorem pm_c {e : Expr} {v : V} {d : D} (h : PE X e (tC v)) (hd : ∀ {K : PySem.W.Frag} (ρ : Rho K) S H, RelD ρ S H d v) : PM X E e (eK d) := by
  refine ⟨fun pins s σ H Q I ht => h.run pins s σ H Q I ?_⟩
  obtain ⟨ρ, S, en, r, re, p⟩ := ht
  exact PostG.ok p r (hd _ _ _)
theorem pm_int {i : Int} {j : Nat} {pos : Pos} : PM X E (.Constant (.int i) j pos) (eK (.int i)) := pm_c pe_int fun _ _ _ => .int i
theorem pm_bl {b : Bool} {j : Nat} {pos : Pos} : PM X E (.Constant (.bool b) j pos) (eK (.bl b)) := pm_c pe_bl fun _ _ _ => .bl b
theorem pm_non {j : Nat} {pos : Pos} : PM X E (.Constant .none j pos) (eK .non) := pm_c pe_non fun _ _ _ => .non
theorem pm_str {x : Str} {j : Nat} {pos : Pos} : PM X E (.Constant (.str x) j pos) (eK (.str x)) := pm_c pe_str fun _ _ _ => .str x

/-! ### operators -/
abbrev Op2 := D → D → Sto → R D
def OpM (K : PySem.W.Frag) (r : R2) (f : Op2) : Prop := ∀ (ρ : Rho K) (S : Sto) (H : Hp) (c d : D) (x y : V) (Q : VK) (E : XK), Rel ρ H S → RelD ρ S H c x → RelD ρ S H d y → Post (f c d S) ρ S H Q E → r x y H Q
def eOp (f : Op2) (a b : Exp) : Exp := fun en S => (a en S).bind fun x S1 => (b en S1).bind fun y S2 => f x y S2
theorem tOp_of {r : R2} {f : Op2} {a b : Exp} (h : OpM K r f) {σ : L2.St} {H : Hp} {Q : VK} (t : tM K E (eOp f a b) σ H Q) : tOp r (tM K E a) (tM K E b) σ H Q := by
  obtain ⟨ρ, S, en, rr, re, p⟩ := t
  refine ⟨ρ, S, en, rr, re, PostG.mono (PostG.bind (RR := RelD) p) ?_⟩
  rintro x H1 ⟨c, ρ1, S1, _, e1, r1, q1, p1⟩
  refine ⟨ρ1, S1, en, r1, re.mono e1, PostG.mono (PostG.bind (RR := RelD) p1) ?_⟩
  rintro y H2 ⟨d, ρ2, S2, _, e2, r2, q2, p2⟩
  exact h ρ2 S2 H2 c d x y Q E r2 (q1.mono e2) q2 p2
theorem pm_bin {op : Operator} {r : R2} {f : Op2} {a b : Expr} {ma mb : Exp} {pos : Pos} (ho : OpR X (binaryOp op) r) (h : OpM X.K r f) (ha : PM X E a ma) (hb : PM X E b mb) : PM X E (.BinOp a op b pos) (eOp f ma mb) :=
  ⟨fun pins s σ H Q I t => (pe_op ho ha hb).run pins s σ H Q I (tOp_of h t)⟩
theorem pm_cmp {op : CmpOp} {r : R2} {f : Op2} {a b : Expr} {ma mb : Exp} {pos : Pos} (ho : OpR X (compareOp op) r) (h : OpM X.K r f) (hm : behindInMarks op b = false) (ha : PM X E a ma) (hb : PM X E b mb) : PM X E (.Compare a [op] [b] pos) (eOp f ma mb) :=
  ⟨fun pins s σ H Q I t => (pe_cmpR ho ha hb hm).run pins s σ H Q I (tOp_of h t)⟩
def toB (d : D) (S : Sto) : R Bool := match d with
  | .bl b => .ok b S
  | _ => .stuck
def tV (m : Exp) : Tst := fun en S => (m en S).bind toB
theorem tTest_of {te : TE} {m : Exp} {σ : L2.St} {H : Hp} {Q : Bool → Hp → Prop} (h : ∀ Q', tM K E m σ H Q' → te σ H Q') (t : tMT K E (tV m) σ H Q) : tTest te σ H Q := by
  obtain ⟨ρ, S, en, rr, re, p⟩ := t
  refine h _ ⟨ρ, S, en, rr, re, PostG.mono (PostG.bind (RR := RelD) p) ?_⟩
  rintro x H1 ⟨c, ρ1, S1, _, e1, r1, q1, p1⟩
  cases q1 with
  | bl b => exact ⟨b, rfl, p1.ok r1 rfl⟩
  | _ => exact p1.elim
theorem pmt_cmp {op : CmpOp} {r : R2} {f : Op2} {a b : Expr} {ma mb : Exp} {pos : Pos} (ho : OpR X (compareOp op) r) (h : OpM X.K r f) (hm : behindInMarks op b = false) (ha : PM X E a ma) (hb : PM X E b mb) : PMT X E (.Compare a [op] [b] pos) (tV (eOp f ma mb)) :=
  ⟨fun pins s σ H Q I t => (pt_cmpR ho ha hb hm).run pins s σ H Q I (tTest_of (fun _ t => tOp_of h t) t)⟩
def eCh (f g : Op2) (a b c : Exp) : Exp := fun en S => (a en S).bind fun x S1 => (b en S1).bind fun y S2 => (f x y S2).bind fun z S3 => match z with
  | .bl true => (c en S3).bind fun w S4 => g y w S4
  | .bl false => .ok (.bl false) S3
  | _ => .stuck
theorem tChain_of {r r' : R2} {f g : Op2} {a b c : Exp} (h : OpM K r f) (h' : OpM K r' g) {σ : L2.St} {H : Hp} {Q : VK} (t : tM K E (eCh f g a b c) σ H Q) : tChain r r' (tM K E a) (tM K E b) (tM K E c) σ H Q := by
  obtain ⟨ρ, S, en, rr, re, p⟩ := t
  refine ⟨ρ, S, en, rr, re, PostG.mono (PostG.bind (RR := RelD) p) ?_⟩
  rintro x H1 ⟨d1, ρ1, S1, _, e1, r1, q1, p1⟩
  refine ⟨ρ1, S1, en, r1, re.mono e1, PostG.mono (PostG.bind (RR := RelD) p1) ?_⟩
  rintro y H2 ⟨d2, ρ2, S2, _, e2, r2, q2, p2⟩
  refine h ρ2 S2 H2 d1 d2 x y _ E r2 (q1.mono e2) q2 (PostG.mono (PostG.bind (RR := RelD) p2) ?_)
  rintro z H3 ⟨d3, ρ3, S3, _, e3, r3, q3, p3⟩
  cases q3 with
  | bl k =>
    refine ⟨k, rfl, ?_⟩
    cases k with
    | true =>
      rw [if_pos rfl]
      refine ⟨ρ3, S3, en, r3, ((re.mono e1).mono e2).mono e3, PostG.mono (PostG.bind (RR := RelD) p3) ?_⟩
      rintro w H4 ⟨d4, ρ4, S4, _, e4, r4, q4, p4⟩
      exact h' ρ4 S4 H4 d2 d4 y w Q E r4 ((q2.mono e3).mono e4) q4 p4
    | false =>
      rw [if_neg Bool.false_ne_true]
      exact PostG.ok p3 r3 (.bl false)
  | _ => exact p3.elim
theorem pm_chain {op op' : CmpOp} {r r' : R2} {f g : Op2} {a b c : Expr} {ma mb mc : Exp} {pos : Pos} (ho : OpR X (compareOp op) r) (h : OpM X.K r f) (ho' : OpR X (compareOp op') r') (h' : OpM X.K r' g)
    (hm : lastMarks [op, op'] [b, c] = false) (ha : PM X E a ma) (hb : PM X E b mb) (hc : PM X E c mc) : PM X E (.Compare a [op, op'] [b, c] pos) (eCh f g ma mb mc) :=
  ⟨fun pins s σ H Q I t => (pe_chain ho ho' ha hb hc hm).run pins s σ H Q I (tChain_of h h' t)⟩
theorem pmt_chain {op op' : CmpOp} {r r' : R2} {f g : Op2} {a b c : Expr} {ma mb mc : Exp} {pos : Pos} (ho : OpR X (compareOp op) r) (h : OpM X.K r f) (ho' : OpR X (compareOp op') r') (h' : OpM X.K r' g)
    (hm : lastMarks [op, op'] [b, c] = false) (ha : PM X E a ma) (hb : PM X E b mb) (hc : PM X E c mc) : PMT X E (.Compare a [op, op'] [b, c] pos) (tV (eCh f g ma mb mc)) :=
  ⟨fun pins s σ H Q I t => (pt_chain ho ho' ha hb hc hm).run pins s σ H Q I (tTest_of (fun _ t => tChain_of h h' t) t)⟩
end
end SF

/-! Rules: tests, displays, calls, attributes, statements. -/
namespace SF
open PySem L2
section
variable {X : Cx} {E : XK}

/-! ### and, or, not, a if c else b -/
def eAnd (a b : Exp) : Exp := fun en S => (a en S).bind fun x S1 => match x with
  | .bl true => b en S1
  | .bl false => .ok (.bl false) S1
  | _ => .stuck
def eOr (a b : Exp) : Exp := fun en S => (a en S).bind fun x S1 => match x with
  | .bl true => .ok (.bl true) S1
  | .bl false => b en S1
  | _ => .stuck
def eNot (a : Exp) : Exp := fun en S => (a en S).bind fun x S1 => match x with
  | .bl b => .ok (.bl (!b)) S1
  | _ => .stuck
theorem pm_one {op : BoolOp} {a : Expr} {m : Exp} {pos : Pos} (h : PM X E a m) : PM X E (.BoolOp op [a] pos) m := pe_one h
theorem pm_and {a b : Expr} {rest : List Expr} {ma mb : Exp} {pos : Pos} (ha : PM X E a ma) (hb : PM X E (.BoolOp .And (b :: rest) pos) mb) : PM X E (.BoolOp .And (a :: b :: rest) pos) (eAnd ma mb) := by
  refine ⟨fun pins s σ H Q I t => (pe_and ha hb).run pins s σ H Q I ?_⟩
  obtain ⟨ρ, S, en, rr, re, p⟩ := t
  refine ⟨ρ, S, en, rr, re, PostG.mono (PostG.bind (RR := RelD) p) ?_⟩
  rintro x H1 ⟨c, ρ1, S1, _, e1, r1, q1, p1⟩
  cases q1 with
  | bl k =>
    refine ⟨k, rfl, ?_⟩
    cases k with
    | true => rw [if_pos rfl]; exact ⟨ρ1, S1, en, r1, re.mono e1, p1⟩
    | false => rw [if_neg Bool.false_ne_true]; exact PostG.ok p1 r1 (.bl false)
  | _ => exact p1.elim
theorem pm_or {a b : Expr} {rest : List Expr} {ma mb : Exp} {pos : Pos} (ha : PM X E a ma) (hb : PM X E (.BoolOp .Or (b :: rest) pos) mb) : PM X E (.BoolOp .Or (a :: b :: rest) pos) (eOr ma mb) := by
  refine ⟨fun pins s σ H Q I t => (pe_or ha hb).run pins s σ H Q I ?_⟩
  obtain ⟨ρ, S, en, rr, re, p⟩ := t
  refine ⟨ρ, S, en, rr, re, PostG.mono (PostG.bind (RR := RelD) p) ?_⟩
  rintro x H1 ⟨c, ρ1, S1, _, e1, r1, q1, p1⟩
  cases q1 with
  | bl k =>
    refine ⟨k, rfl, ?_⟩
    cases k with
    | true => rw [if_pos rfl]; exact PostG.ok p1 r1 (.bl true)
    | false => rw [if_neg Bool.false_ne_true]; exact ⟨ρ1, S1, en, r1, re.mono e1, p1⟩
  | _ => exact p1.elim
theorem pm_not {a : Expr} {ma : Exp} {pos : Pos} (ha : PM X E a ma) : PM X E (.UnaryOp .Not a pos) (eNot ma) := by
  refine ⟨fun pins s σ H Q I t => (pe_not ha).run pins s σ H Q I ?_⟩
  obtain ⟨ρ, S, en, rr, re, p⟩ := t
  refine ⟨ρ, S, en, rr, re, PostG.mono (PostG.bind (RR := RelD) p) ?_⟩
  rintro x H1 ⟨c, ρ1, S1, _, e1, r1, q1, p1⟩
  cases q1 with
  | bl k => exact ⟨k, rfl, PostG.ok p1 r1 (.bl _)⟩
  | _ => exact p1.elim
def tAn (a b : Tst) : Tst := fun en S => (a en S).bind fun x S1 => match x with
  | true => b en S1
  | false => .ok false S1
def tOrr (a b : Tst) : Tst := fun en S => (a en S).bind fun x S1 => match x with
  | true => .ok true S1
  | false => b en S1
def tNo (a : Tst) : Tst := fun en S => (a en S).bind fun x S1 => .ok (!x) S1
/-- a test, whatever its whole is -/
def PMW (X : Cx) (E : XK) (e : Expr) (m : Tst) : Prop := PW X e (tMT X.K E m)
theorem PMW.t {e : Expr} {m : Tst} (h : PMW X E e m) : PMT X E e m := PW.pt h
theorem pmw_and1 {a : Expr} {m : Tst} {pos : Pos} (h : PMT X E a m) : PMW X E (.BoolOp .And [a] pos) m := pw_and1 h
theorem pmw_or1 {a : Expr} {m : Tst} {pos : Pos} (h : PMT X E a m) : PMW X E (.BoolOp .Or [a] pos) m := pw_or1 h
theorem tAnd_of {a b : Tst} {σ : L2.St} {H : Hp} {Q : Bool → Hp → Prop} (t : tMT K E (tAn a b) σ H Q) : tAnd (tMT K E a) (tMT K E b) σ H Q := by
  obtain ⟨ρ, S, en, rr, re, p⟩ := t
  refine ⟨ρ, S, en, rr, re, PostG.mono (PostG.bind (RR := RelB) p) ?_⟩
  rintro x H1 ⟨c, ρ1, S1, _, e1, r1, rfl, p1⟩
  cases c with
  | true => rw [if_pos rfl]; exact ⟨ρ1, S1, en, r1, re.mono e1, p1⟩
  | false => rw [if_neg Bool.false_ne_true]; exact PostG.ok p1 r1 rfl
theorem tOr_of {a b : Tst} {σ : L2.St} {H : Hp} {Q : Bool → Hp → Prop} (t : tMT K E (tOrr a b) σ H Q) : tOr (tMT K E a) (tMT K E b) σ H Q := by
  obtain ⟨ρ, S, en, rr, re, p⟩ := t
  refine ⟨ρ, S, en, rr, re, PostG.mono (PostG.bind (RR := RelB) p) ?_⟩
  rintro x H1 ⟨c, ρ1, S1, _, e1, r1, rfl, p1⟩
  cases c with
  | true => rw [if_pos rfl]; exact PostG.ok p1 r1 rfl
  | false => rw [if_neg Bool.false_ne_true]; exact ⟨ρ1, S1, en, r1, re.mono e1, p1⟩
theorem pmw_and {a b : Expr} {rest : List Expr} {ma mb : Tst} {pos : Pos} (ha : PMT X E a ma) (hb : PMW X E (.BoolOp .And (b :: rest) pos) mb) : PMW X E (.BoolOp .And (a :: b :: rest) pos) (tAn ma mb) :=
  ⟨fun w pins s σ H Q I t => (pw_and ha hb).run w pins s σ H Q I (tAnd_of t)⟩
theorem pmw_or {a b : Expr} {rest : List Expr} {ma mb : Tst} {pos : Pos} (ha : PMT X E a ma) (hb : PMW X E (.BoolOp .Or (b :: rest) pos) mb) : PMW X E (.BoolOp .Or (a :: b :: rest) pos) (tOrr ma mb) :=
  ⟨fun w pins s σ H Q I t => (pw_or ha hb).run w pins s σ H Q I (tOr_of t)⟩
theorem pmt_not {a : Expr} {m : Tst} {pos : Pos} (h : PMT X E a m) : PMT X E (.UnaryOp .Not a pos) (tNo m) := by
  refine ⟨fun pins s σ H Q I t => (pt_not h).run pins s σ H Q I ?_⟩
  obtain ⟨ρ, S, en, rr, re, p⟩ := t
  refine ⟨ρ, S, en, rr, re, PostG.mono (PostG.bind (RR := RelB) p) ?_⟩
  rintro x H1 ⟨c, ρ1, S1, _, e1, r1, rfl, p1⟩
  exact PostG.ok p1 r1 rfl
theorem pmt_val {e : Expr} {m : Exp} (h : PM X E e m) (he : ∀ whole, isTrue e X.env whole = (do let v ← whole; standAt e.pos; holding [v] (truthy v)) := by intro _; rfl) : PMT X E e (tV m) :=
  ⟨fun pins s σ H Q I t => (pt_val h he).run pins s σ H Q I (tTest_of (fun _ t => t) t)⟩
def eIf (c : Tst) (a b : Exp) : Exp := fun en S => (c en S).bind fun x S1 => match x with
  | true => a en S1
  | false => b en S1
theorem pm_if {c a b : Expr} {mc : Tst} {ma mb : Exp} {pos : Pos} (hc : PMT X E c mc) (ha : PM X E a ma) (hb : PM X E b mb) : PM X E (.IfExp c a b pos) (eIf mc ma mb) := by
  refine ⟨fun pins s σ H Q I t => (pe_ifExp hc ha hb).run pins s σ H Q I ?_⟩
  obtain ⟨ρ, S, en, rr, re, p⟩ := t
  refine ⟨ρ, S, en, rr, re, PostG.mono (PostG.bind (RR := RelB) p) ?_⟩
  rintro x H1 ⟨c, ρ1, S1, _, e1, r1, rfl, p1⟩
  cases c with
  | true => rw [if_pos rfl]; exact ⟨ρ1, S1, en, r1, re.mono e1, p1⟩
  | false => rw [if_neg Bool.false_ne_true]; exact ⟨ρ1, S1, en, r1, re.mono e1, p1⟩

/-! ### argument lists, displays -/
def aN : Exps := fun _ S => .ok [] S
def aC (a : Exp) (b : Exps) : Exps := fun en S => (a en S).bind fun x S1 => (b en S1).bind fun xs S2 => .ok (x :: xs) S2
theorem pma_nil : PMA X E [] aN := by
  refine ⟨fun pos pins s σ H Q I t => pa_nil.run pos pins s σ H Q I ?_⟩
  obtain ⟨ρ, S, en, rr, re, p⟩ := t
  exact PostG.ok p rr RelDs.nil
theorem pma_cons {e : Expr} {es : List Expr} {m : Exp} {ms : Exps} (h : PM X E e m) (hs : PMA X E es ms) (he : starEach (e :: es) X.env = (false, eval e X.env) :: starEach es X.env := by rfl) : PMA X E (e :: es) (aC m ms) := by
  refine ⟨fun pos pins s σ H Q I t => (pa_cons h hs he).run pos pins s σ H Q I ?_⟩
  obtain ⟨ρ, S, en, rr, re, p⟩ := t
  refine ⟨ρ, S, en, rr, re, PostG.mono (PostG.bind (RR := RelD) p) ?_⟩
  rintro x H1 ⟨c, ρ1, S1, _, e1, r1, q1, p1⟩
  refine ⟨ρ1, S1, en, r1, re.mono e1, PostG.mono (PostG.bind (RR := RelDs) p1) ?_⟩
  rintro xs H2 ⟨cs, ρ2, S2, _, e2, r2, q2, p2⟩
  exact PostG.ok p2 r2 (RelDs.cons (q1.mono e2) q2)
theorem sz_ok {n : Nat} (h : n ≤ 100000) : n ≤ sizeLine := Nat.le_trans h (by rw [sizeLine_eq]; decide)
theorem sz_lt {n : Nat} (h : n < 100000) : n < sizeLine := Nat.lt_of_lt_of_le h (by rw [sizeLine_eq]; decide)
def eTup (ms : Exps) : Exp := fun en S => (ms en S).bind fun ds S1 => if ds.length ≤ 100000 then .ok (.tup ds) S1 else .stuck
def eLst (ms : Exps) : Exp := fun en S => (ms en S).bind fun ds S1 => if ds.length ≤ 100000 then .ok (.lst ds) S1 else .stuck
def eNew (ms : Exps) : Exp := fun en S => (ms en S).bind fun ds S1 => if ds.length ≤ 100000 then .ok (.ref S1.length) (S1 ++ [.lst ds]) else .stuck
section
variable {ρ : Rho K} {S : Sto} {H : Hp}
theorem RelD.tupLaid (r : Rel ρ H S) {ds : List D} {vs : List V} (h : RelDs ρ S H ds vs) {p : Addr} (hp : H p = none) : RelD ρ S (upd H p (.tup vs)) (.tup ds) (.ref p) :=
  .tup upd_same (r.fresh hp) h.1 (h.mono (Ext.laid r hp)).2
theorem RelD.lstLaid (r : Rel ρ H S) {ds : List D} {vs : List V} (h : RelDs ρ S H ds vs) {p : Addr} (hp : H p = none) : RelD ρ S (upd H p (.lst vs)) (.lst ds) (.ref p) :=
  .lst upd_same (r.fresh hp) h.1 (h.mono (Ext.laid r hp)).2
theorem upd_keep {p : Addr} {o : HO} (hp : H p = none) : ∀ a u, H a = some u → upd H p o a = some u := fun a u e => by
  rw [upd_ne (ne_of_none e hp)]; exact e
theorem Rel.newLst (r : Rel ρ H S) {ds : List D} {vs : List V} (h : RelDs ρ S H ds vs) {p : Addr} (hp : H p = none) : Rel (ρ.add p) (upd H p (.lst vs)) (S ++ [.lst ds]) :=
  r.new hp upd_same (upd_keep hp) ⟨vs, upd_same, h.mono (Ext.new r hp upd_same (upd_keep hp))⟩
theorem Rel.newDct (r : Rel ρ H S) {ds : List (Key × D)} {vs : List (Key × V)} (h : RelK ρ S H ds vs) {p : Addr} (hp : H p = none) : Rel (ρ.add p) (upd H p (.dK vs)) (S ++ [.dct ds]) :=
  r.new hp upd_same (upd_keep hp) ⟨vs, upd_same, h.mono (Ext.new r hp upd_same (upd_keep hp))⟩
/-- a tuple by value is told -/
theorem PostG.tup {ds : List D} {vs : List V} {Q : VK} (p : Post (.ok (.tup ds) S) ρ S H Q E) (r : Rel ρ H S) (h : RelDs ρ S H ds vs) : ∀ a, H a = none → Q (.ref a) (upd H a (.tup vs)) :=
  fun a ha => p _ _ ρ (Ext.laid r ha) (r.laid ha) (RelD.tupLaid r h ha)
theorem PostG.lst {ds : List D} {vs : List V} {Q : VK} (p : Post (.ok (.lst ds) S) ρ S H Q E) (r : Rel ρ H S) (h : RelDs ρ S H ds vs) : ∀ a, H a = none → Q (.ref a) (upd H a (.lst vs)) :=
  fun a ha => p _ _ ρ (Ext.laid r ha) (r.laid ha) (RelD.lstLaid r h ha)
theorem PostG.new {ds : List D} {vs : List V} {Q : VK} (p : Post (.ok (.ref S.length) (S ++ [.lst ds])) ρ S H Q E) (r : Rel ρ H S) (h : RelDs ρ S H ds vs) : ∀ a, H a = none → Q (.ref a) (upd H a (.lst vs)) :=
  fun a ha => p _ _ (ρ.add a) (Ext.new r ha upd_same (upd_keep ha)) (r.newLst h ha) (.ref (by rw [← r.len]; simp [Rho.add]))
end
theorem pm_tup {es : List Expr} {k : Nat} {pos : Pos} {ms : Exps} (h : PMA X E es ms) (he : ∀ (e1 : Expr), True := by intro _; trivial) (hp : ∀ t, PA X es t → PE X (.Tuple es k pos) (tTup t) := by exact fun _ h => pe_tup h) : PM X E (.Tuple es k pos) (eTup ms) := by
  refine ⟨fun pins s σ H Q I t => (hp _ h).run pins s σ H Q I ?_⟩
  obtain ⟨ρ, S, en, rr, re, p⟩ := t
  refine ⟨ρ, S, en, rr, re, PostG.mono (PostG.bind (RR := RelDs) p) ?_⟩
  rintro xs H1 ⟨c, ρ1, S1, _, e1, r1, q1, p1⟩
  split at p1
  · rename_i hl
    exact ⟨sz_ok (by rw [← q1.1]; exact hl), PostG.tup p1 r1 q1⟩
  · exact p1.elim
theorem pm_lst {es : List Expr} {pos : Pos} {ms : Exps} (h : PMA X E es ms) (hp : ∀ t, PA X es t → PE X (.List es pos) (tLst t) := by exact fun _ h => pe_lst h) : PM X E (.List es pos) (eLst ms) := by
  refine ⟨fun pins s σ H Q I t => (hp _ h).run pins s σ H Q I ?_⟩
  obtain ⟨ρ, S, en, rr, re, p⟩ := t
  refine ⟨ρ, S, en, rr, re, PostG.mono (PostG.bind (RR := RelDs) p) ?_⟩
  rintro xs H1 ⟨c, ρ1, S1, _, e1, r1, q1, p1⟩
  split at p1
  · rename_i hl
    exact ⟨sz_ok (by rw [← q1.1]; exact hl), PostG.lst p1 r1 q1⟩
  · exact p1.elim
theorem pm_new {es : List Expr} {pos : Pos} {ms : Exps} (h : PMA X E es ms) (hp : ∀ t, PA X es t → PE X (.List es pos) (tLst t) := by exact fun _ h => pe_lst h) : PM X E (.List es pos) (eNew ms) := by
  refine ⟨fun pins s σ H Q I t => (hp _ h).run pins s σ H Q I ?_⟩
  obtain ⟨ρ, S, en, rr, re, p⟩ := t
  refine ⟨ρ, S, en, rr, re, PostG.mono (PostG.bind (RR := RelDs) p) ?_⟩
  rintro xs H1 ⟨c, ρ1, S1, _, e1, r1, q1, p1⟩
  split at p1
  · rename_i hl
    exact ⟨sz_ok (by rw [← q1.1]; exact hl), PostG.new p1 r1 q1⟩
  · exact p1.elim

/-! ### calls of defs -/
def arg (n : Nat) (fM : List D → Sto → R D) (ds : List D) (S : Sto) : R D := if ds.length = n then fM ds S else .stuck
def spM (K : PySem.W.Frag) (n : Nat) (fM : List D → Sto → R D) : Sp := fun vs H Q E => ∃ (ρ : Rho K) (S : Sto) (ds : List D), Rel ρ H S ∧ RelDs ρ S H ds vs ∧ Post (arg n fM ds S) ρ S H Q E
theorem spM.len {n : Nat} {fM : List D → Sto → R D} {vs : List V} {H : Hp} {Q : VK} {E : XK} (h : spM K n fM vs H Q E) : vs.length = n := by
  obtain ⟨ρ, S, ds, _, q, p⟩ := h
  unfold arg at p
  split at p
  · rename_i e; rw [← q.1]; exact e
  · exact p.elim
/-- the def x of the module, with its defaults behind -/
def HasFn (P : Program) (w : World) (K : PySem.W.Frag) (mg : Str → Option Value) (base : Heap) (k : Nat) (x : Str) (n : Nat) (fM : List D → Sto → R D) : Prop :=
  ∃ (f : Addr) (fd : FuncData) (ps : List Str), FnOk P w K mg base (L2N.CX P w) k f fd ps (spM K n fM) ∧ mg x = some (.ref f) ∧ PySem.W.keepIn K (.ref f) = true ∧ Binds K fd ps []
/-- .. its defaults behind -/
def HasFnD (P : Program) (w : World) (K : PySem.W.Frag) (mg : Str → Option Value) (base : Heap) (k : Nat) (x : Str) (n : Nat) (dvs : List D) (fM : List D → Sto → R D) : Prop :=
  ∃ (f : Addr) (fd : FuncData) (ps : List Str) (us : List V) (ds : List Value), FnOk P w K mg base (L2N.CX P w) k f fd ps (spM K n fM) ∧ mg x = some (.ref f) ∧ PySem.W.keepIn K (.ref f) = true ∧ Binds K fd ps ds ∧ Vals us ds ∧ ∀ (ρ : Rho K) S H, RelDs ρ S H dvs us
theorem HasFn.d {P : Program} {w : World} {K : PySem.W.Frag} {mg : Str → Option Value} {base : Heap} {k : Nat} {x : Str} {n : Nat} {fM : List D → Sto → R D} (h : HasFn P w K mg base k x n fM) : HasFnD P w K mg base k x n [] fM :=
  let ⟨f, fd, ps, a, b, c, d⟩ := h; ⟨f, fd, ps, [], [], a, b, c, d, .nil, fun _ _ _ => .nil⟩
def eCall (n : Nat) (fM : List D → Sto → R D) (dvs : List D) (ms : Exps) : Exp := fun en S => (ms en S).bind fun ds S1 => arg n fM (ds ++ dvs) S1
theorem tCall_of {n : Nat} {fM : List D → Sto → R D} {dvs : List D} {us : List V} {ms : Exps} (hu : ∀ (ρ : Rho K) S H, RelDs ρ S H dvs us)
    {σ : L2.St} {H : Hp} {Q : VK} (t : tM K E (eCall n fM dvs ms) σ H Q) : tCall (spM K n fM) us E (tMA K E ms) σ H Q := by
  obtain ⟨ρ, S, en, rr, re, p⟩ := t
  refine ⟨ρ, S, en, rr, re, PostG.mono (PostG.bind (RR := RelDs) p) ?_⟩
  rintro xs H1 ⟨c, ρ1, S1, _, e1, r1, q1, p1⟩
  exact ⟨ρ1, S1, c ++ dvs, r1, q1.append (hu _ _ _), p1⟩
theorem pm_callD {k : Nat} {x : Str} {n : Nat} {dvs : List D} {fM : List D → Sto → R D} {e : Expr} {es : List Expr} {ms : Exps} {p pos : Pos} (c : Ctx X E k) (F : HasFnD X.prog X.w X.K X.mg X.base k x n dvs fM) (hg : Gl X x) (ha : PMA X E (e :: es) ms)
    (hdb : (x == ("__debug__" : Str)) = false := by decide) (he : starEach (e :: es) X.env = (false, eval e X.env) :: starEach es X.env := by rfl) (hpl : (backTo pos (starEach es X.env)).any (·.1) = false := by rfl) :
    PM X E (.Call (.Name x p) (e :: es) [] pos) (eCall n fM dvs ms) := by
  obtain ⟨f, fd, ps, us, ds, F, hm, hk, hb, hv, hu⟩ := F
  exact ⟨fun pins s σ H Q I t => (pe_call F c.room hg hm hk hb hv c.pass ha hdb he hpl).run pins s σ H Q I (tCall_of hu t)⟩
theorem pm_callD0 {k : Nat} {x : Str} {n : Nat} {dvs : List D} {fM : List D → Sto → R D} {p pos : Pos} (c : Ctx X E k) (F : HasFnD X.prog X.w X.K X.mg X.base k x n dvs fM) (hg : Gl X x) 
    (hdb : (x == ("__debug__" : Str)) = false := by decide) : PM X E (.Call (.Name x p) [] [] pos) (eCall n fM dvs aN) := by
  obtain ⟨f, fd, ps, us, ds, F, hm, hk, hb, hv, hu⟩ := F
  refine ⟨fun pins s σ H Q I t => (pe_call0 F c.room hg hm hk hb hv c.pass hdb).run pins s σ H Q I ?_⟩
  obtain ⟨ρ, S, en, rr, re, p⟩ := t
  exact ⟨ρ, S, dvs, rr, hu _ _ _, p⟩
theorem pm_call {k : Nat} {x : Str} {n : Nat} {fM : List D → Sto → R D} {e : Expr} {es : List Expr} {ms : Exps} {p pos : Pos} (c : Ctx X E k) (F : HasFn X.prog X.w X.K X.mg X.base k x n fM) (hg : Gl X x) (ha : PMA X E (e :: es) ms)
    (hdb : (x == ("__debug__" : Str)) = false := by decide) (he : starEach (e :: es) X.env = (false, eval e X.env) :: starEach es X.env := by rfl) (hpl : (backTo pos (starEach es X.env)).any (·.1) = false := by rfl) :
    PM X E (.Call (.Name x p) (e :: es) [] pos) (eCall n fM [] ms) := pm_callD c F.d hg ha hdb he hpl

/-! ### instances -/
def hasD (fs : List (Str × D)) (f : Str) : Option D := fs.lookup f
theorem RelK.lookup {ρ : Rho K} {S : Sto} {H : Hp} : ∀ {fs : List (Str × D)} {gs : List (Str × V)} {f : Str}, RelK ρ S H fs gs → (∀ d, fs.lookup f = some d → ∃ v, gs.lookup f = some v ∧ RelD ρ S H d v) ∧ (fs.lookup f = none → gs.lookup f = none)
  | [], [], f, _ => ⟨fun d e => by simp at e, fun _ => rfl⟩
  | [], _ :: _, f, h => by have := h.1; simp at this
  | _ :: _, [], f, h => by have := h.1; simp at this
  | (a, d) :: fs, (b, v) :: gs, f, h => by
    have h1 := h.1
    simp only [List.map_cons, List.cons.injEq] at h1
    obtain ⟨hab, ht⟩ := h1
    subst hab
    have ih := RelK.lookup (fs := fs) (gs := gs) (f := f) ⟨ht, fun i d' v' x y => h.2 (i + 1) d' v' (by simpa using x) (by simpa using y)⟩
    rw [List.lookup_cons, List.lookup_cons]
    by_cases e : f == a
    · simp only [e]
      exact ⟨fun d' q => ⟨v, rfl, by cases q; exact h.2 0 d v (by simp) (by simp)⟩, fun q => by cases q⟩
    · simp only [e]
      exact ih
theorem RelK.length {κ : Type} {ρ : Rho K} {S : Sto} {H : Hp} {fs : List (κ × D)} {gs : List (κ × V)} (h : RelK ρ S H fs gs) : fs.length = gs.length := by
  have := congrArg List.length h.1
  simpa using this
/-- a field of an instance -/
def eFld (f : Str) (m : Exp) : Exp := fun en S => (m en S).bind fun x S1 => match x with
  | .ref i => match S1[i]? with
    | some (.ins _ fs) => match fs.lookup f with
      | some d => .ok d S1
      | none => .stuck
    | _ => .stuck
  | _ => .stuck
/-- of the class at C -/
def eFldC (C : Addr) (f : Str) (m : Exp) : Exp := fun en S => (m en S).bind fun x S1 => match x with
  | .ref i => match S1[i]? with
    | some (.ins C' fs) => if C' = C then (match fs.lookup f with
      | some d => .ok d S1
      | none => .stuck) else .stuck
    | _ => .stuck
  | _ => .stuck
theorem pm_fld {C : Addr} {o : Expr} {f : Str} {m : Exp} {pos : Pos} (c : Cls X.K C) (n : NoAttr X.K C f) (h : PM X E o m) (hb : attributeBase o f X.env (eval o X.env) = eval o X.env := by rfl) : PM X E (.Attribute o f pos) (eFldC C f m) := by
  refine ⟨fun pins s σ H Q I t => (pe_fld h hb).run pins s σ H Q I ?_⟩
  obtain ⟨ρ, S, en, rr, re, p⟩ := t
  refine ⟨ρ, S, en, rr, re, PostG.mono (PostG.bind (RR := RelD) p) ?_⟩
  rintro x H1 ⟨d, ρ1, S1, _, e1, r1, q1, p1⟩
  cases q1 with
  | @ref i a ha =>
    dsimp only at p1
    split at p1
    · rename_i C' fs hS
      split at p1
      · rename_i hC
        subst hC
        split at p1
        · rename_i dd hf
          obtain ⟨dx, gs, hH, rk⟩ := r1.cell i a _ ha hS
          obtain ⟨v, hv, rv⟩ := (RelK.lookup (f := f) rk).1 dd hf
          exact ⟨a, _, dx, gs, v, rfl, hH, c, n, hv, PostG.ok p1 r1 rv⟩
        · exact p1.elim
      · exact p1.elim
    · exact p1.elim
  | _ => exact p1.elim
/-- the method m of the class at C -/
def HasMt (P : Program) (w : World) (K : PySem.W.Frag) (mg : Str → Option Value) (base : Heap) (k : Nat) (C : Addr) (m : Str) (n : Nat) (dvs : List D) (fM : List D → Sto → R D) : Prop :=
  ∃ (f : Addr) (fd : FuncData) (ps : List Str) (us : List V) (ds : List Value), FnOk P w K mg base (L2N.CX P w) k f fd ps (spM K n fM) ∧ Cls K C ∧ Meth K C m f ∧ Binds K fd ps ds ∧ Vals us ds ∧ ∀ (ρ : Rho K) S H, RelDs ρ S H dvs us
def isIns (C : Addr) (m : Str) (S : Sto) : D → Bool
  | .ref i => match S[i]? with
    | some (.ins C' fs) => decide (C' = C) && (fs.lookup m).isNone
    | _ => false
  | _ => false
def eMeth (C : Addr) (m : Str) (n : Nat) (fM : List D → Sto → R D) (dvs : List D) (o : Exp) (ms : Exps) : Exp := fun en S => (o en S).bind fun x S1 =>
  if isIns C m S1 x = true then (ms en S1).bind fun ds S2 => arg n fM (x :: (ds ++ dvs)) S2 else .stuck
theorem isIns_at {C : Addr} {m : Str} {ρ : Rho K} {S : Sto} {H : Hp} {x : D} {v : V} (r : Rel ρ H S) (h : RelD ρ S H x v) (e : isIns C m S x = true) : ∃ a dx fs, v = .ref a ∧ H a = some (.ins C dx fs) ∧ fs.lookup m = none := by
  cases h with
  | @ref i a ha =>
    unfold isIns at e
    dsimp only at e
    split at e
    · rename_i C' fs hS
      rw [Bool.and_eq_true] at e
      obtain ⟨e1, e2⟩ := e
      have hC : C' = C := of_decide_eq_true e1
      subst hC
      obtain ⟨dx, gs, hH, rk⟩ := r.cell i a _ ha hS
      exact ⟨a, dx, gs, rfl, hH, (RelK.lookup (f := m) rk).2 (by simpa using e2)⟩
    · cases e
  | _ => cases e
theorem pm_meth {C : Addr} {m : Str} {k n : Nat} {dvs : List D} {fM : List D → Sto → R D} {o e : Expr} {es : List Expr} {mo : Exp} {ms : Exps} {apos pos : Pos} {pl : Sem Bool} (c : Ctx X E k) (F : HasMt X.prog X.w X.K X.mg X.base k C m n dvs fM) (ho : PM X E o mo) (ha : PMA X E (e :: es) ms)
    (hst : starEach (e :: es) X.env = (false, eval e X.env) :: starEach es X.env := by rfl) (hpl : (backTo pos (starEach es X.env)).any (·.1) = false := by rfl)
    (ht : eval (.Call (.Attribute o m apos) (e :: es) [] pos) X.env = (do
      let ov ← eval o X.env
      standAt apos.atName
      let (f, first) ← holding [ov] (getMethod ov m pl)
      callWith pos f first (backTo pos (starEach (e :: es) X.env)) (backToKw pos (keywordEach [] X.env))) := by rfl) :
    PM X E (.Call (.Attribute o m apos) (e :: es) [] pos) (eMeth C m n fM dvs mo ms) := by
  obtain ⟨f, fd, ps, us, ds, F, cl, hm, hb, hv, hu⟩ := F
  refine ⟨fun pins s σ H Q I t => (pe_meth (pl := pl) ho cl hm F c.room hb hv c.pass ha hst hpl ht).run pins s σ H Q I ?_⟩
  obtain ⟨ρ, S, en, rr, re, p⟩ := t
  refine ⟨ρ, S, en, rr, re, PostG.mono (PostG.bind (RR := RelD) p) ?_⟩
  rintro x H1 ⟨d, ρ1, S1, _, e1, r1, q1, p1⟩
  split at p1
  · rename_i hi
    obtain ⟨a, dx, fs, rfl, h1, h2⟩ := isIns_at r1 q1 hi
    refine ⟨a, dx, fs, rfl, h1, h2, ρ1, S1, en, r1, re.mono e1, PostG.mono (PostG.bind (RR := RelDs) p1) ?_⟩
    rintro xs H2 ⟨cs, ρ2, S2, _, e2, r2, q2, p2⟩
    exact ⟨ρ2, S2, _, r2, RelDs.cons (q1.mono e2) (q2.append (hu _ _ _)), p2⟩
  · exact p1.elim
theorem pm_meth0 {C : Addr} {m : Str} {k n : Nat} {dvs : List D} {fM : List D → Sto → R D} {o : Expr} {mo : Exp} {apos pos : Pos} {pl : Sem Bool} (c : Ctx X E k) (F : HasMt X.prog X.w X.K X.mg X.base k C m n dvs fM) (ho : PM X E o mo)
    (ht : eval (.Call (.Attribute o m apos) [] [] pos) X.env = (do
      let ov ← eval o X.env
      standAt apos.atName
      let (f, first) ← holding [ov] (getMethod ov m pl)
      callWith pos f first (backTo pos (starEach [] X.env)) (backToKw pos (keywordEach [] X.env))) := by rfl) :
    PM X E (.Call (.Attribute o m apos) [] [] pos) (eMeth C m n fM dvs mo aN) := by
  obtain ⟨f, fd, ps, us, ds, F, cl, hm, hb, hv, hu⟩ := F
  refine ⟨fun pins s σ H Q I t => (pe_meth0 (pl := pl) ho cl hm F c.room hb hv c.pass ht).run pins s σ H Q I ?_⟩
  obtain ⟨ρ, S, en, rr, re, p⟩ := t
  refine ⟨ρ, S, en, rr, re, PostG.mono (PostG.bind (RR := RelD) p) ?_⟩
  rintro x H1 ⟨d, ρ1, S1, _, e1, r1, q1, p1⟩
  split at p1
  · rename_i hi
    obtain ⟨a, dx, fs, rfl, h1, h2⟩ := isIns_at r1 q1 hi
    refine ⟨a, dx, fs, rfl, h1, h2, ?_⟩
    exact ⟨ρ1, S1, _, r1, RelDs.cons q1 (hu _ _ _), p1⟩
  · exact p1.elim
/-- C(..): the __init__ of the class at C -/
def HasMk (P : Program) (w : World) (K : PySem.W.Frag) (mg : Str → Option Value) (base : Heap) (k : Nat) (x : Str) (C : Addr) (n : Nat) (dvs : List D) (fM : List D → Sto → R D) : Prop :=
  ∃ (f : Addr) (fd : FuncData) (ps : List Str) (us : List V) (ds : List Value), Mk K C f ∧ FnOk P w K mg base (L2N.CX P w) k f fd ps (spM K n fM) ∧ mg x = some (.ref C) ∧ Binds K fd ps ds ∧ Vals us ds ∧ ∀ (ρ : Rho K) S H, RelDs ρ S H dvs us
def eMake (C : Addr) (n : Nat) (fM : List D → Sto → R D) (dvs : List D) (ms : Exps) : Exp := fun en S => (ms en S).bind fun ds S1 =>
  (arg n fM (.ref S1.length :: (ds ++ dvs)) (S1 ++ [.ins C []])).bind fun x S2 => match x with
    | .non => .ok (.ref S1.length) S2
    | _ => .stuck
theorem tMake_of {C : Addr} {n : Nat} {fM : List D → Sto → R D} {dvs : List D} {us : List V} {ms : Exps} (hu : ∀ (ρ : Rho K) S H, RelDs ρ S H dvs us)
    {σ : L2.St} {H : Hp} {Q : VK} (t : tM K E (eMake C n fM dvs ms) σ H Q) : tMake C (spM K n fM) us E (tMA K E ms) σ H Q := by
  obtain ⟨ρ, S, en, rr, re, p⟩ := t
  refine ⟨ρ, S, en, rr, re, PostG.mono (PostG.bind (RR := RelDs) p) ?_⟩
  rintro xs H1 ⟨c, ρ1, S1, _, e1, r1, q1, p1⟩
  intro x dx hx hdx hne
  have hx1 : (upd H1 dx (.own x)) x = none := by rw [upd_ne (Ne.symm hne)]; exact hx
  have kp : ∀ a u, H1 a = some u → upd (upd H1 dx (.own x)) x (.ins C dx []) a = some u := fun a u e => upd_keep hx1 a u (upd_keep hdx a u e)
  have r2 : Rel (ρ1.add x) (upd (upd H1 dx (.own x)) x (.ins C dx [])) (S1 ++ [.ins C []]) :=
    r1.new hx upd_same kp ⟨dx, [], upd_same, rfl, fun i d v e => by simp at e⟩
  have e2 : Ext ρ1 S1 H1 (ρ1.add x) (S1 ++ [.ins C []]) (upd (upd H1 dx (.own x)) x (.ins C dx [])) := Ext.new r1 hx upd_same kp
  have hxr : (ρ1.add x).own[S1.length]? = some x := by rw [← r1.len]; simp [Rho.add]
  refine ⟨ρ1.add x, S1 ++ [.ins C []], .ref S1.length :: (c ++ dvs), r2, RelDs.cons (.ref hxr) ((q1.mono e2).append (hu _ _ _)), PostG.mono (PostG.bind (RR := RelD) (PostG.ext p1 e2)) ?_⟩
  rintro v H3 ⟨d3, ρ3, S3, _, e3, r3, q3, p3⟩
  cases q3 with
  | non => exact ⟨rfl, PostG.ok p3 r3 (.ref (e3.pre _ _ hxr))⟩
  | _ => exact p3.elim
theorem pm_make {k : Nat} {x : Str} {C : Addr} {n : Nat} {dvs : List D} {fM : List D → Sto → R D} {e : Expr} {es : List Expr} {ms : Exps} {p pos : Pos} (c : Ctx X E (k + 1)) (F : HasMk X.prog X.w X.K X.mg X.base k x C n dvs fM) (hg : Gl X x) (ha : PMA X E (e :: es) ms)
    (hdb : (x == ("__debug__" : Str)) = false := by decide) (he : starEach (e :: es) X.env = (false, eval e X.env) :: starEach es X.env := by rfl) (hpl : (backTo pos (starEach es X.env)).any (·.1) = false := by rfl) :
    PM X E (.Call (.Name x p) (e :: es) [] pos) (eMake C n fM dvs ms) := by
  obtain ⟨f, fd, ps, us, ds, M, F, hm, hb, hv, hu⟩ := F
  exact ⟨fun pins s σ H Q I t => (pe_make M F c.room hg hm hb hv c.pass ha hdb he hpl).run pins s σ H Q I (tMake_of hu t)⟩
end
end SF

/-! Rules: statements, loops, defs. -/
namespace SF
open PySem L2
section
variable {X : Cx} {E : XK}
def sNx : Stm := fun en S => .nx en S
def sSeq (a b : Stm) : Stm := fun en S => (a en S).andThen b
theorem tMS_nx {Dn : Ends} {σ : L2.St} {H : Hp} {ρ : Rho K} {S : Sto} {en : En} (p : PostS (.nx en S) ρ S H Dn E) (r : Rel ρ H S) (re : RelE ρ S H en σ) : Dn.nx σ H := p σ H ρ (Ext.refl _ _ _) r re
theorem pms_nil : PMSs X E [] sNx := by
  refine ⟨fun pins s σ H Dn I t => pss_nil.run pins s σ H Dn I ?_⟩
  obtain ⟨ρ, S, en, rr, re, p⟩ := t
  exact tMS_nx p rr re
theorem PostS.seq {a : RS} {b : Stm} {ρ : Rho K} {S : Sto} {H : Hp} {Dn : Ends} (p : PostS (a.andThen b) ρ S H Dn E) : PostS a ρ S H { Dn with nx := tMS K E b Dn } E := by
  cases a with
  | nx en S' => exact fun σ' H' ρ' e r re => ⟨ρ', S', en, r, re, PostS.ext p e⟩
  | rt d S' => exact p
  | exc x S' => exact p
  | stuck => exact p
theorem pms_cons {st : Stmt} {rest : List Stmt} {a b : Stm} (h1 : PMS X E st a) (h2 : PMSs X E rest b) : PMSs X E (st :: rest) (sSeq a b) := by
  refine ⟨fun pins s σ H Dn I t => (pss_cons h1 h2).run pins s σ H Dn I ?_⟩
  obtain ⟨ρ, S, en, rr, re, p⟩ := t
  exact ⟨ρ, S, en, rr, re, PostS.seq p⟩
theorem pms_one {st : Stmt} {a : Stm} (h : PMS X E st a) : PMSs X E [st] a := pss_one h
def sEx (m : Exp) : Stm := fun en S => (m en S).thenS fun _ S1 => .nx en S1
def sRt (m : Exp) : Stm := fun en S => (m en S).thenS fun d S1 => .rt d S1
def sIf (c : Tst) (a b : Stm) : Stm := fun en S => (c en S).thenS fun x S1 => match x with
  | true => a en S1
  | false => b en S1
theorem pms_pass {pos : Pos} : PMS X E (.Pass pos) sNx := by
  refine ⟨fun pins s σ H Dn I t => ps_pass.run pins s σ H Dn I ?_⟩
  obtain ⟨ρ, S, en, rr, re, p⟩ := t
  exact tMS_nx p rr re
theorem pms_expr {e : Expr} {m : Exp} {pos : Pos} (h : PM X E e m) (hp : PS X (.Expr e pos) (tDrop (tM X.K E m))) : PMS X E (.Expr e pos) (sEx m) := by
  refine ⟨fun pins s σ H Dn I t => hp.run pins s σ H Dn I ?_⟩
  obtain ⟨ρ, S, en, rr, re, p⟩ := t
  refine ⟨ρ, S, en, rr, re, PostG.mono (PostS.bind (RR := RelD) p) ?_⟩
  rintro x H1 ⟨c, ρ1, S1, _, e1, r1, q1, p1⟩
  exact tMS_nx p1 r1 (re.mono e1)
theorem pms_ret {e : Expr} {m : Exp} {pos : Pos} (h : PM X E e m) : PMS X E (.Return (some e) pos) (sRt m) := by
  refine ⟨fun pins s σ H Dn I t => (ps_ret h).run pins s σ H Dn I ?_⟩
  obtain ⟨ρ, S, en, rr, re, p⟩ := t
  refine ⟨ρ, S, en, rr, re, PostG.mono (PostS.bind (RR := RelD) p) ?_⟩
  rintro x H1 ⟨c, ρ1, S1, _, e1, r1, q1, p1⟩
  exact p1 x H1 ρ1 (Ext.refl _ _ _) r1 q1
theorem pms_retN {pos : Pos} : PMS X E (.Return none pos) (sRt (eK .non)) := by
  refine ⟨fun pins s σ H Dn I t => ps_retN.run pins s σ H Dn I ?_⟩
  obtain ⟨ρ, S, en, rr, re, p⟩ := t
  exact p .non H ρ (Ext.refl _ _ _) rr .non
theorem pms_if {c : Expr} {a b : List Stmt} {mc : Tst} {ma mb : Stm} {pos : Pos} (hc : PMT X E c mc) (ha : PMSs X E a ma) (hb : PMSs X E b mb) : PMS X E (.If c a b pos) (sIf mc ma mb) := by
  refine ⟨fun pins s σ H Dn I t => (ps_if hc ha hb).run pins s σ H Dn I ?_⟩
  obtain ⟨ρ, S, en, rr, re, p⟩ := t
  refine ⟨ρ, S, en, rr, re, PostG.mono (PostS.bind (RR := RelB) p) ?_⟩
  rintro x H1 ⟨c, ρ1, S1, _, e1, r1, rfl, p1⟩
  cases c with
  | true => rw [if_pos rfl]; exact ⟨ρ1, S1, en, r1, re.mono e1, p1⟩
  | false => rw [if_neg Bool.false_ne_true]; exact ⟨ρ1, S1, en, r1, re.mono e1, p1⟩

/-! ### targets -/
abbrev Tgt := D → En → Option En
def gN (i : Nat) : Tgt := fun d en => some (en.set i (some d))
abbrev Tgts := List D → En → Option En
def gsN : Tgts := fun ds en => match ds with
  | [] => some en
  | _ => none
def gsC (g : Tgt) (gs : Tgts) : Tgts := fun ds en => match ds with
  | d :: r => (g d en).bind fun en1 => gs r en1
  | [] => none
def gT (gs : Tgts) : Tgt := fun d en => match d with
  | .tup ds => gs ds en
  | _ => none
theorem wipe_idem {σ : L2.St} : ∀ (vs : List Nat) {i : Nat} {x : Option V}, i ∈ vs → wipe (σ.set i x) vs = wipe σ vs
  | [], _, _, h => by simp at h
  | v :: vs, i, x, h => by
    show (wipe (σ.set i x) vs).set v none = (wipe σ vs).set v none
    by_cases e : i ∈ vs
    · rw [wipe_idem vs e]
    · have hv : i = v := by
        rcases List.mem_cons.mp h with z | z
        · exact z
        · exact absurd z e
      subst hv
      have : ∀ (ws : List Nat) (τ : L2.St), (wipe (τ.set i x) ws).set i none = (wipe τ ws).set i none := by
        intro ws
        induction ws with
        | nil => intro τ; show (τ.set i x).set i none = τ.set i none; rw [List.set_set]
        | cons w ws ih =>
          intro τ
          show ((wipe (τ.set i x) ws).set w none).set i none = ((wipe τ ws).set w none).set i none
          by_cases hw : w = i
          · subst hw; rw [List.set_set, List.set_set]; exact ih τ
          · rw [List.set_comm _ _ hw, List.set_comm _ _ hw, ih τ]
      exact this vs σ
theorem wipe_wipe {σ : L2.St} (vs : List Nat) : wipe (wipe σ vs) vs = wipe σ vs := by
  have : ∀ (ws us : List Nat) (τ : L2.St), (∀ w ∈ ws, w ∈ us) → wipe (wipe τ ws) us = wipe τ us := by
    intro ws
    induction ws with
    | nil => intro us τ _; rfl
    | cons w ws ih =>
      intro us τ h
      show wipe ((wipe τ ws).set w none) us = wipe τ us
      rw [wipe_idem us (h w List.mem_cons_self)]
      exact ih us τ fun x hx => h x (List.mem_cons_of_mem _ hx)
  exact this vs vs σ fun _ h => h
/-- a target's reading is told by g; it stores the slots ws -/
def Wst (σ σ' : L2.St) (ws : List Nat) : Prop := ∀ vs : List Nat, (∀ w ∈ ws, w ∈ vs) → wipe σ' vs = wipe σ vs
def GM (K : PySem.W.Frag) (t : TG) (g : Tgt) (ws : List Nat) : Prop := ∀ (ρ : Rho K) (S : Sto) (H : Hp) (d : D) (v : V) (en en' : En) (σ : L2.St) (Q : L2.St → Hp → Prop), Rel ρ H S → RelD ρ S H d v → RelE ρ S H en σ → g d en = some en' → (∀ σ', RelE ρ S H en' σ' → Wst σ σ' ws → Q σ' H) → t v σ H Q
structure GMs (K : PySem.W.Frag) (t : TGs) (g : Tgts) (n : Nat) (ws : List Nat) : Prop where
  len : ∀ ds en en', g ds en = some en' → ds.length = n
  run : ∀ (ρ : Rho K) (S : Sto) (H : Hp) (ds : List D) (vs : List V) (en en' : En) (σ : L2.St) (Q : L2.St → Hp → Prop), Rel ρ H S → RelDs ρ S H ds vs → RelE ρ S H en σ → g ds en = some en' → (∀ σ', RelE ρ S H en' σ' → Wst σ σ' ws → Q σ' H) → t vs σ H Q
theorem gm_name (i : Nat) : GM K (gName i) (gN i) [i] := fun ρ S H d v en en' σ Q r q re e k => by
  cases e
  exact k _ (re.set q i) fun vs hv => wipe_idem vs (hv i List.mem_cons_self)
theorem gms_nil : GMs K gNil gsN 0 [] := by
  refine ⟨fun ds en en' e => ?_, fun ρ S H ds vs en en' σ Q r q re e k => ?_⟩
  · unfold gsN at e
    split at e
    · rfl
    · cases e
  · unfold gsN at e
    split at e
    · cases e
      refine ⟨?_, k σ re fun _ _ => rfl⟩
      have := q.1
      cases vs with
      | nil => rfl
      | cons _ _ => simp at this
    · cases e
theorem gms_cons {t : TG} {ts : TGs} {g : Tgt} {gs : Tgts} {n : Nat} {ws us : List Nat} (h : GM K t g ws) (hs : GMs K ts gs n us) : GMs K (gCons t ts) (gsC g gs) (n + 1) (ws ++ us) := by
  refine ⟨fun ds en en' e => ?_, fun ρ S H ds vs en en' σ Q r q re e k => ?_⟩
  · unfold gsC at e
    split at e
    · rename_i d ds'
      cases h1 : g d en with
      | none => rw [h1] at e; cases e
      | some en1 =>
        rw [h1] at e
        have := hs.len ds' en1 en' e
        simp [this]
    · cases e
  · unfold gsC at e
    split at e
    · rename_i d ds'
      obtain ⟨v, ws', rfl, q1, q2⟩ := q.uncons
      cases h1 : g d en with
      | none => rw [h1] at e; cases e
      | some en1 =>
        rw [h1] at e
        exact ⟨v, ws', rfl, h ρ S H d v en en1 σ _ r q1 re h1 fun σ1 re1 w1 => hs.run ρ S H ds' ws' en1 en' σ1 Q r q2 re1 e fun σ2 re2 w2 => k σ2 re2 fun vs hv => (w2 vs fun w hw => hv w (List.mem_append_right _ hw)).trans (w1 vs fun w hw => hv w (List.mem_append_left _ hw))⟩
    · cases e
theorem gm_tup {K : PySem.W.Frag} {n : Nat} {ts : TGs} {gs : Tgts} {ws : List Nat} (hs : GMs K ts gs n ws) : GM K (gTup K n ts) (gT gs) ws := fun ρ S H d v en en' σ Q r q re e k => by
  unfold gT at e
  split at e
  · rename_i ds
    cases q with
    | @tup ds vs a hH hl hlen hq =>
      have hn := hs.len ds en en' e
      exact ⟨a, vs, rfl, SqT.of hH, by rw [← hlen]; exact hn, hs.run ρ S H ds vs en en' σ Q r ⟨hlen, hq⟩ re e k⟩
  · cases e
def sAs (g : Tgt) (m : Exp) : Stm := fun en S => (m en S).thenS fun d S1 => match g d en with
  | some en1 => .nx en1 S1
  | none => .stuck
theorem pms_asg {tg e : Expr} {m : Exp} {t : TG} {g : Tgt} {ws : List Nat} {pos : Pos} (hp : PS X (.Assign [tg] e pos) (tAsg (tM X.K E m) t)) (hg : GM X.K t g ws) : PMS X E (.Assign [tg] e pos) (sAs g m) := by
  refine ⟨fun pins s σ H Dn I t => hp.run pins s σ H Dn I ?_⟩
  obtain ⟨ρ, S, en, rr, re, p⟩ := t
  refine ⟨ρ, S, en, rr, re, PostG.mono (PostS.bind (RR := RelD) p) ?_⟩
  rintro x H1 ⟨c, ρ1, S1, _, e1, r1, q1, p1⟩
  split at p1
  · rename_i en1 hg1
    exact hg ρ1 S1 H1 c x en en1 σ _ r1 q1 (re.mono e1) hg1 fun σ' re' _ => tMS_nx p1 r1 re'
  · exact p1.elim
theorem pms_set {i : Nat} {x : Str} {e : Expr} {m : Exp} {pos pos' : Pos} {k : Nat} (c : Ctx X E k) (hi : X.N[i]? = some x) (hx : Loc X.env.scope x) (he : PM X E e m) (hs : swapsWith e (some (.Name x pos')) pos.line X.env = pure false := by rfl)
    (hf : X.fn x = true ∨ X.env.scope.names.lookup x = some .local := by first | exact .inl rfl | exact .inr rfl | assumption) : PMS X E (.Assign [.Name x pos'] e pos) (sAs (gN i) m) := pms_asg (ps_set c.nd hi hx he hs hf) (gm_name i)
/-- a, b = x, y -/
def sPar (i j : Nat) (ms : Exps) : Stm := fun en S => (ms en S).thenS fun ds S1 => match ds with
  | [a, b] => .nx ((en.set i (some a)).set j (some b)) S1
  | _ => .stuck
theorem pms_par {i j : Nat} {st : Stmt} {ms : Exps} (hp : PS X st (tPar i j (tMA X.K E ms))) : PMS X E st (sPar i j ms) := by
  refine ⟨fun pins s σ H Dn I t => hp.run pins s σ H Dn I ?_⟩
  obtain ⟨ρ, S, en, rr, re, p⟩ := t
  refine ⟨ρ, S, en, rr, re, PostG.mono (PostS.bind (RR := RelDs) p) ?_⟩
  rintro xs H1 ⟨c, ρ1, S1, _, e1, r1, q1, p1⟩
  split at p1
  · rename_i a b
    obtain ⟨v, ws, rfl, qa, qt⟩ := q1.uncons
    obtain ⟨w, us, rfl, qb, qn⟩ := qt.uncons
    have : us = [] := by
      have := qn.1
      cases us with
      | nil => rfl
      | cons _ _ => simp at this
    subst this
    exact ⟨v, w, rfl, tMS_nx p1 r1 (((re.mono e1).set qa i).set qb j)⟩
  · exact p1.elim

/-! ### stores -/
def sFld (C : Addr) (f : Str) (o v : Exp) : Stm := fun en S => (v en S).thenS fun y S1 => (o en S1).thenS fun x S2 => match x with
  | .ref i => match S2[i]? with
    | some (.ins C' fs) => if C' = C ∧ fs.length < 900 then .nx en (S2.set i (.ins C (putFD f y fs))) else .stuck
    | _ => .stuck
  | _ => .stuck
where putFD (f : Str) (v : D) : List (Str × D) → List (Str × D)
  | [] => [(f, v)]
  | (g, w) :: r => if g = f then (g, v) :: r else (g, w) :: putFD f v r
abbrev putFD := sFld.putFD
end
end SF

/-! Rules: stores, loops, the closing of cells, defs. -/
namespace SF
open PySem L2
section
variable {ρ : Rho K} {S : Sto} {H : Hp}
theorem RelK.nil {κ : Type} : RelK (κ := κ) ρ S H [] [] := ⟨rfl, fun i d v e => by simp at e⟩
theorem RelK.cons {κ : Type} {k : κ} {d : D} {v : V} {fs : List (κ × D)} {gs : List (κ × V)} (h : RelD ρ S H d v) (t : RelK ρ S H fs gs) : RelK ρ S H ((k, d) :: fs) ((k, v) :: gs) := by
  refine ⟨by simp [t.1], fun i d' v' a b => ?_⟩
  cases i with
  | zero => simp at a b; subst a; subst b; exact h
  | succ i => simp only [List.map_cons, List.getElem?_cons_succ] at a b; exact t.2 i d' v' a b
theorem RelK.uncons {κ : Type} {k : κ} {d : D} {fs : List (κ × D)} {hs : List (κ × V)} (h : RelK ρ S H ((k, d) :: fs) hs) : ∃ v gs, hs = (k, v) :: gs ∧ RelD ρ S H d v ∧ RelK ρ S H fs gs := by
  cases hs with
  | nil => have := h.1; simp at this
  | cons p gs =>
    obtain ⟨k', v⟩ := p
    have h1 := h.1
    simp only [List.map_cons, List.cons.injEq] at h1
    obtain ⟨rfl, ht⟩ := h1
    exact ⟨v, gs, rfl, h.2 0 d v (by simp) (by simp), ht, fun i d' v' a b => h.2 (i + 1) d' v' (by simpa using a) (by simpa using b)⟩
theorem RelK.putF {f : Str} {y : D} {v : V} (hy : RelD ρ S H y v) : ∀ {fs : List (Str × D)} {gs : List (Str × V)}, RelK ρ S H fs gs → RelK ρ S H (putFD f y fs) (L2.putF f v gs)
  | [], gs, h => by
    have : gs = [] := by
      have := h.length
      cases gs with
      | nil => rfl
      | cons _ _ => simp at this
    subst this
    exact RelK.cons hy RelK.nil
  | (g, d) :: fs, gs, h => by
    obtain ⟨w, gs, rfl, q, t⟩ := h.uncons
    show RelK ρ S H (if g = f then (g, y) :: fs else (g, d) :: sFld.putFD f y fs) (if g = f then (g, v) :: gs else (g, w) :: L2.putF f v gs)
    by_cases e : g = f
    · rw [if_pos e, if_pos e]; exact RelK.cons hy t
    · rw [if_neg e, if_neg e]; exact RelK.cons q (RelK.putF hy t)
def valD {κ : Type} [DecidableEq κ] (kvs : List (κ × D)) (k : κ) : Option D := (kvs.find? fun kv => decide (kv.1 = k)).map (·.2)
def putD {κ : Type} [DecidableEq κ] (kvs : List (κ × D)) (k : κ) (v : D) : List (κ × D) :=
  if (kvs.any fun kv => decide (kv.1 = k)) = true then kvs.map (fun kv => if kv.1 = k then (kv.1, v) else kv) else kvs ++ [(k, v)]
theorem RelK.val {k : Key} : ∀ {fs : List (Key × D)} {gs : List (Key × V)}, RelK ρ S H fs gs → (∀ d, valD fs k = some d → ∃ v, valV gs k = some v ∧ RelD ρ S H d v) ∧ (valD fs k = none → valV gs k = none)
  | [], gs, h => by
    have : gs = [] := by
      have := h.length
      cases gs with
      | nil => rfl
      | cons _ _ => simp at this
    subst this
    exact ⟨fun d e => by simp [valD] at e, fun _ => rfl⟩
  | (g, d) :: fs, gs, h => by
    obtain ⟨w, gs, rfl, q, t⟩ := h.uncons
    by_cases e : g = k
    · subst e
      have e1 : valD ((g, d) :: fs) g = some d := by simp [valD]
      rw [e1, valV_pos rfl]
      exact ⟨fun d' x => by cases x; exact ⟨w, rfl, q⟩, fun x => by cases x⟩
    · have e1 : valD ((g, d) :: fs) k = valD fs k := by simp [valD, e]
      rw [e1, valV_neg e]
      exact RelK.val t
theorem RelK.anyk {k : Key} {fs : List (Key × D)} {gs : List (Key × V)} (h : RelK ρ S H fs gs) : (fs.any fun kv => decide (kv.1 = k)) = gs.any fun kv => decide (kv.1 = k) := by
  have e : ∀ {α : Type} (l : List (Key × α)), (l.any fun kv => decide (kv.1 = k)) = (l.map (·.1)).any fun x => decide (x = k) := fun l => by
    rw [List.any_map]; rfl
  rw [e, e, h.1]
theorem RelK.append {κ : Type} {fs fs' : List (κ × D)} {gs gs' : List (κ × V)} (h : RelK ρ S H fs gs) (h' : RelK ρ S H fs' gs') : RelK ρ S H (fs ++ fs') (gs ++ gs') := by
  refine ⟨by simp [h.1, h'.1], ?_⟩
  have q : RelDs ρ S H (fs.map (·.2)) (gs.map (·.2)) := ⟨by simpa using h.length, h.2⟩
  have q' : RelDs ρ S H (fs'.map (·.2)) (gs'.map (·.2)) := ⟨by simpa using h'.length, h'.2⟩
  rw [List.map_append, List.map_append]
  exact (q.append q').2
theorem RelK.upd {k : Key} {y : D} {v : V} (hy : RelD ρ S H y v) : ∀ {fs : List (Key × D)} {gs : List (Key × V)}, RelK ρ S H fs gs → RelK ρ S H (fs.map fun kv => if kv.1 = k then (kv.1, y) else kv) (gs.map fun kv => if kv.1 = k then (kv.1, v) else kv)
  | [], gs, h => by
    have : gs = [] := by
      have := h.length
      cases gs with
      | nil => rfl
      | cons _ _ => simp at this
    subst this
    exact RelK.nil
  | (g, d) :: fs, gs, h => by
    obtain ⟨w, gs, rfl, q, t⟩ := h.uncons
    rw [List.map_cons, List.map_cons]
    by_cases e : g = k
    · simp only [e, if_true]; exact RelK.cons hy (RelK.upd hy t)
    · simp only [e, if_false]; exact RelK.cons q (RelK.upd hy t)
theorem RelK.put {k : Key} {y : D} {v : V} (hy : RelD ρ S H y v) {fs : List (Key × D)} {gs : List (Key × V)} (h : RelK ρ S H fs gs) : RelK ρ S H (putD fs k y) (putK gs k v) := by
  unfold putD putK
  rw [h.anyk]
  split
  · exact RelK.upd hy h
  · exact h.append (RelK.cons hy RelK.nil)
def keyD : D → Option Key
  | .int i => some (.inl i)
  | .str x => some (.inr x)
  | _ => none
theorem keyD_rel {d : D} {v : V} {k : Key} (h : RelD ρ S H d v) (e : keyD d = some k) : v = kV k := by
  cases h with
  | int i => cases e; rfl
  | str x => cases e; rfl
  | _ => cases e
end
section
variable {X : Cx} {E : XK}
theorem pms_fld {C : Addr} {f : Str} {o value : Expr} {mo mv : Exp} {pos pos' : Pos} (c : Cls X.K C) (n : NoAttr X.K C f) (ho : PM X E o mo) (hv : PM X E value mv) (hs : swapsWith value (some (.Attribute o f pos')) pos.line X.env = pure false := by rfl) :
    PMS X E (.Assign [.Attribute o f pos'] value pos) (sFld C f mo mv) := by
  refine ⟨fun pins s σ H Dn I t => (ps_fld ho hv hs).run pins s σ H Dn I ?_⟩
  obtain ⟨ρ, S, en, rr, re, p⟩ := t
  refine ⟨ρ, S, en, rr, re, PostG.mono (PostS.bind (RR := RelD) p) ?_⟩
  rintro y H1 ⟨dy, ρ1, S1, _, e1, r1, q1, p1⟩
  refine ⟨ρ1, S1, en, r1, re.mono e1, PostG.mono (PostS.bind (RR := RelD) p1) ?_⟩
  rintro x H2 ⟨d, ρ2, S2, _, e2, r2, q2, p2⟩
  cases q2 with
  | @ref i a ha =>
    dsimp only at p2
    split at p2
    · rename_i C' fs hS
      split at p2
      · rename_i hC
        obtain ⟨rfl, hl⟩ := hC
        obtain ⟨dx, gs, hH, rk⟩ := r2.cell i a _ ha hS
        have nd : Cell.ins C' fs ≠ .dead := by intro z; cases z
        have nd' : Cell.ins C' (putFD f dy fs) ≠ .dead := by intro z; cases z
        have e3 : Ext ρ2 S2 H2 ρ2 (S2.set i (.ins C' (putFD f dy fs))) (upd H2 a (.ins C' dx (putF f y gs))) := Ext.write r2 ha hS nd nd'
        have r3 : Rel ρ2 (upd H2 a (.ins C' dx (putF f y gs))) (S2.set i (.ins C' (putFD f dy fs))) :=
          r2.write ha hS nd nd' ⟨dx, _, upd_same, RelK.putF ((q1.mono e2).mono e3) (rk.mono e3)⟩
        exact ⟨a, C', dx, gs, rfl, hH, c, n, by rw [← rk.length]; omega, p2 σ _ ρ2 e3 r3 (((re.mono e1).mono e2).mono e3)⟩
      · exact p2.elim
    · exact p2.elim
  | _ => exact p2.elim
def sSetL (o i v : Exp) : Stm := fun en S => (v en S).thenS fun y S1 => (o en S1).thenS fun x S2 => (i en S2).thenS fun k S3 => match x, k with
  | .ref a, .int k => match S3[a]? with
    | some (.lst ds) => match ixN ds.length k with
      | some j => .nx en (S3.set a (.lst (ds.set j y)))
      | none => .stuck
    | _ => .stuck
  | _, _ => .stuck
theorem pms_setL {o i value : Expr} {mo mi mv : Exp} {pos pos' : Pos} (hp : PS X (.Assign [.Subscript o i pos'] value pos) (tAsg (tM X.K E mv) (gSub (tM X.K E mo) (tM X.K E mi) rSetL))) : PMS X E (.Assign [.Subscript o i pos'] value pos) (sSetL mo mi mv) := by
  refine ⟨fun pins s σ H Dn I t => hp.run pins s σ H Dn I ?_⟩
  obtain ⟨ρ, S, en, rr, re, p⟩ := t
  refine ⟨ρ, S, en, rr, re, PostG.mono (PostS.bind (RR := RelD) p) ?_⟩
  rintro y H1 ⟨dy, ρ1, S1, _, e1, r1, q1, p1⟩
  refine ⟨ρ1, S1, en, r1, re.mono e1, PostG.mono (PostS.bind (RR := RelD) p1) ?_⟩
  rintro x H2 ⟨d, ρ2, S2, _, e2, r2, q2, p2⟩
  refine ⟨ρ2, S2, en, r2, (re.mono e1).mono e2, PostG.mono (PostS.bind (RR := RelD) p2) ?_⟩
  rintro z H3 ⟨dz, ρ3, S3, _, e3, r3, q3, p3⟩
  have q2 := q2.mono e3
  cases q2 with
  | @ref n a ha =>
    cases q3 with
    | int k =>
      dsimp only at p3
      split at p3
      · rename_i ds hS
        split at p3
        · rename_i j hj
          obtain ⟨vs, hH, rk⟩ := r3.cell n a _ ha hS
          have nd : Cell.lst ds ≠ .dead := by intro z; cases z
          have nd' : Cell.lst (ds.set j dy) ≠ .dead := by intro z; cases z
          have e4 : Ext ρ3 S3 H3 ρ3 (S3.set n (.lst (ds.set j dy))) (upd H3 a (.lst (vs.set j y))) := Ext.write r3 ha hS nd nd'
          exact ⟨a, vs, k, j, rfl, rfl, hH, by rw [← rk.1]; exact hj, p3 σ _ ρ3 e4 (r3.write ha hS nd nd' ⟨_, upd_same, (rk.mono e4).set (((q1.mono e2).mono e3).mono e4) j⟩) ((((re.mono e1).mono e2).mono e3).mono e4)⟩
        · exact p3.elim
      · exact p3.elim
    | _ => exact p3.elim
  | _ => cases q3 <;> exact p3.elim
def sSetD (o i v : Exp) : Stm := fun en S => (v en S).thenS fun y S1 => (o en S1).thenS fun x S2 => (i en S2).thenS fun k S3 => match x, keyD k with
  | .ref a, some k => match S3[a]? with
    | some (.dct ds) => if ds.length < 100000 then .nx en (S3.set a (.dct (putD ds k y))) else .stuck
    | _ => .stuck
  | _, _ => .stuck
theorem pms_setD {o i value : Expr} {mo mi mv : Exp} {pos pos' : Pos} {k : Nat} (c : Ctx X E k) (ho : PM X E o mo) (hi : PM X E i mi) (hv : PM X E value mv) (hs : swapsWith value (some (.Subscript o i pos')) pos.line X.env = pure false := by rfl) :
    PMS X E (.Assign [.Subscript o i pos'] value pos) (sSetD mo mi mv) := by
  have hp := ps_dput c.hu1 ho hi hv hs
  refine ⟨fun pins s σ H Dn I t => hp.run pins s σ H Dn I ?_⟩
  obtain ⟨ρ, S, en, rr, re, p⟩ := t
  refine ⟨ρ, S, en, rr, re, PostG.mono (PostS.bind (RR := RelD) p) ?_⟩
  rintro y H1 ⟨dy, ρ1, S1, _, e1, r1, q1, p1⟩
  refine ⟨ρ1, S1, en, r1, re.mono e1, PostG.mono (PostS.bind (RR := RelD) p1) ?_⟩
  rintro x H2 ⟨d, ρ2, S2, _, e2, r2, q2, p2⟩
  refine ⟨ρ2, S2, en, r2, (re.mono e1).mono e2, PostG.mono (PostS.bind (RR := RelD) p2) ?_⟩
  rintro z H3 ⟨dz, ρ3, S3, _, e3, r3, q3, p3⟩
  have q2 := q2.mono e3
  cases q2 with
  | @ref n a ha =>
    cases hk : keyD dz with
    | none => rw [hk] at p3; exact p3.elim
    | some kk =>
      rw [hk] at p3
      dsimp only at p3
      have hz := keyD_rel q3 hk
      split at p3
      · rename_i ds hS
        split at p3
        · rename_i hl
          obtain ⟨vs, hH, rk⟩ := r3.cell n a _ ha hS
          have nd : Cell.dct ds ≠ .dead := by intro z; cases z
          have nd' : Cell.dct (putD ds kk dy) ≠ .dead := by intro z; cases z
          have e4 : Ext ρ3 S3 H3 ρ3 (S3.set n (.dct (putD ds kk dy))) (upd H3 a (.dK (putK vs kk y))) := Ext.write r3 ha hS nd nd'
          exact ⟨a, _, rfl, by rw [hz]; exact DPut.k hH (sz_lt (by rw [← rk.length]; exact hl)), p3 σ _ ρ3 e4 (r3.write ha hS nd nd' ⟨_, upd_same, (rk.mono e4).put (((q1.mono e2).mono e3).mono e4)⟩) ((((re.mono e1).mono e2).mono e3).mono e4)⟩
        · exact p3.elim
      · exact p3.elim
  | _ => exact p3.elim
end
end SF

/-! Rules: loops, comprehensions, the closing of cells, defs. -/
namespace SF
open PySem L2

/-! ### what is walked -/
structure WkOk (J : It) (ic : List D × (Sto → Prop)) (ρ : Rho K) (S : Sto) (H : Hp) : Prop where
  here : ic.2 S
  wk : ∃ (G : Hp → Prop) (Y : Nat → Hp → V → Hp → Prop), Walk J ic.1.length G Y ∧ (∀ (ρ' : Rho K) S' H', Ext0 ρ S H ρ' S' H' → Rel ρ' H' S' → ic.2 S' → G H') ∧
    ∀ (i : Nat) d (ρ' : Rho K) S' H' x H'', ic.1[i]? = some d → Ext0 ρ S H ρ' S' H' → Rel ρ' H' S' → ic.2 S' → Y i H' x H'' → Ext ρ' S' H' ρ' S' H'' ∧ Rel ρ' H'' S' ∧ RelD ρ' S' H'' d x
abbrev Itm := En → Sto → R (List D × (Sto → Prop))
def RelI (ρ : Rho K) (S : Sto) (H : Hp) (ic : List D × (Sto → Prop)) (J : It) : Prop := WkOk J ic ρ S H
def tMI (K : PySem.W.Frag) (E : XK) (m : Itm) : TI := fun σ H Rr => ∃ (ρ : Rho K) (S : Sto) (en : En), Rel ρ H S ∧ RelE ρ S H en σ ∧ PostG RelI (m en S) ρ S H Rr E
def PMI (X : Cx) (E : XK) (tg iter : Expr) (m : Itm) : Prop := PI X tg iter (tMI X.K E m)

open Classical in
noncomputable def forL (g : Tgt) (b : Stm) (chk : Sto → Prop) : List D → Stm
  | [], en, S => .nx en S
  | d :: r, en, S => match g d en with
    | none => .stuck
    | some en1 => match b en1 S with
      | .nx en2 S2 => if chk S2 then forL g b chk r en2 S2 else .stuck
      | .rt d S2 => .rt d S2
      | .exc x S2 => .exc x S2
      | .stuck => .stuck
noncomputable def sFor (it : Itm) (g : Tgt) (b : Stm) : Stm := fun en S => (it en S).thenS fun ic S1 => forL g b ic.2 ic.1 en S1
section
variable {X : Cx} {E : XK}
theorem tFor_of {it : Itm} {t : TG} {g : Tgt} {ws : List Nat} {b : Stm} (hg : GM K t g ws) {Dn : Ends} {σ : L2.St} {H : Hp} (h : tMS K E (sFor it g b) Dn σ H) : tFor (tMI K E it) t (tMS K E b) Dn σ H := by
  obtain ⟨ρ, S, en, rr, re, p⟩ := h
  refine ⟨ρ, S, en, rr, re, PostG.mono (PostS.bind (RR := RelI) p) ?_⟩
  rintro J H1 ⟨ic, ρ1, S1, _, e1, r1, q1, p1⟩
  obtain ⟨items, chk⟩ := ic
  obtain ⟨G, Y, wk, keep, yld⟩ := q1.wk
  refine for_it wk (fun i σ' H' => ∃ (ρ' : Rho K) (S' : Sto) (en' : En), Rel ρ' H' S' ∧ RelE ρ' S' H' en' σ' ∧ Ext ρ1 S1 H1 ρ' S' H' ∧ chk S' ∧ PostS (forL g b chk (items.drop i) en' S') ρ' S' H' Dn E)
    ⟨ρ1, S1, en, r1, re.mono e1, Ext.refl _ _ _, q1.here, p1⟩ ?_ ?_ ?_
  · rintro i σ' H' hi ⟨ρ', S', en', a1, a2, a3, a4, a5⟩
    exact keep ρ' S' H' a3.toExt0 a1 a4
  · rintro i x σ' H' H'' hi ⟨ρ', S', en', a1, a2, a3, a4, a5⟩ hy
    have hd : items[i]? = some items[i] := List.getElem?_eq_getElem hi
    obtain ⟨x1, x2, x3⟩ := yld i items[i] ρ' S' H' x H'' hd a3.toExt0 a1 a4 hy
    rw [List.drop_eq_getElem_cons hi] at a5
    unfold forL at a5
    split at a5
    · exact a5.elim
    · rename_i en1 hg1
      refine hg ρ' S' H'' items[i] x en' en1 σ' _ x2 x3 (a2.mono x1) hg1 fun σ2 re2 _ => ?_
      refine ⟨ρ', S', en1, x2, re2, ?_⟩
      have a5 := PostS.ext a5 x1
      cases hb : b en1 S' with
      | nx en2 S2 =>
        rw [hb] at a5
        dsimp only at a5
        split at a5
        · rename_i hc
          exact fun σ3 H3 ρ3 y1 y2 y3 => ⟨ρ3, S2, en2, y2, y3, (a3.trans x1).trans y1, hc, PostS.ext a5 y1⟩
        · exact a5.elim
      | rt d S2 => rw [hb] at a5; exact a5
      | exc d S2 => rw [hb] at a5; exact a5
      | stuck => rw [hb] at a5; exact a5.elim
  · rintro σ' H' ⟨ρ', S', en', a1, a2, a3, a4, a5⟩
    rw [List.drop_length] at a5
    exact tMS_nx a5 a1 a2
theorem pms_for {k : Nat} {tg iter : Expr} {body : List Stmt} {it : Itm} {t : TG} {g : Tgt} {ws : List Nat} {b : Stm} {pos : Pos} (c : Ctx X E k) (hi : PMI X E tg iter it) (ht : PG X tg t) (hg : GM X.K t g ws) (hb : PMSs X E body b)
    (hs : ∀ x, foldedSetIterable iter X.env x = pure x := by intro _; rfl) : PMS X E (.For tg iter body [] pos) (sFor it g b) :=
  ⟨fun pins s σ H Dn I h => (ps_for c.own c.calm hi ht hb hs).run pins s σ H Dn I (tFor_of hg h)⟩

/-! ### while -/
def whileL (c : Tst) (b : Stm) : Nat → Stm
  | 0, _, _ => .stuck
  | n + 1, en, S => (c en S).thenS fun x S1 => match x with
    | true => (b en S1).andThen (whileL c b n)
    | false => .nx en S1
theorem pms_while {k n : Nat} {c : Expr} {body : List Stmt} {mc : Tst} {b : Stm} {pos : Pos} (cx : Ctx X E k) (hc : PMT X E c mc) (hb : PMSs X E body b) : PMS X E (.While c body [] pos) (whileL mc b n) := by
  refine ⟨fun pins s σ H Dn I h => (ps_while cx.own hc hb).run pins s σ H Dn I ?_⟩
  refine ⟨fun m σ H => tMS X.K E (whileL mc b m) Dn σ H, ⟨n, h⟩, ?_⟩
  rintro m σ1 H1 ⟨ρ, S, en, rr, re, p⟩
  cases m with
  | zero => exact p.elim
  | succ m =>
    refine ⟨ρ, S, en, rr, re, PostG.mono (PostS.bind (RR := RelB) p) ?_⟩
    rintro x H2 ⟨d, ρ1, S1, _, e1, r1, rfl, p1⟩
    cases d with
    | true =>
      rw [if_pos rfl]
      exact ⟨tMS X.K E (whileL mc b m) Dn, fun σ' H' h => ⟨m, Nat.lt_succ_self m, h⟩, ρ1, S1, en, r1, re.mono e1, by
        have := PostS.seq p1
        cases hb' : b en S1 with
        | nx en2 S2 => rw [hb'] at this; exact this
        | rt d S2 => rw [hb'] at this; exact this
        | exc d S2 => rw [hb'] at this; exact this
        | stuck => rw [hb'] at this; exact this.elim⟩
    | false =>
      rw [if_neg Bool.false_ne_true]
      exact tMS_nx p1 r1 (re.mono e1)

/-! ### comprehensions -/
def wipeE (en : En) : List Nat → En
  | [] => en
  | v :: vs => (wipeE en vs).set v none
theorem wipeE_length (en : En) : ∀ vs, (wipeE en vs).length = en.length
  | [] => rfl
  | v :: vs => by unfold wipeE; rw [List.length_set, wipeE_length en vs]
theorem RelE.wipe {ρ : Rho K} {S : Sto} {H : Hp} {en : En} {σ : L2.St} (r : RelE ρ S H en σ) : ∀ vs, RelE ρ S H (wipeE en vs) (L2.wipe σ vs)
  | [] => r
  | v :: vs => by
    have ih := RelE.wipe r vs
    refine ⟨by unfold wipeE L2.wipe; rw [List.length_set, List.length_set]; exact ih.1, fun i d e => ?_⟩
    unfold wipeE at e
    unfold L2.wipe
    by_cases q : v = i
    · subst q
      rw [List.getElem?_set] at e
      simp only [if_true] at e
      split at e <;> cases e
    · rw [List.getElem?_set_ne q] at e
      rw [List.getElem?_set_ne q]
      exact ih.2 i d e
end
end SF

/-! Rules: comprehensions, the closing of cells, defs. -/
namespace SF
open PySem L2
def R.nox {α : Type} (r : R α) : R α := match r with
  | .ok a S => .ok a S
  | _ => .stuck
@[simp] theorem R.nox_ok {α : Type} (a : α) (S : Sto) : (R.ok a S).nox = .ok a S := rfl
@[simp] theorem R.nox_stuck {α : Type} : (R.stuck : R α).nox = .stuck := rfl
@[simp] theorem R.nox_exc {α : Type} (x : Exn) (S : Sto) : (R.exc x S : R α).nox = .stuck := rfl
/-- the test and the element, item by item -/
noncomputable def lcM (g : Tgt) (c : Tst) (e : Exp) (chk : Sto → Prop) (en : En) : List D → Sto → R (List D)
  | [], S => .ok [] S
  | d :: r, S => match g d en with
    | none => .stuck
    | some en1 => (c en1 S).nox.bind fun x S1 => match x with
      | true => (e en1 S1).nox.bind fun y S2 => (open Classical in if chk S2 then (lcM g c e chk en r S2).bind fun ys S3 => .ok (y :: ys) S3 else .stuck)
      | false => (open Classical in if chk S1 then lcM g c e chk en r S1 else .stuck)
def tYs : Tst := fun _ S => .ok true S
noncomputable def eLc (it : Itm) (g : Tgt) (c : Tst) (e : Exp) (vs : List Nat) : Exp := fun en S => (it en S).bind fun ic S1 =>
  if ic.1.length ≤ 50000 then (lcM g c e ic.2 (wipeE en vs) ic.1 S1).bind fun ys S2 => .ok (.lst ys) S2 else .stuck
noncomputable def eLcN (it : Itm) (g : Tgt) (c : Tst) (e : Exp) (vs : List Nat) : Exp := fun en S => (it en S).bind fun ic S1 =>
  if ic.1.length ≤ 50000 then (lcM g c e ic.2 (wipeE en vs) ic.1 S1).bind fun ys S2 => .ok (.ref S2.length) (S2 ++ [.lst ys]) else .stuck
theorem R.bind_bind {α β γ : Type} (r : R α) (f : α → Sto → R β) (g : β → Sto → R γ) : (r.bind f).bind g = r.bind fun a S => (f a S).bind g := by cases r <;> rfl
theorem RelE.mono0 {ρ ρ' : Rho K} {S S' : Sto} {H H' : Hp} {en : En} {σ : L2.St} (e : Ext0 ρ S H ρ' S' H') (r : RelE ρ S H en σ) : RelE ρ' S' H' en σ := ⟨r.1, fun i d h => let ⟨v, a, b⟩ := r.2 i d h; ⟨v, a, b.mono0 e⟩⟩
section
variable {X : Cx} {E : XK}
/-- both forms of the end: k tells what the finished list is -/
theorem tLc_of {it : Itm} {t : TG} {g : Tgt} {ws vs : List Nat} {c : Tst} {e : Exp} (hg : GM K t g ws) (hv : ∀ w ∈ ws, w ∈ vs) (k : List D → Sto → R D)
    (hk : ∀ (ρ1 ρ' : Rho K) (S' : Sto) (H1 H' : Hp) (p : Addr) (acc : List D) (vs : List V) (Q : VK) (S1 : Sto), Rel ρ' H' S' → p ∈ ρ'.prot → ρ'.prot = p :: ρ1.prot → H1 p = none → Rel ρ1 H1 S1 → H' p = some (.lst vs) → RelDs ρ' S' H' acc vs → Ext0 ρ1 S1 H1 ρ' S' H' → (∀ a ∈ ρ1.prot, H' a = H1 a) → Post (k acc S') ρ1 S1 H1 Q E → Q (.ref p) H')
    {σ : L2.St} {H : Hp} {Q : VK}
    (h : tM K E (fun en S => (it en S).bind fun ic S1 => if ic.1.length ≤ 50000 then (lcM g c e ic.2 (wipeE en vs) ic.1 S1).bind k else .stuck) σ H Q) : tLc (tMI K E it) t (tMT K E0 c) (tM K E0 e) vs σ H Q := by
  obtain ⟨ρ, S, en, rr, re, p⟩ := h
  refine ⟨ρ, S, en, rr, re, PostG.mono (PostG.bind (RR := RelI) p) ?_⟩
  rintro J H1 ⟨ic, ρ1, S1, _, e1, r1, q1, p1⟩
  obtain ⟨items, chk⟩ := ic
  obtain ⟨G, Y, wk, keep, yld⟩ := q1.wk
  split at p1
  case isFalse => exact p1.elim
  rename_i hlen
  intro Dl hD
  have re1 := re.mono e1
  refine lc_it wk (fun i H' => ∃ (ρ' : Rho K) (S' : Sto) (acc : List D) (accV : List V), Rel ρ' H' S' ∧ ρ'.prot = Dl :: ρ1.prot ∧ H' Dl = some (.lst accV) ∧ RelDs ρ' S' H' acc accV ∧ Ext0 ρ1 S1 H1 ρ' S' H' ∧ (∀ a ∈ ρ1.prot, H' a = H1 a) ∧ chk S' ∧ acc.length ≤ i ∧
      Post ((lcM g c e chk (wipeE en vs) (items.drop i) S').bind fun ys S2 => k (acc ++ ys) S2) ρ1 S1 H1 Q E)
    ⟨ρ1.guard Dl, S1, [], [], r1.guard hD, rfl, upd_same, RelDs.nil, Ext0.guard r1 hD, fun a ha => upd_ne fun z => r1.noprot hD (z ▸ ha), q1.here, Nat.le_refl _, p1⟩ ?_ ?_ ?_
  · rintro i H' hi ⟨ρ', S', acc, accV, a1, a2, a3, a4, a5, a6, a7, a8, a9⟩
    exact keep ρ' S' H' a5 a1 a7
  · rintro i x H' H'' hi ⟨ρ', S', acc, accV, a1, a2, a3, a4, a5, a6, a7, a8, a9⟩ hy
    have hd : items[i]? = some items[i] := List.getElem?_eq_getElem hi
    obtain ⟨x1, x2, x3⟩ := yld i items[i] ρ' S' H' x H'' hd a5 a1 a7 hy
    rw [List.drop_eq_getElem_cons hi] at a9
    unfold lcM at a9
    have hpD : Dl ∈ ρ'.prot := by rw [a2]; exact List.mem_cons_self
    split at a9
    · exact a9.elim
    · rename_i en1 hg1
      refine hg ρ' S' H'' items[i] x _ en1 _ _ x2 x3 (((re1.wipe vs).mono0 a5).mono x1) hg1 fun σ2 re2 hw => ⟨?_, ?_⟩
      · have := hw vs hv
        rw [wipe_wipe] at this
        exact this
      refine ⟨ρ', S', en1, x2, re2, ?_⟩
      rw [R.bind_bind] at a9
      cases hc : c en1 S' with
      | stuck => rw [hc] at a9; exact a9.elim
      | exc x S2 => rw [hc] at a9; exact a9.elim
      | ok b S2 =>
        rw [hc] at a9
        intro b' H2 ρ2 y1 y2 y3
        cases y3
        cases b with
        | true =>
          rw [if_pos rfl]
          refine ⟨ρ2, S2, en1, y2, re2.mono y1, ?_⟩
          dsimp only [R.nox_ok, R.bind_ok] at a9
          rw [R.bind_bind] at a9
          cases he : e en1 S2 with
          | stuck => rw [he] at a9; exact a9.elim
          | exc x S3 => rw [he] at a9; exact a9.elim
          | ok y S3 =>
            rw [he] at a9
            dsimp only [R.nox_ok, R.bind_ok] at a9
            intro v H3 ρ3 z1 z2 z3
            split at a9
            · rename_i hchk
              rw [R.bind_bind] at a9
              have ex := (x1.trans y1).trans z1
              have hpD3 : Dl ∈ ρ3.prot := by rw [ex.prot]; exact hpD
              have hDl : H3 Dl = some (.lst accV) := by rw [ex.pk Dl hpD]; exact a3
              have gr : Ext0 ρ3 S3 H3 ρ3 S3 (upd H3 Dl (.lst (accV ++ [v]))) := Ext0.grow hpD3
              refine ⟨accV, hDl, sz_lt ?_, ρ3, S3, acc ++ [y], accV ++ [v], z2.grow hpD3, ex.prot.trans a2, upd_same, ((a4.mono ex).append (RelDs.cons z3 RelDs.nil)).mono0 gr, (a5.trans ex.toExt0).trans gr, fun a ha => ?_, hchk, ?_, ?_⟩
              · have := a4.1; omega
              · have hne : a ≠ Dl := fun z => r1.noprot hD (z ▸ ha)
                rw [upd_ne hne, ex.pk a (by rw [a2]; exact List.mem_cons_of_mem _ ha)]
                exact a6 a ha
              · simp; omega
              · have e9 : ∀ ys, (acc ++ [y]) ++ ys = acc ++ (y :: ys) := fun ys => by simp
                simp only [e9]
                exact a9
            · exact a9.elim
        | false =>
          rw [if_neg Bool.false_ne_true]
          dsimp only [R.nox_ok, R.bind_ok] at a9
          split at a9
          · rename_i hchk
            have ex := x1.trans y1
            exact ⟨ρ2, S2, acc, accV, y2, ex.prot.trans a2, by rw [ex.pk Dl hpD]; exact a3, a4.mono ex, a5.trans ex.toExt0, fun a ha => by
              rw [ex.pk a (by rw [a2]; exact List.mem_cons_of_mem _ ha)]; exact a6 a ha, hchk, by omega, a9⟩
          · exact a9.elim
  · rintro H' ⟨ρ', S', acc, accV, a1, a2, a3, a4, a5, a6, a7, a8, a9⟩
    rw [List.drop_length] at a9
    have a9 : Post (k (acc ++ []) S') ρ1 S1 H1 Q E := a9
    rw [List.append_nil] at a9
    exact hk ρ1 ρ' S' H1 H' Dl acc accV Q S1 a1 (by rw [a2]; exact List.mem_cons_self) a2 hD r1 a3 a4 a5 a6 a9
theorem tLcV {it : Itm} {t : TG} {g : Tgt} {ws vs : List Nat} {c : Tst} {e : Exp} (hg : GM K t g ws) (hv : ∀ w ∈ ws, w ∈ vs) {σ : L2.St} {H : Hp} {Q : VK} (h : tM K E (eLc it g c e vs) σ H Q) : tLc (tMI K E it) t (tMT K E0 c) (tM K E0 e) vs σ H Q := by
  refine tLc_of hg hv _ (fun ρ1 ρ' S' H1 H' p acc vs Q S1 a1 ap a2 hD r1 a3 a4 a5 a6 a9 => ?_) h
  have hpr : ∀ a ∈ ρ1.prot, a ∈ ρ'.prot := fun a ha => by rw [a2]; exact List.mem_cons_of_mem _ ha
  have np : ¬ live (⟨ρ'.own, ρ1.prot⟩ : Rho K) S' p := fun l => l.elim (r1.noprot hD) fun ⟨i, _, e, _, _⟩ => a1.apart i p e ap
  exact a9 _ _ ⟨ρ'.own, ρ1.prot⟩ ⟨a5.trans (Ext0.leave hpr), rfl, a6⟩ (a1.leave hpr) (.lst a3 np a4.1 (a4.mono0 (Ext0.leave hpr)).2)
theorem tLcN {it : Itm} {t : TG} {g : Tgt} {ws vs : List Nat} {c : Tst} {e : Exp} (hg : GM K t g ws) (hv : ∀ w ∈ ws, w ∈ vs) {σ : L2.St} {H : Hp} {Q : VK} (h : tM K E (eLcN it g c e vs) σ H Q) : tLc (tMI K E it) t (tMT K E0 c) (tM K E0 e) vs σ H Q := by
  refine tLc_of hg hv _ (fun ρ1 ρ' S' H1 H' p acc vs Q S1 a1 ap a2 hD r1 a3 a4 a5 a6 a9 => ?_) h
  have hpr : ∀ a ∈ ρ1.prot, a ∈ ρ'.prot := fun a ha => by rw [a2]; exact List.mem_cons_of_mem _ ha
  have ad : Ext0 ρ' S' H' (⟨ρ'.own ++ [p], ρ1.prot⟩ : Rho K) (S' ++ [.lst acc]) H' := Ext0.adopt a1 ap hpr
  have r2 : Rel (⟨ρ'.own ++ [p], ρ1.prot⟩ : Rho K) H' (S' ++ [.lst acc]) := a1.new' (fun i e => a1.apart i p e ap) hpr (r1.noprot hD) a3 ad (fun _ _ e => e) ⟨vs, a3, a4.mono0 ad⟩
  exact a9 _ _ (⟨ρ'.own ++ [p], ρ1.prot⟩ : Rho K) ⟨a5.trans ad, rfl, a6⟩ r2 (.ref (by rw [← a1.len]; simp))
end
end SF

/-! Comprehension rules by judgement; the closing of cells; what a block leaves behind; defs. -/
namespace SF
open PySem L2
section
variable {X : Cx} {E : XK}
def PMTs (X : Cx) (E : XK) (ifs : List Expr) (m : Tst) : Prop := PTs X ifs (tMT X.K E m)
theorem pmts_nil : PMTs X E [] tYs := by
  refine ⟨fun pins s σ H Q I t => pts_nil.run pins s σ H Q I ?_⟩
  obtain ⟨ρ, S, en, rr, re, p⟩ := t
  exact PostG.ok p rr rfl
theorem pmts_one {c : Expr} {m : Tst} (h : PMT X E c m) : PMTs X E [c] m := pts_one h
theorem pm_lc {k : Nat} {elt tg iter : Expr} {ifs : List Expr} {scope : Scope} {own : List (Str × Nat)} {pos : Pos} {it : Itm} {t : TG} {g : Tgt} {ws : List Nat} {mc : Tst} {me : Exp} (c : Ctx X E k) (hi : PMI X E tg iter it) (ok : BlkOk X.N X.env.scope scope own)
    (hG : ∀ (s : Shared) (H : Hp) (C : Addr) (cl : List (Str × Addr)) (fp : List Addr), PG (X.blk s H scope (compEnvC scope cl C X.env) fp) tg t) (hg : GM X.K t g ws) (hv : ∀ w ∈ ws, w ∈ own.map (·.2))
    (ht : ∀ (s : Shared) (H : Hp) (C : Addr) (cl : List (Str × Addr)) (fp : List Addr), PMTs (X.blk s H scope (compEnvC scope cl C X.env) fp) E0 ifs mc)
    (he : ∀ (s : Shared) (H : Hp) (C : Addr) (cl : List (Str × Addr)) (fp : List Addr), PM (X.blk s H scope (compEnvC scope cl C X.env) fp) E0 elt me) (hs : ∀ x, foldedSetIterable iter X.env x = pure x := by intro _; rfl) :
    PM X E (.ListComp elt [⟨tg, iter, ifs, 0⟩] scope pos) (eLc it g mc me (own.map (·.2))) :=
  ⟨fun pins s σ H Q I h => (pe_lc (tt := tMT X.K E0 mc) (te := tM X.K E0 me) c.calm c.nd hi ok hG ht he hs).run pins s σ H Q I (tLcV hg hv h)⟩
theorem pm_lcN {k : Nat} {elt tg iter : Expr} {ifs : List Expr} {scope : Scope} {own : List (Str × Nat)} {pos : Pos} {it : Itm} {t : TG} {g : Tgt} {ws : List Nat} {mc : Tst} {me : Exp} (c : Ctx X E k) (hi : PMI X E tg iter it) (ok : BlkOk X.N X.env.scope scope own)
    (hG : ∀ (s : Shared) (H : Hp) (C : Addr) (cl : List (Str × Addr)) (fp : List Addr), PG (X.blk s H scope (compEnvC scope cl C X.env) fp) tg t) (hg : GM X.K t g ws) (hv : ∀ w ∈ ws, w ∈ own.map (·.2))
    (ht : ∀ (s : Shared) (H : Hp) (C : Addr) (cl : List (Str × Addr)) (fp : List Addr), PMTs (X.blk s H scope (compEnvC scope cl C X.env) fp) E0 ifs mc)
    (he : ∀ (s : Shared) (H : Hp) (C : Addr) (cl : List (Str × Addr)) (fp : List Addr), PM (X.blk s H scope (compEnvC scope cl C X.env) fp) E0 elt me) (hs : ∀ x, foldedSetIterable iter X.env x = pure x := by intro _; rfl) :
    PM X E (.ListComp elt [⟨tg, iter, ifs, 0⟩] scope pos) (eLcN it g mc me (own.map (·.2))) :=
  ⟨fun pins s σ H Q I h => (pe_lc (tt := tMT X.K E0 mc) (te := tM X.K E0 me) c.calm c.nd hi ok hG ht he hs).run pins s σ H Q I (tLcN hg hv h)⟩
/-- y = [..] -/
theorem pms_lc {tlc : TE} {m : Exp} {y : Str} {py : Pos} {e : Expr} {i : Nat} {spos : Pos} (hp : PS X (.Assign [.Name y py] e spos) (tAsg tlc (gName i))) (h : ∀ σ H Q, tM X.K E m σ H Q → tlc σ H Q) : PMS X E (.Assign [.Name y py] e spos) (sAs (gN i) m) := by
  refine ⟨fun pins s σ H Dn I t => hp.run pins s σ H Dn I (h σ H _ ?_)⟩
  obtain ⟨ρ, S, en, rr, re, p⟩ := t
  refine ⟨ρ, S, en, rr, re, PostG.mono (PostS.bind (RR := RelD) p) ?_⟩
  rintro x H1 ⟨c, ρ1, S1, _, e1, r1, q1, p1⟩
  exact tMS_nx p1 r1 ((re.mono e1).set q1 i)

/-! ### a changeable list, dict in slot i goes by value from now on -/
def sCl (i : Nat) : Stm := fun en S => match en[i]? with
  | some (some (.ref j)) => match S[j]? with
    | some (.lst ds) => .nx (en.set i (some (.lst ds))) (S.set j .dead)
    | some (.dct kvs) => .nx (en.set i (some (.dct kvs))) (S.set j .dead)
    | _ => .stuck
  | _ => .stuck
theorem close_ok {i : Nat} {ρ : Rho K} {S : Sto} {H : Hp} {en : En} {σ : L2.St} {en' : En} {S' : Sto} (r : Rel ρ H S) (re : RelE ρ S H en σ) (e : sCl i en S = .nx en' S') : Rel ρ H S' ∧ RelE ρ S' H en' σ ∧ Ext ρ S H ρ S' H := by
  unfold sCl at e
  split at e
  · rename_i j hj
    obtain ⟨v, hv, rv⟩ := re.2 i _ hj
    have set_same : ∀ (d : D) {S' : Sto}, RelD ρ S' H d v → RelE ρ S' H en σ → RelE ρ S' H (en.set i (some d)) σ := by
      intro d S' rd re'
      have h1 := re'.set rd i
      have h2 : σ.set i (some v) = σ := List.ext_getElem? fun n => by
        by_cases q : i = n
        · subst q
          rw [List.getElem?_set_self (List.getElem?_eq_some_iff.mp hv).1, hv]
        · rw [List.getElem?_set_ne q]
      rw [h2] at h1
      exact h1
    cases rv with
    | @ref _ a ha =>
      split at e
      · rename_i ds hS
        cases e
        obtain ⟨vs, hH, rk⟩ := r.cell j a _ ha hS
        have cl : Ext ρ S H ρ (S.set j .dead) H := Ext.close
        exact ⟨r.close fun b hb => ⟨_, by rw [ha] at hb; cases hb; exact hH, fun _ z => by cases z⟩, set_same _ (.lst hH (r.closed ha) rk.1 (rk.mono cl).2) (re.mono cl), cl⟩
      · rename_i kvs hS
        cases e
        obtain ⟨vs, hH, rk⟩ := r.cell j a _ ha hS
        have cl : Ext ρ S H ρ (S.set j .dead) H := Ext.close
        exact ⟨r.close fun b hb => ⟨_, by rw [ha] at hb; cases hb; exact hH, fun _ z => by cases z⟩, set_same _ (.dct (.inl hH) (r.closed ha) rk.1 (rk.mono cl).2) (re.mono cl), cl⟩
      · cases e
  · cases e
theorem pms_close {i : Nat} {sts : List Stmt} {m : Stm} (h : PMSs X E sts m) : PMSs X E sts (sSeq (sCl i) m) := by
  refine ⟨fun pins s σ H Dn I t => h.run pins s σ H Dn I ?_⟩
  obtain ⟨ρ, S, en, rr, re, p⟩ := t
  have p : PostS ((sCl i en S).andThen m) ρ S H Dn E := p
  cases hc : sCl i en S with
  | nx en' S' =>
    rw [hc] at p
    obtain ⟨r1, re1, e1⟩ := close_ok rr re hc
    exact ⟨ρ, S', en', r1, re1, PostS.ext p e1⟩
  | rt d S' =>
    unfold sCl at hc
    split at hc
    · split at hc <;> cases hc
    · cases hc
  | exc d S' =>
    unfold sCl at hc
    split at hc
    · split at hc <;> cases hc
    · cases hc
  | stuck => rw [hc] at p; exact p.elim

/-! ### what a block leaves behind: the cells that it made are dropped -/
mutual
def noRef (n : Nat) : D → Bool
  | .ref i => decide (i < n)
  | .tup ds => noRefs n ds
  | .xtup ds => noRefs n ds
  | .lst ds => noRefs n ds
  | .dct kvs => noRefK n kvs
  | _ => true
def noRefs (n : Nat) : List D → Bool
  | [] => true
  | d :: r => noRef n d && noRefs n r
def noRefK (n : Nat) : List (Key × D) → Bool
  | [] => true
  | (_, d) :: r => noRef n d && noRefK n r
end
theorem noRefs_all {n : Nat} : ∀ {ds : List D}, noRefs n ds = ds.all (noRef n)
  | [] => by simp [noRefs]
  | d :: r => by rw [noRefs, List.all_cons, noRefs_all]
theorem noRefK_all {n : Nat} : ∀ {ds : List (Key × D)}, noRefK n ds = ds.all fun kv => noRef n kv.2
  | [] => by simp [noRefK]
  | (_, d) :: r => by rw [noRefK, List.all_cons, noRefK_all]
def noRefC (n : Nat) : Cell → Bool
  | .dead => true
  | .lst ds => ds.all (noRef n)
  | .dct kvs => kvs.all fun kv => noRef n kv.2
  | .ins _ fs => fs.all fun kv => noRef n kv.2
  | .tab _ _ => true
/-- S' is S with cells changed and cells behind, no old cell tells of those -/
def Good (S S' : Sto) : Prop := S.length ≤ S'.length ∧ ∀ (i : Nat) c, i < S.length → S'[i]? = some c → S[i]? = some c ∨ noRefC S.length c = true
section
variable {ρ ρ' : Rho K} {S S' : Sto} {H H' : Hp}
def Rho.cut (ρ : Rho K) (n : Nat) : Rho K := ⟨ρ.own.take n, ρ.prot⟩
theorem live_cut {n : Nat} {a : Addr} (h : live (ρ.cut n) (S.take n) a) : live ρ S a := by
  rcases h with h | ⟨i, c, e1, e2, m⟩
  · exact .inl h
  · have e1 : (ρ.own.take n)[i]? = some a := e1
    by_cases hi : i < n
    · rw [List.getElem?_take_of_lt hi] at e1 e2
      exact .inr ⟨i, c, e1, e2, m⟩
    · rw [List.getElem?_take_eq_none (by omega)] at e1
      cases e1
theorem RelD.cut {n : Nat} {d : D} {v : V} (h : RelD ρ S H d v) (hn : noRef n d = true) : RelD (ρ.cut n) (S.take n) H d v := by
  induction h with
  | non => exact .non
  | bl b => exact .bl b
  | int i => exact .int i
  | str x => exact .str x
  | scr h => exact .scr (h.imp (fun z => ⟨z.1, fun q => z.2 (live_cut q)⟩) id)
  | @tup ds vs a h m l _ ih =>
    have hn : ∀ d ∈ ds, noRef n d = true := by
      have : noRefs n ds = true := by simpa [noRef] using hn
      rw [noRefs_all] at this
      exact List.all_eq_true.mp this
    exact .tup h (fun q => m (live_cut q)) l fun i d v e1 e2 => ih i d v e1 e2 (hn d (List.mem_of_getElem? e1))
  | @xtup ds vs a o h x m l _ ih =>
    have hn : ∀ d ∈ ds, noRef n d = true := by
      have : noRefs n ds = true := by simpa [noRef] using hn
      rw [noRefs_all] at this
      exact List.all_eq_true.mp this
    exact .xtup h x (fun q => m (live_cut q)) l fun i d v e1 e2 => ih i d v e1 e2 (hn d (List.mem_of_getElem? e1))
  | @lst ds vs a h m l _ ih =>
    have hn : ∀ d ∈ ds, noRef n d = true := by
      have : noRefs n ds = true := by simpa [noRef] using hn
      rw [noRefs_all] at this
      exact List.all_eq_true.mp this
    exact .lst h (fun q => m (live_cut q)) l fun i d v e1 e2 => ih i d v e1 e2 (hn d (List.mem_of_getElem? e1))
  | @dct ds vs a h m l _ ih =>
    have hn : ∀ d ∈ ds, noRef n d.2 = true := by
      have : noRefK n ds = true := by simpa [noRef] using hn
      rw [noRefK_all] at this
      exact List.all_eq_true.mp this
    exact .dct h (fun q => m (live_cut q)) l fun i d v e1 e2 => ih i d v e1 e2 (by
      obtain ⟨kv, h1, h2⟩ := List.mem_map.mp (List.mem_of_getElem? e1)
      rw [← h2]; exact hn kv h1)
  | @ref i a h =>
    have hn : i < n := by simpa [noRef] using hn
    exact .ref (by show (ρ.own.take n)[i]? = some a; rw [List.getElem?_take_of_lt hn]; exact h)
  | adr a => exact .adr a
theorem RelD.noRef {d : D} {v : V} (h : RelD ρ S H d v) : SF.noRef ρ.own.length d = true := by
  induction h with
  | non => rfl
  | bl b => rfl
  | int i => rfl
  | str x => rfl
  | scr h => rfl
  | @tup ds vs a h m l _ ih =>
    show noRefs _ ds = true
    rw [noRefs_all, List.all_eq_true]
    intro d hd
    obtain ⟨i, hi⟩ := List.getElem?_of_mem hd
    have hv : i < vs.length := by rw [← l]; exact (List.getElem?_eq_some_iff.mp hi).1
    exact ih i d vs[i] hi (List.getElem?_eq_getElem hv)
  | @xtup ds vs a o h x m l _ ih =>
    show noRefs _ ds = true
    rw [noRefs_all, List.all_eq_true]
    intro d hd
    obtain ⟨i, hi⟩ := List.getElem?_of_mem hd
    have hv : i < vs.length := by rw [← l]; exact (List.getElem?_eq_some_iff.mp hi).1
    exact ih i d vs[i] hi (List.getElem?_eq_getElem hv)
  | @lst ds vs a h m l _ ih =>
    show noRefs _ ds = true
    rw [noRefs_all, List.all_eq_true]
    intro d hd
    obtain ⟨i, hi⟩ := List.getElem?_of_mem hd
    have hv : i < vs.length := by rw [← l]; exact (List.getElem?_eq_some_iff.mp hi).1
    exact ih i d vs[i] hi (List.getElem?_eq_getElem hv)
  | @dct ds vs a h m l _ ih =>
    show noRefK _ ds = true
    rw [noRefK_all, List.all_eq_true]
    intro d hd
    obtain ⟨i, hi⟩ := List.getElem?_of_mem (List.mem_map_of_mem (f := (·.2)) hd)
    have hv : i < (vs.map (·.2)).length := by
      have h1 := (List.getElem?_eq_some_iff.mp hi).1
      have h2 := congrArg List.length l
      simp at h1 h2 ⊢; omega
    exact ih i d.2 _ hi (List.getElem?_eq_getElem hv)
  | @ref i a h => 
    have := (List.getElem?_eq_some_iff.mp h).1
    simpa [SF.noRef] using this
  | adr a => rfl
theorem RelK.noRef {κ : Type} {fs : List (κ × D)} {gs : List (κ × V)} (h : RelK ρ S H fs gs) : (fs.all fun kv => SF.noRef ρ.own.length kv.2) = true := by
  rw [List.all_eq_true]
  intro d hd
  obtain ⟨i, hi⟩ := List.getElem?_of_mem (List.mem_map_of_mem (f := (·.2)) hd)
  have hv : i < (gs.map (·.2)).length := by
    have h1 := (List.getElem?_eq_some_iff.mp hi).1
    have h2 := h.length
    simp at h1 ⊢; omega
  exact (h.2 i d.2 _ hi (List.getElem?_eq_getElem hv)).noRef
theorem RelC.noRef {a : Addr} {c : Cell} (h : RelC ρ S H a c) : noRefC ρ.own.length c = true := by
  cases c with
  | dead => rfl
  | lst ds =>
    obtain ⟨vs, _, q⟩ := h
    show ds.all (SF.noRef ρ.own.length) = true
    rw [List.all_eq_true]
    intro d hd
    obtain ⟨i, hi⟩ := List.getElem?_of_mem hd
    obtain ⟨v, _, rv⟩ := q.get hi
    exact rv.noRef
  | dct kvs => obtain ⟨vs, _, q⟩ := h; exact q.noRef
  | ins C fs => obtain ⟨dx, vs, _, q⟩ := h; exact q.noRef
  | tab P q => rfl
theorem RelK.cut {κ : Type} {n : Nat} {fs : List (κ × D)} {gs : List (κ × V)} (h : RelK ρ S H fs gs) (hn : (fs.all fun kv => SF.noRef n kv.2) = true) : RelK (ρ.cut n) (S.take n) H fs gs :=
  ⟨h.1, fun i d v e1 e2 => (h.2 i d v e1 e2).cut (by
    obtain ⟨kv, h1, h2⟩ := List.mem_map.mp (List.mem_of_getElem? e1)
    rw [← h2]; exact List.all_eq_true.mp hn kv h1)⟩
theorem RelC.cut {n : Nat} {a : Addr} {c : Cell} (h : RelC ρ S H a c) (hn : noRefC n c = true) : RelC (ρ.cut n) (S.take n) H a c := by
  cases c with
  | dead => exact h
  | lst ds =>
    obtain ⟨vs, h, q⟩ := h
    exact ⟨vs, h, q.1, fun i d v e1 e2 => (q.2 i d v e1 e2).cut (List.all_eq_true.mp hn d (List.mem_of_getElem? e1))⟩
  | dct kvs => obtain ⟨vs, h, q⟩ := h; exact ⟨vs, h, q.cut hn⟩
  | ins C fs => obtain ⟨dx, vs, h, q⟩ := h; exact ⟨dx, vs, h, q.cut hn⟩
  | tab P q =>
    obtain ⟨h0, ps, h1, h2, h3⟩ := h
    refine ⟨h0, ps, h1, h2, fun pos cv hc => ?_⟩
    obtain ⟨c, e1, e2, e3⟩ := h3 pos cv hc
    exact ⟨c, e1, e2, fun l => e3 (live_cut l)⟩
theorem cut_ok (r : Rel ρ H S) (r' : Rel ρ' H' S') (e : Ext ρ S H ρ' S' H') (g : Good S S') : Rel (ρ'.cut S.length) H' (S'.take S.length) ∧ Ext ρ S H (ρ'.cut S.length) (S'.take S.length) H' := by
  refine ⟨⟨?_, ?_, ?_, ?_, ?_, r'.prt⟩, ⟨⟨fun i a h => ?_, fun a o h n t => ?_⟩, e.prot, e.pk⟩⟩
  · show (ρ'.own.take S.length).length = (S'.take S.length).length
    rw [List.length_take, List.length_take, r'.len]
  · intro i j a h1 h2
    have h1 : (ρ'.own.take S.length)[i]? = some a := h1
    have h2 : (ρ'.own.take S.length)[j]? = some a := h2
    have hi : i < S.length := by have := (List.getElem?_eq_some_iff.mp h1).1; simp at this; omega
    have hj : j < S.length := by have := (List.getElem?_eq_some_iff.mp h2).1; simp at this; omega
    rw [List.getElem?_take_of_lt hi] at h1
    rw [List.getElem?_take_of_lt hj] at h2
    exact r'.inj i j a h1 h2
  · intro i a c h1 h2
    have h1 : (ρ'.own.take S.length)[i]? = some a := h1
    have hi : i < S.length := by have := (List.getElem?_eq_some_iff.mp h1).1; simp at this; omega
    rw [List.getElem?_take_of_lt hi] at h1 h2
    refine (r'.cell i a c h1 h2).cut ?_
    rcases g.2 i c hi h2 with z | z
    · have hai : i < ρ.own.length := by rw [r.len]; exact hi
      have := (r.cell i ρ.own[i] c (List.getElem?_eq_getElem hai) z).noRef
      rw [r.len] at this
      exact this
    · exact z
  · intro i a h1
    have h1 : (ρ'.own.take S.length)[i]? = some a := h1
    have hi : i < S.length := by have := (List.getElem?_eq_some_iff.mp h1).1; simp at this; omega
    rw [List.getElem?_take_of_lt hi] at h1
    exact r'.there i a h1
  · intro i a h1
    have h1 : (ρ'.own.take S.length)[i]? = some a := h1
    have hi : i < S.length := by have := (List.getElem?_eq_some_iff.mp h1).1; simp at this; omega
    rw [List.getElem?_take_of_lt hi] at h1
    exact r'.apart i a h1
  · have hi : i < S.length := by rw [← r.len]; exact (List.getElem?_eq_some_iff.mp h).1
    show (ρ'.own.take S.length)[i]? = some a
    rw [List.getElem?_take_of_lt hi]
    exact e.pre i a h
  · exact ⟨(e.frame0 a o h n t).1, fun l => (e.frame0 a o h n t).2 (live_cut l)⟩
end
open Classical in
/-- a def's end: its own cells are dropped -/
noncomputable def gcR (S : Sto) (r : R D) : R D := match r with
  | .ok d S' => if Good S S' ∧ noRef S.length d = true then .ok d (S'.take S.length) else .stuck
  | .exc x S' => if Good S S' ∧ (x.fs.all fun kv => noRef S.length kv.2) = true then .exc x (S'.take S.length) else .stuck
  | .stuck => .stuck
theorem PostG.gc {ρ : Rho K} {S : Sto} {H : Hp} {r : R D} {Q : VK} (rr : Rel ρ H S) (p : Post (gcR S r) ρ S H Q E) : Post r ρ S H Q E := by
  cases r with
  | ok d S' =>
    unfold gcR at p
    dsimp only at p
    split at p
    · rename_i g
      intro v H' ρ' e r' q
      obtain ⟨r2, e2⟩ := cut_ok rr r' e g.1
      exact p v H' _ e2 r2 (q.cut g.2)
    · exact p.elim
  | exc x S' =>
    unfold gcR at p
    dsimp only at p
    split at p
    · rename_i g
      intro dO H' ρ' e r' q
      obtain ⟨r2, e2⟩ := cut_ok rr r' e g.1
      refine p dO H' _ e2 r2 ?_
      rcases q with q | ⟨q0, dx, gs, q1, q2, q3⟩
      · exact .inl q
      · exact .inr ⟨q0, dx, gs, q1, q2, q3.cut g.2⟩
    · exact p.elim
  | stuck => exact p
open Classical in
/-- a loop's turn: the cells that it made are dropped, the names that hold them forgotten -/
noncomputable def sGc (m : Stm) : Stm := fun en S => match m en S with
  | .nx en' S' => if Good S S' then .nx (en'.map fun o => o.bind fun d => if noRef S.length d = true then some d else none) (S'.take S.length) else .stuck
  | r => r
theorem pms_gc {sts : List Stmt} {m : Stm} (h : PMSs X E sts m) : PMSs X E sts (sGc m) := by
  refine ⟨fun pins s σ H Dn I t => h.run pins s σ H Dn I ?_⟩
  obtain ⟨ρ, S, en, rr, re, p⟩ := t
  refine ⟨ρ, S, en, rr, re, ?_⟩
  unfold sGc at p
  cases hm : m en S with
  | nx en' S' =>
    rw [hm] at p
    dsimp only at p
    split at p
    · rename_i g
      intro σ' H' ρ' e r' q
      obtain ⟨r2, e2⟩ := cut_ok rr r' e g
      refine p σ' H' _ e2 r2 ⟨by rw [List.length_map]; exact q.1, fun i d hd => ?_⟩
      rw [List.getElem?_map] at hd
      cases hx : en'[i]? with
      | none => rw [hx] at hd; cases hd
      | some o =>
        rw [hx] at hd
        cases o with
        | none => simp at hd
        | some d' =>
          simp only [Option.map_some, Option.bind_some, Option.some.injEq] at hd
          split at hd
          · rename_i hn
            cases hd
            obtain ⟨v, h1, h2⟩ := q.2 i d hx
            exact ⟨v, h1, h2.cut hn⟩
          · cases hd
    · exact p.elim
  | rt d S' => rw [hm] at p; exact p
  | exc d S' => rw [hm] at p; exact p
  | stuck => rw [hm] at p; exact p

/-! ### a def by its body -/
def env0 (N : Nat) (ds : List D) : En := ds.map some ++ List.replicate (N - ds.length) none
def runB (m : Stm) (N : Nat) (ds : List D) (S : Sto) : R D := match m (env0 N ds) S with
  | .nx _ S' => .ok .non S'
  | .rt d S' => .ok d S'
  | .exc x S' => .exc x S'
  | .stuck => .stuck
/-- what r tells, where it tells something -/
def Le {α : Type} (spec impl : R α) : Prop := spec = .stuck ∨ impl = spec
theorem PostG.le {α β : Type} {RR : Rho K → Sto → Hp → α → β → Prop} {r r' : R α} {ρ : Rho K} {S : Sto} {H : Hp} {Q : β → Hp → Prop} (p : PostG RR r ρ S H Q E) (h : Le r r') : PostG RR r' ρ S H Q E := by
  rcases h with h | h
  · subst h; exact p.elim
  · rw [h]; exact p
theorem relE_start {N : List Str} {ρ : Rho K} {S : Sto} {H : Hp} {ds : List D} {vs : List V} (h : RelDs ρ S H ds vs) : RelE ρ S H (env0 N.length ds) (L2.start N vs) := by
  unfold env0 L2.start
  refine ⟨by simp [h.1], fun i d e => ?_⟩
  by_cases hi : i < ds.length
  · rw [List.getElem?_append_left (by simpa using hi), List.getElem?_map] at e
    cases hd : ds[i]? with
    | none => rw [hd] at e; cases e
    | some d' =>
      rw [hd] at e
      simp only [Option.map_some, Option.some.injEq] at e
      subst e
      obtain ⟨v, hv, rv⟩ := h.get hd
      exact ⟨v, by rw [List.getElem?_append_left (by simp; rw [← h.1]; exact hi), List.getElem?_map, hv]; rfl, rv⟩
  · rw [List.getElem?_append_right (by simpa using hi), List.getElem?_replicate] at e
    split at e <;> cases e
section
variable {P : Program} {w : World} {K : PySem.W.Frag} {mg : Str → Option Value} {base : Heap}
end
end
end SF

/-! Operators, subscripts, built-ins upon data. -/
namespace SF
open PySem L2
section
variable {K : PySem.W.Frag} {ρ : Rho K} {S : Sto} {H : Hp}
def getL (S : Sto) : D → Option (List D)
  | .lst ds => some ds
  | .scr ns => some (ns.map .int)
  | .ref i => match S[i]? with
    | some (.lst ds) => some ds
    | _ => none
  | _ => none
theorem relDs_ints (ns : List Int) : RelDs ρ S H (ns.map .int) (ns.map V.int) := by
  refine ⟨by simp, fun i d v a b => ?_⟩
  rw [List.getElem?_map] at a b
  cases h : ns[i]? with
  | none => rw [h] at a; cases a
  | some n => rw [h] at a b; cases a; cases b; exact .int n
theorem getL_sq {d : D} {v : V} {ds : List D} (r : Rel ρ H S) (h : RelD ρ S H d v) (e : getL S d = some ds) : ∃ a vs, v = .ref a ∧ SqL K H a vs ∧ RelDs ρ S H ds vs := by
  cases h with
  | lst hH n l q => cases e; exact ⟨_, _, rfl, SqL.of hH, l, q⟩
  | scr hH =>
    cases e
    refine ⟨_, _, rfl, ?_, relDs_ints _⟩
    rcases hH with ⟨z, _⟩ | z
    · exact .inl z
    · rcases z with (z | ⟨o, z⟩) | z
      · cases z
      · cases z
      · exact .inr z
  | @ref i a ha =>
    unfold getL at e
    dsimp only at e
    split at e
    · rename_i ds' hS
      cases e
      obtain ⟨vs, hH, rk⟩ := r.cell i a _ ha hS
      exact ⟨a, vs, rfl, SqL.of hH, rk⟩
    · cases e
  | _ => cases e
/-- a list that is tracked as such -/
def getL' (S : Sto) : D → Option (List D)
  | .lst ds => some ds
  | .ref i => match S[i]? with
    | some (.lst ds) => some ds
    | _ => none
  | _ => none
theorem getL'_at {d : D} {v : V} {ds : List D} (r : Rel ρ H S) (h : RelD ρ S H d v) (e : getL' S d = some ds) : ∃ a vs, v = .ref a ∧ H a = some (.lst vs) ∧ RelDs ρ S H ds vs := by
  cases h with
  | lst hH n l q => cases e; exact ⟨_, _, rfl, hH, l, q⟩
  | @ref i a ha =>
    unfold getL' at e
    dsimp only at e
    split at e
    · rename_i ds' hS
      cases e
      obtain ⟨vs, hH, rk⟩ := r.cell i a _ ha hS
      exact ⟨a, vs, rfl, hH, rk⟩
    · cases e
  | _ => cases e
def getT : D → Option (List D)
  | .tup ds => some ds
  | _ => none
theorem getT_sq {d : D} {v : V} {ds : List D} (h : RelD ρ S H d v) (e : getT d = some ds) : ∃ a vs, v = .ref a ∧ H a = some (.tup vs) ∧ RelDs ρ S H ds vs := by
  cases h with
  | tup hH n l q => cases e; exact ⟨_, _, rfl, hH, l, q⟩
  | _ => cases e
def getTx : D → Option (List D)
  | .tup ds => some ds
  | .xtup ds => some ds
  | _ => none
theorem getTx_sq {d : D} {v : V} {ds : List D} (h : RelD ρ S H d v) (e : getTx d = some ds) : ∃ a vs, v = .ref a ∧ SqT K H a vs ∧ RelDs ρ S H ds vs := by
  cases h with
  | tup hH n l q => cases e; exact ⟨_, _, rfl, SqT.of hH, l, q⟩
  | @xtup _ _ _ o hH hx n l q => cases e; exact ⟨_, _, rfl, .inl (.inr ⟨o, hH⟩), l, q⟩
  | _ => cases e
def getD (S : Sto) : D → Option (List (Key × D))
  | .dct ds => some ds
  | .ref i => match S[i]? with
    | some (.dct ds) => some ds
    | _ => none
  | _ => none
theorem getD_at {d : D} {v : V} {ds : List (Key × D)} (r : Rel ρ H S) (h : RelD ρ S H d v) (e : getD S d = some ds) : ∃ a vs, v = .ref a ∧ Rd H a (.dK vs) ∧ RelK ρ S H ds vs := by
  cases h with
  | dct hH n l q => cases e; exact ⟨_, _, rfl, hH, l, q⟩
  | @ref i a ha =>
    unfold getD at e
    dsimp only at e
    split at e
    · rename_i ds' hS
      cases e
      obtain ⟨vs, hH, rk⟩ := r.cell i a _ ha hS
      exact ⟨a, vs, rfl, .inl hH, rk⟩
    · cases e
  | _ => cases e

/-! ### ints -/
def oI (C : Int → Int → Bool) (g : Int → Int → D) : Op2 := fun x y S => match x, y with
  | .int i, .int j => if C i j = true then .ok (g i j) S else .stuck
  | _, _ => .stuck
theorem opm_I {C : Int → Int → Bool} {g : Int → Int → D} {C' : Int → Int → Prop} {g' : Int → Int → V} (hC : ∀ i j, C i j = true → C' i j) (hg : ∀ i j {K} (ρ : Rho K) S H, RelD ρ S H (g i j) (g' i j)) : OpM K (rI C' g') (oI C g) := by
  intro ρ S H c d x y Q E r q1 q2 p
  unfold oI at p
  cases q1 with
  | int i =>
    cases q2 with
    | int j =>
      dsimp only at p
      split at p
      · rename_i hc
        exact ⟨i, j, rfl, rfl, hC i j hc, PostG.ok p r (hg i j ρ S H)⟩
      · exact p.elim
    | _ => exact p.elim
  | _ => exact p.elim
def yes2 : Int → Int → Bool := fun _ _ => true
theorem opm_I0 {g : Int → Int → D} {g' : Int → Int → V} (hg : ∀ i j {K} (ρ : Rho K) S H, RelD ρ S H (g i j) (g' i j)) : OpM K (rI0 g') (oI yes2 g) := by
  intro ρ S H c d x y Q E r q1 q2 p
  have := opm_I (C' := fun _ _ => True) (fun _ _ _ => trivial) hg ρ S H c d x y Q E r q1 q2 p
  obtain ⟨i, j, a, b, _, q⟩ := this
  exact ⟨i, j, a, b, q⟩
def oSub : Op2 := oI yes2 fun i j => .int (i - j)
def oMod : Op2 := oI (fun _ j => decide (0 < j)) fun i j => .int (i % j)
def oDiv : Op2 := oI (fun _ j => decide (0 < j ∧ j.natAbs < 2 ^ 200)) fun i j => .int (i / j)
def okMul (i j : Int) : Bool := decide ((-(2 ^ 64) < i ∧ i < 2 ^ 64) ∨ (-(2 ^ 64) < j ∧ j < 2 ^ 64) ∨ (i.natAbs < 2 ^ 400000 ∧ j.natAbs < 2 ^ 400000))
def oMul : Op2 := oI okMul fun i j => .int (i * j)
def oPow : Op2 := oI (fun i j => decide (0 ≤ j ∧ j ≤ 1000000 ∧ i.natAbs < 2 ^ 64)) fun i j => .int (i ^ j.toNat)
def oLt : Op2 := oI yes2 fun i j => .bl (decide (i < j))
def oLe : Op2 := oI yes2 fun i j => .bl (decide (i ≤ j))
def oGt : Op2 := oI yes2 fun i j => .bl (decide (j < i))
def oGe : Op2 := oI yes2 fun i j => .bl (decide (j ≤ i))
section
variable {X : Cx} {E : XK} {a b : Expr} {ma mb : Exp} {pos : Pos}
theorem pm_sub (ha : PM X E a ma) (hb : PM X E b mb) : PM X E (.BinOp a .Sub b pos) (eOp oSub ma mb) := pm_bin op_sub (opm_I0 fun _ _ _ _ _ _ => .int _) ha hb
theorem pm_mod (ha : PM X E a ma) (hb : PM X E b mb) : PM X E (.BinOp a .Mod b pos) (eOp oMod ma mb) := pm_bin op_mod (opm_I (fun _ _ h => of_decide_eq_true h) fun _ _ _ _ _ _ => .int _) ha hb
theorem pm_div (ha : PM X E a ma) (hb : PM X E b mb) : PM X E (.BinOp a .FloorDiv b pos) (eOp oDiv ma mb) := pm_bin op_fdivW (opm_I (fun i j h => by
  have h := of_decide_eq_true h
  exact wide_div h.1 h.2 (by decide) (by decide)) fun _ _ _ _ _ _ => .int _) ha hb
theorem op_mulA : OpR X (binaryOp .Mult) (rI (fun i j => CMul i j ∨ CMulW i j) fun i j => .int (i * j)) := by
  intro pins s σ H x y v u Q I rx ry h
  obtain ⟨i, j, rfl, rfl, hc, q⟩ := h
  rcases hc with hc | hc
  · exact op_mul pins s σ H _ _ v u Q I rx ry ⟨i, j, rfl, rfl, hc, q⟩
  · exact op_mulW pins s σ H _ _ v u Q I rx ry ⟨i, j, rfl, rfl, hc, q⟩
theorem pm_mul (ha : PM X E a ma) (hb : PM X E b mb) : PM X E (.BinOp a .Mult b pos) (eOp oMul ma mb) := pm_bin op_mulA (opm_I (fun i j h => by
  have h := of_decide_eq_true h
  rcases h with h | h | h
  · exact .inl (.inl h)
  · exact .inl (.inr h)
  · exact .inr (wide_mul h.1 h.2 (by omega) (by omega) (by omega))) fun _ _ _ _ _ _ => .int _) ha hb
theorem pm_pow (ha : PM X E a ma) (hb : PM X E b mb) : PM X E (.BinOp a .Pow b pos) (eOp oPow ma mb) := pm_bin op_pow (opm_I (fun i j h => (of_decide_eq_true h : 0 ≤ j ∧ j ≤ 1000000 ∧ i.natAbs < 2 ^ 64)) fun _ _ _ _ _ _ => .int _) ha hb
theorem m_lt : OpM K (rI0 fun i j => .bl (decide (i < j))) oLt := opm_I0 fun _ _ _ _ _ _ => .bl _
theorem m_le : OpM K (rI0 fun i j => .bl (decide (i ≤ j))) oLe := opm_I0 fun _ _ _ _ _ _ => .bl _
theorem m_gt : OpM K (rI0 fun i j => .bl (decide (j < i))) oGt := opm_I0 fun _ _ _ _ _ _ => .bl _
theorem m_ge : OpM K (rI0 fun i j => .bl (decide (j ≤ i))) oGe := opm_I0 fun _ _ _ _ _ _ => .bl _
def eNeg (m : Exp) : Exp := fun en S => (m en S).bind fun x S1 => match x with
  | .int i => .ok (.int (-i)) S1
  | _ => .stuck
theorem pm_neg (ha : PM X E a ma) : PM X E (.UnaryOp .USub a pos) (eNeg ma) := by
  refine ⟨fun pins s σ H Q I t => (pe_un un_neg ha).run pins s σ H Q I ?_⟩
  obtain ⟨ρ, S, en, rr, re, p⟩ := t
  refine ⟨ρ, S, en, rr, re, PostG.mono (PostG.bind (RR := RelD) p) ?_⟩
  rintro x H1 ⟨c, ρ1, S1, _, e1, r1, q1, p1⟩
  cases q1 with
  | int k => exact ⟨k, rfl, PostG.ok p1 r1 (.int _)⟩
  | _ => exact p1.elim
end

/-! ### + -/
def oAdd : Op2 := fun x y S => match x, y with
  | .int i, .int j => .ok (.int (i + j)) S
  | .str i, .str j => if i.length + j.length ≤ 100000 then .ok (.str (i ++ j)) S else .stuck
  | .tup xs, .tup ys => if xs.length + ys.length ≤ 100000 then .ok (.tup (xs ++ ys)) S else .stuck
  | x, y => match getL' S x, getL' S y with
    | some xs, some ys => if xs.length + ys.length ≤ 100000 then .ok (.lst (xs ++ ys)) S else .stuck
    | _, _ => .stuck
def rAdd4 (K : PySem.W.Frag) : R2 := fun x y H Q => ((∃ i j, x = .int i ∧ y = .int j ∧ Q (.int (i + j)) H) ∨ (∃ i j, x = .str i ∧ y = .str j ∧ i.length + j.length ≤ sizeLine ∧ Q (.str (i ++ j)) H)) ∨ (rCatA K x y H Q ∨ rCat x y H Q)
theorem op_add4 {X : Cx} : OpR X (binaryOp .Add) (rAdd4 X.K) := (op_add.or op_add_str).or (op_catA.or op_cat)
theorem relDs_nil_r {ds : List D} (h : RelDs ρ S H ds []) : ds = [] := by
  have := h.1
  cases ds with
  | nil => rfl
  | cons _ _ => simp at this
theorem m_add : OpM K (rAdd4 K) oAdd := by
  intro ρ S H c d x y Q E r q1 q2 p
  have lists : ∀ {xs ys : List D}, getL' S c = some xs → getL' S d = some ys → Post (if xs.length + ys.length ≤ 100000 then .ok (.lst (xs ++ ys)) S else .stuck) ρ S H Q E → rAdd4 K x y H Q := by
    intro xs ys e1 e2 p
    obtain ⟨a, vs, rfl, hH, rk⟩ := getL'_at r q1 e1
    obtain ⟨a', vs', rfl, hH', rk'⟩ := getL'_at r q2 e2
    split at p
    · rename_i hl
      exact .inr (.inr ⟨a, a', vs, vs', rfl, rfl, hH, hH', by rw [← rk.1, ← rk'.1]; exact sz_ok hl, PostG.lst p r (rk.append rk')⟩)
    · exact p.elim
  unfold oAdd at p
  split at p
  · cases q1; cases q2
    exact .inl (.inl ⟨_, _, rfl, rfl, PostG.ok p r (.int _)⟩)
  · cases q1; cases q2
    split at p
    · rename_i hl
      exact .inl (.inr ⟨_, _, rfl, rfl, sz_ok hl, PostG.ok p r (.str _)⟩)
    · exact p.elim
  · split at p
    · rename_i xs ys hl
      cases q1 with
      | @tup _ vs a hH n l q =>
        cases q2 with
        | @tup _ vs' a' hH' n' l' q' =>
          refine .inr (.inl ⟨a, a', vs, vs', rfl, rfl, SqT.of hH, SqT.of hH', by rw [← l, ← l']; exact sz_ok hl, fun e => ?_, fun e1 e2 => ?_, fun _ _ => PostG.tup p r (RelDs.append ⟨l, q⟩ ⟨l', q'⟩)⟩)
          · subst e
            have hx := relDs_nil_r ⟨l, q⟩
            subst hx
            exact PostG.ok p r (.tup hH' n' l' q')
          · subst e2
            have hx := relDs_nil_r ⟨l', q'⟩
            subst hx
            rw [List.append_nil] at p
            exact PostG.ok p r (.tup hH n l q)
    · exact p.elim
  · split at p
    · rename_i xs ys e1 e2
      exact lists e1 e2 p
    · exact p.elim
theorem pm_add {X : Cx} {E : XK} {a b : Expr} {ma mb : Exp} {pos : Pos} (ha : PM X E a ma) (hb : PM X E b mb) : PM X E (.BinOp a .Add b pos) (eOp oAdd ma mb) := pm_bin op_add4 m_add ha hb

/-! ### == -/
mutual
def pyD : D → Option PyData
  | .non => some .none
  | .bl b => some (.bool b)
  | .int i => some (.int i)
  | .str x => some (.str x)
  | .tup ds => (pyDs ds).map .tuple
  | .xtup ds => (pyDs ds).map .tuple
  | .lst ds => (pyDs ds).map .list
  | _ => none
def pyDs : List D → Option (List PyData)
  | [] => some []
  | d :: r => (pyD d).bind fun x => (pyDs r).map fun xs => x :: xs
end
def pyS (S : Sto) (d : D) : Option PyData := match getL S d with
  | some ds => (pyDs ds).map .list
  | none => pyD d
theorem pyDs_rel {vs : List V} {ds : List D} (ih : ∀ (i : Nat) d v, ds[i]? = some d → vs[i]? = some v → ∀ p, pyD d = some p → Dp K H v p) (hl : ds.length = vs.length) : ∀ {ps : List PyData}, pyDs ds = some ps → DpAll K H vs ps := by
  induction ds generalizing vs with
  | nil =>
    intro ps e
    cases vs with
    | nil =>
      simp only [pyDs, Option.some.injEq] at e
      subst e; exact .nil
    | cons _ _ => simp at hl
  | cons d ds ihd =>
    intro ps e
    cases vs with
    | nil => simp at hl
    | cons v vs =>
      rw [pyDs] at e
      cases h1 : pyD d with
      | none => rw [h1] at e; cases e
      | some x =>
        rw [h1] at e
        cases h2 : pyDs ds with
        | none => rw [h2] at e; cases e
        | some xs =>
          rw [h2] at e
          cases e
          exact .cons (ih 0 d v (by simp) (by simp) x h1) (ihd (fun i d' v' a b => ih (i + 1) d' v' (by simpa using a) (by simpa using b)) (by simpa using hl) h2)
theorem pyD_rel {d : D} {v : V} (h : RelD ρ S H d v) : ∀ p, pyD d = some p → Dp K H v p := by
  induction h with
  | non => intro p e; simp only [pyD, Option.some.injEq] at e; subst e; exact .non
  | bl b => intro p e; simp only [pyD, Option.some.injEq] at e; subst e; exact .bl b
  | int i => intro p e; simp only [pyD, Option.some.injEq] at e; subst e; exact .int i
  | str x => intro p e; simp only [pyD, Option.some.injEq] at e; subst e; exact .str x
  | scr h => intro p e; simp only [pyD] at e; cases e
  | @tup ds vs a hH n l q ih =>
    intro p e
    rw [pyD] at e
    cases h2 : pyDs ds with
    | none => rw [h2] at e; cases e
    | some xs => rw [h2] at e; cases e; exact .tup (SqT.of hH) (pyDs_rel ih l h2)
  | @xtup ds vs a o hH hx n l q ih =>
    intro p e
    rw [pyD] at e
    cases h2 : pyDs ds with
    | none => rw [h2] at e; cases e
    | some xs => rw [h2] at e; cases e; exact .tup (.inl (.inr ⟨o, hH⟩)) (pyDs_rel ih l h2)
  | @lst ds vs a hH n l q ih =>
    intro p e
    rw [pyD] at e
    cases h2 : pyDs ds with
    | none => rw [h2] at e; cases e
    | some xs => rw [h2] at e; cases e; exact .lst (SqL.of hH) (pyDs_rel ih l h2)
  | dct _ _ _ _ _ => intro p e; simp only [pyD] at e; cases e
  | ref _ => intro p e; simp only [pyD] at e; cases e
  | adr _ => intro p e; simp only [pyD] at e; cases e
theorem pyS_rel {d : D} {v : V} {p : PyData} (r : Rel ρ H S) (h : RelD ρ S H d v) (e : pyS S d = some p) : Dp K H v p := by
  unfold pyS at e
  split at e
  · rename_i ds hg
    obtain ⟨a, vs, rfl, hq, rk⟩ := getL_sq r h hg
    cases h2 : pyDs ds with
    | none => rw [h2] at e; cases e
    | some xs => rw [h2] at e; cases e; exact .lst hq (pyDs_rel (fun i d' v' a b => pyD_rel (rk.2 i d' v' a b)) rk.1 h2)
  · exact pyD_rel h p e
def oEqN (neg : Bool) : Op2 := fun x y S => match pyS S x, pyS S y with
  | some p, some q => if SeqAt.shaped p = true ∧ SeqAt.shaped q = true then .ok (.bl (neg ^^ PyData.eqv p q)) S else .stuck
  | _, _ => .stuck
abbrev oEq := oEqN false
abbrev oNe := oEqN true
theorem m_eqN (neg : Bool) : OpM K (if neg then rNeD K else rEqD K) (oEqN neg) := by
  intro ρ S H c d x y Q E r q1 q2 p
  unfold oEqN at p
  split at p
  · rename_i p1 p2 e1 e2
    split at p
    · rename_i hs
      have d1 := pyS_rel r q1 e1
      have d2 := pyS_rel r q2 e2
      cases neg with
      | false => exact ⟨p1, p2, d1, d2, hs.1, hs.2, by have := PostG.ok p r (.bl _); simpa using this⟩
      | true => exact ⟨p1, p2, d1, d2, hs.1, hs.2, by have := PostG.ok p r (.bl _); simpa using this⟩
    · exact p.elim
  · exact p.elim
theorem m_eq : OpM K (rEqD K) oEq := m_eqN false
theorem m_ne : OpM K (rNeD K) oNe := m_eqN true
/-- is None -/
def oIsN (neg : Bool) : Op2 := fun x y S => match y with
  | .non => .ok (.bl (neg ^^ (match x with
    | .non => true
    | _ => false))) S
  | _ => .stuck
theorem m_isN : OpM K (fun x y H Q => y = .non ∧ Q (.bl (decide (x = .non))) H) (oIsN false) := by
  intro ρ S H c d x y Q E r q1 q2 p
  unfold oIsN at p
  cases q2 with
  | non =>
    refine ⟨rfl, ?_⟩
    have := PostG.ok p r (.bl _)
    cases q1 <;> simpa using this
  | _ => exact p.elim
theorem m_notN : OpM K (fun x y H Q => y = .non ∧ Q (.bl (!decide (x = .non))) H) (oIsN true) := by
  intro ρ S H c d x y Q E r q1 q2 p
  unfold oIsN at p
  cases q2 with
  | non =>
    refine ⟨rfl, ?_⟩
    have := PostG.ok p r (.bl _)
    cases q1 <;> simpa using this
  | _ => exact p.elim
def oIsB (neg : Bool) : Op2 := fun x y S => match x, y with
  | .bl a, .bl b => .ok (.bl (neg ^^ decide (a = b))) S
  | _, _ => .stuck
theorem m_isB : OpM K (fun x y H Q => ∃ a b, x = .bl a ∧ y = .bl b ∧ Q (.bl (decide (a = b))) H) (oIsB false) := by
  intro ρ S H c d x y Q E r q1 q2 p
  unfold oIsB at p
  cases q1 with
  | bl a =>
    cases q2 with
    | bl b => exact ⟨a, b, rfl, rfl, by have := PostG.ok p r (.bl _); simpa using this⟩
    | _ => exact p.elim
  | _ => exact p.elim
theorem m_notB : OpM K (fun x y H Q => ∃ a b, x = .bl a ∧ y = .bl b ∧ Q (.bl (!decide (a = b))) H) (oIsB true) := by
  intro ρ S H c d x y Q E r q1 q2 p
  unfold oIsB at p
  cases q1 with
  | bl a =>
    cases q2 with
    | bl b => exact ⟨a, b, rfl, rfl, by have := PostG.ok p r (.bl _); simpa using this⟩
    | _ => exact p.elim
  | _ => exact p.elim
end
end SF

/-! in, subscripts, slices, calls of built-ins. -/
namespace SF
open PySem L2
section
variable {K : PySem.W.Frag} {ρ : Rho K} {S : Sto} {H : Hp} {X : Cx} {E : XK} {a b : Expr} {ma mb : Exp} {pos : Pos}
/-! ### in -/
def flatD : D → Bool
  | .non => true
  | .bl _ => true
  | .int _ => true
  | .str _ => true
  | _ => false
def eqF : D → D → Bool
  | .non, .non => true
  | .bl a, .bl b => a == b
  | .bl a, .int b => (if a then 1 else 0) == b
  | .int a, .bl b => a == (if b then 1 else 0)
  | .int a, .int b => a == b
  | .str a, .str b => a == b
  | _, _ => false
theorem flat_rel {d : D} {v : V} (h : RelD ρ S H d v) (e : flatD d = true) : flatV v = true := by cases h <;> first | rfl | cases e
theorem eqF_rel {c d : D} {u v : V} (h : RelD ρ S H c u) (h' : RelD ρ S H d v) (e : flatD c = true) (e' : flatD d = true) : eqV u v = eqF c d := by
  cases h <;> cases h' <;> first | rfl | cases e | cases e'
theorem all_flat {ds : List D} {vs : List V} (h : RelDs ρ S H ds vs) (e : ds.all flatD = true) : vs.all flatV = true := by
  rw [List.all_eq_true] at e ⊢
  intro v hv
  obtain ⟨i, hi⟩ := List.getElem?_of_mem hv
  obtain ⟨d, hd, r⟩ := h.getR hi
  exact flat_rel r (e d (List.mem_of_getElem? hd))
theorem inV_rel {x : D} {v : V} (hx : RelD ρ S H x v) (fx : flatD x = true) : ∀ {ds : List D} {vs : List V}, RelDs ρ S H ds vs → ds.all flatD = true → inV v vs = ds.any fun y => eqF y x
  | [], vs, h, _ => by
    have : vs = [] := by
      have := h.1
      cases vs with
      | nil => rfl
      | cons _ _ => simp at this
    subst this; rfl
  | d :: ds, vs, h, e => by
    obtain ⟨w, ws, rfl, q, t⟩ := h.uncons
    rw [List.all_cons, Bool.and_eq_true] at e
    show (eqV w v || inV v ws) = (eqF d x || _)
    rw [eqF_rel q hx e.1 fx, inV_rel hx fx t e.2]
/-- the sequence that is searched -/
def getQ (S : Sto) (d : D) : Option (List D) := match getL S d with
  | some ds => some ds
  | none => getTx d
theorem getQ_sq {d : D} {v : V} {ds : List D} (r : Rel ρ H S) (h : RelD ρ S H d v) (e : getQ S d = some ds) : ∃ a vs, v = .ref a ∧ (SqL K H a vs ∨ SqT K H a vs) ∧ RelDs ρ S H ds vs := by
  unfold getQ at e
  split at e
  · rename_i ds' hg
    cases e
    obtain ⟨a, vs, h1, h2, h3⟩ := getL_sq r h hg
    exact ⟨a, vs, h1, .inl h2, h3⟩
  · obtain ⟨a, vs, h1, h2, h3⟩ := getTx_sq h e
    exact ⟨a, vs, h1, .inr h2, h3⟩
def oIn (neg : Bool) : Op2 := fun x y S => match getD S y with
  | some kvs => match keyD x with
    | some k => .ok (.bl (neg ^^ (valD kvs k).isSome)) S
    | none => .stuck
  | none => match getQ S y with
    | some ds => if flatD x = true ∧ ds.all flatD = true then .ok (.bl (neg ^^ ds.any fun y => eqF y x)) S else .stuck
    | none => .stuck
theorem m_inQ (neg : Bool) : OpM K (rIn K neg) (fun x y S => match getQ S y with
    | some ds => if flatD x = true ∧ ds.all flatD = true then .ok (.bl (neg ^^ ds.any fun y => eqF y x)) S else .stuck
    | none => .stuck) := by
  intro ρ S H c d x y Q E r q1 q2 p
  dsimp only at p
  split at p
  · rename_i ds hg
    obtain ⟨a, vs, rfl, h2, h3⟩ := getQ_sq r q2 hg
    split at p
    · rename_i hf
      refine ⟨a, vs, rfl, h2, flat_rel q1 hf.1, all_flat h3 hf.2, ?_⟩
      have := PostG.ok p r (.bl _)
      rw [inV_rel q1 hf.1 h3 hf.2]
      cases neg <;> simpa using this
    · exact p.elim
  · exact p.elim
theorem valD_isSome {k : Key} {fs : List (Key × D)} {gs : List (Key × V)} (h : RelK ρ S H fs gs) : (valV gs k).isSome = (valD fs k).isSome := by
  obtain ⟨h1, h2⟩ := RelK.val (k := k) h
  cases e : valD fs k with
  | none => rw [h2 e]; rfl
  | some d => obtain ⟨v, hv, _⟩ := h1 d e; rw [hv]; rfl
/-- two ways to read one expression, chosen by what the first parts are worth -/
theorem in_split (neg : Bool) {σ : L2.St} {Q : VK} (t : tM K E (eOp (oIn neg) ma mb) σ H Q) :
    tOp (rIn K neg) (tM K E ma) (tM K E mb) σ H Q ∨ (tM K E ma σ H fun y H1 => tM K E mb σ H1 fun x H2 => ∃ a o, x = .ref a ∧ DGet H2 a y o ∧ Q (.bl (neg ^^ o.isSome)) H2) := by
  obtain ⟨ρ, S, en, rr, re, p⟩ := t
  cases h1 : ma en S with
  | stuck => exact .inl ⟨ρ, S, en, rr, re, by unfold eOp at p; rw [h1] at p; exact p.elim⟩
  | exc x S1 => exact .inl ⟨ρ, S, en, rr, re, by unfold eOp at p; rw [h1] at p ⊢; exact p⟩
  | ok c S1 =>
    cases h2 : mb en S1 with
    | stuck => exact .inl ⟨ρ, S, en, rr, re, by unfold eOp at p; rw [h1] at p; dsimp only [R.bind_ok] at p; rw [h2] at p; exact p.elim⟩
    | exc x S2 =>
      refine .inl ⟨ρ, S, en, rr, re, PostG.mono (PostG.bind (RR := RelD) p) ?_⟩
      rintro y H1 ⟨c', ρ1, S1', e0, e1, r1, q1, p1⟩
      rw [h1] at e0; cases e0
      exact ⟨ρ1, S1, en, r1, re.mono e1, by rw [h2] at p1 ⊢; exact p1⟩
    | ok d S2 =>
      cases hD : getD S2 d with
      | none =>
        refine .inl (tOp_of (m_inQ neg) ⟨ρ, S, en, rr, re, ?_⟩)
        unfold eOp at p ⊢
        rw [h1] at p ⊢
        dsimp only [R.bind_ok] at p ⊢
        rw [h2] at p ⊢
        dsimp only [R.bind_ok] at p ⊢
        unfold oIn at p
        rw [hD] at p
        exact p
      | some kvs =>
        refine .inr ⟨ρ, S, en, rr, re, PostG.mono (PostG.bind (RR := RelD) p) ?_⟩
        rintro y H1 ⟨c', ρ1, S1', e0, e1, r1, q1, p1⟩
        rw [h1] at e0; cases e0
        refine ⟨ρ1, S1, en, r1, re.mono e1, PostG.mono (PostG.bind (RR := RelD) p1) ?_⟩
        rintro x H2 ⟨d', ρ2, S2', e0, e2, r2, q2, p2⟩
        rw [h2] at e0; cases e0
        unfold oIn at p2
        rw [hD] at p2
        dsimp only at p2
        split at p2
        · rename_i k hk
          obtain ⟨a, vs, rfl, hR, rk⟩ := getD_at r2 q2 hD
          have hy := keyD_rel (q1.mono e2) hk
          refine ⟨a, valV vs k, rfl, .inl ⟨vs, k, hR, hy, rfl⟩, ?_⟩
          rw [valD_isSome rk]
          exact PostG.ok p2 r2 (.bl _)
        · exact p2.elim
theorem pm_in {k : Nat} (c : Ctx X E k) (ha : PM X E a ma) (hb : PM X E b mb) (hm : behindInMarks .In b = false := by rfl) : PM X E (.Compare a [.In] [b] pos) (eOp (oIn false) ma mb) := by
  refine ⟨fun pins s σ H Q I t => ?_⟩
  rcases in_split false t with t | t
  · exact (pe_cmpR op_in_seq ha hb hm).run pins s σ H Q I t
  · refine (pe_cmp (pc_din c.hu1 ha hb) hm).run pins s σ H Q I ?_
    simpa [tDIn] using t
theorem pm_notin {k : Nat} (c : Ctx X E k) (ha : PM X E a ma) (hb : PM X E b mb) (hm : behindInMarks .NotIn b = false := by rfl) : PM X E (.Compare a [.NotIn] [b] pos) (eOp (oIn true) ma mb) := by
  refine ⟨fun pins s σ H Q I t => ?_⟩
  rcases in_split true t with t | t
  · exact (pe_cmpR op_notIn_seq ha hb hm).run pins s σ H Q I t
  · refine (pe_cmp (pc_dnotin c.hu1 ha hb) hm).run pins s σ H Q I ?_
    simpa [tDNotIn] using t
theorem tV_run {σ : L2.St} {Q : Bool → Hp → Prop} {m : Exp} (t : tMT K E (tV m) σ H Q) : tM K E m σ H fun x H1 => ∃ c, x = .bl c ∧ Q c H1 := tTest_of (te := tM K E m) (fun _ t => t) t
theorem pmt_in {k : Nat} (c : Ctx X E k) (ha : PM X E a ma) (hb : PM X E b mb) (hm : behindInMarks .In b = false := by rfl) : PMT X E (.Compare a [.In] [b] pos) (tV (eOp (oIn false) ma mb)) := by
  refine ⟨fun pins s σ H Q I t => ?_⟩
  rcases in_split false (tV_run t) with t | t
  · exact (pt_cmpR op_in_seq ha hb hm).run pins s σ H Q I t
  · refine (pt_cmp (pc_din c.hu1 ha hb) hm).run pins s σ H Q I ?_
    simpa [tDIn, tB] using t
theorem pmt_notin {k : Nat} (c : Ctx X E k) (ha : PM X E a ma) (hb : PM X E b mb) (hm : behindInMarks .NotIn b = false := by rfl) : PMT X E (.Compare a [.NotIn] [b] pos) (tV (eOp (oIn true) ma mb)) := by
  refine ⟨fun pins s σ H Q I t => ?_⟩
  rcases in_split true (tV_run t) with t | t
  · exact (pt_cmpR op_notIn_seq ha hb hm).run pins s σ H Q I t
  · refine (pt_cmp (pc_dnotin c.hu1 ha hb) hm).run pins s σ H Q I ?_
    simpa [tDNotIn, tB] using t

/-! ### subscripts -/
def oIx : Op2 := fun x y S => match getD S x with
  | some kvs => match keyD y with
    | some k => match valD kvs k with
      | some d => .ok d S
      | none => .stuck
    | none => .stuck
  | none => match x, y with
    | .str z, .int i => if z.length ≤ 100000 then (match atI z.cps.toList i with
      | some c => .ok (.str ⟨#[c]⟩) S
      | none => .stuck) else .stuck
    | x, .int i => match getQ S x with
      | some ds => match atI ds i with
        | some d => .ok d S
        | none => .stuck
      | none => .stuck
    | _, _ => .stuck
theorem atI_rel {ds : List D} {vs : List V} (h : RelDs ρ S H ds vs) {i : Int} {d : D} (e : atI ds i = some d) : ∃ v, atI vs i = some v ∧ RelD ρ S H d v := by
  unfold atI at e ⊢
  rw [← h.1]
  cases hx : ixN ds.length i with
  | none => rw [hx] at e; cases e
  | some j =>
    rw [hx] at e
    obtain ⟨v, hv, rv⟩ := h.get (show ds[j]? = some d from e)
    exact ⟨v, hv, rv⟩
theorem m_ixQ : OpM K (rIx K) (fun x y S => match x, y with
    | .str z, .int i => if z.length ≤ 100000 then (match atI z.cps.toList i with
      | some c => .ok (.str ⟨#[c]⟩) S
      | none => .stuck) else .stuck
    | x, .int i => match getQ S x with
      | some ds => match atI ds i with
        | some d => .ok d S
        | none => .stuck
      | none => .stuck
    | _, _ => .stuck) := by
  intro ρ S H c d x y Q E r q1 q2 p
  dsimp only at p
  split at p
  · cases q1; cases q2
    split at p
    · rename_i hl
      split at p
      · rename_i ch hc
        exact .inr (.inr ⟨_, _, ch, rfl, rfl, sz_ok hl, hc, PostG.ok p r (.str _)⟩)
      · exact p.elim
    · exact p.elim
  · cases q2
    split at p
    · rename_i ds hg
      obtain ⟨a, vs, rfl, h2, h3⟩ := getQ_sq r q1 hg
      split at p
      · rename_i dd hd
        obtain ⟨v, hv, rv⟩ := atI_rel h3 hd
        rcases h2 with h2 | h2
        · exact .inl ⟨a, vs, _, v, rfl, rfl, h2, hv, PostG.ok p r rv⟩
        · exact .inr (.inl ⟨a, vs, _, v, rfl, rfl, h2, hv, PostG.ok p r rv⟩)
      · exact p.elim
    · exact p.elim
  · exact p.elim
theorem ix_split {σ : L2.St} {Q : VK} (t : tM K E (eOp oIx ma mb) σ H Q) : tOp (rIx K) (tM K E ma) (tM K E mb) σ H Q ∨ tDGet (tM K E ma) (tM K E mb) σ H Q := by
  obtain ⟨ρ, S, en, rr, re, p⟩ := t
  cases h1 : ma en S with
  | stuck => exact .inl ⟨ρ, S, en, rr, re, by unfold eOp at p; rw [h1] at p; exact p.elim⟩
  | exc x S1 => exact .inl ⟨ρ, S, en, rr, re, by unfold eOp at p; rw [h1] at p ⊢; exact p⟩
  | ok c S1 =>
    cases h2 : mb en S1 with
    | stuck => exact .inl ⟨ρ, S, en, rr, re, by unfold eOp at p; rw [h1] at p; dsimp only [R.bind_ok] at p; rw [h2] at p; exact p.elim⟩
    | exc x S2 =>
      refine .inl ⟨ρ, S, en, rr, re, PostG.mono (PostG.bind (RR := RelD) p) ?_⟩
      rintro y H1 ⟨c', ρ1, S1', e0, e1, r1, q1, p1⟩
      rw [h1] at e0; cases e0
      exact ⟨ρ1, S1, en, r1, re.mono e1, by rw [h2] at p1 ⊢; exact p1⟩
    | ok d S2 =>
      cases hD : getD S2 c with
      | none =>
        refine .inl (tOp_of m_ixQ ⟨ρ, S, en, rr, re, ?_⟩)
        unfold eOp at p ⊢
        rw [h1] at p ⊢
        dsimp only [R.bind_ok] at p ⊢
        rw [h2] at p ⊢
        dsimp only [R.bind_ok] at p ⊢
        unfold oIx at p
        rw [hD] at p
        exact p
      | some kvs =>
        refine .inr ⟨ρ, S, en, rr, re, PostG.mono (PostG.bind (RR := RelD) p) ?_⟩
        rintro x H1 ⟨c', ρ1, S1', e0, e1, r1, q1, p1⟩
        rw [h1] at e0; cases e0
        refine ⟨ρ1, S1, en, r1, re.mono e1, PostG.mono (PostG.bind (RR := RelD) p1) ?_⟩
        rintro y H2 ⟨d', ρ2, S2', e0, e2, r2, q2, p2⟩
        rw [h2] at e0; cases e0
        unfold oIx at p2
        rw [hD] at p2
        dsimp only at p2
        split at p2
        · rename_i k hk
          split at p2
          · rename_i dd hv
            obtain ⟨a, vs, rfl, hR, rk⟩ := getD_at r2 (q1.mono e2) hD
            obtain ⟨v, hvv, rv⟩ := (RelK.val (k := k) rk).1 dd hv
            exact ⟨a, v, rfl, .inl ⟨vs, k, hR, keyD_rel q2 hk, hvv.symm⟩, PostG.ok p2 r2 rv⟩
          · exact p2.elim
        · exact p2.elim
theorem pm_ix {k : Nat} (c : Ctx X E k) (ha : PM X E a ma) (hb : PM X E b mb) (hs : PlainIx b := by exact fun _ _ => rfl) : PM X E (.Subscript a b pos) (eOp oIx ma mb) := by
  refine ⟨fun pins s σ H Q I t => ?_⟩
  rcases ix_split t with t | t
  · exact (pe_ix ix_seq ha hb hs).run pins s σ H Q I t
  · exact (pe_dget c.hu1 ha hb hs).run pins s σ H Q I t
end
end SF

/-! slices, calls of built-ins, methods, what is walked. -/
namespace SF
open PySem L2
section
variable {K : PySem.W.Frag} {ρ : Rho K} {S : Sto} {H : Hp} {X : Cx} {E : XK} {a b : Expr} {ma mb : Exp} {pos : Pos}
/-! ### slices -/
abbrev Oe := Option Exp
def evO : Oe → En → Sto → R (Option Int)
  | none, _, S => .ok none S
  | some m, en, S => (m en S).bind fun d S1 => match d with
    | .int i => .ok (some i) S1
    | _ => .stuck
def RelOI (_ : Rho K) (_ : Sto) (_ : Hp) (a b : Option Int) : Prop := a = b
def tMO (K : PySem.W.Frag) (E : XK) (m : Oe) : TO := fun σ H Q => ∃ (ρ : Rho K) (S : Sto) (en : En), Rel ρ H S ∧ RelE ρ S H en σ ∧ PostG RelOI (evO m en S) ρ S H Q E
theorem pmo_none : PO X none (tMO X.K E none) := by
  refine ⟨fun pins s σ H Q I t => po_none.run pins s σ H Q I ?_⟩
  obtain ⟨ρ, S, en, rr, re, p⟩ := t
  exact PostG.ok p rr rfl
theorem pmo_some (h : PM X E a ma) : PO X (some a) (tMO X.K E (some ma)) := by
  refine ⟨fun pins s σ H Q I t => (po_some h).run pins s σ H Q I ?_⟩
  obtain ⟨ρ, S, en, rr, re, p⟩ := t
  refine ⟨ρ, S, en, rr, re, PostG.mono (PostG.bind (RR := RelD) p) ?_⟩
  rintro x H1 ⟨c, ρ1, S1, _, e1, r1, q1, p1⟩
  cases q1 with
  | int i => exact ⟨i, rfl, PostG.ok p1 r1 rfl⟩
  | _ => exact p1.elim
def cutD (xs : List D) (lo hi : Option Int) : List D := (xs.drop (HT.sIx xs.length 0 lo)).take (HT.sIx xs.length xs.length hi - HT.sIx xs.length 0 lo)
def slD (x : D) (lo hi : Option Int) (S : Sto) : R D := match getL S x with
  | some ds => .ok (.lst (cutD ds lo hi)) S
  | none => match getT x with
    | some ds => .ok (.tup (cutD ds lo hi)) S
    | none => .stuck
def eSl (m : Exp) (lo hi : Oe) : Exp := fun en S => (m en S).bind fun x S1 => (evO lo en S1).bind fun l S2 => (evO hi en S2).bind fun h S3 => slD x l h S3
theorem cut_rel {ds : List D} {vs : List V} (h : RelDs ρ S H ds vs) (lo hi : Option Int) : RelDs ρ S H (cutD ds lo hi) (cutV vs lo hi) := by
  unfold cutD cutV
  rw [h.1]
  exact (h.drop _).take _
theorem pm_sl {lo hi : Option Expr} {ml mh : Oe} {p2 : Pos} (h : PM X E a ma) (hl : PO X lo (tMO X.K E ml)) (hh : PO X hi (tMO X.K E mh)) : PM X E (.Subscript a (.Slice lo hi none p2) pos) (eSl ma ml mh) := by
  refine ⟨fun pins s σ H Q I t => (pe_slice (SlR.or sl_list sl_tupA) h hl hh).run pins s σ H Q I ?_⟩
  obtain ⟨ρ, S, en, rr, re, p⟩ := t
  refine ⟨ρ, S, en, rr, re, PostG.mono (PostG.bind (RR := RelD) p) ?_⟩
  rintro x H1 ⟨c, ρ1, S1, _, e1, r1, q1, p1⟩
  refine ⟨ρ1, S1, en, r1, re.mono e1, PostG.mono (PostG.bind (RR := RelOI) p1) ?_⟩
  rintro l H2 ⟨l', ρ2, S2, _, e2, r2, rfl, p2⟩
  refine ⟨ρ2, S2, en, r2, (re.mono e1).mono e2, PostG.mono (PostG.bind (RR := RelOI) p2) ?_⟩
  rintro u H3 ⟨u', ρ3, S3, _, e3, r3, rfl, p3⟩
  have q1 := (q1.mono e2).mono e3
  unfold slD at p3
  split at p3
  · rename_i ds hg
    obtain ⟨a, vs, rfl, h2, h3⟩ := getL_sq r3 q1 hg
    exact .inl ⟨a, vs, rfl, h2, PostG.lst p3 r3 (cut_rel h3 _ _)⟩
  · split at p3
    · rename_i ds hg
      obtain ⟨a, vs, rfl, h2, h3⟩ := getT_sq q1 hg
      refine .inr ⟨a, vs, rfl, SqT.of h2, fun hw => ?_, fun _ => PostG.tup p3 r3 (cut_rel h3 _ _)⟩
      have e0 : cutD ds l' u' = ds := by
        unfold cutD
        rw [h3.1, hw.1, hw.2, List.drop_zero, Nat.sub_zero, ← h3.1, List.take_length]
      rw [e0] at p3
      have : c = .tup ds := by
        cases c <;> simp only [getT] at hg <;> first | (cases hg; rfl) | cases hg
      subst this
      exact PostG.ok p3 r3 q1
    · exact p3.elim

/-! ### calls of built-ins -/
abbrev Fn1 := List D → Sto → R D
def CallM (K : PySem.W.Frag) (r : List V → Hp → VK → Prop) (f : Fn1) : Prop := ∀ (ρ : Rho K) (S : Sto) (H : Hp) (ds : List D) (vs : List V) (Q : VK) (E : XK), Rel ρ H S → RelDs ρ S H ds vs → Post (f ds S) ρ S H Q E → r vs H Q
def eB (f : Fn1) (ms : Exps) : Exp := fun en S => (ms en S).bind fun ds S1 => f ds S1
theorem tCB_of {r : List V → Hp → VK → Prop} {f : Fn1} {ms : Exps} (h : CallM K r f) {σ : L2.St} {Q : VK} (t : tM K E (eB f ms) σ H Q) : tCB r (tMA K E ms) σ H Q := by
  obtain ⟨ρ, S, en, rr, re, p⟩ := t
  refine ⟨ρ, S, en, rr, re, PostG.mono (PostG.bind (RR := RelDs) p) ?_⟩
  rintro xs H1 ⟨c, ρ1, S1, _, e1, r1, q1, p1⟩
  exact h ρ1 S1 H1 c xs Q E r1 q1 p1
theorem pm_b {id : String} {x : Str} {r : List V → Hp → VK → Prop} {f : Fn1} {e : Expr} {es : List Expr} {ms : Exps} {p : Pos} (hc : CallR X (.builtin id) r) (hf : CallM X.K r f) (hg : Gl X x) (hm : X.mg x = none) (hv : bootBuiltins x = some (.builtin id)) (ha : PMA X E (e :: es) ms)
    (hn : x ≠ "__name__" := by decide) (hdb : (x == ("__debug__" : Str)) = false := by decide)
    (he : starEach (e :: es) X.env = (false, eval e X.env) :: starEach es X.env := by rfl) (hpl : (backTo pos (starEach es X.env)).any (·.1) = false := by rfl) : PM X E (.Call (.Name x p) (e :: es) [] pos) (eB f ms) :=
  ⟨fun pins s σ H Q I t => (pe_callB hc hg hm hv ha hn hdb he hpl).run pins s σ H Q I (tCB_of hf t)⟩
theorem pm_ty {T : String} {x : Str} {r : List V → Hp → VK → Prop} {f : Fn1} {e : Expr} {es : List Expr} {ms : Exps} {p : Pos} (hc : CallR X (.type T) r) (hf : CallM X.K r f) (hg : Gl X x) (hm : X.mg x = none) (hv : bootBuiltins x = some (.type T)) (ha : PMA X E (e :: es) ms)
    (hn : x ≠ "__name__" := by decide) (hdb : (x == ("__debug__" : Str)) = false := by decide)
    (he : starEach (e :: es) X.env = (false, eval e X.env) :: starEach es X.env := by rfl) (hpl : (backTo pos (starEach es X.env)).any (·.1) = false := by rfl) : PM X E (.Call (.Name x p) (e :: es) [] pos) (eB f ms) :=
  ⟨fun pins s σ H Q I t => (pe_callTy hc hg hm hv ha hn hdb he hpl).run pins s σ H Q I (tCB_of hf t)⟩
theorem rel1 {d : D} {vs : List V} (h : RelDs ρ S H [d] vs) : ∃ v, vs = [v] ∧ RelD ρ S H d v := by
  obtain ⟨v, ws, rfl, q, t⟩ := h.uncons
  have : ws = [] := by
    have := t.1
    cases ws with
    | nil => rfl
    | cons _ _ => simp at this
  subst this
  exact ⟨v, rfl, q⟩
theorem rel2 {d e : D} {vs : List V} (h : RelDs ρ S H [d, e] vs) : ∃ v w, vs = [v, w] ∧ RelD ρ S H d v ∧ RelD ρ S H e w := by
  obtain ⟨v, ws, rfl, q, t⟩ := h.uncons
  obtain ⟨w, rfl, q2⟩ := rel1 t
  exact ⟨v, w, rfl, q, q2⟩
def fLen : Fn1 := fun ds S => match ds with
  | [d] => match getQ S d with
    | some xs => .ok (.int xs.length) S
    | none => match d with
      | .str x => if x.length ≤ 100000 then .ok (.int x.length) S else .stuck
      | _ => .stuck
  | _ => .stuck
theorem c_len : CallM K (fun xs H Q => ∃ x n, xs = [x] ∧ LenV K x H n ∧ Q (.int n) H) fLen := by
  intro ρ S H ds vs Q E r q p
  unfold fLen at p
  split at p
  · rename_i d
    obtain ⟨v, rfl, qd⟩ := rel1 q
    split at p
    · rename_i xs hg
      obtain ⟨a, ws, rfl, h2, h3⟩ := getQ_sq r qd hg
      refine ⟨.ref a, ws.length, rfl, ?_, by rw [← h3.1]; exact PostG.ok p r (.int _)⟩
      rcases h2 with h2 | h2
      · exact .inl ⟨ws, h2, rfl⟩
      · exact .inr ⟨ws, h2, rfl⟩
    · split at p
      · cases qd
        split at p
        · rename_i hl
          exact ⟨_, _, rfl, ⟨sz_ok hl, rfl⟩, PostG.ok p r (.int _)⟩
        · exact p.elim
      · exact p.elim
  · exact p.elim
theorem pm_len {e : Expr} {m : Exp} {p : Pos} (hg : Gl X "len") (hm : X.mg "len" = none) (h : PM X E e m) (he : starEach [e] X.env = [(false, eval e X.env)] := by rfl) : PM X E (.Call (.Name "len" p) [e] [] pos) (eB fLen (aC m aN)) :=
  pm_b call_len c_len hg hm boot_len (pma_cons h pma_nil he) (he := he)
/-- isinstance(x, T), T a built-in type -/
inductive TyN where
  | int | bool | str | tuple | list
def isTy : TyN → Sto → D → Option Bool
  | t, S, .ref i => match S[i]? with
    | some (.lst _) => some (match t with | .list => true | _ => false)
    | some (.dct _) => some false
    | _ => none
  | t, _, .non => some false
  | t, _, .bl _ => some (match t with | .int => true | .bool => true | _ => false)
  | t, _, .int _ => some (match t with | .int => true | _ => false)
  | t, _, .str _ => some (match t with | .str => true | _ => false)
  | t, _, .tup _ => some (match t with | .tuple => true | _ => false)
  | t, _, .xtup _ => some (match t with | .tuple => true | _ => false)
  | t, _, .lst _ => some (match t with | .list => true | _ => false)
  | t, _, .dct _ => some false
  | _, _, .scr _ => none
  | _, _, .adr _ => none
def tyS : TyN → String
  | .int => "int" | .bool => "bool" | .str => "str" | .tuple => "tuple" | .list => "list"
def fIsT (t : TyN) : Fn1 := fun ds S => match ds with
  | [d] => match isTy t S d with
    | some b => .ok (.bl b) S
    | none => .stuck
  | _ => .stuck
def eIsT (t : TyN) (m : Exp) : Exp := eB (fIsT t) (aC m aN)
theorem kit_t (K : PySem.W.Frag) (s t : String) (h1 : s ∈ ["NoneType", "int", "bool", "str", "tuple", "list", "dict"]) (h2 : t ∈ ["int", "bool", "str", "tuple", "list"]) : PySem.W.kitOne K (.type s) (.type t) = some (decide (s = t) || decide (s = "bool" ∧ t = "int")) := by
  simp only [List.mem_cons, List.not_mem_nil, or_false] at h1 h2
  rcases h1 with rfl | rfl | rfl | rfl | rfl | rfl | rfl <;> rcases h2 with rfl | rfl | rfl | rfl | rfl <;> first | rfl | decide +kernel
end
end SF

/-! calls of built-ins, methods, what is walked. -/
namespace SF
open PySem L2
section
variable {K : PySem.W.Frag} {ρ : Rho K} {S : Sto} {H : Hp} {X : Cx} {E : XK} {a b : Expr} {ma mb : Exp} {pos : Pos}
theorem ty_rel {t : TyN} {d : D} {v : V} {c : Bool} (r : Rel ρ H S) (h : RelD ρ S H d v) (e : isTy t S d = some c) : ∃ s, TyX K H v (.type s) ∧ PySem.W.kitOne K (.type s) (.type (tyS t)) = some c := by
  have ht : tyS t ∈ ["int", "bool", "str", "tuple", "list"] := by cases t <;> decide
  cases h with
  | non => cases e; exact ⟨"NoneType", .base .non, by rw [kit_t K _ _ (by decide) ht]; cases t <;> rfl⟩
  | bl b => cases e; exact ⟨"bool", .base (.bl b), by rw [kit_t K _ _ (by decide) ht]; cases t <;> rfl⟩
  | int i => cases e; exact ⟨"int", .base (.int i), by rw [kit_t K _ _ (by decide) ht]; cases t <;> rfl⟩
  | str x => cases e; exact ⟨"str", .base (.str x), by rw [kit_t K _ _ (by decide) ht]; cases t <;> rfl⟩
  | scr _ => cases e
  | adr _ => cases e
  | tup hH _ _ _ => cases e; exact ⟨"tuple", .base (.tup hH), by rw [kit_t K _ _ (by decide) ht]; cases t <;> rfl⟩
  | xtup hH _ _ _ _ => cases e; exact ⟨"tuple", .fTuple hH, by rw [kit_t K _ _ (by decide) ht]; cases t <;> rfl⟩
  | lst hH _ _ _ => cases e; exact ⟨"list", .base (.lst hH), by rw [kit_t K _ _ (by decide) ht]; cases t <;> rfl⟩
  | dct hH _ _ _ =>
    cases e
    rcases hH with hH | ⟨o, hH⟩
    · exact ⟨"dict", .base (.dK hH), by rw [kit_t K _ _ (by decide) ht]; cases t <;> rfl⟩
    · exact ⟨"dict", .fDict hH, by rw [kit_t K _ _ (by decide) ht]; cases t <;> rfl⟩
  | @ref i a ha =>
    unfold isTy at e
    dsimp only at e
    split at e
    · rename_i ds hS
      cases e
      obtain ⟨vs, hH, rk⟩ := r.cell i a _ ha hS
      exact ⟨"list", .base (.lst hH), by rw [kit_t K _ _ (by decide) ht]; cases t <;> rfl⟩
    · rename_i ds hS
      cases e
      obtain ⟨vs, hH, rk⟩ := r.cell i a _ ha hS
      exact ⟨"dict", .base (.dK hH), by rw [kit_t K _ _ (by decide) ht]; cases t <;> rfl⟩
    · cases e
theorem pm_isT (t : TyN) {x : Str} {p p2 : Pos} (hg : Gl X "isinstance") (hm : X.mg "isinstance" = none) (hgt : Gl X x) (hmt : X.mg x = none) (hx : bootBuiltins x = some (.type (tyS t))) (h : PM X E a ma) (hxn : x ≠ "__name__" := by decide) (hdb : (x == ("__debug__" : Str)) = false := by decide)
    (he : starEach [a, .Name x p2] X.env = (false, eval a X.env) :: starEach [.Name x p2] X.env := by rfl) (he2 : starEach [.Name x p2] X.env = [(false, eval (.Name x p2) X.env)] := by rfl) (hpl : (backTo pos (starEach [.Name x p2] X.env)).any (·.1) = false := by rfl) :
    PM X E (.Call (.Name "isinstance" p) [a, .Name x p2] [] pos) (eIsT t ma) := by
  refine ⟨fun pins s σ H Q I tt => (pe_callB call_isi hg hm PyProof.Rows.boot_isinstance (pa_cons h (pa_cons (pe_bltn (v := .ty (tyS t)) hgt hmt hx rfl hxn hdb) pa_nil he2) he) (he := he) (hpl := hpl)).run pins s σ H Q I ?_⟩
  obtain ⟨ρ, S, en, rr, re, p⟩ := tt
  have e0 : eIsT t ma en S = (ma en S).bind fun d S1 => fIsT t [d] S1 := by
    unfold eIsT eB aC aN
    cases ma en S <;> rfl
  rw [e0] at p
  refine ⟨ρ, S, en, rr, re, PostG.mono (PostG.bind (RR := RelD) p) ?_⟩
  rintro v H1 ⟨c, ρ1, S1, _, e1, r1, q1, p1⟩
  unfold fIsT at p1
  dsimp only at p1
  split at p1
  · rename_i b hb
    obtain ⟨s, h1, h2⟩ := ty_rel r1 q1 hb
    exact ⟨v, .ty (tyS t), .type s, .type (tyS t), b, rfl, .ty _, h1, h2, PostG.ok p1 r1 (.bl b)⟩
  · exact p1.elim

/-! ### max, min, sum, all, list, tuple -/
def fMax2 : Fn1 := fun ds S => match ds with
  | [.int i, .int j] => .ok (.int (if j > i then j else i)) S
  | _ => .stuck
def fMin2 : Fn1 := fun ds S => match ds with
  | [.int i, .int j] => .ok (.int (if j < i then j else i)) S
  | _ => .stuck
theorem c_max2 : CallM K (fun xs H Q => ∃ i j, xs = [.int i, .int j] ∧ Q (.int (if j > i then j else i)) H) fMax2 := by
  intro ρ S H ds vs Q E r q p
  unfold fMax2 at p
  split at p
  · obtain ⟨v, w, rfl, q1, q2⟩ := rel2 q
    cases q1; cases q2
    exact ⟨_, _, rfl, PostG.ok p r (.int _)⟩
  · exact p.elim
theorem c_min2 : CallM K (fun xs H Q => ∃ i j, xs = [.int i, .int j] ∧ Q (.int (if j < i then j else i)) H) fMin2 := by
  intro ρ S H ds vs Q E r q p
  unfold fMin2 at p
  split at p
  · obtain ⟨v, w, rfl, q1, q2⟩ := rel2 q
    cases q1; cases q2
    exact ⟨_, _, rfl, PostG.ok p r (.int _)⟩
  · exact p.elim
def intsD : List D → Option (List Int)
  | [] => some []
  | .int i :: r => (intsD r).map (i :: ·)
  | _ => none
theorem intsD_eq : ∀ {ds : List D} {ns : List Int}, intsD ds = some ns → ds = ns.map .int
  | [], ns, e => by simp only [intsD, Option.some.injEq] at e; subst e; rfl
  | .int i :: r, ns, e => by
    rw [intsD] at e
    cases h : intsD r with
    | none => rw [h] at e; cases e
    | some l => rw [h] at e; cases e; rw [intsD_eq h]; rfl
  | .non :: _, _, e => by simp [intsD] at e
  | .bl _ :: _, _, e => by simp [intsD] at e
  | .str _ :: _, _, e => by simp [intsD] at e
  | .scr _ :: _, _, e => by simp [intsD] at e
  | .tup _ :: _, _, e => by simp [intsD] at e
  | .lst _ :: _, _, e => by simp [intsD] at e
  | .dct _ :: _, _, e => by simp [intsD] at e
  | .ref _ :: _, _, e => by simp [intsD] at e
@[simp] theorem intsD_map (ns : List Int) : intsD (ns.map .int) = some ns := by
  induction ns with
  | nil => rfl
  | cons n ns ih => rw [List.map_cons, intsD, ih]; rfl
theorem rel_ints {ns : List Int} {vs : List V} (h : RelDs ρ S H (ns.map .int) vs) : vs = ns.map V.int := by
  refine List.ext_getElem? fun i => ?_
  rw [List.getElem?_map]
  cases hv : vs[i]? with
  | none =>
    have : vs.length ≤ i := List.getElem?_eq_none_iff.mp hv
    rw [List.getElem?_eq_none_iff.mpr (by rw [← h.1, List.length_map] at this; exact this)]; rfl
  | some v =>
    obtain ⟨d, hd, r⟩ := h.getR hv
    rw [List.getElem?_map] at hd
    cases hn : ns[i]? with
    | none => rw [hn] at hd; cases hd
    | some n => rw [hn] at hd; cases hd; cases r; rfl
def boolsD : List D → Option (List Bool)
  | [] => some []
  | .bl i :: r => (boolsD r).map (i :: ·)
  | _ => none
@[simp] theorem boolsD_map (ns : List Bool) : boolsD (ns.map .bl) = some ns := by
  induction ns with
  | nil => rfl
  | cons n ns ih => rw [List.map_cons, boolsD, ih]; rfl
theorem boolsD_eq : ∀ {ds : List D} {ns : List Bool}, boolsD ds = some ns → ds = ns.map .bl
  | [], ns, e => by simp only [boolsD, Option.some.injEq] at e; subst e; rfl
  | .bl i :: r, ns, e => by
    rw [boolsD] at e
    cases h : boolsD r with
    | none => rw [h] at e; cases e
    | some l => rw [h] at e; cases e; rw [boolsD_eq h]; rfl
  | .non :: _, _, e => by simp [boolsD] at e
  | .int _ :: _, _, e => by simp [boolsD] at e
  | .str _ :: _, _, e => by simp [boolsD] at e
  | .scr _ :: _, _, e => by simp [boolsD] at e
  | .tup _ :: _, _, e => by simp [boolsD] at e
  | .lst _ :: _, _, e => by simp [boolsD] at e
  | .dct _ :: _, _, e => by simp [boolsD] at e
  | .ref _ :: _, _, e => by simp [boolsD] at e
theorem rel_bools {ns : List Bool} {vs : List V} (h : RelDs ρ S H (ns.map .bl) vs) : vs = ns.map V.bl := by
  refine List.ext_getElem? fun i => ?_
  rw [List.getElem?_map]
  cases hv : vs[i]? with
  | none =>
    have : vs.length ≤ i := List.getElem?_eq_none_iff.mp hv
    rw [List.getElem?_eq_none_iff.mpr (by rw [← h.1, List.length_map] at this; exact this)]; rfl
  | some v =>
    obtain ⟨d, hd, r⟩ := h.getR hv
    rw [List.getElem?_map] at hd
    cases hn : ns[i]? with
    | none => rw [hn] at hd; cases hd
    | some n => rw [hn] at hd; cases hd; cases r; rfl
def fInts (g : List Int → Option D) : Fn1 := fun ds S => match ds with
  | [d] => match getL S d with
    | some xs => match intsD xs with
      | some ns => match g ns with
        | some z => .ok z S
        | none => .stuck
      | none => .stuck
    | none => .stuck
  | _ => .stuck
theorem ints_at {g : List Int → Option D} {ds : List D} {vs : List V} {Q : VK} {E : XK} (r : Rel ρ H S) (q : RelDs ρ S H ds vs) (p : Post (fInts g ds S) ρ S H Q E) : ∃ a ns z, vs = [V.ref a] ∧ SqL K H a (ns.map V.int) ∧ g ns = some z ∧ Post (.ok z S) ρ S H Q E := by
  unfold fInts at p
  split at p
  · obtain ⟨v, rfl, qd⟩ := rel1 q
    split at p
    · rename_i xs hg
      split at p
      · rename_i ns hn
        split at p
        · rename_i z hz
          obtain ⟨a, ws, rfl, h2, h3⟩ := getL_sq r qd hg
          rw [intsD_eq hn] at h3
          rw [rel_ints h3] at h2
          exact ⟨a, ns, z, rfl, h2, hz, p⟩
        · exact p.elim
      · exact p.elim
    · exact p.elim
  · exact p.elim
def fSum : Fn1 := fInts fun ns => some (.int ns.sum)
theorem c_sum : CallM K (rSum K) fSum := by
  intro ρ S H ds vs Q E r q p
  obtain ⟨a, ns, z, rfl, h, e, p⟩ := ints_at r q p
  cases e
  exact ⟨a, ns, rfl, h, PostG.ok p r (.int _)⟩
def maxI : List Int → Int
  | [] => 0
  | [a] => a
  | a :: r => max a (maxI r)
def minI : List Int → Int
  | [] => 0
  | [a] => a
  | a :: r => min a (minI r)
theorem maxI_mem : ∀ {l : List Int}, l ≠ [] → maxI l ∈ l
  | [], h => absurd rfl h
  | [a], _ => by simp [maxI]
  | a :: b :: r, _ => by
    have ih := maxI_mem (l := b :: r) (by simp)
    show max a (maxI (b :: r)) ∈ _
    rcases Int.le_total a (maxI (b :: r)) with h | h
    · rw [Int.max_eq_right h]; exact List.mem_cons_of_mem _ ih
    · rw [Int.max_eq_left h]; exact List.mem_cons_self
theorem le_maxI : ∀ {l : List Int} {y : Int}, y ∈ l → y ≤ maxI l
  | [], y, h => by simp at h
  | [a], y, h => by simp at h; simp [maxI, h]
  | a :: b :: r, y, h => by
    show y ≤ max a (maxI (b :: r))
    rcases List.mem_cons.mp h with h | h
    · omega
    · have := le_maxI (l := b :: r) h; omega
theorem minI_mem : ∀ {l : List Int}, l ≠ [] → minI l ∈ l
  | [], h => absurd rfl h
  | [a], _ => by simp [minI]
  | a :: b :: r, _ => by
    have ih := minI_mem (l := b :: r) (by simp)
    show min a (minI (b :: r)) ∈ _
    rcases Int.le_total a (minI (b :: r)) with h | h
    · rw [Int.min_eq_left h]; exact List.mem_cons_self
    · rw [Int.min_eq_right h]; exact List.mem_cons_of_mem _ ih
theorem minI_le : ∀ {l : List Int} {y : Int}, y ∈ l → minI l ≤ y
  | [], y, h => by simp at h
  | [a], y, h => by simp at h; simp [minI, h]
  | a :: b :: r, y, h => by
    show min a (minI (b :: r)) ≤ y
    rcases List.mem_cons.mp h with h | h
    · omega
    · have := minI_le (l := b :: r) h; omega
def fMaxL : Fn1 := fInts fun ns => if ns = [] then none else some (.int (maxI ns))
def fMinL : Fn1 := fInts fun ns => if ns = [] then none else some (.int (minI ns))
theorem c_maxL : CallM K (rMax K) fMaxL := by
  intro ρ S H ds vs Q E r q p
  obtain ⟨a, ns, z, rfl, h, e, p⟩ := ints_at r q p
  split at e
  · cases e
  · rename_i hne
    cases e
    refine ⟨a, ns, rfl, h, List.length_pos_iff.mpr hne, fun m hm hy => ?_⟩
    have h1 := le_maxI hm
    have h2 := hy _ (maxI_mem hne)
    have : m = maxI ns := by omega
    rw [this]
    exact PostG.ok p r (.int _)
theorem c_minL : CallM K (rMin K) fMinL := by
  intro ρ S H ds vs Q E r q p
  obtain ⟨a, ns, z, rfl, h, e, p⟩ := ints_at r q p
  split at e
  · cases e
  · rename_i hne
    cases e
    refine ⟨a, ns, rfl, h, List.length_pos_iff.mpr hne, fun m hm hy => ?_⟩
    have h1 := minI_le hm
    have h2 := hy _ (minI_mem hne)
    have : m = minI ns := by omega
    rw [this]
    exact PostG.ok p r (.int _)
def fAll : Fn1 := fun ds S => match ds with
  | [d] => match getL S d with
    | some xs => match boolsD xs with
      | some ns => .ok (.bl (ns.all id)) S
      | none => .stuck
    | none => .stuck
  | _ => .stuck
theorem c_all : CallM K (rAll K) fAll := by
  intro ρ S H ds vs Q E r q p
  unfold fAll at p
  split at p
  · obtain ⟨v, rfl, qd⟩ := rel1 q
    split at p
    · rename_i xs hg
      split at p
      · rename_i ns hn
        obtain ⟨a, ws, rfl, h2, h3⟩ := getL_sq r qd hg
        rw [boolsD_eq hn] at h3
        rw [rel_bools h3] at h2
        exact ⟨a, ns, rfl, h2, PostG.ok p r (.bl _)⟩
      · exact p.elim
    · exact p.elim
  · exact p.elim
/-- list(x): a new list by value; one that may be changed -/
def fList : Fn1 := fun ds S => match ds with
  | [d] => match getQ S d with
    | some xs => .ok (.lst xs) S
    | none => .stuck
  | _ => .stuck
def fListN : Fn1 := fun ds S => match ds with
  | [d] => match getQ S d with
    | some xs => .ok (.ref S.length) (S ++ [.lst xs])
    | none => .stuck
  | _ => .stuck
theorem c_list : CallM K (fun xs H Q => ∃ p ys, xs = [.ref p] ∧ (SqL K H p ys ∨ SqT K H p ys) ∧ ∀ l, H l = none → Q (.ref l) (upd H l (.lst ys))) fList := by
  intro ρ S H ds vs Q E r q p
  unfold fList at p
  split at p
  · obtain ⟨v, rfl, qd⟩ := rel1 q
    split at p
    · rename_i xs hg
      obtain ⟨a, ws, rfl, h2, h3⟩ := getQ_sq r qd hg
      exact ⟨a, ws, rfl, h2, PostG.lst p r h3⟩
    · exact p.elim
  · exact p.elim
theorem c_listN : CallM K (fun xs H Q => ∃ p ys, xs = [.ref p] ∧ (SqL K H p ys ∨ SqT K H p ys) ∧ ∀ l, H l = none → Q (.ref l) (upd H l (.lst ys))) fListN := by
  intro ρ S H ds vs Q E r q p
  unfold fListN at p
  split at p
  · obtain ⟨v, rfl, qd⟩ := rel1 q
    split at p
    · rename_i xs hg
      obtain ⟨a, ws, rfl, h2, h3⟩ := getQ_sq r qd hg
      exact ⟨a, ws, rfl, h2, PostG.new p r h3⟩
    · exact p.elim
  · exact p.elim
def fTuple : Fn1 := fun ds S => match ds with
  | [.xtup xs] => .ok (.xtup xs) S
  | [d] => match getQ S d with
    | some xs => .ok (.tup xs) S
    | none => .stuck
  | _ => .stuck
theorem c_tuple : CallM K (fun xs H Q => ∃ p ys, xs = [.ref p] ∧ ((SqL K H p ys ∧ ∀ l, H l = none → Q (.ref l) (upd H l (.tup ys))) ∨ (SqT K H p ys ∧ Q (.ref p) H))) fTuple := by
  intro ρ S H ds vs Q E r q p
  unfold fTuple at p
  split at p
  · obtain ⟨v, rfl, qd⟩ := rel1 q
    have qd' := qd
    cases qd with
    | @xtup _ vs a o hH hx n l qv => exact ⟨a, vs, rfl, .inr ⟨.inl (.inr ⟨o, hH⟩), PostG.ok p r qd'⟩⟩
  · rename_i d hne
    obtain ⟨v, rfl, qd⟩ := rel1 q
    split at p
    · rename_i xs hg
      unfold getQ at hg
      split at hg
      · rename_i ys hl
        cases hg
        obtain ⟨a, ws, rfl, h2, h3⟩ := getL_sq r qd hl
        exact ⟨a, ws, rfl, .inl ⟨h2, PostG.tup p r h3⟩⟩
      · obtain ⟨a, ws, rfl, h2, h3⟩ := getTx_sq qd hg
        have : d = .tup xs := by
          cases d <;> simp only [getTx] at hg <;> first | (cases hg; rfl) | cases hg
          all_goals exact (hne _ rfl).elim
        subst this
        exact ⟨a, ws, rfl, .inr ⟨h2, PostG.ok p r qd⟩⟩
    · exact p.elim
  · exact p.elim
/-- int(x) -/
def fInt : Fn1 := fun ds S => match ds with
  | [.int i] => .ok (.int i) S
  | [.bl k] => .ok (.int (if k then 1 else 0)) S
  | _ => .stuck
theorem c_int : CallM K (fun xs H Q => (∃ i, xs = [.int i] ∧ Q (.int i) H) ∨ ∃ k, xs = [.bl k] ∧ Q (.int (if k then 1 else 0)) H) fInt := by
  intro ρ S H ds vs Q E r q p
  unfold fInt at p
  split at p
  · obtain ⟨v, rfl, qd⟩ := rel1 q
    cases qd
    exact .inl ⟨_, rfl, PostG.ok p r (.int _)⟩
  · obtain ⟨v, rfl, qd⟩ := rel1 q
    cases qd
    exact .inr ⟨_, rfl, PostG.ok p r (.int _)⟩
  · exact p.elim
end
end SF

/-! methods, what is walked. -/
namespace SF
open PySem L2
section
variable {K : PySem.W.Frag} {ρ : Rho K} {S : Sto} {H : Hp} {X : Cx} {E : XK} {a b : Expr} {ma mb : Exp} {pos : Pos}
/-! ### methods of built-in types -/
abbrev Fm := D → List D → Sto → R D
def MtO (K : PySem.W.Frag) (r : V → List V → Hp → VK → Prop) (f : Fm) : Prop := ∀ (ρ : Rho K) (S : Sto) (H : Hp) (d : D) (v : V) (ds : List D) (vs : List V) (Q : VK) (E : XK), Rel ρ H S → RelD ρ S H d v → RelDs ρ S H ds vs → Post (f d ds S) ρ S H Q E → r v vs H Q
def tyOk (T : String) (S : Sto) (d : D) : Bool := match T with
  | "list" => (getL S d).isSome
  | "str" => match d with
    | .str _ => true
    | _ => false
  | _ => false
theorem tyOk_rel {T : String} {d : D} {v : V} (r : Rel ρ H S) (h : RelD ρ S H d v) (e : tyOk T S d = true) : tyV K T v H := by
  unfold tyOk at e
  split at e
  · obtain ⟨ds, hd⟩ := Option.isSome_iff_exists.mp e
    obtain ⟨a, vs, rfl, h2, _⟩ := getL_sq r h hd
    exact .inl ⟨rfl, vs, h2⟩
  · split at e
    · cases h; rfl
    · cases e
  · cases e
def eMt (T : String) (f : Fm) (o : Exp) (ms : Exps) : Exp := fun en S => (o en S).bind fun x S1 => if tyOk T S1 x = true then (ms en S1).bind fun ds S2 => f x ds S2 else .stuck
theorem tBM_of {T : String} {r : V → List V → Hp → VK → Prop} {f : Fm} {mo : Exp} {ms : Exps} (h : MtO K r f) {σ : L2.St} {Q : VK} (t : tM K E (eMt T f mo ms) σ H Q) : tBM K T r (tM K E mo) (tMA K E ms) σ H Q := by
  obtain ⟨ρ, S, en, rr, re, p⟩ := t
  refine ⟨ρ, S, en, rr, re, PostG.mono (PostG.bind (RR := RelD) p) ?_⟩
  rintro x H1 ⟨c, ρ1, S1, _, e1, r1, q1, p1⟩
  split at p1
  · rename_i ht
    refine ⟨tyOk_rel r1 q1 ht, ρ1, S1, en, r1, re.mono e1, PostG.mono (PostG.bind (RR := RelDs) p1) ?_⟩
    rintro xs H2 ⟨ds, ρ2, S2, _, e2, r2, q2, p2⟩
    exact h ρ2 S2 H2 c x ds xs Q E r2 (q1.mono e2) q2 p2
  · exact p1.elim
theorem tBM0_of {T : String} {r : V → List V → Hp → VK → Prop} {f : Fm} {mo : Exp} (h : MtO K r f) {σ : L2.St} {Q : VK} (t : tM K E (eMt T f mo aN) σ H Q) : tBM0 K T r (tM K E mo) σ H Q := by
  obtain ⟨ρ, S, en, rr, re, p⟩ := t
  refine ⟨ρ, S, en, rr, re, PostG.mono (PostG.bind (RR := RelD) p) ?_⟩
  rintro x H1 ⟨c, ρ1, S1, _, e1, r1, q1, p1⟩
  split at p1
  · rename_i ht
    exact ⟨tyOk_rel r1 q1 ht, h ρ1 S1 H1 c x [] [] Q E r1 q1 RelDs.nil p1⟩
  · exact p1.elim
def fApp : Fm := fun x ds S => match x, ds with
  | .ref i, [y] => match S[i]? with
    | some (.lst xs) => if xs.length < 100000 then .ok .non (S.set i (.lst (xs ++ [y]))) else .stuck
    | _ => .stuck
  | _, _ => .stuck
theorem PostG.write {i : Nat} {c c' : Cell} {p : Addr} {o : HO} {d : D} {v : V} {Q : VK} (pp : Post (.ok d (S.set i c')) ρ S H Q E) (r : Rel ρ H S) (ha : ρ.own[i]? = some p) (hc : S[i]? = some c) (n : c ≠ .dead) (n' : c' ≠ .dead) (hr : RelC ρ (S.set i c') (upd H p o) p c')
    (hd : RelD ρ (S.set i c') (upd H p o) d v) : Q v (upd H p o) := pp v _ ρ (Ext.write r ha hc n n') (r.write ha hc n n' hr) hd
theorem mo_app : MtO K rAppend fApp := by
  intro ρ S H d v ds vs Q E r q qs p
  unfold fApp at p
  split at p
  · rename_i i y
    obtain ⟨w, rfl, qy⟩ := rel1 qs
    cases q with
    | @ref _ a ha =>
      split at p
      · rename_i xs hS
        split at p
        · rename_i hl
          obtain ⟨us, hH, rk⟩ := r.cell i a _ ha hS
          have n1 : Cell.lst xs ≠ .dead := by intro z; cases z
          have n2 : Cell.lst (xs ++ [y]) ≠ .dead := by intro z; cases z
          have e4 : Ext ρ S H ρ (S.set i (.lst (xs ++ [y]))) (upd H a (.lst (us ++ [w]))) := Ext.write r ha hS n1 n2
          exact ⟨a, us, w, rfl, rfl, hH, sz_lt (by rw [← rk.1]; exact hl), PostG.write p r ha hS n1 n2 ⟨_, upd_same, (rk.mono e4).append (RelDs.cons (qy.mono e4) RelDs.nil)⟩ .non⟩
        · exact p.elim
      · exact p.elim
  · exact p.elim
/-- d.get(k, z) -/
def eGet (o k z : Exp) : Exp := fun en S => (o en S).bind fun x S1 => match getD S1 x with
  | some _ => (k en S1).bind fun y S2 => (z en S2).bind fun w S3 => match getD S3 x, keyD y with
    | some kvs, some k => .ok ((valD kvs k).getD w) S3
    | _, _ => .stuck
  | none => .stuck
theorem pm_get {k : Nat} {o e f : Expr} {mo me mf : Exp} {apos cpos : Pos} (c : Ctx X E k) (ho : PM X E o mo) (he : PM X E e me) (hf : PM X E f mf) (m : M2 X o "get" apos e f cpos) : PM X E (.Call (.Attribute o "get" apos) [e, f] [] cpos) (eGet mo me mf) := by
  refine ⟨fun pins s σ H Q I t => (pe_dget2 c.hu1 ho he hf m).run pins s σ H Q I ?_⟩
  obtain ⟨ρ, S, en, rr, re, p⟩ := t
  refine ⟨ρ, S, en, rr, re, PostG.mono (PostG.bind (RR := RelD) p) ?_⟩
  rintro x H1 ⟨d, ρ1, S1, _, e1, r1, q1, p1⟩
  split at p1
  · rename_i kv0 hg0
    obtain ⟨a0, vs0, rfl, hR0, _⟩ := getD_at r1 q1 hg0
    refine ⟨a0, rfl, .inl ⟨vs0, hR0⟩, ρ1, S1, en, r1, re.mono e1, PostG.mono (PostG.bind (RR := RelD) p1) ?_⟩
    rintro y H2 ⟨dy, ρ2, S2, _, e2, r2, q2, p2⟩
    refine ⟨ρ2, S2, en, r2, (re.mono e1).mono e2, PostG.mono (PostG.bind (RR := RelD) p2) ?_⟩
    rintro z H3 ⟨dz, ρ3, S3, _, e3, r3, q3, p3⟩
    split at p3
    · rename_i kvs k hg hk
      obtain ⟨a, vs, ea, hR, rk⟩ := getD_at r3 ((q1.mono e2).mono e3) hg
      cases ea
      have hy := keyD_rel (q2.mono e3) hk
      refine ⟨valV vs k, .inl ⟨vs, k, hR, hy, rfl⟩, ?_⟩
      obtain ⟨h1, h2⟩ := RelK.val (k := k) rk
      cases hv : valD kvs k with
      | none => rw [hv] at p3; rw [h2 hv]; exact PostG.ok p3 r3 q3
      | some dd =>
        rw [hv] at p3
        obtain ⟨v, e5, rv⟩ := h1 dd hv
        rw [e5]
        exact PostG.ok p3 r3 rv
    · exact p3.elim
  · exact p1.elim

/-! ### what is walked -/
theorem wk_at {J : It} {ds : List D} {vs : List V} {chk : Sto → Prop} {G : Hp → Prop} (hc : chk S) (w : Walk J vs.length G (YAt vs)) (hl : ds.length = vs.length) (hG : ∀ (ρ' : Rho K) S' H', Ext0 ρ S H ρ' S' H' → Rel ρ' H' S' → chk S' → G H' ∧ RelDs ρ' S' H' ds vs) : WkOk J (ds, chk) ρ S H := by
  refine ⟨hc, G, YAt vs, by rw [hl]; exact w, fun ρ' S' H' e r c => (hG ρ' S' H' e r c).1, fun i d ρ' S' H' x H'' hd e r c y => ?_⟩
  obtain ⟨rfl, hx⟩ := y
  exact ⟨Ext.refl _ _ _, r, (hG ρ' S' H'' e r c).2.2 i d x hd hx⟩
def iSeq (m : Exp) : Itm := fun en S => (m en S).bind fun x S1 => match x with
  | .lst ds => .ok (ds, fun _ => True) S1
  | .tup ds => .ok (ds, fun _ => True) S1
  | .xtup ds => .ok (ds, fun _ => True) S1
  | .ref i => match S1[i]? with
    | some (.lst ds) => .ok (ds, fun S => S[i]? = some (.lst ds)) S1
    | _ => .stuck
  | _ => .stuck
theorem pmi_seq {tg e : Expr} {m : Exp} (h : PM X E e m) : PMI X E tg e (iSeq m) := by
  refine ⟨fun pins s σ H Rr I t => ?_⟩
  obtain ⟨ρ, S, en, rr, re, p⟩ := t
  cases hm : m en S with
  | stuck => unfold iSeq at p; rw [hm] at p; exact p.elim
  | exc x S1 => exact (pi_list h).run pins s σ H Rr I ⟨ρ, S, en, rr, re, by unfold iSeq at p; rw [hm] at p ⊢; exact p⟩
  | ok c S1 =>
    by_cases ht : ∃ ds, c = .tup ds
    · obtain ⟨ds, rfl⟩ := ht
      refine (pi_tup h).run pins s σ H Rr I ⟨ρ, S, en, rr, re, PostG.mono (PostG.bind (RR := RelD) p) ?_⟩
      rintro x H1 ⟨c', ρ1, S1', e0, e1, r1, q1, p1⟩
      rw [hm] at e0; cases e0
      cases q1 with
      | @tup _ vs a hH n l q =>
        refine ⟨a, rfl, ⟨vs, SqT.of hH⟩, PostG.ok p1 r1 (wk_at trivial walk_tup l fun ρ' S' H' ex r' _ => ⟨SqT.of (ex.frame _ _ hH n).1, l, fun i d v e1 e2 => (q i d v e1 e2).mono0 ex⟩)⟩
    · by_cases hxt : ∃ ds, c = .xtup ds
      · obtain ⟨ds, rfl⟩ := hxt
        refine (pi_tup h).run pins s σ H Rr I ⟨ρ, S, en, rr, re, PostG.mono (PostG.bind (RR := RelD) p) ?_⟩
        rintro x H1 ⟨c', ρ1, S1', e0, e1, r1, q1, p1⟩
        rw [hm] at e0; cases e0
        cases q1 with
        | @xtup _ vs a o hH hx n l q =>
          exact ⟨a, rfl, ⟨vs, .inl (.inr ⟨o, hH⟩)⟩, PostG.ok p1 r1 (wk_at trivial walk_tup l fun ρ' S' H' ex r' _ => ⟨.inl (.inr ⟨o, (ex.frame _ _ hH n).1⟩), l, fun i d v e1 e2 => (q i d v e1 e2).mono0 ex⟩)⟩
      refine (pi_list h).run pins s σ H Rr I ⟨ρ, S, en, rr, re, PostG.mono (PostG.bind (RR := RelD) p) ?_⟩
      rintro x H1 ⟨c', ρ1, S1', e0, e1, r1, q1, p1⟩
      rw [hm] at e0; cases e0
      cases q1 with
      | xtup => exact absurd ⟨_, rfl⟩ hxt
      | @lst _ vs a hH n l q =>
        exact ⟨a, rfl, ⟨vs, SqL.of hH⟩, PostG.ok p1 r1 (wk_at trivial walk_list l fun ρ' S' H' ex r' _ => ⟨SqL.of (ex.frame _ _ hH n).1, l, fun i d v e1 e2 => (q i d v e1 e2).mono0 ex⟩)⟩
      | @ref i a ha =>
        dsimp only at p1
        split at p1
        · rename_i ds hS
          obtain ⟨vs, hH, rk⟩ := r1.cell i a _ ha hS
          refine ⟨a, rfl, ⟨vs, SqL.of hH⟩, ?_⟩
          refine PostG.ok p1 r1 ?_
          refine ⟨hS, (fun H' => ∃ (ρ' : Rho X.K) (S' : Sto), Rel ρ' H' S' ∧ ρ'.own[i]? = some a ∧ S'[i]? = some (.lst ds)), (fun j H' x H'' => H'' = H' ∧ ∀ ws, SqL X.K H' a ws → ws[j]? = some x), ?_, ?_, ?_⟩
          · refine ⟨fun j H' hj hq => ?_, fun H' hq => ?_, fun j H' y H'' hj hq yy => ?_⟩
            · obtain ⟨ρ', S', r', h1, h2⟩ := hq
              obtain ⟨ws, hH', rk'⟩ := r'.cell i a _ h1 h2
              have hjw : j < ws.length := by rw [← rk'.1]; exact hj
              exact ⟨ws, ws[j], SqL.of hH', List.getElem?_eq_getElem hjw⟩
            · obtain ⟨ρ', S', r', h1, h2⟩ := hq
              obtain ⟨ws, hH', rk'⟩ := r'.cell i a _ h1 h2
              exact ⟨ws, SqL.of hH', by rw [← rk'.1]; exact Nat.le_refl _⟩
            · exact yy
          · intro ρ' S' H' ex r' hc
            exact ⟨ρ', S', r', ex.pre i a ha, hc⟩
          · intro j d ρ' S' H' y H'' hd ex r' hc yy
            obtain ⟨rfl, hw⟩ := yy
            obtain ⟨us, hH', rk'⟩ := r'.cell i a _ (ex.pre i a ha) hc
            exact ⟨Ext.refl _ _ _, r', rk'.2 j d y hd (hw us (SqL.of hH'))⟩
        · exact p1.elim
      | tup _ _ _ _ => exact absurd ⟨_, rfl⟩ ht
      | _ => exact p1.elim
/-! range -/
def rngD (lo : Int) (n : Nat) : List D := (List.range n).map fun i : Nat => .int (lo + (i : Int))
theorem wk_rng {lo : Int} {n : Nat} : WkOk (Itr lo n) (rngD lo n, fun _ => True) ρ S H := by
  refine ⟨trivial, (fun _ => True), YFn fun i => .int (lo + i), by show Walk _ (rngD lo n).length _ _; rw [rngD, List.length_map, List.length_range]; exact walk_range, fun _ _ _ _ _ _ => trivial, fun i d ρ' S' H' x H'' hd _ r _ y => ?_⟩
  obtain ⟨rfl, rfl⟩ := y
  refine ⟨Ext.refl _ _ _, r, ?_⟩
  change (rngD lo n)[i]? = some d at hd
  unfold rngD at hd
  rw [List.getElem?_map] at hd
  cases h : (List.range n)[i]? with
  | none => rw [h] at hd; cases hd
  | some j =>
    rw [h] at hd
    have hj : j = i := by
      obtain ⟨h1, h2⟩ := List.getElem?_eq_some_iff.mp h
      simpa using h2.symm
    subst hj
    cases hd
    exact .int _
def iR1 (m : Exps) : Itm := fun en S => (m en S).bind fun ds S1 => match ds with
  | [.int n] => if -1000000 ≤ n ∧ n ≤ 1000000 then .ok (rngD 0 n.toNat, fun _ => True) S1 else .stuck
  | _ => .stuck
def iR2 (m : Exps) : Itm := fun en S => (m en S).bind fun ds S1 => match ds with
  | [.int a, .int b] => if (-1000000 ≤ a ∧ a ≤ 1000000) ∧ -1000000 ≤ b ∧ b ≤ 1000000 then .ok (rngD a (b - a).toNat, fun _ => True) S1 else .stuck
  | _ => .stuck
theorem pmi_r1 {tg e : Expr} {m : Exp} {p : Pos} (hg : Gl X "range") (hm : X.mg "range" = none) (h : PM X E e m) (hs : starEach [e] X.env = [(false, eval e X.env)] := by rfl) : PMI X E tg (.Call (.Name "range" p) [e] [] pos) (iR1 (aC m aN)) := by
  refine ⟨fun pins s σ H Rr I t => (pi_range1 hg hm (pma_cons h pma_nil hs) hs).run pins s σ H Rr I ?_⟩
  obtain ⟨ρ, S, en, rr, re, p⟩ := t
  refine ⟨ρ, S, en, rr, re, PostG.mono (PostG.bind (RR := RelDs) p) ?_⟩
  rintro xs H1 ⟨ds, ρ1, S1, _, e1, r1, q1, p1⟩
  split at p1
  · obtain ⟨v, rfl, qv⟩ := rel1 q1
    cases qv
    split at p1
    · rename_i hn
      exact ⟨_, rfl, by omega, by omega, PostG.ok p1 r1 wk_rng⟩
    · exact p1.elim
  · exact p1.elim
theorem pmi_r2 {tg e f : Expr} {m m2 : Exp} {p : Pos} (hg : Gl X "range") (hm : X.mg "range" = none) (h : PM X E e m) (h2 : PM X E f m2) (hs : starEach [e, f] X.env = [(false, eval e X.env), (false, eval f X.env)] := by rfl) (hs2 : starEach [f] X.env = [(false, eval f X.env)] := by rfl) :
    PMI X E tg (.Call (.Name "range" p) [e, f] [] pos) (iR2 (aC m (aC m2 aN))) := by
  refine ⟨fun pins s σ H Rr I t => (pi_range2 hg hm (pma_cons h (pma_cons h2 pma_nil hs2) (by rw [hs, hs2])) hs hs2).run pins s σ H Rr I ?_⟩
  obtain ⟨ρ, S, en, rr, re, p⟩ := t
  refine ⟨ρ, S, en, rr, re, PostG.mono (PostG.bind (RR := RelDs) p) ?_⟩
  rintro xs H1 ⟨ds, ρ1, S1, _, e1, r1, q1, p1⟩
  split at p1
  · obtain ⟨v, w, rfl, qv, qw⟩ := rel2 q1
    cases qv; cases qw
    split at p1
    · rename_i hn
      exact ⟨_, _, rfl, ⟨by omega, by omega, by omega, by omega⟩, PostG.ok p1 r1 wk_rng⟩
    · exact p1.elim
  · exact p1.elim
end
end SF

/-! enumerate and zip over lists and tuples, in any mix. -/
namespace SF
open PySem L2
inductive Kd where
  | l | t
def Sq (k : Kd) (K : PySem.W.Frag) (H : Hp) (a : Addr) (xs : List V) : Prop := match k with
  | .l => SqL K H a xs
  | .t => SqT K H a xs
def itO (k : Kd) (a : Addr) : Obj := { cls := .type (match k with | .l => "list_iterator" | .t => "tuple_iterator"), data := .fields #[.ref a, .int 0 0] }
def IsIt (k : Kd) (h : Heap) (it a : Addr) (i : Nat) : Prop := match k with
  | .l => h.IsListIter it a i
  | .t => h.IsTupleIter it a i
def IsSq (k : Kd) (h : Heap) (a : Addr) (items : Array Value) : Prop := match k with
  | .l => h.IsList a items
  | .t => h.IsTuple a items
theorem draws_kd (k : Kd) {prog : Program} {w : World} {A : Around} (hh : A.handled = none) (it a : Addr) (hne : a ≠ it) (items : Array Value) : Draws prog w A it [it, a] items.size (fun i v => items[i]? = some v) (fun i h => IsIt k h it a i ∧ IsSq k h a items) := by
  cases k with
  | l => exact Draws.list hh it a hne items
  | t => exact Draws.tuple hh it a hne items
theorem begins_kd (k : Kd) (a : Addr) (items : Array Value) : Begins (.ref a) (itO k a) fun h => IsSq k h a items := by
  cases k with
  | l => exact begins_list a items
  | t => exact begins_tuple a items
theorem IsIt.at {k : Kd} {h h' : Heap} {it a : Addr} {i : Nat} (x : IsIt k h it a i) (f : ∀ o, h.get? it = some o → h'.get? it = some o) : IsIt k h' it a i := by
  cases k with
  | l => exact Heap.IsListIter.at x f
  | t => exact Heap.IsTupleIter.at x f
theorem IsIt.obj {k : Kd} {h : Heap} {it a : Addr} {i : Nat} (x : IsIt k h it a i) : ∃ o, h.get? it = some o ∧ ∀ v, o.data ≠ .cell v := by
  cases k with
  | l => obtain ⟨o, e, _, d⟩ := x; exact ⟨o, e, fun v q => by rw [d] at q; cases q⟩
  | t => obtain ⟨o, e, _, d⟩ := x; exact ⟨o, e, fun v q => by rw [d] at q; cases q⟩
theorem isIt_new (k : Kd) {h : Heap} {it a : Addr} (e : h.get? it = some (itO k a)) : IsIt k h it a 0 := by
  cases k with
  | l => exact ⟨_, e, rfl, rfl⟩
  | t => exact ⟨_, e, rfl, rfl⟩
theorem inv_sq {k : Kd} {X : Cx} {pins : List (Addr × Obj)} {σ : L2.St} {H : Hp} {s : Shared} {a : Addr} {xs : List V} (I : Inv X pins σ H s) (h : Sq k X.K H a xs) : ∃ its : List Value, Vals xs its ∧ IsSq k s.heap a its.toArray ∧ a < s.heap.objs.size := by
  cases k with
  | l => obtain ⟨its, r, p, _⟩ := I.list h; exact ⟨its, r, p.isList, p.lt⟩
  | t => obtain ⟨its, r, p, _⟩ := I.tuple h; exact ⟨its, r, p, p.lt⟩
theorem inv_sq_inj {k : Kd} {X : Cx} {pins : List (Addr × Obj)} {σ : L2.St} {H : Hp} {s : Shared} {a : Addr} {xs ys : List V} (I : Inv X pins σ H s) (h : Sq k X.K H a xs) (h' : Sq k X.K H a ys) : xs = ys := by
  cases k with
  | l => exact I.list_inj h h'
  | t => exact I.tuple_inj h h'
/-- enumerate(..): the items in new pairs -/
def Itek (k : Kd) (K : PySem.W.Frag) (a : Addr) : It :=
  ⟨fun i H => ∃ (xs : List V) (x : V), Sq k K H a xs ∧ xs[i]? = some x, fun i H v H' => ∃ T x, v = .ref T ∧ H T = none ∧ H' = upd H T (.tup [.int (i : Nat), x]) ∧ ∀ xs, Sq k K H a xs → xs[i]? = some x, fun i H => ∃ xs : List V, Sq k K H a xs ∧ xs.length = i⟩
theorem turn_enumK (k : Kd) {P : Program} {w : World} {K : PySem.W.Frag} {elts : List Expr} {kk : Nat} {tpos : Pos} (a e it : Addr) (hea : e ≠ a) (hia : a ≠ it) :
    Turn P w K (.Tuple elts kk tpos) (Itek k K a) [e, it] e (fun i h => (∃ old, IsEnum h e it ((i : Nat) : Int) old) ∧ IsIt k h it a i ∧ e ≠ it) where
  mem := by simp
  obj := fun i h st b hb => by
    obtain ⟨⟨old, he⟩, hi, _⟩ := st
    have e' : b = e ∨ b = it := by simpa using hb
    rcases e' with z | z
    · rw [z]; exact ⟨_, he, fun v q => nomatch q⟩
    · rw [z]; exact hi.obj
  keep := fun i h h' st k => let ⟨⟨old, he⟩, hi, hne⟩ := st; ⟨⟨old, k e (by simp) _ he⟩, hi.at fun o q => k it (by simp) o q, hne⟩
  item := by
    intro X hP hw hK hc i pins s σ H E I hf st hg
    subst hP hw hK
    obtain ⟨⟨old, he⟩, hit, hne⟩ := st
    obtain ⟨xs, x, hq, hx⟩ := hg
    obtain ⟨its, rv, p, hz⟩ := inv_sq I hq
    obtain ⟨u, hu, ru⟩ := rv.get hx
    have hel : e < s.heap.objs.size := Heap.lt_size he
    have hil : it < s.heap.objs.size := by obtain ⟨_, q, _⟩ := hit.obj; exact Heap.lt_size q
    have hin : i < its.toArray.size := by
      have := (List.getElem?_eq_some_iff.mp hu).1
      simpa using this
    refine wpAny_pyNext_enum_itemD (draws_kd k (by exact I.ok.hd hc) it a hia its.toArray) he ⟨hit, p⟩ hin hne (by simp [hne, hea]) fun u' h' tk hu' ho hst' hT hsz hk => ?_
    have eu : u' = u := by
      have h1 : its.toArray[i]? = some u := by simpa using hu
      rw [h1] at hu'
      exact (Option.some.inj hu').symm
    subst eu
    refine ⟨_, rfl, wpAny_letOwnedTupleGo_enum (s := { s with heap := h', toks := tk + 1 }) ho fun h'' he' sb => ?_⟩
    have hT2 : h''.get? s.heap.objs.size = some { cls := .type "tuple", data := .seq #[.int i tk, u'] } := (sb.2 _ (Nat.ne_of_gt hel)).trans hT
    have new : ObjOk X.prog X.w (upd H s.heap.objs.size (.tup [.int (i : Nat), x])) h'' s.heap.objs.size (.tup [.int (i : Nat), x]) :=
      ⟨by show 2 ≤ sizeLine; decide, [.int i tk, u'], .cons ⟨_, rfl⟩ (.cons ru .nil), ⟨_, hT2, rfl, _, rfl⟩⟩
    have I1 : Inv X pins σ (upd H s.heap.objs.size (.tup [.int (i : Nat), x])) { s with heap := h'', toks := tk + 1 } :=
      I.turnedNew (ch := [e, it]) (fun b ob hb q => (sb.2 b (fun z => hb (by simp [z]))).trans (hk b ob (fun z => hb (by simp [z])) (fun z => hb (by simp [z])) q)) hf (Nat.le_refl _) new
    refine ⟨.ref s.heap.objs.size, _, I1, rfl, ⟨_, x, rfl, I.hok.fresh (Nat.le_refl _), rfl, fun ys hy => by rw [inv_sq_inj I hy hq]; exact hx⟩, ⟨⟨u', ?_⟩, hst'.1.at fun o q => (sb.2 it (Ne.symm hne)).trans q, hne⟩, fun b hb => ?_⟩
    · have e1 : ((i + 1 : Nat) : Int) = (i : Int) + 1 := by omega
      rw [e1]; exact he'
    · have hb' : b < s.heap.objs.size := by
        have e' : b = e ∨ b = it := by simpa using hb
        rcases e' with z | z
        · rw [z]; exact hel
        · rw [z]; exact hil
      rw [upd_ne (Nat.ne_of_lt hb')]
      exact (hf b hb).1
  done := by
    intro X hP hw hK hc i pins s σ H E I hf st hg
    subst hP hw hK
    obtain ⟨⟨old, he⟩, hit, hne⟩ := st
    obtain ⟨xs, hq, hx⟩ := hg
    obtain ⟨its, rv, p, hz⟩ := inv_sq I hq
    obtain ⟨f0, f1, f2, f3, f4, f5⟩ := hf it (by simp)
    have hl := rv.length
    have hn : i = its.toArray.size := by simp; omega
    rw [hn] at hit
    exact wpAny_pyNext_enum_endD (draws_kd k (by exact I.ok.hd hc) it a hia its.toArray) he ⟨hit, p⟩ fun h' eb => ⟨rfl, I.turned (t' := s.toks) (fun b o hb q => eb b o hb q) f0 f1 f3 f4 f5⟩
  self := fun A i s Q E st h => let ⟨⟨_, he⟩, _⟩ := st; wpAny_pyIter_enum he h
open AutoSeq1 (wpAny_loadPart') in
theorem meets_enum_newT (l : Addr) (items : Array Value) (n : Nat) (dct : Option Addr) (sl : Array (Option Value)) :
    Meets (Builtin.«enumerate.__new__» ⟨[.type "enumerate", .ref l], []⟩) (fun _ R s => s.heap.get? l = some { cls := .type "tuple", dict := dct, data := .seq items n, slots := sl } ∧
      R (.ok (.ret (.ref (s.heap.push { cls := .type "tuple_iterator", data := .fields #[.ref l, .int 0 0] }).objs.size)))
        { s with heap := (s.heap.push { cls := .type "tuple_iterator", data := .fields #[.ref l, .int 0 0] }).push { cls := .type "enumerate", data := .fields #[.none, .bool false, .ref s.heap.objs.size, rawInt 0, .none, .none] } }) :=
  .of_wp fun prog w A R s h => by
    obtain ⟨hp, g, d, tk, os⟩ := s; obtain ⟨hl, h⟩ := h
    have hsub := sub_enumerate
    have hL : Heap.IsTuple (Shared.heap ⟨hp, g, d, tk, os⟩) l items := ⟨_, hl, rfl, n, rfl⟩
    wp_walk using wpAny_loadPart' hl
    refine wpAny_stack_any fun st => wpAny_pure ?_
    split
    · rename_i c _ _ _ _ _
      cases (c == Value.type "enumerate")
      · wp_walk using wpAny_loadPart' hl, wpAny_pyIter_tuple hL
        exact ⟨_, rfl, h⟩
      · wp_walk using wpAny_loadPart' hl, wpAny_pyIter_tuple hL
        exact ⟨_, rfl, h⟩
    · wp_walk using wpAny_loadPart' hl, wpAny_pyIter_tuple hL
      exact ⟨_, rfl, h⟩
section
variable {prog : Program} {w : World} {A : Around} {E : Value → Shared → Prop} {s : Shared}
theorem call_enumK (k : Kd) {l : Addr} {items : Array Value} {Q : Value → Shared → Prop} (hL : IsSq k s.heap l items)
    (h : ∀ h', IsEnum h' (s.heap.objs.size + 1) s.heap.objs.size 0 .none → IsIt k h' s.heap.objs.size l 0 → h'.objs.size = s.heap.objs.size + 2 →
      (∀ b o, s.heap.get? b = some o → h'.get? b = some o) → Q (.ref (s.heap.objs.size + 1)) { s with heap := h' }) :
    wpAny (model prog w) A (call (.type "enumerate") [.ref l]) Q E s := by
  cases k with
  | l => exact call_enumerate_list hL h
  | t =>
    obtain ⟨⟨c, dct, dt, sl⟩, hl, hc, n, hd⟩ := hL
    replace hc : c = .type "tuple" := hc
    replace hd : dt = .seq items n := hd
    subst hc hd
    refine callType_new F.called_enumerate (by decide) (F.typeCall_enumerate_1 _) (F.newCall_enumerate_1 _) (fun obj => F.args_object_init_2 obj _) F.entry_enumerate_new
      (meets_enum_newT l items n dct sl) ⟨hl, ?_⟩
    have hz : (s.heap.push { cls := .type "tuple_iterator", data := .fields #[.ref l, .int 0 0] }).objs.size = s.heap.objs.size + 1 := Heap.size_push ..
    show _ ∧ _
    rw [hz]
    have he : IsEnum ((s.heap.push { cls := .type "tuple_iterator", data := .fields #[.ref l, .int 0 0] }).push
        { cls := .type "enumerate", data := .fields #[.none, .bool false, .ref s.heap.objs.size, rawInt 0, .none, .none] }) (s.heap.objs.size + 1) s.heap.objs.size 0 .none := by
      have := Heap.get?_push_size (s.heap.push { cls := .type "tuple_iterator", data := .fields #[.ref l, .int 0 0] })
        (o := { cls := .type "enumerate", data := .fields #[.none, .bool false, .ref s.heap.objs.size, rawInt 0, .none, .none] }) rfl
      rw [hz] at this; exact this
    refine ⟨⟨_, he, rfl⟩, h _ he ⟨_, Heap.get?_push_of_some _ (Heap.get?_push_size _ rfl), rfl, rfl⟩ (by rw [Heap.size_push, hz]) fun b o x => Heap.get?_push_of_some _ (Heap.get?_push_of_some _ x)⟩
end
def iEnumK (K : PySem.W.Frag) (ta : TA) : TI := fun σ H R => ta σ H fun vs H1 => ∃ k a xs, vs = [.ref a] ∧ Sq k K H1 a xs ∧ R (Itek k K a) H1
theorem pi_enumK {X : Cx} {e : Expr} {ta : TA} {p pos tpos : Pos} {elts : List Expr} {kk : Nat} (hg : Gl X "enumerate") (hm : X.mg "enumerate" = none) (ha : PA X [e] ta) (hs : starEach [e] X.env = [(false, eval e X.env)] := by rfl) :
    PI X (.Tuple elts kk tpos) (.Call (.Name "enumerate" p) [e] [] pos) (iEnumK X.K ta) := by
  refine ⟨fun pins s σ H R I h => ?_⟩
  refine PyProof.Rows.Call_ (ld_blt I hg hm PyProof.Rows.boot_enumerate (PyProof.Rows.callWith_type1 (thn (ha.run pos pins s σ H _ I h) fun us s1 ⟨vs, H1, I1, r1, q1⟩ => ?_) hs rfl))
  obtain ⟨k, a, xs, ex, hq, q⟩ := q1
  subst ex
  cases r1 with
  | cons r rr =>
    cases rr
    cases r
    obtain ⟨its, rv, p', hz⟩ := inv_sq I1 hq
    refine call_enumK k p' fun h' he hit hsz hk => wpAny_pyIter_enum he ?_
    have I2 : Inv X pins σ H1 { s1 with heap := h' } := I1.kept (t' := s1.toks) hk
    have n1 : s1.heap.objs.size + 1 ≠ a := Nat.ne_of_gt (Nat.lt_succ_of_lt hz)
    have n2 : a ≠ s1.heap.objs.size := Nat.ne_of_lt hz
    refine ⟨s1.heap.objs.size + 1, [s1.heap.objs.size + 1, s1.heap.objs.size], _, _, H1, rfl, I2, turn_enumK k a (s1.heap.objs.size + 1) s1.heap.objs.size n1 n2, ⟨⟨.none, he⟩, hit, Nat.succ_ne_self _⟩, fun b hb => ?_, q⟩
    have e' : b = s1.heap.objs.size + 1 ∨ b = s1.heap.objs.size := by simpa using hb
    have hle : s1.heap.objs.size ≤ b := by
      rcases e' with z | z
      · rw [z]; exact Nat.le_add_right _ _
      · rw [z]; exact Nat.le_refl _
    exact I1.fpOk hle (I1.hok.fresh hle)

/-! ### zip -/
def Itzk (k k' : Kd) (K : PySem.W.Frag) (a b : Addr) : It :=
  ⟨fun i H => ∃ (xs ys : List V) (x y : V), Sq k K H a xs ∧ Sq k' K H b ys ∧ xs[i]? = some x ∧ ys[i]? = some y,
    fun i H v H' => ∃ T x y, v = .ref T ∧ H T = none ∧ H' = upd H T (.tup [x, y]) ∧ (∀ xs, Sq k K H a xs → xs[i]? = some x) ∧ ∀ ys, Sq k' K H b ys → ys[i]? = some y,
    fun i H => ∃ xs ys : List V, Sq k K H a xs ∧ Sq k' K H b ys ∧ i ≤ xs.length ∧ i ≤ ys.length ∧ (i = xs.length ∨ i = ys.length)⟩
theorem turn_zipK (k k' : Kd) {P : Program} {w : World} {K : PySem.W.Frag} {elts : List Expr} {kk : Nat} {tpos : Pos} {a b z TI TO i1 i2 : Addr} (D : ZipSep2 z TI TO i1 i2 [i1, a] [i2, b]) (ha : a ≠ i1) (hb : b ≠ i2) :
    Turn P w K (.Tuple elts kk tpos) (Itzk k k' K a b) [z, TI, TO, i1, i2] z (fun i h => IsZip h z TI TO .none ∧ IsTupOf2 h TI (.ref i1) (.ref i2) ∧ (∃ x y, IsTupOf2 h TO x y) ∧ IsIt k h i1 a i ∧ IsIt k' h i2 b i) where
  mem := by simp
  obj := fun i h st c hc => by
    obtain ⟨hz, hTI, ⟨x, y, hTO⟩, h1, h2⟩ := st
    have e' : c = z ∨ c = TI ∨ c = TO ∨ c = i1 ∨ c = i2 := by simpa using hc
    rcases e' with q | q | q | q | q
    · rw [q]; exact ⟨_, hz, fun v q => nomatch q⟩
    · rw [q]; exact ⟨_, hTI, fun v q => nomatch q⟩
    · rw [q]; exact ⟨_, hTO, fun v q => nomatch q⟩
    · rw [q]; exact h1.obj
    · rw [q]; exact h2.obj
  keep := fun i h h' st k => by
    obtain ⟨hz, hTI, ⟨x, y, hTO⟩, h1, h2⟩ := st
    exact ⟨k z (by simp) _ hz, k TI (by simp) _ hTI, ⟨x, y, k TO (by simp) _ hTO⟩, h1.at fun o q => k i1 (by simp) o q, h2.at fun o q => k i2 (by simp) o q⟩
  item := by
    intro X hP hw hK hc i pins s σ H E I hf st hg
    subst hP hw hK
    obtain ⟨hz, hTI, ⟨x0, y0, hTO⟩, h1, h2⟩ := st
    obtain ⟨xs, ys, x, y, hqx, hqy, hx, hy⟩ := hg
    obtain ⟨its, rv, p, _⟩ := inv_sq I hqx
    obtain ⟨its2, rv2, p2, _⟩ := inv_sq I hqy
    obtain ⟨u, hu, ru⟩ := rv.get hx
    obtain ⟨u2, hu2, ru2⟩ := rv2.get hy
    have hzl : z < s.heap.objs.size := Heap.lt_size hz
    have n1 : i < its.toArray.size := by
      have := (List.getElem?_eq_some_iff.mp hu).1
      simpa using this
    have n2 : i < its2.toArray.size := by
      have := (List.getElem?_eq_some_iff.mp hu2).1
      simpa using this
    refine wpAny_pyNext_zipD2_item D (draws_kd k (by exact I.ok.hd hc) i1 a ha its.toArray) (draws_kd k' (by exact I.ok.hd hc) i2 b hb its2.toArray) hz hTI hTO ⟨h1, p⟩ ⟨h2, p2⟩ n1 n2 fun v1 v2 h' tk e1 e2 z' TO' s1' s2' hT hsz hk => ?_
    have eu : v1 = u := by
      have h1 : its.toArray[i]? = some u := by simpa using hu
      rw [h1] at e1
      exact (Option.some.inj e1).symm
    have eu2 : v2 = u2 := by
      have h1 : its2.toArray[i]? = some u2 := by simpa using hu2
      rw [h1] at e2
      exact (Option.some.inj e2).symm
    subst eu eu2
    refine ⟨_, rfl, wpAny_letOwnedTupleGo_zip (s := { s with heap := h', toks := tk }) z' fun h'' z'' sb => ?_⟩
    have hT2 : h''.get? s.heap.objs.size = some { cls := .type "tuple", data := .seq #[v1, v2] } := (sb.2 _ (Nat.ne_of_gt hzl)).trans hT
    have new : ObjOk X.prog X.w (upd H s.heap.objs.size (.tup [x, y])) h'' s.heap.objs.size (.tup [x, y]) :=
      ⟨by show 2 ≤ sizeLine; decide, [v1, v2], .cons ru (.cons ru2 .nil), ⟨_, hT2, rfl, _, rfl⟩⟩
    have I1 : Inv X pins σ (upd H s.heap.objs.size (.tup [x, y])) { s with heap := h'', toks := tk } :=
      I.turnedNew (ch := [z, TI, TO, i1, i2]) (fun c o hb q => (sb.2 c (fun q' => hb (by simp [q']))).trans (hk c o (fun q' => hb (by simp [q'])) (fun q' => hb (by simp [q'])) (fun q' => hb (by simp [q'])) (fun q' => hb (by simp [q'])) q)) hf (Nat.le_refl _) new
    have zi1 : i1 ≠ z := fun q => D.zf1 (by simp [q])
    have zi2 : i2 ≠ z := fun q => D.zf2 (by simp [q])
    refine ⟨.ref s.heap.objs.size, _, I1, rfl, ⟨_, x, y, rfl, I.hok.fresh (Nat.le_refl _), rfl, fun l hl => by rw [inv_sq_inj I hl hqx]; exact hx, fun l hl => by rw [inv_sq_inj I hl hqy]; exact hy⟩, ⟨z'', ?_, ⟨v1, v2, ?_⟩, ?_, ?_⟩, fun c hcm => ?_⟩
    · exact (sb.2 _ D.TIz).trans (hk _ _ D.TIz D.TITO D.TIi1 D.TIi2 hTI)
    · exact (sb.2 _ D.TOz).trans TO'
    · exact s1'.1.at fun o q => (sb.2 _ zi1).trans q
    · exact s2'.1.at fun o q => (sb.2 _ zi2).trans q
    · have hlt : c < s.heap.objs.size := by
        have e' : c = z ∨ c = TI ∨ c = TO ∨ c = i1 ∨ c = i2 := by simpa using hcm
        rcases e' with q | q | q | q | q
        · rw [q]; exact hzl
        · rw [q]; exact Heap.lt_size hTI
        · rw [q]; exact Heap.lt_size hTO
        · rw [q]; obtain ⟨_, e1, _⟩ := h1.obj; exact Heap.lt_size e1
        · rw [q]; obtain ⟨_, e2, _⟩ := h2.obj; exact Heap.lt_size e2
      rw [upd_ne (Nat.ne_of_lt hlt)]
      exact (hf c hcm).1
  done := by
    intro X hP hw hK hc i pins s σ H E I hf st hg
    subst hP hw hK
    obtain ⟨hz, hTI, ⟨x0, y0, hTO⟩, h1, h2⟩ := st
    obtain ⟨xs, ys, hqx, hqy, hl1, hl2, hend⟩ := hg
    obtain ⟨its, rv, p, _⟩ := inv_sq I hqx
    obtain ⟨its2, rv2, p2, _⟩ := inv_sq I hqy
    have l1 := rv.length
    have l2 := rv2.length
    exact wpAny_pyNext_zipD2_end D (draws_kd k (by exact I.ok.hd hc) i1 a ha its.toArray) (draws_kd k' (by exact I.ok.hd hc) i2 b hb its2.toArray) hz hTI hTO ⟨h1, p⟩ ⟨h2, p2⟩ (by simp; omega) (by simp; omega) (by simp; omega)
      fun h' tk hk => ⟨rfl, I.turnedL (ch := [z, TI, TO, i1, i2]) (fun c o hb q =>
      hk c o (fun q' => hb (by simp [q'])) (fun q' => hb (by simp [q'])) (fun q' => hb (by simp [q'])) (fun q' => hb (by simp [q'])) q) hf⟩
  self := fun A i s Q E st h => wpAny_pyIter_zip st.1 h
def iZipK (K : PySem.W.Frag) (ta : TA) : TI := fun σ H R => ta σ H fun vs H1 => ∃ k k' a b xs ys, vs = [.ref a, .ref b] ∧ Sq k K H1 a xs ∧ Sq k' K H1 b ys ∧ R (Itzk k k' K a b) H1
theorem pi_zipK {X : Cx} {e e2 : Expr} {ta : TA} {p pos tpos : Pos} {elts : List Expr} {kk : Nat} (hg : Gl X "zip") (hm : X.mg "zip" = none) (ha : PA X [e, e2] ta)
    (hs : starEach [e, e2] X.env = (false, eval e X.env) :: starEach [e2] X.env := by rfl) (hpl : (backTo pos (starEach [e2] X.env)).any (·.1) = false := by rfl) :
    PI X (.Tuple elts kk tpos) (.Call (.Name "zip" p) [e, e2] [] pos) (iZipK X.K ta) := by
  refine ⟨fun pins s σ H R I h => ?_⟩
  refine PyProof.Rows.Call_ (ld_blt I hg hm PyProof.Rows.boot_zip (PyProof.Rows.callWith_type1 (thn (ha.run pos pins s σ H _ I h) fun us s1 ⟨vs, H1, I1, r1, q1⟩ => ?_) hs hpl))
  obtain ⟨k, k', a, b, xs, ys, ex, hqx, hqy, q⟩ := q1
  subst ex
  cases r1 with
  | cons r rr =>
    cases rr with
    | cons r' rr =>
      cases rr
      cases r
      cases r'
      obtain ⟨its, rv, p1, la⟩ := inv_sq I1 hqx
      obtain ⟨its2, rv2, p2, lb⟩ := inv_sq I1 hqy
      refine zip_begins2 (begins_kd k a its.toArray) (begins_kd k' b its2.toArray) p1 p2 fun h' hz hTI hTO h1 h2 hsz hk => wpAny_pyIter_zip hz ?_
      have I2 : Inv X pins σ H1 { s1 with heap := h' } := I1.kept (t' := s1.toks) hk
      have sp : ZipSep2 (s1.heap.objs.size + 4) (s1.heap.objs.size + 2) (s1.heap.objs.size + 3) s1.heap.objs.size (s1.heap.objs.size + 1) [s1.heap.objs.size, a] [s1.heap.objs.size + 1, b] :=
        zip_sep2 (fun c hc => by simp at hc; rw [hc]; exact la) (fun c hc => by simp at hc; rw [hc]; exact lb)
      have na : a ≠ s1.heap.objs.size := Nat.ne_of_lt la
      have nb : b ≠ s1.heap.objs.size + 1 := Nat.ne_of_lt (Nat.lt_succ_of_lt lb)
      refine ⟨s1.heap.objs.size + 4, [s1.heap.objs.size + 4, s1.heap.objs.size + 2, s1.heap.objs.size + 3, s1.heap.objs.size, s1.heap.objs.size + 1], _, _, H1, rfl, I2, turn_zipK k k' sp na nb, ⟨hz, hTI, ⟨_, _, hTO⟩, isIt_new k h1, isIt_new k' h2⟩, fun c hcm => ?_, q⟩
      have e' : c = s1.heap.objs.size + 4 ∨ c = s1.heap.objs.size + 2 ∨ c = s1.heap.objs.size + 3 ∨ c = s1.heap.objs.size ∨ c = s1.heap.objs.size + 1 := by simpa using hcm
      have hle : s1.heap.objs.size ≤ c := by
        rcases e' with z | z | z | z | z
        · rw [z]; exact Nat.le_add_right _ _
        · rw [z]; exact Nat.le_add_right _ _
        · rw [z]; exact Nat.le_add_right _ _
        · rw [z]; exact Nat.le_refl _
        · rw [z]; exact Nat.le_add_right _ _
      exact I1.fpOk hle (I1.hok.fresh hle)
/-! ### as iterators upon data -/
/-- a sequence: its kind, its items, how long it stands -/
def seqD (S : Sto) : D → Option (Kd × List D × (Sto → Prop))
  | .lst ds => some (.l, ds, fun _ => True)
  | .tup ds => some (.t, ds, fun _ => True)
  | .xtup ds => some (.t, ds, fun _ => True)
  | .ref i => match S[i]? with
    | some (.lst ds) => some (.l, ds, fun S => S[i]? = some (.lst ds))
    | _ => none
  | _ => none
section
variable {K : PySem.W.Frag} {ρ : Rho K} {S : Sto} {H : Hp} {X : Cx} {E : XK} {pos : Pos}
theorem seqD_ok {d : D} {v : V} {k : Kd} {ds : List D} {chk : Sto → Prop} (r : Rel ρ H S) (h : RelD ρ S H d v) (e : seqD S d = some (k, ds, chk)) :
    chk S ∧ ∃ a, v = .ref a ∧ ∀ (ρ' : Rho K) S' H', Ext0 ρ S H ρ' S' H' → Rel ρ' H' S' → chk S' → ∃ vs, Sq k K H' a vs ∧ RelDs ρ' S' H' ds vs := by
  cases h with
  | @xtup _ vs a o hH hx n l q => cases e; exact ⟨trivial, a, rfl, fun ρ' S' H' ex _ _ => ⟨vs, .inl (.inr ⟨o, (ex.frame _ _ hH n).1⟩), l, fun i d v e1 e2 => (q i d v e1 e2).mono0 ex⟩⟩
  | @lst _ vs a hH n l q => cases e; exact ⟨trivial, a, rfl, fun ρ' S' H' ex _ _ => ⟨vs, SqL.of (ex.frame _ _ hH n).1, l, fun i d v e1 e2 => (q i d v e1 e2).mono0 ex⟩⟩
  | @tup _ vs a hH n l q => cases e; exact ⟨trivial, a, rfl, fun ρ' S' H' ex _ _ => ⟨vs, SqT.of (ex.frame _ _ hH n).1, l, fun i d v e1 e2 => (q i d v e1 e2).mono0 ex⟩⟩
  | @ref i a ha =>
    unfold seqD at e
    dsimp only at e
    split at e
    · rename_i ds' hS
      cases e
      refine ⟨hS, a, rfl, fun ρ' S' H' ex r' hc => ?_⟩
      obtain ⟨vs, hH, rk⟩ := r'.cell i a _ (ex.pre i a ha) hc
      exact ⟨vs, SqL.of hH, rk⟩
    · cases e
  | _ => cases e
theorem ext0_refl : Ext0 ρ S H ρ S H := (Ext.refl ρ S H).toExt0
def iEn (m : Exps) : Itm := fun en S => (m en S).bind fun ds S1 => match ds with
  | [d] => match seqD S1 d with
    | some (_, xs, chk) => .ok (xs.zipIdx.map fun p => .tup [.int (p.2 : Nat), p.1], chk) S1
    | none => .stuck
  | _ => .stuck
theorem pair_laid (r : Rel ρ H S) {c d : D} {x y : V} (h1 : RelD ρ S H c x) (h2 : RelD ρ S H d y) {T : Addr} (hT : H T = none) : Ext ρ S H ρ S (upd H T (.tup [x, y])) ∧ Rel ρ (upd H T (.tup [x, y])) S ∧ RelD ρ S (upd H T (.tup [x, y])) (.tup [c, d]) (.ref T) :=
  ⟨Ext.laid r hT, r.laid hT, RelD.tupLaid r (RelDs.cons h1 (RelDs.cons h2 RelDs.nil)) hT⟩
theorem pmi_en {tgs : List Expr} {kk : Nat} {tpos p : Pos} {e : Expr} {m : Exp} (hg : Gl X "enumerate") (hm : X.mg "enumerate" = none) (h : PM X E e m) (hs : starEach [e] X.env = [(false, eval e X.env)] := by rfl) : PMI X E (.Tuple tgs kk tpos) (.Call (.Name "enumerate" p) [e] [] pos) (iEn (aC m aN)) := by
  refine ⟨fun pins s σ H Rr I t => (pi_enumK hg hm (pma_cons h pma_nil hs) hs).run pins s σ H Rr I ?_⟩
  obtain ⟨ρ, S, en, rr, re, p⟩ := t
  refine ⟨ρ, S, en, rr, re, PostG.mono (PostG.bind (RR := RelDs) p) ?_⟩
  rintro xs H1 ⟨ds, ρ1, S1, _, e1, r1, q1, p1⟩
  split at p1
  · rename_i d
    obtain ⟨v, rfl, qv⟩ := rel1 q1
    split at p1
    · rename_i k ys chk hsq
      obtain ⟨hc, a, rfl, hst⟩ := seqD_ok r1 qv hsq
      obtain ⟨vs, hv, rv⟩ := hst ρ1 S1 H1 ext0_refl r1 hc
      refine ⟨k, a, vs, rfl, hv, PostG.ok p1 r1 ?_⟩
      refine ⟨hc, (fun H' => ∃ (ρ' : Rho X.K) (S' : Sto) (ws : List V), Rel ρ' H' S' ∧ Sq k X.K H' a ws ∧ RelDs ρ' S' H' ys ws), (Itek k X.K a).yld, ?_, ?_, ?_⟩
      · show Walk _ (ys.zipIdx.map _).length _ _
        rw [List.length_map, List.length_zipIdx]
        refine ⟨fun i H' hi hq => ?_, fun H' hq => ?_, fun i H' x H'' hi hq y => y⟩
        · obtain ⟨ρ', S', ws, _, h1, h2⟩ := hq
          have hw : i < ws.length := by rw [← h2.1]; exact hi
          exact ⟨ws, ws[i], h1, List.getElem?_eq_getElem hw⟩
        · obtain ⟨ρ', S', ws, _, h1, h2⟩ := hq
          exact ⟨ws, h1, h2.1.symm⟩
      · intro ρ' S' H' ex r' hc'
        obtain ⟨ws, h1, h2⟩ := hst ρ' S' H' ex r' hc'
        exact ⟨ρ', S', ws, r', h1, h2⟩
      · intro i d' ρ' S' H' x H'' hd ex r' hc' hy
        obtain ⟨ws, h1, h2⟩ := hst ρ' S' H' ex r' hc'
        obtain ⟨T, y, rfl, hT, rfl, hi⟩ := hy
        have hwi := hi ws h1
        obtain ⟨dy, hdy, ry⟩ := h2.getR hwi
        have hd : (ys.zipIdx.map fun p => D.tup [.int (p.2 : Nat), p.1])[i]? = some d' := hd
        rw [List.getElem?_map, List.getElem?_zipIdx, hdy] at hd
        simp only [Option.map_some, Option.some.injEq, Nat.zero_add] at hd
        subst hd
        exact pair_laid r' (.int _) ry hT
    · exact p1.elim
  · exact p1.elim
def iZp (m : Exps) : Itm := fun en S => (m en S).bind fun ds S1 => match ds with
  | [d, e] => match seqD S1 d, seqD S1 e with
    | some (_, xs, chk), some (_, ys, chk') => .ok (xs.zipWith (fun x y => .tup [x, y]) ys, fun S => chk S ∧ chk' S) S1
    | _, _ => .stuck
  | _ => .stuck
theorem pmi_zp {tgs : List Expr} {kk : Nat} {tpos p : Pos} {e f : Expr} {m m2 : Exp} (hg : Gl X "zip") (hm : X.mg "zip" = none) (h : PM X E e m) (h2 : PM X E f m2) (hs : starEach [e, f] X.env = (false, eval e X.env) :: starEach [f] X.env := by rfl)
    (hs2 : starEach [f] X.env = [(false, eval f X.env)] := by rfl) (hpl : (backTo pos (starEach [f] X.env)).any (·.1) = false := by rfl) : PMI X E (.Tuple tgs kk tpos) (.Call (.Name "zip" p) [e, f] [] pos) (iZp (aC m (aC m2 aN))) := by
  refine ⟨fun pins s σ H Rr I t => (pi_zipK hg hm (pma_cons h (pma_cons h2 pma_nil hs2) hs) hs hpl).run pins s σ H Rr I ?_⟩
  obtain ⟨ρ, S, en, rr, re, p⟩ := t
  refine ⟨ρ, S, en, rr, re, PostG.mono (PostG.bind (RR := RelDs) p) ?_⟩
  rintro xs H1 ⟨ds, ρ1, S1, _, e1, r1, q1, p1⟩
  split at p1
  · rename_i d d'
    obtain ⟨v, v', rfl, qv, qv'⟩ := rel2 q1
    split at p1
    · rename_i k ys chk k' ys' chk' hsq hsq'
      obtain ⟨hc, a, rfl, hst⟩ := seqD_ok r1 qv hsq
      obtain ⟨hc2, b, rfl, hst2⟩ := seqD_ok r1 qv' hsq'
      obtain ⟨vs, hv, rv⟩ := hst ρ1 S1 H1 ext0_refl r1 hc
      obtain ⟨vs2, hv2, rv2⟩ := hst2 ρ1 S1 H1 ext0_refl r1 hc2
      refine ⟨k, k', a, b, vs, vs2, rfl, hv, hv2, PostG.ok p1 r1 ?_⟩
      refine ⟨⟨hc, hc2⟩, (fun H' => ∃ (ρ' : Rho X.K) (S' : Sto) (ws ws2 : List V), Rel ρ' H' S' ∧ (Sq k X.K H' a ws ∧ RelDs ρ' S' H' ys ws) ∧ Sq k' X.K H' b ws2 ∧ RelDs ρ' S' H' ys' ws2), (Itzk k k' X.K a b).yld, ?_, ?_, ?_⟩
      · show Walk _ (ys.zipWith _ ys').length _ _
        rw [List.length_zipWith]
        refine ⟨fun i H' hi hq => ?_, fun H' hq => ?_, fun i H' x H'' hi hq y => y⟩
        · obtain ⟨ρ', S', ws, ws2, _, ⟨h1, h2⟩, h3, h4⟩ := hq
          have hw : i < ws.length := by rw [← h2.1]; omega
          have hw2 : i < ws2.length := by rw [← h4.1]; omega
          exact ⟨ws, ws2, ws[i], ws2[i], h1, h3, List.getElem?_eq_getElem hw, List.getElem?_eq_getElem hw2⟩
        · obtain ⟨ρ', S', ws, ws2, _, ⟨h1, h2⟩, h3, h4⟩ := hq
          have := h2.1
          have := h4.1
          exact ⟨ws, ws2, h1, h3, by omega, by omega, by omega⟩
      · intro ρ' S' H' ex r' hc'
        obtain ⟨ws, h1, h2⟩ := hst ρ' S' H' ex r' hc'.1
        obtain ⟨ws2, h3, h4⟩ := hst2 ρ' S' H' ex r' hc'.2
        exact ⟨ρ', S', ws, ws2, r', ⟨h1, h2⟩, h3, h4⟩
      · intro i dd ρ' S' H' x H'' hd ex r' hc' hy
        obtain ⟨ws, h1, h2⟩ := hst ρ' S' H' ex r' hc'.1
        obtain ⟨ws2, h3, h4⟩ := hst2 ρ' S' H' ex r' hc'.2
        obtain ⟨T, y, y2, rfl, hT, rfl, hi, hi2⟩ := hy
        obtain ⟨dy, hdy, ry⟩ := h2.getR (hi ws h1)
        obtain ⟨dy2, hdy2, ry2⟩ := h4.getR (hi2 ws2 h3)
        have hd : (ys.zipWith (fun x y => D.tup [x, y]) ys')[i]? = some dd := hd
        rw [List.getElem?_zipWith, hdy, hdy2] at hd
        cases hd
        exact pair_laid r' ry ry2 hT
    · exact p1.elim
  · exact p1.elim
end
end SF

/-! len(set(..)), dict displays, list(range(..)), list * int, statements that are not reached. -/
namespace SF
open PySem L2
section
variable {K : PySem.W.Frag} {ρ : Rho K} {S : Sto} {H : Hp} {X : Cx} {E : XK} {a b : Expr} {ma mb : Exp} {pos : Pos}
/-- a statement that is not reached -/
def sNo : Stm := fun _ _ => .stuck
theorem pms_noS {sts : List Stmt} : PMSs X E sts sNo := ⟨fun pins s σ H Dn I t => by
  obtain ⟨ρ, S, en, rr, re, p⟩ := t
  exact p.elim⟩
def sRaise (C : Addr) (w : Nat) : Stm := fun _ S => .exc ⟨C, [], w⟩ S
@[simp] theorem ap_sRaise (C : Addr) (w : Nat) (en : En) (S : Sto) : sRaise C w en S = .exc ⟨C, [], w⟩ S := rfl
/-- raise of a class with a field, where fu -/
def sRaiseF (fu : Bool) (C : Addr) (w : Nat) (m : Exp) : Stm := fun en S => if fu = true then (match m en S with
  | .ok d S1 => .exc ⟨C, [("most", d)], w⟩ S1
  | .exc x S1 => .exc x S1
  | .stuck => .stuck) else .stuck
@[simp] theorem ap_sRaiseF (fu : Bool) (C : Addr) (w : Nat) (m : Exp) (en : En) (S : Sto) : sRaiseF fu C w m en S = if fu = true then (match m en S with
  | .ok d S1 => .exc ⟨C, [("most", d)], w⟩ S1
  | .exc x S1 => .exc x S1
  | .stuck => .stuck) else .stuck := rfl
theorem pms_no {st : Stmt} : PMS X E st sNo := ⟨fun pins s σ H Dn I t => by
  obtain ⟨ρ, S, en, rr, re, p⟩ := t
  exact p.elim⟩
theorem pmss_no {sts : List Stmt} : PMSs X E sts sNo := ⟨fun pins s σ H Dn I t => by
  obtain ⟨ρ, S, en, rr, re, p⟩ := t
  exact p.elim⟩
/-! ### len(set(xs)) -/
def distinctN (ns : List Int) : Nat := (PyProof.Rows.firstMet (fun i => ns.getD i 0) ns.length).length
def eLenSet (m : Exp) : Exp := fun en S => (m en S).bind fun d S1 => match getL S1 d with
  | some ds => match intsD ds with
    | some ns => if ns.length ≤ 4000 then .ok (.int (distinctN ns)) S1 else .stuck
    | none => .stuck
  | none => .stuck
theorem pm_lenSet {p p2 q : Pos} {k : Nat} (c : Ctx X E k) (hg : Gl X "len") (hm : X.mg "len" = none) (hg2 : Gl X "set") (hm2 : X.mg "set" = none) (ha : PM X E a ma)
    (na : starEach [a] X.env = (false, eval a X.env) :: starEach [] X.env := by rfl) : PM X E (.Call (.Name "len" p) [.Call (.Name "set" p2) [a] [] q] [] pos) (eLenSet ma) := by
  refine ⟨fun pins s σ H Q I t => ?_⟩
  refine PyProof.Rows.Call_ (ld_blt I hg hm boot_len ?_)
  refine PyProof.Rows.callWith_builtin1 (PyProof.Rows.args_cons ?_ rfl) rfl rfl
  refine PyProof.Rows.Call_ (ld_blt I hg2 hm2 PyProof.Rows.boot_set ?_)
  obtain ⟨ρ, S, en, rr, re, p⟩ := t
  refine PyProof.Rows.callWith_type1 (PyProof.Rows.args_cons (thn (ha.run pins s σ H _ I ⟨ρ, S, en, rr, re, PostG.mono (PostG.bind (RR := RelD) p) fun _ _ h => h⟩) fun v s1 ⟨x, H1, I1, r1, q1⟩ => PyProof.Rows.args_nil ?_) na) na rfl
  obtain ⟨d, ρ1, S1, _, e1, rl1, qd, p1⟩ := q1
  split at p1
  case h_2 => exact p1.elim
  rename_i ds hg1
  split at p1
  case h_2 => exact p1.elim
  rename_i ns hn
  split at p1
  case isFalse => exact p1.elim
  rename_i hl
  obtain ⟨l, ws, rfl, hq, h3⟩ := getL_sq rl1 qd hg1
  rw [intsD_eq hn] at h3
  rw [rel_ints h3] at hq
  cases r1
  obtain ⟨its, r, pl, hz⟩ := I1.list hq
  have hlen : its.toArray.size = ns.length := by rw [List.size_toArray, ← r.length, List.length_map]
  refine PySem.call_set_list (I1.ok.hd c.calm) pl.isList (by simpa using RZ.intsAre_vals r) (by rw [hlen]; unfold scanBound; omega) fun h' tk hS hk => ?_
  refine PyProof.Rows.args_nil ?_
  rw [hlen] at hS
  obtain ⟨o, es, ep, t, ho, hex, hd, _, _, _, hf, hsz⟩ := hS
  have I2 : Inv X pins σ H1 { s1 with heap := h', toks := tk } := I1.kept fun b o e => hk b o (Heap.lt_size e) e
  have hle := PyProof.Rows.firstMet_length_le (fun i => ns.getD i 0) ns.length
  exact call_len_set ho hex hd hf (by rw [hsz]; omega) ⟨.int (distinctN ns : Nat), H1, I2.tok _, ⟨_, by rw [hsz]; rfl⟩, PostG.ok p1 rl1 (.int _)⟩
/-! ### xs * n -/
def oRep : Op2 := fun x y S => match y with
  | .int k => match getL' S x with
    | some ds => if 0 ≤ k ∧ k ≤ 1000 ∧ ds.length ≤ 100 then .ok (.lst (List.replicate k.toNat ds).flatten) S else .stuck
    | none => .stuck
  | _ => .stuck
theorem rep_rel {ds : List D} {vs : List V} (h : RelDs ρ S H ds vs) : ∀ n : Nat, RelDs ρ S H (List.replicate n ds).flatten (List.replicate n vs).flatten
  | 0 => by simpa using RelDs.nil
  | n + 1 => by
    rw [List.replicate_succ, List.replicate_succ, List.flatten_cons, List.flatten_cons]
    exact h.append (rep_rel h n)
theorem m_rep : OpM K rRep oRep := by
  intro ρ S H c d x y Q E r q1 q2 p
  unfold oRep at p
  cases q2 with
  | int k =>
    dsimp only at p
    split at p
    · rename_i ds hg
      split at p
      · rename_i hk
        obtain ⟨a, vs, rfl, hH, rk⟩ := getL'_at r q1 hg
        refine ⟨a, k, vs, rfl, rfl, hH, by omega, by omega, ?_, PostG.lst p r (rep_rel rk _)⟩
        have h1 : vs.length * k.toNat ≤ 100 * 1000 := Nat.mul_le_mul (by rw [← rk.1]; exact hk.2.2) (by omega)
        exact sz_ok h1
      · exact p.elim
    · exact p.elim
  | _ => exact p.elim
/-! ### list(range(..)) -/
def eRgL (it : Itm) : Exp := fun en S => (it en S).bind fun ic S1 => if ic.1.length ≤ 100000 then .ok (.lst ic.1) S1 else .stuck
theorem rgV_rel (a b : Int) : RelDs ρ S H (rngD a (b - a).toNat) (rgV a b) := by
  have e : rngD a (b - a).toNat = ((List.range (b - a).toNat).map fun i : Nat => a + (i : Int)).map D.int := by unfold rngD; rw [List.map_map]; rfl
  have e' : rgV a b = ((List.range (b - a).toNat).map fun i : Nat => a + (i : Int)).map V.int := by unfold rgV; rw [List.map_map]; rfl
  rw [e, e']
  exact relDs_ints _
theorem pm_rg1 {p p2 q : Pos} {k : Nat} (c : Ctx X E k) (hg : Gl X "list") (hm : X.mg "list" = none) (hg2 : Gl X "range") (hm2 : X.mg "range" = none) (h : PM X E a ma) (hs : starEach [a] X.env = [(false, eval a X.env)] := by rfl)
    (hs3 : starEach [.Call (.Name "range" p2) [a] [] q] X.env = (false, eval (.Call (.Name "range" p2) [a] [] q) X.env) :: starEach [] X.env := by rfl) : PM X E (.Call (.Name "list" p) [.Call (.Name "range" p2) [a] [] q] [] pos) (eRgL (iR1 (aC ma aN))) := by
  refine ⟨fun pins s σ H Q I t => (pe_listRg c.calm hg hm (prg_1 hg2 hm2 h hs) hs3).run pins s σ H Q I ?_⟩
  obtain ⟨ρ, S, en, rr, re, p⟩ := t
  have e0 : eRgL (iR1 (aC ma aN)) en S = (ma en S).bind fun d S1 => (iR1 (fun _ S => .ok [d] S) en S1).bind fun ic S2 => if ic.1.length ≤ 100000 then .ok (.lst ic.1) S2 else .stuck := by
    unfold eRgL iR1 aC aN
    cases ma en S <;> rfl
  rw [e0] at p
  refine ⟨ρ, S, en, rr, re, PostG.mono (PostG.bind (RR := RelD) p) ?_⟩
  rintro x H1 ⟨d, ρ1, S1, _, e1, r1, q1, p1⟩
  cases q1 with
  | int n =>
    unfold iR1 at p1
    dsimp only [R.bind_ok] at p1
    split at p1
    · rename_i hn
      dsimp only [R.bind_ok] at p1
      split at p1
      · rename_i hl
        refine ⟨n, rfl, ?_, ?_⟩
        · unfold rngD at hl
          rw [List.length_map, List.length_range] at hl
          exact ⟨by omega, by omega, by omega, by omega, sz_ok (by omega)⟩
        · have := PostG.lst p1 r1 (vs := rgV 0 n) (by have := rgV_rel (ρ := ρ1) (S := S1) (H := H1) 0 n; simpa using this)
          exact this
      · exact p1.elim
    · exact p1.elim
  | _ => exact p1.elim
/-! ### {'a': x, ..}: by value -/
def ePairs : List (Exp × Exp) → En → Sto → R (List (D × D))
  | [], _, S => .ok [] S
  | (k, v) :: r, en, S => (k en S).bind fun x S1 => (v en S1).bind fun y S2 => (ePairs r en S2).bind fun ps S3 => .ok ((x, y) :: ps) S3
def keysD : List (D × D) → Option (List (Key × D))
  | [] => some []
  | (k, d) :: r => (keyD k).bind fun kk => (keysD r).map fun l => (kk, d) :: l
def mergeD (kvs more : List (Key × D)) : List (Key × D) := more.foldl (fun acc kv => putD acc kv.1 kv.2) kvs
def eDict (ps : List (Exp × Exp)) : Exp := fun en S => (ePairs ps en S).nox.bind fun l S1 => match keysD l with
  | some kvs => if kvs.length ≤ 15 then .ok (.dct (mergeD [] kvs)) S1 else .stuck
  | none => .stuck
def RelPs (ρ : Rho K) (S : Sto) (H : Hp) (l : List (D × D)) (vs : List (V × V)) : Prop := RelDs ρ S H (l.map (·.1)) (vs.map (·.1)) ∧ RelDs ρ S H (l.map (·.2)) (vs.map (·.2))
theorem tPairs_of : ∀ {ps : List (Exp × Exp)} {ρ : Rho K} {S : Sto} {en : En} {σ : L2.St} {H : Hp} {Q : List (V × V) → Hp → Prop}, Rel ρ H S → RelE ρ S H en σ → PostG RelPs (ePairs ps en S) ρ S H Q E → tPairs (ps.map fun p => (tM K E p.1, tM K E p.2)) σ H Q
  | [], ρ, S, en, σ, H, Q, r, re, p => PostG.ok p r ⟨RelDs.nil, RelDs.nil⟩
  | (k, v) :: ps, ρ, S, en, σ, H, Q, r, re, p => by
    refine ⟨ρ, S, en, r, re, PostG.mono (PostG.bind (RR := RelD) p) ?_⟩
    rintro x H1 ⟨dx, ρ1, S1, _, e1, r1, q1, p1⟩
    refine ⟨ρ1, S1, en, r1, re.mono e1, PostG.mono (PostG.bind (RR := RelD) p1) ?_⟩
    rintro y H2 ⟨dy, ρ2, S2, _, e2, r2, q2, p2⟩
    refine tPairs_of r2 ((re.mono e1).mono e2) (PostG.mono (PostG.bind (RR := RelPs) p2) ?_)
    rintro l H3 ⟨dl, ρ3, S3, _, e3, r3, q3, p3⟩
    exact PostG.ok p3 r3 ⟨RelDs.cons ((q1.mono e2).mono e3) q3.1, RelDs.cons (q2.mono e3) q3.2⟩
theorem keys_rel : ∀ {l : List (D × D)} {vs : List (V × V)} {kvs : List (Key × D)}, RelPs ρ S H l vs → keysD l = some kvs → ∃ kws : List (Key × V), vs = kws.map (fun kv => (kV kv.1, kv.2)) ∧ RelK ρ S H kvs kws
  | [], vs, kvs, h, e => by
    cases e
    have : vs = [] := by
      have := h.1.1
      cases vs with
      | nil => rfl
      | cons _ _ => simp at this
    subst this
    exact ⟨[], rfl, RelK.nil⟩
  | (k, d) :: l, vs, kvs, h, e => by
    rw [keysD] at e
    cases hk : keyD k with
    | none => rw [hk] at e; cases e
    | some kk =>
      rw [hk] at e
      cases hl : keysD l with
      | none => rw [hl] at e; cases e
      | some r =>
        rw [hl] at e
        cases e
        cases vs with
        | nil => have := h.1.1; simp at this
        | cons p vs =>
          obtain ⟨x, y⟩ := p
          obtain ⟨v1, w1, e1, q1, t1⟩ := h.1.uncons
          obtain ⟨v2, w2, e2, q2, t2⟩ := h.2.uncons
          simp only [List.map_cons, List.cons.injEq] at e1 e2
          obtain ⟨rfl, rfl⟩ := e1
          obtain ⟨rfl, rfl⟩ := e2
          obtain ⟨kws, rfl, rk⟩ := keys_rel (l := l) (vs := vs) ⟨t1, t2⟩ hl
          exact ⟨(kk, y) :: kws, by rw [List.map_cons, keyD_rel q1 hk], RelK.cons q2 rk⟩
theorem merge_rel : ∀ {more : List (Key × D)} {ws : List (Key × V)} {kvs : List (Key × D)} {vs : List (Key × V)}, RelK ρ S H more ws → RelK ρ S H kvs vs → RelK ρ S H (mergeD kvs more) (mergeK vs ws)
  | [], ws, kvs, vs, h, q => by
    have : ws = [] := by
      have := h.length
      cases ws with
      | nil => rfl
      | cons _ _ => simp at this
    subst this
    exact q
  | (k, d) :: more, ws, kvs, vs, h, q => by
    obtain ⟨w, ws, rfl, q1, t⟩ := h.uncons
    exact merge_rel (more := more) (ws := ws) (kvs := putD kvs k d) (vs := putK vs k w) t (q.put q1)
theorem pm_dict {keys : List (Option Expr)} {values : List Expr} {ps : List (Exp × Exp)} (h : PPs X pos keys values (ps.map fun p => (tM X.K E0 p.1, tM X.K E0 p.2))) (hall : keys.all (·.isSome) = true) (hl : keys.length = values.length) (h0 : keys ≠ []) (h15 : keys.length ≤ 15) :
    PM X E (.Dict keys values pos) (eDict ps) := by
  refine ⟨fun pins s σ H Q I t => (pe_disp h hall hl h0 h15).run pins s σ H Q I ?_⟩
  obtain ⟨ρ, S, en, rr, re, pp⟩ := t
  intro p hp
  have g0 : Ext0 ρ S H (ρ.guard p) S (upd H p (.dK [])) := Ext0.guard rr hp
  refine tPairs_of (rr.guard hp) (re.mono0 g0) ?_
  unfold eDict at pp
  cases he : ePairs ps en S with
  | stuck => rw [he] at pp; exact pp.elim
  | exc x S1 => rw [he] at pp; exact pp.elim
  | ok l S1 =>
    rw [he] at pp
    dsimp only [R.nox_ok, R.bind_ok] at pp
    intro vs H1 ρ1 e1 r1 q1
    have hpp : p ∈ (ρ.guard p).prot := List.mem_cons_self
    have hpp1 : p ∈ ρ1.prot := by rw [e1.prot]; exact hpp
    refine ⟨by rw [e1.pk p hpp]; exact upd_same, ?_⟩
    split at pp
    · rename_i kvs hk
      split at pp
      · rename_i h15'
        obtain ⟨kws, rfl, rk⟩ := keys_rel q1 hk
        refine ⟨kws, rfl, by rw [← rk.length]; exact h15', ?_⟩
        have gr : Ext0 ρ1 S1 H1 ρ1 S1 (upd H1 p (.dK (mergeK [] kws))) := Ext0.grow hpp1
        have hpr : ∀ a ∈ ρ.prot, a ∈ ρ1.prot := fun a ha => by rw [e1.prot]; exact List.mem_cons_of_mem _ ha
        have lv : Ext0 ρ1 S1 (upd H1 p (.dK (mergeK [] kws))) (⟨ρ1.own, ρ.prot⟩ : Rho X.K) S1 (upd H1 p (.dK (mergeK [] kws))) := Ext0.leave hpr
        have np : ¬ live (⟨ρ1.own, ρ.prot⟩ : Rho X.K) S1 p := fun l => l.elim (rr.noprot hp) fun ⟨i, _, e, _, _⟩ => r1.apart i p e hpp1
        have rm : RelK (⟨ρ1.own, ρ.prot⟩ : Rho X.K) S1 (upd H1 p (.dK (mergeK [] kws))) (mergeD [] kvs) (mergeK [] kws) := merge_rel ((rk.mono0 gr).mono0 lv) RelK.nil
        refine pp _ _ (⟨ρ1.own, ρ.prot⟩ : Rho X.K) ⟨((g0.trans e1.toExt0).trans gr).trans lv, rfl, fun a ha => ?_⟩ ((r1.grow hpp1).leave hpr) (.dct (.inl upd_same) np rm.1 rm.2)
        have hne : a ≠ p := fun z => rr.noprot hp (z ▸ ha)
        rw [upd_ne hne, e1.pk a (List.mem_cons_of_mem _ ha), upd_ne hne]
      · exact pp.elim
    · exact pp.elim
end
end SF

/-! further statements and rules. -/
namespace SF
open PySem L2
section
variable {K : PySem.W.Frag} {ρ : Rho K} {S : Sto} {H : Hp} {X : Cx} {E : XK} {a b : Expr} {ma mb : Exp} {pos : Pos}
def sPar3 (i j l : Nat) (ms : Exps) : Stm := fun en S => (ms en S).thenS fun ds S1 => match ds with
  | [a, b, c] => .nx (((en.set i (some a)).set j (some b)).set l (some c)) S1
  | _ => .stuck
theorem pms_par3 {i j l : Nat} {st : Stmt} {ms : Exps} (hp : PS X st (L2.tPar3 i j l (tMA X.K E ms))) : PMS X E st (sPar3 i j l ms) := by
  refine ⟨fun pins s σ H Dn I t => hp.run pins s σ H Dn I ?_⟩
  obtain ⟨ρ, S, en, rr, re, p⟩ := t
  refine ⟨ρ, S, en, rr, re, PostG.mono (PostS.bind (RR := RelDs) p) ?_⟩
  rintro xs H1 ⟨c, ρ1, S1, _, e1, r1, q1, p1⟩
  split at p1
  · obtain ⟨u, us, rfl, qa, qt⟩ := q1.uncons
    obtain ⟨v, w, rfl, qb, qc⟩ := rel2 qt
    exact ⟨u, v, w, rfl, tMS_nx p1 r1 ((((re.mono e1).set qa i).set qb j).set qc l)⟩
  · exact p1.elim
theorem pm_append {o e : Expr} {mo m : Exp} {apos cpos : Pos} (ho : PM X E o mo) (ha : PMA X E [e] (aC m aN)) 
    (hbase : attributeBase o "append" X.env (eval o X.env) = eval o X.env := by rfl)
    (hfew : ((backTo cpos (starEach [e] X.env)).all (fun x => !x.1) && (backToKw cpos (keywordEach [] X.env)).all (fun x => x.1.isSome)
      && decide (([e] : List Expr).length + ([] : List Keyword).length + (if ([] : List Keyword).isEmpty then 0 else 1) < 30)) = true := by rfl)
    (hline : (apos.endLine == cpos.line) = true := by rfl) (hs : starEach [e] X.env = (false, eval e X.env) :: starEach [] X.env := by rfl) (hplain : (backTo cpos (starEach [] X.env)).any (·.1) = false := by rfl) :
    PM X E (.Call (.Attribute o "append" apos) [e] [] cpos) (eMt "list" fApp mo (aC m aN)) :=
  ⟨fun pins s σ H Q I t => (pe_bm PySem.F.plainAttrs_list PySem.F.slot_list_append PySem.F.type_list_append mt_append ho ha hbase hfew hline hs hplain).run pins s σ H Q I (tBM_of mo_app t)⟩
/-- {} -/
def eNewD : Exp := fun _ S => .ok (.ref S.length) (S ++ [.dct []])
theorem pm_newD : PM X E (.Dict [] [] pos) eNewD := by
  refine ⟨fun pins s σ H Q I t => pe_dnewK.run pins s σ H Q I ?_⟩
  obtain ⟨ρ, S, en, rr, re, p⟩ := t
  exact fun q hq => p _ _ (ρ.add q) (Ext.new rr hq upd_same (upd_keep hq)) (rr.newDct RelK.nil hq) (.ref (by rw [← rr.len]; simp [Rho.add]))
theorem pm_dct0 : PM X E (.Dict [] [] pos) (eK (.dct [])) := by
  refine ⟨fun pins s σ H Q I t => pe_dnewK.run pins s σ H Q I ?_⟩
  obtain ⟨ρ, S, en, rr, re, p⟩ := t
  exact fun q hq => p _ _ ρ (Ext.laid rr hq) (rr.laid hq) (.dct (.inl upd_same) (rr.fresh hq) rfl fun i d v e => by simp at e)
/-- o[i], o'[i'] = e -/
def setI (x k y : D) (S : Sto) : Option Sto := match x, k with
  | .ref a, .int k => match S[a]? with
    | some (.lst ds) => match ixN ds.length k with
      | some j => some (S.set a (.lst (ds.set j y)))
      | none => none
    | _ => none
  | _, _ => none
def sSw (m o i o' i' : Exp) : Stm := fun en S => (m en S).thenS fun v S1 => match v with
  | .tup [y, y'] => (o en S1).thenS fun x S2 => (i en S2).thenS fun k S3 => match setI x k y S3 with
    | some S4 => (o' en S4).thenS fun x' S5 => (i' en S5).thenS fun k' S6 => match setI x' k' y' S6 with
      | some S7 => .nx en S7
      | none => .stuck
    | none => .stuck
  | _ => .stuck
theorem setI_ok {x k y : D} {vx vk vy : V} {S' : Sto} (r : Rel ρ H S) (hx : RelD ρ S H x vx) (hk : RelD ρ S H k vk) (hy : RelD ρ S H y vy) (e : setI x k y S = some S') :
    ∃ p xs n j, vx = .ref p ∧ vk = .int n ∧ H p = some (.lst xs) ∧ ixN xs.length n = some j ∧ Rel ρ (upd H p (.lst (xs.set j vy))) S' ∧ Ext ρ S H ρ S' (upd H p (.lst (xs.set j vy))) := by
  unfold setI at e
  cases hx with
  | @ref n a ha =>
    cases hk with
    | int kk =>
      dsimp only at e
      split at e
      · rename_i ds hS
        split at e
        · rename_i j hj
          cases e
          obtain ⟨vs, hH, rk⟩ := r.cell n a _ ha hS
          have nd : Cell.lst ds ≠ .dead := by intro z; cases z
          have nd' : Cell.lst (ds.set j y) ≠ .dead := by intro z; cases z
          have e4 : Ext ρ S H ρ (S.set n (.lst (ds.set j y))) (upd H a (.lst (vs.set j vy))) := Ext.write r ha hS nd nd'
          exact ⟨a, vs, kk, j, rfl, rfl, hH, by rw [← rk.1]; exact hj, r.write ha hS nd nd' ⟨_, upd_same, (rk.mono e4).set (hy.mono e4) j⟩, e4⟩
        · cases e
      · cases e
    | _ => cases e
  | _ => cases e
theorem pms_swap {st : Stmt} {m mo mi mo' mi' : Exp} (hp : PS X st (tAsg (tM X.K E m) (gTup X.K 2 (gCons (gSub (tM X.K E mo) (tM X.K E mi) rSetL) (gCons (gSub (tM X.K E mo') (tM X.K E mi') rSetL) gNil))))) : PMS X E st (sSw m mo mi mo' mi') := by
  refine ⟨fun pins s σ H Dn I t => hp.run pins s σ H Dn I ?_⟩
  obtain ⟨ρ, S, en, rr, re, p⟩ := t
  refine ⟨ρ, S, en, rr, re, PostG.mono (PostS.bind (RR := RelD) p) ?_⟩
  rintro v H1 ⟨d, ρ1, S1, _, e1, r1, q1, p1⟩
  split at p1
  case h_2 => exact p1.elim
  rename_i y y' _
  cases q1 with
  | @tup _ vs a hH n l q =>
    obtain ⟨v1, v2, rfl, qy, qy'⟩ := rel2 (⟨l, q⟩ : RelDs ρ1 S1 H1 [y, y'] vs)
    refine ⟨a, [v1, v2], rfl, SqT.of hH, rfl, v1, [v2], rfl, ?_⟩
    refine ⟨ρ1, S1, en, r1, re.mono e1, PostG.mono (PostS.bind (RR := RelD) p1) ?_⟩
    rintro x H2 ⟨dx, ρ2, S2, _, e2, r2, q2, p2⟩
    refine ⟨ρ2, S2, en, r2, (re.mono e1).mono e2, PostG.mono (PostS.bind (RR := RelD) p2) ?_⟩
    rintro k H3 ⟨dk, ρ3, S3, _, e3, r3, q3, p3⟩
    split at p3
    case h_2 => exact p3.elim
    rename_i S4 hs
    obtain ⟨px, xs, n1, j, rfl, rfl, hp1, hj, r4, e4⟩ := setI_ok r3 (q2.mono e3) q3 ((qy.mono e2).mono e3) hs
    refine ⟨px, xs, n1, j, rfl, rfl, hp1, hj, v2, [], rfl, ?_⟩
    have re4 := (((re.mono e1).mono e2).mono e3).mono e4
    refine ⟨ρ3, S4, en, r4, re4, PostG.mono (PostS.bind (RR := RelD) (PostS.ext p3 e4)) ?_⟩
    rintro x' H5 ⟨dx', ρ5, S5, _, e5, r5, q5, p5⟩
    refine ⟨ρ5, S5, en, r5, re4.mono e5, PostG.mono (PostS.bind (RR := RelD) p5) ?_⟩
    rintro k' H6 ⟨dk', ρ6, S6, _, e6, r6, q6, p6⟩
    split at p6
    case h_2 => exact p6.elim
    rename_i S7 hs'
    obtain ⟨px', xs', n2, j', rfl, rfl, hp2, hj', r7, e7⟩ := setI_ok r6 (q5.mono e6) q6 (((((qy'.mono e2).mono e3).mono e4).mono e5).mono e6) hs'
    exact ⟨px', xs', n2, j', rfl, rfl, hp2, hj', rfl, p6 σ _ ρ6 e7 r7 (((re4.mono e5).mono e6).mono e7)⟩
end
end SF
namespace SF
open PySem L2
/-- a constant of the module -/
theorem pm_gi {X : Cx} {E : XK} {x : Str} {i : Int} {pos : Pos} (hg : Gl X x) (hm : ∃ t, X.mg x = some (.int i t)) (hdb : (x == ("__debug__" : Str)) = false := by decide) : PM X E (.Name x pos) (eK (.int i)) :=
  let ⟨_, h⟩ := hm; pm_c (v := .int i) (pe_glob hg h ⟨_, rfl⟩ hdb) fun _ _ _ => .int i
theorem pm_gs {X : Cx} {E : XK} {x : Str} {i : Str} {pos : Pos} (hg : Gl X x) (hm : ∃ t, X.mg x = some (.str i t)) (hdb : (x == ("__debug__" : Str)) = false := by decide) : PM X E (.Name x pos) (eK (.str i)) :=
  let ⟨_, h⟩ := hm; pm_c (v := .str i) (pe_glob hg h ⟨_, rfl⟩ hdb) fun _ _ _ => .str i
/-- where the classes of the program lie -/
structure Cs where
  House : Addr
  Show : Addr
  Search : Addr
  Case : Addr
  ex : Nat → Addr := fun _ => 0
  tb : Nat → Addr × Str := fun _ => (0, "")
  fu : Bool := false
end SF
namespace SF
open PySem L2
section
variable {X : Cx} {E : XK}
theorem pms_setLc {k i : Nat} {y : Str} {py : Pos} {elt tg iter : Expr} {ifs : List Expr} {scope : Scope} {own : List (Str × Nat)} {pos spos : Pos} {it : Itm} {t : TG} {g : Tgt} {ws : List Nat} {mc : Tst} {me : Exp} (c : Ctx X E k) (hy : X.N[i]? = some y) (hyl : X.env.scope.names.lookup y = some .local)
    (hsw : swapsWith (.ListComp elt [⟨tg, iter, ifs, 0⟩] scope pos) (some (.Name y py)) spos.line X.env = pure true) (hi : PMI X E tg iter it) (ok : BlkOk X.N X.env.scope scope own)
    (hG : ∀ (s : Shared) (H : Hp) (C : Addr) (cl : List (Str × Addr)) (fp : List Addr), PG (X.blk s H scope (compEnvC scope cl C X.env) fp) tg t) (hg : GM X.K t g ws) (hv : ∀ w ∈ ws, w ∈ own.map (·.2))
    (ht : ∀ (s : Shared) (H : Hp) (C : Addr) (cl : List (Str × Addr)) (fp : List Addr), PMTs (X.blk s H scope (compEnvC scope cl C X.env) fp) E0 ifs mc)
    (he : ∀ (s : Shared) (H : Hp) (C : Addr) (cl : List (Str × Addr)) (fp : List Addr), PM (X.blk s H scope (compEnvC scope cl C X.env) fp) E0 elt me) (hs : ∀ x, foldedSetIterable iter X.env x = pure x := by intro _; rfl) :
    PMS X E (.Assign [.Name y py] (.ListComp elt [⟨tg, iter, ifs, 0⟩] scope pos) spos) (sAs (gN i) (eLc it g mc me (own.map (·.2)))) :=
  pms_lc (ps_setLc (tt := tMT X.K E0 mc) (te := tM X.K E0 me) c.calm c.nd hy hyl hsw hi ok hG ht he hs) fun σ H Q h => tLcV hg hv h
theorem pms_setLcN {k i : Nat} {y : Str} {py : Pos} {elt tg iter : Expr} {ifs : List Expr} {scope : Scope} {own : List (Str × Nat)} {pos spos : Pos} {it : Itm} {t : TG} {g : Tgt} {ws : List Nat} {mc : Tst} {me : Exp} (c : Ctx X E k) (hy : X.N[i]? = some y) (hyl : X.env.scope.names.lookup y = some .local)
    (hsw : swapsWith (.ListComp elt [⟨tg, iter, ifs, 0⟩] scope pos) (some (.Name y py)) spos.line X.env = pure true) (hi : PMI X E tg iter it) (ok : BlkOk X.N X.env.scope scope own)
    (hG : ∀ (s : Shared) (H : Hp) (C : Addr) (cl : List (Str × Addr)) (fp : List Addr), PG (X.blk s H scope (compEnvC scope cl C X.env) fp) tg t) (hg : GM X.K t g ws) (hv : ∀ w ∈ ws, w ∈ own.map (·.2))
    (ht : ∀ (s : Shared) (H : Hp) (C : Addr) (cl : List (Str × Addr)) (fp : List Addr), PMTs (X.blk s H scope (compEnvC scope cl C X.env) fp) E0 ifs mc)
    (he : ∀ (s : Shared) (H : Hp) (C : Addr) (cl : List (Str × Addr)) (fp : List Addr), PM (X.blk s H scope (compEnvC scope cl C X.env) fp) E0 elt me) (hs : ∀ x, foldedSetIterable iter X.env x = pure x := by intro _; rfl) :
    PMS X E (.Assign [.Name y py] (.ListComp elt [⟨tg, iter, ifs, 0⟩] scope pos) spos) (sAs (gN i) (eLcN it g mc me (own.map (·.2)))) :=
  pms_lc (ps_setLc (tt := tMT X.K E0 mc) (te := tM X.K E0 me) c.calm c.nd hy hyl hsw hi ok hG ht he hs) fun σ H Q h => tLcN hg hv h
end
end SF

/-! Running the combinators: each applied form, for simp; loops; the ends of defs. -/
namespace SF
open PySem L2
/-- the field f of the instance of C at x -/
def fldD (C : Addr) (f : Str) (x : D) (S1 : Sto) : R D := match x with
  | .ref i => match S1[i]? with
    | some (.ins C' fs) => if C' = C then (match fs.lookup f with
      | some d => .ok d S1
      | none => .stuck) else .stuck
    | _ => .stuck
  | _ => .stuck
section
variable {a b c : Exp} {as : Exps} {x y : Tst} {p q : Stm} {en : En} {S : Sto}
@[simp] theorem ap_eV (i : Nat) : eV i en S = match en[i]? with | some (some d) => .ok d S | _ => .stuck := rfl
@[simp] theorem ap_eK (d : D) : eK d en S = .ok d S := rfl
@[simp] theorem ap_eOp (f : Op2) : eOp f a b en S = (a en S).bind fun x S1 => (b en S1).bind fun y S2 => f x y S2 := rfl
@[simp] theorem ap_eCh (f g : Op2) : eCh f g a b c en S = (a en S).bind fun x S1 => (b en S1).bind fun y S2 => (f x y S2).bind fun z S3 => match z with
  | .bl true => (c en S3).bind fun w S4 => g y w S4
  | .bl false => .ok (.bl false) S3
  | _ => .stuck := rfl
@[simp] theorem ap_tV : tV a en S = (a en S).bind toB := rfl
@[simp] theorem ap_toB (b : Bool) : toB (.bl b) S = .ok b S := rfl
@[simp] theorem ap_eAnd : eAnd a b en S = (a en S).bind fun x S1 => match x with | .bl true => b en S1 | .bl false => .ok (.bl false) S1 | _ => .stuck := rfl
@[simp] theorem ap_eOr : eOr a b en S = (a en S).bind fun x S1 => match x with | .bl true => .ok (.bl true) S1 | .bl false => b en S1 | _ => .stuck := rfl
@[simp] theorem ap_eNot : eNot a en S = (a en S).bind fun x S1 => match x with | .bl b => .ok (.bl (!b)) S1 | _ => .stuck := rfl
@[simp] theorem ap_tAn : tAn x y en S = (x en S).bind fun c S1 => match c with | true => y en S1 | false => .ok false S1 := rfl
@[simp] theorem ap_tOrr : tOrr x y en S = (x en S).bind fun c S1 => match c with | true => .ok true S1 | false => y en S1 := rfl
@[simp] theorem ap_tNo : tNo x en S = (x en S).bind fun c S1 => .ok (!c) S1 := rfl
@[simp] theorem ap_eIf : eIf x a b en S = (x en S).bind fun c S1 => match c with | true => a en S1 | false => b en S1 := rfl
@[simp] theorem ap_aN : aN en S = .ok [] S := rfl
@[simp] theorem ap_aC : aC a as en S = (a en S).bind fun x S1 => (as en S1).bind fun xs S2 => .ok (x :: xs) S2 := rfl
@[simp] theorem ap_eTup : eTup as en S = (as en S).bind fun ds S1 => if ds.length ≤ 100000 then .ok (.tup ds) S1 else .stuck := rfl
@[simp] theorem ap_eLst : eLst as en S = (as en S).bind fun ds S1 => if ds.length ≤ 100000 then .ok (.lst ds) S1 else .stuck := rfl
@[simp] theorem ap_eNew : eNew as en S = (as en S).bind fun ds S1 => if ds.length ≤ 100000 then .ok (.ref S1.length) (S1 ++ [.lst ds]) else .stuck := rfl
@[simp] theorem ap_eNewD : eNewD en S = .ok (.ref S.length) (S ++ [.dct []]) := rfl
@[simp] theorem ap_eCall (n : Nat) (f : List D → Sto → R D) (dv : List D) : eCall n f dv as en S = (as en S).bind fun ds S1 => arg n f (ds ++ dv) S1 := rfl
theorem ap_arg (n : Nat) (f : List D → Sto → R D) (ds : List D) (h : ds.length = n) : arg n f ds S = f ds S := if_pos h
@[simp] theorem arg0 (f : List D → Sto → R D) : arg 0 f [] S = f [] S := rfl
@[simp] theorem arg1 (f : List D → Sto → R D) (d1 : D) : arg 1 f [d1] S = f [d1] S := rfl
@[simp] theorem arg2 (f : List D → Sto → R D) (d1 d2 : D) : arg 2 f [d1, d2] S = f [d1, d2] S := rfl
@[simp] theorem arg3 (f : List D → Sto → R D) (d1 d2 d3 : D) : arg 3 f [d1, d2, d3] S = f [d1, d2, d3] S := rfl
@[simp] theorem arg4 (f : List D → Sto → R D) (d1 d2 d3 d4 : D) : arg 4 f [d1, d2, d3, d4] S = f [d1, d2, d3, d4] S := rfl
@[simp] theorem arg5 (f : List D → Sto → R D) (d1 d2 d3 d4 d5 : D) : arg 5 f [d1, d2, d3, d4, d5] S = f [d1, d2, d3, d4, d5] S := rfl
@[simp] theorem arg6 (f : List D → Sto → R D) (d1 d2 d3 d4 d5 d6 : D) : arg 6 f [d1, d2, d3, d4, d5, d6] S = f [d1, d2, d3, d4, d5, d6] S := rfl
@[simp] theorem ap_eFldC (C : Addr) (f : Str) : eFldC C f a en S = (a en S).bind fun x S1 => fldD C f x S1 := by
  unfold eFldC fldD
  rfl
@[simp] theorem ap_eMeth (C : Addr) (m : Str) (n : Nat) (f : List D → Sto → R D) (dv : List D) : eMeth C m n f dv a as en S = (a en S).bind fun x S1 =>
  if isIns C m S1 x = true then (as en S1).bind fun ds S2 => arg n f (x :: (ds ++ dv)) S2 else .stuck := rfl
@[simp] theorem ap_eMake (C : Addr) (n : Nat) (f : List D → Sto → R D) (dv : List D) : eMake C n f dv as en S = (as en S).bind fun ds S1 =>
  (arg n f (.ref S1.length :: (ds ++ dv)) (S1 ++ [.ins C []])).bind fun x S2 => match x with
    | .non => .ok (.ref S1.length) S2
    | _ => .stuck := rfl
@[simp] theorem ap_eNeg : eNeg a en S = (a en S).bind fun x S1 => match x with | .int i => .ok (.int (-i)) S1 | _ => .stuck := rfl
@[simp] theorem ap_eSl (lo hi : Oe) : eSl a lo hi en S = (a en S).bind fun x S1 => (evO lo en S1).bind fun l S2 => (evO hi en S2).bind fun h S3 => slD x l h S3 := rfl
@[simp] theorem ap_evN : evO none en S = .ok none S := rfl
@[simp] theorem ap_evS : evO (some a) en S = (a en S).bind fun d S1 => match d with | .int i => .ok (some i) S1 | _ => .stuck := rfl
@[simp] theorem ap_eB (f : Fn1) : eB f as en S = (as en S).bind fun ds S1 => f ds S1 := rfl
@[simp] theorem ap_eIsT (t : TyN) : eIsT t a en S = (a en S).bind fun d S1 => fIsT t [d] S1 := by
  unfold eIsT eB aC aN
  cases a en S <;> rfl
@[simp] theorem ap_fIsT (t : TyN) (d : D) : fIsT t [d] S = match isTy t S d with | some b => .ok (.bl b) S | none => .stuck := rfl
@[simp] theorem ap_eMt (T : String) (f : Fm) : eMt T f a as en S = (a en S).bind fun x S1 => if tyOk T S1 x = true then (as en S1).bind fun ds S2 => f x ds S2 else .stuck := rfl
@[simp] theorem ap_eLenSet : eLenSet a en S = (a en S).bind fun d S1 => match getL S1 d with
  | some ds => match intsD ds with
    | some ns => if ns.length ≤ 4000 then .ok (.int (distinctN ns)) S1 else .stuck
    | none => .stuck
  | none => .stuck := rfl
@[simp] theorem ap_eRgL (it : Itm) : eRgL it en S = (it en S).bind fun ic S1 => if ic.1.length ≤ 100000 then .ok (.lst ic.1) S1 else .stuck := rfl
@[simp] theorem ap_iR1 : iR1 as en S = (as en S).bind fun ds S1 => match ds with
  | [.int n] => if -1000000 ≤ n ∧ n ≤ 1000000 then .ok (rngD 0 n.toNat, fun (_ : Sto) => True) S1 else .stuck
  | _ => .stuck := rfl
@[simp] theorem ap_iR2 : iR2 as en S = (as en S).bind fun ds S1 => match ds with
  | [.int a, .int b] => if (-1000000 ≤ a ∧ a ≤ 1000000) ∧ -1000000 ≤ b ∧ b ≤ 1000000 then .ok (rngD a (b - a).toNat, fun (_ : Sto) => True) S1 else .stuck
  | _ => .stuck := rfl
@[simp] theorem ap_iSeq : iSeq a en S = (a en S).bind fun x S1 => match x with
  | .lst ds => .ok (ds, fun (_ : Sto) => True) S1
  | .tup ds => .ok (ds, fun (_ : Sto) => True) S1
  | .xtup ds => .ok (ds, fun (_ : Sto) => True) S1
  | .ref i => match S1[i]? with
    | some (.lst ds) => .ok (ds, fun (S : Sto) => S[i]? = some (.lst ds)) S1
    | _ => .stuck
  | _ => .stuck := rfl
@[simp] theorem ap_iEn : iEn as en S = (as en S).bind fun ds S1 => match ds with
  | [d] => match seqD S1 d with
    | some (_, xs, chk) => .ok (xs.zipIdx.map fun p => .tup [.int (p.2 : Nat), p.1], chk) S1
    | none => .stuck
  | _ => .stuck := rfl
@[simp] theorem ap_iZp : iZp as en S = (as en S).bind fun ds S1 => match ds with
  | [d, e] => match seqD S1 d, seqD S1 e with
    | some (_, xs, chk), some (_, ys, chk') => .ok (xs.zipWith (fun x y => .tup [x, y]) ys, fun S => chk S ∧ chk' S) S1
    | _, _ => .stuck
  | _ => .stuck := rfl
@[simp] theorem ap_eLc (it : Itm) (g : Tgt) (vs : List Nat) : eLc it g x a vs en S = (it en S).bind fun ic S1 =>
  if ic.1.length ≤ 50000 then (lcM g x a ic.2 (wipeE en vs) ic.1 S1).bind fun ys S2 => .ok (.lst ys) S2 else .stuck := rfl
@[simp] theorem ap_eLcN (it : Itm) (g : Tgt) (vs : List Nat) : eLcN it g x a vs en S = (it en S).bind fun ic S1 =>
  if ic.1.length ≤ 50000 then (lcM g x a ic.2 (wipeE en vs) ic.1 S1).bind fun ys S2 => .ok (.ref S2.length) (S2 ++ [.lst ys]) else .stuck := rfl
@[simp] theorem ap_eDict (ps : List (Exp × Exp)) : eDict ps en S = (ePairs ps en S).nox.bind fun l S1 => match keysD l with
  | some kvs => if kvs.length ≤ 15 then .ok (.dct (mergeD [] kvs)) S1 else .stuck
  | none => .stuck := rfl
@[simp] theorem ap_eGet : eGet a b c en S = (a en S).bind fun x S1 => match getD S1 x with
  | some _ => (b en S1).bind fun y S2 => (c en S2).bind fun w S3 => match getD S3 x, keyD y with
    | some kvs, some k => .ok ((valD kvs k).getD w) S3
    | _, _ => .stuck
  | none => .stuck := rfl
@[simp] theorem ap_sNx : sNx en S = .nx en S := rfl
@[simp] theorem ap_sNo : sNo en S = .stuck := rfl
@[simp] theorem ap_tYs : tYs en S = .ok true S := rfl
@[simp] theorem ap_sSeq : sSeq p q en S = (p en S).andThen q := rfl
@[simp] theorem ap_sEx : sEx a en S = (a en S).thenS fun _ S1 => .nx en S1 := rfl
@[simp] theorem ap_sRt : sRt a en S = (a en S).thenS fun d S1 => .rt d S1 := rfl
@[simp] theorem ap_sIf : sIf x p q en S = (x en S).thenS fun c S1 => match c with | true => p en S1 | false => q en S1 := rfl
@[simp] theorem ap_sAs (g : Tgt) : sAs g a en S = (a en S).thenS fun d S1 => match g d en with | some en1 => .nx en1 S1 | none => .stuck := rfl
@[simp] theorem ap_sPar (i j : Nat) : sPar i j as en S = (as en S).thenS fun ds S1 => match ds with | [a, b] => .nx ((en.set i (some a)).set j (some b)) S1 | _ => .stuck := rfl
@[simp] theorem ap_sPar3 (i j l : Nat) : sPar3 i j l as en S = (as en S).thenS fun ds S1 => match ds with | [a, b, c] => .nx (((en.set i (some a)).set j (some b)).set l (some c)) S1 | _ => .stuck := rfl
@[simp] theorem ap_gN (i : Nat) (d : D) : gN i d en = some (en.set i (some d)) := rfl
@[simp] theorem ap_gT (gs : Tgts) (ds : List D) : gT gs (.tup ds) en = gs ds en := rfl
@[simp] theorem ap_gsN : gsN [] en = some en := rfl
@[simp] theorem ap_gsC (g : Tgt) (gs : Tgts) (d : D) (ds : List D) : gsC g gs (d :: ds) en = (g d en).bind fun en1 => gs ds en1 := rfl
@[simp] theorem ap_sFor (it : Itm) (g : Tgt) : sFor it g p en S = (it en S).thenS fun ic S1 => forL g p ic.2 ic.1 en S1 := rfl
@[simp] theorem ap_sFld (C : Addr) (f : Str) : sFld C f a b en S = (b en S).thenS fun y S1 => (a en S1).thenS fun x S2 => match x with
  | .ref i => match S2[i]? with
    | some (.ins C' fs) => if C' = C ∧ fs.length < 900 then .nx en (S2.set i (.ins C (putFD f y fs))) else .stuck
    | _ => .stuck
  | _ => .stuck := rfl
@[simp] theorem ap_sSetL : sSetL a b c en S = (c en S).thenS fun y S1 => (a en S1).thenS fun x S2 => (b en S2).thenS fun k S3 => match x, k with
  | .ref a, .int k => match S3[a]? with
    | some (.lst ds) => match ixN ds.length k with
      | some j => .nx en (S3.set a (.lst (ds.set j y)))
      | none => .stuck
    | _ => .stuck
  | _, _ => .stuck := rfl
@[simp] theorem ap_sSetD : sSetD a b c en S = (c en S).thenS fun y S1 => (a en S1).thenS fun x S2 => (b en S2).thenS fun k S3 => match x, keyD k with
  | .ref a, some k => match S3[a]? with
    | some (.dct ds) => if ds.length < 100000 then .nx en (S3.set a (.dct (putD ds k y))) else .stuck
    | _ => .stuck
  | _, _ => .stuck := rfl
@[simp] theorem ap_sCl (i : Nat) : sCl i en S = match en[i]? with
  | some (some (.ref j)) => match S[j]? with
    | some (.lst ds) => .nx (en.set i (some (.lst ds))) (S.set j .dead)
    | some (.dct kvs) => .nx (en.set i (some (.dct kvs))) (S.set j .dead)
    | _ => .stuck
  | _ => .stuck := rfl
end
/-! the operators at their kinds -/
section
variable {S : Sto}
@[simp] theorem oI_int (C : Int → Int → Bool) (g : Int → Int → D) (i j : Int) : oI C g (.int i) (.int j) S = if C i j = true then .ok (g i j) S else .stuck := rfl
@[simp] theorem oSub_int (i j : Int) : oSub (.int i) (.int j) S = .ok (.int (i - j)) S := rfl
@[simp] theorem oLt_int (i j : Int) : oLt (.int i) (.int j) S = .ok (.bl (decide (i < j))) S := rfl
@[simp] theorem oLe_int (i j : Int) : oLe (.int i) (.int j) S = .ok (.bl (decide (i ≤ j))) S := rfl
@[simp] theorem oGt_int (i j : Int) : oGt (.int i) (.int j) S = .ok (.bl (decide (j < i))) S := rfl
@[simp] theorem oGe_int (i j : Int) : oGe (.int i) (.int j) S = .ok (.bl (decide (j ≤ i))) S := rfl
theorem oMod_int (i j : Int) (h : 0 < j) : oMod (.int i) (.int j) S = .ok (.int (i % j)) S := if_pos (decide_eq_true h)
theorem oDiv_int (i j : Int) (h : 0 < j) (h2 : j.natAbs < 2 ^ 200) : oDiv (.int i) (.int j) S = .ok (.int (i / j)) S := if_pos (decide_eq_true ⟨h, h2⟩)
theorem oMul_int (i j : Int) (h : okMul i j = true) : oMul (.int i) (.int j) S = .ok (.int (i * j)) S := if_pos h
@[simp] theorem oAdd_int (i j : Int) : oAdd (.int i) (.int j) S = .ok (.int (i + j)) S := rfl
@[simp] theorem oAdd_tup (xs ys : List D) : oAdd (.tup xs) (.tup ys) S = if xs.length + ys.length ≤ 100000 then .ok (.tup (xs ++ ys)) S else .stuck := rfl
@[simp] theorem oAdd_lst (xs ys : List D) : oAdd (.lst xs) (.lst ys) S = if xs.length + ys.length ≤ 100000 then .ok (.lst (xs ++ ys)) S else .stuck := rfl
@[simp] theorem getL_lst (ds : List D) : getL S (.lst ds) = some ds := rfl
@[simp] theorem getL_tup (ds : List D) : getL S (.tup ds) = none := rfl
@[simp] theorem getL_scr (ns : List Int) : getL S (.scr ns) = some (ns.map .int) := rfl
@[simp] theorem getL_int (i : Int) : getL S (.int i) = none := rfl
@[simp] theorem getL_str (i : Str) : getL S (.str i) = none := rfl
@[simp] theorem getL_bl (i : Bool) : getL S (.bl i) = none := rfl
@[simp] theorem getL_non : getL S .non = none := rfl
@[simp] theorem getL_dct (ds : List (Key × D)) : getL S (.dct ds) = none := rfl
@[simp] theorem getL_ref (i : Nat) : getL S (.ref i) = match S[i]? with | some (.lst ds) => some ds | _ => none := rfl
@[simp] theorem getD_dct (ds : List (Key × D)) : getD S (.dct ds) = some ds := rfl
@[simp] theorem getD_lst (ds : List D) : getD S (.lst ds) = none := rfl
@[simp] theorem getD_tup (ds : List D) : getD S (.tup ds) = none := rfl
@[simp] theorem getD_scr (ns : List Int) : getD S (.scr ns) = none := rfl
@[simp] theorem getD_str (ns : Str) : getD S (.str ns) = none := rfl
@[simp] theorem getD_ref (i : Nat) : getD S (.ref i) = match S[i]? with | some (.dct ds) => some ds | _ => none := rfl
@[simp] theorem getT_tup (ds : List D) : getT (.tup ds) = some ds := rfl
@[simp] theorem getT_int (i : Int) : getT (.int i) = none := rfl
@[simp] theorem getT_str (i : Str) : getT (.str i) = none := rfl
@[simp] theorem getT_bl (i : Bool) : getT (.bl i) = none := rfl
@[simp] theorem getT_non : getT .non = none := rfl
@[simp] theorem getT_ref (i : Nat) : getT (.ref i) = none := rfl
@[simp] theorem getT_dct (ds : List (Key × D)) : getT (.dct ds) = none := rfl
@[simp] theorem getQ_lst (ds : List D) : getQ S (.lst ds) = some ds := rfl
@[simp] theorem getQ_tup (ds : List D) : getQ S (.tup ds) = some ds := rfl
@[simp] theorem getQ_scr (ns : List Int) : getQ S (.scr ns) = some (ns.map .int) := rfl
theorem getQ_ref {i : Nat} {ds : List D} (h : S[i]? = some (.lst ds)) : getQ S (.ref i) = some ds := by simp [getQ, h]
@[simp] theorem keyD_int (i : Int) : keyD (.int i) = some (.inl i) := rfl
@[simp] theorem keyD_str (i : Str) : keyD (.str i) = some (.inr i) := rfl
@[simp] theorem seqD_lst (ds : List D) : seqD S (.lst ds) = some (.l, ds, fun _ => True) := rfl
@[simp] theorem seqD_tup (ds : List D) : seqD S (.tup ds) = some (.t, ds, fun _ => True) := rfl
@[simp] theorem seqD_xtup (ds : List D) : seqD S (.xtup ds) = some (.t, ds, fun _ => True) := rfl
@[simp] theorem getQ_xtup (ds : List D) : getQ S (.xtup ds) = some ds := rfl
@[simp] theorem fLen_xtup (ds : List D) : fLen [.xtup ds] S = .ok (.int ds.length) S := rfl
@[simp] theorem seqD_ref (i : Nat) : seqD S (.ref i) = match S[i]? with | some (.lst ds) => some (.l, ds, fun S => S[i]? = some (.lst ds)) | _ => none := rfl
@[simp] theorem fLen_lst (ds : List D) : fLen [.lst ds] S = .ok (.int ds.length) S := rfl
@[simp] theorem fLen_tup (ds : List D) : fLen [.tup ds] S = .ok (.int ds.length) S := rfl
@[simp] theorem fLen_scr (ns : List Int) : fLen [.scr ns] S = .ok (.int ns.length) S := by simp [fLen]
theorem fLen_ref {i : Nat} {ds : List D} (h : S[i]? = some (.lst ds)) : fLen [.ref i] S = .ok (.int ds.length) S := by simp [fLen, getQ_ref h]
@[simp] theorem oIsN_non (neg : Bool) : oIsN neg .non .non S = .ok (.bl (!neg)) S := by cases neg <;> rfl
@[simp] theorem oIsN_int (neg : Bool) (i : Int) : oIsN neg (.int i) .non S = .ok (.bl neg) S := by cases neg <;> rfl
@[simp] theorem oIsN_tup (neg : Bool) (i : List D) : oIsN neg (.tup i) .non S = .ok (.bl neg) S := by cases neg <;> rfl
@[simp] theorem oIsN_lst (neg : Bool) (i : List D) : oIsN neg (.lst i) .non S = .ok (.bl neg) S := by cases neg <;> rfl
@[simp] theorem oIsN_dct (neg : Bool) (i : List (Key × D)) : oIsN neg (.dct i) .non S = .ok (.bl neg) S := by cases neg <;> rfl
@[simp] theorem oIsN_ref (neg : Bool) (i : Nat) : oIsN neg (.ref i) .non S = .ok (.bl neg) S := by cases neg <;> rfl
@[simp] theorem oIsN_bl (neg : Bool) (i : Bool) : oIsN neg (.bl i) .non S = .ok (.bl neg) S := by cases neg <;> rfl
@[simp] theorem oIsB_bl (neg a b : Bool) : oIsB neg (.bl a) (.bl b) S = .ok (.bl (neg ^^ decide (a = b))) S := rfl
@[simp] theorem fMax2_int (i j : Int) : fMax2 [.int i, .int j] S = .ok (.int (max i j)) S := by
  unfold fMax2; simp only [R.ok.injEq, D.int.injEq, and_true]; split <;> omega
@[simp] theorem fMin2_int (i j : Int) : fMin2 [.int i, .int j] S = .ok (.int (min i j)) S := by
  unfold fMin2; simp only [R.ok.injEq, D.int.injEq, and_true]; split <;> omega
@[simp] theorem fTuple_lst (ds : List D) : fTuple [.lst ds] S = .ok (.tup ds) S := rfl
@[simp] theorem fTuple_tup (ds : List D) : fTuple [.tup ds] S = .ok (.tup ds) S := rfl
@[simp] theorem fList_lst (ds : List D) : fList [.lst ds] S = .ok (.lst ds) S := rfl
@[simp] theorem fList_tup (ds : List D) : fList [.tup ds] S = .ok (.lst ds) S := rfl
@[simp] theorem fListN_lst (ds : List D) : fListN [.lst ds] S = .ok (.ref S.length) (S ++ [.lst ds]) := rfl
@[simp] theorem fListN_tup (ds : List D) : fListN [.tup ds] S = .ok (.ref S.length) (S ++ [.lst ds]) := rfl
@[simp] theorem slD_lst (ds : List D) (lo hi : Option Int) : slD (.lst ds) lo hi S = .ok (.lst (cutD ds lo hi)) S := rfl
@[simp] theorem slD_tup (ds : List D) (lo hi : Option Int) : slD (.tup ds) lo hi S = .ok (.tup (cutD ds lo hi)) S := rfl
/-! == of what is flat -/
theorem oEqN_int (neg : Bool) (i j : Int) : oEqN neg (.int i) (.int j) S = .ok (.bl (neg ^^ decide (i = j))) S := by
  have h : (i == j) = decide (i = j) := rfl
  simp [oEqN, pyS, pyD, SeqAt.shaped, PyData.canLay0, PyData.depth, PyData.eqv, h]
theorem oEqN_str (neg : Bool) (x y : Str) (hx : PyData.strOk x = true) (hy : PyData.strOk y = true) : oEqN neg (.str x) (.str y) S = .ok (.bl (neg ^^ decide (x = y))) S := by
  have h : (x == y) = decide (x = y) := by
    by_cases e : x = y
    · subst e; simp
    · rw [decide_eq_false e]; exact beq_eq_false_iff_ne.mpr e
  simp [oEqN, pyS, pyD, SeqAt.shaped, PyData.canLay0, PyData.depth, PyData.eqv, hx, hy, h]
theorem oEqN_int_str (neg : Bool) (i : Int) (y : Str) (hy : PyData.strOk y = true) : oEqN neg (.int i) (.str y) S = .ok (.bl neg) S := by
  simp [oEqN, pyS, pyD, SeqAt.shaped, PyData.canLay0, PyData.depth, PyData.eqv, hy]
theorem oEqN_str_int (neg : Bool) (i : Int) (y : Str) (hy : PyData.strOk y = true) : oEqN neg (.str y) (.int i) S = .ok (.bl neg) S := by
  simp [oEqN, pyS, pyD, SeqAt.shaped, PyData.canLay0, PyData.depth, PyData.eqv, hy]
theorem oEqN_bl (neg a b : Bool) : oEqN neg (.bl a) (.bl b) S = .ok (.bl (neg ^^ decide (a = b))) S := by
  have h : (a == b) = decide (a = b) := by cases a <;> cases b <;> rfl
  simp [oEqN, pyS, pyD, SeqAt.shaped, PyData.canLay0, PyData.depth, PyData.eqv, h]
/-! an item by its place -/
theorem atI_nat' {α : Type} {xs : List α} {j : Nat} {v : α} (h : xs[j]? = some v) : atI xs (j : Int) = some v := atI_nat h
@[simp] theorem atI_0 {α : Type} (x : α) (xs : List α) : atI (x :: xs) 0 = some x := atI_nat (j := 0) rfl
@[simp] theorem atI_1 {α : Type} (x y : α) (xs : List α) : atI (x :: y :: xs) 1 = some y := atI_nat (j := 1) rfl
@[simp] theorem atI_2 {α : Type} (x y z : α) (xs : List α) : atI (x :: y :: z :: xs) 2 = some z := atI_nat (j := 2) rfl
@[simp] theorem atI_3 {α : Type} (x y z u : α) (xs : List α) : atI (x :: y :: z :: u :: xs) 3 = some u := atI_nat (j := 3) rfl
theorem oIx_tup (ds : List D) (i : Int) : oIx (.tup ds) (.int i) S = match atI ds i with | some d => .ok d S | none => .stuck := rfl
theorem oIx_lst (ds : List D) (i : Int) : oIx (.lst ds) (.int i) S = match atI ds i with | some d => .ok d S | none => .stuck := rfl
theorem oIx_scr (ns : List Int) (i : Int) : oIx (.scr ns) (.int i) S = match atI (ns.map D.int) i with | some d => .ok d S | none => .stuck := rfl
theorem oIx_ref {k : Nat} {ds : List D} (h : S[k]? = some (.lst ds)) (i : Int) : oIx (.ref k) (.int i) S = match atI ds i with | some d => .ok d S | none => .stuck := by
  simp only [oIx, getD_ref, h, getQ_ref h]
  all_goals cases atI ds i <;> rfl
theorem oIx_dct (kvs : List (Key × D)) (d : D) : oIx (.dct kvs) d S = match keyD d with | some k => (match valD kvs k with | some d => .ok d S | none => .stuck) | none => .stuck := rfl
end
/-! ends of defs -/
theorem Good.refl (S : Sto) : Good S S := ⟨Nat.le_refl _, fun _ _ _ h => .inl h⟩
theorem Good.app (S T : Sto) : Good S (S ++ T) := ⟨by simp, fun i c hi h => .inl (by rw [List.getElem?_append_left hi] at h; exact h)⟩
theorem Good.set {S S' : Sto} {j : Nat} {c : Cell} (g : Good S S') (hc : j < S.length → noRefC S.length c = true) : Good S (S'.set j c) := by
  refine ⟨by rw [List.length_set]; exact g.1, fun i c' hi h => ?_⟩
  by_cases e : j = i
  · subst e
    have hl : j < S'.length := by
      have := (List.getElem?_eq_some_iff.mp h).1
      simpa using this
    rw [List.getElem?_set_self hl] at h
    cases h
    exact .inr (hc hi)
  · rw [List.getElem?_set_ne e] at h
    exact g.2 i c' hi h
theorem Good.app2 {S S' : Sto} (g : Good S S') (T : Sto) : Good S (S' ++ T) := ⟨by have := g.1; simp; omega, fun i c hi h => by
  rw [List.getElem?_append_left (Nat.lt_of_lt_of_le hi g.1)] at h; exact g.2 i c hi h⟩
theorem gcR_ok {S S' : Sto} {d : D} (g : Good S S') (h : noRef S.length d = true) : gcR S (.ok d S') = .ok d (S'.take S.length) := by
  unfold gcR
  dsimp only
  rw [if_pos ⟨g, h⟩]
@[simp] theorem gcR_same {S : Sto} {d : D} (h : noRef S.length d = true) : gcR S (.ok d S) = .ok d S := by
  rw [gcR_ok (Good.refl S) h, List.take_length]
@[simp] theorem gcR_stuck {S : Sto} : gcR S .stuck = .stuck := rfl
theorem le_refl {α : Type} (r : R α) : Le r r := .inr rfl
theorem le_of {α : Type} {r r' : R α} (h : r' = r) : Le r r' := .inr h
theorem le_stuck {α : Type} (r : R α) : Le .stuck r := .inl rfl
theorem runB_rt {m : Stm} {N : Nat} {ds : List D} {S S' : Sto} {d : D} (h : m (env0 N ds) S = .rt d S') : runB m N ds S = .ok d S' := by unfold runB; rw [h]
theorem runB_nx {m : Stm} {N : Nat} {ds : List D} {S S' : Sto} {en : En} (h : m (env0 N ds) S = .nx en S') : runB m N ds S = .ok .non S' := by unfold runB; rw [h]
/-! comprehensions -/
theorem lcM_pure {g : Tgt} {c : Tst} {e : Exp} {chk : Sto → Prop} {en : En} {S : Sto} (p : D → Bool) (v : D → D) (en1 : D → En) (hchk : chk S) : ∀ {items : List D}, (∀ d ∈ items, g d en = some (en1 d)) → (∀ d ∈ items, c (en1 d) S = .ok (p d) S) →
    (∀ d ∈ items, p d = true → e (en1 d) S = .ok (v d) S) → lcM g c e chk en items S = .ok ((items.filter p).map v) S
  | [], _, _, _ => rfl
  | d :: r, hg, hc, he => by
    have ih := lcM_pure (items := r) p v en1 hchk (fun d h => hg d (List.mem_cons_of_mem _ h)) (fun d h => hc d (List.mem_cons_of_mem _ h)) (fun d h => he d (List.mem_cons_of_mem _ h))
    unfold lcM
    rw [hg d List.mem_cons_self]
    dsimp only
    rw [hc d List.mem_cons_self]
    cases hp : p d with
    | true =>
      simp only [R.nox_ok, R.bind_ok]
      rw [he d List.mem_cons_self hp]
      simp only [R.nox_ok, R.bind_ok]
      rw [if_pos hchk, ih]
      simp [hp]
    | false =>
      simp only [R.nox_ok, R.bind_ok]
      rw [if_pos hchk, ih]
      simp [hp]
end SF
namespace SF
open PySem L2
section
variable {S : Sto} {i j : Nat} {c c' : Cell}
theorem gx_lt (h : S[i]? = some c) : i < S.length := (List.getElem?_eq_some_iff.mp h).1
theorem gx_app (h : S[i]? = some c) (T : Sto) : (S ++ T)[i]? = some c := by rw [List.getElem?_append_left (gx_lt h)]; exact h
theorem gx_set (h : S[i]? = some c) (x : Cell) : (S.set i x)[i]? = some x := List.getElem?_set_self (gx_lt h)
theorem gx_setapp (h : S[i]? = some c) (x : Cell) (T : Sto) : (S.set i x ++ T)[i]? = some x := gx_app (gx_set h x) T
theorem gx_ne (h : S[j]? = some c) (hne : i ≠ j) (x : Cell) : (S.set i x)[j]? = some c := by rw [List.getElem?_set_ne hne]; exact h
theorem gx_neapp (h : S[j]? = some c) (hne : i ≠ j) (x : Cell) (T : Sto) : (S.set i x ++ T)[j]? = some c := gx_app (gx_ne h hne x) T
theorem gx_last (T : Sto) : (S ++ c :: T)[S.length]? = some c := by simp
theorem gs_app (h : S[i]? = some c) (x : Cell) (T : Sto) : (S ++ T).set i x = S.set i x ++ T := by rw [List.set_append_left _ _ (gx_lt h)]
theorem gs_last (x : Cell) : (S ++ [c]).set S.length x = S ++ [x] := by
  rw [List.set_append_right _ _ (Nat.le_refl _)]; simp
end
end SF
namespace SF
theorem lcM_map {g : Tgt} {e : Exp} {chk : Sto → Prop} {en : En} {S : Sto} (v : D → D) (en1 : D → En) (hchk : chk S) {items : List D} (hg : ∀ d ∈ items, g d en = some (en1 d)) (he : ∀ d ∈ items, e (en1 d) S = .ok (v d) S) :
    lcM g tYs e chk en items S = .ok (items.map v) S := by
  rw [lcM_pure (fun _ => true) v en1 hchk hg (fun _ _ => rfl) (fun d h _ => he d h)]
  congr 2
  exact List.filter_eq_self.mpr fun _ _ => rfl
end SF

/-! Houses: what the defs of stage.py tell. -/
namespace SF
open PySem L2
/-! ### the data -/
inductive Pc where
  | cl (line beats hands : Int) | tr (beats hands : Int)
  deriving DecidableEq
def Pc.d : Pc → D
  | .cl l b h => .tup [.str "cloth", .int l, .int b, .int h]
  | .tr b h => .tup [.str "truck", .int b, .int h]
def Pc.beats : Pc → Int
  | .cl _ b _ => b
  | .tr b _ => b
def Pc.hands : Pc → Int
  | .cl _ _ h => h
  | .tr _ h => h
structure Ho where
  l : Int
  s : Int
  h : Int
  ps : List Pc
/-- the cell of a house whose pieces stand at j -/
def hCell (cs : Cs) (l s h : Int) (j : Nat) : Cell := .ins cs.House [("size", .tup [.int l, .int s, .int h]), ("stock", .ref j)]
structure HAt (cs : Cs) (S : Sto) (i j : Nat) (ho : Ho) : Prop where
  own : S[i]? = some (hCell cs ho.l ho.s ho.h j)
  stk : S[j]? = some (.lst (ho.ps.map Pc.d))
theorem size_ne : ¬ (("stock" : Str) = "size") := by decide +kernel
theorem HAt.size {cs : Cs} {S : Sto} {i j : Nat} {ho : Ho} (h : HAt cs S i j ho) : eFldC cs.House "size" = eFldC cs.House "size" := rfl
theorem lk_size {l s h : Int} {j : Nat} : List.lookup ("size" : Str) [(("size" : Str), D.tup [.int l, .int s, .int h]), ("stock", D.ref j)] = some (D.tup [.int l, .int s, .int h]) := by
  rw [List.lookup_cons, beq_self_eq_true]
theorem lk_stock {l s h : Int} {j : Nat} : List.lookup ("stock" : Str) [(("size" : Str), D.tup [.int l, .int s, .int h]), ("stock", D.ref j)] = some (D.ref j) := by
  rw [List.lookup_cons, show (("stock" : Str) == ("size" : Str)) = false by decide +kernel, List.lookup_cons, beq_self_eq_true]
section
variable {cs : Cs} {S : Sto} {i j : Nat} {ho : Ho} {a : Exp} {en : En}
theorem HAt.f_size (h : HAt cs S i j ho) : fldD cs.House "size" (.ref i) S = .ok (.tup [.int ho.l, .int ho.s, .int ho.h]) S := by
  simp only [fldD, h.own, hCell, lk_size, if_true]
theorem HAt.f_stock (h : HAt cs S i j ho) : fldD cs.House "stock" (.ref i) S = .ok (.ref j) S := by
  simp only [fldD, h.own, hCell, lk_stock, if_true]
theorem HAt.ins (h : HAt cs S i j ho) (m : Str) (h1 : (m == ("size" : Str)) = false) (h2 : (m == ("stock" : Str)) = false) : isIns cs.House m S (.ref i) = true := by
  unfold isIns
  simp only [h.own, hCell, List.lookup_cons, h1, h2, List.lookup_nil, Option.isNone_none, decide_true, Bool.and_self]
theorem HAt.ne (h : HAt cs S i j ho) : i ≠ j := fun e => by
  have h1 := h.own
  rw [e, h.stk] at h1
  cases h1
end
/-- is_number(thing, least, most); slots thing least most -/
noncomputable def m_is_number (cs : Cs) : Stm :=
  (sRt (eAnd (eIsT .int (eV 0)) (eAnd (eNot (eIsT .bool (eV 0))) (eCh oLe oLe (eV 1) (eV 0) (eV 2)))))
/-! ### numbers -/
def isNum : D → Int → Int → Bool
  | .int i, lo, hi => decide (lo ≤ i ∧ i ≤ hi)
  | _, _, _ => false
/-- told by value -/
def plainD : D → Bool
  | .ref _ => false
  | .scr _ => false
  | .adr _ => false
  | _ => true
def f_is_number (cs : Cs) : List D → Sto → R D := fun ds S => match ds with
  | [d, .int lo, .int hi] => if plainD d = true then .ok (.bl (isNum d lo hi)) S else .stuck
  | _ => .stuck
theorem spec_is_number (cs : Cs) (ds : List D) (S : Sto) : Le (f_is_number cs ds S) (runB (m_is_number cs) 3 ds S) := by
  unfold f_is_number
  split
  · rename_i d lo hi
    split
    · rename_i hp
      refine le_of (runB_rt ?_)
      cases d <;> simp [m_is_number, env0, isTy, isNum, plainD] at hp ⊢
      rename_i i
      by_cases h1 : lo ≤ i <;> simp [h1]
    · exact le_stuck _
  · exact le_stuck _
/-- need_number(thing, least, most); slots thing least most -/
noncomputable def m_need_number (cs : Cs) : Stm :=
  (sIf (tNo (tV (eCall 3 (f_is_number cs) [] (aC (eV 0) (aC (eV 1) (aC (eV 2) aN)))))) (sRaise (cs.ex 0) 0) sNx)
def f_need_number (cs : Cs) : List D → Sto → R D := fun ds S => match ds with
  | [d, .int lo, .int hi] => if plainD d = true then (if isNum d lo hi = true then .ok .non S else .exc ⟨cs.ex 0, [], 0⟩ S) else .stuck
  | _ => .stuck
theorem runB_exc {m : Stm} {N : Nat} {ds : List D} {S S' : Sto} {x : Exn} (h : m (env0 N ds) S = .exc x S') : runB m N ds S = .exc x S' := by
  unfold runB
  rw [h]
theorem le_get {α : Type} {r : R α} {a : α} {S : Sto} (h : Le (.ok a S) r) : r = .ok a S := by
  rcases h with h | h
  · cases h
  · exact h
theorem spec_need_number (cs : Cs) (ds : List D) (S : Sto) : Le (f_need_number cs ds S) (runB (m_need_number cs) 3 ds S) := by
  unfold f_need_number
  split
  · rename_i d lo hi
    split
    · rename_i hp
      split
      · rename_i hq
        refine le_of (runB_nx (en := [some d, some (.int lo), some (.int hi)]) ?_)
        simp [m_need_number, env0, f_is_number, hp, hq]
      · rename_i hq
        refine le_of (runB_exc ?_)
        simp [m_need_number, env0, f_is_number, hp, hq]
    · exact le_stuck _
  · exact le_stuck _
open Classical in
noncomputable def g_House___init__ (cs : Cs) : List D → Sto → R D := fun ds S => match ds with
  | [.ref i, .int l, .int s, .int h] => if (1 ≤ l ∧ l ≤ 6) ∧ (0 ≤ s ∧ s ≤ 6) ∧ (1 ≤ h ∧ h ≤ 6) ∧ S[i]? = some (.ins cs.House []) then .ok .non (S.set i (hCell cs l s h S.length) ++ [.lst []]) else .stuck
  | _ => .stuck
/-- House.__init__(self, lines, slots, hands); slots self lines slots hands -/
noncomputable def m_House___init__ (cs : Cs) : Stm :=
  (sSeq (sEx (eCall 3 (f_need_number cs) [] (aC (eV 1) (aC (eK (.int 1)) (aC (eK (.int 6)) aN))))) (sSeq (sEx (eCall 3 (f_need_number cs) [] (aC (eV 2) (aC (eK (.int 0)) (aC (eK (.int 6)) aN))))) (sSeq (sEx (eCall 3 (f_need_number cs) [] (aC (eV 3) (aC (eK (.int 1)) (aC (eK (.int 6)) aN))))) (sSeq (sFld cs.House "size" (eV 0) (eTup (aC (eV 1) (aC (eV 2) (aC (eV 3) aN))))) (sFld cs.House "stock" (eV 0) (eNew aN))))))
theorem spec_House___init__ (cs : Cs) (ds : List D) (S : Sto) : Le (g_House___init__ cs ds S) (runB (m_House___init__ cs) 4 ds S) := by
  unfold g_House___init__
  split
  · rename_i i l s hh
    split
    · rename_i hp
      obtain ⟨⟨h1, h2⟩, ⟨h3, h4⟩, ⟨h5, h6⟩, hS⟩ := hp
      refine le_of (runB_nx (en := [some (.ref i), some (.int l), some (.int s), some (.int hh)]) ?_)
      simp [m_House___init__, env0, f_need_number, plainD, isNum, h1, h2, h3, h4, h5, h6, hS, putFD, sFld.putFD, gx_setapp hS, gs_app (gx_set hS _), hCell, show ¬ (("size" : Str) = "stock") by decide +kernel]
    · exact le_stuck _
  · exact le_stuck _
/-- the run itself -/
noncomputable def f_House___init__ (cs : Cs) : List D → Sto → R D := fun ds S => runB (m_House___init__ cs) 4 ds S
/-! ### a house in the store -/
theorem Pc.d_inj : ∀ {p q : Pc}, p.d = q.d → p = q
  | .cl _ _ _, .cl _ _ _, h => by simp [Pc.d] at h; obtain ⟨rfl, rfl, rfl⟩ := h; rfl
  | .tr _ _, .tr _ _, h => by simp [Pc.d] at h; obtain ⟨rfl, rfl⟩ := h; rfl
  | .cl _ _ _, .tr _ _, h => by simp [Pc.d] at h
  | .tr _ _, .cl _ _ _, h => by simp [Pc.d] at h
theorem Pc.ds_inj : ∀ {p q : List Pc}, p.map Pc.d = q.map Pc.d → p = q
  | [], [], _ => rfl
  | [], _ :: _, h => by simp at h
  | _ :: _, [], h => by simp at h
  | a :: p, b :: q, h => by
    rw [List.map_cons, List.map_cons, List.cons.injEq] at h
    rw [Pc.d_inj h.1, Pc.ds_inj h.2]
theorem HAt.uniq {cs : Cs} {S : Sto} {i j j' : Nat} {ho ho' : Ho} (h : HAt cs S i j ho) (h' : HAt cs S i j' ho') : j = j' ∧ ho = ho' := by
  have e := h.own.symm.trans h'.own
  simp [hCell] at e
  obtain ⟨⟨e1, e2, e3⟩, e4⟩ := e
  subst e4
  have e5 := h.stk.symm.trans h'.stk
  simp only [Option.some.injEq, Cell.lst.injEq] at e5
  have e6 := Pc.ds_inj e5
  obtain ⟨l, s, hh, ps⟩ := ho
  obtain ⟨l', s', hh', ps'⟩ := ho'
  simp only at e1 e2 e3 e6
  subst e1 e2 e3 e6
  exact ⟨rfl, rfl⟩
open Classical in
/-- the house at d: where its pieces stand, and what it is -/
noncomputable def houseOf (cs : Cs) (S : Sto) (d : D) : Option (Nat × Ho) :=
  if h : ∃ x : Nat × Nat × Ho, d = .ref x.1 ∧ HAt cs S x.1 x.2.1 x.2.2 then some (Classical.choose h).2 else none
theorem houseOf_eq {cs : Cs} {S : Sto} {i j : Nat} {ho : Ho} (h : HAt cs S i j ho) : houseOf cs S (.ref i) = some (j, ho) := by
  have hx : ∃ x : Nat × Nat × Ho, (D.ref i) = .ref x.1 ∧ HAt cs S x.1 x.2.1 x.2.2 := ⟨(i, j, ho), rfl, h⟩
  unfold houseOf
  rw [dif_pos hx]
  obtain ⟨e, q⟩ := Classical.choose_spec hx
  have e' : (Classical.choose hx).1 = i := by
    have := D.ref.inj e
    exact this.symm
  rw [e'] at q
  obtain ⟨e1, e2⟩ := q.uniq h
  exact congrArg some (Prod.ext e1 e2)
theorem houseOf_at {cs : Cs} {S : Sto} {d : D} {j : Nat} {ho : Ho} (h : houseOf cs S d = some (j, ho)) : ∃ i, d = .ref i ∧ HAt cs S i j ho := by
  unfold houseOf at h
  split at h
  · rename_i hx
    obtain ⟨e, q⟩ := Classical.choose_spec hx
    have h' := Option.some.inj h
    rw [h'] at q
    exact ⟨_, e, q⟩
  · cases h
theorem ins_taken {cs : Cs} {S : Sto} {i j : Nat} {ho : Ho} (h : HAt cs S i j ho) : isIns cs.House "taken_in" S (.ref i) = true := h.ins _ (by decide +kernel) (by decide +kernel)
theorem ins_may {cs : Cs} {S : Sto} {i j : Nat} {ho : Ho} (h : HAt cs S i j ho) : isIns cs.House "may_be" S (.ref i) = true := h.ins _ (by decide +kernel) (by decide +kernel)
theorem ins_scene {cs : Cs} {S : Sto} {i j : Nat} {ho : Ho} (h : HAt cs S i j ho) : isIns cs.House "is_scene" S (.ref i) = true := h.ins _ (by decide +kernel) (by decide +kernel)
theorem ins_cloth {cs : Cs} {S : Sto} {i j : Nat} {ho : Ho} (h : HAt cs S i j ho) : isIns cs.House "cloth" S (.ref i) = true := h.ins _ (by decide +kernel) (by decide +kernel)
theorem ins_truck {cs : Cs} {S : Sto} {i j : Nat} {ho : Ho} (h : HAt cs S i j ho) : isIns cs.House "truck" S (.ref i) = true := h.ins _ (by decide +kernel) (by decide +kernel)
noncomputable def f_House_taken_in (cs : Cs) : List D → Sto → R D := fun ds S => match ds with
  | [d, p] => match houseOf cs S d with
    | some (j, ho) => if ho.ps.length < 8 then .ok (.int ho.ps.length) (S.set j (.lst (ho.ps.map Pc.d ++ [p]))) else if ho.ps.length = 8 ∧ cs.fu = true then .exc ⟨cs.ex 7, [("most", .int 8)], 7⟩ S else .stuck
    | none => .stuck
  | _ => .stuck
/-- House.taken_in(self, piece); slots self piece -/
noncomputable def m_House_taken_in (cs : Cs) : Stm :=
  (sSeq (sIf (tV (eOp (oEqN false) (eB fLen (aC (eFldC cs.House "stock" (eV 0)) aN)) (eK (.int 8)))) (sRaiseF cs.fu (cs.ex 7) 7 (eK (.int 8))) sNx) (sSeq (sEx (eMt "list" fApp (eFldC cs.House "stock" (eV 0)) (aC (eV 1) aN))) (sRt (eOp oSub (eB fLen (aC (eFldC cs.House "stock" (eV 0)) aN)) (eK (.int 1))))))
theorem spec_House_taken_in (cs : Cs) (ds : List D) (S : Sto) : Le (f_House_taken_in cs ds S) (runB (m_House_taken_in cs) 2 ds S) := by
  unfold f_House_taken_in
  split
  · rename_i d p
    split
    · rename_i j ho hh
      obtain ⟨i, rfl, h⟩ := houseOf_at hh
      split
      · rename_i hl
        refine le_of (runB_rt ?_)
        have hne := h.ne
        have hs := h.stk
        have hs' : ∀ c, (S.set j c)[j]? = some c := gx_set hs
        have h' : fldD cs.House "stock" (.ref i) (S.set j (.lst (ho.ps.map Pc.d ++ [p]))) = .ok (.ref j) (S.set j (.lst (ho.ps.map Pc.d ++ [p]))) := by
          simp only [fldD, gx_ne h.own hne.symm, hCell, lk_stock, if_true]
        have h8 : ¬ ((ho.ps.length : Int) = 8) := by omega
        have hl9 : ho.ps.length < 100000 := by omega
        simp [m_House_taken_in, env0, h.f_stock, fLen_ref hs, tyOk, hs, fApp, oEqN_int, h8, hl9, h', fLen_ref (hs' _)]
      · split
        · rename_i hf
          refine le_of (runB_exc ?_)
          have h8 : (ho.ps.length : Int) = 8 := by omega
          simp [m_House_taken_in, env0, h.f_stock, fLen_ref h.stk, oEqN_int, h8, hf.2]
        · exact le_stuck _
    · exact le_stuck _
  · exact le_stuck _
theorem HAt.put {cs : Cs} {S : Sto} {i j : Nat} {ho : Ho} (h : HAt cs S i j ho) (p : Pc) : HAt cs (S.set j (.lst (ho.ps.map Pc.d ++ [p.d]))) i j { ho with ps := ho.ps ++ [p] } :=
  ⟨gx_ne h.own h.ne.symm _, by rw [gx_set h.stk, List.map_append]; rfl⟩
noncomputable def g_House_cloth (cs : Cs) : List D → Sto → R D := fun ds S => match ds with
  | [d, .int l, .int b, .int h] => match houseOf cs S d with
    | some (j, ho) => if (0 ≤ l ∧ l ≤ ho.l - 1) ∧ (1 ≤ b ∧ b ≤ 4) ∧ (1 ≤ h ∧ h ≤ 6) ∧ ho.ps.length < 8 then .ok (.int ho.ps.length) (S.set j (.lst (ho.ps.map Pc.d ++ [(Pc.cl l b h).d]))) else .stuck
    | none => .stuck
  | _ => .stuck
/-- House.cloth(self, line, beats, hands); slots self line beats hands -/
noncomputable def m_House_cloth (cs : Cs) : Stm :=
  (sSeq (sIf (tNo (tV (eCall 3 (f_is_number cs) [] (aC (eV 1) (aC (eK (.int 0)) (aC (eOp oSub (eOp oIx (eFldC cs.House "size" (eV 0)) (eK (.int 0))) (eK (.int 1))) aN)))))) (sRaise (cs.ex 1) 1) sNx) (sSeq (sEx (eCall 3 (f_need_number cs) [] (aC (eV 2) (aC (eK (.int 1)) (aC (eK (.int 4)) aN))))) (sSeq (sEx (eCall 3 (f_need_number cs) [] (aC (eV 3) (aC (eK (.int 1)) (aC (eK (.int 6)) aN))))) (sRt (eMeth cs.House "taken_in" 2 (f_House_taken_in cs) [] (eV 0) (aC (eTup (aC (eK (.str "cloth")) (aC (eV 1) (aC (eV 2) (aC (eV 3) aN))))) aN))))))
theorem spec_House_cloth (cs : Cs) (ds : List D) (S : Sto) : Le (g_House_cloth cs ds S) (runB (m_House_cloth cs) 4 ds S) := by
  unfold g_House_cloth
  split
  · rename_i d l b hh
    split
    · rename_i j ho hx
      obtain ⟨i, rfl, h⟩ := houseOf_at hx
      split
      · rename_i hp
        obtain ⟨⟨h1, h2⟩, ⟨h3, h4⟩, ⟨h5, h6⟩, h7⟩ := hp
        refine le_of (runB_rt ?_)
        simp [m_House_cloth, env0, h.f_size, oIx_tup, f_is_number, f_need_number, plainD, isNum, h1, h2, h3, h4, h5, h6, ins_taken h, f_House_taken_in, houseOf_eq h, h7, Pc.d]
      · exact le_stuck _
    · exact le_stuck _
  · exact le_stuck _
/-- the run itself -/
noncomputable def f_House_cloth (cs : Cs) : List D → Sto → R D := fun ds S => runB (m_House_cloth cs) 4 ds S
noncomputable def g_House_truck (cs : Cs) : List D → Sto → R D := fun ds S => match ds with
  | [d, .int b, .int h] => match houseOf cs S d with
    | some (j, ho) => if (1 ≤ b ∧ b ≤ 4) ∧ (1 ≤ h ∧ h ≤ 6) ∧ ho.ps.length < 8 then .ok (.int ho.ps.length) (S.set j (.lst (ho.ps.map Pc.d ++ [(Pc.tr b h).d]))) else .stuck
    | none => .stuck
  | _ => .stuck
/-- House.truck(self, beats, hands); slots self beats hands -/
noncomputable def m_House_truck (cs : Cs) : Stm :=
  (sSeq (sEx (eCall 3 (f_need_number cs) [] (aC (eV 1) (aC (eK (.int 1)) (aC (eK (.int 4)) aN))))) (sSeq (sEx (eCall 3 (f_need_number cs) [] (aC (eV 2) (aC (eK (.int 1)) (aC (eK (.int 6)) aN))))) (sRt (eMeth cs.House "taken_in" 2 (f_House_taken_in cs) [] (eV 0) (aC (eTup (aC (eK (.str "truck")) (aC (eV 1) (aC (eV 2) aN)))) aN)))))
theorem spec_House_truck (cs : Cs) (ds : List D) (S : Sto) : Le (g_House_truck cs ds S) (runB (m_House_truck cs) 3 ds S) := by
  unfold g_House_truck
  split
  · rename_i d b hh
    split
    · rename_i j ho hx
      obtain ⟨i, rfl, h⟩ := houseOf_at hx
      split
      · rename_i hp
        obtain ⟨⟨h3, h4⟩, ⟨h5, h6⟩, h7⟩ := hp
        refine le_of (runB_rt ?_)
        simp [m_House_truck, env0, h.f_size, oIx_tup, f_is_number, f_need_number, plainD, isNum, h3, h4, h5, h6, ins_taken h, f_House_taken_in, houseOf_eq h, h7, Pc.d]
      · exact le_stuck _
    · exact le_stuck _
  · exact le_stuck _
/-- the run itself -/
noncomputable def f_House_truck (cs : Cs) : List D → Sto → R D := fun ds S => runB (m_House_truck cs) 3 ds S
noncomputable def f_House_numbers (cs : Cs) : List D → Sto → R D := fun ds S => match ds with
  | [d] => match houseOf cs S d with
    | some (_, ho) => .ok (.tup [.int ho.l, .int ho.s, .int ho.h]) S
    | none => .stuck
  | _ => .stuck
/-- House.numbers(self); slots self -/
noncomputable def m_House_numbers (cs : Cs) : Stm :=
  (sRt (eFldC cs.House "size" (eV 0)))
theorem spec_House_numbers (cs : Cs) (ds : List D) (S : Sto) : Le (f_House_numbers cs ds S) (runB (m_House_numbers cs) 1 ds S) := by
  unfold f_House_numbers
  split
  · rename_i d
    split
    · rename_i j ho hx
      obtain ⟨i, rfl, h⟩ := houseOf_at hx
      refine le_of (runB_rt ?_)
      simp [m_House_numbers, env0, h.f_size]
    · exact le_stuck _
  · exact le_stuck _
noncomputable def f_House_pieces (cs : Cs) : List D → Sto → R D := fun ds S => match ds with
  | [d] => match houseOf cs S d with
    | some (_, ho) => .ok (.lst (ho.ps.map Pc.d)) S
    | none => .stuck
  | _ => .stuck
/-- House.pieces(self); slots self -/
noncomputable def m_House_pieces (cs : Cs) : Stm :=
  (sRt (eB fList (aC (eFldC cs.House "stock" (eV 0)) aN)))
theorem spec_House_pieces (cs : Cs) (ds : List D) (S : Sto) : Le (f_House_pieces cs ds S) (runB (m_House_pieces cs) 1 ds S) := by
  unfold f_House_pieces
  split
  · rename_i d
    split
    · rename_i j ho hx
      obtain ⟨i, rfl, h⟩ := houseOf_at hx
      refine le_of (runB_rt ?_)
      simp [m_House_pieces, env0, h.f_stock, fList, getQ_ref h.stk]
    · exact le_stuck _
  · exact le_stuck _
/-! ### scenes -/
def isUp : D → Bool
  | .str x => decide (x = "up")
  | _ => false
def mayBe (ho : Ho) (p : Pc) (d : D) : Bool := match p with
  | .cl l _ _ => isUp d || isNum d l l
  | .tr _ _ => isNum d 0 (ho.l + ho.s - 1)
/-- a text that the model can lay -/
def okStr : D → Bool
  | .str x => PyData.strOk x
  | _ => true
noncomputable def f_House_may_be (cs : Cs) : List D → Sto → R D := fun ds S => match ds with
  | [d, .int k, x] => match houseOf cs S d with
    | some (_, ho) => match atI ho.ps k with
      | some p => if plainD x = true ∧ okStr x = true then .ok (.bl (mayBe ho p x)) S else .stuck
      | none => .stuck
    | none => .stuck
  | _ => .stuck
/-- House.may_be(self, piece, place); slots self piece place own -/
noncomputable def m_House_may_be (cs : Cs) : Stm :=
  (sSeq (sAs (gN 3) (eOp oIx (eFldC cs.House "stock" (eV 0)) (eV 1))) (sSeq (sIf (tV (eOp (oEqN false) (eOp oIx (eV 3) (eK (.int 0))) (eK (.str "cloth")))) (sRt (eOr (eAnd (eIsT .str (eV 2)) (eOp (oEqN false) (eV 2) (eK (.str "up")))) (eCall 3 (f_is_number cs) [] (aC (eV 2) (aC (eOp oIx (eV 3) (eK (.int 1))) (aC (eOp oIx (eV 3) (eK (.int 1))) aN)))))) sNx) (sRt (eCall 3 (f_is_number cs) [] (aC (eV 2) (aC (eK (.int 0)) (aC (eOp oSub (eOp oAdd (eOp oIx (eFldC cs.House "size" (eV 0)) (eK (.int 0))) (eOp oIx (eFldC cs.House "size" (eV 0)) (eK (.int 1)))) (eK (.int 1))) aN)))))))
theorem atI_map {α β : Type} (f : α → β) (xs : List α) (i : Int) : atI (xs.map f) i = (atI xs i).map f := by
  unfold atI
  rw [List.length_map]
  cases ixN xs.length i <;> simp
theorem ok_cloth : PyData.strOk "cloth" = true := by decide +kernel
theorem ok_truck : PyData.strOk "truck" = true := by decide +kernel
theorem ok_up : PyData.strOk "up" = true := by decide +kernel
theorem truck_ne : ¬ (("truck" : Str) = "cloth") := by decide +kernel
theorem cloth_ne : ¬ (("cloth" : Str) = "truck") := by decide +kernel
theorem spec_House_may_be (cs : Cs) (ds : List D) (S : Sto) : Le (f_House_may_be cs ds S) (runB (m_House_may_be cs) 4 ds S) := by
  unfold f_House_may_be
  split
  · rename_i d k x
    split
    · rename_i j ho hx
      obtain ⟨i, rfl, h⟩ := houseOf_at hx
      split
      · rename_i p hp
        split
        · rename_i hpl
          obtain ⟨h1, h2⟩ := hpl
          refine le_of (runB_rt ?_)
          have e1 : oIx (.ref j) (.int k) S = .ok p.d S := by rw [oIx_ref h.stk, atI_map, hp]; rfl
          cases p with
          | cl l b hh =>
            simp [m_House_may_be, env0, h.f_stock, e1, Pc.d, oIx_tup, oEqN_str _ _ _ ok_cloth ok_cloth, mayBe]
            cases x <;> simp [isTy, isUp, f_is_number, plainD] at h1 ⊢
            rename_i z
            rw [oEqN_str _ _ _ (by simpa [okStr] using h2) ok_up]
            by_cases e : z = "up"
            · simp [e]
            · simp [e]
          | tr b hh => simp [m_House_may_be, env0, h.f_stock, h.f_size, e1, Pc.d, oIx_tup, oEqN_str _ _ _ ok_truck ok_cloth, truck_ne, mayBe, f_is_number, h1]
        · exact le_stuck _
      · exact le_stuck _
    · exact le_stuck _
  · exact le_stuck _
def intsOf (ds : List D) : List Int := ds.filterMap fun d => match d with
  | .int i => some i
  | _ => none
def isScene (ho : Ho) (d : D) : Bool := match d with
  | .tup ds => decide (ds.length = ho.ps.length) && (List.zipWith (mayBe ho) ho.ps ds).all id && decide (distinctN (intsOf ds) = (intsOf ds).length)
  | _ => false
def thingOk (d : D) : Bool := match d with
  | .tup ds => ds.all fun x => plainD x && okStr x
  | .xtup _ => false
  | .ref _ => false
  | .scr _ => false
  | .adr _ => false
  | _ => true
noncomputable def f_House_is_scene (cs : Cs) : List D → Sto → R D := fun ds S => match ds with
  | [d, x] => match houseOf cs S d with
    | some (_, ho) => if ho.ps.length ≤ 1000 ∧ thingOk x = true then .ok (.bl (isScene ho x)) S else .stuck
    | none => .stuck
  | _ => .stuck
/-- House.is_scene(self, thing); slots self thing held place piece -/
noncomputable def m_House_is_scene (cs : Cs) : Stm :=
  (sSeq (sIf (tOrr (tNo (tV (eIsT .tuple (eV 1)))) (tV (eOp (oEqN true) (eB fLen (aC (eV 1) aN)) (eB fLen (aC (eFldC cs.House "stock" (eV 0)) aN))))) (sRt (eK (.bl false))) sNx) (sSeq (sIf (tNo (tV (eB fAll (aC (eLc (iEn (aC (eV 1) aN)) (gT (gsC (gN 4) (gsC (gN 3) gsN))) tYs (eMeth cs.House "may_be" 3 (f_House_may_be cs) [] (eV 0) (aC (eV 4) (aC (eV 3) aN))) [4, 3]) aN)))) (sRt (eK (.bl false))) sNx) (sSeq (sAs (gN 2) (eLc (iSeq (eV 1)) (gN 3) (tV (eOp (oEqN true) (eV 3) (eK (.str "up")))) (eV 3) [3])) (sRt (eOp (oEqN false) (eLenSet (eV 2)) (eB fLen (aC (eV 2) aN)))))))
theorem may_int {ho : Ho} {p : Pc} {x : D} (h : mayBe ho p x = true) : x = .str "up" ∨ ∃ i, x = .int i := by
  have key : ∀ lo hi, isNum x lo hi = true → ∃ i, x = .int i := fun lo hi h => by
    cases x <;> simp [isNum] at h ⊢
  cases p with
  | cl l b hh =>
    simp only [mayBe, Bool.or_eq_true] at h
    rcases h with h | h
    · cases x <;> simp [isUp] at h ⊢
      exact h
    · exact .inr (key _ _ h)
  | tr b hh => exact .inr (key _ _ h)
@[simp] theorem intsOf_nil : intsOf [] = [] := rfl
@[simp] theorem intsOf_int (i : Int) (r : List D) : intsOf (.int i :: r) = i :: intsOf r := rfl
@[simp] theorem intsOf_str (x : Str) (r : List D) : intsOf (.str x :: r) = intsOf r := rfl
theorem held_ints {ds : List D} (h : ∀ x ∈ ds, x = .str "up" ∨ ∃ i, x = .int i) : (ds.filter fun x => !isUp x) = (intsOf ds).map .int := by
  induction ds with
  | nil => rfl
  | cons x r ih =>
    have ih := ih fun y hy => h y (List.mem_cons_of_mem _ hy)
    rcases h x List.mem_cons_self with rfl | ⟨i, rfl⟩
    · rw [List.filter_cons, if_neg (by simp [isUp]), intsOf_str]
      exact ih
    · rw [List.filter_cons, if_pos (by simp [isUp]), intsOf_int, List.map_cons, ih]
theorem spec_House_is_scene (cs : Cs) (ds : List D) (S : Sto) : Le (f_House_is_scene cs ds S) (runB (m_House_is_scene cs) 5 ds S) := by
  unfold f_House_is_scene
  split
  · rename_i d x
    split
    · rename_i j ho hx
      obtain ⟨i, rfl, h⟩ := houseOf_at hx
      split
      · rename_i hp
        obtain ⟨hps, hok⟩ := hp
        refine le_of (runB_rt ?_)
        by_cases ht : ∃ ts, x = .tup ts
        · obtain ⟨ts, rfl⟩ := ht
          by_cases hl : ts.length = ho.ps.length
          · have hl9 : ts.length ≤ 50000 := by omega
            have hoks : ∀ x ∈ ts, plainD x = true ∧ okStr x = true := fun x hx => by
              have := List.all_eq_true.mp (show (ts.all fun x => plainD x && okStr x) = true from hok) x hx
              simpa using this
            have hc : lcM (gT (gsC (gN 4) (gsC (gN 3) gsN))) tYs (eMeth cs.House "may_be" 3 (f_House_may_be cs) [] (eV 0) (aC (eV 4) (aC (eV 3) aN))) (fun _ => True) [some (D.ref i), some (D.tup ts), none, none, none]
                (ts.zipIdx.map fun p => D.tup [.int (p.2 : Nat), p.1]) S = .ok ((List.zipWith (mayBe ho) ho.ps ts).map D.bl) S := by
              rw [lcM_map (fun d => match d with
                  | .tup [.int k, x] => match atI ho.ps k with
                    | some p => .bl (mayBe ho p x)
                    | none => .non
                  | _ => .non) (fun d => match d with
                  | .tup [k, x] => [some (D.ref i), some (D.tup ts), none, some x, some k]
                  | _ => []) trivial (fun d hd => ?_) (fun d hd => ?_)]
              · congr 1
                refine List.ext_getElem? fun n => ?_
                simp only [List.getElem?_map, List.getElem?_zipWith, List.getElem?_zipIdx]
                cases h1 : ts[n]? with
                | none => simp
                | some t =>
                  have hn : n < ho.ps.length := by rw [← hl]; exact (List.getElem?_eq_some_iff.mp h1).1
                  have h2 : ho.ps[n]? = some ho.ps[n] := List.getElem?_eq_getElem hn
                  have h3 : atI ho.ps ((n : Nat) : Int) = some ho.ps[n] := atI_nat h2
                  simp [h2, h3]
              · obtain ⟨p, _, rfl⟩ := List.mem_map.mp hd
                rfl
              · obtain ⟨p, hp, rfl⟩ := List.mem_map.mp hd
                obtain ⟨t, n⟩ := p
                have h1 := List.mem_zipIdx_iff_getElem?.mp hp
                have hn : n < ho.ps.length := by rw [← hl]; exact (List.getElem?_eq_some_iff.mp h1).1
                have h3 : atI ho.ps ((n : Nat) : Int) = some ho.ps[n] := atI_nat (List.getElem?_eq_getElem hn)
                have h4 := hoks t (List.mem_of_getElem? h1)
                simp [ins_may h, f_House_may_be, houseOf_eq h, h3, h4.1, h4.2]
            obtain ⟨bs, hbs⟩ : ∃ bs, List.zipWith (mayBe ho) ho.ps ts = bs := ⟨_, rfl⟩
            rw [hbs] at hc
            by_cases ha : bs.all id = true
            · have hm : ∀ x ∈ ts, x = .str "up" ∨ ∃ i, x = .int i := fun x hx => by
                obtain ⟨n, hn⟩ := List.getElem?_of_mem hx
                have hn2 : n < ho.ps.length := by rw [← hl]; exact (List.getElem?_eq_some_iff.mp hn).1
                have h1 : (List.zipWith (mayBe ho) ho.ps ts)[n]? = some (mayBe ho ho.ps[n] x) := by
                  rw [List.getElem?_zipWith, hn, List.getElem?_eq_getElem hn2]
                have := List.all_eq_true.mp (hbs ▸ ha) _ (List.mem_of_getElem? h1)
                exact may_int this
              have hc2 : lcM (gN 3) (tV (eOp (oEqN true) (eV 3) (eK (.str "up")))) (eV 3) (fun _ => True) [some (D.ref i), some (D.tup ts), none, none, none] ts S = .ok ((intsOf ts).map D.int) S := by
                rw [← held_ints hm]
                have := lcM_pure (g := gN 3) (c := tV (eOp (oEqN true) (eV 3) (eK (.str "up")))) (e := eV 3) (chk := fun _ => True) (en := [some (D.ref i), some (D.tup ts), none, none, none]) (S := S) (fun x => !isUp x) (fun x => x)
                  (fun x => [some (D.ref i), some (D.tup ts), none, some x, none]) trivial (items := ts) ?_ ?_ ?_
                · rw [this, List.map_id']
                · intro d _; rfl
                · intro d hd
                  rcases hm d hd with rfl | ⟨k, rfl⟩
                  · simp [oEqN_str _ _ _ ok_up ok_up, isUp]
                  · simp [oEqN_int_str _ _ _ ok_up, isUp]
                · intro d _ _; rfl
              have hil : (intsOf ts).length ≤ 4000 := by
                have : (intsOf ts).length ≤ ts.length := List.length_filterMap_le _ _
                omega
              simp [m_House_is_scene, env0, isTy, h.f_stock, fLen_ref h.stk, oEqN_int, hl, hl9, wipeE, hc, fAll, boolsD_map, hbs, ha, hc2, isScene, hil, hps, show ho.ps.length ≤ 50000 by omega]
              omega
            · simp [m_House_is_scene, env0, isTy, h.f_stock, fLen_ref h.stk, oEqN_int, hl, hl9, wipeE, hc, fAll, boolsD_map, hbs, ha, isScene, show ho.ps.length ≤ 50000 by omega]
          · have hl' : ¬ ((ts.length : Int) = (ho.ps.length : Int)) := by omega
            simp [m_House_is_scene, env0, isTy, h.f_stock, fLen_ref h.stk, oEqN_int, hl', isScene, hl]
        · have hi : isScene ho x = false := by
            cases x <;> first | rfl | exact absurd ⟨_, rfl⟩ ht
          rw [hi]
          cases x <;> first | (exact absurd ⟨_, rfl⟩ ht) | simp [m_House_is_scene, env0, isTy, thingOk] at hok ⊢
      · exact le_stuck _
    · exact le_stuck _
  · exact le_stuck _
end SF

/-! The laws' own helpers: draws, tables, houses, scenes. -/
namespace SF
open PySem L2
/-! ### loops -/
theorem forL_inv {g : Tgt} {b : Stm} {chk : Sto → Prop} (I : Nat → En → Sto → Prop) : ∀ (items : List D) (k : Nat) (en : En) (S : Sto), I k en S →
    (∀ (j : Nat) d en S, items[j]? = some d → I (k + j) en S → ∃ en1, g d en = some en1 ∧ ∃ en2 S2, b en1 S = .nx en2 S2 ∧ chk S2 ∧ I (k + j + 1) en2 S2) →
    ∃ en' S', forL g b chk items en S = .nx en' S' ∧ I (k + items.length) en' S'
  | [], k, en, S, h, _ => ⟨en, S, rfl, h⟩
  | d :: r, k, en, S, h, st => by
    obtain ⟨en1, h1, en2, S2, h2, h3, h4⟩ := st 0 d en S rfl h
    obtain ⟨en', S', e, hI⟩ := forL_inv I r (k + 1) en2 S2 h4 fun j d' en' S' hj hI => by
      have := st (j + 1) d' en' S' (by simpa using hj) (by rw [show k + (j + 1) = k + 1 + j by omega]; exact hI)
      rw [show k + (j + 1) + 1 = k + 1 + j + 1 by omega] at this
      exact this
    refine ⟨en', S', ?_, by rw [List.length_cons, show k + (r.length + 1) = k + 1 + r.length by omega]; exact hI⟩
    unfold forL
    rw [h1]
    dsimp only
    rw [h2]
    dsimp only
    rw [if_pos h3]
    exact e
/-! ### draws -/
/-- _law_drawn(cell, k); slots cell k more -/
noncomputable def m_law_drawn (cs : Cs) : Stm :=
  (sSeq (sAs (gN 2) (eOp oMod (eOp oAdd (eOp oMul (eV 0) (eK (.int 6364136223846793005))) (eOp oMul (eOp oAdd (eV 1) (eK (.int 1))) (eK (.int 1442695040888963407)))) (eK (.int 340282366920938463463374607431768211507)))) (sSeq (sAs (gN 2) (eOp oMod (eOp oMul (eV 2) (eV 2)) (eK (.int 340282366920938463463374607431768211297)))) (sSeq (sAs (gN 2) (eOp oMul (eOp oMul (eOp oAdd (eOp oMod (eV 2) (eK (.int 18446744073709551557))) (eK (.int 1))) (eOp oAdd (eOp oDiv (eV 2) (eK (.int 18446744073709551557))) (eK (.int 1)))) (eV 2))) (sRt (eOp oMod (eV 2) (eK (.int 340282366920938463463374607431768211507)))))))
/-- the run itself -/
noncomputable def f_law_drawn (cs : Cs) : List D → Sto → R D := fun ds S => runB (m_law_drawn cs) 3 ds S
theorem mul_small (i j : Int) (h : -(2 ^ 64) < j ∧ j < 2 ^ 64) : okMul i j = true := decide_eq_true (.inr (.inl h))
theorem mul_small' (i j : Int) (h : -(2 ^ 64) < i ∧ i < 2 ^ 64) : okMul i j = true := decide_eq_true (.inl h)
theorem mul_mid (i j : Int) (h : i.natAbs < 2 ^ 250) (h' : j.natAbs < 2 ^ 250) : okMul i j = true :=
  decide_eq_true (.inr (.inr ⟨Nat.lt_of_lt_of_le h (Nat.pow_le_pow_right (by decide) (by decide)), Nat.lt_of_lt_of_le h' (Nat.pow_le_pow_right (by decide) (by decide))⟩))
theorem natAbs_mod_lt (i m : Int) (k : Nat) (hm : 0 < m) (h : m ≤ 2 ^ k) : (i % m).natAbs < 2 ^ k := by
  have h1 := Int.emod_nonneg i (show m ≠ 0 by omega)
  have h2 := Int.emod_lt_of_pos i hm
  have h3 : ((i % m).natAbs : Int) = i % m := Int.natAbs_of_nonneg h1
  have : ((i % m).natAbs : Int) < ((2 ^ k : Nat) : Int) := by
    rw [h3]
    have : (((2 : Nat) ^ k : Nat) : Int) = (2 : Int) ^ k := by simp
    rw [this]; omega
  exact_mod_cast this
theorem natAbs_lt_of {i : Int} {k : Nat} (h0 : 0 ≤ i) (h : i < 2 ^ k) : i.natAbs < 2 ^ k := by
  have h3 : (i.natAbs : Int) = i := Int.natAbs_of_nonneg h0
  have : (i.natAbs : Int) < ((2 ^ k : Nat) : Int) := by
    rw [h3]
    have : (((2 : Nat) ^ k : Nat) : Int) = (2 : Int) ^ k := by simp
    rw [this]; exact h
  exact_mod_cast this
theorem drawn_ok (cs : Cs) (c k : Int) (S : Sto) : ∃ r, f_law_drawn cs [.int c, .int k] S = .ok (.int r) S ∧ 0 ≤ r := by
  obtain ⟨m1, hm1⟩ : ∃ m, m = (c * 6364136223846793005 + (k + 1) * 1442695040888963407) % 340282366920938463463374607431768211507 := ⟨_, rfl⟩
  have b1 : m1.natAbs < 2 ^ 250 := Nat.lt_of_lt_of_le (by rw [hm1]; exact natAbs_mod_lt _ _ 129 (by decide) (by decide)) (Nat.pow_le_pow_right (by decide) (by decide : 129 ≤ 250))
  obtain ⟨m2, hm2⟩ : ∃ m, m = m1 * m1 % 340282366920938463463374607431768211297 := ⟨_, rfl⟩
  have b20 : 0 ≤ m2 := by rw [hm2]; exact Int.emod_nonneg _ (by decide)
  have b2 : m2 < 340282366920938463463374607431768211297 := by rw [hm2]; exact Int.emod_lt_of_pos _ (by decide)
  have b2' : m2.natAbs < 2 ^ 250 := by
    have h : m2.natAbs < 340282366920938463463374607431768211297 := by omega
    exact Nat.lt_of_lt_of_le h (by decide)
  obtain ⟨x, hx⟩ : ∃ x, x = m2 % 18446744073709551557 + 1 := ⟨_, rfl⟩
  obtain ⟨y, hy⟩ : ∃ y, y = m2 / 18446744073709551557 + 1 := ⟨_, rfl⟩
  have bx0 : 0 ≤ x := by omega
  have bx : x < 2 ^ 64 := by omega
  have by0 : 0 ≤ y := by omega
  have by' : y < 2 ^ 70 := by omega
  have bxy : (x * y).natAbs < 2 ^ 250 := by
    rw [Int.natAbs_mul]
    have h1 : x.natAbs < 2 ^ 64 := natAbs_lt_of bx0 bx
    have h2 : y.natAbs < 2 ^ 70 := natAbs_lt_of by0 by'
    have h3 := Nat.mul_lt_mul'' h1 h2
    exact Nat.lt_of_lt_of_le h3 (by decide)
  refine ⟨(x * y * m2) % 340282366920938463463374607431768211507, ?_, Int.emod_nonneg _ (by decide)⟩
  refine runB_rt ?_
  simp only [m_law_drawn, env0, ap_sSeq, ap_sAs, ap_eOp, ap_eV, ap_eK, List.map_cons, List.map_nil, List.length_cons, List.length_nil, List.cons_append, List.nil_append, List.replicate, R.bind_ok, R.thenS_ok, RS.andThen_nx, ap_gN, List.set_cons_succ, List.set_cons_zero,
    List.getElem?_cons_zero, List.getElem?_cons_succ, oAdd_int, Nat.reduceAdd, Nat.reduceSub, ap_sRt, RS.andThen_rt,
    oMul_int _ _ (mul_small c 6364136223846793005 (by decide)), oMul_int _ _ (mul_small (k + 1) 1442695040888963407 (by decide)), oMod_int _ _ (show (0 : Int) < 340282366920938463463374607431768211507 by decide), ← hm1,
    oMul_int _ _ (mul_mid m1 m1 b1 b1), oMod_int _ _ (show (0 : Int) < 340282366920938463463374607431768211297 by decide), ← hm2, oMod_int _ _ (show (0 : Int) < 18446744073709551557 by decide),
    oDiv_int _ _ (show (0 : Int) < 18446744073709551557 by decide) (by decide), ← hx, ← hy, oMul_int _ _ (mul_small' x y ⟨by omega, bx⟩), oMul_int _ _ (mul_mid (x * y) m2 bxy b2')]
/-- _law_roll(dice, many); slots dice many told -/
noncomputable def m_law_roll (cs : Cs) : Stm :=
  (sSeq (sIf (tV (eOp oGe (eOp oIx (eV 0) (eK (.int 0))) (eOp oPow (eK (.int 10)) (eK (.int 18))))) (sSeq (sAs (gN 2) (eOp oMod (eOp oIx (eV 0) (eK (.int 0))) (eV 1))) (sSeq (sSetL (eV 0) (eK (.int 0)) (eOp oDiv (eOp oIx (eV 0) (eK (.int 0))) (eV 1))) (sRt (eV 2)))) sNx) (sSeq (sSetL (eV 0) (eK (.int 1)) (eOp oAdd (eOp oIx (eV 0) (eK (.int 1))) (eK (.int 1)))) (sRt (eOp oMod (eOp oDiv (eCall 2 (f_law_drawn cs) [] (aC (eOp oIx (eV 0) (eK (.int 0))) (aC (eOp oIx (eV 0) (eK (.int 1))) aN))) (eK (.int 8))) (eV 1)))))
/-- the run itself -/
noncomputable def f_law_roll (cs : Cs) : List D → Sto → R D := fun ds S => runB (m_law_roll cs) 3 ds S
/-- the cell of a row of draws -/
def IsDice (c : Cell) : Prop := ∃ a b : Int, c = .lst [.int a, .int b]
theorem roll_ok (cs : Cs) {S : Sto} {i : Nat} {c : Cell} {many : Int} (h : S[i]? = some c) (hc : IsDice c) (h0 : 0 < many) (h1 : many < 1000000) :
    ∃ r c', f_law_roll cs [.ref i, .int many] S = .ok (.int r) (S.set i c') ∧ IsDice c' ∧ 0 ≤ r ∧ r < many := by
  obtain ⟨a, b, rfl⟩ := hc
  have hp : oPow (.int 10) (.int 18) S = .ok (.int 1000000000000000000) S := by rfl
  have e0 : oIx (.ref i) (.int 0) S = .ok (.int a) S := by rw [oIx_ref h]; rfl
  have e1 : oIx (.ref i) (.int 1) S = .ok (.int b) S := by rw [oIx_ref h]; rfl
  have hd : many.natAbs < 2 ^ 200 := by
    have : many.natAbs < 1000000 := by omega
    exact Nat.lt_of_lt_of_le this (by decide)
  by_cases hb : (1000000000000000000 : Int) ≤ a
  · refine ⟨a % many, .lst [.int (a / many), .int b], runB_rt ?_, ⟨_, _, rfl⟩, Int.emod_nonneg _ (by omega), Int.emod_lt_of_pos _ h0⟩
    simp [m_law_roll, env0, e0, hp, hb, oMod_int _ _ h0, oDiv_int _ _ h0 hd, h, ixN]
  · have h' : ∀ c, (S.set i c)[i]? = some c := gx_set h
    have e2 : ∀ x y : Int, oIx (.ref i) (.int 0) (S.set i (.lst [.int x, .int y])) = .ok (.int x) (S.set i (.lst [.int x, .int y])) := fun x y => by rw [oIx_ref (h' _)]; rfl
    have e3 : ∀ x y : Int, oIx (.ref i) (.int 1) (S.set i (.lst [.int x, .int y])) = .ok (.int y) (S.set i (.lst [.int x, .int y])) := fun x y => by rw [oIx_ref (h' _)]; rfl
    obtain ⟨r, hr, _⟩ := drawn_ok cs a (b + 1) (S.set i (.lst [.int a, .int (b + 1)]))
    refine ⟨r / 8 % many, .lst [.int a, .int (b + 1)], runB_rt ?_, ⟨_, _, rfl⟩, Int.emod_nonneg _ (by omega), Int.emod_lt_of_pos _ h0⟩
    simp [m_law_roll, env0, e0, e1, hp, hb, h, ixN, e2, e3, hr, oMod_int _ _ h0, oDiv_int _ _ (show (0 : Int) < 8 by decide) (by decide)]
end SF

namespace SF
open PySem L2
/-! ### == of data without truths -/
def good : Nat → D → Bool
  | _, .non => true
  | _, .int _ => true
  | _, .str x => PyData.strOk x
  | n + 1, .tup ds => ds.all (good n)
  | n + 1, .lst ds => ds.all (good n)
  | _, _ => false
mutual
def toP : D → PyData
  | .non => .none
  | .bl b => .bool b
  | .int i => .int i
  | .str x => .str x
  | .tup ds => .tuple (toPs ds)
  | .lst ds => .list (toPs ds)
  | _ => .none
def toPs : List D → List PyData
  | [] => []
  | d :: r => toP d :: toPs r
end
theorem good_py : ∀ (n : Nat) (d : D), good n d = true → pyD d = some (toP d) ∧ (toP d).canLay0 = true ∧ (toP d).depth ≤ n := by
  intro n
  induction n with
  | zero =>
    intro d h
    cases d <;> simp [good] at h <;> simp [pyD, toP, PyData.canLay0, PyData.depth, h]
  | succ n ih =>
    have lists : ∀ ds : List D, ds.all (good n) = true → pyDs ds = some (toPs ds) ∧ PyData.canLayAll0 (toPs ds) = true ∧ PyData.depthAll (toPs ds) ≤ n := by
      intro ds
      induction ds with
      | nil => intro _; simp [pyDs, toPs, PyData.canLayAll0, PyData.depthAll]
      | cons d r ihr =>
        intro h
        rw [List.all_cons, Bool.and_eq_true] at h
        obtain ⟨a1, a2, a3⟩ := ih d h.1
        obtain ⟨b1, b2, b3⟩ := ihr h.2
        simp [pyDs, toPs, PyData.canLayAll0, PyData.depthAll, a1, a2, b1, b2]
        omega
    intro d h
    cases d with
    | tup ds =>
      obtain ⟨b1, b2, b3⟩ := lists ds (by simpa [good] using h)
      simp [pyD, toP, PyData.canLay0, PyData.depth, b1, b2]
      omega
    | lst ds =>
      obtain ⟨b1, b2, b3⟩ := lists ds (by simpa [good] using h)
      simp [pyD, toP, PyData.canLay0, PyData.depth, b1, b2]
      omega
    | _ => simp [good] at h <;> simp [pyD, toP, PyData.canLay0, PyData.depth, h]
theorem good_eqv : ∀ (n m : Nat) (x y : D), good n x = true → good m y = true → (PyData.eqv (toP x) (toP y) = true ↔ x = y) := by
  intro n
  induction n with
  | zero =>
    intro m x y hx hy
    cases x <;> simp [good] at hx <;> cases y <;> cases m <;> simp [good] at hy <;> simp [toP, PyData.eqv]
  | succ n ih =>
    have lists : ∀ (m : Nat) (xs ys : List D), xs.all (good n) = true → ys.all (good m) = true → (PyData.eqvAll (toPs xs) (toPs ys) = true ↔ xs = ys) := by
      intro m xs
      induction xs with
      | nil => intro ys _ _; cases ys <;> simp [toPs, PyData.eqvAll]
      | cons x r ihr =>
        intro ys hx hy
        cases ys with
        | nil => simp [toPs, PyData.eqvAll]
        | cons y s =>
          rw [List.all_cons, Bool.and_eq_true] at hx hy
          simp only [toPs, PyData.eqvAll, Bool.and_eq_true, List.cons.injEq, ih m x y hx.1 hy.1, ihr s hx.2 hy.2]
    intro m x y hx hy
    cases m with
    | zero => cases x <;> simp [good] at hx <;> cases y <;> simp [good] at hy <;> simp [toP, PyData.eqv]
    | succ m =>
      cases x with
      | tup xs =>
        cases y with
        | tup ys => simp only [toP, PyData.eqv, D.tup.injEq]; exact lists m xs ys (by simpa [good] using hx) (by simpa [good] using hy)
        | _ => simp [good] at hy <;> simp [toP, PyData.eqv]
      | lst xs =>
        cases y with
        | lst ys => simp only [toP, PyData.eqv, D.lst.injEq]; exact lists m xs ys (by simpa [good] using hx) (by simpa [good] using hy)
        | _ => simp [good] at hy <;> simp [toP, PyData.eqv]
      | _ => simp [good] at hx <;> cases y <;> simp [good] at hy <;> simp [toP, PyData.eqv]
theorem good_pyS {S : Sto} {n : Nat} {d : D} (h : good n d = true) : pyS S d = some (toP d) := by
  unfold pyS
  cases d with
  | lst ds =>
    rw [getL_lst]
    have := (good_py n _ h).1
    rw [pyD] at this
    exact this
  | ref i => cases n <;> simp [good] at h
  | scr ns => cases n <;> simp [good] at h
  | _ => exact (good_py n _ h).1
open Classical in
theorem oEqN_good (neg : Bool) {S : Sto} {n m : Nat} {x y : D} (hx : good n x = true) (hy : good m y = true) (hn : n ≤ 64) (hm : m ≤ 64) : oEqN neg x y S = .ok (.bl (neg ^^ decide (x = y))) S := by
  obtain ⟨_, a2, a3⟩ := good_py n x hx
  obtain ⟨_, b2, b3⟩ := good_py m y hy
  have sx : SeqAt.shaped (toP x) = true := by simp [SeqAt.shaped, a2]; omega
  have sy : SeqAt.shaped (toP y) = true := by simp [SeqAt.shaped, b2]; omega
  have e : PyData.eqv (toP x) (toP y) = decide (x = y) := by
    by_cases h : x = y
    · rw [decide_eq_true h]; exact (good_eqv n m x y hx hy).mpr h
    · rw [decide_eq_false h]
      cases hq : PyData.eqv (toP x) (toP y) with
      | false => rfl
      | true => exact absurd ((good_eqv n m x y hx hy).mp hq) h
  unfold oEqN
  rw [good_pyS hx, good_pyS hy]
  dsimp only
  rw [if_pos ⟨sx, sy⟩, e]
open Classical in
theorem oEqN_eq (neg : Bool) {S : Sto} {n m : Nat} {x y : D} (hx : good n x = true) (hy : good m y = true) (h : x = y) (hn : n ≤ 64 := by decide) (hm : m ≤ 64 := by decide) : oEqN neg x y S = .ok (.bl (!neg)) S := by
  rw [oEqN_good neg hx hy hn hm, decide_eq_true h]; cases neg <;> rfl
open Classical in
theorem oEqN_ne (neg : Bool) {S : Sto} {n m : Nat} {x y : D} (hx : good n x = true) (hy : good m y = true) (h : x ≠ y) (hn : n ≤ 64 := by decide) (hm : m ≤ 64 := by decide) : oEqN neg x y S = .ok (.bl neg) S := by
  rw [oEqN_good neg hx hy hn hm, decide_eq_false h]; cases neg <;> rfl
theorem oEqN_refL (neg : Bool) {S : Sto} {i : Nat} {ds : List D} (h : S[i]? = some (.lst ds)) (y : D) : oEqN neg (.ref i) y S = oEqN neg (.lst ds) y S := by
  have e : pyS S (.ref i) = pyS S (.lst ds) := by simp [pyS, h]
  unfold oEqN
  rw [e]
theorem good_ints (n : Nat) (ns : List Int) : (ns.map D.int).all (good n) = true := by
  rw [List.all_eq_true]
  intro d hd
  obtain ⟨i, _, rfl⟩ := List.mem_map.mp hd
  cases n <;> rfl
theorem good_Pc (p : Pc) : good 1 p.d = true := by
  cases p <;> simp [Pc.d, good, ok_cloth, ok_truck]
theorem good_Pcs (ps : List Pc) : good 2 (.lst (ps.map Pc.d)) = true := by
  show (ps.map Pc.d).all (good 1) = true
  rw [List.all_eq_true]
  intro d hd
  obtain ⟨p, _, rfl⟩ := List.mem_map.mp hd
  exact good_Pc p
/-! ### cells of the script -/
/-- _law_cell(script, k); slots script k -/
noncomputable def m_law_cell (cs : Cs) : Stm :=
  (sSeq (sIf (tV (eOp (oEqN false) (eV 0) (eLst aN))) (sRt (eOp oMul (eV 1) (eK (.int 7919)))) sNx) (sRt (eOp oAdd (eOp oIx (eV 0) (eOp oMod (eV 1) (eB fLen (aC (eV 0) aN)))) (eOp oMul (eOp oDiv (eV 1) (eB fLen (aC (eV 0) aN))) (eK (.int 104729))))))
/-- the run itself -/
noncomputable def f_law_cell (cs : Cs) : List D → Sto → R D := fun ds S => runB (m_law_cell cs) 2 ds S
theorem cell_ok (cs : Cs) (ns : List Int) (k : Int) (S : Sto) (hk : 0 ≤ k ∧ k ≤ 1000) (hn : ns.length ≤ 1000) : ∃ z, f_law_cell cs [.scr ns, .int k] S = .ok (.int z) S := by
  have e0 : ∀ S, oEqN false (.scr ns) (.lst []) S = .ok (.bl (decide (ns = []))) S := fun S => by
    have e : pyS S (.scr ns) = pyS S (.lst (ns.map D.int)) := by simp [pyS]
    have : oEqN false (.scr ns) (.lst []) S = oEqN false (.lst (ns.map D.int)) (.lst []) S := by
      unfold oEqN; rw [e]
    rw [this]
    by_cases h : ns = []
    · rw [oEqN_eq (n := 1) (m := 1) (x := .lst (ns.map D.int)) (y := .lst []) _ (good_ints 0 ns) rfl (by rw [h]; rfl), decide_eq_true h]; rfl
    · rw [oEqN_ne (n := 1) (m := 1) (x := .lst (ns.map D.int)) (y := .lst []) _ (good_ints 0 ns) rfl (by simpa using h), decide_eq_false h]
  by_cases h : ns = []
  · refine ⟨k * 7919, runB_rt ?_⟩
    have e1 := e0 S
    rw [decide_eq_true h] at e1
    simp [m_law_cell, env0, e1, oMul_int _ _ (mul_small k 7919 (by decide))]
  · have hp : 0 < (ns.length : Int) := by
      have := List.length_pos_iff.mpr h; omega
    have hm0 := Int.emod_nonneg k (show (ns.length : Int) ≠ 0 by omega)
    have hm1 := Int.emod_lt_of_pos k hp
    obtain ⟨j, hj⟩ : ∃ j : Nat, k % (ns.length : Int) = (j : Int) := ⟨(k % (ns.length : Int)).toNat, by omega⟩
    have hjl : j < ns.length := by omega
    have ha : atI (ns.map D.int) (j : Int) = some (.int ns[j]) := atI_nat (by rw [List.getElem?_map, List.getElem?_eq_getElem hjl]; rfl)
    have hd : (ns.length : Int).natAbs < 2 ^ 200 := by
      have : (ns.length : Int).natAbs ≤ 1000 := by omega
      exact Nat.lt_of_le_of_lt this (by decide)
    refine ⟨ns[j] + k / (ns.length : Int) * 104729, runB_rt ?_⟩
    simp [m_law_cell, env0, e0, h, oMod_int _ _ hp, hj, oIx_scr, ha, oDiv_int _ _ hp hd, oMul_int _ _ (mul_small _ 104729 (by decide))]
/-- _law_rounds(script, most); slots script most k -/
noncomputable def m_law_rounds (cs : Cs) : Stm :=
  (sRt (eLc (iR1 (aC (eB fMax2 (aC (eK (.int 1)) (aC (eB fMin2 (aC (eV 1) (aC (eB fLen (aC (eV 0) aN)) aN))) aN))) aN)) (gN 2) tYs (eNew (aC (eCall 2 (f_law_cell cs) [] (aC (eV 0) (aC (eV 2) aN))) (aC (eK (.int 0)) aN))) [2]))
/-- the run itself -/
noncomputable def f_law_rounds (cs : Cs) : List D → Sto → R D := fun ds S => runB (m_law_rounds cs) 3 ds S
theorem lcM_alloc {P : Cell → Prop} {g : Tgt} {e : Exp} {en : En} (en1 : D → En) : ∀ (items : List D) (S : Sto), (∀ d ∈ items, g d en = some (en1 d)) → (∀ d ∈ items, ∀ S : Sto, ∃ c, P c ∧ e (en1 d) S = .ok (.ref S.length) (S ++ [c])) →
    ∃ cells : Sto, cells.length = items.length ∧ (∀ c ∈ cells, P c) ∧ lcM g tYs e (fun _ => True) en items S = .ok ((List.range items.length).map fun k => D.ref (S.length + k)) (S ++ cells)
  | [], S, _, _ => ⟨[], rfl, by simp, by simp [lcM]⟩
  | d :: r, S, hg, he => by
    obtain ⟨c, hc, h1⟩ := he d List.mem_cons_self S
    obtain ⟨cells, h2, h3, h4⟩ := lcM_alloc en1 r (S ++ [c]) (fun d h => hg d (List.mem_cons_of_mem _ h)) (fun d h => he d (List.mem_cons_of_mem _ h))
    refine ⟨c :: cells, by simp [h2], fun x hx => (List.mem_cons.mp hx).elim (fun z => z ▸ hc) (h3 x), ?_⟩
    unfold lcM
    rw [hg d List.mem_cons_self]
    simp only [ap_tYs, R.nox_ok, R.bind_ok, h1, if_true, h4]
    congr 1
    · rw [List.length_cons, List.range_succ_eq_map, List.map_cons, List.map_map, List.length_append]
      congr 1
      refine List.map_congr_left fun k _ => ?_
      simp only [Function.comp, List.length_cons, List.length_nil]
      congr 1
      omega
    · simp
theorem rounds_ok (cs : Cs) (ns : List Int) (most : Int) (S : Sto) (hm : 0 ≤ most ∧ most ≤ 100) (hn : ns.length ≤ 100) : ∃ (n : Nat) (cells : Sto), cells.length = n ∧ (∀ c ∈ cells, IsDice c) ∧
    f_law_rounds cs [.scr ns, .int most] S = .ok (.lst ((List.range n).map fun k => D.ref (S.length + k))) (S ++ cells) := by
  obtain ⟨n, hn1⟩ : ∃ n : Nat, max 1 (min most (ns.length : Int)) = (n : Int) := ⟨(max 1 (min most (ns.length : Int))).toNat, by omega⟩
  have hn2 : n ≤ 100 := by omega
  obtain ⟨cells, h1, h2, h3⟩ := lcM_alloc (P := IsDice) (g := gN 2) (e := eNew (aC (eCall 2 (f_law_cell cs) [] (aC (eV 0) (aC (eV 2) aN))) (aC (eK (.int 0)) aN))) (en := [some (.scr ns), some (.int most), none]) (fun d => [some (.scr ns), some (.int most), some d]) (rngD 0 n) S
    (fun d _ => rfl) (fun d hd S => by
      unfold rngD at hd
      obtain ⟨k, hk, rfl⟩ := List.mem_map.mp hd
      have hk := List.mem_range.mp hk
      obtain ⟨z, hz⟩ := cell_ok cs ns (0 + (k : Int)) S (by omega) (by omega)
      exact ⟨.lst [.int z, .int 0], ⟨_, _, rfl⟩, by simp only [Int.zero_add] at hz; simp [hz]⟩)
  have hl : (rngD 0 n).length = n := by simp [rngD]
  refine ⟨n, cells, by rw [h1, hl], h2, runB_rt ?_⟩
  rw [hl] at h3
  simp [m_law_rounds, env0, hn1, show (-1000000 : Int) ≤ (n : Int) by omega, show (n : Int) ≤ 1000000 by omega, hl, show n ≤ 50000 by omega, wipeE, h3]
end SF

namespace SF
open PySem L2
/-! ### draws in a store with more behind -/
theorem roll_set (cs : Cs) {S : Sto} {i : Nat} {c0 c : Cell} {many : Int} (h : S[i]? = some c0) (hc : IsDice c) (h0 : 0 < many) (h1 : many < 1000000) :
    ∃ r c', f_law_roll cs [.ref i, .int many] (S.set i c) = .ok (.int r) (S.set i c') ∧ IsDice c' ∧ 0 ≤ r ∧ r < many := by
  obtain ⟨r, c', e, x⟩ := roll_ok cs (gx_set h c) hc h0 h1
  rw [List.set_set] at e
  exact ⟨r, c', e, x⟩
theorem roll_app (cs : Cs) {S : Sto} {i : Nat} {c0 c : Cell} {many : Int} (T : Sto) (h : S[i]? = some c0) (hc : IsDice c) (h0 : 0 < many) (h1 : many < 1000000) :
    ∃ r c', f_law_roll cs [.ref i, .int many] (S.set i c ++ T) = .ok (.int r) (S.set i c' ++ T) ∧ IsDice c' ∧ 0 ≤ r ∧ r < many := by
  obtain ⟨r, c', e, x⟩ := roll_ok cs (gx_setapp h c T) hc h0 h1
  rw [gs_app (gx_set h c), List.set_set] at e
  exact ⟨r, c', e, x⟩
/-! ### tables -/
structure Tb where
  w : Int
  g : Int
  c : Int
  ps : List Pc
def Tb.d (t : Tb) : D := .dct [(.inr "size", .tup [.int t.w, .int t.g, .int t.c]), (.inr "pieces", .lst (t.ps.map Pc.d))]
theorem tb_size (t : Tb) (S : Sto) : oIx t.d (.str "size") S = .ok (.tup [.int t.w, .int t.g, .int t.c]) S := by
  simp [Tb.d, oIx_dct, valD]
theorem tb_pieces (t : Tb) (S : Sto) : oIx t.d (.str "pieces") S = .ok (.lst (t.ps.map Pc.d)) S := by
  have : ¬ (("size" : Str) = "pieces") := by decide +kernel
  simp [Tb.d, oIx_dct, valD, this]
def isTr : Pc → Bool
  | .tr _ _ => true
  | _ => false
def trucks (ps : List Pc) : Nat := (ps.filter isTr).length
def POk (w : Int) : Pc → Prop
  | .cl l b h => (0 ≤ l ∧ l < w) ∧ (1 ≤ b ∧ b ≤ 4) ∧ (1 ≤ h ∧ h ≤ 6)
  | .tr b h => (1 ≤ b ∧ b ≤ 4) ∧ (1 ≤ h ∧ h ≤ 6)
structure TOk (t : Tb) : Prop where
  w : 1 ≤ t.w ∧ t.w ≤ 6
  g : 0 ≤ t.g ∧ t.g ≤ 6
  c : 1 ≤ t.c ∧ t.c ≤ 6
  ps : ∀ p ∈ t.ps, POk t.w p
  tr : (trucks t.ps : Int) ≤ t.w + t.g
  len : 1 ≤ t.ps.length ∧ t.ps.length ≤ 8
theorem trucks_app (ps : List Pc) (p : Pc) : trucks (ps ++ [p]) = trucks ps + if isTr p then 1 else 0 := by
  unfold trucks
  rw [List.filter_append, List.length_append]
  cases h : isTr p <;> simp [h]
theorem noRef_Pc (n : Nat) (p : Pc) : noRef n p.d = true := by cases p <;> simp [Pc.d, noRef, noRefs]
theorem noRefs_Pcs (n : Nat) (ps : List Pc) : noRefs n (ps.map Pc.d) = true := by
  rw [noRefs_all, List.all_eq_true]
  intro d hd
  obtain ⟨p, _, rfl⟩ := List.mem_map.mp hd
  exact noRef_Pc n p
theorem noRef_Tb (n : Nat) (t : Tb) : noRef n t.d = true := by simp [Tb.d, noRef, noRefK, noRefs, noRefs_Pcs]
theorem noRefC_dice {n : Nat} {c : Cell} (h : IsDice c) : noRefC n c = true := by
  obtain ⟨a, b, rfl⟩ := h
  simp [noRefC, noRef]
/-- _law_table(dice, most); slots dice most turn wide wings crew pieces trucks own long -/
noncomputable def m_law_table (cs : Cs) : Stm :=
  (sSeq (sPar3 3 4 5 (aC (eOp oAdd (eK (.int 1)) (eCall 2 (f_law_roll cs) [] (aC (eV 0) (aC (eK (.int 4)) aN)))) (aC (eCall 2 (f_law_roll cs) [] (aC (eV 0) (aC (eK (.int 4)) aN))) (aC (eOp oAdd (eK (.int 1)) (eCall 2 (f_law_roll cs) [] (aC (eV 0) (aC (eK (.int 4)) aN)))) aN)))) (sSeq (sPar 6 7 (aC (eNew aN) (aC (eK (.int 0)) aN))) (sSeq (sFor (iR1 (aC (eOp oAdd (eK (.int 1)) (eB fMax2 (aC (eCall 2 (f_law_roll cs) [] (aC (eV 0) (aC (eV 1) aN))) (aC (eCall 2 (f_law_roll cs) [] (aC (eV 0) (aC (eV 1) aN))) aN)))) aN)) (gN 2) (sSeq (sPar 9 8 (aC (eOp oAdd (eK (.int 1)) (eCall 2 (f_law_roll cs) [] (aC (eV 0) (aC (eK (.int 4)) aN)))) (aC (eOp oAdd (eK (.int 1)) (eB fMin2 (aC (eCall 2 (f_law_roll cs) [] (aC (eV 0) (aC (eV 5) aN))) (aC (eCall 2 (f_law_roll cs) [] (aC (eV 0) (aC (eV 5) aN))) aN)))) aN))) (sSeq (sAs (gN 8) (eB fMin2 (aC (eK (.int 6)) (aC (eOp oAdd (eV 8) (eOp oMul (eOp oDiv (eCall 2 (f_law_roll cs) [] (aC (eV 0) (aC (eK (.int 12)) aN))) (eK (.int 11))) (eV 5))) aN)))) (sIf (tAn (tV (eOp oLt (eV 7) (eOp oAdd (eV 3) (eV 4)))) (tV (eOp oGt (eCall 2 (f_law_roll cs) [] (aC (eV 0) (aC (eK (.int 3)) aN))) (eK (.int 0))))) (sSeq (sAs (gN 7) (eOp oAdd (eV 7) (eK (.int 1)))) (sEx (eMt "list" fApp (eV 6) (aC (eTup (aC (eK (.str "truck")) (aC (eV 9) (aC (eV 8) aN)))) aN)))) (sEx (eMt "list" fApp (eV 6) (aC (eTup (aC (eK (.str "cloth")) (aC (eCall 2 (f_law_roll cs) [] (aC (eV 0) (aC (eV 3) aN))) (aC (eV 9) (aC (eV 8) aN))))) aN))))))) (sSeq (sCl 6) (sRt (eDict [((eK (.str "size")), (eTup (aC (eV 3) (aC (eV 4) (aC (eV 5) aN))))), ((eK (.str "pieces")), (eV 6))]))))))
/-- the run itself -/
noncomputable def f_law_table (cs : Cs) : List D → Sto → R D := fun ds S => gcR S (runB (m_law_table cs) 10 ds S)
theorem table_ok (cs : Cs) {S : Sto} {i : Nat} {c : Cell} {most : Int} (h : S[i]? = some c) (hc : IsDice c) (hm : 1 ≤ most ∧ most ≤ 8) :
    ∃ t c', f_law_table cs [.ref i, .int most] S = .ok t.d (S.set i c') ∧ IsDice c' ∧ TOk t ∧ t.w ≤ 4 ∧ t.g ≤ 3 ∧ t.c ≤ 4 ∧ t.ps.length ≤ most := by
  obtain ⟨r1, c1, e1, k1, a1, b1⟩ := roll_ok cs h hc (show (0 : Int) < 4 by decide) (by decide)
  obtain ⟨r2, c2, e2, k2, a2, b2⟩ := roll_set cs h k1 (show (0 : Int) < 4 by decide) (by decide)
  obtain ⟨r3, c3, e3, k3, a3, b3⟩ := roll_set cs h k2 (show (0 : Int) < 4 by decide) (by decide)
  obtain ⟨r4, c4, e4, k4, a4, b4⟩ := roll_app cs [.lst []] h k3 (show (0 : Int) < most by omega) (by omega)
  obtain ⟨r5, c5, e5, k5, a5, b5⟩ := roll_app cs [.lst []] h k4 (show (0 : Int) < most by omega) (by omega)
  obtain ⟨n, hn⟩ : ∃ n : Nat, 1 + max r4 r5 = (n : Int) := ⟨(1 + max r4 r5).toNat, by omega⟩
  have hlen : (S.set i c3).length = S.length := List.length_set
  -- the loop
  obtain ⟨en', S', eL, hI⟩ := forL_inv (g := gN 2) (chk := fun _ => True)
    (b := (sSeq (sPar 9 8 (aC (eOp oAdd (eK (.int 1)) (eCall 2 (f_law_roll cs) [] (aC (eV 0) (aC (eK (.int 4)) aN)))) (aC (eOp oAdd (eK (.int 1)) (eB fMin2 (aC (eCall 2 (f_law_roll cs) [] (aC (eV 0) (aC (eV 5) aN))) (aC (eCall 2 (f_law_roll cs) [] (aC (eV 0) (aC (eV 5) aN))) aN)))) aN))) (sSeq (sAs (gN 8) (eB fMin2 (aC (eK (.int 6)) (aC (eOp oAdd (eV 8) (eOp oMul (eOp oDiv (eCall 2 (f_law_roll cs) [] (aC (eV 0) (aC (eK (.int 12)) aN))) (eK (.int 11))) (eV 5))) aN)))) (sIf (tAn (tV (eOp oLt (eV 7) (eOp oAdd (eV 3) (eV 4)))) (tV (eOp oGt (eCall 2 (f_law_roll cs) [] (aC (eV 0) (aC (eK (.int 3)) aN))) (eK (.int 0))))) (sSeq (sAs (gN 7) (eOp oAdd (eV 7) (eK (.int 1)))) (sEx (eMt "list" fApp (eV 6) (aC (eTup (aC (eK (.str "truck")) (aC (eV 9) (aC (eV 8) aN)))) aN)))) (sEx (eMt "list" fApp (eV 6) (aC (eTup (aC (eK (.str "cloth")) (aC (eCall 2 (f_law_roll cs) [] (aC (eV 0) (aC (eV 3) aN))) (aC (eV 9) (aC (eV 8) aN))))) aN)))))))
    (fun k en S' => ∃ (c' : Cell) (ps : List Pc) (x y z : Option D), en = [some (.ref i), some (.int most), x, some (.int (1 + r1)), some (.int r2), some (.int (1 + r3)), some (.ref S.length), some (.int (trucks ps)), y, z] ∧
      S' = S.set i c' ++ [.lst (ps.map Pc.d)] ∧ IsDice c' ∧ ps.length = k ∧ (∀ p ∈ ps, POk (1 + r1) p) ∧ (trucks ps : Int) ≤ 1 + r1 + r2)
    (rngD 0 n) 0 [some (.ref i), some (.int most), none, some (.int (1 + r1)), some (.int r2), some (.int (1 + r3)), some (.ref S.length), some (.int 0), none, none] (S.set i c5 ++ [.lst []])
    ⟨c5, [], none, none, none, rfl, rfl, k5, rfl, by simp, by simp [trucks]; omega⟩ (by
      rintro j d en S' hj ⟨c', ps, x, y, z, rfl, rfl, kc, hps, hpo, htr⟩
      refine ⟨_, rfl, ?_⟩
      have hjn : j < n := by
        have := (List.getElem?_eq_some_iff.mp hj).1
        simpa [rngD] using this
      obtain ⟨q1, d1, f1, l1, u1, v1⟩ := roll_app cs [.lst (ps.map Pc.d)] h kc (show (0 : Int) < 4 by decide) (by decide)
      obtain ⟨q2, d2, f2, l2, u2, v2⟩ := roll_app cs [.lst (ps.map Pc.d)] h l1 (show (0 : Int) < 1 + r3 by omega) (by omega)
      obtain ⟨q3, d3, f3, l3, u3, v3⟩ := roll_app cs [.lst (ps.map Pc.d)] h l2 (show (0 : Int) < 1 + r3 by omega) (by omega)
      obtain ⟨q4, d4, f4, l4, u4, v4⟩ := roll_app cs [.lst (ps.map Pc.d)] h l3 (show (0 : Int) < 12 by decide) (by decide)
      obtain ⟨m, hm⟩ : ∃ m, m = q4 / 11 := ⟨_, rfl⟩
      have hm0 : 0 ≤ m ∧ m ≤ 1 := by omega
      have hmul := oMul_int (S := S.set i d4 ++ [.lst (ps.map Pc.d)]) m (1 + r3) (mul_small' _ _ (by omega))
      obtain ⟨own, hown⟩ : ∃ o, o = min 6 (1 + min q2 q3 + m * (1 + r3)) := ⟨_, rfl⟩
      have hown1 : 1 ≤ own ∧ own ≤ 6 := by
        have : 0 ≤ m * (1 + r3) := Int.mul_nonneg hm0.1 (by omega)
        omega
      have hidx : ∀ (c : Cell) (ds : List D), (S.set i c ++ [Cell.lst ds])[S.length]? = some (.lst ds) := fun c ds => by
        have : (S.set i c).length = S.length := List.length_set
        rw [← this]; exact gx_last []
      have hset : ∀ (c : Cell) (ds es : List D), (S.set i c ++ [Cell.lst ds]).set S.length (.lst es) = S.set i c ++ [Cell.lst es] := fun c ds es => by
        have : (S.set i c).length = S.length := List.length_set
        rw [← this]; exact gs_last _
      have hl9 : ps.length < 100000 := by omega
      have hdiv := oDiv_int (S := S.set i d4 ++ [.lst (ps.map Pc.d)]) q4 11 (by decide) (by decide)
      rw [← hm] at hdiv
      by_cases ht : (trucks ps : Int) < 1 + r1 + r2
      · obtain ⟨q5, d5, f5, l5, u5, v5⟩ := roll_app cs [.lst (ps.map Pc.d)] h l4 (show (0 : Int) < 3 by decide) (by decide)
        by_cases hq : 0 < q5
        · refine ⟨_, S.set i d5 ++ [.lst ((ps ++ [Pc.tr (1 + q1) own]).map Pc.d)], by
            simp [f1, f2, f3, f4, hdiv, hmul, ← hown, ht, f5, hq, tyOk, hidx, fApp, hl9, hset, Pc.d]
            rfl, trivial, d5, ps ++ [Pc.tr (1 + q1) own], _, _, _, by rw [trucks_app] <;> rfl, rfl, l5, by simp; omega, fun p hp => ?_, by rw [trucks_app]; simp [isTr]; omega⟩
          rcases List.mem_append.mp hp with hp | hp
          · exact hpo p hp
          · have : p = Pc.tr (1 + q1) own := by simpa using hp
            subst this
            exact ⟨by omega, hown1⟩
        · obtain ⟨q6, d6, f6, l6, u6, v6⟩ := roll_app cs [.lst (ps.map Pc.d)] h l5 (show (0 : Int) < 1 + r1 by omega) (by omega)
          refine ⟨_, S.set i d6 ++ [.lst ((ps ++ [Pc.cl q6 (1 + q1) own]).map Pc.d)], by
            simp [f1, f2, f3, f4, hdiv, hmul, ← hown, ht, f5, hq, f6, tyOk, hidx, fApp, hl9, hset, Pc.d]
            rfl, trivial, d6, ps ++ [Pc.cl q6 (1 + q1) own], _, _, _, by rw [trucks_app] <;> rfl, rfl, l6, by simp; omega, fun p hp => ?_, by rw [trucks_app]; simp [isTr]; omega⟩
          rcases List.mem_append.mp hp with hp | hp
          · exact hpo p hp
          · have : p = Pc.cl q6 (1 + q1) own := by simpa using hp
            subst this
            exact ⟨by omega, by omega, hown1⟩
      · obtain ⟨q6, d6, f6, l6, u6, v6⟩ := roll_app cs [.lst (ps.map Pc.d)] h l4 (show (0 : Int) < 1 + r1 by omega) (by omega)
        refine ⟨_, S.set i d6 ++ [.lst ((ps ++ [Pc.cl q6 (1 + q1) own]).map Pc.d)], by
          simp [f1, f2, f3, f4, hdiv, hmul, ← hown, ht, f6, tyOk, hidx, fApp, hl9, hset, Pc.d]
          rfl, trivial, d6, ps ++ [Pc.cl q6 (1 + q1) own], _, _, _, by rw [trucks_app] <;> rfl, rfl, l6, by simp; omega, fun p hp => ?_, by rw [trucks_app]; simp [isTr]; omega⟩
        rcases List.mem_append.mp hp with hp | hp
        · exact hpo p hp
        · have : p = Pc.cl q6 (1 + q1) own := by simpa using hp
          subst this
          exact ⟨by omega, by omega, hown1⟩)
  obtain ⟨c', ps, x, y, z, rfl, rfl, kc, hps, hpo, htr⟩ := hI
  have hnn : ps.length = n := by simpa [rngD] using hps
  refine ⟨⟨1 + r1, r2, 1 + r3, ps⟩, c', ?_, kc, ⟨by simp only; omega, by simp only; omega, by simp only; omega, hpo, htr, by simp only; omega⟩, by simp only; omega, by simp only; omega, by simp only; omega, by simp only; omega⟩
  have hset : (S.set i c' ++ [Cell.lst (ps.map Pc.d)]).set S.length .dead = S.set i c' ++ [Cell.dead] := by
    have : (S.set i c').length = S.length := List.length_set
    rw [← this]; exact gs_last _
  have hidx : (S.set i c' ++ [Cell.lst (ps.map Pc.d)])[S.length]? = some (.lst (ps.map Pc.d)) := by
    have : (S.set i c').length = S.length := List.length_set
    rw [← this]; exact gx_last []
  have hrun : runB (m_law_table cs) 10 [.ref i, .int most] S = .ok (Tb.d ⟨1 + r1, r2, 1 + r3, ps⟩) (S.set i c' ++ [.dead]) := by
    refine runB_rt ?_
    have hne : ¬ (("size" : Str) = "pieces") := by decide +kernel
    simp [m_law_table, env0, e1, e2, e3, e4, e5, hn, show (-1000000 : Int) ≤ (n : Int) by omega, show (n : Int) ≤ 1000000 by omega, eL, hidx, hset, ePairs, keysD, mergeD, putD, Tb.d, hne]
  show gcR S _ = _
  rw [hrun, gcR_ok ((Good.set (Good.refl S) fun _ => noRefC_dice kc).app2 _) (noRef_Tb _ _)]
  congr 1
  have : (S.set i c').length = S.length := List.length_set
  rw [← this, List.take_left]
end SF

namespace SF
open PySem L2
def Tb.ho (t : Tb) : Ho := ⟨t.w, t.g, t.c, t.ps⟩
/-- the cells of a house laid at n -/
def hCells (cs : Cs) (ho : Ho) (n : Nat) : Sto := [hCell cs ho.l ho.s ho.h (n + 1), .lst (ho.ps.map Pc.d)]
theorem hCells_at (cs : Cs) (ho : Ho) (S T : Sto) : HAt cs (S ++ hCells cs ho S.length ++ T) S.length (S.length + 1) ho := by
  constructor
  · simp [hCells]
  · simp [hCells]
/-- _law_house(table); slots table house piece -/
noncomputable def m_law_house (cs : Cs) : Stm :=
  (sSeq (sAs (gN 1) (eMake cs.House 4 (f_House___init__ cs) [] (aC (eOp oIx (eOp oIx (eV 0) (eK (.str "size"))) (eK (.int 0))) (aC (eOp oIx (eOp oIx (eV 0) (eK (.str "size"))) (eK (.int 1))) (aC (eOp oIx (eOp oIx (eV 0) (eK (.str "size"))) (eK (.int 2))) aN))))) (sSeq (sFor (iSeq (eOp oIx (eV 0) (eK (.str "pieces")))) (gN 2) (sIf (tV (eOp (oEqN false) (eOp oIx (eV 2) (eK (.int 0))) (eK (.str "cloth")))) (sEx (eMeth cs.House "cloth" 4 (f_House_cloth cs) [] (eV 1) (aC (eOp oIx (eV 2) (eK (.int 1))) (aC (eOp oIx (eV 2) (eK (.int 2))) (aC (eOp oIx (eV 2) (eK (.int 3))) aN))))) (sEx (eMeth cs.House "truck" 3 (f_House_truck cs) [] (eV 1) (aC (eOp oIx (eV 2) (eK (.int 1))) (aC (eOp oIx (eV 2) (eK (.int 2))) aN)))))) (sRt (eV 1))))
/-- the run itself -/
noncomputable def f_law_house (cs : Cs) : List D → Sto → R D := fun ds S => runB (m_law_house cs) 3 ds S
theorem house_ok (cs : Cs) {S : Sto} {t : Tb} (h : TOk t) : f_law_house cs [t.d] S = .ok (.ref S.length) (S ++ hCells cs t.ho S.length) := by
  obtain ⟨⟨w1, w2⟩, ⟨g1, g2⟩, ⟨c1, c2⟩, hp, _, ⟨l1, l2⟩⟩ := h
  have e0 : f_House___init__ cs [.ref S.length, .int t.w, .int t.g, .int t.c] (S ++ [.ins cs.House []]) = .ok .non (S ++ hCells cs ⟨t.w, t.g, t.c, []⟩ S.length) := by
    have hx : (S ++ [Cell.ins cs.House []])[S.length]? = some (.ins cs.House []) := gx_last []
    refine le_get (Eq.mp (congrArg (fun z => Le z _) ?_) (spec_House___init__ cs _ _))
    unfold g_House___init__
    dsimp only
    rw [if_pos ⟨⟨w1, w2⟩, ⟨g1, g2⟩, ⟨c1, c2⟩, hx⟩, gs_last]
    simp [hCells]
  obtain ⟨en', S', eL, hI⟩ := forL_inv (g := gN 2) (chk := fun _ => True) (b := (sIf (tV (eOp (oEqN false) (eOp oIx (eV 2) (eK (.int 0))) (eK (.str "cloth")))) (sEx (eMeth cs.House "cloth" 4 (f_House_cloth cs) [] (eV 1) (aC (eOp oIx (eV 2) (eK (.int 1))) (aC (eOp oIx (eV 2) (eK (.int 2))) (aC (eOp oIx (eV 2) (eK (.int 3))) aN))))) (sEx (eMeth cs.House "truck" 3 (f_House_truck cs) [] (eV 1) (aC (eOp oIx (eV 2) (eK (.int 1))) (aC (eOp oIx (eV 2) (eK (.int 2))) aN))))))
    (fun k en S' => ∃ x : Option D, en = [some t.d, some (.ref S.length), x] ∧ S' = S ++ hCells cs ⟨t.w, t.g, t.c, t.ps.take k⟩ S.length)
    (t.ps.map Pc.d) 0 [some t.d, some (.ref S.length), none] (S ++ hCells cs ⟨t.w, t.g, t.c, []⟩ S.length) ⟨none, rfl, rfl⟩ (by
      rintro j d en S' hj ⟨x, rfl, rfl⟩
      rw [List.getElem?_map] at hj
      cases hq : t.ps[j]? with
      | none => rw [hq] at hj; cases hj
      | some p =>
        rw [hq] at hj
        cases hj
        have hjl : j < t.ps.length := (List.getElem?_eq_some_iff.mp hq).1
        refine ⟨_, rfl, ?_⟩
        rw [Nat.zero_add]
        have hat : HAt cs (S ++ hCells cs ⟨t.w, t.g, t.c, t.ps.take j⟩ S.length) S.length (S.length + 1) ⟨t.w, t.g, t.c, t.ps.take j⟩ := by
          have := hCells_at cs ⟨t.w, t.g, t.c, t.ps.take j⟩ S []
          rwa [List.append_nil] at this
        have ho := houseOf_eq hat
        have hlen : (t.ps.take j).length < 8 := by rw [List.length_take]; omega
        have hset : ∀ ds : List D, (S ++ hCells cs ⟨t.w, t.g, t.c, t.ps.take j⟩ S.length).set (S.length + 1) (.lst ds) = S ++ [hCell cs t.w t.g t.c (S.length + 1), .lst ds] := fun ds => by
          rw [List.set_append_right _ _ (by omega)]
          simp [hCells]
        have htk : (t.ps.take (j + 1)).map Pc.d = (t.ps.take j).map Pc.d ++ [p.d] := by
          rw [List.take_succ, hq]; simp
        have hpo := hp p (List.mem_of_getElem? hq)
        cases p with
        | cl l b hh =>
          obtain ⟨⟨x1, x2⟩, ⟨x3, x4⟩, ⟨x5, x6⟩⟩ := hpo
          refine ⟨[some t.d, some (.ref S.length), some (Pc.cl l b hh).d], S ++ hCells cs ⟨t.w, t.g, t.c, t.ps.take (j + 1)⟩ S.length, ?_, trivial, _, rfl, rfl⟩
          have hcl : f_House_cloth cs [.ref S.length, .int l, .int b, .int hh] (S ++ hCells cs ⟨t.w, t.g, t.c, t.ps.take j⟩ S.length) = .ok (.int (t.ps.take j).length) (S ++ hCells cs ⟨t.w, t.g, t.c, t.ps.take (j + 1)⟩ S.length) := by
            refine le_get (Eq.mp (congrArg (fun z => Le z _) ?_) (spec_House_cloth cs _ _))
            simp only [g_House_cloth, ho]
            rw [if_pos ⟨⟨x1, by omega⟩, ⟨x3, x4⟩, ⟨x5, x6⟩, hlen⟩, hset]
            simp only [hCells, htk]
          simp [Pc.d, oIx_tup, oEqN_str _ _ _ ok_cloth ok_cloth, ins_cloth hat, hcl]
        | tr b hh =>
          obtain ⟨⟨x3, x4⟩, ⟨x5, x6⟩⟩ := hpo
          refine ⟨[some t.d, some (.ref S.length), some (Pc.tr b hh).d], S ++ hCells cs ⟨t.w, t.g, t.c, t.ps.take (j + 1)⟩ S.length, ?_, trivial, _, rfl, rfl⟩
          have hcl : f_House_truck cs [.ref S.length, .int b, .int hh] (S ++ hCells cs ⟨t.w, t.g, t.c, t.ps.take j⟩ S.length) = .ok (.int (t.ps.take j).length) (S ++ hCells cs ⟨t.w, t.g, t.c, t.ps.take (j + 1)⟩ S.length) := by
            refine le_get (Eq.mp (congrArg (fun z => Le z _) ?_) (spec_House_truck cs _ _))
            simp only [g_House_truck, ho]
            rw [if_pos ⟨⟨x3, x4⟩, ⟨x5, x6⟩, hlen⟩, hset]
            simp only [hCells, htk]
          simp [Pc.d, oIx_tup, oEqN_str _ _ _ ok_truck ok_cloth, truck_ne, ins_truck hat, hcl])
  obtain ⟨x, rfl, rfl⟩ := hI
  rw [Nat.zero_add, List.length_map, List.take_length] at eL
  refine runB_rt ?_
  simp [m_law_house, env0, tb_size, oIx_tup, e0, tb_pieces, eL, Tb.ho]
end SF

namespace SF
open PySem L2
/-! ### places -/
def plD : Option Int → D
  | none => .str "up"
  | some i => .int i
theorem plD_inj {a b : Option Int} (h : plD a = plD b) : a = b := by
  cases a <;> cases b <;> simp [plD] at h ⊢
  exact h
def PlOk (w g : Int) : Pc → Option Int → Prop
  | .cl l _ _, x => x = none ∨ x = some l
  | .tr _ _, x => ∃ k, x = some k ∧ 0 ≤ k ∧ k < w + g
/-- a scene of a table -/
structure ScOk (t : Tb) (sc : List (Option Int)) : Prop where
  len : sc.length = t.ps.length
  ok : ∀ (n : Nat) p x, t.ps[n]? = some p → sc[n]? = some x → PlOk t.w t.g p x
  apart : ∀ (n m : Nat) v, sc[n]? = some (some v) → sc[m]? = some (some v) → n = m
def scD (sc : List (Option Int)) : D := .tup (sc.map plD)
theorem oIn_ints (neg : Bool) (v : Int) (hs : List Int) (S : Sto) : oIn neg (.int v) (.lst (hs.map D.int)) S = .ok (.bl (neg ^^ decide (v ∈ hs))) S := by
  have h1 : (hs.map D.int).all flatD = true := by
    rw [List.all_eq_true]; intro d hd; obtain ⟨i, _, rfl⟩ := List.mem_map.mp hd; rfl
  have h2 : ((hs.map D.int).any fun y => eqF y (.int v)) = decide (v ∈ hs) := by
    rw [List.any_map]
    by_cases h : v ∈ hs
    · rw [decide_eq_true h, List.any_eq_true]; exact ⟨v, h, by simp [eqF]⟩
    · rw [decide_eq_false h, List.any_eq_false]
      intro x hx
      simp only [Function.comp, eqF, beq_iff_eq]
      rintro rfl; exact h hx
  simp only [oIn, getD_lst, getQ_lst, h1, h2]
  rfl
theorem oIn_up (neg : Bool) (x : Str) (hs : List Int) (S : Sto) : oIn neg (.str x) (.lst (hs.map D.int)) S = .ok (.bl neg) S := by
  have h1 : (hs.map D.int).all flatD = true := by
    rw [List.all_eq_true]; intro d hd; obtain ⟨i, _, rfl⟩ := List.mem_map.mp hd; rfl
  have h2 : ((hs.map D.int).any fun y => eqF y (.str x)) = false := by
    rw [List.any_map, List.any_eq_false]
    intro x hx
    simp [eqF]
  simp only [oIn, getD_lst, getQ_lst, h1, h2]
  cases neg <;> rfl
theorem oIn_pl (neg : Bool) (x : Option Int) (hs : List Int) (S : Sto) : oIn neg (plD x) (.lst (hs.map D.int)) S = .ok (.bl (neg ^^ decide (∃ v, x = some v ∧ v ∈ hs))) S := by
  cases x with
  | none => rw [plD, oIn_up]; simp
  | some v => rw [plD, oIn_ints]; simp
theorem pick_ok {ds : List D} {r : Int} {S : Sto} (h0 : 0 ≤ r) (h1 : r < ds.length) : ∃ d, d ∈ ds ∧ oIx (.lst ds) (.int r) S = .ok d S := by
  obtain ⟨j, hj⟩ : ∃ j : Nat, r = (j : Int) := ⟨r.toNat, by omega⟩
  have hjl : j < ds.length := by omega
  refine ⟨ds[j], List.getElem_mem hjl, ?_⟩
  rw [hj, oIx_lst, atI_nat (List.getElem?_eq_getElem hjl)]
theorem some_left : ∀ (n : Nat) (hs : List Int), (∀ k : Int, 0 ≤ k → k < n → k ∈ hs) → n ≤ hs.length
  | 0, _, _ => Nat.zero_le _
  | n + 1, hs, h => by
    have hm : (n : Int) ∈ hs := h n (by omega) (by omega)
    have ih := some_left n (hs.erase n) fun k h0 h1 => (List.mem_erase_of_ne (by omega)).mpr (h k h0 (by omega))
    rw [List.length_erase_of_mem hm] at ih
    have := List.length_pos_of_mem hm
    omega
/-! ### scenes drawn -/
def fD : Option (Option Int) → D
  | none => .non
  | some x => plD x
def isDone (ph : Bool) (k n : Nat) (p : Pc) : Prop := if ph = true then (isTr p = true ∧ n < k) else (isTr p = true ∨ n < k)
structure ScI (t : Tb) (ph : Bool) (k : Nat) (F : List (Option (Option Int))) (hs : List Int) : Prop where
  len : F.length = t.ps.length
  set : ∀ (n : Nat) p, t.ps[n]? = some p → isDone ph k n p → ∃ x, F[n]? = some (some x) ∧ PlOk t.w t.g p x
  apart : ∀ (n m : Nat) v, F[n]? = some (some (some v)) → F[m]? = some (some (some v)) → n = m
  mem : ∀ (n : Nat) v, F[n]? = some (some (some v)) → v ∈ hs
  few : ph = true → hs.length ≤ trucks (t.ps.take k)
  size : hs.length ≤ t.ps.length + k
theorem ScI.put {t : Tb} {ph : Bool} {k : Nat} {F : List (Option (Option Int))} {hs : List Int} (h : ScI t ph k F hs) {p : Pc} (hp : t.ps[k]? = some p) (hk : isTr p = ph) {x : Option Int} (hx : PlOk t.w t.g p x) (hn : ∀ v, x = some v → v ∉ hs) :
    ScI t ph (k + 1) (F.set k (some x)) (hs ++ x.toList) := by
  have hkl : k < t.ps.length := (List.getElem?_eq_some_iff.mp hp).1
  have hkF : k < F.length := by rw [h.len]; exact hkl
  refine ⟨by rw [List.length_set]; exact h.len, fun n q hq hd => ?_, fun n m v h1 h2 => ?_, fun n v h1 => ?_, fun e => ?_, ?_⟩
  · by_cases e : k = n
    · subst e
      rw [hp] at hq; cases hq
      exact ⟨x, List.getElem?_set_self hkF, hx⟩
    · rw [List.getElem?_set_ne e]
      refine h.set n q hq ?_
      unfold isDone at hd ⊢
      split
      · rename_i hph
        rw [if_pos hph] at hd
        exact ⟨hd.1, by omega⟩
      · rename_i hph
        rw [if_neg hph] at hd
        exact hd.imp id fun _ => by omega
  · by_cases e1 : k = n
    · by_cases e2 : k = m
      · omega
      · subst e1
        rw [List.getElem?_set_self hkF] at h1
        rw [List.getElem?_set_ne e2] at h2
        have hxv : x = some v := by simpa using h1
        exact absurd (h.mem m v h2) (hn v hxv)
    · by_cases e2 : k = m
      · subst e2
        rw [List.getElem?_set_self hkF] at h2
        rw [List.getElem?_set_ne e1] at h1
        have hxv : x = some v := by simpa using h2
        exact absurd (h.mem n v h1) (hn v hxv)
      · rw [List.getElem?_set_ne e1] at h1
        rw [List.getElem?_set_ne e2] at h2
        exact h.apart n m v h1 h2
  · by_cases e1 : k = n
    · subst e1
      rw [List.getElem?_set_self hkF] at h1
      have hxv : x = some v := by simpa using h1
      rw [hxv]; simp
    · rw [List.getElem?_set_ne e1] at h1
      exact List.mem_append_left _ (h.mem n v h1)
  · have := h.few e
    rw [List.take_succ, hp]
    simp only [Option.toList_some]
    rw [trucks_app, hk, e, List.length_append]
    cases x <;> simp <;> omega
  · have := h.size
    rw [List.length_append]
    cases x <;> simp <;> omega
theorem ScI.skip {t : Tb} {ph : Bool} {k : Nat} {F : List (Option (Option Int))} {hs : List Int} (h : ScI t ph k F hs) {p : Pc} (hp : t.ps[k]? = some p) (hk : isTr p ≠ ph) : ScI t ph (k + 1) F hs := by
  refine ⟨h.len, fun n q hq hd => h.set n q hq ?_, h.apart, h.mem, fun e => ?_, by have := h.size; omega⟩
  · unfold isDone at hd ⊢
    by_cases e : n = k
    · subst e
      rw [hp] at hq; cases hq
      split
      · rename_i hph
        rw [if_pos hph] at hd
        rw [hph] at hk
        exact absurd hd.1 hk
      · rename_i hph
        refine .inl ?_
        cases hb : isTr p with
        | true => rfl
        | false => exact absurd (hb.trans (by simpa using hph : ph = false).symm) hk
    · split
      · rename_i hph
        rw [if_pos hph] at hd
        exact ⟨hd.1, by omega⟩
      · rename_i hph
        rw [if_neg hph] at hd
        exact hd.imp id fun _ => by omega
  · have := h.few e
    rw [List.take_succ, hp]
    simp only [Option.toList_some]
    rw [trucks_app]
    omega
theorem ScI.next {t : Tb} {F : List (Option (Option Int))} {hs : List Int} (h : ScI t true t.ps.length F hs) : ScI t false 0 F hs := by
  refine ⟨h.len, fun n q hq hd => h.set n q hq ?_, h.apart, h.mem, fun e => (by cases e), ?_⟩
  · unfold isDone at hd ⊢
    rw [if_neg (by decide)] at hd
    rw [if_pos rfl]
    exact ⟨hd.resolve_right (by omega), (List.getElem?_eq_some_iff.mp hq).1⟩
  · have h1 := h.few rfl
    rw [List.take_length] at h1
    have h2 : trucks t.ps ≤ t.ps.length := List.length_filter_le _ _
    omega
theorem ScI.ends {t : Tb} {F : List (Option (Option Int))} {hs : List Int} (h : ScI t false t.ps.length F hs) : ∃ sc, F.map fD = sc.map plD ∧ ScOk t sc := by
  have all : ∀ n, n < F.length → ∃ x, F[n]? = some (some x) := fun n hn => by
    have hn2 : n < t.ps.length := by rw [← h.len]; exact hn
    obtain ⟨x, hx, _⟩ := h.set n t.ps[n] (List.getElem?_eq_getElem hn2) (by unfold isDone; rw [if_neg (by decide)]; exact .inr hn2)
    exact ⟨x, hx⟩
  have hF : F = (F.map fun o => o.getD none).map some := by
    refine List.ext_getElem? fun n => ?_
    rw [List.getElem?_map, List.getElem?_map]
    by_cases hn : n < F.length
    · obtain ⟨x, hx⟩ := all n hn
      rw [hx]; rfl
    · rw [List.getElem?_eq_none_iff.mpr (by omega)]; rfl
  refine ⟨F.map fun o => o.getD none, ?_, ?_⟩
  · conv => lhs; rw [hF]
    rw [List.map_map]
    rfl
  · have hg : ∀ n x, (F.map fun o => o.getD none)[n]? = some x → F[n]? = some (some x) := fun n x e => by
      have hn : n < F.length := by have := (List.getElem?_eq_some_iff.mp e).1; simpa using this
      obtain ⟨y, hy⟩ := all n hn
      rw [List.getElem?_map, hy] at e
      simp at e
      rw [hy, e]
    refine ⟨by rw [List.length_map]; exact h.len, fun n p x hp hx => ?_, fun n m v h1 h2 => h.apart n m v (hg n _ h1) (hg m _ h2)⟩
    have hn : n < t.ps.length := (List.getElem?_eq_some_iff.mp hp).1
    obtain ⟨y, hy, ok⟩ := h.set n p hp (by unfold isDone; rw [if_neg (by decide)]; exact .inr hn)
    rw [hg n x hx] at hy
    cases hy
    exact ok
/-- _law_scene(table, dice, elder); slots table dice elder kind lines slots hands found held number piece free own place -/
noncomputable def m_law_scene (cs : Cs) : Stm :=
  (sSeq (sAs (gT (gsC (gN 4) (gsC (gN 5) (gsC (gN 6) gsN)))) (eOp oIx (eV 0) (eK (.str "size")))) (sSeq (sAs (gT (gsC (gN 7) (gsC (gN 8) gsN))) (eTup (aC (eLcN (iSeq (eOp oIx (eV 0) (eK (.str "pieces")))) (gN 10) tYs (eK .non) [10]) (aC (eLst aN) aN)))) (sSeq (sFor (iSeq (eLst (aC (eK (.str "truck")) (aC (eK (.str "cloth")) aN)))) (gN 3) (sFor (iEn (aC (eOp oIx (eV 0) (eK (.str "pieces"))) aN)) (gT (gsC (gN 9) (gsC (gN 10) gsN))) (sIf (tV (eOp (oEqN false) (eOp oIx (eV 10) (eK (.int 0))) (eV 3))) (sSeq (sAs (gN 11) (eIf (tV (eOp (oEqN false) (eV 3) (eK (.str "truck")))) (eRgL (iR1 (aC (eOp oAdd (eV 4) (eV 5)) aN))) (eLst (aC (eOp oIx (eV 10) (eK (.int 1))) (aC (eK (.str "up")) (aC (eOp oIx (eV 10) (eK (.int 1))) aN)))))) (sSeq (sAs (gN 11) (eLc (iSeq (eV 11)) (gN 13) (tV (eOp (oIn true) (eV 13) (eV 8))) (eV 13) [13])) (sSeq (sAs (gN 12) (eOp oIx (eV 11) (eCall 2 (f_law_roll cs) [] (aC (eV 1) (aC (eB fLen (aC (eV 11) aN)) aN))))) (sSeq (sIf (tAn (tV (eOp (oEqN true) (eV 2) (eLst aN))) (tAn (tV (eOp (oIn true) (eOp oIx (eV 2) (eV 9)) (eV 8))) (tV (eOp (oEqN false) (eCall 2 (f_law_roll cs) [] (aC (eV 1) (aC (eK (.int 5)) aN))) (eK (.int 0)))))) (sAs (gN 12) (eOp oIx (eV 2) (eV 9))) sNx) (sSeq (sSetL (eV 7) (eV 9) (eV 12)) (sAs (gN 8) (eOp oAdd (eV 8) (eLc (iSeq (eLst (aC (eV 12) aN))) (gN 13) (tV (eOp (oEqN true) (eV 13) (eK (.str "up")))) (eV 13) [13])))))))) sNx))) (sSeq (sCl 7) (sRt (eB fTuple (aC (eV 7) aN)))))))
/-- the run itself -/
noncomputable def f_law_scene (cs : Cs) : List D → Sto → R D := fun ds S => gcR S (runB (m_law_scene cs) 14 ds S)
noncomputable def bodySc (cs : Cs) : Stm :=
  (sIf (tV (eOp (oEqN false) (eOp oIx (eV 10) (eK (.int 0))) (eV 3))) (sSeq (sAs (gN 11) (eIf (tV (eOp (oEqN false) (eV 3) (eK (.str "truck")))) (eRgL (iR1 (aC (eOp oAdd (eV 4) (eV 5)) aN))) (eLst (aC (eOp oIx (eV 10) (eK (.int 1))) (aC (eK (.str "up")) (aC (eOp oIx (eV 10) (eK (.int 1))) aN)))))) (sSeq (sAs (gN 11) (eLc (iSeq (eV 11)) (gN 13) (tV (eOp (oIn true) (eV 13) (eV 8))) (eV 13) [13])) (sSeq (sAs (gN 12) (eOp oIx (eV 11) (eCall 2 (f_law_roll cs) [] (aC (eV 1) (aC (eB fLen (aC (eV 11) aN)) aN))))) (sSeq (sIf (tAn (tV (eOp (oEqN true) (eV 2) (eLst aN))) (tAn (tV (eOp (oIn true) (eOp oIx (eV 2) (eV 9)) (eV 8))) (tV (eOp (oEqN false) (eCall 2 (f_law_roll cs) [] (aC (eV 1) (aC (eK (.int 5)) aN))) (eK (.int 0)))))) (sAs (gN 12) (eOp oIx (eV 2) (eV 9))) sNx) (sSeq (sSetL (eV 7) (eV 9) (eV 12)) (sAs (gN 8) (eOp oAdd (eV 8) (eLc (iSeq (eLst (aC (eV 12) aN))) (gN 13) (tV (eOp (oEqN true) (eV 13) (eK (.str "up")))) (eV 13) [13])))))))) sNx)
end SF

namespace SF
open PySem L2
/-- what may stand in the way: places not held -/
def keepH (hs : List Int) (d : D) : Bool := match d with
  | .int v => !decide (v ∈ hs)
  | _ => true
theorem keepH_pl (hs : List Int) (x : Option Int) : keepH hs (plD x) = true ↔ ∀ v, x = some v → v ∉ hs := by
  cases x <;> simp [keepH, plD]
theorem good_pl (x : Option Int) : good 0 (plD x) = true := by cases x <;> simp [plD, good, ok_up]
theorem good_pls (xs : List (Option Int)) : good 1 (.lst (xs.map plD)) = true := by
  show (xs.map plD).all (good 0) = true
  rw [List.all_eq_true]
  intro d hd
  obtain ⟨x, _, rfl⟩ := List.mem_map.mp hd
  exact good_pl x
noncomputable def tailSc (cs : Cs) : Stm :=
  (sSeq (sAs (gN 11) (eLc (iSeq (eV 11)) (gN 13) (tV (eOp (oIn true) (eV 13) (eV 8))) (eV 13) [13])) (sSeq (sAs (gN 12) (eOp oIx (eV 11) (eCall 2 (f_law_roll cs) [] (aC (eV 1) (aC (eB fLen (aC (eV 11) aN)) aN))))) (sSeq (sIf (tAn (tV (eOp (oEqN true) (eV 2) (eLst aN))) (tAn (tV (eOp (oIn true) (eOp oIx (eV 2) (eV 9)) (eV 8))) (tV (eOp (oEqN false) (eCall 2 (f_law_roll cs) [] (aC (eV 1) (aC (eK (.int 5)) aN))) (eK (.int 0)))))) (sAs (gN 12) (eOp oIx (eV 2) (eV 9))) sNx) (sSeq (sSetL (eV 7) (eV 9) (eV 12)) (sAs (gN 8) (eOp oAdd (eV 8) (eLc (iSeq (eLst (aC (eV 12) aN))) (gN 13) (tV (eOp (oEqN true) (eV 13) (eK (.str "up")))) (eV 13) [13])))))))
def Elder (t : Tb) (el : List (Option Int)) : Prop := el = [] ∨ ScOk t el
theorem tail_ok (cs : Cs) {S : Sto} {i : Nat} {c0 c : Cell} {t : Tb} {ph : Bool} {k : Nat} {F : List (Option (Option Int))} {hs : List Int} {p : Pc} {el fr : List (Option Int)} {x12 : Option D} {kd dt : D} {w g cc : Int}
    (h : S[i]? = some c0) (hc : IsDice c) (ht : TOk t) (hI : ScI t ph k F hs) (hp : t.ps[k]? = some p) (hk : isTr p = ph) (hel : Elder t el) (hfr : ∀ x ∈ fr, PlOk t.w t.g p x) (hfl : fr.length ≤ 1000) (hfx : ∃ x ∈ fr, ∀ v, x = some v → v ∉ hs) :
    ∃ c' F' hs' y11 y12, tailSc cs [some dt, some (.ref i), some (.lst (el.map plD)), some kd, some (.int w), some (.int g), some (.int cc), some (.ref S.length), some (.lst (hs.map D.int)), some (.int k), some p.d, some (.lst (fr.map plD)), x12, none] (S.set i c ++ [.lst (F.map fD)]) =
      .nx [some dt, some (.ref i), some (.lst (el.map plD)), some kd, some (.int w), some (.int g), some (.int cc), some (.ref S.length), some (.lst (hs'.map D.int)), some (.int k), some p.d, y11, y12, none] (S.set i c' ++ [.lst (F'.map fD)]) ∧ IsDice c' ∧ ScI t ph (k + 1) F' hs' := by
  obtain ⟨els, hels⟩ : ∃ els, els = el.map plD := ⟨_, rfl⟩
  have hgood : good 1 (.lst els) = true := by rw [hels]; exact good_pls el
  rw [← hels]
  have hkl : k < t.ps.length := (List.getElem?_eq_some_iff.mp hp).1
  have hkF : k < F.length := by rw [hI.len]; exact hkl
  obtain ⟨l1, l2⟩ := ht.len
  have hsz := hI.size
  -- the free places
  obtain ⟨fl, hfl0⟩ : ∃ fl, fl = (fr.map plD).filter (keepH hs) := ⟨_, rfl⟩
  have hc1 : ∀ (x12 : Option D) (S1 : Sto), lcM (gN 13) (tV (eOp (oIn true) (eV 13) (eV 8))) (eV 13) (fun _ => True) [some dt, some (.ref i), some (.lst els), some kd, some (.int w), some (.int g), some (.int cc), some (.ref S.length), some (.lst (hs.map D.int)), some (.int k), some p.d, some (.lst (fr.map plD)), x12, none] (fr.map plD) S1 = .ok fl S1 := fun x12 S1 => by
    have := lcM_pure (g := gN 13) (c := tV (eOp (oIn true) (eV 13) (eV 8))) (e := eV 13) (chk := fun _ => True) (en := [some dt, some (.ref i), some (.lst els), some kd, some (.int w), some (.int g), some (.int cc), some (.ref S.length), some (.lst (hs.map D.int)), some (.int k), some p.d, some (.lst (fr.map plD)), x12, none]) (S := S1) (keepH hs) (fun x => x)
      (fun x => [some dt, some (.ref i), some (.lst els), some kd, some (.int w), some (.int g), some (.int cc), some (.ref S.length), some (.lst (hs.map D.int)), some (.int k), some p.d, some (.lst (fr.map plD)), x12, some x]) trivial (items := fr.map plD) (fun d _ => rfl) (fun d hd => ?_) (fun d _ _ => rfl)
    · rw [this, List.map_id', hfl0]
    · obtain ⟨x, _, rfl⟩ := List.mem_map.mp hd
      cases x with
      | none => simp [plD, oIn_up, keepH]
      | some v => simp [plD, oIn_ints, keepH]
  have hfl1 : 0 < fl.length := by
    obtain ⟨x, hx, hv⟩ := hfx
    refine List.length_pos_of_mem (a := plD x) ?_
    rw [hfl0, List.mem_filter]
    exact ⟨List.mem_map_of_mem hx, (keepH_pl hs x).mpr hv⟩
  have hfl2 : fl.length ≤ 1000 := by
    rw [hfl0]
    have := List.length_filter_le (keepH hs) (fr.map plD)
    rw [List.length_map] at this
    omega
  obtain ⟨r1, c1, e1, k1, a1, b1⟩ := roll_app cs [.lst (F.map fD)] h hc (show (0 : Int) < fl.length by omega) (by omega)
  obtain ⟨d, hd, hpick⟩ := pick_ok (S := S.set i c1 ++ [.lst (F.map fD)]) a1 b1
  rw [hfl0, List.mem_filter] at hd
  obtain ⟨hd1, hd2⟩ := hd
  obtain ⟨x, hx, rfl⟩ := List.mem_map.mp hd1
  have hxn := (keepH_pl hs x).mp hd2
  -- the end, once the place is settled
  have fin : ∀ (y : Option Int) (c2 : Cell), IsDice c2 → PlOk t.w t.g p y → (∀ v, y = some v → v ∉ hs) → 
      ∃ c' F' hs' y11 y12, (sSeq (sSetL (eV 7) (eV 9) (eV 12)) (sAs (gN 8) (eOp oAdd (eV 8) (eLc (iSeq (eLst (aC (eV 12) aN))) (gN 13) (tV (eOp (oEqN true) (eV 13) (eK (.str "up")))) (eV 13) [13])))) [some dt, some (.ref i), some (.lst els), some kd, some (.int w), some (.int g), some (.int cc), some (.ref S.length), some (.lst (hs.map D.int)), some (.int k), some p.d, some (.lst fl), some (plD y), none] (S.set i c2 ++ [.lst (F.map fD)]) =
      .nx [some dt, some (.ref i), some (.lst els), some kd, some (.int w), some (.int g), some (.int cc), some (.ref S.length), some (.lst (hs'.map D.int)), some (.int k), some p.d, y11, y12, none] (S.set i c' ++ [.lst (F'.map fD)]) ∧ IsDice c' ∧ ScI t ph (k + 1) F' hs' := by
    intro y c2 kc2 hy hyn
    refine ⟨c2, F.set k (some y), hs ++ y.toList, some (.lst fl), some (plD y), ?_, kc2, hI.put hp hk hy hyn⟩
    have hidx : (S.set i c2 ++ [Cell.lst (F.map fD)])[S.length]? = some (.lst (F.map fD)) := by
      have : (S.set i c2).length = S.length := List.length_set
      rw [← this]; exact gx_last []
    have hset : ∀ es : List D, (S.set i c2 ++ [Cell.lst (F.map fD)]).set S.length (.lst es) = S.set i c2 ++ [Cell.lst es] := fun es => by
      have : (S.set i c2).length = S.length := List.length_set
      rw [← this]; exact gs_last _
    have hix : ixN F.length (k : Int) = some k := by simp [ixN]; omega
    have hmap : (F.map fD).set k (plD y) = (F.set k (some y)).map fD := by rw [List.map_set]; rfl
    cases y with
    | none => 
      have hl : hs.length ≤ 100000 := by omega
      simp [hidx, hix, hset, wipeE, lcM, plD, oEqN_str _ _ _ ok_up ok_up, hl, List.map_set, fD]
    | some v => 
      have hl : hs.length + 1 ≤ 100000 := by omega
      simp [hidx, hix, hset, wipeE, lcM, plD, oEqN_int_str _ _ _ ok_up, hl, List.map_set, fD]
  have hfr9 : fr.length ≤ 50000 := by omega
  by_cases he : el = []
  · obtain ⟨c', F', hs', y11, y12, e, q⟩ := fin x c1 k1 (hfr x hx) hxn
    refine ⟨c', F', hs', y11, y12, ?_, q⟩
    have heq : ∀ S1, oEqN true (.lst els) (.lst []) S1 = .ok (.bl false) S1 := fun S1 => oEqN_eq (n := 1) (m := 1) true hgood rfl (by rw [hels, he]; rfl)
    rw [← e]
    simp [tailSc, wipeE, hc1, hfr9, e1, hpick, heq]
  · have hsc : ScOk t el := hel.resolve_left he
    have hne : oEqN true (.lst els) (.lst []) (S.set i c1 ++ [.lst (F.map fD)]) = .ok (.bl true) (S.set i c1 ++ [.lst (F.map fD)]) :=
      oEqN_ne true (hgood) (m := 1) rfl (by rw [hels]; simpa using he)
    have hkE : k < el.length := by rw [hsc.len]; exact hkl
    have hge : el[k]? = some el[k] := List.getElem?_eq_getElem hkE
    have hat : ∀ S1, oIx (.lst els) (.int k) S1 = .ok (plD el[k]) S1 := fun S1 => by
      rw [oIx_lst, atI_nat (v := plD el[k]) (by rw [hels, List.getElem?_map, hge]; rfl)]
    by_cases hin : ∃ v, el[k] = some v ∧ v ∈ hs
    · obtain ⟨c', F', hs', y11, y12, e, q⟩ := fin x c1 k1 (hfr x hx) hxn
      refine ⟨c', F', hs', y11, y12, ?_, q⟩
      rw [← e]
      simp [tailSc, wipeE, hc1, hfr9, e1, hpick, hne, hat, oIn_pl, hin]
    · obtain ⟨r2, c2, e2, k2, a2, b2⟩ := roll_app cs [.lst (F.map fD)] h k1 (show (0 : Int) < 5 by decide) (by decide)
      by_cases hr : r2 = 0
      · obtain ⟨c', F', hs', y11, y12, e, q⟩ := fin el[k] c2 k2 (hsc.ok k p _ hp hge) (fun v hv hm => hin ⟨v, hv, hm⟩)
        refine ⟨c', F', hs', y11, y12, ?_, q⟩
        rw [← e]
        simp [tailSc, wipeE, hc1, hfr9, e1, hpick, hne, hat, oIn_pl, hin, e2, oEqN_int, hr]
      · obtain ⟨c', F', hs', y11, y12, e, q⟩ := fin x c2 k2 (hfr x hx) hxn
        refine ⟨c', F', hs', y11, y12, ?_, q⟩
        rw [← e]
        simp [tailSc, wipeE, hc1, hfr9, e1, hpick, hne, hat, oIn_pl, hin, e2, oEqN_int, hr]
end SF

namespace SF
open PySem L2
def kdD (ph : Bool) : D := .str (if ph = true then "truck" else "cloth")
theorem bodySc_eq (cs : Cs) : bodySc cs = (sIf (tV (eOp (oEqN false) (eOp oIx (eV 10) (eK (.int 0))) (eV 3))) (sSeq (sAs (gN 11) (eIf (tV (eOp (oEqN false) (eV 3) (eK (.str "truck")))) (eRgL (iR1 (aC (eOp oAdd (eV 4) (eV 5)) aN))) (eLst (aC (eOp oIx (eV 10) (eK (.int 1))) (aC (eK (.str "up")) (aC (eOp oIx (eV 10) (eK (.int 1))) aN)))))) (tailSc cs)) sNx) := rfl
theorem turn_ok (cs : Cs) {S : Sto} {i : Nat} {c0 c : Cell} {t : Tb} {ph : Bool} {k : Nat} {F : List (Option (Option Int))} {hs : List Int} {p : Pc} {el : List (Option Int)} {x11 x12 : Option D}
    (h : S[i]? = some c0) (hc : IsDice c) (ht : TOk t) (hI : ScI t ph k F hs) (hp : t.ps[k]? = some p) (hel : Elder t el) :
    ∃ c' F' hs' y11 y12, bodySc cs [some t.d, some (.ref i), some (.lst (el.map plD)), some (kdD ph), some (.int t.w), some (.int t.g), some (.int t.c), some (.ref S.length), some (.lst (hs.map D.int)), some (.int k), some p.d, x11, x12, none] (S.set i c ++ [.lst (F.map fD)]) =
      .nx [some t.d, some (.ref i), some (.lst (el.map plD)), some (kdD ph), some (.int t.w), some (.int t.g), some (.int t.c), some (.ref S.length), some (.lst (hs'.map D.int)), some (.int k), some p.d, y11, y12, none] (S.set i c' ++ [.lst (F'.map fD)]) ∧ IsDice c' ∧ ScI t ph (k + 1) F' hs' := by
  rw [bodySc_eq]
  by_cases hk : isTr p = ph
  · cases p with
    | cl l b hh =>
      have : ph = false := by rw [← hk]; rfl
      subst this
      obtain ⟨c', F', hs', y11, y12, e, q⟩ := tail_ok cs (fr := [some l, none, some l]) (x12 := x12) (kd := kdD false) (dt := t.d) (w := t.w) (g := t.g) (cc := t.c) h hc ht hI hp hk hel (by
        intro x hx
        have : x = some l ∨ x = none := by simp at hx; rcases hx with h | h | h <;> simp [h]
        rcases this with rfl | rfl
        · exact .inr rfl
        · exact .inl rfl) (by simp) ⟨none, by simp, by simp⟩
      refine ⟨c', F', hs', y11, y12, ?_, q⟩
      rw [← e]
      simp [kdD, Pc.d, oIx_tup, oEqN_str _ _ _ ok_cloth ok_cloth, oEqN_str _ _ _ ok_cloth ok_truck, cloth_ne, plD]
    | tr b hh =>
      have : ph = true := by rw [← hk]; rfl
      subst this
      obtain ⟨w1, w2⟩ := ht.w
      obtain ⟨g1, g2⟩ := ht.g
      obtain ⟨m, hm⟩ : ∃ m : Nat, t.w + t.g = (m : Int) := ⟨(t.w + t.g).toNat, by omega⟩
      have hkl : k < t.ps.length := (List.getElem?_eq_some_iff.mp hp).1
      obtain ⟨c', F', hs', y11, y12, e, q⟩ := tail_ok cs (fr := (List.range m).map fun j : Nat => some (0 + (j : Int))) (x12 := x12) (kd := kdD true) (dt := t.d) (w := t.w) (g := t.g) (cc := t.c) h hc ht hI hp hk hel (by
        intro x hx
        obtain ⟨j, hj, rfl⟩ := List.mem_map.mp hx
        have := List.mem_range.mp hj
        exact ⟨_, rfl, by omega, by omega⟩) (by simp; omega) (by
        apply Classical.byContradiction
        intro hno
        have hall : ∀ k : Int, 0 ≤ k → k < m → k ∈ hs := fun v h0 h1 => by
          apply Classical.byContradiction
          intro hv
          refine hno ⟨some v, List.mem_map.mpr ⟨v.toNat, List.mem_range.mpr (by omega), by congr 1; omega⟩, fun u hu => ?_⟩
          cases hu; exact hv
        have h1 := some_left m hs hall
        have h2 := hI.few rfl
        have h3 : trucks (t.ps.take (k + 1)) ≤ trucks t.ps := by
          conv => rhs; rw [← List.take_append_drop (k + 1) t.ps]
          unfold trucks
          rw [List.filter_append, List.length_append]
          omega
        rw [List.take_succ, hp] at h3
        simp only [Option.toList_some] at h3
        rw [trucks_app, hk, if_pos rfl] at h3
        have := ht.tr
        omega)
      refine ⟨c', F', hs', y11, y12, ?_, q⟩
      rw [← e]
      have hr : rngD 0 m = ((List.range m).map fun j : Nat => some (0 + (j : Int))).map plD := by
        rw [List.map_map]; rfl
      simp only [ap_sIf, ap_tV, ap_eOp, ap_eV, ap_eK, ap_sSeq, ap_sAs, ap_eIf, kdD, Pc.d, oIx_tup, List.getElem?_cons_zero, List.getElem?_cons_succ, R.bind_ok, if_pos, oEqN_str _ _ _ ok_truck ok_truck, decide_true, Bool.false_xor, ap_toB, R.thenS_ok, ap_eRgL, ap_iR1, ap_aC, ap_aN, oAdd_int, hm, Int.toNat_natCast, hr, RS.andThen_nx, ap_gN, List.set_cons_succ, List.set_cons_zero, List.length_map, List.length_range]
      have hat : atI [D.str "truck", D.int b, D.int hh] 0 = some (.str "truck") := rfl
      simp only [hat, R.bind_ok, oEqN_str _ _ _ ok_truck ok_truck, decide_true, Bool.false_xor, ap_toB, R.thenS_ok, if_pos (show -1000000 ≤ (m : Int) ∧ (m : Int) ≤ 1000000 by omega), if_pos (show m ≤ 100000 by omega), List.length_map, List.length_range, RS.andThen_nx]
  · refine ⟨c, F, hs, x11, x12, ?_, hc, hI.skip hp hk⟩
    cases p with
    | cl l b hh =>
      have : ph = true := by cases ph with | true => rfl | false => exact absurd rfl hk
      subst this
      simp [kdD, Pc.d, oIx_tup, oEqN_str _ _ _ ok_cloth ok_truck, cloth_ne]
    | tr b hh =>
      have : ph = false := by cases ph with | false => rfl | true => exact absurd rfl hk
      subst this
      simp [kdD, Pc.d, oIx_tup, oEqN_str _ _ _ ok_truck ok_cloth, truck_ne]
/-- one kind's turn -/
theorem kind_ok (cs : Cs) {S : Sto} {i : Nat} {c0 c : Cell} {t : Tb} {ph : Bool} {F : List (Option (Option Int))} {hs : List Int} {el : List (Option Int)} {x9 x10 x11 x12 : Option D}
    (h : S[i]? = some c0) (hc : IsDice c) (ht : TOk t) (hI : ScI t ph 0 F hs) (hel : Elder t el) :
    ∃ c' F' hs' y9 y10 y11 y12, (sFor (iEn (aC (eOp oIx (eV 0) (eK (.str "pieces"))) aN)) (gT (gsC (gN 9) (gsC (gN 10) gsN))) (bodySc cs)) [some t.d, some (.ref i), some (.lst (el.map plD)), some (kdD ph), some (.int t.w), some (.int t.g), some (.int t.c), some (.ref S.length), some (.lst (hs.map D.int)), x9, x10, x11, x12, none] (S.set i c ++ [.lst (F.map fD)]) =
      .nx [some t.d, some (.ref i), some (.lst (el.map plD)), some (kdD ph), some (.int t.w), some (.int t.g), some (.int t.c), some (.ref S.length), some (.lst (hs'.map D.int)), y9, y10, y11, y12, none] (S.set i c' ++ [.lst (F'.map fD)]) ∧ IsDice c' ∧ ScI t ph t.ps.length F' hs' := by
  obtain ⟨en', S', eL, hI'⟩ := forL_inv (g := gT (gsC (gN 9) (gsC (gN 10) gsN))) (chk := fun _ => True) (b := bodySc cs)
    (fun k en S' => ∃ c' F' hs' y9 y10 y11 y12, en = [some t.d, some (.ref i), some (.lst (el.map plD)), some (kdD ph), some (.int t.w), some (.int t.g), some (.int t.c), some (.ref S.length), some (.lst (hs'.map D.int)), y9, y10, y11, y12, none] ∧ S' = S.set i c' ++ [.lst (F'.map fD)] ∧ IsDice c' ∧ ScI t ph k F' hs')
    ((t.ps.map Pc.d).zipIdx.map fun p => D.tup [.int (p.2 : Nat), p.1]) 0 _ _ ⟨c, F, hs, x9, x10, x11, x12, rfl, rfl, hc, hI⟩ (by
      rintro j d en S' hj ⟨c', F', hs', y9, y10, y11, y12, rfl, rfl, kc, kI⟩
      rw [List.getElem?_map, List.getElem?_zipIdx, List.getElem?_map] at hj
      cases hq : t.ps[j]? with
      | none => rw [hq] at hj; cases hj
      | some p =>
        rw [hq] at hj
        simp only [Option.map_some, Option.some.injEq, Nat.zero_add] at hj
        subst hj
        refine ⟨_, rfl, ?_⟩
        rw [Nat.zero_add] at kI ⊢
        obtain ⟨c2, F2, hs2, z11, z12, e, q1, q2⟩ := turn_ok cs (x11 := y11) (x12 := y12) h kc ht kI hq hel
        exact ⟨_, _, e, trivial, c2, F2, hs2, _, _, _, _, rfl, rfl, q1, q2⟩)
  obtain ⟨c', F', hs', y9, y10, y11, y12, rfl, rfl, kc, kI⟩ := hI'
  rw [Nat.zero_add, List.length_map, List.length_zipIdx, List.length_map] at kI
  refine ⟨c', F', hs', y9, y10, y11, y12, ?_, kc, kI⟩
  simp [tb_pieces, eL]
theorem noRef_sc (n : Nat) (sc : List (Option Int)) : noRef n (scD sc) = true := by
  show noRefs n (sc.map plD) = true
  rw [noRefs_all, List.all_eq_true]
  intro d hd
  obtain ⟨x, _, rfl⟩ := List.mem_map.mp hd
  cases x <;> simp [plD, noRef]
theorem lcM_nones {g : Tgt} {en : En} {S : Sto} (hg : ∀ d, ∃ en1, g d en = some en1) : ∀ items : List D, lcM g tYs (eK .non) (fun _ => True) en items S = .ok (items.map fun _ => D.non) S
  | [] => rfl
  | d :: r => by
    obtain ⟨en1, h1⟩ := hg d
    have ih := lcM_nones (S := S) hg r
    unfold lcM
    simp [h1, ih]
theorem scene_ok (cs : Cs) {S : Sto} {i : Nat} {c : Cell} {t : Tb} {el : List (Option Int)} (h : S[i]? = some c) (hc : IsDice c) (ht : TOk t) (hel : Elder t el) :
    ∃ sc c', f_law_scene cs [t.d, .ref i, .lst (el.map plD)] S = .ok (scD sc) (S.set i c') ∧ IsDice c' ∧ ScOk t sc := by
  obtain ⟨l1, l2⟩ := ht.len
  have hself : S.set i c = S := by
    refine List.ext_getElem? fun n => ?_
    by_cases e : i = n
    · subst e; rw [gx_set h, h]
    · rw [List.getElem?_set_ne e]
  have I0 : ScI t true 0 (t.ps.map fun _ => none) [] := ⟨by simp, fun n p hp hd => by unfold isDone at hd; rw [if_pos rfl] at hd; omega, fun n m v h1 => by simp [List.getElem?_map] at h1, fun n v h1 => by simp [List.getElem?_map] at h1, fun _ => Nat.zero_le _, Nat.zero_le _⟩
  obtain ⟨c1, F1, hs1, y9, y10, y11, y12, e1, k1, I1⟩ := kind_ok cs (x9 := none) (x10 := none) (x11 := none) (x12 := none) h hc ht I0 hel
  obtain ⟨c2, F2, hs2, z9, z10, z11, z12, e2, k2, I2⟩ := kind_ok cs (x9 := y9) (x10 := y10) (x11 := y11) (x12 := y12) h k1 ht I1.next hel
  obtain ⟨sc, hF, hsc⟩ := I2.ends
  rw [hself, List.map_map] at e1
  rw [hF] at e2
  refine ⟨sc, c2, ?_, k2, hsc⟩
  have hidx : (S.set i c2 ++ [Cell.lst (sc.map plD)])[S.length]? = some (.lst (sc.map plD)) := by
    have : (S.set i c2).length = S.length := List.length_set
    rw [← this]; exact gx_last []
  have hset : (S.set i c2 ++ [Cell.lst (sc.map plD)]).set S.length .dead = S.set i c2 ++ [.dead] := by
    have : (S.set i c2).length = S.length := List.length_set
    rw [← this]; exact gs_last _
  have hn := lcM_nones (g := gN 10) (en := [some t.d, some (D.ref i), some (D.lst (el.map plD)), none, some (D.int t.w), some (D.int t.g), some (D.int t.c), none, none, none, none, none, none, none]) (S := S) (fun d => ⟨_, rfl⟩) (t.ps.map Pc.d)
  rw [List.map_map] at hn
  have hrun : runB (m_law_scene cs) 14 [t.d, .ref i, .lst (el.map plD)] S = .ok (scD sc) (S.set i c2 ++ [.dead]) := by
    refine runB_rt ?_
    have hl9 : t.ps.length ≤ 50000 := by omega
    change (sSeq (sAs (gT (gsC (gN 4) (gsC (gN 5) (gsC (gN 6) gsN)))) (eOp oIx (eV 0) (eK (.str "size")))) (sSeq (sAs (gT (gsC (gN 7) (gsC (gN 8) gsN))) (eTup (aC (eLcN (iSeq (eOp oIx (eV 0) (eK (.str "pieces")))) (gN 10) tYs (eK .non) [10]) (aC (eLst aN) aN)))) (sSeq (sFor (iSeq (eLst (aC (eK (.str "truck")) (aC (eK (.str "cloth")) aN)))) (gN 3) (sFor (iEn (aC (eOp oIx (eV 0) (eK (.str "pieces"))) aN)) (gT (gsC (gN 9) (gsC (gN 10) gsN))) (bodySc cs))) (sSeq (sCl 7) (sRt (eB fTuple (aC (eV 7) aN))))))) _ _ = _
    generalize (sFor (iEn (aC (eOp oIx (eV 0) (eK (.str "pieces"))) aN)) (gT (gsC (gN 9) (gsC (gN 10) gsN))) (bodySc cs)) = body at e1 e2 ⊢
    simp [env0, kdD, tb_size, tb_pieces, hl9, wipeE, hn, forL, hidx, hset, fTuple, scD, Function.comp_def, fD] at e1 e2 ⊢
    simp [e1, e2, hidx, hset, fTuple]
  show gcR S _ = _
  rw [hrun, gcR_ok ((Good.set (Good.refl S) fun _ => noRefC_dice k2).app2 _) (noRef_sc _ _)]
  congr 1
  have : (S.set i c2).length = S.length := List.length_set
  rw [← this, List.take_left]
end SF

namespace SF
open PySem L2
/-! ### how many differ -/
theorem dedup_len : ∀ (ns acc : List Int), (ns.foldl PyProof.Rows.step_dedup acc).length ≤ acc.length + ns.length ∧ ((ns.foldl PyProof.Rows.step_dedup acc).length = acc.length + ns.length ↔ ns.Nodup ∧ ∀ v ∈ ns, v ∉ acc)
  | [], acc => by simp
  | k :: r, acc => by
    rw [List.foldl_cons]
    have ha : acc.any (· == k) = decide (k ∈ acc) := by
      by_cases h : k ∈ acc
      · rw [decide_eq_true h, List.any_eq_true]; exact ⟨k, h, by simp⟩
      · rw [decide_eq_false h, List.any_eq_false]; intro x hx; simp only [beq_iff_eq]; rintro rfl; exact h hx
    by_cases h : k ∈ acc
    · have e : PyProof.Rows.step_dedup acc k = acc := by unfold PyProof.Rows.step_dedup; rw [ha, decide_eq_true h]; rfl
      rw [e]
      obtain ⟨h1, _⟩ := dedup_len r acc
      refine ⟨by rw [List.length_cons]; omega, ⟨fun z => ?_, fun z => absurd h (z.2 k List.mem_cons_self)⟩⟩
      rw [List.length_cons] at z; omega
    · have e : PyProof.Rows.step_dedup acc k = acc ++ [k] := by unfold PyProof.Rows.step_dedup; rw [ha, decide_eq_false h]; rfl
      rw [e]
      obtain ⟨h1, h2⟩ := dedup_len r (acc ++ [k])
      rw [List.length_append, List.length_singleton] at h1 h2
      rw [List.length_cons]
      refine ⟨by omega, ?_⟩
      rw [show acc.length + (r.length + 1) = acc.length + 1 + r.length by omega, h2, List.nodup_cons]
      constructor
      · rintro ⟨a, b⟩
        exact ⟨⟨fun hk => b k hk (by simp), a⟩, fun v hv => by
          rcases List.mem_cons.mp hv with rfl | hv
          · exact h
          · exact fun hh => b v hv (List.mem_append_left _ hh)⟩
      · rintro ⟨⟨a, b⟩, c⟩
        refine ⟨b, fun v hv hh => ?_⟩
        rcases List.mem_append.mp hh with hh | hh
        · exact c v (List.mem_cons_of_mem _ hv) hh
        · have : v = k := by simpa using hh
          subst this; exact a hv
theorem distinct_iff (ns : List Int) : distinctN ns = ns.length ↔ ns.Nodup := by
  have e : ((List.range ns.length).map fun i => ns.getD i 0) = ns := by
    refine List.ext_getElem? fun n => ?_
    rw [List.getElem?_map]
    by_cases h : n < ns.length
    · rw [List.getElem?_range h]; simp [h]
    · rw [List.getElem?_eq_none (by simpa using h), List.getElem?_eq_none (by omega)]; rfl
  unfold distinctN PyProof.Rows.firstMet
  rw [e]
  have := (dedup_len ns []).2
  simpa using this
theorem intsOf_pls (xs : List (Option Int)) : intsOf (xs.map plD) = xs.filterMap id := by
  induction xs with
  | nil => rfl
  | cons x r ih => cases x <;> simp [plD, ih]
/-- in a row of places no number stands twice -/
def apartP (xs : List (Option Int)) : Prop := ∀ (n m : Nat) v, xs[n]? = some (some v) → xs[m]? = some (some v) → n = m
theorem nodup_iff (xs : List (Option Int)) : (xs.filterMap id).Nodup ↔ apartP xs := by
  unfold List.Nodup
  rw [List.pairwise_filterMap, List.pairwise_iff_getElem]
  constructor
  · intro h n m v h1 h2
    obtain ⟨l1, e1⟩ := List.getElem?_eq_some_iff.mp h1
    obtain ⟨l2, e2⟩ := List.getElem?_eq_some_iff.mp h2
    rcases Nat.lt_trichotomy n m with z | z | z
    · exact absurd rfl (h n m l1 l2 z v e1 v e2)
    · exact z
    · exact absurd rfl (h m n l2 l1 z v e2 v e1)
  · intro h i j hi hj hij b hb b' hb' e
    subst e
    have := h i j b (List.getElem?_eq_some_iff.mpr ⟨hi, hb⟩) (List.getElem?_eq_some_iff.mpr ⟨hj, hb'⟩)
    omega
theorem mayBe_pl (t : Tb) (p : Pc) (x : Option Int) : mayBe t.ho p (plD x) = true ↔ PlOk t.w t.g p x := by
  cases p with
  | cl l b h =>
    cases x with
    | none => simp [mayBe, plD, isUp, PlOk]
    | some v => simp [mayBe, plD, isUp, isNum, PlOk]; omega
  | tr b h =>
    cases x with
    | none => simp [mayBe, plD, isNum, PlOk]
    | some v => simp [mayBe, plD, isNum, PlOk, Tb.ho]; omega
theorem isScene_iff (t : Tb) (xs : List (Option Int)) : isScene t.ho (scD xs) = true ↔ ScOk t xs := by
  have hd : distinctN (intsOf (xs.map plD)) = (intsOf (xs.map plD)).length ↔ apartP xs := by
    rw [distinct_iff, intsOf_pls, nodup_iff]
  show (decide ((xs.map plD).length = t.ps.length) && (List.zipWith (mayBe t.ho) t.ps (xs.map plD)).all id && decide (distinctN (intsOf (xs.map plD)) = (intsOf (xs.map plD)).length)) = true ↔ _
  rw [Bool.and_eq_true, Bool.and_eq_true, decide_eq_true_eq, decide_eq_true_eq, List.length_map, hd]
  constructor
  · rintro ⟨⟨h1, h2⟩, h3⟩
    refine ⟨h1, fun n p x hp hx => ?_, h3⟩
    have : (List.zipWith (mayBe t.ho) t.ps (xs.map plD))[n]? = some (mayBe t.ho p (plD x)) := by
      rw [List.getElem?_zipWith, hp, List.getElem?_map, hx]; rfl
    exact (mayBe_pl t p x).mp (List.all_eq_true.mp h2 _ (List.mem_of_getElem? this))
  · rintro ⟨h1, h2, h3⟩
    refine ⟨⟨h1, ?_⟩, h3⟩
    rw [List.all_eq_true]
    intro b hb
    obtain ⟨n, hn⟩ := List.getElem?_of_mem hb
    rw [List.getElem?_zipWith, List.getElem?_map] at hn
    cases hp : t.ps[n]? with
    | none => rw [hp] at hn; cases hn
    | some p =>
      cases hx : xs[n]? with
      | none => rw [hp, hx] at hn; cases hn
      | some x =>
        rw [hp, hx] at hn
        simp at hn
        rw [← hn]
        exact (mayBe_pl t p x).mpr (h2 n p x hp hx)
theorem eqF_pl (x y : Option Int) : eqF (plD y) (plD x) = decide (y = x) := by
  cases x <;> cases y <;> simp [eqF, plD] <;> rfl
theorem oIn_pls (neg : Bool) (x : Option Int) (ys : List (Option Int)) (d : D) (S : Sto) (hd : d = .lst (ys.map plD) ∨ d = .tup (ys.map plD)) : oIn neg (plD x) d S = .ok (.bl (neg ^^ decide (x ∈ ys))) S := by
  have h1 : (ys.map plD).all flatD = true := by
    rw [List.all_eq_true]; intro d hd; obtain ⟨i, _, rfl⟩ := List.mem_map.mp hd; cases i <;> rfl
  have h2 : ((ys.map plD).any fun y => eqF y (plD x)) = decide (x ∈ ys) := by
    rw [List.any_map]
    by_cases h : x ∈ ys
    · rw [decide_eq_true h, List.any_eq_true]; exact ⟨x, h, by simp [eqF_pl]⟩
    · rw [decide_eq_false h, List.any_eq_false]
      intro z hz
      simp only [Function.comp, eqF_pl, decide_eq_true_eq]
      rintro rfl; exact h hz
  have h3 : flatD (plD x) = true := by cases x <;> rfl
  rcases hd with rfl | rfl
  · simp only [oIn, getD_lst, getQ_lst, h1, h2, h3]; rfl
  · simp only [oIn, getD_tup, getQ_tup, h1, h2, h3]; rfl
theorem forL_all {g : Tgt} {b : Stm} {chk : Sto → Prop} {v : D} {S : Sto} (ok : Nat → Bool) (I : En → Prop) : ∀ (items : List D) (k : Nat) (en : En), I en →
    (∀ (j : Nat) d en, items[j]? = some d → I en → ∃ en1, g d en = some en1 ∧ (ok (k + j) = true → ∃ en2, b en1 S = .nx en2 S ∧ chk S ∧ I en2) ∧ (ok (k + j) = false → b en1 S = .rt v S)) →
    ((∀ j, j < items.length → ok (k + j) = true) → ∃ en', forL g b chk items en S = .nx en' S ∧ I en') ∧ ((∃ j, j < items.length ∧ ok (k + j) = false) → forL g b chk items en S = .rt v S)
  | [], k, en, h, _ => ⟨fun _ => ⟨en, rfl, h⟩, fun ⟨j, hj, _⟩ => absurd hj (Nat.not_lt_zero _)⟩
  | d :: r, k, en, h, st => by
    obtain ⟨en1, h1, h2, h3⟩ := st 0 d en rfl h
    have more := fun en2 (hI : I en2) => forL_all (g := g) (b := b) (chk := chk) (v := v) (S := S) ok I r (k + 1) en2 hI fun j d' en' hj hI' => by
      have := st (j + 1) d' en' (by simpa using hj) hI'
      rwa [show k + (j + 1) = k + 1 + j by omega] at this
    rw [Nat.add_zero] at h2 h3
    constructor
    · intro hall
      obtain ⟨en2, e2, c2, I2⟩ := h2 (by have := hall 0 (by simp); simpa using this)
      obtain ⟨en', e', I'⟩ := (more en2 I2).1 fun j hj => by
        have := hall (j + 1) (by simpa using hj)
        rwa [show k + (j + 1) = k + 1 + j by omega] at this
      refine ⟨en', ?_, I'⟩
      unfold forL
      rw [h1]; dsimp only; rw [e2]; dsimp only; rw [if_pos c2]; exact e'
    · rintro ⟨j, hj, hb⟩
      unfold forL
      rw [h1]
      dsimp only
      cases hk : ok k with
      | false => rw [h3 hk]
      | true =>
        obtain ⟨en2, e2, c2, I2⟩ := h2 hk
        rw [e2]; dsimp only; rw [if_pos c2]
        refine (more en2 I2).2 ?_
        cases j with
        | zero => rw [Nat.add_zero, hk] at hb; cases hb
        | succ j => exact ⟨j, by simpa using hj, by rwa [show k + (j + 1) = k + 1 + j by omega] at hb⟩
/-- _law_is_scene(table, thing); slots table thing lines slots hands at place piece good -/
noncomputable def m_law_is_scene (cs : Cs) : Stm :=
  (sSeq (sAs (gT (gsC (gN 2) (gsC (gN 3) (gsC (gN 4) gsN)))) (eOp oIx (eV 0) (eK (.str "size")))) (sSeq (sIf (tV (eOp (oEqN true) (eB fLen (aC (eV 1) aN)) (eB fLen (aC (eOp oIx (eV 0) (eK (.str "pieces"))) aN)))) (sRt (eK (.bl false))) sNx) (sSeq (sFor (iEn (aC (eV 1) aN)) (gT (gsC (gN 5) (gsC (gN 6) gsN))) (sSeq (sAs (gN 7) (eOp oIx (eOp oIx (eV 0) (eK (.str "pieces"))) (eV 5))) (sSeq (sAs (gN 8) (eIf (tV (eOp (oEqN false) (eOp oIx (eV 7) (eK (.int 0))) (eK (.str "truck")))) (eRgL (iR1 (aC (eOp oAdd (eV 2) (eV 3)) aN))) (eLst (aC (eK (.str "up")) (aC (eOp oIx (eV 7) (eK (.int 1))) aN))))) (sIf (tOrr (tV (eOp (oIn true) (eV 6) (eV 8))) (tAn (tV (eOp (oEqN true) (eV 6) (eK (.str "up")))) (tV (eOp (oIn false) (eV 6) (eSl (eV 1) none (some (eV 5))))))) (sRt (eK (.bl false))) sNx)))) (sRt (eK (.bl true))))))
/-- the run itself -/
noncomputable def f_law_is_scene (cs : Cs) : List D → Sto → R D := fun ds S => runB (m_law_is_scene cs) 9 ds S
open Classical in
theorem law_is_scene_ok (cs : Cs) {t : Tb} {xs : List (Option Int)} {S : Sto} (ht : TOk t) (hx : xs.length ≤ 1000) : f_law_is_scene cs [t.d, scD xs] S = .ok (.bl (isScene t.ho (scD xs))) S := by
  obtain ⟨w1, w2⟩ := ht.w
  obtain ⟨g1, g2⟩ := ht.g
  refine runB_rt ?_
  obtain ⟨m, hm⟩ : ∃ m : Nat, t.w + t.g = (m : Int) := ⟨(t.w + t.g).toNat, by omega⟩
  by_cases hl : xs.length = t.ps.length
  · obtain ⟨h1, h2⟩ := forL_all (g := gT (gsC (gN 5) (gsC (gN 6) gsN))) (chk := fun _ => True) (v := .bl false) (S := S)
      (b := (sSeq (sAs (gN 7) (eOp oIx (eOp oIx (eV 0) (eK (.str "pieces"))) (eV 5))) (sSeq (sAs (gN 8) (eIf (tV (eOp (oEqN false) (eOp oIx (eV 7) (eK (.int 0))) (eK (.str "truck")))) (eRgL (iR1 (aC (eOp oAdd (eV 2) (eV 3)) aN))) (eLst (aC (eK (.str "up")) (aC (eOp oIx (eV 7) (eK (.int 1))) aN))))) (sIf (tOrr (tV (eOp (oIn true) (eV 6) (eV 8))) (tAn (tV (eOp (oEqN true) (eV 6) (eK (.str "up")))) (tV (eOp (oIn false) (eV 6) (eSl (eV 1) none (some (eV 5))))))) (sRt (eK (.bl false))) sNx))))
      (fun j => decide (∀ p x, t.ps[j]? = some p → xs[j]? = some x → PlOk t.w t.g p x ∧ ∀ v, x = some v → x ∉ xs.take j))
      (fun en => ∃ x5 x6 x7 x8, en = [some t.d, some (scD xs), some (.int t.w), some (.int t.g), some (.int t.c), x5, x6, x7, x8])
      ((xs.map plD).zipIdx.map fun p => D.tup [.int (p.2 : Nat), p.1]) 0 [some t.d, some (scD xs), some (.int t.w), some (.int t.g), some (.int t.c), none, none, none, none] ⟨_, _, _, _, rfl⟩ (by
        rintro j d en hj ⟨x5, x6, x7, x8, rfl⟩
        rw [List.getElem?_map, List.getElem?_zipIdx, List.getElem?_map] at hj
        cases hq : xs[j]? with
        | none => rw [hq] at hj; cases hj
        | some x =>
          rw [hq] at hj
          simp only [Option.map_some, Option.some.injEq, Nat.zero_add] at hj
          subst hj
          have hjl : j < xs.length := (List.getElem?_eq_some_iff.mp hq).1
          have hp : t.ps[j]? = some t.ps[j] := List.getElem?_eq_getElem (by omega)
          obtain ⟨p, hpe⟩ : ∃ p, t.ps[j] = p := ⟨_, rfl⟩
          rw [hpe] at hp
          refine ⟨_, rfl, ?_⟩
          rw [Nat.zero_add]
          have hat : oIx (.lst (t.ps.map Pc.d)) (.int (j : Nat)) S = .ok p.d S := by
            rw [oIx_lst, atI_nat (v := p.d) (by rw [List.getElem?_map, hp]; rfl)]
          have hcut : cutD (xs.map plD) none (some (j : Int)) = (xs.take j).map plD := by
            have hs : HT.sIx xs.length xs.length (some (j : Int)) = j := by rw [HT.sIx_nat]; omega
            have hs0 : HT.sIx xs.length 0 none = 0 := rfl
            unfold cutD
            rw [List.length_map, hs, hs0, List.drop_zero, Nat.sub_zero, List.map_take]
          have hin2 : oIn false (plD x) (.tup ((xs.take j).map plD)) S = _ := oIn_pls false x (xs.take j) _ S (.inr rfl)
          rw [List.map_take] at hin2
          have hup : oEqN true (plD x) (.str "up") S = .ok (.bl (decide (x ≠ none))) S := by
            cases x with
            | none => simp [plD, oEqN_str _ _ _ ok_up ok_up]
            | some v => simp [plD, oEqN_int_str _ _ _ ok_up]
          have hfr : ∃ fr : List (Option Int), (∀ y, y ∈ fr ↔ PlOk t.w t.g p y) ∧ ∀ x6 x8 : Option D, (sAs (gN 8) (eIf (tV (eOp (oEqN false) (eOp oIx (eV 7) (eK (.int 0))) (eK (.str "truck")))) (eRgL (iR1 (aC (eOp oAdd (eV 2) (eV 3)) aN))) (eLst (aC (eK (.str "up")) (aC (eOp oIx (eV 7) (eK (.int 1))) aN))))) [some t.d, some (scD xs), some (.int t.w), some (.int t.g), some (.int t.c), some (.int j), x6, some p.d, x8] S =
              .nx [some t.d, some (scD xs), some (.int t.w), some (.int t.g), some (.int t.c), some (.int j), x6, some p.d, some (.lst (fr.map plD))] S := by
            cases p with
            | cl l b hh =>
              refine ⟨[none, some l], fun y => by simp [PlOk], fun x6 x8 => ?_⟩
              simp [Pc.d, oIx_tup, oEqN_str _ _ _ ok_cloth ok_truck, cloth_ne, plD]
            | tr b hh =>
              refine ⟨(List.range m).map fun j : Nat => some (0 + (j : Int)), fun y => ?_, fun x6 x8 => ?_⟩
              · rw [List.mem_map]
                constructor
                · rintro ⟨k, hk, rfl⟩
                  have := List.mem_range.mp hk
                  exact ⟨_, rfl, by omega, by omega⟩
                · rintro ⟨k, rfl, h0, h1⟩
                  exact ⟨k.toNat, List.mem_range.mpr (by omega), by congr 1; omega⟩
              · have hr : rngD 0 m = ((List.range m).map fun j : Nat => some (0 + (j : Int))).map plD := by
                  rw [List.map_map]; rfl
                have hat : atI [D.str "truck", D.int b, D.int hh] 0 = some (.str "truck") := rfl
                simp only [ap_tV, ap_eOp, ap_eV, ap_eK, ap_sAs, ap_eIf, Pc.d, oIx_tup, List.getElem?_cons_zero, List.getElem?_cons_succ, R.bind_ok, hat, oEqN_str _ _ _ ok_truck ok_truck, decide_true, Bool.false_xor, ap_toB, R.thenS_ok, ap_eRgL, ap_iR1, ap_aC, ap_aN, oAdd_int, hm, Int.toNat_natCast, hr, ap_gN, List.set_cons_succ, List.set_cons_zero, List.length_map, List.length_range,
                  if_pos (show -1000000 ≤ (m : Int) ∧ (m : Int) ≤ 1000000 by omega), if_pos (show m ≤ 100000 by omega)]
          obtain ⟨fr, hfr, hrun⟩ := hfr
          have hin1 : oIn true (plD x) (.lst (fr.map plD)) S = _ := oIn_pls true x fr _ S (.inl rfl)
          have hin1' : decide (x ∈ fr) = decide (PlOk t.w t.g p x) := decide_eq_decide.mpr (hfr x)
          rw [hin1'] at hin1
          have iff1 : (∀ p' x', t.ps[j]? = some p' → xs[j]? = some x' → PlOk t.w t.g p' x' ∧ ∀ v, x' = some v → x' ∉ xs.take j) ↔ PlOk t.w t.g p x ∧ (x ≠ none → x ∉ xs.take j) := by
            rw [hp, hq]
            constructor
            · intro h
              obtain ⟨a, b⟩ := h p x rfl rfl
              exact ⟨a, fun hne => by
                cases x with
                | none => exact absurd rfl hne
                | some v => exact b v rfl⟩
            · rintro ⟨a, b⟩ p' x' e1 e2
              cases e1; cases e2
              exact ⟨a, fun v e => b (by rw [e]; simp)⟩
          constructor
          · intro hok
            rw [decide_eq_true_eq, iff1] at hok
            refine ⟨[some t.d, some (scD xs), some (.int t.w), some (.int t.g), some (.int t.c), some (.int j), some (plD x), some p.d, some (.lst (fr.map plD))], ?_, trivial, ⟨_, _, _, _, rfl⟩⟩
            rw [ap_sSeq]
            simp only [ap_sAs, ap_eOp, ap_eV, ap_eK, List.getElem?_cons_zero, List.getElem?_cons_succ, R.bind_ok, tb_pieces, List.set_cons_succ, List.set_cons_zero, hat, R.thenS_ok, ap_gN, RS.andThen_nx]
            rw [ap_sSeq, hrun _ _]
            simp only [RS.andThen_nx, ap_sIf, ap_tOrr, ap_tV, ap_tAn, ap_eOp, ap_eV, ap_eK, List.getElem?_cons_zero, List.getElem?_cons_succ, R.bind_ok, hin1, decide_eq_true hok.1, Bool.true_xor, Bool.not_true, ap_toB, hup, R.thenS_ok]
            by_cases hne : x = none
            · simp [hne]
            · simp [hne, scD, hcut, hin2, hok.2 hne]
          · intro hok
            rw [decide_eq_false_iff_not, iff1] at hok
            rw [ap_sSeq]
            simp only [ap_sAs, ap_eOp, ap_eV, ap_eK, List.getElem?_cons_zero, List.getElem?_cons_succ, R.bind_ok, tb_pieces, List.set_cons_succ, List.set_cons_zero, hat, R.thenS_ok, ap_gN, RS.andThen_nx]
            rw [ap_sSeq, hrun _ _]
            simp only [RS.andThen_nx, ap_sIf, ap_tOrr, ap_tV, ap_tAn, ap_eOp, ap_eV, ap_eK, List.getElem?_cons_zero, List.getElem?_cons_succ, R.bind_ok, hin1, ap_toB, hup, R.thenS_ok]
            by_cases h1 : PlOk t.w t.g p x
            · have hne : x ≠ none := fun e => hok ⟨h1, fun h => absurd e h⟩
              have hmem : x ∈ xs.take j := Classical.byContradiction fun h => hok ⟨h1, fun _ => h⟩
              simp [h1, hne, scD, hcut, hin2, hmem]
            · simp [h1])
    rw [List.length_map, List.length_zipIdx, List.length_map] at h1 h2
    have hlI : ((xs.length : Nat) : Int) = ((t.ps.length : Nat) : Int) := by omega
    by_cases hs : isScene t.ho (scD xs) = true
    · have hsc := (isScene_iff t xs).mp hs
      obtain ⟨en', e, _, _, _, _, rfl⟩ := h1 fun j hj => decide_eq_true fun p x hp hx => ⟨hsc.ok _ p x hp hx, fun v hv hm => by
        rw [Nat.zero_add] at hx hm
        obtain ⟨n, hn⟩ := List.getElem?_of_mem hm
        have hnj : n < j := by have := (List.getElem?_eq_some_iff.mp hn).1; rw [List.length_take] at this; omega
        rw [List.getElem?_take_of_lt hnj] at hn
        subst hv
        have := hsc.apart n j v hn hx
        omega⟩
      rw [hs]
      simp [m_law_is_scene, env0, tb_size, tb_pieces, scD, oEqN_int, hlI] at e ⊢
      simp [e]
    · have e := h2 (by
        apply Classical.byContradiction
        intro hno
        apply hs
        rw [isScene_iff]
        have hall : ∀ j, j < xs.length → ∀ p x, t.ps[j]? = some p → xs[j]? = some x → PlOk t.w t.g p x ∧ ∀ v, x = some v → x ∉ xs.take j := fun j hj => by
          apply Classical.byContradiction
          intro hc
          exact hno ⟨j, hj, by rw [Nat.zero_add]; exact decide_eq_false hc⟩
        have key : ∀ n m v, n < m → xs[n]? = some (some v) → xs[m]? = some (some v) → False := fun n m v hnm h1 h2 => by
          have hml : m < xs.length := (List.getElem?_eq_some_iff.mp h2).1
          have := (hall m hml t.ps[m] (some v) (List.getElem?_eq_getElem (by omega)) h2).2 v rfl
          refine this (List.mem_of_getElem? (i := n) ?_)
          rw [List.getElem?_take_of_lt hnm, h1]
        refine ⟨hl, fun n p x hp hx => (hall n (List.getElem?_eq_some_iff.mp hx).1 p x hp hx).1, fun n m v h1 h2 => ?_⟩
        rcases Nat.lt_trichotomy n m with z | z | z
        · exact (key n m v z h1 h2).elim
        · exact z
        · exact (key m n v z h2 h1).elim)
      rw [Bool.not_eq_true] at hs
      rw [hs]
      simp [m_law_is_scene, env0, tb_size, tb_pieces, scD, oEqN_int, hlI] at e ⊢
      simp [e]
  · have hs : isScene t.ho (scD xs) = false := by
      simp [isScene, scD, Tb.ho, hl]
    rw [hs]
    have hl' : ¬ (((xs.length : Nat) : Int) = ((t.ps.length : Nat) : Int)) := by omega
    simp [m_law_is_scene, env0, tb_size, tb_pieces, scD, oEqN_int, hl']
end SF

namespace SF
open PySem L2
/-! ### turns whose cells are dropped -/
def kp (n : Nat) (o : Option D) : Option D := o.bind fun d => if noRef n d = true then some d else none
theorem kp_some {n : Nat} {d : D} (h : noRef n d = true) : kp n (some d) = some d := by simp [kp, h]
@[simp] theorem kp_none {n : Nat} : kp n none = none := rfl
theorem sGc_nx {m : Stm} {en en2 : En} {S S2 : Sto} (h : m en S = .nx en2 S2) (g : Good S S2) : sGc m en S = .nx (en2.map (kp S.length)) (S2.take S.length) := by
  unfold sGc
  rw [h]
  dsimp only
  rw [if_pos g]
  congr 1
theorem noRef_ref {n i : Nat} (h : i < n) : noRef n (.ref i) = true := decide_eq_true h
theorem HAt.up {cs : Cs} {S : Sto} {ho : Ho} {i : Nat} (c : Cell) (T : Sto) (hi : i < S.length) : HAt cs ((S ++ hCells cs ho S.length).set i c ++ T) S.length (S.length + 1) ho := by
  have h := hCells_at cs ho S []
  rw [List.append_nil] at h
  have h1 : i ≠ S.length := by omega
  have h2 : i ≠ S.length + 1 := by omega
  exact ⟨gx_neapp h.own h1 c T, gx_neapp h.stk h2 c T⟩
theorem thingOk_sc (xs : List (Option Int)) : thingOk (scD xs) = true := by
  show (xs.map plD).all _ = true
  rw [List.all_eq_true]
  intro d hd
  obtain ⟨x, _, rfl⟩ := List.mem_map.mp hd
  cases x <;> simp [plD, plainD, okStr, ok_up]
theorem is_scene_run {cs : Cs} {S : Sto} {i j : Nat} {ho : Ho} {x : D} (h : HAt cs S i j ho) (hl : ho.ps.length ≤ 1000) (hx : thingOk x = true) : f_House_is_scene cs [.ref i, x] S = .ok (.bl (isScene ho x)) S := by
  unfold f_House_is_scene
  simp only [houseOf_eq h]
  rw [if_pos ⟨hl, hx⟩]
theorem ins_is {cs : Cs} {S : Sto} {i j : Nat} {ho : Ho} (h : HAt cs S i j ho) : isIns cs.House "is_scene" S (.ref i) = true := h.ins _ (by decide +kernel) (by decide +kernel)
/-! ### k12's law -/
noncomputable def tail12 (cs : Cs) : Stm :=
  (sSeq (sAs (gN 8) (eMeth cs.House "is_scene" 2 (f_House_is_scene cs) [] (eV 5) (aC (eB fTuple (aC (eV 9) aN)) aN))) (sIf (tOrr (tNo (tV (eIsT .bool (eV 8)))) (tV (eOp (oEqN true) (eV 8) (eCall 2 (f_law_is_scene cs) [] (aC (eV 2) (aC (eB fTuple (aC (eV 9) aN)) aN)))))) (sRt (eK (.bl false))) sNx))
noncomputable def turn12 (cs : Cs) : Stm :=
  (sSeq (sPar 9 10 (aC (eB fListN (aC (eV 6) aN)) (aC (eCall 2 (f_law_roll cs) [] (aC (eV 1) (aC (eK (.int 5)) aN))) aN))) (sSeq (sPar 11 12 (aC (eCall 2 (f_law_roll cs) [] (aC (eV 1) (aC (eB fLen (aC (eV 9) aN)) aN))) (aC (eCall 2 (f_law_roll cs) [] (aC (eV 1) (aC (eB fLen (aC (eV 9) aN)) aN))) aN))) (sSeq (sAs (gN 7) (eOp oSub (eCall 2 (f_law_roll cs) [] (aC (eV 1) (aC (eOp oAdd (eOp oAdd (eOp oIx (eOp oIx (eV 2) (eK (.str "size"))) (eK (.int 0))) (eOp oIx (eOp oIx (eV 2) (eK (.str "size"))) (eK (.int 1)))) (eK (.int 2))) aN))) (eK (.int 1)))) (sSeq (sIf (tV (eOp oLt (eV 10) (eK (.int 3)))) (sSetL (eV 9) (eV 11) (eOp oIx (eLst (aC (eV 7) (aC (eK (.str "up")) (aC (eV 7) aN)))) (eV 10))) sNx) (sSeq (sIf (tV (eOp (oEqN false) (eV 10) (eK (.int 3)))) (sSw (eTup (aC (eOp oIx (eV 9) (eV 12)) (aC (eOp oIx (eV 9) (eV 11)) aN))) (eV 9) (eV 11) (eV 9) (eV 12)) sNx) (sSeq (sIf (tV (eOp (oEqN false) (eV 10) (eK (.int 4)))) (sAs (gN 9) (eOp oAdd (eSl (eV 9) (some (eK (.int 1))) none) (eOp oRep (eLst (aC (eV 7) aN)) (eCall 2 (f_law_roll cs) [] (aC (eV 1) (aC (eK (.int 3)) aN)))))) sNx) (tail12 cs)))))))
theorem tail12_ok (cs : Cs) {S : Sto} {t : Tb} {hi hj : Nat} {xs : List (Option Int)} {e0 e1 e3 e4 e6 e7 e8 e10 e11 e12 e13 : Option D} {d9 : D} (ht : TOk t) (h : HAt cs S hi hj t.ho) (hq : fTuple [d9] S = .ok (scD xs) S) (hx : xs.length ≤ 1000) :
    ∃ y8, tail12 cs [e0, e1, some t.d, e3, e4, some (.ref hi), e6, e7, e8, some d9, e10, e11, e12, e13] S = .nx [e0, e1, some t.d, e3, e4, some (.ref hi), e6, e7, y8, some d9, e10, e11, e12, e13] S := by
  refine ⟨some (.bl (isScene t.ho (scD xs))), ?_⟩
  have hl := ht.len.2
  simp [tail12, hq, ins_is h, is_scene_run h (show t.ho.ps.length ≤ 1000 by show t.ps.length ≤ 1000; omega) (thingOk_sc xs), isTy, law_is_scene_ok cs ht hx, oEqN_bl]
theorem turn12_ok (cs : Cs) {S : Sto} {i : Nat} {c : Cell} {t : Tb} {sc : List (Option Int)} {e0 e3 e4 e7 e8 e9 e10 e11 e12 e13 : Option D} (hi : i < S.length) (hc : IsDice c) (ht : TOk t) (hsc : ScOk t sc) :
    ∃ (c' : Cell) (T : Sto) (y7 y8 y9 y10 y11 y12 : Option D), turn12 cs [e0, some (.ref i), some t.d, e3, e4, some (.ref S.length), some (scD sc), e7, e8, e9, e10, e11, e12, e13] ((S ++ hCells cs t.ho S.length).set i c) =
      .nx [e0, some (.ref i), some t.d, e3, e4, some (.ref S.length), some (scD sc), y7, y8, y9, y10, y11, y12, e13] ((S ++ hCells cs t.ho S.length).set i c' ++ T) ∧ IsDice c' := by
  obtain ⟨B, hB⟩ : ∃ B, B = S ++ hCells cs t.ho S.length := ⟨_, rfl⟩
  have hiB : i < B.length := by rw [hB, List.length_append]; omega
  have h : B[i]? = some B[i] := List.getElem?_eq_getElem hiB
  have hup : ∀ c T, HAt cs (B.set i c ++ T) S.length (S.length + 1) t.ho := fun c T => by rw [hB]; exact HAt.up c T hi
  rw [← hB]
  obtain ⟨w1, w2⟩ := ht.w
  obtain ⟨g1, g2⟩ := ht.g
  obtain ⟨l1, l2⟩ := ht.len
  have hL : sc.length = t.ps.length := hsc.len
  have hbl : (B.set i c).length = B.length := List.length_set
  have hidx : ∀ (c : Cell) (ds : List D), (B.set i c ++ [Cell.lst ds])[B.length]? = some (.lst ds) := fun c ds => by
    have : (B.set i c).length = B.length := List.length_set
    rw [← this]; exact gx_last []
  have hset : ∀ (c : Cell) (ds es : List D), (B.set i c ++ [Cell.lst ds]).set B.length (.lst es) = B.set i c ++ [Cell.lst es] := fun c ds es => by
    have : (B.set i c).length = B.length := List.length_set
    rw [← this]; exact gs_last _
  obtain ⟨r1, c1, q1, k1, a1, b1⟩ := roll_app cs [.lst (sc.map plD)] h hc (show (0 : Int) < 5 by decide) (by decide)
  obtain ⟨r2, c2, q2, k2, a2, b2⟩ := roll_app cs [.lst (sc.map plD)] h k1 (show (0 : Int) < (sc.length : Int) by omega) (by omega)
  obtain ⟨r3, c3, q3, k3, a3, b3⟩ := roll_app cs [.lst (sc.map plD)] h k2 (show (0 : Int) < (sc.length : Int) by omega) (by omega)
  obtain ⟨r4, c4, q4, k4, a4, b4⟩ := roll_app cs [.lst (sc.map plD)] h k3 (show (0 : Int) < t.w + t.g + 2 by omega) (by omega)
  obtain ⟨a, rfl⟩ : ∃ a : Nat, r2 = (a : Int) := ⟨r2.toNat, by omega⟩
  obtain ⟨k, rfl⟩ : ∃ k : Nat, r3 = (k : Int) := ⟨r3.toNat, by omega⟩
  have hal : a < sc.length := by omega
  have hkl : k < sc.length := by omega
  have hfl : ∀ c, fLen [.ref B.length] (B.set i c ++ [.lst (sc.map plD)]) = .ok (.int sc.length) (B.set i c ++ [.lst (sc.map plD)]) := fun c => by rw [fLen_ref (hidx c _), List.length_map]
  have hixa : ixN sc.length (a : Int) = some a := by simp [ixN]; omega
  have hixk : ixN sc.length (k : Int) = some k := by simp [ixN]; omega
  have hsc0 : scD sc = .tup (sc.map plD) := rfl
  -- behind the draws
  have fin : ∀ (xs : List (Option Int)) (e7 e8 e10 e11 e12 : Option D) (c' : Cell) (d9 : D) (ds : List D), xs.length ≤ 1000 → fTuple [d9] (B.set i c' ++ [.lst ds]) = .ok (scD xs) (B.set i c' ++ [.lst ds]) → IsDice c' →
      ∃ (c'' : Cell) (T : Sto) (y7 y8 y9 y10 y11 y12 : Option D), tail12 cs [e0, some (.ref i), some t.d, e3, e4, some (.ref S.length), some (scD sc), e7, e8, some d9, e10, e11, e12, e13] (B.set i c' ++ [.lst ds]) =
      .nx [e0, some (.ref i), some t.d, e3, e4, some (.ref S.length), some (scD sc), y7, y8, y9, y10, y11, y12, e13] (B.set i c'' ++ T) ∧ IsDice c'' := by
    intro xs e7 e8 e10 e11 e12 c' d9 ds hxl hq kc
    obtain ⟨y8, e⟩ := tail12_ok cs (e0 := e0) (e1 := some (.ref i)) (e3 := e3) (e4 := e4) (e6 := some (scD sc)) (e7 := e7) (e8 := e8) (e10 := e10) (e11 := e11) (e12 := e12) (e13 := e13) ht (hup c' _) hq hxl
    exact ⟨c', _, _, _, _, _, _, _, e, kc⟩
  have hft : ∀ (c : Cell) (xs : List (Option Int)), fTuple [.ref B.length] (B.set i c ++ [.lst (xs.map plD)]) = .ok (scD xs) (B.set i c ++ [.lst (xs.map plD)]) := fun c xs => by
    simp only [fTuple, getQ_ref (hidx c _)]; rfl
  have hsl : sc.length ≤ 1000 := by omega
  by_cases hw : r1 < 3
  · have hy : ∃ y : Option Int, ∀ S1, oIx (.lst [.int (r4 - 1), .str "up", .int (r4 - 1)]) (.int r1) S1 = .ok (plD y) S1 := by
      rcases (show r1 = 0 ∨ r1 = 1 ∨ r1 = 2 by omega) with rfl | rfl | rfl
      · exact ⟨some (r4 - 1), fun S1 => by simp [oIx_lst, plD]⟩
      · exact ⟨none, fun S1 => by simp [oIx_lst, plD]⟩
      · exact ⟨some (r4 - 1), fun S1 => by simp [oIx_lst, plD]⟩
    obtain ⟨y, hy⟩ := hy
    have h3 : ¬ (r1 = 3) := by omega
    have h4 : ¬ (r1 = 4) := by omega
    obtain ⟨c'', T, y7, y8, y9, y10, y11, y12, e, kc⟩ := fin (sc.set a y) (some (.int (r4 - 1))) e8 (some (.int r1)) (some (.int a)) (some (.int k)) c4 (.ref B.length) _ (by rw [List.length_set]; exact hsl) (hft c4 (sc.set a y)) k4
    refine ⟨c'', T, y7, y8, y9, y10, y11, y12, ?_, kc⟩
    rw [← e]
    have hmap : (sc.map plD).set a (plD y) = (sc.set a y).map plD := by rw [List.map_set]
    simp only [turn12, ap_sSeq, ap_sPar, ap_aC, ap_aN, ap_eB, ap_eV, ap_eK, ap_eCall, List.getElem?_cons_zero, List.getElem?_cons_succ, R.bind_ok, hsc0, fListN_tup, hbl, List.append_nil, arg2, q1, R.thenS_ok, List.set_cons_succ, List.set_cons_zero, RS.andThen_nx, hfl, q2, q3, ap_sAs, ap_eOp, tb_size, oIx_tup, atI_0, atI_1, oAdd_int, q4, oSub_int, ap_gN,
      ap_sIf, ap_tV, oLt_int, decide_eq_true hw, ap_toB, ap_sSetL, ap_eLst, List.length_cons, List.length_nil, hy, hidx, List.length_map, hixa, hset, hmap, oEqN_int, h3, h4, decide_false, Bool.false_xor, ap_sNx, Nat.reduceAdd, Nat.reduceLeDiff, if_true]
  · by_cases h3 : r1 = 3
    · obtain ⟨u, hu⟩ : ∃ u, sc[a]? = some u := ⟨_, List.getElem?_eq_getElem hal⟩
      obtain ⟨v, hv⟩ : ∃ v, sc[k]? = some v := ⟨_, List.getElem?_eq_getElem hkl⟩
      have ha1 : ∀ c, oIx (.ref B.length) (.int (a : Int)) (B.set i c ++ [.lst (sc.map plD)]) = .ok (plD u) (B.set i c ++ [.lst (sc.map plD)]) := fun c => by
        rw [oIx_ref (hidx c _), atI_nat (v := plD u) (by rw [List.getElem?_map, hu]; rfl)]
      have hk1 : ∀ c, oIx (.ref B.length) (.int (k : Int)) (B.set i c ++ [.lst (sc.map plD)]) = .ok (plD v) (B.set i c ++ [.lst (sc.map plD)]) := fun c => by
        rw [oIx_ref (hidx c _), atI_nat (v := plD v) (by rw [List.getElem?_map, hv]; rfl)]
      have hs1 : ∀ c, setI (.ref B.length) (.int (a : Int)) (plD v) (B.set i c ++ [.lst (sc.map plD)]) = some (B.set i c ++ [.lst ((sc.set a v).map plD)]) := fun c => by
        simp only [setI, hidx, List.length_map, hixa, hset, List.map_set]
      have hs2 : ∀ c, setI (.ref B.length) (.int (k : Int)) (plD u) (B.set i c ++ [.lst ((sc.set a v).map plD)]) = some (B.set i c ++ [.lst (((sc.set a v).set k u).map plD)]) := fun c => by
        simp only [setI, hidx, List.length_map, List.length_set, hixk, hset, List.map_set]
      obtain ⟨c'', T, y7, y8, y9, y10, y11, y12, e, kc⟩ := fin ((sc.set a v).set k u) (some (.int (r4 - 1))) e8 (some (.int r1)) (some (.int a)) (some (.int k)) c4 (.ref B.length) _ (by rw [List.length_set, List.length_set]; exact hsl) (hft c4 _) k4
      refine ⟨c'', T, y7, y8, y9, y10, y11, y12, ?_, kc⟩
      rw [← e]
      subst h3
      have h4 : ¬ ((3 : Int) = 4) := by decide
      simp only [turn12, ap_sSeq, ap_sPar, ap_aC, ap_aN, ap_eB, ap_eV, ap_eK, ap_eCall, List.getElem?_cons_zero, List.getElem?_cons_succ, R.bind_ok, hsc0, fListN_tup, hbl, List.append_nil, arg2, q1, R.thenS_ok, List.set_cons_succ, List.set_cons_zero, RS.andThen_nx, hfl, q2, q3, ap_sAs, ap_eOp, tb_size, oIx_tup, atI_0, atI_1, oAdd_int, q4, oSub_int, ap_gN,
        ap_sIf, ap_tV, oLt_int, decide_eq_false hw, ap_toB, oEqN_int, h4, decide_false, decide_true, Bool.false_xor, ap_sNx, sSw, ap_eTup, ha1, hk1, hs1, hs2, List.length_cons, List.length_nil, Nat.reduceAdd, Nat.reduceLeDiff, if_true]
    · have h4 : r1 = 4 := by omega
      obtain ⟨r5, c5, q5, k5, a5, b5⟩ := roll_app cs [.lst (sc.map plD)] h k4 (show (0 : Int) < 3 by decide) (by decide)
      have hcut : slD (.ref B.length) (some 1) none (B.set i c4 ++ [.lst (sc.map plD)]) = .ok (.lst ((sc.drop 1).map plD)) (B.set i c4 ++ [.lst (sc.map plD)]) := by
        have hs : HT.sIx sc.length 0 (some 1) = 1 := by
          have := HT.sIx_nat sc.length 0 1
          rw [show ((1 : Nat) : Int) = 1 from rfl] at this
          rw [this]; omega
        have hs0 : HT.sIx sc.length sc.length none = sc.length := rfl
        simp only [slD, getL_ref, hidx, cutD, List.length_map, hs, hs0]
        rw [← List.map_drop, ← List.map_take, List.take_of_length_le (by rw [List.length_drop]; omega)]
      have hrep : ∀ S1, oRep (.lst [.int (r4 - 1)]) (.int r5) S1 = .ok (.lst ((List.replicate r5.toNat (some (r4 - 1))).map plD)) S1 := fun S1 => by
        simp only [oRep, getL']
        rw [if_pos ⟨a5, by omega, by simp⟩, List.map_replicate]
        congr 2
        induction r5.toNat with
        | zero => rfl
        | succ n ih => rw [List.replicate_succ, List.replicate_succ, List.flatten_cons, ih]; rfl
      have hl9 : ((sc.drop 1).map plD).length + ((List.replicate r5.toNat (some (r4 - 1))).map plD).length ≤ 100000 := by simp; omega
      obtain ⟨c'', T, y7, y8, y9, y10, y11, y12, e, kc⟩ := fin (sc.drop 1 ++ List.replicate r5.toNat (some (r4 - 1))) (some (.int (r4 - 1))) e8 (some (.int r1)) (some (.int a)) (some (.int k)) c5 (.lst ((sc.drop 1 ++ List.replicate r5.toNat (some (r4 - 1))).map plD)) (sc.map plD) (by simp; omega) rfl k5
      refine ⟨c'', T, y7, y8, y9, y10, y11, y12, ?_, kc⟩
      rw [← e]
      subst h4
      have h4 : ¬ ((4 : Int) = 3) := by decide
      simp only [turn12, ap_sSeq, ap_sPar, ap_aC, ap_aN, ap_eB, ap_eV, ap_eK, ap_eCall, List.getElem?_cons_zero, List.getElem?_cons_succ, R.bind_ok, hsc0, fListN_tup, hbl, List.append_nil, arg2, q1, R.thenS_ok, List.set_cons_succ, List.set_cons_zero, RS.andThen_nx, hfl, q2, q3, ap_sAs, ap_eOp, tb_size, oIx_tup, atI_0, atI_1, oAdd_int, q4, oSub_int, ap_gN,
        ap_sIf, ap_tV, oLt_int, decide_eq_false hw, ap_toB, oEqN_int, h4, decide_false, decide_true, Bool.false_xor, ap_sNx, ap_eSl, ap_evS, ap_evN, hcut, ap_eLst, List.length_cons, List.length_nil, Nat.reduceAdd, Nat.reduceLeDiff, if_true, q5, hrep, oAdd_lst, hl9, List.map_append]
end SF

namespace SF
open PySem L2
/-! ### loops over lists of any kind -/
theorem lcM_on {α : Type} {g : Tgt} {c : Tst} {e : Exp} {chk : Sto → Prop} {en : En} {S : Sto} (it : α → D) (en1 : α → En) (p : α → Bool) (v : α → D) (hchk : chk S) : ∀ (is : List α), (∀ a ∈ is, g (it a) en = some (en1 a)) → (∀ a ∈ is, c (en1 a) S = .ok (p a) S) →
    (∀ a ∈ is, p a = true → e (en1 a) S = .ok (v a) S) → lcM g c e chk en (is.map it) S = .ok ((is.filter p).map v) S
  | [], _, _, _ => rfl
  | d :: r, hg, hc, he => by
    have ih := lcM_on it en1 p v hchk r (fun d h => hg d (List.mem_cons_of_mem _ h)) (fun d h => hc d (List.mem_cons_of_mem _ h)) (fun d h => he d (List.mem_cons_of_mem _ h))
    rw [List.map_cons]
    unfold lcM
    rw [hg d List.mem_cons_self]
    dsimp only
    rw [hc d List.mem_cons_self]
    cases hp : p d with
    | true =>
      have h2 := he d List.mem_cons_self hp
      simp [h2, ih, List.filter_cons, hp, hchk]
    | false =>
      simp [ih, List.filter_cons, hp, hchk]
theorem forL_on {α : Type} {g : Tgt} {b : Stm} {chk : Sto → Prop} (it : α → D) (I : List α → En → Sto → Prop) : ∀ (is pre : List α) (en : En) (S : Sto), I pre en S →
    (∀ (q : List α) a en S, q ++ [a] <+: pre ++ is → pre <+: q → I q en S → ∃ en1, g (it a) en = some en1 ∧ ∃ en2 S2, b en1 S = .nx en2 S2 ∧ chk S2 ∧ I (q ++ [a]) en2 S2) →
    ∃ en' S', forL g b chk (is.map it) en S = .nx en' S' ∧ I (pre ++ is) en' S'
  | [], pre, en, S, h, _ => ⟨en, S, rfl, by rw [List.append_nil]; exact h⟩
  | a :: r, pre, en, S, h, st => by
    obtain ⟨en1, h1, en2, S2, h2, h3, h4⟩ := st pre a en S ⟨r, by simp⟩ (List.prefix_refl _) h
    obtain ⟨en', S', e, hI⟩ := forL_on it I r (pre ++ [a]) en2 S2 h4 fun q a' en' S' hq hp hI => by
      rw [List.append_assoc] at hq
      exact st q a' en' S' hq (List.IsPrefix.trans ⟨[a], rfl⟩ hp) hI
    refine ⟨en', S', ?_, by rw [List.append_assoc] at hI; exact hI⟩
    rw [List.map_cons]
    unfold forL
    rw [h1]
    dsimp only
    rw [h2]
    dsimp only
    rw [if_pos h3]
    exact e
theorem forL_first {α : Type} {g : Tgt} {b : Stm} {chk : Sto → Prop} {S : Sto} (it : α → D) (r : α → Option D) (I : En → Prop) : ∀ (is : List α) (en : En), I en →
    (∀ a en, a ∈ is → I en → ∃ en1, g (it a) en = some en1 ∧ (r a = none → ∃ en2, b en1 S = .nx en2 S ∧ chk S ∧ I en2) ∧ ∀ d, r a = some d → ∃ T, b en1 S = .rt d (S ++ T)) →
    (is.findSome? r = none → ∃ en', forL g b chk (is.map it) en S = .nx en' S ∧ I en') ∧ ∀ d, is.findSome? r = some d → ∃ T, forL g b chk (is.map it) en S = .rt d (S ++ T)
  | [], en, h, _ => ⟨fun _ => ⟨en, rfl, h⟩, fun d e => by simp at e⟩
  | a :: q, en, h, st => by
    obtain ⟨en1, h1, h2, h3⟩ := st a en List.mem_cons_self h
    rw [List.findSome?_cons, List.map_cons]
    cases hr : r a with
    | none =>
      obtain ⟨en2, e2, c2, I2⟩ := h2 hr
      have ih := forL_first (chk := chk) it r I q en2 I2 fun a' en' ha hI => st a' en' (List.mem_cons_of_mem _ ha) hI
      have e : ∀ x, forL g b chk (q.map it) en2 S = x → forL g b chk (it a :: q.map it) en S = x := fun x hx => by
        conv => lhs; unfold forL
        rw [h1]
        dsimp only
        rw [e2]
        dsimp only
        rw [if_pos c2]
        exact hx
      refine ⟨fun hn => ?_, fun d hd => ?_⟩
      · obtain ⟨en', z, zI⟩ := ih.1 hn
        exact ⟨en', e _ z, zI⟩
      · obtain ⟨T, z⟩ := ih.2 d hd
        exact ⟨T, e _ z⟩
    | some d =>
      obtain ⟨T, e3⟩ := h3 d hr
      refine ⟨fun hn => by simp at hn, fun d' hd => ?_⟩
      have : d = d' := by simpa using hd
      subst this
      refine ⟨T, ?_⟩
      unfold forL
      rw [h1]
      dsimp only
      rw [e3]
/-! ### changes -/
/-- the place at i -/
def pl (xs : List (Option Int)) (i : Nat) : Option Int := xs.getD i none
theorem pl_get {xs : List (Option Int)} {i : Nat} (h : i < xs.length) : xs[i]? = some (pl xs i) := by
  simp [pl, List.getElem?_eq_getElem h]
theorem zip_range (xs : List (Option Int)) : ((xs.map plD).zipIdx.map fun p => D.tup [.int (p.2 : Nat), p.1]) = (List.range xs.length).map fun i => D.tup [.int (i : Nat), plD (pl xs i)] := by
  refine List.ext_getElem? fun n => ?_
  rw [List.getElem?_map, List.getElem?_zipIdx, List.getElem?_map, List.getElem?_map]
  by_cases h : n < xs.length
  · rw [List.getElem?_range h, pl_get h]; simp
  · rw [List.getElem?_eq_none (by simpa using h), List.getElem?_eq_none (by simp; omega)]; rfl
theorem oIx_sc {xs : List (Option Int)} {i : Nat} (h : i < xs.length) (S : Sto) : oIx (scD xs) (.int (i : Nat)) S = .ok (plD (pl xs i)) S := by
  rw [scD, oIx_tup, atI_nat (v := plD (pl xs i)) (by rw [List.getElem?_map, pl_get h]; rfl)]
theorem oEqN_pl (neg : Bool) (x y : Option Int) (S : Sto) : oEqN neg (plD x) (plD y) S = .ok (.bl (neg ^^ decide (x = y))) S := by
  by_cases h : x = y
  · subst h; rw [oEqN_eq neg (good_pl x) (good_pl x) rfl]; simp
  · rw [oEqN_ne neg (good_pl x) (good_pl y) (fun e => h (plD_inj e))]; simp [h]
/-- who moves -/
def mvs (xs ys : List (Option Int)) : List Nat := (List.range xs.length).filter fun i => decide (pl xs i ≠ pl ys i)
def natsD (is : List Nat) : List D := is.map fun i => D.int (i : Nat)
theorem mvs_lt {xs ys : List (Option Int)} {i : Nat} (h : i ∈ mvs xs ys) : i < xs.length := List.mem_range.mp (List.mem_filter.mp h).1
theorem mvs_len (xs ys : List (Option Int)) : (mvs xs ys).length ≤ xs.length := by
  have := List.length_filter_le (fun i => decide (pl xs i ≠ pl ys i)) (List.range xs.length)
  rw [List.length_range] at this
  exact this
/-- moving(first, then); slots first then piece place -/
noncomputable def m_moving (cs : Cs) : Stm :=
  (sRt (eLc (iEn (aC (eV 0) aN)) (gT (gsC (gN 2) (gsC (gN 3) gsN))) (tV (eOp (oEqN true) (eV 3) (eOp oIx (eV 1) (eV 2)))) (eV 2) [2, 3]))
/-- the run itself -/
noncomputable def f_moving (cs : Cs) : List D → Sto → R D := fun ds S => runB (m_moving cs) 4 ds S
theorem moving_ok (cs : Cs) {xs ys : List (Option Int)} {S : Sto} (hl : ys.length = xs.length) (hx : xs.length ≤ 1000) : f_moving cs [scD xs, scD ys] S = .ok (.lst (natsD (mvs xs ys))) S := by
  refine runB_rt ?_
  have h := lcM_on (g := gT (gsC (gN 2) (gsC (gN 3) gsN))) (c := tV (eOp (oEqN true) (eV 3) (eOp oIx (eV 1) (eV 2)))) (e := eV 2) (chk := fun _ => True) (en := [some (scD xs), some (scD ys), none, none]) (S := S) (fun i : Nat => D.tup [.int (i : Nat), plD (pl xs i)])
    (fun i => [some (scD xs), some (scD ys), some (.int (i : Nat)), some (plD (pl xs i))]) (fun i => decide (pl xs i ≠ pl ys i)) (fun i => .int (i : Nat)) trivial (List.range xs.length) (fun i _ => rfl) (fun i hi => by
      have hi := List.mem_range.mp hi
      simp [oIx_sc (show i < ys.length by omega), oEqN_pl]) (fun i _ _ => rfl)
  rw [← zip_range] at h
  have h9 : xs.length ≤ 50000 := by omega
  simp only [scD] at h
  simp [m_moving, env0, scD, wipeE, h9, h, natsD, mvs]
/-- _law_moves(first, then); slots first then piece -/
noncomputable def m_law_moves (cs : Cs) : Stm :=
  (sRt (eLc (iR1 (aC (eB fLen (aC (eV 0) aN)) aN)) (gN 2) (tV (eOp (oEqN true) (eOp oIx (eV 0) (eV 2)) (eOp oIx (eV 1) (eV 2)))) (eV 2) [2]))
/-- the run itself -/
noncomputable def f_law_moves (cs : Cs) : List D → Sto → R D := fun ds S => runB (m_law_moves cs) 3 ds S
theorem law_moves_ok (cs : Cs) {xs ys : List (Option Int)} {S : Sto} (hl : ys.length = xs.length) (hx : xs.length ≤ 1000) : f_law_moves cs [scD xs, scD ys] S = .ok (.lst (natsD (mvs xs ys))) S := by
  refine runB_rt ?_
  have h := lcM_on (g := gN 2) (c := tV (eOp (oEqN true) (eOp oIx (eV 0) (eV 2)) (eOp oIx (eV 1) (eV 2)))) (e := eV 2) (chk := fun _ => True) (en := [some (scD xs), some (scD ys), none]) (S := S) (fun i : Nat => D.int (0 + (i : Int)))
    (fun i => [some (scD xs), some (scD ys), some (.int (i : Nat))]) (fun i => decide (pl xs i ≠ pl ys i)) (fun i => .int (i : Nat)) trivial (List.range xs.length) (fun i _ => by simp) (fun i hi => by
      have hi := List.mem_range.mp hi
      simp [oIx_sc (show i < ys.length by omega), oIx_sc hi, oEqN_pl]) (fun i _ _ => rfl)
  have h9 : xs.length ≤ 50000 := by omega
  have h8 : (-1000000 : Int) ≤ (xs.length : Nat) ∧ ((xs.length : Nat) : Int) ≤ 1000000 := by omega
  have hr : rngD 0 xs.length = (List.range xs.length).map fun i : Nat => D.int (0 + (i : Int)) := rfl
  rw [← hr] at h
  have hrl : (rngD 0 xs.length).length ≤ 50000 := by rw [hr]; simpa using h9
  simp only [m_law_moves, env0, ap_sRt, ap_eLc, ap_iR1, ap_aC, ap_aN, ap_eB, ap_eV, List.map_cons, List.map_nil, List.length_cons, List.length_nil, List.cons_append, List.nil_append, List.replicate, Nat.reduceAdd, Nat.reduceSub, List.getElem?_cons_zero, List.getElem?_cons_succ, R.bind_ok]
  have hf : fLen [scD xs] S = .ok (.int xs.length) S := by rw [scD, fLen_tup, List.length_map]
  simp only [hf, R.bind_ok, h8, if_true, Int.toNat_natCast, hrl, wipeE, List.set_cons_succ, List.set_cons_zero, h, R.thenS_ok, and_self]
  rfl
end SF

/-! Walking a run by what is wanted behind it. -/
namespace SF
open PySem L2
/-- a comprehension over a list of any kind -/
theorem eLc_on {α : Type} {it : Itm} {g : Tgt} {c : Tst} {e : Exp} {vs : List Nat} {en : En} {S S1 : Sto} {chk : Sto → Prop} (is : List α) (itf : α → D) (p : α → Bool) (v : α → D)
    (hit : it en S = .ok (is.map itf, chk) S1) (hl : is.length ≤ 50000) (hc : chk S1) (h : ∀ a ∈ is, ∃ en1, g (itf a) (wipeE en vs) = some en1 ∧ c en1 S1 = .ok (p a) S1 ∧ (p a = true → e en1 S1 = .ok (v a) S1)) :
    eLc it g c e vs en S = .ok (.lst ((is.filter p).map v)) S1 := by
  have key : ∀ l : List α, (∀ a ∈ l, a ∈ is) → lcM g c e chk (wipeE en vs) (l.map itf) S1 = .ok ((l.filter p).map v) S1 := fun l => by
    induction l with
    | nil => intro _; rfl
    | cons a r ih =>
      intro hm
      obtain ⟨en1, h1, h2, h3⟩ := h a (hm a List.mem_cons_self)
      have ih := ih fun b hb => hm b (List.mem_cons_of_mem _ hb)
      rw [List.map_cons, lcM, h1]
      dsimp only
      rw [h2, R.nox_ok, R.bind_ok]
      cases hp : p a with
      | true =>
        rw [List.filter_cons_of_pos hp, List.map_cons]
        dsimp only
        rw [h3 hp, R.nox_ok, R.bind_ok]
        rw [if_pos hc, ih, R.bind_ok]
      | false =>
        rw [List.filter_cons_of_neg (by rw [hp]; decide)]
        dsimp only
        rw [if_pos hc, ih]
  rw [ap_eLc, hit, R.bind_ok]
  dsimp only
  rw [if_pos (by simpa using hl), key is fun _ h => h, R.bind_ok]
/-- .. whose elements change the store -/
theorem eLc_inv {α β : Type} {it : Itm} {g : Tgt} {c : Tst} {e : Exp} {vs : List Nat} {en : En} {S S1 : Sto} {chk : Sto → Prop} (is : List α) (itf : α → D) (fb : β → D) (P : α → β → Prop) (I : Sto → Prop)
    (hit : it en S = .ok (is.map itf, chk) S1) (hl : is.length ≤ 50000) (h0 : I S1)
    (h : ∀ a ∈ is, ∀ S, I S → ∃ en1 b S', g (itf a) (wipeE en vs) = some en1 ∧ c en1 S = .ok true S ∧ e en1 S = .ok (fb b) S' ∧ chk S' ∧ I S' ∧ P a b) :
    ∃ (bs : List β) (S' : Sto), eLc it g c e vs en S = .ok (.lst (bs.map fb)) S' ∧ I S' ∧ bs.length = is.length ∧ ∀ (i : Nat) a b, is[i]? = some a → bs[i]? = some b → P a b := by
  have key : ∀ (l : List α) (S : Sto), I S → (∀ a ∈ l, a ∈ is) → ∃ (bs : List β) (S' : Sto), lcM g c e chk (wipeE en vs) (l.map itf) S = .ok (bs.map fb) S' ∧ I S' ∧ bs.length = l.length ∧ ∀ (i : Nat) a b, l[i]? = some a → bs[i]? = some b → P a b := fun l => by
    induction l with
    | nil => exact fun S hS _ => ⟨[], S, rfl, hS, rfl, fun i a b h => by simp at h⟩
    | cons a r ih =>
      intro S hS hm
      obtain ⟨en1, b, S2, h1, h2, h3, h4, h5, h6⟩ := h a (hm a List.mem_cons_self) S hS
      obtain ⟨bs, S3, k1, k2, k3, k4⟩ := ih S2 h5 fun b hb => hm b (List.mem_cons_of_mem _ hb)
      refine ⟨b :: bs, S3, ?_, k2, by simp [k3], fun i x y hx hy => ?_⟩
      · rw [List.map_cons, lcM, h1]
        dsimp only
        rw [h2, R.nox_ok, R.bind_ok]
        dsimp only
        rw [h3, R.nox_ok, R.bind_ok, if_pos h4, k1, R.bind_ok]
        rfl
      · cases i with
        | zero => simp at hx hy; subst hx; subst hy; exact h6
        | succ i => simp at hx hy; exact k4 i x y hx hy
  obtain ⟨bs, S', k1, k2, k3, k4⟩ := key is S1 h0 fun _ h => h
  refine ⟨bs, S', ?_, k2, k3, k4⟩
  rw [ap_eLc, hit, R.bind_ok]
  dsimp only
  rw [if_pos (by simpa using hl), k1, R.bind_ok]
/-- a loop that ends at the first that tells something; the store stays -/
theorem forL_find {α : Type} {g : Tgt} {b : Stm} {chk : Sto → Prop} {S : Sto} (it : α → D) (r : α → Option D) (I : En → Prop) (hc : chk S) : ∀ (is : List α) (en : En), I en →
    (∀ a en, a ∈ is → I en → ∃ en1, g (it a) en = some en1 ∧ (r a = none → ∃ en2, b en1 S = .nx en2 S ∧ I en2) ∧ ∀ d, r a = some d → b en1 S = .rt d S) →
    (is.findSome? r = none → ∃ en', forL g b chk (is.map it) en S = .nx en' S ∧ I en') ∧ ∀ d, is.findSome? r = some d → forL g b chk (is.map it) en S = .rt d S
  | [], en, h, _ => ⟨fun _ => ⟨en, rfl, h⟩, fun d hd => by simp at hd⟩
  | a :: is, en, h, hs => by
    obtain ⟨en1, h1, h2, h3⟩ := hs a en List.mem_cons_self h
    rw [List.map_cons, List.findSome?_cons, forL, h1]
    dsimp only
    cases hr : r a with
    | some d =>
      rw [h3 d hr]
      exact ⟨fun z => by simp at z, fun d' hd => by cases hd; rfl⟩
    | none =>
      obtain ⟨en2, e2, i2⟩ := h2 hr
      rw [e2]
      dsimp only
      rw [if_pos hc]
      exact forL_find it r I hc is en2 i2 fun a en ha hI => hs a en (List.mem_cons_of_mem _ ha) hI
theorem filter_yes {α : Type} (l : List α) : l.filter (fun _ => true) = l := List.filter_eq_self.mpr fun _ _ => rfl
/-- a loop, then the rest -/
theorem wp_for {α : Type} {Q : RS → Prop} {it : Itm} {g : Tgt} {b rest : Stm} {en : En} {S S1 : Sto} {chk : Sto → Prop} (is : List α) (itf : α → D) (I : List α → En → Sto → Prop)
    (hit : it en S = .ok (is.map itf, chk) S1) (h0 : I [] en S1)
    (hstep : ∀ (pre : List α) a en S, pre ++ [a] <+: is → I pre en S → ∃ en1, g (itf a) en = some en1 ∧ ∃ en2 S2, b en1 S = .nx en2 S2 ∧ chk S2 ∧ I (pre ++ [a]) en2 S2)
    (hk : ∀ en' S', I is en' S' → Q (rest en' S')) : Q (sSeq (sFor it g b) rest en S) := by
  obtain ⟨en', S', e, hI⟩ := forL_on (g := g) (chk := chk) (b := b) itf I is [] en S1 h0 fun q a en S hq _ hI => hstep q a en S (by simpa using hq) hI
  rw [ap_sSeq, ap_sFor, hit, R.thenS_ok]
  dsimp only
  rw [e, RS.andThen_nx]
  exact hk en' S' (by simpa using hI)
theorem wp_for1 {α : Type} {Q : RS → Prop} {it : Itm} {g : Tgt} {b : Stm} {en : En} {S S1 : Sto} {chk : Sto → Prop} (is : List α) (itf : α → D) (I : List α → En → Sto → Prop)
    (hit : it en S = .ok (is.map itf, chk) S1) (h0 : I [] en S1)
    (hstep : ∀ (pre : List α) a en S, pre ++ [a] <+: is → I pre en S → ∃ en1, g (itf a) en = some en1 ∧ ∃ en2 S2, b en1 S = .nx en2 S2 ∧ chk S2 ∧ I (pre ++ [a]) en2 S2)
    (hk : ∀ en' S', I is en' S' → Q (.nx en' S')) : Q (sFor it g b en S) := by
  have := wp_for (Q := Q) (rest := sNx) is itf I hit h0 hstep hk
  rw [ap_sSeq] at this
  cases hr : sFor it g b en S with
  | nx en' S' => rw [hr] at this; exact this
  | rt d S' => rw [hr] at this; exact this
  | exc x S' => rw [hr] at this; exact this
  | stuck => rw [hr] at this; exact this
theorem wp_seq {Q : RS → Prop} {a b : Stm} {en en1 : En} {S S1 : Sto} (h : a en S = .nx en1 S1) (hk : Q (b en1 S1)) : Q (sSeq a b en S) := by
  rw [ap_sSeq, h]
  exact hk
theorem wp_rt {Q : RS → Prop} {a b : Stm} {en : En} {S S1 : Sto} {d : D} (h : a en S = .rt d S1) (hk : Q (.rt d S1)) : Q (sSeq a b en S) := by
  rw [ap_sSeq, h]
  exact hk
end SF

/-! Defs with defaults by their bodies; the law's end. -/
namespace SF
open PySem L2
section
variable {P : Program} {w : World} {K : PySem.W.Frag} {mg : Str → Option Value} {base : Heap}
theorem fn_rawD {x qual : Str} {st : Stmt} {f : Addr} {fd : FuncData} {N ps : List Str} {k : Nat} {m : Stm} {fM : List D → Sto → R D} {dvs : List V} {kws : List (Str × V)} (F : FunD K x qual (defArgs st) (defBody st) (defScope st) dvs kws f fd) (Sc : FnScope N ps (defScope st))
    (hb : ∀ (cdv : Value) (A : Around) (outer : List Env) (s : Shared) (H : Hp) (E : XK), Ctx (cxOf (L2N.CX P w) P w K mg base N qual (defScope st) f cdv A outer s H E) E k → PMSs (cxOf (L2N.CX P w) P w K mg base N qual (defScope st) f cdv A outer s H E) E (defBody st) m)
    (hs : ∀ ds S, ds.length = ps.length → Le (fM ds S) (runB m N.length ds S)) : FnOk P w K mg base (L2N.CX P w) (k + 1) f fd ps (spM K ps.length fM) := by
  refine F.ok Sc (fun vs H Q E h => h.len) (fun cdv A outer s H vs Q E hr h => ?_)
  have c : Ctx (cxOf (L2N.CX P w) P w K mg base N qual (defScope st) f cdv A outer s H E) E k :=
    ⟨rfl, Sc.nd, L2N.takes_of rfl rfl rfl rfl, passes_of rfl, hr⟩
  refine ⟨_, hb cdv A outer s H E c, ?_⟩
  obtain ⟨ρ, S, ds, r, q, p⟩ := h
  unfold arg at p
  split at p
  · rename_i hl
    have p := p.le (hs ds S hl)
    refine ⟨ρ, S, env0 N.length ds, r, relE_start q, ?_⟩
    unfold runB at p
    cases hm : m (env0 N.length ds) S with
    | nx en' S' => rw [hm] at p; exact fun σ' H' ρ' e1 r1 _ => p .non H' ρ' e1 r1 .non
    | rt d S' => rw [hm] at p; exact p
    | exc d S' => rw [hm] at p; exact p
    | stuck => rw [hm] at p; exact p
  · exact p.elim
theorem fn_gcD {x qual : Str} {st : Stmt} {f : Addr} {fd : FuncData} {N ps : List Str} {k : Nat} {m : Stm} {fM : List D → Sto → R D} {dvs : List V} {kws : List (Str × V)} (F : FunD K x qual (defArgs st) (defBody st) (defScope st) dvs kws f fd) (Sc : FnScope N ps (defScope st))
    (hb : ∀ (cdv : Value) (A : Around) (outer : List Env) (s : Shared) (H : Hp) (E : XK), Ctx (cxOf (L2N.CX P w) P w K mg base N qual (defScope st) f cdv A outer s H E) E k → PMSs (cxOf (L2N.CX P w) P w K mg base N qual (defScope st) f cdv A outer s H E) E (defBody st) m)
    (hs : ∀ ds S, ds.length = ps.length → Le (fM ds S) (gcR S (runB m N.length ds S))) : FnOk P w K mg base (L2N.CX P w) (k + 1) f fd ps (spM K ps.length fM) := by
  have h := fn_rawD (fM := fun ds S => runB m N.length ds S) F Sc hb fun ds S _ => .inr rfl
  refine h.imp fun vs H Q E q => ?_
  obtain ⟨ρ, S, ds, r, q, p⟩ := q
  refine ⟨ρ, S, ds, r, q, ?_⟩
  unfold arg at p ⊢
  split at p
  · rename_i hl
    rw [if_pos hl]
    exact PostG.gc r (p.le (hs ds S hl))
  · exact p.elim
end
theorem relDs_nil (ρ : Rho K) (S : Sto) (H : Hp) : RelDs ρ S H [] [] := .nil
/-- the law's end: the run on the script says True -/
theorem law_end {K : PySem.W.Frag} {fM : List D → Sto → R D} {H : Hp} {a : Addr} {ns : List Int} (h : ∀ ns : List Int, ns.length ≤ 63 → ∃ S', fM [.scr ns] [] = .ok (.bl true) S') (hl : ns.length ≤ 63) (hO : Only H) (hS : SqL K H a (ns.map V.int)) : spM K 1 fM [.ref a] H (fun v _ => v = .bl true) fun _ _ _ => False := by
  have hl9 := hl
  have hl : ∀ b, ¬ live (⟨[], []⟩ : Rho K) [] b := fun b h => by
    rcases h with h | ⟨i, c, h, _⟩
    · cases h
    · simp at h
  refine ⟨⟨[], []⟩, [], [.scr ns], ⟨rfl, by simp, by simp, by simp, by simp, by simp⟩, ⟨rfl, fun i d v h1 h2 => ?_⟩, ?_⟩
  · cases i with
    | zero =>
      simp at h1 h2
      subst h1 h2
      refine .scr ?_
      rcases hS with hS | hS
      · refine .inl ⟨?_, hl a⟩
        exact hS
      · exact .inr (.inr hS)
    | succ i => simp at h1
  · obtain ⟨S', e⟩ := h ns hl9
    show Post (arg 1 fM [.scr ns] []) _ _ _ _ _
    rw [arg1, e]
    intro v H' ρ' _ _ q
    cases q
    rfl
theorem cx_end {P : Program} {w : World} {H : Hp} {s : Shared} {e : Value} {s' : Shared} (h : L2N.CX P w [] H s (fun _ _ _ => False) e s') : False := by
  obtain ⟨_, _, _, _, _, _, _, _, _, _, _, _, z⟩ := h
  exact z
/-- the law's walk, what it may let out told by the world -/
theorem walk_end {l : PySem.W.OpenLaw} {n k : Nat} {q : Program} {loose : List Str} {XP : (Str → Option Value) → Heap → Prop} {YP : World → Heap → Prop} {d : DefRec} {x : Str}
    (hn : l.most = some n) (hn2 : n ≤ sizeLine) (hdf : d.params.defaults = []) (hr : Room k callerA)
    (F : ∀ (w : World) (mg : Str → Option Value) (fa : Addr) (h : Heap), YP w h → h.Ns mainGlobals mg → mg d.name = some (.ref fa) →
      ∃ (K : PySem.W.Frag) (fd : FuncData) (sp : Sp), K.In h ∧ (∀ (s : Shared) (u : Value), BindsTo s fd ⟨[u], []⟩ [(x, u)]) ∧
        (∀ (H : Hp) (a : Addr) (ns : List Int), ns.length ≤ n → Only H → SqL K H a (ns.map V.int) → sp [.ref a] H (fun v _ => v = .bl true) fun _ _ _ => False) ∧
        ∀ base : Heap, K.In base → base.Ns mainGlobals mg → FnOk l.prog w K mg base (L2N.CX l.prog w) k fa fd [x] sp) :
    PySem.W.WalkO q loose XP YP l.row.toRowW d [] (fun f vs => PySem.call f vs) := by
  refine Att.attach_call hn hdf fun w s₀ s₁ mg mb fa o pm cd doc a vs ns G Y ho hd hcd hmg hobj hints hlen hg => ?_
  obtain ⟨K, fd, sp, KX, hb, hsp, hF⟩ := F w mg fa _ Y G.T.g hmg
  exact law_call KX G.T.g G.T.b G.T.builtins G.T.nolimit hg hobj hints (Nat.le_trans hlen hn2) hr hF hb (fun H hO hS => hsp H a ns hlen hO hS) fun H e s' => cx_end
end SF

namespace SF
open PySem L2
theorem spM_stuck {K : PySem.W.Frag} {n : Nat} {vs : List V} {H : Hp} {Q : VK} {E : XK} (h : spM K n (fun _ _ => .stuck) vs H Q E) : False := by
  obtain ⟨ρ, S, ds, _, _, p⟩ := h
  unfold arg at p
  split at p <;> exact p.elim
theorem Ctx.e0 {X : Cx} {E : XK} {k : Nat} (c : Ctx X E k) : Ctx X E0 k := ⟨c.calm, c.nd, takes0N, c.own, c.room⟩
/-- nothing is promised -/
theorem fn_stuck {P : Program} {w : World} {K : PySem.W.Frag} {mg : Str → Option Value} {base : Heap} {CX : CXT} {k : Nat} {f : Addr} {fd : FuncData} {ps : List Str} {n : Nat} : FnOk P w K mg base CX k f fd ps (spM K n fun _ _ => .stuck) := by
  constructor
  · intro vs H Q E h
    exact (spM_stuck h).elim
  · intros
    rename_i h
    exact (spM_stuck h).elim
end SF

/-! While an exception is handled: walks over lists, sum, a comprehension of ints, isinstance, index. -/
namespace SF
open PySem PySem.Spec PyProof.Rows L2 HotX
section
variable {prog : Program} {w : World} {A : Around} {E : Value → Shared → Prop} {s : Shared}
/-- a list's iterator ends -/
theorem lend_hot {it l x1 : Addr} {i : Nat} {items : Array Value} {Q : Option Value → Shared → Prop} (hot : HotAt A x1 s.heap) (hne : x1 ≠ it) (hit : s.heap.IsListIter it l i) (hl : s.heap.IsList l items) (hx : items[i]? = none)
    (hQ : ∀ h', Heap.ExtBut it s.heap h' → Q none { s with heap := h' }) : wpAny (model prog w) A (pyNext (.ref it)) Q E s := by
  obtain ⟨o, ho, hc, hd⟩ := id hit
  obtain ⟨ol, hol, _, nl, hdl⟩ := hl
  obtain ⟨hh, o1, vs1, h1, d1, c1⟩ := hot
  unfold pyNext
  refine wpAny_bind (wpAny_attempt (wpAny_callSpecial?_slot (name := Str.ofString "__next__") hit.typeIs slot_listiter_next (wpAny_call_entry slot_listiter_next hit.typeIs entry_listiter_next ?_ (args_listiter_next _))))
  show wpAny _ _ (field (.ref it) 0 >>= _) _ _ s; refine wpAny_bind (wpAny_field ho hd (x := .ref l) rfl ?_)
  show wpAny _ _ (if (Value.ref l == Value.none) = true then _ else _) _ _ s; rw [if_neg (show ¬ ((Value.ref l == Value.none) = true) from Bool.false_ne_true)]
  show wpAny _ _ (field (.ref it) 1 >>= _) _ _ s; refine wpAny_bind (wpAny_field ho hd (x := .int i 0) rfl ?_)
  show wpAny _ _ (seqItems? (.ref l) >>= _) _ _ s; refine wpAny_bind (wpAny_seqItems hol hdl ?_)
  simp only [Int.toNat_natCast, hx]
  refine wpAny_bind (wpAny_rule (wpAny_bind (wpAny_setField ho hd (by simp) ?_))); show wpAny _ _ (newExc (.type "StopIteration") [] >>= _) _ _ _
  refine wpAny_bind ?_; simp only [newExc, newTuple]
  refine wpAny_bind (wpAny_newObj_type ?_ (by size_fits)); refine wpAny_bind (m := firstArgMember _ _) (wpAny_of_eq (a := Value.none) (by first | rfl | (simp only [firstArgMember]; rfl)) ?_)
  refine wpAny_newObj_type ?_ (by size_fits); have g1 := Heap.get?_update_other s.heap (Obj.mapFields fun x => x.setIfInBounds 0 Value.none) (Ne.symm hne)
  refine raiseNew_hot ⟨hh, o1, vs1, Heap.get?_push_of_some _ (Heap.get?_push_of_some _ (g1.trans h1)), d1, c1⟩ (Nat.ne_of_lt (Heap.lt_size (Heap.get?_push_of_some _ (g1.trans h1)))) (Heap.get?_push_size _ rfl) rfl (by first | (simp; done) | (simp; omega) | (simp only [Array.size_append]; simp; omega)) ?_
  refine wpAny_bind (wpAny_isInstance (T := "StopIteration") (b := true) ⟨_, Heap.get?_update_self _ (Heap.get?_push_size _ rfl) rfl, rfl⟩ isSubtype_stop ?_); refine wpAny_pure (hQ _ fun b u hb e => ?_)
  have g2 := (Heap.get?_update_other s.heap (Obj.mapFields fun x => x.setIfInBounds 0 Value.none) (Ne.symm hb)).trans e
  rw [Heap.get?_update_other _ _ (Nat.ne_of_gt (Heap.lt_size (Heap.get?_push_of_some _ g2)))]; exact Heap.get?_push_of_some _ (Heap.get?_push_of_some _ g2)
/-- a walk over a list, the handled exception kept -/
theorem walks_hot {x1 : Addr} {o1 : Obj} {vs1 : Array Value} (hh : A.handled = some (.ref x1)) (d1 : o1.data = .fields vs1) (c1 : vs1[2]? = some .none) (I ax : Addr) (hne : ax ≠ I) (hx : x1 ≠ I) (items : Array Value) :
    Walks prog w A I [I, ax, x1] [I] items.size (fun i v => items[i]? = some v) (fun i h => (h.IsListIter I ax i ∧ h.IsList ax items) ∧ h.get? x1 = some o1) where
  sub := fun b hb => by simp at hb; simp [hb]
  frame := fun _ _ _ st hk => ⟨⟨st.1.1.at fun o e => hk I (by simp) o e, st.1.2.at fun o e => hk ax (by simp) o e⟩, hk x1 (by simp) o1 st.2⟩
  item := fun i s Q E hi st hQ => by
    refine wpAny_pyNext_list_item st.1.1 st.1.2 (x := items[i]) (by simp [hi]) fun h' hit' hs' => ?_
    exact hQ _ h' s.toks (by simp [hi]) ⟨⟨hit', st.1.2.extBut hs'.extBut hne⟩, hs'.extBut x1 o1 hx st.2⟩ fun b o hb e => hs'.extBut b o (fun h => hb (by simp [h])) e
  done := fun s Q E st hQ => lend_hot ⟨hh, o1, vs1, st.2, d1, c1⟩ hx st.1.1 st.1.2 (by simp) fun h' he' => hQ h' s.toks fun b o hb e => he' b o (fun h => hb (by simp [h])) e
  self := fun _ _ _ _ st hQ => wpAny_pyIter_listiter st.1.1 hQ
theorem sum_hot {l x1 : Addr} {its : List Value} {ns : List Int} {Q : Value → Shared → Prop} (hot : HotAt A x1 s.heap) (hl : s.heap.IsList l its.toArray) (hi : IntsAre its ns)
    (h : ∀ h' tk t', (∀ b o, s.heap.get? b = some o → h'.get? b = some o) → Q (.int ns.sum t') { s with heap := h', toks := tk }) : wpAny (model prog w) A (call (.builtin "sum") [.ref l]) Q E s := by
  obtain ⟨hh, o1, vs1, h1, d1, c1⟩ := hot
  obtain ⟨xs, e⟩ := hi.allInts.items
  have hn : numsOf (intItems xs).toList = ns := by rw [← e]; exact hi.numsOf
  rw [nums_intItems] at hn
  rw [e] at hl
  refine call_sum_walkG (iter_intList hl fun s2 e2 st hfp hlI => ?_)
  subst e2
  have hx1 := Heap.lt_size h1
  refine ⟨_, _, _, _, _, _, numAt xs, rfl, walks_hot (A := A.in1) hh d1 c1 _ l hlI (Nat.ne_of_lt hx1) (intItems xs), ⟨st, Heap.get?_push_of_some _ h1⟩, fun b hb => ?_, (fun _ _ => intItems_at), fun h' tk t' hk => ?_⟩
  · simp only [List.mem_cons, List.not_mem_nil, or_false] at hb
    rcases hb with z | z | z
    · exact hfp b (by simp [z])
    · exact hfp b (by simp [z])
    · subst z
      rw [Heap.size_push]
      exact Nat.lt_succ_of_lt hx1
  · have := h h' tk t' (old_kept hk)
    rw [← hn] at this
    rw [preSum_eq, List.take_of_length_le (by simp [intItems])]
    exact this
end
open L2H
section
variable {X : Cx}
theorem cr_sumH (hc : HotC X) : CallR X (.builtin "sum") (rSum X.K) := by
  intro pins s σ H vs us Q I r h
  obtain ⟨a, ns, rfl, hs, q⟩ := h
  obtain ⟨its, rv, hl, _⟩ := I.list hs
  obtain ⟨x1, hot⟩ := hc.at I
  rw [Vals.ref1 r]
  exact sum_hot hot hl.isList rv.ints fun h' tk t' hk => ⟨.int _, H, I.kept hk, ⟨_, rfl⟩, q⟩
/-- what the class is found to be, whatever the dict of the instance -/
theorem find_dd {K : PySem.W.Frag} {C : Addr} {n : Str} {od : Option Obj} {a g : Value} (hc : (PySem.W.clsIn K C).isSome = true) (ha : PySem.W.findIn K (.ref C) n = some (some a)) (hg : PySem.W.specialIn K a "__get__" = some (some g)) (ht : PySem.W.takesIn K a = some true) : PySem.W.findObj K C od n = some (.bind g a) := by
  obtain ⟨cd, hc⟩ := Option.isSome_iff_exists.mp hc
  unfold PySem.W.findObj; rw [hc, Option.bind_some, ha, Option.bind_some]; simp [hg, ht]
open PySem.W in
theorem cls_ofE {prog : Program} {w : World} {A : Around} {E : Value → Shared → Prop} {s : Shared} {K : PySem.W.Frag} {x D : Addr} {ox : Obj} {od : Option Obj} {Q : Option Value → Shared → Prop} (C : ExcC K D) (KI : K.In s.heap) (J : PySem.W.InstAt s.heap x ox D od) (h : Q (some (.ref D)) { s with toks := s.toks + 1 }) : wpAny (model prog w) A (getAttr? (.ref x) "__class__") Q E s := by
  have hf := find_dd (od := od) (by obtain ⟨cd, hc, _⟩ := any_some C.hd; rw [hc]; rfl) C.ha C.hn C.ht; obtain ⟨hp, g, d, t, os⟩ := s
  have M0 := J.type (M := model prog w); have M1 := looks_findIn (M := model prog w) KI C.hg; have M2 := looks_findIn (M := model prog w) KI C.hk; have M3 := looks_find (M := model prog w) KI J hf
  have sb : Looks (model prog w) hp (isInstance (.ref x) (.type "BaseException")) true := M0.andThen (looks_subIn KI C.hs)
  have n2 : (Value.builtin "BaseException.__getattribute__" == Value.builtin "object.__getattribute__") = false := by decide +kernel
  have n1 : (onTheHeap (Value.ref D) && Value.builtin "BaseException.__getattribute__" == Value.builtin "object.__getattribute__") = false := by rw [n2]; rfl
  unfold getAttr? getAttrBy? getAttrBy; refine wpAny_bind (wpAny_mkText (wpAny_bind (wpAny_attempt (wpAny_holding (wpAny_bind (M0.at (wpAny_bind (M1.at ?_))))))))
  show wpAny _ _ (if (onTheHeap (Value.ref D) && Value.builtin "BaseException.__getattribute__" == Value.builtin "object.__getattribute__") = true then _ else _) _ _ _; rw [n1, if_neg Bool.false_ne_true]
  unfold getAttrByItsOwn hookBefore; refine wpAny_bind ?_; rw [if_pos (show onTheHeap (Value.ref D) = true from rfl)]; refine M2.at ?_; refine wpAny_bind (wpAny_attempt (wpAny_holding ?_)); unfold callGetattribute
  rw [show (false && onTheHeap (Value.builtin "BaseException.__getattribute__")) = false from rfl, if_neg Bool.false_ne_true]; unfold boundAndCalled; rw [PySem.F.excAttr_ValueError.ga.bind (.ref x)]; refine wpAny_bind (wpAny_pure ?_)
  show wpAny _ _ (call (.builtin "BaseException.__getattribute__") [.ref x, .str "__class__" t]) _ _ _; refine wpAny_call (codeAny_call_builtin PySem.F.excAttr_ValueError.ga.plain PySem.F.entry_bexc_ga ?_)
  refine @check_slot (model prog w) _ _ ⟨hp, g, d, t + 1, os⟩ "BaseException.__getattribute__" "BaseException" "__getattribute__" (.ref x) [.str "__class__" t] [] _ (by decide +kernel) (by decide +kernel) sb (PySem.F.args_bexc_ga (.ref x) (.str "__class__" t)) ?_
  unfold Builtin.«object.__getattribute__»; refine wpAny_bind (wpAny_of_eq (a := ((Value.ref x : Value), [Value.str "__class__" t])) (by first | rfl | (simp only [slotArgs]; rfl)) ?_); refine wpAny_bind (wpAny_pure (wpAny_bind (M0.at (wpAny_bind (M3.at ?_)))))
  show wpAny _ _ (holding [Value.builtin "object.__class__"] (call (.builtin "getset_descriptor.__get__") [.builtin "object.__class__", .ref x, .ref D]) >>= ret) _ _ _; refine wpAny_bind (wpAny_holding (wpAny_call (class_get (s := ⟨hp, g, d, t + 1, os⟩) (ox := ox) (od := od) KI J C.hm ?_))); refine wpAny_pure ?_
  show wpAny _ _ (handedOut (.ref D)) _ _ _; rw [handedOut_of (v := .ref D) rfl]; first | exact wpAny_pure (wpAny_pure h) | exact wpAny_pure h | exact wpAny_pure (wpAny_bind (wpAny_pure (wpAny_pure h)))
open PySem.W in
theorem kit_ofE {K : PySem.W.Frag} {x D : Addr} {ox : Obj} {od : Option Obj} (C : ExcC K D) : PySem.W.KitX K (.ref x) (.ref D) (fun h => InstAt h x ox D od) := by
  have Z := handS_kitx_exc (x := x) (ox := ox) C.hg C.hk C.hs C.hd C.ha C.hn C.ht C.hm
  refine ⟨fun _ _ _ J => J.type, fun _ _ KI _ => ?_, Z.ne, fun KI J k => cls_ofE C KI J k⟩
  obtain ⟨cdD, hcD, _⟩ := any_some C.hd; unfold clsIn at hcD
  split at hcD
  · rename_i c' d' cd' sl' ho
    intro A' Q' E' s' k q; unfold isType loadHead; exact wpAny_bind (wpAny_loadPart (k _ _ (KI _ _ ho)) (wpAny_pure q))
  · cases hcD
/-- isinstance(e, C), e the pinned exception -/
theorem call_isH {a D : Addr} {oe : Obj} {dO : Option Addr} (hp : (a, oe) ∈ X.pn) (C : ExcC X.K D) (hz : Zc (.ref D) dO oe) (hd : ∀ dx, dO = some dx → dx ∉ X.ex ∧ ∃ o, X.s_0.heap.get? dx = some o) (hf : ∃ vs, oe.data = .fields vs) : CallR X (.builtin "isinstance") (rIsE X.K D a) := by
  intro pins s σ H xs us Q I r h
  obtain ⟨c, cv, b, rfl, hcv, e, q⟩ := h
  cases r with
  | cons rx rr =>
    cases rr with
    | cons rt rr =>
      cases rr; cases rx
      have ec := hcv _ rt
      subst ec
      have hget := (I.pin (a, oe) (List.mem_append_left _ hp)).1
      obtain ⟨vs, hv⟩ := hf
      have J : ∃ od, PySem.W.InstAt s.heap a oe D od := by
        obtain ⟨oc, od, oda, osl⟩ := oe
        obtain ⟨h1, h2⟩ := hz
        dsimp only at h1 h2 hv; subst h1 h2 hv
        cases od with
        | none => exact ⟨none, hget, rfl, rfl, trivial⟩
        | some dx =>
          obtain ⟨hx, o, ho⟩ := hd dx rfl
          obtain ⟨o', ho'⟩ := I.base.there dx o ho hx
          exact ⟨some o', hget, rfl, rfl, ho'⟩
      obtain ⟨od, J⟩ := J
      refine PySem.W.kia_one (kit_ofE C) I.kIn J e (fun z => nomatch z) fun tk => ?_
      exact ⟨.bl b, H, I.kept (t' := tk) fun _ _ z => z, rfl, q⟩
end
end SF

namespace SF
open PySem PySem.Spec PyProof.Rows L2 HotX L2H
section
variable {X : Cx}
/-- what is known of a comprehension's block that makes ints of truths -/
structure IntsS (scope : Scope) (y : Str) : Prop where
  cell : ∀ q ∈ scope.names, q.2 ≠ .cell
  free : ∀ q ∈ scope.names, q.2 ≠ .free
  kind : scope.kind = .function
  names : ∀ q ∈ scope.names, q.2 = .local → scope.names.lookup q.1 = some .local
  own : scope.names.lookup y = some .local
theorem clo_nil (cells : List (Str × Addr)) : ∀ (ns : List (Str × NameKind)) (acc : List (Str × Addr)), (∀ q ∈ ns, q.2 ≠ .free) → cloFrom cells ns acc = acc
  | [], acc, _ => rfl
  | (n, k) :: r, acc, h => by
    have hk : k ≠ .free := h (n, k) List.mem_cons_self
    unfold cloFrom
    rw [if_neg (by simpa using hk)]
    exact clo_nil cells r acc fun q hq => h q (List.mem_cons_of_mem _ hq)
/-- [int(y) for y in z] -/
theorem pe_intsH {i : Nat} {y z : Str} {p1 p2 p3 p4 p5 pos : Pos} {scope : Scope} (hc : HotC X) (sc : IntsS scope y) (hz : PE X (.Name z p4) (tVar i)) (hm : X.mg "int" = none) (hyd : (y == ("__debug__" : Str)) = false := by decide)
    (hr1 : ∀ (cl : List (Str × Addr)) (C : Addr), (compEnvC scope cl C X.env).kindOf y = some .local) (hr2 : ∀ (cl : List (Str × Addr)) (C : Addr), (compEnvC scope cl C X.env).kindOf "int" = some .globalImplicit) :
    PE X (.ListComp (.Call (.Name "int" p1) [.Name y p2] [] p3) [⟨.Name y p5, .Name z p4, [], 0⟩] scope pos)
      (fun σ H Q => ∃ (a : Addr) (bs : List Bool), σ[i]? = some (some (.ref a)) ∧ H a = some (.lst (bs.map V.bl)) ∧ ∀ q, H q = none → Q (.ref q) (upd H q (.lst (bs.map fun b => V.int (if b then 1 else 0))))) := by
  refine ⟨fun pins s σ H Q I h => ?_⟩
  obtain ⟨a, bs, ha, hH, q⟩ := h
  obtain ⟨x1, hot0⟩ := hc.at I
  refine wpAny_ListComp_free (cl := []) (fun _ => true) (fun v u => ∃ b t, v = .bool b ∧ u = .int (if b then 1 else 0) t) ?_ sc.cell sc.kind sc.names sc.own ?_
  · rw [closure_ok fun q hq e => absurd e (sc.free q hq), clo_nil _ _ _ sc.free]
  refine thn (hz.run pins s σ H (fun v H1 => v = .ref a ∧ H1 = H) I ⟨.ref a, ha, rfl, rfl⟩) fun u s1 hu => ?_
  obtain ⟨v, H1, I1, r1, ev, eH⟩ := hu
  subst ev
  rw [eH] at I1
  obtain rfl : u = Value.ref a := r1
  obtain ⟨hsz, its, n, rv, hget⟩ := I1.hok a _ hH
  have hits := rv.bls
  obtain ⟨x1, hh, o1, vs1, h1, d1, c1⟩ := hc.at I1
  have hx1 := Heap.lt_size h1
  have hal := Heap.lt_size hget
  have hpl : s1.heap.IsList a its.toArray := ⟨_, hget, rfl, n, rfl⟩
  refine wpAny_pyIter_list hpl ?_
  obtain ⟨I0, hI0⟩ : ∃ z, z = s1.heap.objs.size := ⟨_, rfl⟩
  rw [← hI0]
  have glb := I1.mod.glob.keeps I1.bk
  obtain ⟨mb, b1, b2⟩ := I1.mod.blt
  have b1 := b1.keeps I1.bk
  refine ⟨I0, [I0, a, x1], [I0], its.toArray.size, _, _, rfl, walks_hot hh d1 c1 I0 a (by rw [hI0]; exact Nat.ne_of_lt hal) (by rw [hI0]; exact Nat.ne_of_lt hx1) its.toArray, ?_, ⟨⟨⟨_, by rw [hI0]; exact Heap.get?_push_size _ rfl, rfl, rfl⟩, hpl.push _⟩, Heap.get?_push_of_some _ h1⟩, fun b hb => ?_, ⟨fun C k v s3 m3 E' hC hv hn3 hm3 hk3 ht3 => wpAny_tests_nil ⟨rfl, s3.heap, s3.toks, rfl, fun _ _ z => z⟩, fun C k v s3 m3 E' hC hv hp hn3 hm3 hk3 ht3 => ?_⟩, fun q1 h' tk ys vs hq1 hl hpl' hlen hP hF hk => ?_⟩
  · rw [List.size_toArray, ← rv.length]
    exact hsz
  · simp only [List.mem_cons, List.not_mem_nil, or_false] at hb
    rw [Heap.size_push]
    rcases hb with z | z | z
    · rw [z, hI0]; exact Nat.lt_succ_self _
    · rw [z]; exact Nat.lt_succ_of_lt hal
    · rw [z]; exact Nat.lt_succ_of_lt hx1
  · -- int(y)
    obtain ⟨b, rfl⟩ : ∃ b, v = .bool b := by
      have hv : its.toArray[k]? = some v := hv
      rw [List.getElem?_toArray, hits, List.getElem?_map] at hv
      cases hb : bs[k]? with
      | none => rw [hb] at hv; cases hv
      | some b => rw [hb] at hv; exact ⟨b, (Option.some.inj hv).symm⟩
    have kp : ∀ b o, s1.heap.get? b = some o → s3.heap.get? b = some o := fun b o e => hk3 b o (fun z => by
      have z : b = I0 := by simpa using z
      rw [z, hI0] at e
      exact Nat.lt_irrefl _ (Heap.lt_size e)) (Heap.get?_push_of_some _ e)
    refine Call_ (Calls.Name_function_global (env := compEnvC scope [] C X.env) sc.kind (hr2 _ _) (Calls.loadGlobal_builtin (mg := X.mg) (mb := mb) (by show s3.heap.Ns X.env.globals X.mg; rw [I1.ok.glob]; exact glb.keeps kp) hm (by show s3.heap.Ns X.env.builtins mb; rw [I1.ok.blt]; exact b1.keeps kp) ((b2 "int" (by decide)).trans boot_int) ?_))
    refine PyProof.Rows.callWith_type1 (Calls.spliced_cons (wpAny_Name (wpAny_loadName_local sc.kind (hr1 _ _) hn3 hm3 (Calls.spliced_nil (call_int_bool ?_))) hyd)) rfl rfl
    exact ⟨⟨b, _, rfl, rfl⟩, s3.heap, s3.toks + 1, rfl, fun _ _ z => z⟩
  · have nq : s1.heap.get? q1 = none := by
      cases e : s1.heap.get? q1 with
      | none => rfl
      | some o => rw [Heap.get?_push_of_some _ e] at hq1; cases hq1
    have hn : H q1 = none := I1.hok.gone nq
    obtain ⟨m, hm'⟩ := hpl'
    have hvs : vs = bs.map Value.bool := by
      refine List.ext_getElem? fun j => ?_
      by_cases hj : j < vs.length
      · have h2 := hP j vs[j] (List.getElem?_eq_getElem hj)
        have h2 : its.toArray[j]? = some vs[j] := h2
        rw [List.getElem?_toArray, hits] at h2
        rw [h2, List.getElem?_eq_getElem hj]
      · rw [List.getElem?_eq_none (by omega), List.getElem?_eq_none]
        rw [hlen, List.size_toArray, hits] at hj
        omega
    have hF2 : Vals (bs.map fun b => V.int (if b then 1 else 0)) ys.toList := by
      rw [hvs, List.filter_eq_self.mpr (fun _ _ => rfl)] at hF
      generalize ys.toList = l at hF
      clear hvs hP hlen hits rv hH q hsz
      induction bs generalizing l with
      | nil => cases hF; exact .nil
      | cons b r ih =>
        cases hF with
        | cons r1 t1 =>
          obtain ⟨b', t, e1, e2⟩ := r1
          cases e1
          exact .cons ⟨t, e2⟩ (ih _ t1)
    have J : Inv X pins σ (upd H q1 (.lst (bs.map fun b => V.int (if b then 1 else 0)))) { s1 with heap := h', toks := tk } := by
      refine Inv.laidN (s := s1) I1 (fun b o e => ?_) nq hn ⟨?_, ys.toList, m, hF2, by rw [hm']⟩
      · refine hk b o (fun z => ?_) (Heap.get?_push_of_some _ e)
        have z : b = I0 := by simpa using z
        rw [z, hI0] at e
        exact Nat.lt_irrefl _ (Heap.lt_size e)
      · have hsz : (bs.map V.bl).length ≤ sizeLine := hsz
        rw [List.length_map] at hsz ⊢
        exact hsz
    exact ⟨.ref q1, _, J, rfl, q q1 hn⟩
end
end SF

/-! Rules of the layer while an exception is handled; the word of a refusal. -/
namespace SF
open PySem PySem.Spec PyProof.Rows L2 HotX L2H
def exNames : List Str := ["BadNumber", "BadLine", "BadScene", "BadTime", "BadPlan", "BadPicture", "BadPlace", "Full", "Nothing", "BadText"]
def exName (w : Nat) : Str := exNames.getD w "other"
def wordD (w : Nat) : D := .tup [.str "refused", .str (exName w)]
/-- what K says of the class of number w -/
structure ExF (K : PySem.W.Frag) (ex : Nat → Addr) (w : Nat) : Prop where
  c : ExcC K (ex w)
  k : ∀ j, j < 10 → PySem.W.kitOne K (.ref (ex w)) (.ref (ex j)) = some (decide (j = w))
  v : PySem.W.kitOne K (.ref (ex w)) (.type "ValueError") = some true
/-- the exception a of class w is handled -/
structure HX (X : Cx) (a : Addr) (oe : Obj) (ex : Nat → Addr) (w : Nat) : Prop where
  nd : X.N.Nodup
  hu : X.A.units + 64 < cLine
  hot : HotC X
  pin : (a, oe) ∈ X.pn
  z : ∃ dO, Zc (.ref (ex w)) dO oe ∧ ∀ dx, dO = some dx → dx ∉ X.ex ∧ ∃ o, X.s_0.heap.get? dx = some o
  f : ∃ vs, oe.data = .fields vs
  F : ExF X.K ex w
section
variable {X : Cx} {E : XK} {a : Addr} {oe : Obj} {ex : Nat → Addr} {w : Nat} {pos : Pos}
def eIs (a : Addr) (b : Bool) (m : Exp) : Exp := fun en S => (m en S).bind fun d S1 => match d with
  | .adr a' => if a' = a then .ok (.bl b) S1 else .stuck
  | _ => .stuck
theorem pm_isE {y x : Str} {m : Exp} {p p1 p2 : Pos} (h : HX X a oe ex w) (j : Nat) (hj : j < 10) (hg : Gl X "isinstance") (hm : X.mg "isinstance" = none) (hgx : Gl X x) (hmx : X.mg x = some (.ref (ex j))) (he : PM X E (.Name y p1) m) (hdb : (x == ("__debug__" : Str)) = false := by decide) :
    PM X E (.Call (.Name "isinstance" p) [.Name y p1, .Name x p2] [] pos) (eIs a (decide (j = w)) m) := by
  obtain ⟨dO, hz1, hz2⟩ := h.z
  refine ⟨fun pins s σ H Q I t => (pe_callB (call_isH h.pin h.F.c hz1 hz2 h.f) hg hm PyProof.Rows.boot_isinstance (pa_cons he (pa_cons (pe_glob (v := .ref (ex j)) hgx hmx rfl hdb) pa_nil))).run pins s σ H Q I ?_⟩
  obtain ⟨ρ, S, en, rr, re, p⟩ := t
  refine ⟨ρ, S, en, rr, re, PostG.mono (PostG.bind (RR := RelD) p) ?_⟩
  rintro v H1 ⟨c, ρ1, S1, _, e1, r1, q1, p1⟩
  cases q1 with
  | adr a' =>
    dsimp only at p1
    split at p1
    · rename_i e
      subst e
      exact ⟨.ref (ex j), .ref (ex j), _, rfl, fun u hu => hu, h.F.k j hj, PostG.ok p1 r1 (.bl _)⟩
    · exact p1.elim
  | _ => exact p1.elim
theorem pm_isV {y : Str} {m : Exp} {p p1 p2 : Pos} (h : HX X a oe ex w) (hg : Gl X "isinstance") (hm : X.mg "isinstance" = none) (hgx : Gl X "ValueError") (hmx : X.mg "ValueError" = none) (hb : bootBuiltins "ValueError" = some (.type "ValueError")) (he : PM X E (.Name y p1) m) :
    PM X E (.Call (.Name "isinstance" p) [.Name y p1, .Name "ValueError" p2] [] pos) (eIs a true m) := by
  obtain ⟨dO, hz1, hz2⟩ := h.z
  refine ⟨fun pins s σ H Q I t => (pe_callB (call_isH h.pin h.F.c hz1 hz2 h.f) hg hm PyProof.Rows.boot_isinstance (pa_cons he (pa_cons (pe_bltn (v := .ty "ValueError") hgx hmx hb rfl) pa_nil))).run pins s σ H Q I ?_⟩
  obtain ⟨ρ, S, en, rr, re, p⟩ := t
  refine ⟨ρ, S, en, rr, re, PostG.mono (PostG.bind (RR := RelD) p) ?_⟩
  rintro v H1 ⟨c, ρ1, S1, _, e1, r1, q1, p1⟩
  cases q1 with
  | adr a' =>
    dsimp only at p1
    split at p1
    · rename_i e
      subst e
      exact ⟨.ty "ValueError", .type "ValueError", _, rfl, fun u hu => hu, h.F.v, PostG.ok p1 r1 (.bl _)⟩
    · exact p1.elim
  | _ => exact p1.elim
/-! ### ints of truths -/
def blsD : List D → Option (List Bool)
  | [] => some []
  | .bl b :: r => (blsD r).map fun bs => b :: bs
  | _ => none
theorem blsD_rel {K : PySem.W.Frag} {ρ : Rho K} {S : Sto} {H : Hp} : ∀ {ds : List D} {bs : List Bool} {vs : List V}, blsD ds = some bs → RelDs ρ S H ds vs → vs = bs.map V.bl
  | [], bs, vs, h, r => by
    cases h
    have := r.1
    cases vs with
    | nil => rfl
    | cons _ _ => simp at this
  | .bl b :: ds, bs, vs, h, r => by
    obtain ⟨v, ws, rfl, q, t⟩ := r.uncons
    simp only [blsD, Option.map_eq_some_iff] at h
    obtain ⟨bs', h1, rfl⟩ := h
    cases q
    rw [List.map_cons, blsD_rel h1 t]
  | .non :: _, _, _, h, _ => by simp [blsD] at h
  | .int _ :: _, _, _, h, _ => by simp [blsD] at h
  | .str _ :: _, _, _, h, _ => by simp [blsD] at h
  | .scr _ :: _, _, _, h, _ => by simp [blsD] at h
  | .tup _ :: _, _, _, h, _ => by simp [blsD] at h
  | .xtup _ :: _, _, _, h, _ => by simp [blsD] at h
  | .lst _ :: _, _, _, h, _ => by simp [blsD] at h
  | .dct _ :: _, _, _, h, _ => by simp [blsD] at h
  | .ref _ :: _, _, _, h, _ => by simp [blsD] at h
  | .adr _ :: _, _, _, h, _ => by simp [blsD] at h
def eInts (i : Nat) : Exp := fun en S => match en[i]? with
  | some (some (.lst ds)) => match blsD ds with
    | some bs => .ok (.lst (bs.map fun b => .int (if b then 1 else 0))) S
    | none => .stuck
  | _ => .stuck
theorem relDs_ints' {K : PySem.W.Frag} {ρ : Rho K} {S : Sto} {H : Hp} (bs : List Bool) : RelDs ρ S H (bs.map fun b => D.int (if b then 1 else 0)) (bs.map fun b => V.int (if b then 1 else 0)) := by
  induction bs with
  | nil => exact .nil
  | cons b r ih => exact .cons (.int _) ih
theorem pm_ints {e : Expr} {i : Nat} (h : PE X e (fun σ H Q => ∃ (a : Addr) (bs : List Bool), σ[i]? = some (some (.ref a)) ∧ H a = some (.lst (bs.map V.bl)) ∧ ∀ q, H q = none → Q (.ref q) (upd H q (.lst (bs.map fun b => V.int (if b then 1 else 0)))))) : PM X E e (eInts i) := by
  refine ⟨fun pins s σ H Q I t => h.run pins s σ H Q I ?_⟩
  obtain ⟨ρ, S, en, rr, re, p⟩ := t
  unfold eInts at p
  split at p
  · rename_i ds e1
    split at p
    · rename_i bs e2
      obtain ⟨v, hv, q⟩ := re.2 i _ e1
      cases q with
      | lst h1 h2 h3 h4 =>
        have := blsD_rel e2 ⟨h3, h4⟩
        subst this
        exact ⟨_, bs, hv, h1, PostG.lst p rr (relDs_ints' bs)⟩
    · exact p.elim
  · exact p.elim
/-! ### index -/
def fIndex : Fm := fun x ds S => match getL S x, ds with
  | some xs, [y] => if flatD y = true ∧ xs.all flatD = true then (match xs.findIdx? (fun z => eqF z y) with
    | some j => .ok (.int (j : Nat)) S
    | none => .stuck) else .stuck
  | _, _ => .stuck
theorem mo_index {K : PySem.W.Frag} : MtO K (rIndex K) fIndex := by
  intro ρ S H d v ds vs Q E r q qs p
  unfold fIndex at p
  split at p
  · rename_i xs y hx
    split at p
    · rename_i hf
      split at p
      · rename_i j hj
        obtain ⟨a, us, rfl, hs, rel⟩ := getL_sq r q hx
        obtain ⟨u, ws, rfl, qy, t⟩ := qs.uncons
        have hw : ws = [] := by
          have := t.1
          cases ws with
          | nil => rfl
          | cons _ _ => simp at this
        subst hw
        rw [List.findIdx?_eq_some_iff_getElem] at hj
        obtain ⟨hl, h1, h2⟩ := hj
        obtain ⟨z, hz, rz⟩ := rel.get (List.getElem?_eq_getElem hl)
        refine ⟨a, us, u, j, z, rfl, rfl, hs, flat_rel qy hf.1, all_flat rel hf.2, hz, ?_, fun m z' hm hz' => ?_, PostG.ok p r (.int _)⟩
        · rw [eqF_rel rz qy (List.all_eq_true.mp hf.2 _ (List.getElem_mem hl)) hf.1]
          exact h1
        · obtain ⟨d', hd', rd'⟩ := rel.getR hz'
          have hm' : m < xs.length := by omega
          rw [List.getElem?_eq_getElem hm'] at hd'
          cases hd'
          rw [eqF_rel rd' qy (List.all_eq_true.mp hf.2 _ (List.getElem_mem hm')) hf.1]
          have := h2 m hm
          simpa using this
      · exact p.elim
    · exact p.elim
  · exact p.elim
theorem pm_index {o e : Expr} {mo m : Exp} {apos cpos : Pos} (ho : PM X E o mo) (ha : PMA X E [e] (aC m aN))
    (hbase : attributeBase o "index" X.env (eval o X.env) = eval o X.env := by rfl)
    (hfew : ((backTo cpos (starEach [e] X.env)).all (fun x => !x.1) && (backToKw cpos (keywordEach [] X.env)).all (fun x => x.1.isSome) && decide (([e] : List Expr).length + ([] : List Keyword).length + (if ([] : List Keyword).isEmpty then 0 else 1) < 30)) = true := by rfl)
    (hline : (apos.endLine == cpos.line) = true := by rfl) (hs : starEach [e] X.env = (false, eval e X.env) :: starEach [] X.env := by rfl) (hplain : (backTo cpos (starEach [] X.env)).any (·.1) = false := by rfl) :
    PM X E (.Call (.Attribute o "index" apos) [e] [] cpos) (eMt "list" fIndex mo (aC m aN)) :=
  ⟨fun pins s σ H Q I t => (pe_bm PySem.F.plainAttrs_list PySem.F.slot_list_index PySem.F.type_list_index mt_index ho ha hbase hfew hline hs hplain).run pins s σ H Q I (tBM_of mo_index t)⟩
/-- xs[i], of a list -/
theorem pm_ixL {e1 e2 : Expr} {m1 m2 : Exp} (ha : PM X E e1 m1) (hb : PM X E e2 m2) (hs : PlainIx e2 := by exact fun _ _ => rfl) : PM X E (.Subscript e1 e2 pos) (eOp (fun x y S => match x, y with
  | .lst ds, .int i => match atI ds i with
    | some d => .ok d S
    | none => .stuck
  | _, _ => .stuck) m1 m2) := by
  refine ⟨fun pins s σ H Q I t => (pe_ix ix_seq ha hb hs).run pins s σ H Q I (tOp_of (fun ρ S H c d x y Q E r q1 q2 p => ?_) t)⟩
  refine m_ixQ ρ S H c d x y Q E r q1 q2 ?_
  cases c <;> cases d <;> first | exact p.elim | exact p
theorem pms_setH {i : Nat} {x : Str} {e : Expr} {m : Exp} {pos' : Pos} (nd : X.N.Nodup) (hi : X.N[i]? = some x) (hx : Loc X.env.scope x) (he : PM X E e m) (hs : swapsWith e (some (.Name x pos')) pos.line X.env = pure false := by rfl)
    (hf : X.fn x = true ∨ X.env.scope.names.lookup x = some .local := by first | exact .inl rfl | exact .inr rfl | assumption) : PMS X E (.Assign [.Name x pos'] e pos) (sAs (gN i) m) := pms_asg (ps_set nd hi hx he hs hf) (gm_name i)
end
end SF

namespace SF
open PySem PySem.Spec PyProof.Rows L2 HotX L2H
/-- a def called while the exception p is handled -/
theorem run_hot {P : Program} {w : World} {K : PySem.W.Frag} {mg : Str → Option Value} {base : Heap} {CX : CXT} {k : Nat} {x qual : Str} {params : Arguments} {body : List Stmt} {scope : Scope} {dvs : List V} {kws : List (Str × V)} {f : Addr} {fd : FuncData} {N ps : List Str} (F : FunD K x qual params body scope dvs kws f fd) (Sc : FnScope N ps scope)
    {A : Around} {outer : List Env} {s : Shared} {H : Hp} {args : Args} {us : List Value} {vs : List V} {Q : VK} {E : XK} {p : Addr × Obj} (hr : RoomH (k + 1) A) (hpin : PinOk outer H s p) (e0 : Env0 P w K mg base A outer s H) (hb : BindsTo s fd args (ps.zip us)) (r : Vals vs us) (hl : vs.length = ps.length)
    (hbody : ∀ cdv : Value, RoomH k (A.deeper (envOfC qual scope s.heap.objs.size f cdv)) → ∃ t, PSs (cxH CX P w K mg base N qual scope f cdv A outer s H E p) body t ∧ t { nx := fun _ H' => Q .non H', rt := Q } (L2.start N vs) H) : codeAny (model P w) A (.call (.ref f) args) (CR CX outer P w H s Q E) s := by
  obtain ⟨oc, od, dV, kV, doc, pm, an, cdv, ct, osl, rfl, lk, hcd, _, _⟩ := F.ex
  have bk := fun b o e => (e0.bs b o e).1
  have KX : K.In s.heap := e0.mod.kin.keeps bk
  have hkd : ∀ y ∈ ps.zip us, scope.names.lookup y.1 = some .local ∨ (scope.names.lookup y.1 = some .cell ∧ ((cellsFrom (s.heap.objs.size + 1) scope.names []).lookup y.1).isSome = true) := fun y hy =>
    (Sc.par y.1 (List.of_mem_zip hy).1).elim .inl fun q => .inr ⟨q, PySem.W.cellsFrom_some _ _ _ (.inl q)⟩
  refine codeAny_call_function hr.depth (KX _ _ lk) rfl Sc.co Sc.gen rfl (PySem.W.codeRec_of KX hcd) (hb _ _ _ _ (wpAny_newFunctionEnv_cells Sc.kind hkd fun env he s1 xx => ?_))
  subst he
  refine ⟨(e0.mod.nolimit.keeps bk).keeps xx.toInCall.keep, codeAny_func ?_⟩
  obtain ⟨t, ht, hq⟩ := hbody cdv (hr.deeper _)
  have J := inv_startH (CX := CX) (E := E) (qual := qual) (f := f) Sc hpin e0 hl r xx
  refine wpAny_mono (ht.run [] s1 (L2.start N vs) H _ J hq) (fun fl s' hs => ?_) fun e s' hs => hs
  cases fl with
  | ret u => obtain ⟨v, σ', H', J', rv, q⟩ := hs; exact ⟨v, H', J'.os, J'.bare, J'.base, J'.hok, rv, q⟩
  | next => obtain ⟨σ', H', J', q⟩ := hs; exact ⟨V.non, H', J'.os, J'.bare, J'.base, J'.hok, rfl, q⟩
  | brk => obtain ⟨_, _, _, q⟩ := hs; exact q.elim
  | cont => obtain ⟨_, _, _, q⟩ := hs; exact q.elim
/-! ### _law_word -/
def ixL : Op2 := fun x y S => match x, y with
  | .lst ds, .int i => match atI ds i with
    | some d => .ok d S
    | none => .stuck
  | _, _ => .stuck
/-- _law_word(e); slots e flags words flag -/
noncomputable def m_law_word (a : Addr) (w : Nat) : Stm :=
  (sSeq (sAs (gN 1) (eLst (aC (eIs a (decide (0 = w)) (eV 0)) (aC (eIs a (decide (1 = w)) (eV 0)) (aC (eIs a (decide (2 = w)) (eV 0)) (aC (eIs a (decide (3 = w)) (eV 0)) aN))))))
  (sSeq (sAs (gN 1) (eOp oAdd (eV 1) (eLst (aC (eIs a (decide (4 = w)) (eV 0)) (aC (eIs a (decide (5 = w)) (eV 0)) (aC (eIs a (decide (6 = w)) (eV 0)) (aC (eIs a (decide (7 = w)) (eV 0)) aN)))))))
  (sSeq (sAs (gN 1) (eOp oAdd (eV 1) (eLst (aC (eIs a (decide (8 = w)) (eV 0)) (aC (eIs a (decide (9 = w)) (eV 0)) aN)))))
  (sSeq (sAs (gN 2) (eLst (aC (eK (.str "BadNumber")) (aC (eK (.str "BadLine")) (aC (eK (.str "BadScene")) (aC (eK (.str "BadTime")) (aC (eK (.str "BadPlan")) (aC (eK (.str "BadPicture")) (aC (eK (.str "BadPlace")) (aC (eK (.str "Full")) (aC (eK (.str "Nothing")) aN)))))))))))
  (sSeq (sIf (tOrr (tV (eOp (oEqN true) (eB fSum (aC (eInts 1) aN)) (eK (.int 1)))) (tNo (tV (eIs a true (eV 0))))) (sRt (eTup (aC (eK (.str "refused")) (aC (eK (.str "other")) aN)))) sNx)
  (sRt (eTup (aC (eK (.str "refused")) (aC (eOp ixL (eOp oAdd (eV 2) (eLst (aC (eK (.str "BadText")) aN))) (eMt "list" fIndex (eV 1) (aC (eK (.bl true)) aN))) aN)))))))))
@[simp] theorem ap_eIs (a : Addr) (b : Bool) (m : Exp) (en : En) (S : Sto) : eIs a b m en S = (m en S).bind fun d S1 => match d with | .adr a' => if a' = a then .ok (.bl b) S1 else .stuck | _ => .stuck := rfl
theorem idx_at (ds : List D) (j : Nat) (d : D) (h : ds[j]? = some d) (S : Sto) : ixL (.lst ds) (.int (j : Nat)) S = .ok d S := by
  unfold ixL
  dsimp only
  rw [atI_nat h]
theorem word_ok (a : Addr) {w : Nat} (hw : w < 10) (S : Sto) : m_law_word a w [some (.adr a), none, none, none] S = .rt (wordD w) S := by
  have hidx : ∀ (bs : List Bool) (j : Nat), bs.findIdx? (fun b => b) = some j → fIndex (.lst (bs.map D.bl)) [.bl true] S = .ok (.int (j : Nat)) S := fun bs j h => by
    have h1 : (bs.map D.bl).all flatD = true := by rw [List.all_eq_true]; intro d hd; obtain ⟨b, _, rfl⟩ := List.mem_map.mp hd; rfl
    have h2 : (bs.map D.bl).findIdx? (fun z => eqF z (.bl true)) = some j := by
      rw [List.findIdx?_map, ← h]
      congr 1
      funext b
      cases b <;> rfl
    simp only [fIndex, getL_lst]
    rw [if_pos ⟨rfl, h1⟩, h2]
  have hsum : ∀ bs : List Bool, fSum [.lst (bs.map fun b => D.int (if b then 1 else 0))] S = .ok (.int (bs.map fun b => if b then (1 : Int) else 0).sum) S := fun bs => by
    have : (bs.map fun b => D.int (if b then 1 else 0)) = (bs.map fun b => if b then (1 : Int) else 0).map D.int := by rw [List.map_map]; rfl
    rw [this]
    simp only [fSum, fInts, getL_lst, intsD_map]
  have hbls : ∀ bs : List Bool, blsD (bs.map D.bl) = some bs := fun bs => by
    induction bs with
    | nil => rfl
    | cons b r ih => simp [blsD, ih]
  obtain ⟨bs, hbs⟩ : ∃ bs, bs = [decide (0 = w), decide (1 = w), decide (2 = w), decide (3 = w), decide (4 = w), decide (5 = w), decide (6 = w), decide (7 = w), decide (8 = w), decide (9 = w)] := ⟨_, rfl⟩
  have e1 : (.lst [.bl (decide (0 = w)), .bl (decide (1 = w)), .bl (decide (2 = w)), .bl (decide (3 = w)), .bl (decide (4 = w)), .bl (decide (5 = w)), .bl (decide (6 = w)), .bl (decide (7 = w)), .bl (decide (8 = w)), .bl (decide (9 = w))] : D) = .lst (bs.map D.bl) := by rw [hbs]; rfl
  have e2 : bs.findIdx? (fun b => b) = some w := by
    rw [hbs]
    rcases w with _ | _ | _ | _ | _ | _ | _ | _ | _ | _ | w
    all_goals first | omega | rfl
  have e3 : (bs.map fun b => if b then (1 : Int) else 0).sum = 1 := by
    rw [hbs]
    rcases w with _ | _ | _ | _ | _ | _ | _ | _ | _ | _ | w
    all_goals first | omega | rfl
  have e4 : exNames[w]? = some (exName w) := by
    rcases w with _ | _ | _ | _ | _ | _ | _ | _ | _ | _ | w
    all_goals first | omega | rfl
  have e5 : ixL (.lst (exNames.map D.str)) (.int (w : Nat)) S = .ok (.str (exName w)) S := idx_at _ _ _ (by rw [List.getElem?_map, e4]; rfl) S
  have e6 : (.lst [.str "BadNumber", .str "BadLine", .str "BadScene", .str "BadTime", .str "BadPlan", .str "BadPicture", .str "BadPlace", .str "Full", .str "Nothing", .str "BadText"] : D) = .lst (exNames.map D.str) := rfl
  have hty : tyOk "list" S (.lst (bs.map D.bl)) = true := rfl
  have s1 : (sAs (gN 1) (eLst (aC (eIs a (decide (0 = w)) (eV 0)) (aC (eIs a (decide (1 = w)) (eV 0)) (aC (eIs a (decide (2 = w)) (eV 0)) (aC (eIs a (decide (3 = w)) (eV 0)) aN)))))) [some (.adr a), none, none, none] S = .nx [some (.adr a), some (.lst [.bl (decide (0 = w)), .bl (decide (1 = w)), .bl (decide (2 = w)), .bl (decide (3 = w))]), none, none] S := by simp
  have s2 : (sAs (gN 1) (eOp oAdd (eV 1) (eLst (aC (eIs a (decide (4 = w)) (eV 0)) (aC (eIs a (decide (5 = w)) (eV 0)) (aC (eIs a (decide (6 = w)) (eV 0)) (aC (eIs a (decide (7 = w)) (eV 0)) aN))))))) [some (.adr a), some (.lst [.bl (decide (0 = w)), .bl (decide (1 = w)), .bl (decide (2 = w)), .bl (decide (3 = w))]), none, none] S = .nx [some (.adr a), some (.lst [.bl (decide (0 = w)), .bl (decide (1 = w)), .bl (decide (2 = w)), .bl (decide (3 = w)), .bl (decide (4 = w)), .bl (decide (5 = w)), .bl (decide (6 = w)), .bl (decide (7 = w))]), none, none] S := by simp
  have s3 : (sAs (gN 1) (eOp oAdd (eV 1) (eLst (aC (eIs a (decide (8 = w)) (eV 0)) (aC (eIs a (decide (9 = w)) (eV 0)) aN))))) [some (.adr a), some (.lst [.bl (decide (0 = w)), .bl (decide (1 = w)), .bl (decide (2 = w)), .bl (decide (3 = w)), .bl (decide (4 = w)), .bl (decide (5 = w)), .bl (decide (6 = w)), .bl (decide (7 = w))]), none, none] S = .nx [some (.adr a), some (.lst (bs.map D.bl)), none, none] S := by
    rw [← e1]
    simp
  have s4 : (sAs (gN 2) (eLst (aC (eK (.str "BadNumber")) (aC (eK (.str "BadLine")) (aC (eK (.str "BadScene")) (aC (eK (.str "BadTime")) (aC (eK (.str "BadPlan")) (aC (eK (.str "BadPicture")) (aC (eK (.str "BadPlace")) (aC (eK (.str "Full")) (aC (eK (.str "Nothing")) aN))))))))))) [some (.adr a), some (.lst (bs.map D.bl)), none, none] S = .nx [some (.adr a), some (.lst (bs.map D.bl)), some (.lst [.str "BadNumber", .str "BadLine", .str "BadScene", .str "BadTime", .str "BadPlan", .str "BadPicture", .str "BadPlace", .str "Full", .str "Nothing"]), none] S := by simp
  have s5 : (sIf (tOrr (tV (eOp (oEqN true) (eB fSum (aC (eInts 1) aN)) (eK (.int 1)))) (tNo (tV (eIs a true (eV 0))))) (sRt (eTup (aC (eK (.str "refused")) (aC (eK (.str "other")) aN)))) sNx) [some (.adr a), some (.lst (bs.map D.bl)), some (.lst [.str "BadNumber", .str "BadLine", .str "BadScene", .str "BadTime", .str "BadPlan", .str "BadPicture", .str "BadPlace", .str "Full", .str "Nothing"]), none] S = .nx [some (.adr a), some (.lst (bs.map D.bl)), some (.lst [.str "BadNumber", .str "BadLine", .str "BadScene", .str "BadTime", .str "BadPlan", .str "BadPicture", .str "BadPlace", .str "Full", .str "Nothing"]), none] S := by
    have h1 : eInts 1 [some (.adr a), some (.lst (bs.map D.bl)), some (.lst [.str "BadNumber", .str "BadLine", .str "BadScene", .str "BadTime", .str "BadPlan", .str "BadPicture", .str "BadPlace", .str "Full", .str "Nothing"]), none] S = .ok (.lst (bs.map fun b => D.int (if b then 1 else 0))) S := by
      simp only [eInts, List.getElem?_cons_zero, List.getElem?_cons_succ, hbls]
    have h2 : oEqN true (.int 1) (.int 1) S = .ok (.bl false) S := by rw [oEqN_int]; rfl
    simp only [ap_sIf, ap_tOrr, ap_tV, ap_eOp, ap_eB, ap_aC, ap_aN, h1, R.bind_ok, hsum, e3, ap_eK, h2, toB, ap_tNo, ap_eIs, ap_eV, List.getElem?_cons_zero, if_true, Bool.not_true, R.thenS_ok, ap_sNx]
  have s6 : (sRt (eTup (aC (eK (.str "refused")) (aC (eOp ixL (eOp oAdd (eV 2) (eLst (aC (eK (.str "BadText")) aN))) (eMt "list" fIndex (eV 1) (aC (eK (.bl true)) aN))) aN)))) [some (.adr a), some (.lst (bs.map D.bl)), some (.lst [.str "BadNumber", .str "BadLine", .str "BadScene", .str "BadTime", .str "BadPlan", .str "BadPicture", .str "BadPlace", .str "Full", .str "Nothing"]), none] S = .rt (wordD w) S := by
    have h1 : oAdd (.lst [.str "BadNumber", .str "BadLine", .str "BadScene", .str "BadTime", .str "BadPlan", .str "BadPicture", .str "BadPlace", .str "Full", .str "Nothing"]) (.lst [.str "BadText"]) S = .ok (.lst (exNames.map D.str)) S := by rw [oAdd_lst]; rfl
    have h2 : (1 : Nat) ≤ 100000 := by decide
    have h3 : (1 + 1 : Nat) ≤ 100000 := by decide
    simp only [ap_sRt, ap_eTup, ap_aC, ap_aN, ap_eK, ap_eOp, ap_eV, ap_eLst, ap_eMt, List.getElem?_cons_zero, List.getElem?_cons_succ, R.bind_ok, List.length_cons, List.length_nil, Nat.zero_add, h2, h3, if_true, h1, hty, hidx bs w e2, e5, R.thenS_ok]
    rfl
  rw [m_law_word, ap_sSeq, s1, RS.andThen_nx, ap_sSeq, s2, RS.andThen_nx, ap_sSeq, s3, RS.andThen_nx, ap_sSeq, s4, RS.andThen_nx, ap_sSeq, s5, RS.andThen_nx, s6]
end SF

/-! told(lambda: e): what e tells, or the word of its refusal. -/
namespace SF
open PySem PySem.Spec PyProof.Rows L2 HotX L2H
abbrev lamN (X : Cx) (A : Around) (outer : List Env) (s : Shared) (H : Hp) (E : XK) (scope : Scope) (f c' : Addr) : Cx := (LamX.lamCx X A outer s H E scope f c').wish fun e s' =>
  wpAny (model X.prog X.w) (A.deeper (LamX.lamEnv X scope s.heap.objs.size f c')) (leaving (LamX.lamEnv X scope s.heap.objs.size f c') e) (fun _ s2 => L2N.CX X.prog X.w outer H s E e s2) (fun e2 s2 => L2N.CX X.prog X.w outer H s E e2 s2) s'
theorem lam_ctx {X : Cx} {A : Around} {outer : List Env} {s : Shared} {H : Hp} {E : XK} {scope : Scope} {f c' : Addr} {k : Nat} (nd : X.N.Nodup) (hr : Room k (A.deeper (LamX.lamEnv X scope s.heap.objs.size f c'))) : Ctx (lamN X A outer s H E scope f c') E k :=
  ⟨rfl, nd, L2N.takes_of rfl rfl rfl rfl, passes_of rfl, hr⟩
section
variable {X : Cx} {pins : List (Addr × Obj)} {σ : L2.St} {H : Hp} {s : Shared}
theorem pe_actN {CXg : CXT} {Eg : XK} {Ng : List Str} {qg : Str} {sg : Scope} {g f c' : Addr} {cdg pm ctv : Value} {params : Arguments} {body : Expr} {scope : Scope} {k i : Nat} {a : Str} {pn : List (Addr × Obj)} {xe : Value → Shared → Prop} {W : WX} {E : XK} {tb : TE} {p1 p2 : Pos}
    (I : Inv X pins σ H s) (L : LamX.LamS X.env.scope scope) (hf : s.heap.get? f = some (PySem.W.kla_obj "<lambda>" (X.env.qual ++ "<lambda>") params body scope (cloFrom X.env.cells scope.names []) pm c' ctv)) (hfn : H f = none) (hfr : f ∉ frs X.stack)
    (hbind : bindArgs (PySem.W.kla_fn "<lambda>" (X.env.qual ++ "<lambda>") params body scope (cloFrom X.env.cells scope.names []) pm (.ref c') ctv) ⟨[], []⟩ = pure [])
    (tk : L2N.Takes ((cxOf CXg X.prog X.w X.K X.mg X.base Ng qg sg g cdg X.A X.stack s H Eg).tr pn xe) W) (hW : ∀ cls d σ' H', E cls d H' → W cls d σ' H') (hr : Room (k + 1) (X.A.deeper (envOfC qg sg s.heap.objs.size g cdg)))
    (hbody : ∀ (A : Around) (outer : List Env) (s : Shared) (H : Hp), Room k (A.deeper (LamX.lamEnv X scope s.heap.objs.size f c')) → PE (lamN X A outer s H E scope f c') body tb)
    (hN : Ng[i]? = some a) (hv : Vis sg a) (hd : (a == ("__debug__" : Str)) = false := by decide) (hcd : (a == ("__classdict__" : Str)) = false := by decide) :
    PE ((cxOf CXg X.prog X.w X.K X.mg X.base Ng qg sg g cdg X.A X.stack s H Eg).tr pn xe) (.Call (.Name a p1) [] [] p2) (fun σZ HZ Q => σZ[i]? = some (some (.ref f)) ∧ HZ c' = some (LamX.CodeO c' (X.env.qual ++ "<lambda>")) ∧ tb σ HZ Q) := by
  refine ⟨fun pinsZ sZ σZ HZ Q IZ h => ?_⟩
  obtain ⟨hs, hc, ht⟩ := h
  refine wpAny_Call_Name_kw (thn ((pe_var (pos := p1) (i := i) hN hv hd hcd).run pinsZ sZ σZ HZ (fun v H1 => v = .ref f ∧ H1 = HZ) IZ ⟨.ref f, hs, rfl, rfl⟩) fun u s1 hu => ?_)
  obtain ⟨v, H1, I1, r1, ev, eH⟩ := hu
  subst ev; rw [eH] at I1
  obtain rfl : u = Value.ref f := r1
  have of1 := I1.base.keep f _ hf hfn hfr (fun z => nomatch (show f ∈ ([] : List Addr) from z))
  refine PySem.W.callWith_F0 ⟨_, _, _, _, of1⟩ ?_
  obtain ⟨⟨oc, vs, t, hoc, hdc, hvc⟩, _, _⟩ := I1.hok c' _ hc
  have rc : codeAny (model X.prog X.w) (X.A.deeper (envOfC qg sg s.heap.objs.size g cdg)) (.call (.ref f) ⟨[], []⟩) (CR (L2N.CX X.prog X.w) (envOfC qg sg s.heap.objs.size g cdg :: X.stack) X.prog X.w HZ s1 Q E) s1 := by
    refine PySem.W.kla_callFunE hr.depth of1 rfl L.co L.gen rfl ⟨c', oc, vs, t, rfl, hoc, hdc, hvc⟩ ?_
    rw [hbind]
    refine wpAny_pure (wpAny_newFunctionEnv (fun y hy => (L.own y hy).2) (fun y hy => absurd hy (by simp)) (fun h1 hns hsb => ⟨I1.nolimit.fresh _ hsb, ?_⟩) L.kind)
    have kp : ∀ b o, s1.heap.get? b = some o → h1.get? b = some o := fun b o e => hsb.extBut b o (Nat.ne_of_lt (Heap.lt_size e)) (Heap.get?_push_of_some _ e)
    have J := (LamX.lam_start2 (E := E) (f := f) (c' := c') (tk := s1.toks + ([] : List (Str × Value)).length) I L I1.env0 hr.hd I1.base hns kp).wish fun e s' => wpAny (model X.prog X.w) ((X.A.deeper (envOfC qg sg s.heap.objs.size g cdg)).deeper (LamX.lamEnv X scope s1.heap.objs.size f c')) (leaving (LamX.lamEnv X scope s1.heap.objs.size f c') e) (fun _ s2 => L2N.CX X.prog X.w (envOfC qg sg s.heap.objs.size g cdg :: X.stack) HZ s1 E e s2) (fun e2 s2 => L2N.CX X.prog X.w (envOfC qg sg s.heap.objs.size g cdg :: X.stack) HZ s1 E e2 s2) s'
    show codeAny _ _ (.expr body (LamX.lamEnv X scope s1.heap.objs.size f c')) _ _
    refine PySem.W.kla_codeExpr (wpAny_mono ((hbody _ _ s1 HZ (hr.deeper _)).run [] _ _ HZ Q J ht) (fun v s' hq => ?_) fun e s' hq => hq)
    obtain ⟨w', H', J', rv, q⟩ := hq
    exact ⟨w', H', J'.os, J'.bare, J'.base, J'.hok, rv, q⟩
  have hx : Passes (L2N.CX X.prog X.w) ((cxOf CXg X.prog X.w X.K X.mg X.base Ng qg sg g cdg X.A X.stack s H Eg).tr pn xe) E := L2N.passes_call tk hW
  refine wpAny_call (codeAny_mono rc fun r s' hq => ?_)
  match r, hq with
  | .error e, hq => exact hx pinsZ σZ HZ s1 e s' I1 hq
  | .ok (.ret u), hq => exact I1.after hq
  | .ok .next, hq => exact False.elim hq
  | .ok .brk, hq => exact False.elim hq
  | .ok .cont, hq => exact False.elim hq
end
/-! ### the word called in the suite -/
structure WordFn (K : PySem.W.Frag) (mg : Str → Option Value) (f : Addr) where
  fd : FuncData
  params : Arguments
  body : List Stmt
  scope : Scope
  N : List Str
/-- _law_word, as it stands -/
structure WordOk (P : Program) (w : World) (K : PySem.W.Frag) (mg : Str → Option Value) (base : Heap) (ex : Nat → Addr) (k : Nat) : Prop where
  ex : ∃ (f : Addr) (fd : FuncData) (params : Arguments) (body : List Stmt) (scope : Scope), FunD K "_law_word" "_law_word" params body scope [] [] f fd ∧ FnScope ["e", "flags", "words", "flag"] ["e"] scope ∧ mg "_law_word" = some (.ref f) ∧ Binds K fd ["e"] [] ∧
    ∀ (wi : Nat) (a : Addr) (oe : Obj) (cdv : Value) (A : Around) (outer : List Env) (s : Shared) (H : Hp) (E : XK), wi < 10 → HX (cxH C8.CX0 P w K mg base ["e", "flags", "words", "flag"] "_law_word" scope f cdv A outer s H C8.E0 (a, oe)) a oe ex wi →
      PMSs (cxH C8.CX0 P w K mg base ["e", "flags", "words", "flag"] "_law_word" scope f cdv A outer s H C8.E0 (a, oe)) E body (m_law_word a wi)
theorem pe_word {Y : Cx} {y : Str} {i k wi : Nat} {ex : Nat → Addr} {q q2 pos : Pos} {a : Addr} {oe : Obj} {dO : Option Addr} (W : WordOk Y.prog Y.w Y.K Y.mg Y.base ex k) (hg : Gl Y "_law_word") (hr : RoomH (k + 1) Y.A) (hot : Hot1 Y.A (a, oe)) (hp : (a, oe) ∈ Y.pn) (hz : Zc (.ref (ex wi)) dO oe) (hf : ∃ vs, oe.data = .fields vs) (F : ExF Y.K ex wi) (hw : wi < 10) (hv : PE Y (.Name y q2) (tVar i)) :
    PE Y (.Call (.Name "_law_word" q) [.Name y q2] [] pos) (fun σ H Q => σ[i]? = some (some (.ref a)) ∧ (∀ dx, dO = some dx → ∃ gs, H dx = some (.xd gs)) ∧ ∃ (ρ : Rho Y.K) (S : Sto), Rel ρ H S ∧ Post (.ok (wordD wi) S) ρ S H Q C8.E0) := by
  obtain ⟨f, fd, params, body, scope, Fd, Sc, hm, hb, hbody⟩ := W.ex
  refine ⟨fun pins s σ H Q I h => ?_⟩
  obtain ⟨h1, hdx, ρ, S, rr, pp⟩ := h
  refine wpAny_Call_Name_kw (ld_glob I hg hm ?_ (by decide))
  refine PySem.W.callWith_K (h₀ := Y.base) I.ok.mod.kin Fd.kp (thn ((pa_cons hv pa_nil).run pos pins s σ H (fun vs H1 => vs = [V.ref a] ∧ H1 = H) I ⟨.ref a, h1, rfl, rfl⟩) fun us s1 hu => ?_) rfl rfl
  obtain ⟨vs, H1, I1, r1, ev, eH⟩ := hu
  subst ev; rw [eH] at I1
  refine ⟨I1.kIn, ?_⟩
  have P1 := I1.pin (a, oe) (List.mem_append_left _ hp)
  have hpin : PinOk Y.stack H s1 (a, oe) := ⟨P1.1, P1.2.1, fun hm => (List.mem_cons.mp (I1.stkSub a hm)).elim P1.2.2.1 P1.2.2.2.1, P1.2.2.2.2⟩
  have hl : us.length = 1 := by rw [← r1.length]; rfl
  have bb := hb s1 us I1.kIn (by rw [List.append_nil]; exact hl)
  rw [List.append_nil] at bb
  refine wpAny_call (codeAny_mono (run_hot (CX := C8.CX0) (E := C8.E0) (Q := Q) Fd Sc hr hpin I1.env0 bb r1 rfl fun cdv hr2 => ?_) fun r s' hq => ?_)
  · have hthere : ∀ dx, dO = some dx → ∃ o, s1.heap.get? dx = some o := fun dx e => by
      obtain ⟨gs, hg⟩ := hdx dx e
      obtain ⟨_, ⟨o, _, _, ho, _⟩, _⟩ := I1.hok dx _ hg
      exact ⟨o, ho⟩
    refine ⟨_, hbody wi a oe cdv Y.A Y.stack s1 H C8.E0 hw ⟨Sc.nd, by have := hr2.un; show (Y.A.deeper _).units + 64 < cLine; omega, ⟨(a, oe), hot, List.mem_singleton.mpr rfl⟩, List.mem_singleton.mpr rfl, ⟨dO, hz, fun dx e => ⟨(fun z => nomatch (show dx ∈ ([] : List Addr) from z)), hthere dx e⟩⟩, hf, F⟩, ρ, S, [some (.adr a), none, none, none], rr, ?_, ?_⟩
    · exact relE_start (N := ["e", "flags", "words", "flag"]) (ds := [.adr a]) (vs := [.ref a]) (.cons (.adr a) .nil)
    · rw [word_ok a hw S]
      exact pp
  · match r, hq with
    | .error e, hq => exact (show False from hq).elim
    | .ok (.ret u), hq => exact I1.after hq
    | .ok .next, hq => exact False.elim hq
    | .ok .brk, hq => exact False.elim hq
    | .ok .cont, hq => exact False.elim hq
end SF

namespace SF
open PySem PySem.Spec PyProof.Rows L2 HotX L2H
def tabsOf (S : Sto) : List (Addr × Str) := S.filterMap fun c => match c with
  | .tab P q => some (P, q)
  | _ => none
theorem mem_tabs {S : Sto} {P : Addr} {q : Str} : (P, q) ∈ tabsOf S ↔ ∃ i : Nat, S[i]? = some (Cell.tab P q) := by
  unfold tabsOf
  rw [List.mem_filterMap]
  constructor
  · rintro ⟨c, hc, e⟩
    obtain ⟨i, hi⟩ := List.getElem?_of_mem hc
    cases c with
    | tab P' q' => cases e; exact ⟨i, hi⟩
    | _ => cases e
  · rintro ⟨i, hi⟩
    exact ⟨_, List.mem_of_getElem? hi, rfl⟩
section
variable {K : PySem.W.Frag} {ρ : Rho K} {S : Sto} {H H1 : Hp}
theorem Rel.tab_at (r : Rel ρ H S) {i : Nat} {P : Addr} {q : Str} (h : S[i]? = some (.tab P q)) : ρ.own[i]? = some P ∧ RelC ρ S H P (.tab P q) := by
  have hi : i < ρ.own.length := by rw [r.len]; exact (List.getElem?_eq_some_iff.mp h).1
  have rc := r.cell i _ _ (List.getElem?_eq_getElem hi) h
  have e := rc.1
  rw [e] at rc
  exact ⟨by rw [List.getElem?_eq_getElem hi, e], rc⟩
theorem Rel.tabs (r : Rel ρ H S) : LamX.Tabs (tabsOf S) H := fun p hp => by
  obtain ⟨i, hi⟩ := mem_tabs.mp hp
  obtain ⟨_, _, ps, h1, h2, h3⟩ := r.tab_at hi
  exact ⟨ps, h1, h2, fun pos cv hc => let ⟨c, e1, e2, _⟩ := h3 pos cv hc; ⟨c, e1, e2⟩⟩
theorem Rel.tab_uniq (r : Rel ρ H S) {P : Addr} {q q' : Str} (h : (P, q) ∈ tabsOf S) (h' : (P, q') ∈ tabsOf S) : q = q' := by
  obtain ⟨i, hi⟩ := mem_tabs.mp h
  obtain ⟨j, hj⟩ := mem_tabs.mp h'
  have := r.inj i j P (r.tab_at hi).1 (r.tab_at hj).1
  subst this
  rw [hi] at hj
  cases hj
  rfl
/-- the tables have grown -/
theorem Rel.grown (r : Rel ρ H S) (e : LamX.ExtN H H1) (t : LamX.Tabs (tabsOf S) H1) : Rel ρ H1 S ∧ Ext ρ S H ρ S H1 := by
  have ex : Ext ρ S H ρ S H1 := ⟨⟨fun _ _ z => z, fun a o h n x => ⟨e a o h x, n⟩⟩, rfl, fun a ha => by
    obtain ⟨o, h, p⟩ := r.prt a ha
    rw [h, e a o h p.t]⟩
  refine ⟨⟨r.len, r.inj, fun i a c h1 h2 => ?_, fun i a h => ?_, r.apart, fun a ha => ?_⟩, ex⟩
  · have rc := r.cell i a c h1 h2
    have k : ∀ {u : HO}, (∀ ps, u ≠ .tbl ps) → H a = some u → ∀ o, H a = some o → H1 a = some o := fun {u} hu h o h' => by
      rw [h] at h'
      cases h'
      exact e a u h hu
    cases c with
    | dead => obtain ⟨o, h, n⟩ := rc; exact ⟨o, e a o h n, n⟩
    | lst ds => have h := rc; obtain ⟨vs, h, _⟩ := h; exact rc.mono ex (k (fun _ z => by cases z) h)
    | dct kvs => have h := rc; obtain ⟨vs, h, _⟩ := h; exact rc.mono ex (k (fun _ z => by cases z) h)
    | ins C fs => have h := rc; obtain ⟨dx, vs, h, _⟩ := h; exact rc.mono ex (k (fun _ z => by cases z) h)
    | tab P q =>
      have ea := rc.1
      subst ea
      obtain ⟨ps, g1, g2, g3⟩ := t (a, q) (mem_tabs.mpr ⟨i, h2⟩)
      refine ⟨rfl, ps, g1, g2, fun pos cv hc => ?_⟩
      obtain ⟨c, e1, e2⟩ := g3 pos cv hc
      refine ⟨c, e1, e2, fun l => ?_⟩
      rcases l with l | ⟨j, c', l1, l2, l3⟩
      · obtain ⟨o, h, p⟩ := r.prt c l
        have h' := e c o h p.t
        have h' : H1 c = some o := h'
        have e2 : H1 c = some (LamX.CodeO c q) := e2
        rw [e2] at h'
        exact p.x _ (Option.some.inj h').symm
      · have rc' := r.cell j c c' l1 l2
        have e2 : H1 c = some (LamX.CodeO c q) := e2
        have bad : ∀ {u : HO}, (∀ ps, u ≠ .tbl ps) → H c = some u → (∀ f, u ≠ .ext f) → False := fun {u} hu h hx => by
          have h' := e c u h hu
          have h' : H1 c = some u := h'
          rw [e2] at h'
          exact hx _ (Option.some.inj h').symm
        cases c' with
        | dead => exact l3 rfl
        | lst ds => obtain ⟨vs, h, _⟩ := rc'; exact bad (fun _ z => by cases z) h (fun _ z => by cases z)
        | dct kvs => obtain ⟨vs, h, _⟩ := rc'; exact bad (fun _ z => by cases z) h (fun _ z => by cases z)
        | ins C fs => obtain ⟨dx, vs, h, _⟩ := rc'; exact bad (fun _ z => by cases z) h (fun _ z => by cases z)
        | tab P' q' =>
          have ea := rc'.1
          subst ea
          obtain ⟨ps', k1, _⟩ := t (c, q') (mem_tabs.mpr ⟨j, l2⟩)
          have k1 : H1 c = some (.tbl ps') := k1
          rw [e2] at k1
          exact LamX.codeO_ne ps' (Option.some.inj k1)
  · obtain ⟨o, h⟩ := r.there i a h
    by_cases hn : ∀ ps, o ≠ .tbl ps
    · exact ⟨o, e a o h hn⟩
    · have hi : i < S.length := by rw [← r.len]; exact (List.getElem?_eq_some_iff.mp ‹ρ.own[i]? = some a›).1
      have rc := r.cell i a _ ‹ρ.own[i]? = some a› (List.getElem?_eq_getElem hi)
      cases hc : S[i] with
      | dead => rw [hc] at rc; obtain ⟨o', h', n'⟩ := rc; rw [h] at h'; cases h'; exact absurd n' hn
      | lst ds => rw [hc] at rc; obtain ⟨vs, h', _⟩ := rc; exact ⟨_, e a _ h' (fun _ z => by cases z)⟩
      | dct kvs => rw [hc] at rc; obtain ⟨vs, h', _⟩ := rc; exact ⟨_, e a _ h' (fun _ z => by cases z)⟩
      | ins C fs => rw [hc] at rc; obtain ⟨dx, vs, h', _⟩ := rc; exact ⟨_, e a _ h' (fun _ z => by cases z)⟩
      | tab P q =>
        rw [hc] at rc
        have ea := rc.1
        subst ea
        obtain ⟨ps, g1, _⟩ := t (a, q) (mem_tabs.mpr ⟨i, by rw [List.getElem?_eq_getElem hi, hc]⟩)
        exact ⟨_, g1⟩
  · obtain ⟨o, h, p⟩ := r.prt a ha
    exact ⟨o, e a o h p.t, p⟩
end
/-! ### told -/
noncomputable def eTold (i : Nat) (tb : Addr × Str) (ex : Nat → Addr) (m : Exp) : Exp := fun en S => open Classical in if S[i]? = some (.tab tb.1 tb.2) then (match m en S with
  | .ok d S' => .ok d S'
  | .exc x S' => if x.C = ex x.w ∧ x.w < 10 then .ok (wordD x.w) S' else .stuck
  | .stuck => .stuck) else .stuck
/-- _law_told, as it stands -/
structure ToldOk (P : Program) (w : World) (K : PySem.W.Frag) (mg : Str → Option Value) (base : Heap) (ex : Nat → Addr) (k : Nat) : Prop where
  W : WordOk P w K mg base ex k
  F : ∀ wi, wi < 10 → ExF K ex wi
  st : ∃ CS : Addr, mg "StageError" = some (.ref CS) ∧ ∀ wi, wi < 10 → PySem.W.exmOne K (.ref (ex wi)) (.ref CS) = some true
  fn : ∃ (g : Addr) (fd : FuncData) (params : Arguments) (scope : Scope) (p1 p2 p3 p4 p5 p6 p7 p8 p9 p10 : Pos), FunD K "_law_told" "_law_told" params [.Try [.Return (some (.Call (.Name "deed" p1) [] [] p2)) p3] [.ExceptHandler (some (.Name "StageError" p4)) (some "e") [.Return (some (.Call (.Name "_law_word" p5) [.Name "e" p6] [] p7)) p8] p9] [] [] p10] scope [] [] g fd ∧
    FnScope ["deed", "e"] ["deed"] scope ∧ mg "_law_told" = some (.ref g) ∧ Binds K fd ["deed"] [] ∧ scope.names.lookup ("deed" : Str) = some .local ∧ scope.names.lookup ("e" : Str) = some .local ∧ scope.names.lookup ("StageError" : Str) = some .globalImplicit ∧ scope.names.lookup ("_law_word" : Str) = some .globalImplicit
/-- what a def with a lambda must know of its own code and table -/
structure TabH (X : Cx) (tb : Addr × Str) : Prop where
  t : ∃ c : Addr, LamX.TabB X.base X.mg c tb.1 ∧ X.env.code = .ref c
  q : tb.2 = X.env.qual ++ "<lambda>"
theorem pm_told {X : Cx} {E : XK} {i k : Nat} {tb : Addr × Str} {ex : Nat → Addr} {params : Arguments} {body : Expr} {scope : Scope} {m : Exp} {p lpos pos : Pos} (c : Ctx X E (k + 4)) (hT : ToldOk X.prog X.w X.K X.mg X.base ex k) (hB : TabH X tb) (hg : Gl X "_law_told") (L : LamX.LamS X.env.scope scope) (hdef : defaultsOf params X.env = ([], []))
    (hbind : ∀ (q : Str) (cl : List (Str × Addr)) (pm cv ctv : Value), bindArgs (PySem.W.kla_fn "<lambda>" q params body scope cl pm cv ctv) ⟨[], []⟩ = pure [])
    (hbody : ∀ (A : Around) (outer : List Env) (s : Shared) (H : Hp) (E : XK) (f c' : Addr), Ctx (lamN X A outer s H E scope f c') E (k + 2) → PM (lamN X A outer s H E scope f c') E body m) :
    PM X E (.Call (.Name "_law_told" p) [.Lambda params body scope lpos] [] pos) (eTold i tb ex m) := by
  obtain ⟨P, qq⟩ := tb
  obtain ⟨g, fd, pg, sg, p1, p2, p3, p4, p5, p6, p7, p8, p9, p10, Fg, Sg, hm, hb, hs1, hs2, hs3, hs4⟩ := hT.fn
  obtain ⟨CS, hS, hex⟩ := hT.st
  obtain ⟨cc, TB, hcode⟩ := hB.t
  have hq : qq = X.env.qual ++ "<lambda>" := hB.q
  refine ⟨fun pins s σ H Q I t => ?_⟩
  obtain ⟨ρ, S, en, rr, re, pp⟩ := t
  unfold eTold at pp
  split at pp
  case isFalse => exact pp.elim
  rename_i hti
  have htm : (P, X.env.qual ++ "<lambda>") ∈ tabsOf S := mem_tabs.mpr ⟨i, by rw [← hq]; exact hti⟩
  refine wpAny_Call_Name_kw (ld_glob I hg hm ?_ (by decide))
  refine PySem.W.callWith_K (h₀ := X.base) I.ok.mod.kin Fg.kp ?_ (by rfl) (by rfl)
  show wpAny _ _ (spliced ((false, eval (.Lambda params body scope lpos) X.env) :: backTo pos (starEach [] X.env))) _ _ s
  refine Calls.spliced_cons (LamX.lam_make2 (T := tabsOf S) I TB hcode htm (fun z hz e => ?_) rr.tabs hdef (L.has I.ok) fun f c' pm' ctv H1 s1 I1 eN T1 hf hfn hfr hco => ?_)
  · obtain ⟨z1, z2⟩ := z
    have e : z1 = P := e
    subst e
    exact rr.tab_uniq hz htm
  refine Calls.spliced_nil ⟨I1.kIn, ?_⟩
  obtain ⟨rr1, ex1⟩ := rr.grown eN T1
  have re1 := re.mono ex1
  obtain ⟨oc, od, dV, kV, doc, pm, an, cdv, ct, osl, efd, lk, hcd, _, _⟩ := Fg.ex
  subst efd
  have hr4 := c.room
  have rc : codeAny (model X.prog X.w) X.A (.call (.ref g) ⟨[.ref f], []⟩) (CR C8.CX0 X.stack X.prog X.w H1 s1 Q C8.E0) s1 := by
    refine LamX.run_ofS (N := ["deed", "e"]) (ps := ["deed"]) (us := [.ref f]) (vs := [.ref f]) (k := k + 3) lk hcd Sg hr4 I1.env0 (hb s1 [.ref f] I1.kIn rfl) (.cons rfl .nil) rfl fun hr' => ?_
    refine ⟨_, PSs.nox (pss_one (L2N.ps_try_as (X := (cxOf C8.CX0 X.prog X.w X.K X.mg X.base ["deed", "e"] "_law_told" sg g cdv X.A X.stack s1 H1 C8.E0).nox) (c := .ref CS) (i := 1) (Wout := fun _ _ _ _ => False)
      (tb := fun W D σ2 H2 => ∃ Ech : XK, (∀ cls d σ' H', Ech cls d H' → W cls d σ' H') ∧ σ2[0]? = some (some (.ref f)) ∧ H2 c' = some (LamX.CodeO c' (X.env.qual ++ "<lambda>")) ∧ tM X.K Ech m σ H2 D.rt)
      (ts := fun a cls d D σ2 H2 => ∃ (wi : Nat) (ρ2 : Rho X.K) (S2 : Sto), cls = .ref (ex wi) ∧ wi < 10 ∧ (∀ dx, d = some dx → ∃ gs, H2 dx = some (.xd gs)) ∧ (∃ σ0 : L2.St, σ2 = σ0.set 1 (some (.ref a))) ∧ Rel ρ2 H2 S2 ∧ Post (.ok (wordD wi) S2) ρ2 S2 H2 D.rt C8.E0)
      rfl rfl Sg.nd rfl hs2 ⟨hs3, by decide, .inl hS⟩ takes0N (fun W pn xe tk _ => ?_) (fun a oe cls d pn hz hfz => ?_))), ?_⟩
    · refine ⟨fun pins2 s2 σ2 H2 D2 I2 h2 => ?_⟩
      obtain ⟨Ech, hW, k1, k2, k3⟩ := h2
      have hact := pe_actN (tb := tM X.K Ech m) (CXg := C8.CX0) (Eg := C8.E0) (qg := "_law_told") (Ng := ["deed", "e"]) (i := 0) (pn := pn) (xe := xe) (p1 := p1) (p2 := p2) (cdg := cdv) (g := g) I1 L hf hfn hfr (hbind _ _ _ _ _) tk hW hr' (fun A outer s H hr2 => hbody A outer s H Ech f c' (lam_ctx c.nd hr2)) rfl (.inl hs1)
      exact (pss_one (ps_ret (pos := p3) hact)).run pins2 s2 σ2 H2 D2 I2 ⟨k1, k2, k3⟩
    · refine ⟨fun pins2 s2 σ2 H2 D2 I2 h2 => ?_⟩
      obtain ⟨wi, ρ2, S2, e1, e2, e3, e4, e5, e6⟩ := h2
      subst e1
      obtain ⟨vsz, hvz⟩ := hfz
      have e4 : σ2[1]? = some (some (.ref a)) := by
        obtain ⟨σ0, rfl⟩ := e4
        have hl : (σ0.set 1 (some (V.ref a))).length = 2 := I2.len
        rw [List.length_set] at hl
        exact List.getElem?_set_self (by omega)
      have hrH : RoomH (k + 1) ((X.A.deeper (envOfC "_law_told" sg s1.heap.objs.size g cdv)).mark (some (.ref a))) := by
        have h0 := roomH_of (hr'.mono (by omega : k + 1 ≤ k + 3))
        exact ⟨h0.dp, h0.un⟩
      have hw := pe_word (Y := (cxOf C8.CX0 X.prog X.w X.K X.mg X.base ["deed", "e"] "_law_told" sg g cdv X.A X.stack s1 H1 C8.E0).nox.suite a ((a, oe) :: pn)) (y := "e") (i := 1) (k := k) (wi := wi) (ex := ex) (q := p5) (q2 := p6) (pos := p7) (a := a) (oe := oe) hT.W hs4
        hrH ⟨rfl, vsz, hvz, hz.2.2 vsz hvz⟩ List.mem_cons_self hz.zc ⟨vsz, hvz⟩ (hT.F wi e2) e2 (pe_var rfl (.inl hs2))
      exact (pss_one (ps_ret (pos := p8) hw)).run pins2 s2 σ2 H2 D2 I2 ⟨e4, e3, ρ2, S2, e5, e6⟩
    · refine ⟨fun cls dO H2 => ∃ (wi : Nat) (ρ2 : Rho X.K) (S2 : Sto), cls = .ref (ex wi) ∧ wi < 10 ∧ (∀ dx, dO = some dx → ∃ gs, H2 dx = some (.xd gs)) ∧ Rel ρ2 H2 S2 ∧ Post (.ok (wordD wi) S2) ρ2 S2 H2 Q C8.E0, fun cls d σ' H' hh => ?_, rfl, hco, ρ, S, en, rr1, re1, ?_⟩
      · obtain ⟨wi, ρ2, S2, e1, e2, e3, e4, e5⟩ := hh
        subst e1
        exact ⟨true, hex wi e2, fun _ a _ => ⟨wi, ρ2, S2, rfl, e2, e3, ⟨σ', rfl⟩, e4, e5⟩, fun z => by cases z⟩
      · have pp1 := pp.ext ex1
        cases hms : m en S with
        | ok d S' => rw [hms] at pp1; exact pp1
        | stuck => rw [hms] at pp1; exact pp1
        | exc x S' =>
          rw [hms] at pp1
          dsimp only at pp1
          split at pp1
          · rename_i hx
            intro dO H' ρ' e1 r1 xr
            refine ⟨x.w, ρ', S', by rw [hx.1], hx.2, fun dx ed => ?_, r1, PostG.ext pp1 e1⟩
            rcases xr with xr | ⟨_, dx', gs, h1, h2, _⟩
            · rw [xr.2] at ed; cases ed
            · rw [h1] at ed; cases ed; exact ⟨gs, h2⟩
          · exact pp1.elim
  refine wpAny_call (codeAny_mono rc fun r s2 hq => ?_)
  match r, hq with
  | .error e, hq => exact (show False from hq).elim
  | .ok (.ret u), hq => exact I1.after hq
  | .ok .next, hq => exact False.elim hq
  | .ok .brk, hq => exact False.elim hq
  | .ok .cont, hq => exact False.elim hq
end SF

/-! raise; defs whose code is known; the top's facts with tables and exception classes; the law's end with tables. -/
namespace SF
open PySem PySem.Spec PyProof.Rows L2
/-! ### raise -/
structure ExcR (K : PySem.W.Frag) (mg : Str → Option Value) (x : Str) (C : Addr) : Prop where
  q : PySem.W.excIn K C He.veBase "ValueError.__new__" = true
  g : mg x = some (.ref C)
  k : PySem.W.keepIn K (.ref C) = true
  b : PySem.W.subIn K (.ref C) (.type "BaseException") = some true
  t : PySem.W.typeIn K (.ref C) = some (.type "type")
theorem pms_raise {X : Cx} {E : XK} {k : Nat} {x m : Str} {C : Addr} {j w : Nat} {p p2 pos pos' : Pos} (c : Ctx X E k) (f : ExcR X.K X.mg x C) (hg : Gl X x) (hdb : (x == ("__debug__" : Str)) = false := by decide) : PMS X E (.Raise (some (.Call (.Name x p) [.Constant (.str m) j p2] [] pos)) none pos') (sRaise C w) := by
  refine ⟨fun pins s σ H D I t => (L2N.ps_raise c.calm c.takes (L2N.pmk_own PySem.F.excBase_ValueError f.q f.g f.k (raises_own f.b f.t) hg hdb)).run pins s σ H D I ?_⟩
  obtain ⟨ρ, S, en, rr, re, pp⟩ := t
  exact pp none H ρ (Ext.refl _ _ _) rr (.inl ⟨rfl, rfl⟩)
/-! ### a def whose code is known -/
section
variable {P : Program} {w : World} {K : PySem.W.Frag} {mg : Str → Option Value} {base : Heap}
theorem fn_rawC {x qual : Str} {st : Stmt} {f : Addr} {fd : FuncData} {N ps : List Str} {k : Nat} {m : Stm} {fM : List D → Sto → R D} {dvs : List V} {kws : List (Str × V)} (F : FunD K x qual (defArgs st) (defBody st) (defScope st) dvs kws f fd) (Sc : FnScope N ps (defScope st))
    (hb : ∀ (cdv : Value) (A : Around) (outer : List Env) (s : Shared) (H : Hp) (E : XK), fd.code = cdv → Ctx (cxOf (L2N.CX P w) P w K mg base N qual (defScope st) f cdv A outer s H E) E k → PMSs (cxOf (L2N.CX P w) P w K mg base N qual (defScope st) f cdv A outer s H E) E (defBody st) m)
    (hs : ∀ ds S, ds.length = ps.length → Le (fM ds S) (runB m N.length ds S)) : FnOk P w K mg base (L2N.CX P w) (k + 1) f fd ps (spM K ps.length fM) := by
  obtain ⟨oc, od, dV, kV, doc, pm, an, cdv, ct, osl, rfl, lk, hcd, _, _⟩ := F.ex
  refine fn_of lk hcd Sc (fun vs H Q E h => h.len) fun A outer s H vs Q E hr h => ?_
  have c : Ctx (cxOf (L2N.CX P w) P w K mg base N qual (defScope st) f cdv A outer s H E) E k := ⟨rfl, Sc.nd, L2N.takes_of rfl rfl rfl rfl, passes_of rfl, hr⟩
  refine ⟨_, hb cdv A outer s H E rfl c, ?_⟩
  obtain ⟨ρ, S, ds, r, q, p⟩ := h
  unfold arg at p
  split at p
  · rename_i hl
    have p := p.le (hs ds S hl)
    refine ⟨ρ, S, env0 N.length ds, r, relE_start q, ?_⟩
    unfold runB at p
    cases hm : m (env0 N.length ds) S with
    | nx en' S' => rw [hm] at p; exact fun σ' H' ρ' e1 r1 _ => p .non H' ρ' e1 r1 .non
    | rt d S' => rw [hm] at p; exact p
    | exc d S' => rw [hm] at p; exact p
    | stuck => rw [hm] at p; exact p
  · exact p.elim
end
/-! ### the top's facts -/
def tabOf (g : Addr → Option Obj) (K : PySem.W.Frag) (p : Str × Option Str) : Addr × Addr := match K.lookup (He.fAd K p) with
  | some ⟨_, _, .func fd, _⟩ => (match fd.code with
    | .ref c => (match g c with
      | some ⟨_, _, .fields vs, _⟩ => (match vs.getD 11 .none with
        | .ref P => (c, P)
        | _ => (c, 0))
      | _ => (c, 0))
    | _ => (0, 0))
  | _ => (0, 0)
def codeB (g : Addr → Option Obj) (c P : Addr) : Bool := match g c with
  | some ⟨.type t, _, .fields vs, _⟩ => decide (t = "code") && (decide (11 < vs.size) && ((match vs.getD 11 .none with
      | .ref P' => decide (P' = P)
      | _ => false) && ((match vs.getD 18 .none with
      | .str _ _ => true
      | _ => false) && ((match vs.getD 7 .none with
      | .int _ _ => true
      | _ => false) && ((match vs.getD 9 .none with
      | .bool _ => true
      | _ => false) && ((match vs.getD 10 .none with
      | .int _ _ => true
      | _ => false) && !decide (c = P)))))))
  | _ => false
theorem codeB_ok {g : Addr → Option Obj} {h : Heap} (hg : ∀ a, g a = h.get? a) {c P : Addr} (e : codeB g c P = true) : PySem.W.CodeHd h c P := by
  unfold codeB at e
  split at e
  · rename_i t dd vs sl ho
    simp only [Bool.and_eq_true, decide_eq_true_eq, Bool.not_eq_true', decide_eq_false_iff_not] at e
    obtain ⟨e1, e2, e3, e4, e5, e6, e7, e8⟩ := e
    split at e3
    case h_2 => cases e3
    rename_i P' h11
    split at e4
    case h_2 => cases e4
    rename_i x1 t1 h18
    split at e5
    case h_2 => cases e5
    rename_i x2 t2 h7
    split at e6
    case h_2 => cases e6
    rename_i x3 h9
    split at e7
    case h_2 => cases e7
    rename_i x4 t4 h10
    have e3 : P' = P := by simpa using e3
    subst e3
    subst e1
    refine ⟨_, vs, x1, t1, x2, t2, x3, x4, t4, (hg c).symm.trans ho, rfl, rfl, ?_, h11, h18, h7, h9, h10, e8⟩
    rw [Array.getD_eq_getD_getElem?] at h11
    rw [Array.getElem?_eq_getElem e2] at h11 ⊢
    rw [← h11]
    rfl
  · cases e
def tabEB (g : Addr → Option Obj) (P : Addr) : Bool := match g P with
  | some ⟨.none, none, .fields vs, sl⟩ => vs.isEmpty && sl.isEmpty
  | _ => false
theorem tabEB_ok {g : Addr → Option Obj} {h : Heap} (hg : ∀ a, g a = h.get? a) {P : Addr} (e : tabEB g P = true) : h.get? P = some { cls := .none, data := .fields #[] } := by
  unfold tabEB at e
  split at e
  · rename_i vs sl ho
    simp only [Bool.and_eq_true, Array.isEmpty_iff] at e
    obtain ⟨rfl, rfl⟩ := e
    exact (hg P).symm.trans ho
  · cases e
def cutK (K : PySem.W.Frag) (ps : List Addr) : PySem.W.Frag := K.filter fun q => !ps.contains q.1
theorem cutK_at {ps : List Addr} {a : Addr} : ∀ {K : PySem.W.Frag}, (cutK K ps).lookup a = if ps.contains a = true then none else K.lookup a
  | [] => by simp [cutK]
  | (b, o) :: r => by
    have ih := cutK_at (ps := ps) (a := a) (K := r)
    unfold cutK at ih ⊢
    rw [List.filter_cons]
    by_cases hb : ps.contains b = true
    · rw [if_neg (by simp only [hb]; decide), ih]
      by_cases ha : a = b
      · subst ha; rw [if_pos hb, if_pos hb]
      · rw [List.lookup_cons, beq_false_of_ne ha]
    · rw [if_pos (by simp only [Bool.not_eq_true'] ; exact Bool.eq_false_iff.mpr hb), List.lookup_cons, List.lookup_cons, ih]
      by_cases ha : a = b
      · subst ha; rw [if_neg hb, beq_self_eq_true, if_neg hb]
      · rw [beq_false_of_ne ha]
/-- the class of number w -/
def exA (K : PySem.W.Frag) (w : Nat) : Addr := He.ga K (exName w)
def exB0 (K : PySem.W.Frag) (w : Nat) : Bool := He.eqO (PySem.W.findIn K (.ref (exA K w)) "__getattribute__") (some (some (.builtin "BaseException.__getattribute__"))) && (He.eqO (PySem.W.findIn K (.ref (exA K w)) "__getattr__") (some none) && (decide (PySem.W.subIn K (.ref (exA K w)) (.type "BaseException") = some true) && (PySem.W.hasDictIn K (exA K w) &&
  (He.eqO (PySem.W.findIn K (.ref (exA K w)) "__class__") (some (some (.builtin "object.__class__"))) && (He.eqO (PySem.W.specialIn K (.builtin "object.__class__") "__get__") (some (some (.builtin "getset_descriptor.__get__"))) && (decide (PySem.W.takesIn K (.builtin "object.__class__") = some true) && (decide (PySem.W.mroIn K (exA K w) (.type "object") = some true) &&
  (((List.range 10).all fun j => decide (PySem.W.kitOne K (.ref (exA K w)) (.ref (exA K j)) = some (decide (j = w)))) && (decide (PySem.W.kitOne K (.ref (exA K w)) (.type "ValueError") = some true) && decide (PySem.W.exmOne K (.ref (exA K w)) (.ref (He.ga K "StageError")) = some true))))))))))
/-- the class Full and its __init__ -/
def fullB (K : PySem.W.Frag) : Bool := let C := He.ga K "Full"; let D := He.ga K "StageError"
  (match K.lookup C with
    | some ⟨.type t, _, .cls cd, sl⟩ => decide (t = "type") && (match cd.mro, sl.toList with
      | .ref C' :: bm, [_, _, _, _, some (.builtin n), _] => decide (C' = C) && (decide (n = "ValueError.__new__") && (!cd.hasDel && (cd.hasDict && PySem.HandSPX.refsVE bm)))
      | _, _ => false)
    | _ => false) && (He.eqO (PySem.W.findIn K (.ref C) "__setattr__") (some (some (.builtin "object.__setattr__"))) && (decide (PySem.W.subIn K (.ref C) (.type "BaseException") = some true) && (decide (PySem.W.typeIn K (.ref C) = some (.type "type")) && (PySem.W.keepIn K (.ref C) &&
    (He.eqO (PySem.W.findIn K (.ref C) "most") (some none) && (He.eqO (PySem.W.findIn K (.ref C) "__init__") (some (some (.ref (He.ma K C "__init__")))) && (decide (PySem.W.typeIn K (.ref (He.ma K C "__init__")) = some (.type "function")) && (He.eqO (PySem.W.specialIn K (.ref D) "__getattribute__") (some (some (.builtin "type.__getattribute__"))) &&
    (PySem.W.readsIn K D (.type "type") && (decide (PySem.W.typeIn K (.ref D) = some (.type "type")) && (match PySem.W.findCls K (.ref D) (.type "type") "__init__" with
      | some (.val (.builtin n)) => decide (n = "ValueError.__init__")
      | _ => false)))))))))))
structure FullC (K : PySem.W.Frag) (C D fI : Addr) : Prop where
  T : OexC K C
  no : PySem.W.findIn K (.ref C) "most" = some none
  ini : PySem.W.findIn K (.ref C) "__init__" = some (some (.ref fI))
  tI : PySem.W.typeIn K (.ref fI) = some (.type "function")
  ga : PySem.W.specialIn K (.ref D) "__getattribute__" = some (some (.builtin "type.__getattribute__"))
  rd : PySem.W.readsIn K D (.type "type") = true
  ty : PySem.W.typeIn K (.ref D) = some (.type "type")
  fc : PySem.W.findCls K (.ref D) (.type "type") "__init__" = some (.val (.builtin "ValueError.__init__"))
theorem fullB_ok {K : PySem.W.Frag} (h : fullB K = true) : FullC K (He.ga K "Full") (He.ga K "StageError") (He.ma K (He.ga K "Full") "__init__") := by
  unfold fullB at h
  simp only [Bool.and_eq_true, decide_eq_true_eq] at h
  obtain ⟨h1, h2, h3, h4, h5, h6, h7, h8, h9, h10, h11, h12⟩ := h
  refine ⟨⟨?_, He.eqO_ok h2, h3, h4, h5⟩, He.eqO_ok h6, He.eqO_ok h7, h8, He.eqO_ok h9, h10, h11, ?_⟩
  · split at h1
    case h_2 => cases h1
    rename_i t dd cd sl ho
    simp only [Bool.and_eq_true, decide_eq_true_eq] at h1
    obtain ⟨rfl, h1⟩ := h1
    split at h1
    case h_2 => cases h1
    rename_i C' bm k0 k1 k2 k3 n k5 hm hs
    simp only [Bool.and_eq_true, decide_eq_true_eq, Bool.not_eq_true'] at h1
    obtain ⟨rfl, rfl, hdel, hd, hv⟩ := h1
    obtain ⟨nm, bs, mro, ns, qn, hdc, sn, sub, ab, col, del⟩ := cd
    dsimp only at hm hdel hd
    subst hm hdel hd
    have hsl : sl = #[k0, k1, k2, k3, some (.builtin "ValueError.__new__"), k5] := by
      obtain ⟨l⟩ := sl
      simp only at hs
      rw [hs]
    subst hsl
    exact ⟨_, _, _, _, _, _, _, _, _, _, _, _, _, _, _, ho, hv⟩
  · split at h12
    case h_2 => cases h12
    rename_i n e
    rw [e, of_decide_eq_true h12]
def exB (K : PySem.W.Frag) (w : Nat) : Bool := if w < 10 then exB0 K w else fullB K
theorem exB_full {K : PySem.W.Frag} (h : exB K 10 = true) : fullB K = true := h
theorem exB_ok {K : PySem.W.Frag} {w : Nat} (h : exB K w = true) (hw : w < 10) : ExF K (exA K) w ∧ PySem.W.exmOne K (.ref (exA K w)) (.ref (He.ga K "StageError")) = some true := by
  unfold exB at h
  rw [if_pos hw] at h
  unfold exB0 at h
  simp only [Bool.and_eq_true, decide_eq_true_eq, List.all_eq_true, List.mem_range] at h
  obtain ⟨h1, h2, h3, h4, h5, h6, h7, h8, h9, h10, h11⟩ := h
  exact ⟨⟨⟨He.eqO_ok h1, He.eqO_ok h2, h3, h4, He.eqO_ok h5, He.eqO_ok h6, h7, h8⟩, fun j hj => h9 j hj, h10⟩, h11⟩
/-- a def's code -/
def codeIs (K : PySem.W.Frag) (p : Str × Option Str) (c : Addr) : Bool := match K.lookup (He.fAd K p) with
  | some ⟨_, _, .func fd, _⟩ => (match fd.code with
    | .ref c' => decide (c' = c)
    | _ => false)
  | _ => false
theorem codeIs_ok {K : PySem.W.Frag} {p : Str × Option Str} {c : Addr} (h : codeIs K p c = true) {oc : Value} {od : Option Addr} {fd : FuncData} {osl : Array (Option Value)} (lk : K.lookup (He.fAd K p) = some ⟨oc, od, .func fd, osl⟩) : fd.code = .ref c := by
  unfold codeIs at h
  rw [lk] at h
  dsimp only at h
  split at h
  · rename_i c' e
    rw [e, of_decide_eq_true h]
  · cases h
/-- what is seen of the tables and the classes -/
def seeX (ps : List (Str × Option Str)) (xs : List Nat) (g : Addr → Option Obj) (K0 : PySem.W.Frag) : Bool :=
  let ts := ps.map (tabOf g K0)
  let K := cutK K0 (ts.map (·.2))
  (ts.all fun t => codeB g t.1 t.2 && tabEB g t.2) && (decide ((ts.map (·.2)).Nodup) && ((xs.all fun w => exB K w) && ((ps.zip ts).all fun q => codeIs K q.1 q.2.1)))
abbrev AlX : Type := He.AlD × Bool
def obsX (n : Nat) (fa : List He.Fa) (fn : List He.DefD) (ps : List (Str × Option Str)) (xs : List Nat) (g : Addr → Option Obj) : AlX :=
  let K0 := He.frG g (He.asD g n ++ [cStatics])
  (He.obsD fa fn (cutK K0 ((ps.map (tabOf g K0)).map (·.2))), seeX ps xs g K0)
structure SaysX (fa : List He.Fa) (fn : List He.DefD) (ps : List (Str × Option Str)) (xs : List Nat) (K : PySem.W.Frag) (ts : List (Addr × Addr)) (h : Heap) : Prop where
  kin : K.In h
  d : He.SaysD fa fn K
  len : ts.length = ps.length
  nd : (ts.map (·.2)).Nodup
  tab : ∀ t ∈ ts, h.get? t.2 = some { cls := .none, data := .fields #[] }
  no : ∀ t ∈ ts, K.lookup t.2 = none
  code : ∀ t ∈ ts, PySem.W.CodeHd h t.1 t.2
  ex : ∀ w ∈ xs, exB K w = true
  cd : ∀ (i : Nat) p t, ps[i]? = some p → ts[i]? = some t → codeIs K p t.1 = true
theorem saysX {n : Nat} {fa : List He.Fa} {fn : List He.DefD} {ps : List (Str × Option Str)} {xs : List Nat} {h : Heap} (e : obsX n fa fn ps xs h.get? = (He.valD fn, true)) : ∃ K ts, SaysX fa fn ps xs K ts h := by
  have e1 := congrArg (fun z : AlX => z.1) e
  have e2 := congrArg (fun z : AlX => z.2) e
  have e2 : seeX ps xs h.get? (He.frG h.get? (He.asD h.get? n ++ [cStatics])) = true := e2
  unfold seeX at e2
  simp only [Bool.and_eq_true, decide_eq_true_eq, List.all_eq_true] at e2
  obtain ⟨h1, h2, h3, h4⟩ := e2
  obtain ⟨K0, hK0⟩ : ∃ K0, K0 = He.frG h.get? (He.asD h.get? n ++ [cStatics]) := ⟨_, rfl⟩
  obtain ⟨ts, hts⟩ : ∃ ts, ts = ps.map (tabOf h.get? K0) := ⟨_, rfl⟩
  have hin : K0.In h := by rw [hK0]; exact He.frG_in
  rw [← hK0, ← hts] at h1 h2 h3 h4
  refine ⟨cutK K0 (ts.map (·.2)), ts, fun a o ha => ?_, ?_, by rw [hts, List.length_map], h2, fun t ht => tabEB_ok (fun _ => rfl) (h1 t ht).2, fun t ht => ?_, fun t ht => codeB_ok (fun _ => rfl) (h1 t ht).1, h3, fun i p t hp ht => ?_⟩
  · rw [cutK_at] at ha
    split at ha
    · cases ha
    · exact hin a o ha
  · rw [hts, hK0]
    exact e1
  · rw [cutK_at, if_pos]
    rw [List.contains_iff_mem]
    exact List.mem_map_of_mem ht
  · refine h4 (p, t) (List.mem_iff_getElem?.mpr ⟨i, ?_⟩)
    rw [List.getElem?_zip_eq_some]
    exact ⟨hp, ht⟩
theorem SaysX.keeps {fa : List He.Fa} {fn : List He.DefD} {ps : List (Str × Option Str)} {xs : List Nat} {K : PySem.W.Frag} {ts : List (Addr × Addr)} {h h' : Heap} (s : SaysX fa fn ps xs K ts h) (k : ∀ b o, h.get? b = some o → h'.get? b = some o) : SaysX fa fn ps xs K ts h' :=
  ⟨PySem.W.Frag.In.keeps s.kin k, s.d, s.len, s.nd, fun t ht => k _ _ (s.tab t ht), s.no, fun t ht => (s.code t ht).keeps k, s.ex, s.cd⟩
def hookX (n : Nat) (fa : List He.Fa) (fn : List He.DefD) (ps : List (Str × Option Str)) (xs : List Nat) : PySem.W.Hook where
  α := AlX
  obs := fun s => obsX n fa fn ps xs s.heap.get?
  val := fun _ => (He.valD fn, true)
  says := fun _ h => ∃ K ts, SaysX fa fn ps xs K ts h
  of := fun _ _ e => saysX e
  keeps := fun _ _ _ ⟨K, ts, c⟩ k => ⟨K, ts, c.keeps k⟩
theorem obsX_eq {n : Nat} {fa : List He.Fa} {fn : List He.DefD} {ps : List (Str × Option Str)} {xs : List Nat} {g : Addr → Option Obj} {s : Shared} (h : ∀ a, g a = s.heap.get? a) : obsX n fa fn ps xs g = (hookX n fa fn ps xs).obs s := by
  have e : g = s.heap.get? := funext h
  rw [e] <;> rfl
/-! ### the law's end -/
def tabS (tb : Nat → Addr × Str) (n : Nat) : Sto := (List.range n).map fun j => .tab (tb j).1 (tb j).2
theorem law_endT {K : PySem.W.Frag} {fM : List D → Sto → R D} {H : Hp} {a : Addr} {ns : List Int} {tb : Nat → Addr × Str} {n : Nat} (h : ∀ ns : List Int, ns.length ≤ 63 → ∃ S', fM [.scr ns] (tabS tb n) = .ok (.bl true) S') (hl : ns.length ≤ 63) (hT : ∀ j, j < n → H (tb j).1 = some (.tbl #[])) (hi : ∀ i j, i < n → j < n → (tb i).1 = (tb j).1 → i = j)
    (hS : SqL K H a (ns.map V.int)) : spM K 1 fM [.ref a] H (fun v _ => v = .bl true) fun _ _ _ => False := by
  obtain ⟨ρ, hρ⟩ : ∃ ρ : Rho K, ρ = ⟨(List.range n).map fun j => (tb j).1, []⟩ := ⟨_, rfl⟩
  have own : ∀ (i : Nat) b, ρ.own[i]? = some b ↔ i < n ∧ b = (tb i).1 := fun i b => by
    rw [hρ]
    show ((List.range n).map fun j => (tb j).1)[i]? = some b ↔ _
    rw [List.getElem?_map]
    by_cases hn : i < n
    · rw [List.getElem?_range hn]
      simp [hn, eq_comm]
    · rw [List.getElem?_eq_none (by simpa using hn)]
      simp [hn]
  have cel : ∀ (i : Nat) c, (tabS tb n)[i]? = some c → i < n ∧ c = .tab (tb i).1 (tb i).2 := fun i c hc => by
    unfold tabS at hc
    rw [List.getElem?_map] at hc
    by_cases hn : i < n
    · rw [List.getElem?_range hn] at hc
      cases hc
      exact ⟨hn, rfl⟩
    · rw [List.getElem?_eq_none (by simpa using hn)] at hc
      cases hc
  have prt : ρ.prot = [] := by rw [hρ]
  have nl : ∀ b, (∀ j, j < n → b ≠ (tb j).1) → ¬ live ρ (tabS tb n) b := fun b hb l => by
    rcases l with l | ⟨i, c, l1, _⟩
    · rw [prt] at l; cases l
    · obtain ⟨k1, k2⟩ := (own i b).mp l1
      exact hb i k1 k2
  refine ⟨ρ, tabS tb n, [.scr ns], ⟨by rw [hρ]; simp [tabS], fun i j b h1 h2 => ?_, fun i b c h1 h2 => ?_, fun i b h1 => ?_, fun i b h1 => by rw [prt]; simp, fun b hb => by rw [prt] at hb; cases hb⟩, ⟨rfl, fun i d v h1 h2 => ?_⟩, ?_⟩
  · obtain ⟨a1, a2⟩ := (own i b).mp h1
    obtain ⟨b1, b2⟩ := (own j b).mp h2
    exact hi i j a1 b1 (a2.symm.trans b2)
  · obtain ⟨a1, a2⟩ := (own i b).mp h1
    obtain ⟨_, b2⟩ := cel i c h2
    subst b2
    exact ⟨a2, #[], by rw [a2]; exact hT i a1, True.intro, fun pos cv hc => by
      have z : codeAmong pos [] = some cv := hc
      simp [codeAmong] at z⟩
  · obtain ⟨a1, a2⟩ := (own i b).mp h1
    exact ⟨_, by rw [a2]; exact hT i a1⟩
  · cases i with
    | zero =>
      simp at h1 h2
      subst h1 h2
      refine .scr ?_
      rcases hS with hS | hS
      · refine .inl ⟨hS, nl a fun j hj e => ?_⟩
        have h3 := hT j hj
        rw [← e] at h3
        rcases hS with z | ⟨o, z⟩ <;> rw [z] at h3 <;> cases h3
      · exact .inr (.inr hS)
    | succ i => simp at h1
  · obtain ⟨S', e⟩ := h ns hl
    show Post (arg 1 fM [.scr ns] (tabS tb n)) _ _ _ _ _
    rw [arg1, e]
    intro v H' ρ' _ _ q
    cases q
    rfl
/-- the law's walk with tables -/
theorem walk_endT {l : PySem.W.OpenLaw} {n k : Nat} {q : Program} {loose : List Str} {XP : (Str → Option Value) → Heap → Prop} {YP : World → Heap → Prop} {d : DefRec} {x : Str}
    (hn : l.most = some n) (hn2 : n ≤ sizeLine) (hdf : d.params.defaults = []) (hr : Room k callerA)
    (F : ∀ (w : World) (mg : Str → Option Value) (fa : Addr) (h : Heap), YP w h → h.Ns mainGlobals mg → mg d.name = some (.ref fa) →
      ∃ (K : PySem.W.Frag) (fd : FuncData) (ts : List (Addr × Addr)) (sp : Sp), K.In h ∧ (∀ p ∈ ts, h.get? p.2 = some { cls := .none, data := .fields #[] }) ∧ (∀ p ∈ ts, K.lookup p.2 = none) ∧ (∀ p ∈ ts, PySem.W.CodeHd h p.1 p.2) ∧ (∀ (s : Shared) (u : Value), BindsTo s fd ⟨[u], []⟩ [(x, u)]) ∧
        (∀ (H : Hp) (a : Addr) (ns : List Int), ns.length ≤ n → (∀ p ∈ ts, H p.2 = some (.tbl #[])) → SqL K H a (ns.map V.int) → sp [.ref a] H (fun v _ => v = .bl true) fun _ _ _ => False) ∧
        ∀ base : Heap, K.In base → base.Ns mainGlobals mg → (∀ p ∈ ts, LamX.TabB base mg p.1 p.2) → FnOk l.prog w K mg base (L2N.CX l.prog w) k fa fd [x] sp) :
    PySem.W.WalkO q loose XP YP l.row.toRowW d [] (fun f vs => PySem.call f vs) := by
  refine Att.attach_callB hn hdf fun w s0 s1 mg mb fa o pm cd doc a vs ns G Y ho hd hcd hmg hobj hints hlen hbits hg => ?_
  obtain ⟨K, fd, ts, sp, KX, hT, nT, C, hb, hsp, hF⟩ := F w mg fa _ Y G.T.g hmg
  exact LamX.law_callTs KX G.T.g G.T.b G.T.builtins G.T.nolimit hg hT nT C G.T.bmain hobj hints (Nat.le_trans hlen hn2) hr hF hb (fun H hH hS => hsp H a ns hlen hH hS) fun H e s' => cx_end
end SF

namespace SF
open PySem PySem.Spec PyProof.Rows L2
theorem code_of {K : PySem.W.Frag} {x qual : Str} {pa : Arguments} {b : List Stmt} {sc : Scope} {dv : List V} {kw : List (Str × V)} {p : Str × Option Str} {fd : FuncData} {c : Addr} (F : FunD K x qual pa b sc dv kw (He.fAd K p) fd) (h : codeIs K p c = true) : fd.code = .ref c := by
  obtain ⟨oc, od, dV, kV, doc, pm, an, cdv, ct, osl, e, lk, _⟩ := F.ex
  exact codeIs_ok h lk
section
variable {ts : List (Addr × Addr)} {n : Nat}
theorem ts_at {j : Nat} (hl : ts.length = n) (hj : j < n) : ts[j]? = some (ts.getD j (0, 0)) := by
  rw [List.getD_eq_getElem?_getD, List.getElem?_eq_getElem (by omega)]
  rfl
theorem ts_mem {j : Nat} (hl : ts.length = n) (hj : j < n) : ts.getD j (0, 0) ∈ ts := List.mem_of_getElem? (ts_at hl hj)
theorem tabs_inj (hl : ts.length = n) (nd : (ts.map (·.2)).Nodup) (i j : Nat) (hi : i < n) (hj : j < n) (e : (ts.getD i (0, 0)).2 = (ts.getD j (0, 0)).2) : i = j := by
  refine (List.getElem?_inj (i := i) (j := j) (by rw [List.length_map]; omega) nd).mp ?_
  rw [List.getElem?_map, List.getElem?_map, ts_at hl hi, ts_at hl hj]
  exact congrArg some e
end
end SF

/-! Laws with tables, told refusals. -/
namespace SF
open PySem L2
theorem tabS_at {tb : Nat → Addr × Str} {n j : Nat} (hj : j < n) : (tabS tb n)[j]? = some (.tab (tb j).1 (tb j).2) := by
  unfold tabS
  rw [List.getElem?_map, List.getElem?_range hj]
  rfl
/-- a law's round, tables first -/
def RoundT (ns : List Int) (S : Sto) (i n : Nat) (r : RS) : Prop := ∃ (c' : Cell) (T : Sto) (es' : List (Option D)), es'.length = n ∧ IsDice c' ∧ r = .nx (some (.scr ns) :: some (.ref i) :: es') (S.set i c' ++ T)
theorem law_byT {cs : Cs} {body : Stm} {most : Int} {n nt : Nat} (hm : 0 ≤ most ∧ most ≤ 100) (ns : List Int) (hn : ns.length ≤ 63)
    (hb : ∀ (S : Sto) (i : Nat) (c : Cell) (es : List (Option D)), es.length = n → S[i]? = some c → IsDice c → nt ≤ i → (∀ j, j < nt → S[j]? = some (.tab (cs.tb j).1 (cs.tb j).2)) → RoundT ns S i n (body (some (.scr ns) :: some (.ref i) :: es) S)) :
    ∃ S1, runB (sSeq (sFor (iSeq (eCall 2 (f_law_rounds cs) [] (aC (eV 0) (aC (eK (.int most)) aN)))) (gN 1) (sGc body)) (sRt (eK (.bl true)))) (n + 2) [.scr ns] (tabS cs.tb nt) = .ok (.bl true) S1 := by
  obtain ⟨T0, hT0⟩ : ∃ T0, T0 = tabS cs.tb nt := ⟨_, rfl⟩
  have hTl : T0.length = nt := by rw [hT0]; simp [tabS]
  obtain ⟨m, cells, hl, hc, e⟩ := rounds_ok cs ns most T0 hm (by omega)
  have tabAt : ∀ (S' : Sto), S'.take nt = T0 → nt ≤ S'.length → ∀ j, j < nt → S'[j]? = some (.tab (cs.tb j).1 (cs.tb j).2) := fun S' h1 h2 j hj => by
    have h3 := tabS_at (tb := cs.tb) hj
    rw [← hT0, ← h1, List.getElem?_take_of_lt hj] at h3
    exact h3
  obtain ⟨en', S', eL, hI⟩ := forL_inv (g := gN 1) (chk := fun _ => True) (b := sGc body)
    (fun k en S' => ∃ (y1 : Option D) (es : List (Option D)), en = some (.scr ns) :: y1 :: es ∧ es.length = n ∧ S'.length = nt + m ∧ S'.take nt = T0 ∧ ∀ j c, nt ≤ j → S'[j]? = some c → IsDice c)
    ((List.range m).map fun k => D.ref (T0.length + k)) 0 (some (.scr ns) :: none :: List.replicate n none) (T0 ++ cells) ⟨_, _, rfl, by simp, by simp [hl, hTl], by rw [← hTl, List.take_left], fun j c hj h => by
      rw [List.getElem?_append_right (by omega)] at h
      exact hc c (List.mem_of_getElem? h)⟩ (by
      rintro j d en S' hj ⟨y1, es, rfl, hes, hl', ht', hc'⟩
      have hjn : j < m := by have := (List.getElem?_eq_some_iff.mp hj).1; simpa using this
      have hd : d = .ref (nt + j) := by
        rw [List.getElem?_map, List.getElem?_range hjn, hTl] at hj
        simp at hj
        exact hj.symm
      subst hd
      refine ⟨_, rfl, ?_⟩
      have hjS : S'[nt + j]? = some S'[nt + j] := List.getElem?_eq_getElem (by omega)
      obtain ⟨c', T, es', h1, kc, e⟩ := hb S' (nt + j) _ es hes hjS (hc' _ _ (by omega) hjS) (by omega) (tabAt S' ht' (by omega))
      have hg : Good S' (S'.set (nt + j) c' ++ T) := (Good.set (Good.refl S') fun _ => noRefC_dice kc).app2 T
      have htk : (S'.set (nt + j) c' ++ T).take S'.length = S'.set (nt + j) c' := by
        have : S'.length = (S'.set (nt + j) c').length := by rw [List.length_set]
        rw [this, List.take_left]
      refine ⟨_, _, sGc_nx e hg, trivial, ?_⟩
      rw [htk, List.map_cons, List.map_cons, kp_some (show noRef S'.length (.scr ns) = true by simp [noRef])]
      refine ⟨_, _, rfl, by rw [List.length_map]; exact h1, by rw [List.length_set]; exact hl', ?_, fun j2 c2 hj2 h2 => ?_⟩
      · rw [List.take_set_of_le (by omega)]
        exact ht'
      · by_cases e2 : nt + j = j2
        · subst e2
          rw [List.getElem?_set_self (by omega)] at h2
          cases h2
          exact kc
        · rw [List.getElem?_set_ne e2] at h2
          exact hc' j2 c2 hj2 h2)
  refine ⟨S', runB_rt ?_⟩
  have henv : env0 (n + 2) [.scr ns] = some (.scr ns) :: none :: List.replicate n none := by
    simp [env0, List.replicate_succ]
  rw [henv, ← hT0]
  rw [ap_sSeq, ap_sFor, ap_iSeq, ap_eCall]
  simp only [ap_aC, ap_eV, ap_eK, ap_aN, List.getElem?_cons_zero, R.bind_ok, List.append_nil, arg, List.length_cons, List.length_nil, if_true, e, seqD_lst, R.thenS_ok]
  rw [eL]
  rfl
/-! ### what is told -/
theorem told_ok {i : Nat} {tb : Addr × Str} {ex : Nat → Addr} {m : Exp} {en : En} {S S' : Sto} {d : D} (ht : S[i]? = some (.tab tb.1 tb.2)) (h : m en S = .ok d S') : eTold i tb ex m en S = .ok d S' := by
  unfold eTold
  rw [if_pos ht, h]
theorem told_excF {i : Nat} {tb : Addr × Str} {ex : Nat → Addr} {m : Exp} {en : En} {S S' : Sto} {w : Nat} {fs : List (Str × D)} (ht : S[i]? = some (.tab tb.1 tb.2)) (h : m en S = .exc ⟨ex w, fs, w⟩ S') (hw : w < 10 := by decide) : eTold i tb ex m en S = .ok (wordD w) S' := by
  unfold eTold
  rw [if_pos ht, h]
  dsimp only
  rw [if_pos ⟨rfl, hw⟩]
theorem told_exc {i : Nat} {tb : Addr × Str} {ex : Nat → Addr} {m : Exp} {en : En} {S S' : Sto} {w : Nat} (ht : S[i]? = some (.tab tb.1 tb.2)) (h : m en S = .exc ⟨ex w, [], w⟩ S') (hw : w < 10 := by decide) : eTold i tb ex m en S = .ok (wordD w) S' := told_excF ht h hw
def SExt (X X' : Sto) : Prop := ∃ T, X' = X ++ T
theorem SExt.refl (X : Sto) : SExt X X := ⟨[], by simp⟩
theorem SExt.trans {X Y Z : Sto} (a : SExt X Y) (b : SExt Y Z) : SExt X Z := by
  obtain ⟨T, rfl⟩ := a
  obtain ⟨T', rfl⟩ := b
  exact ⟨T ++ T', by simp⟩
theorem SExt.app (X T : Sto) : SExt X (X ++ T) := ⟨T, rfl⟩
theorem SExt.at_ {X Y : Sto} (a : SExt X Y) {i : Nat} {c : Cell} (h : X[i]? = some c) : Y[i]? = some c := by
  obtain ⟨T, rfl⟩ := a
  exact gx_app h T
theorem SExt.len {X Y : Sto} (a : SExt X Y) : X.length ≤ Y.length := by
  obtain ⟨T, rfl⟩ := a
  simp
theorem SExt.set {X Y : Sto} (a : SExt X Y) {r : Nat} (hr : X.length ≤ r) (c : Cell) : SExt X (Y.set r c) := by
  obtain ⟨T, rfl⟩ := a
  exact ⟨T.set (r - X.length) c, by rw [List.set_append_right _ _ hr]⟩
/-- a list of what is told, one behind the other -/
noncomputable def apps (j : Nat) : List Exp → Stm → Stm
  | [], k => k
  | m :: r, k => sSeq (sEx (eMt "list" fApp (eV j) (aC m aN))) (apps j r k)
theorem apps_ok {j r : Nat} {en : En} {X : Sto} {k : Stm} : ∀ (ms : List (Exp × D)) (ds : List D) (Y : Sto), en[j]? = some (some (.ref r)) → X.length ≤ r → SExt X Y → Y[r]? = some (.lst ds) → ds.length + ms.length < 1000 →
    (∀ q ∈ ms, ∀ Y, SExt X Y → ∃ Y', SExt Y Y' ∧ q.1 en Y = .ok q.2 Y') → ∃ Y', SExt X Y' ∧ Y'[r]? = some (.lst (ds ++ ms.map (·.2))) ∧ apps j (ms.map (·.1)) k en Y = k en Y'
  | [], ds, Y, _, _, hY, hr, _, _ => ⟨Y, hY, by simpa using hr, rfl⟩
  | q :: ms, ds, Y, hj, hX, hY, hr, hl, hm => by
    obtain ⟨Y1, e1, h1⟩ := hm q List.mem_cons_self Y hY
    have hr1 := e1.at_ hr
    obtain ⟨Y', a1, a2, a3⟩ := apps_ok (k := k) ms (ds ++ [q.2]) (Y1.set r (.lst (ds ++ [q.2]))) hj hX ((hY.trans e1).set hX _) (gx_set hr1 _) (by simp at hl ⊢; omega) fun p hp => hm p (List.mem_cons_of_mem _ hp)
    refine ⟨Y', a1, by rw [a2]; simp, ?_⟩
    have ht : tyOk "list" Y (.ref r) = true := by simp [tyOk, getL_ref, hr]
    have hl' : ds.length < 100000 := by simp at hl; omega
    rw [List.map_cons, apps, ap_sSeq]
    simp [hj, ht, h1, fApp, hr1, hl', a3]
theorem tolds_ok {j : Nat} {en : En} {X : Sto} {k : Stm} (m1 : Exp) (d1 : D) (ms : List (Exp × D)) (hj : j < en.length) (hl : ms.length < 900)
    (h1 : ∃ Y, SExt X Y ∧ m1 en X = .ok d1 Y) (hm : ∀ q ∈ ms, ∀ r Y, SExt X Y → ∃ Y', SExt Y Y' ∧ q.1 (en.set j (some (.ref r))) Y = .ok q.2 Y') :
    ∃ r Y', SExt X Y' ∧ X.length ≤ r ∧ Y'[r]? = some (.lst (d1 :: ms.map (·.2))) ∧ (sSeq (sAs (gN j) (eNew (aC m1 aN))) (apps j (ms.map (·.1)) k)) en X = k (en.set j (some (.ref r))) Y' := by
  obtain ⟨Y, e1, h1⟩ := h1
  obtain ⟨Y', a1, a2, a3⟩ := apps_ok (k := k) (j := j) (r := Y.length) (en := en.set j (some (.ref Y.length))) (X := X) ms [d1] (Y ++ [.lst [d1]]) (List.getElem?_set_self hj) e1.len (e1.trans (SExt.app _ _)) (gx_last []) (by simp; omega) fun q hq Y2 hY2 => hm q hq _ Y2 hY2
  refine ⟨Y.length, Y', a1, e1.len, a2, ?_⟩
  rw [← a3, ap_sSeq]
  simp [h1, hj]
theorem good_word (w : Nat) : good 1 (wordD w) = true := by
  show ([D.str "refused", D.str (exName w)]).all (good 0) = true
  have h1 : PyData.strOk "refused" = true := by decide +kernel
  have h2 : PyData.strOk (exName w) = true := by
    unfold exName exNames
    rcases w with _ | _ | _ | _ | _ | _ | _ | _ | _ | _ | w
    all_goals first | decide +kernel | (simp; decide +kernel)
  simp [good, h1, h2]
theorem good_words (w n : Nat) : good 2 (.lst (List.replicate n (wordD w))) = true := by
  show (List.replicate n (wordD w)).all (good 1) = true
  rw [List.all_eq_true]
  intro d hd
  rw [List.eq_of_mem_replicate hd]
  exact good_word w
/-- told != [("refused", x)] * n -/
theorem tst_rep {j r w n : Nat} {x : Str} {en : En} {S : Sto} (hx : exName w = x) (hn : n ≤ 100) (hj : en[j]? = some (some (.ref r))) (hr : S[r]? = some (.lst (List.replicate n (wordD w)))) :
    tV (eOp (oEqN true) (eV j) (eOp oRep (eLst (aC (eTup (aC (eK (.str "refused")) (aC (eK (.str x)) aN))) aN)) (eK (.int (n : Nat))))) en S = .ok false S := by
  have h1 : (List.replicate n [wordD w]).flatten = List.replicate n (wordD w) := by
    clear hr hn
    induction n with
    | zero => rfl
    | succ n ih => rw [List.replicate_succ, List.flatten_cons, ih, List.replicate_succ]; rfl
  have h2 : oEqN true (.ref r) (.lst (List.replicate n (wordD w))) S = .ok (.bl false) S := by
    rw [oEqN_refL true hr, oEqN_eq true (good_words w n) (good_words w n) rfl]
    rfl
  have h3 : oRep (.lst [wordD w]) (.int (n : Nat)) S = .ok (.lst (List.replicate n (wordD w))) S := by
    simp [oRep, getL', h1]
    omega
  have h4 : (.tup [.str "refused", .str x] : D) = wordD w := by rw [wordD, hx]
  simp [hj, h4, h3, h2]
end SF

/-! What is refused of houses and pieces. -/
namespace SF
open PySem L2
section
variable (cs : Cs) {S : Sto}
theorem init_exc {i : Nat} {a b c : D} (pa : plainD a = true) (pb : plainD b = true) (pc : plainD c = true) (h : (isNum a 1 6 && isNum b 0 6 && isNum c 1 6) = false) : f_House___init__ cs [.ref i, a, b, c] S = .exc ⟨cs.ex 0, [], 0⟩ S := by
  refine runB_exc ?_
  show m_House___init__ cs [some (.ref i), some a, some b, some c] S = _
  cases h1 : isNum a 1 6 with
  | false => simp [m_House___init__, f_need_number, pa, h1]
  | true =>
    cases h2 : isNum b 0 6 with
    | false => simp [m_House___init__, f_need_number, pa, pb, h1, h2]
    | true =>
      rw [h1, h2] at h
      have h3 : isNum c 1 6 = false := by simpa using h
      simp [m_House___init__, f_need_number, pa, pb, pc, h1, h2, h3]
theorem make_exc {ms : Exps} {en : En} {X Y : Sto} {a b c : D} (hm : ms en X = .ok [a, b, c] Y) (pa : plainD a = true) (pb : plainD b = true) (pc : plainD c = true) (h : (isNum a 1 6 && isNum b 0 6 && isNum c 1 6) = false) :
    eMake cs.House 4 (f_House___init__ cs) [] ms en X = .exc ⟨cs.ex 0, [], 0⟩ (Y ++ [.ins cs.House []]) := by
  simp [hm, init_exc cs pa pb pc h]
theorem init_ok {i : Nat} {l s h : Int} (hi : S[i]? = some (.ins cs.House [])) (h1 : 1 ≤ l ∧ l ≤ 6) (h2 : 0 ≤ s ∧ s ≤ 6) (h3 : 1 ≤ h ∧ h ≤ 6) : f_House___init__ cs [.ref i, .int l, .int s, .int h] S = .ok .non (S.set i (hCell cs l s h S.length) ++ [.lst []]) := by
  refine le_get (Eq.mp (congrArg (fun z => Le z _) ?_) (spec_House___init__ cs _ _))
  unfold g_House___init__
  dsimp only
  rw [if_pos ⟨h1, h2, h3, hi⟩]
theorem make_ok {ms : Exps} {en : En} {X Y : Sto} {l s h : Int} (hm : ms en X = .ok [.int l, .int s, .int h] Y) (h1 : 1 ≤ l ∧ l ≤ 6) (h2 : 0 ≤ s ∧ s ≤ 6) (h3 : 1 ≤ h ∧ h ≤ 6) :
    eMake cs.House 4 (f_House___init__ cs) [] ms en X = .ok (.ref Y.length) (Y ++ hCells cs ⟨l, s, h, []⟩ Y.length) := by
  have hx : (Y ++ [Cell.ins cs.House []])[Y.length]? = some (.ins cs.House []) := gx_last []
  simp [hm, init_ok cs hx h1 h2 h3, gs_last, hCells]
variable {i j : Nat} {ho : Ho}
theorem cloth_exc1 {l b h : D} (hat : HAt cs S i j ho) (pl : plainD l = true) (hl : isNum l 0 (ho.l - 1) = false) : f_House_cloth cs [.ref i, l, b, h] S = .exc ⟨cs.ex 1, [], 1⟩ S := by
  refine runB_exc ?_
  show m_House_cloth cs [some (.ref i), some l, some b, some h] S = _
  simp [m_House_cloth, hat.f_size, oIx_tup, f_is_number, pl, hl]
theorem cloth_exc0 {l b h : D} (hat : HAt cs S i j ho) (pl : plainD l = true) (hl : isNum l 0 (ho.l - 1) = true) (pb : plainD b = true) (ph : plainD h = true) (hn : (isNum b 1 4 && isNum h 1 6) = false) : f_House_cloth cs [.ref i, l, b, h] S = .exc ⟨cs.ex 0, [], 0⟩ S := by
  refine runB_exc ?_
  show m_House_cloth cs [some (.ref i), some l, some b, some h] S = _
  cases h1 : isNum b 1 4 with
  | false => simp [m_House_cloth, hat.f_size, oIx_tup, f_is_number, f_need_number, pl, hl, pb, h1]
  | true =>
    rw [h1] at hn
    have h2 : isNum h 1 6 = false := by simpa using hn
    simp [m_House_cloth, hat.f_size, oIx_tup, f_is_number, f_need_number, pl, hl, pb, ph, h1, h2]
theorem truck_exc0 {b h : D} (hat : HAt cs S i j ho) (pb : plainD b = true) (ph : plainD h = true) (hn : (isNum b 1 4 && isNum h 1 6) = false) : f_House_truck cs [.ref i, b, h] S = .exc ⟨cs.ex 0, [], 0⟩ S := by
  refine runB_exc ?_
  show m_House_truck cs [some (.ref i), some b, some h] S = _
  cases h1 : isNum b 1 4 with
  | false => simp [m_House_truck, f_need_number, pb, h1]
  | true =>
    rw [h1] at hn
    have h2 : isNum h 1 6 = false := by simpa using hn
    simp [m_House_truck, f_need_number, pb, ph, h1, h2]
theorem cloth_ok {l b h : Int} (hat : HAt cs S i j ho) (h1 : 0 ≤ l ∧ l ≤ ho.l - 1) (h2 : 1 ≤ b ∧ b ≤ 4) (h3 : 1 ≤ h ∧ h ≤ 6) (h4 : ho.ps.length < 8) : f_House_cloth cs [.ref i, .int l, .int b, .int h] S = .ok (.int ho.ps.length) (S.set j (.lst (ho.ps.map Pc.d ++ [(Pc.cl l b h).d]))) := by
  refine le_get (Eq.mp (congrArg (fun z => Le z _) ?_) (spec_House_cloth cs _ _))
  simp only [g_House_cloth, houseOf_eq hat]
  rw [if_pos ⟨h1, h2, h3, h4⟩]
theorem truck_ok {b h : Int} (hat : HAt cs S i j ho) (h2 : 1 ≤ b ∧ b ≤ 4) (h3 : 1 ≤ h ∧ h ≤ 6) (h4 : ho.ps.length < 8) : f_House_truck cs [.ref i, .int b, .int h] S = .ok (.int ho.ps.length) (S.set j (.lst (ho.ps.map Pc.d ++ [(Pc.tr b h).d]))) := by
  refine le_get (Eq.mp (congrArg (fun z => Le z _) ?_) (spec_House_truck cs _ _))
  simp only [g_House_truck, houseOf_eq hat]
  rw [if_pos ⟨h2, h3, h4⟩]
theorem pieces_run (hat : HAt cs S i j ho) : f_House_pieces cs [.ref i] S = .ok (.lst (ho.ps.map Pc.d)) S := by
  unfold f_House_pieces
  simp only [houseOf_eq hat]
theorem ins_pieces (hat : HAt cs S i j ho) : isIns cs.House "pieces" S (.ref i) = true := hat.ins _ (by decide +kernel) (by decide +kernel)
end
theorem HAt.ext {cs : Cs} {S Y : Sto} {i j : Nat} {ho : Ho} (h : HAt cs S i j ho) (e : SExt S Y) : HAt cs Y i j ho := ⟨e.at_ h.own, e.at_ h.stk⟩
end SF

namespace SF
open PySem L2
/-! ### who waits for whom -/
def wCond (xs ys : List (Option Int)) (p o : Nat) : Prop := pl ys p ≠ none ∧ pl xs o = pl ys p
instance (xs ys : List (Option Int)) (p o : Nat) : Decidable (wCond xs ys p o) := inferInstanceAs (Decidable (_ ∧ _))
def wst (xs ys : List (Option Int)) (p : Nat) (kvs : List (Key × D)) (o : Nat) : List (Key × D) := if wCond xs ys p o then putD kvs (.inl (p : Int)) (.int (o : Nat)) else kvs
def wKV (xs ys : List (Option Int)) : List (Key × D) := (mvs xs ys).foldl (fun kvs p => (mvs xs ys).foldl (wst xs ys p) kvs) []
theorem putD_len {κ : Type} [DecidableEq κ] (kvs : List (κ × D)) (k : κ) (v : D) : (putD kvs k v).length ≤ kvs.length + 1 := by
  unfold putD
  split <;> simp
theorem wst_len (xs ys : List (Option Int)) (p : Nat) : ∀ (os : List Nat) (kvs : List (Key × D)), (os.foldl (wst xs ys p) kvs).length ≤ kvs.length + os.length
  | [], kvs => by simp
  | o :: r, kvs => by
    rw [List.foldl_cons]
    have h1 := wst_len xs ys p r (wst xs ys p kvs o)
    have h2 : (wst xs ys p kvs o).length ≤ kvs.length + 1 := by
      unfold wst
      split
      · exact putD_len _ _ _
      · omega
    rw [List.length_cons]
    omega
theorem wKV_len (xs ys : List (Option Int)) (ms : List Nat) : ∀ (is : List Nat) (kvs : List (Key × D)), (is.foldl (fun kvs p => ms.foldl (wst xs ys p) kvs) kvs).length ≤ kvs.length + is.length * ms.length
  | [], kvs => by simp
  | p :: r, kvs => by
    rw [List.foldl_cons]
    have h1 := wKV_len xs ys ms r (ms.foldl (wst xs ys p) kvs)
    have h2 := wst_len xs ys p ms kvs
    rw [List.length_cons, Nat.succ_mul]
    omega
/-- the two loops: whatever the test's form, if it tells wCond -/
theorem waits_loop {xs ys : List (Option Int)} {S : Sto} {tst : Tst} (ms : List Nat) (hms : ms.length ≤ 100) (ht : ∀ (p o : Nat) (S' : Sto), p ∈ ms → o ∈ ms → tst [some (scD xs), some (scD ys), some (.ref S.length), some (.int (p : Nat)), some (.int (o : Nat))] S' = .ok (decide (wCond xs ys p o)) S')
    {it : Itm} (hit : ∀ en S', it ([some (scD xs), some (scD ys)] ++ en) S' = .ok (natsD ms, fun _ => True) S') :
    ∃ x3 x4, (sFor it (gN 3) (sFor it (gN 4) (sIf tst (sSetD (eV 2) (eV 3) (eV 4)) sNx))) [some (scD xs), some (scD ys), some (.ref S.length), none, none] (S ++ [.dct []]) =
      .nx [some (scD xs), some (scD ys), some (.ref S.length), x3, x4] (S ++ [.dct (ms.foldl (fun kvs p => ms.foldl (wst xs ys p) kvs) [])]) := by
  have hit' : ∀ a b c S', it [some (scD xs), some (scD ys), a, b, c] S' = .ok (natsD ms, fun _ => True) S' := fun a b c S' => hit [a, b, c] S'
  obtain ⟨en', S', eL, x3, x4, rfl, rfl⟩ := forL_on (g := gN 3) (chk := fun _ => True) (b := (sFor it (gN 4) (sIf tst (sSetD (eV 2) (eV 3) (eV 4)) sNx))) (fun i : Nat => D.int (i : Nat))
    (fun q en S' => ∃ x3 x4, en = [some (scD xs), some (scD ys), some (.ref S.length), x3, x4] ∧ S' = S ++ [.dct (q.foldl (fun kvs p => ms.foldl (wst xs ys p) kvs) [])]) ms [] _ _ ⟨none, none, rfl, rfl⟩ (by
      rintro q p en S' hq _ ⟨x3, x4, rfl, rfl⟩
      rw [List.nil_append] at hq
      have hpm : p ∈ ms := hq.subset (by simp)
      have hql : q.length ≤ ms.length := by have := hq.length_le; simp at this; omega
      refine ⟨_, rfl, ?_⟩
      obtain ⟨kvs, hkvs⟩ : ∃ kvs, kvs = q.foldl (fun kvs p => ms.foldl (wst xs ys p) kvs) [] := ⟨_, rfl⟩
      have hkl : kvs.length ≤ 10000 := by
        have := wKV_len xs ys ms q []
        rw [← hkvs] at this
        have h2 : q.length * ms.length ≤ 100 * 100 := Nat.mul_le_mul (by omega) hms
        simp at this
        omega
      rw [← hkvs]
      obtain ⟨en', S', eL, x4', rfl, rfl⟩ := forL_on (g := gN 4) (chk := fun _ => True) (b := (sIf tst (sSetD (eV 2) (eV 3) (eV 4)) sNx)) (fun i : Nat => D.int (i : Nat))
        (fun r en S' => ∃ x4, en = [some (scD xs), some (scD ys), some (.ref S.length), some (.int (p : Nat)), x4] ∧ S' = S ++ [.dct (r.foldl (wst xs ys p) kvs)]) ms [] [some (scD xs), some (scD ys), some (.ref S.length), some (.int (p : Nat)), x4] (S ++ [.dct kvs]) ⟨_, rfl, rfl⟩ (by
          rintro r o en S' hr _ ⟨x4, rfl, rfl⟩
          rw [List.nil_append] at hr
          have hom : o ∈ ms := hr.subset (by simp)
          have hrl : r.length ≤ ms.length := by have := hr.length_le; simp at this; omega
          refine ⟨_, rfl, ?_⟩
          obtain ⟨kv2, hkv2⟩ : ∃ kv2, kv2 = r.foldl (wst xs ys p) kvs := ⟨_, rfl⟩
          have hk2 : kv2.length < 100000 := by
            have := wst_len xs ys p r kvs
            rw [← hkv2] at this
            omega
          rw [← hkv2, List.foldl_append, ← hkv2]
          have hidx : (S ++ [Cell.dct kv2])[S.length]? = some (.dct kv2) := gx_last []
          have hset : ∀ kv3, (S ++ [Cell.dct kv2]).set S.length (.dct kv3) = S ++ [.dct kv3] := fun kv3 => gs_last _
          have htt := ht p o (S ++ [.dct kv2]) hpm hom
          by_cases hw : wCond xs ys p o
          · refine ⟨_, S ++ [.dct (putD kv2 (.inl (p : Int)) (.int (o : Nat)))], by
              simp [htt, hw, hidx, hk2, hset]
              rfl, trivial, _, rfl, by simp [wst, hw]⟩
          · exact ⟨_, S ++ [.dct kv2], by
              simp [htt, hw]
              rfl, trivial, _, rfl, by simp [wst, hw]⟩)
      refine ⟨[some (scD xs), some (scD ys), some (.ref S.length), some (.int (p : Nat)), x4'], S ++ [.dct (ms.foldl (wst xs ys p) kvs)], ?_, trivial, _, _, rfl, by rw [List.foldl_append, ← hkvs]; rfl⟩
      rw [List.nil_append] at eL
      have heq : natsD ms = ms.map fun i : Nat => D.int (i : Nat) := rfl
      simp only [ap_sFor, List.set_cons_succ, List.set_cons_zero, hit', R.thenS_ok, heq, eL])
  rw [List.nil_append, List.foldl_nil] at eL
  refine ⟨x3, x4, ?_⟩
  have heq : natsD ms = ms.map fun i : Nat => D.int (i : Nat) := rfl
  simp only [ap_sFor, hit', R.thenS_ok, heq, eL]
/-- waiting(first, then); slots first then found piece other -/
noncomputable def m_waiting (cs : Cs) : Stm :=
  (sSeq (sAs (gN 2) eNewD) (sSeq (sFor (iSeq (eCall 2 (f_moving cs) [] (aC (eV 0) (aC (eV 1) aN)))) (gN 3) (sFor (iSeq (eCall 2 (f_moving cs) [] (aC (eV 0) (aC (eV 1) aN)))) (gN 4) (sIf (tAn (tV (eOp (oEqN true) (eOp oIx (eV 1) (eV 3)) (eK (.str "up")))) (tV (eOp (oEqN false) (eOp oIx (eV 0) (eV 4)) (eOp oIx (eV 1) (eV 3))))) (sSetD (eV 2) (eV 3) (eV 4)) sNx))) (sSeq (sCl 2) (sRt (eV 2)))))
/-- the run itself -/
noncomputable def f_waiting (cs : Cs) : List D → Sto → R D := fun ds S => gcR S (runB (m_waiting cs) 5 ds S)
/-- _law_waits(first, then); slots first then found piece other -/
noncomputable def m_law_waits (cs : Cs) : Stm :=
  (sSeq (sAs (gN 2) eNewD) (sSeq (sFor (iSeq (eCall 2 (f_law_moves cs) [] (aC (eV 0) (aC (eV 1) aN)))) (gN 3) (sFor (iSeq (eCall 2 (f_law_moves cs) [] (aC (eV 0) (aC (eV 1) aN)))) (gN 4) (sIf (tAn (tV (eOp (oEqN false) (eOp oIx (eV 1) (eV 3)) (eOp oIx (eV 0) (eV 4)))) (tV (eOp (oEqN true) (eOp oIx (eV 1) (eV 3)) (eK (.str "up"))))) (sSetD (eV 2) (eV 3) (eV 4)) sNx))) (sSeq (sCl 2) (sRt (eV 2)))))
/-- the run itself -/
noncomputable def f_law_waits (cs : Cs) : List D → Sto → R D := fun ds S => gcR S (runB (m_law_waits cs) 5 ds S)
theorem noRefK_w (n : Nat) (xs ys : List (Option Int)) (ms : List Nat) : noRef n (.dct (ms.foldl (fun kvs p => ms.foldl (wst xs ys p) kvs) [])) = true := by
  have h1 : ∀ (k : Key) (o : Nat) (kvs : List (Key × D)), (kvs.all fun kv => noRef n kv.2) = true → ((putD kvs k (.int (o : Nat))).all fun kv => noRef n kv.2) = true := fun k o kvs h => by
    unfold putD
    split
    · rw [List.all_eq_true] at h ⊢
      intro kv hk
      obtain ⟨kv', hk', rfl⟩ := List.mem_map.mp hk
      split
      · simp [noRef]
      · exact h kv' hk'
    · rw [List.all_append, h]; simp [noRef]
  have h2 : ∀ (p : Nat) (os : List Nat) (kvs : List (Key × D)), (kvs.all fun kv => noRef n kv.2) = true → ((os.foldl (wst xs ys p) kvs).all fun kv => noRef n kv.2) = true := fun p os => by
    induction os with
    | nil => intro kvs h; exact h
    | cons o r ih =>
      intro kvs h
      rw [List.foldl_cons]
      refine ih _ ?_
      unfold wst
      split
      · exact h1 _ _ _ h
      · exact h
  have h3 : ∀ (is : List Nat) (kvs : List (Key × D)), (kvs.all fun kv => noRef n kv.2) = true → ((is.foldl (fun kvs p => ms.foldl (wst xs ys p) kvs) kvs).all fun kv => noRef n kv.2) = true := fun is => by
    induction is with
    | nil => intro kvs h; exact h
    | cons p r ih => intro kvs h; rw [List.foldl_cons]; exact ih _ (h2 _ _ _ h)
  show noRefK n _ = true
  rw [noRefK_all]
  exact h3 ms [] rfl
theorem up_pl : D.str "up" = plD none := rfl
theorem waiting_ok (cs : Cs) {xs ys : List (Option Int)} {S : Sto} (hl : ys.length = xs.length) (hx : xs.length ≤ 100) : f_waiting cs [scD xs, scD ys] S = .ok (.dct (wKV xs ys)) S := by
  have hm := mvs_len xs ys
  obtain ⟨x3, x4, e⟩ := waits_loop (xs := xs) (ys := ys) (S := S) (tst := (tAn (tV (eOp (oEqN true) (eOp oIx (eV 1) (eV 3)) (eK (.str "up")))) (tV (eOp (oEqN false) (eOp oIx (eV 0) (eV 4)) (eOp oIx (eV 1) (eV 3)))))) (mvs xs ys) (by omega) (fun p o S' hp ho => by
      have h1 := oIx_sc (show p < ys.length by rw [hl]; exact mvs_lt hp) S'
      have h2 := oIx_sc (mvs_lt ho) S'
      have h3 := oEqN_pl true (pl ys p) none S'
      rw [← up_pl] at h3
      by_cases hu : pl ys p = none
      · simp [h1, h3, hu, wCond]
        simp [hu] at h3
        simp [h3]
      · simp [h1, h2, h3, hu, wCond, oEqN_pl])
    (it := iSeq (eCall 2 (f_moving cs) [] (aC (eV 0) (aC (eV 1) aN)))) (fun en S' => by simp [moving_ok cs (S := S') hl (by omega)])
  have hidx : ∀ kvs, (S ++ [Cell.dct kvs])[S.length]? = some (.dct kvs) := fun kvs => gx_last []
  have hset : ∀ kvs, (S ++ [Cell.dct kvs]).set S.length .dead = S ++ [.dead] := fun kvs => gs_last _
  have hrun : runB (m_waiting cs) 5 [scD xs, scD ys] S = .ok (.dct (wKV xs ys)) (S ++ [.dead]) := by
    refine runB_rt ?_
    simp [m_waiting, env0, e, hidx, hset, wKV] at e ⊢
    simp [e, hidx, hset]
  show gcR S _ = _
  rw [hrun, gcR_ok ((Good.refl S).app2 _) (show noRef S.length (.dct (wKV xs ys)) = true from noRefK_w _ _ _ _), List.take_left]
theorem law_waits_ok (cs : Cs) {xs ys : List (Option Int)} {S : Sto} (hl : ys.length = xs.length) (hx : xs.length ≤ 100) : f_law_waits cs [scD xs, scD ys] S = .ok (.dct (wKV xs ys)) S := by
  have hm := mvs_len xs ys
  obtain ⟨x3, x4, e⟩ := waits_loop (xs := xs) (ys := ys) (S := S) (tst := (tAn (tV (eOp (oEqN false) (eOp oIx (eV 1) (eV 3)) (eOp oIx (eV 0) (eV 4)))) (tV (eOp (oEqN true) (eOp oIx (eV 1) (eV 3)) (eK (.str "up")))))) (mvs xs ys) (by omega) (fun p o S' hp ho => by
      have h1 := oIx_sc (show p < ys.length by rw [hl]; exact mvs_lt hp) S'
      have h2 := oIx_sc (mvs_lt ho) S'
      have h3 := oEqN_pl true (pl ys p) none S'
      rw [← up_pl] at h3
      by_cases hu : pl ys p = pl xs o
      · simp [h1, h2, h3, hu, wCond, oEqN_pl]
        rw [hu] at h3
        simp [h3]
      · simp [h1, h2, hu, wCond, oEqN_pl, Ne.symm hu])
    (it := iSeq (eCall 2 (f_law_moves cs) [] (aC (eV 0) (aC (eV 1) aN)))) (fun en S' => by simp [law_moves_ok cs (S := S') hl (by omega)])
  have hidx : ∀ kvs, (S ++ [Cell.dct kvs])[S.length]? = some (.dct kvs) := fun kvs => gx_last []
  have hset : ∀ kvs, (S ++ [Cell.dct kvs]).set S.length .dead = S ++ [.dead] := fun kvs => gs_last _
  have hrun : runB (m_law_waits cs) 5 [scD xs, scD ys] S = .ok (.dct (wKV xs ys)) (S ++ [.dead]) := by
    refine runB_rt ?_
    simp [m_law_waits, env0, e, hidx, hset, wKV] at e ⊢
    simp [e, hidx, hset]
  show gcR S _ = _
  rw [hrun, gcR_ok ((Good.refl S).app2 _) (show noRef S.length (.dct (wKV xs ys)) = true from noRefK_w _ _ _ _), List.take_left]
/-! what the dict tells -/
def wt (xs ys : List (Option Int)) (p : Nat) : Option Nat := (mvs xs ys).find? fun o => decide (wCond xs ys p o)
def wf (xs ys : List (Option Int)) (p : Nat) : Option (Key × D) := (wt xs ys p).map fun o => (Sum.inl (p : Int), D.int (o : Nat))
theorem mvs_nodup (xs ys : List (Option Int)) : (mvs xs ys).Nodup := List.Nodup.sublist List.filter_sublist List.nodup_range
theorem putD_new {κ : Type} [DecidableEq κ] {kvs : List (κ × D)} {k : κ} (h : ∀ kv ∈ kvs, kv.1 ≠ k) (v : D) : putD kvs k v = kvs ++ [(k, v)] := by
  unfold putD
  rw [if_neg]
  simp only [List.any_eq_true, decide_eq_true_eq, not_exists, not_and]
  exact fun kv hk => h kv hk
theorem inner_fold {xs ys : List (Option Int)} {p : Nat} : ∀ (os : List Nat) (kvs : List (Key × D)), os.Nodup → (∀ o o', o ∈ os → o' ∈ os → wCond xs ys p o → wCond xs ys p o' → o = o') → (∀ kv ∈ kvs, kv.1 ≠ .inl (p : Int)) →
    os.foldl (wst xs ys p) kvs = kvs ++ ((os.find? fun o => decide (wCond xs ys p o)).map fun o => (Sum.inl (p : Int), D.int (o : Nat))).toList
  | [], kvs, _, _, _ => by simp
  | o :: r, kvs, nd, un, hk => by
    rw [List.foldl_cons, List.find?_cons]
    have nd' := List.nodup_cons.mp nd
    by_cases hw : wCond xs ys p o
    · simp only [wst, hw, if_true, decide_true]
      rw [putD_new hk]
      have : ∀ (os' : List Nat) (kv' : List (Key × D)), (∀ o' ∈ os', ¬ wCond xs ys p o') → os'.foldl (wst xs ys p) kv' = kv' := fun os' => by
        induction os' with
        | nil => intro _ _; rfl
        | cons a b ih =>
          intro kv' h
          rw [List.foldl_cons]
          have : wst xs ys p kv' a = kv' := by simp [wst, h a List.mem_cons_self]
          rw [this]
          exact ih _ fun o' ho => h o' (List.mem_cons_of_mem _ ho)
      rw [this r _ fun o' ho hw' => nd'.1 ((un o o' List.mem_cons_self (List.mem_cons_of_mem _ ho) hw hw') ▸ ho)]
      rfl
    · simp only [wst, hw, if_false, decide_false]
      exact inner_fold r kvs nd'.2 (fun a b ha hb => un a b (List.mem_cons_of_mem _ ha) (List.mem_cons_of_mem _ hb)) hk
theorem wKV_eq {xs ys : List (Option Int)} (ha : apartP xs) : wKV xs ys = (mvs xs ys).filterMap (wf xs ys) := by
  have un : ∀ p o o', o ∈ mvs xs ys → o' ∈ mvs xs ys → wCond xs ys p o → wCond xs ys p o' → o = o' := fun p o o' ho ho' h h' => by
    cases hv : pl ys p with
    | none => exact absurd hv h.1
    | some v =>
      refine ha o o' v ?_ ?_
      · rw [pl_get (mvs_lt ho), h.2, hv]
      · rw [pl_get (mvs_lt ho'), h'.2, hv]
  have key : ∀ (is pre : List Nat), (pre ++ is).Nodup → is.foldl (fun kvs p => (mvs xs ys).foldl (wst xs ys p) kvs) (pre.filterMap (wf xs ys)) = (pre ++ is).filterMap (wf xs ys) := by
    intro is
    induction is with
    | nil => intro pre _; simp
    | cons p r ih =>
      intro pre nd
      rw [List.foldl_cons, inner_fold (mvs xs ys) _ (mvs_nodup xs ys) (un p) (fun kv hk => by
        obtain ⟨q, hq, e⟩ := List.mem_filterMap.mp hk
        unfold wf at e
        cases hw : wt xs ys q with
        | none => rw [hw] at e; cases e
        | some o =>
          rw [hw] at e
          simp at e
          rw [← e]
          intro z
          have : q = p := by have := Sum.inl.inj z; omega
          subst this
          rw [List.nodup_append] at nd
          exact nd.2.2 q hq q List.mem_cons_self rfl)]
      have h2 : pre.filterMap (wf xs ys) ++ (Option.map (fun o => (Sum.inl (p : Int), D.int (o : Nat))) ((mvs xs ys).find? fun o => decide (wCond xs ys p o))).toList = (pre ++ [p]).filterMap (wf xs ys) := by
        rw [List.filterMap_append]
        have h3 : (Option.map (fun o => (Sum.inl (p : Int), D.int (o : Nat))) ((mvs xs ys).find? fun o => decide (wCond xs ys p o))).toList = List.filterMap (wf xs ys) [p] := by
          rw [List.filterMap_cons, List.filterMap_nil]
          unfold wf wt
          cases (mvs xs ys).find? fun o => decide (wCond xs ys p o) <;> rfl
        rw [h3]
      rw [h2]
      have := ih (pre ++ [p]) (by simpa using nd)
      rw [this]
      simp
  have := key (mvs xs ys) [] (by simpa using mvs_nodup xs ys)
  simpa [wKV] using this
theorem valD_w {xs ys : List (Option Int)} (p : Nat) : ∀ (is : List Nat), valD (is.filterMap (wf xs ys)) (.inl (p : Int)) = if p ∈ is then (wt xs ys p).map fun o => D.int (o : Nat) else none
  | [] => by simp [valD]
  | q :: r => by
    have ih := valD_w (xs := xs) (ys := ys) p r
    rw [List.filterMap_cons]
    by_cases h : p = q
    · subst h
      rw [if_pos List.mem_cons_self]
      cases hw : wt xs ys p with
      | none =>
        have e : wf xs ys p = none := by simp [wf, hw]
        rw [e]
        dsimp only
        rw [ih, hw]
        simp
      | some o =>
        have e : wf xs ys p = some (Sum.inl (p : Int), D.int (o : Nat)) := by simp [wf, hw]
        rw [e]
        simp [valD]
    · have hm : p ∈ q :: r ↔ p ∈ r := by simp [h]
      rw [show (if p ∈ q :: r then (wt xs ys p).map fun o => D.int (o : Nat) else none) = if p ∈ r then (wt xs ys p).map fun o => D.int (o : Nat) else none by simp only [hm]]
      rw [← ih]
      cases hw : wt xs ys q with
      | none =>
        have e : wf xs ys q = none := by simp [wf, hw]
        rw [e]
      | some o =>
        have e : wf xs ys q = some (Sum.inl (q : Int), D.int (o : Nat)) := by simp [wf, hw]
        rw [e]
        have hne : ¬ ((Sum.inl (q : Int) : Key) = Sum.inl (p : Int)) := fun z => h (by have := Sum.inl.inj z; omega)
        simp [valD, hne]
theorem wt_mem {xs ys : List (Option Int)} {p o : Nat} (h : wt xs ys p = some o) : o ∈ mvs xs ys ∧ wCond xs ys p o := by
  unfold wt at h
  exact ⟨List.mem_of_find?_eq_some h, by simpa using List.find?_some h⟩
end SF

namespace SF
open PySem L2
/-! ### trucks moved round -/
abbrev Zs := List (Option Int × Pc)
def cntT (zs : Zs) : Nat := (zs.filter fun q => isTr q.2).length
def tpl (zs : Zs) : List (Option Int) := (zs.filter fun q => isTr q.2).map (·.1)
theorem tpl_len (zs : Zs) : (tpl zs).length = cntT zs := by simp [tpl, cntT]
def gT' (P : List (Option Int)) (b : Nat) : Nat → Zs → List (Option Int)
  | _, [] => []
  | a, q :: r => if isTr q.2 = true then pl P ((a + b) % P.length) :: gT' P b (a + 1) r else q.1 :: gT' P b a r
theorem gT'_len (P : List (Option Int)) (b : Nat) : ∀ (zs : Zs) (a : Nat), (gT' P b a zs).length = zs.length
  | [], a => rfl
  | q :: r, a => by
    unfold gT'
    split <;> simp [gT'_len P b r]
theorem gT'_get (P : List (Option Int)) (b : Nat) : ∀ (zs : Zs) (a n : Nat) (q : Option Int × Pc), zs[n]? = some q → (gT' P b a zs)[n]? = some (if isTr q.2 = true then pl P ((a + cntT (zs.take n) + b) % P.length) else q.1)
  | [], a, n, q, h => by simp at h
  | q0 :: r, a, 0, q, h => by
    simp at h
    subst h
    unfold gT'
    split <;> simp [cntT, *]
  | q0 :: r, a, n + 1, q, h => by
    simp at h
    unfold gT'
    by_cases hq : isTr q0.2 = true
    · rw [if_pos hq]
      have := gT'_get P b r (a + 1) n q h
      rw [List.getElem?_cons_succ, this]
      have e : cntT ((q0 :: r).take (n + 1)) = 1 + cntT (r.take n) := by simp [cntT, List.filter_cons, hq]; omega
      rw [e, show a + 1 + cntT (r.take n) + b = a + (1 + cntT (r.take n)) + b by omega]
    · rw [if_neg hq]
      have := gT'_get P b r a n q h
      rw [List.getElem?_cons_succ, this]
      have e : cntT ((q0 :: r).take (n + 1)) = cntT (r.take n) := by simp [cntT, List.filter_cons, hq]
      rw [e]
theorem gT'_app (P : List (Option Int)) (b : Nat) (q : Option Int × Pc) : ∀ (zs : Zs) (a : Nat), gT' P b a (zs ++ [q]) = gT' P b a zs ++ [if isTr q.2 = true then pl P ((a + cntT zs + b) % P.length) else q.1]
  | [], a => by
    show gT' P b a [q] = _
    unfold gT'
    split <;> simp [gT', cntT, *]
  | q0 :: r, a => by
    rw [List.cons_append]
    unfold gT'
    by_cases hq : isTr q0.2 = true
    · rw [if_pos hq, if_pos hq, gT'_app P b q r (a + 1)]
      have e : cntT (q0 :: r) = 1 + cntT r := by simp [cntT, List.filter_cons, hq]; omega
      rw [e, show a + 1 + cntT r + b = a + (1 + cntT r) + b by omega]
      rfl
    · rw [if_neg hq, if_neg hq, gT'_app P b q r a]
      have e : cntT (q0 :: r) = cntT r := by simp [cntT, List.filter_cons, hq]
      rw [e]
      rfl
theorem cntT_app (zs : Zs) (q : Option Int × Pc) : cntT (zs ++ [q]) = cntT zs + if isTr q.2 = true then 1 else 0 := by
  unfold cntT
  rw [List.filter_append, List.length_append]
  by_cases h : isTr q.2 = true <;> simp [List.filter_cons, h]
theorem cntT_lt {zs : Zs} {n m : Nat} {q : Option Int × Pc} (h : zs[n]? = some q) (hq : isTr q.2 = true) (hnm : n < m) : cntT (zs.take n) < cntT (zs.take m) := by
  have h1 : zs.take (n + 1) = zs.take n ++ [q] := by rw [List.take_succ, h]; rfl
  have h2 : cntT (zs.take (n + 1)) ≤ cntT (zs.take m) := by
    unfold cntT
    refine List.Sublist.length_le (List.Sublist.filter _ ?_)
    exact (List.take_prefix_take_left (by omega : n + 1 ≤ m)).sublist
  rw [h1, cntT_app, if_pos hq] at h2
  omega
theorem tpl_at : ∀ {zs : Zs} {n : Nat} {q : Option Int × Pc}, zs[n]? = some q → isTr q.2 = true → (tpl zs)[cntT (zs.take n)]? = some q.1
  | [], n, q, h, _ => by simp at h
  | q0 :: r, 0, q, h, hq => by
    simp at h
    subst h
    simp [tpl, cntT, List.filter_cons, hq]
  | q0 :: r, n + 1, q, h, hq => by
    simp at h
    have ih := tpl_at h hq
    by_cases h0 : isTr q0.2 = true
    · have e : cntT ((q0 :: r).take (n + 1)) = cntT (r.take n) + 1 := by simp [cntT, List.filter_cons, h0]
      have e2 : tpl (q0 :: r) = q0.1 :: tpl r := by simp [tpl, List.filter_cons, h0]
      rw [e, e2, List.getElem?_cons_succ]
      exact ih
    · have e : cntT ((q0 :: r).take (n + 1)) = cntT (r.take n) := by simp [cntT, List.filter_cons, h0]
      have e2 : tpl (q0 :: r) = tpl r := by simp [tpl, List.filter_cons, h0]
      rw [e, e2]
      exact ih
theorem tpl_of : ∀ {zs : Zs} {j : Nat}, j < (tpl zs).length → ∃ n q, zs[n]? = some q ∧ isTr q.2 = true ∧ cntT (zs.take n) = j ∧ (tpl zs)[j]? = some q.1
  | [], j, h => by simp [tpl] at h
  | q0 :: r, j, h => by
    by_cases h0 : isTr q0.2 = true
    · have e2 : tpl (q0 :: r) = q0.1 :: tpl r := by simp [tpl, List.filter_cons, h0]
      cases j with
      | zero => exact ⟨0, q0, rfl, h0, by simp [cntT], by rw [e2]; rfl⟩
      | succ j =>
        rw [e2, List.length_cons] at h
        obtain ⟨n, q, a, b, c, d⟩ := tpl_of (zs := r) (j := j) (by omega)
        exact ⟨n + 1, q, by simpa using a, b, by simp [cntT, List.filter_cons, h0]; simpa [cntT] using c, by rw [e2]; simpa using d⟩
    · have e2 : tpl (q0 :: r) = tpl r := by simp [tpl, List.filter_cons, h0]
      rw [e2] at h
      obtain ⟨n, q, a, b, c, d⟩ := tpl_of (zs := r) (j := j) h
      exact ⟨n + 1, q, by simpa using a, b, by simp [cntT, List.filter_cons, h0]; simpa [cntT] using c, by rw [e2]; exact d⟩
theorem turned_sc {t : Tb} {xs : List (Option Int)} (h : ScOk t xs) (b : Nat) : ScOk t (gT' (tpl (xs.zip t.ps)) b 0 (xs.zip t.ps)) := by
  obtain ⟨zs, hzs⟩ : ∃ zs, zs = xs.zip t.ps := ⟨_, rfl⟩
  rw [← hzs]
  have hzl : zs.length = t.ps.length := by rw [hzs, List.length_zip, h.len]; omega
  have hz : ∀ (n : Nat) q, zs[n]? = some q → xs[n]? = some q.1 ∧ t.ps[n]? = some q.2 := fun n q e => by
    rw [hzs] at e
    exact List.getElem?_zip_eq_some.mp e
  have key : ∀ (n : Nat) q, zs[n]? = some q → ∃ n' q', zs[n']? = some q' ∧ (gT' (tpl zs) b 0 zs)[n]? = some q'.1 ∧ isTr q'.2 = isTr q.2 ∧ (isTr q.2 = false → n' = n) ∧ (isTr q.2 = true → cntT (zs.take n') = (cntT (zs.take n) + b) % (tpl zs).length) := fun n q e => by
    have hg := gT'_get (tpl zs) b zs 0 n q e
    by_cases hq : isTr q.2 = true
    · rw [if_pos hq, Nat.zero_add] at hg
      have hpos : 0 < (tpl zs).length := by
        have := (List.getElem?_eq_some_iff.mp (tpl_at e hq)).1
        omega
      obtain ⟨n', q', a1, a2, a3, a4⟩ := tpl_of (zs := zs) (Nat.mod_lt (cntT (zs.take n) + b) hpos)
      refine ⟨n', q', a1, ?_, by rw [a2, hq], fun z => (by rw [hq] at z; cases z), fun _ => a3⟩
      rw [hg]
      congr 1
      have hlt : (cntT (zs.take n) + b) % (tpl zs).length < (tpl zs).length := Nat.mod_lt _ hpos
      have := (pl_get hlt).symm.trans a4
      exact Option.some.inj this
    · rw [if_neg hq] at hg
      exact ⟨n, q, e, hg, rfl, fun _ => rfl, fun z => absurd z hq⟩
  have gl : (gT' (tpl zs) b 0 zs).length = zs.length := gT'_len _ _ _ _
  have zat : ∀ (n : Nat) x, (gT' (tpl zs) b 0 zs)[n]? = some x → ∃ q, zs[n]? = some q := fun n x e => by
    have hn : n < zs.length := by rw [← gl]; exact (List.getElem?_eq_some_iff.mp e).1
    exact ⟨_, List.getElem?_eq_getElem hn⟩
  refine ⟨by rw [gl, hzl], fun n p x hp hx => ?_, fun n m v h1 h2 => ?_⟩
  · obtain ⟨q, hq⟩ := zat n x hx
    obtain ⟨n', q', a1, a2, a3, a4, a5⟩ := key n q hq
    have e1 : q'.1 = x := by rw [hx] at a2; exact (Option.some.inj a2).symm
    have e2 : q.2 = p := by have := (hz n q hq).2; rw [hp] at this; exact (Option.some.inj this).symm
    have ok := h.ok n' q'.2 q'.1 (hz n' q' a1).2 (hz n' q' a1).1
    rw [e1] at ok
    by_cases ht : isTr q.2 = true
    · rw [ht] at a3
      rw [e2] at ht
      cases p with
      | cl l b h => cases ht
      | tr b h =>
        cases hq2 : q'.2 with
        | cl l b h => rw [hq2] at a3; cases a3
        | tr b h => rw [hq2] at ok; exact ok
    · have e3 := a4 (by simpa using ht)
      subst e3
      have : q' = q := by rw [hq] at a1; exact (Option.some.inj a1).symm
      rw [this, e2] at ok
      exact ok
  · obtain ⟨q1, hq1⟩ := zat n _ h1
    obtain ⟨q2, hq2⟩ := zat m _ h2
    obtain ⟨n', q1', a1, a2, a3, a4, a5⟩ := key n q1 hq1
    obtain ⟨m', q2', b1, b2, b3, b4, b5⟩ := key m q2 hq2
    have e1 : q1'.1 = some v := by rw [h1] at a2; exact (Option.some.inj a2).symm
    have e2 : q2'.1 = some v := by rw [h2] at b2; exact (Option.some.inj b2).symm
    have hnm : n' = m' := h.apart n' m' v (by rw [(hz n' q1' a1).1, e1]) (by rw [(hz m' q2' b1).1, e2])
    subst hnm
    have eq : q1' = q2' := by rw [a1] at b1; exact Option.some.inj b1
    subst eq
    have hk : isTr q1.2 = isTr q2.2 := a3.symm.trans b3
    by_cases ht : isTr q1.2 = true
    · have c1 := a5 ht
      have c2 := b5 (hk ▸ ht)
      have l1 := (List.getElem?_eq_some_iff.mp (tpl_at hq1 ht)).1
      have l2 := (List.getElem?_eq_some_iff.mp (tpl_at hq2 (hk ▸ ht))).1
      have hc : cntT (zs.take n) = cntT (zs.take m) := by
        have hmod := c1.symm.trans c2
        obtain ⟨L, hL⟩ : ∃ L, L = (tpl zs).length := ⟨_, rfl⟩
        rw [← hL] at hmod l1 l2
        generalize cntT (zs.take n) = A at *
        generalize cntT (zs.take m) = B at *
        rw [Nat.add_mod, Nat.add_mod B] at hmod
        have r : b % L < L := Nat.mod_lt _ (by omega)
        rw [Nat.mod_eq_of_lt l1, Nat.mod_eq_of_lt l2] at hmod
        generalize b % L = r' at *
        by_cases z1 : A + r' < L
        · by_cases z2 : B + r' < L
          · rw [Nat.mod_eq_of_lt z1, Nat.mod_eq_of_lt z2] at hmod; omega
          · rw [Nat.mod_eq_of_lt z1, Nat.mod_eq_sub_mod (by omega), Nat.mod_eq_of_lt (by omega)] at hmod; omega
        · by_cases z2 : B + r' < L
          · rw [Nat.mod_eq_of_lt z2, Nat.mod_eq_sub_mod (by omega), Nat.mod_eq_of_lt (by omega)] at hmod; omega
          · rw [Nat.mod_eq_sub_mod (by omega), Nat.mod_eq_of_lt (by omega), Nat.mod_eq_sub_mod (by omega), Nat.mod_eq_of_lt (by omega)] at hmod; omega
      rcases Nat.lt_trichotomy n m with z | z | z
      · have := cntT_lt hq1 ht z; omega
      · exact z
      · have := cntT_lt hq2 (hk ▸ ht) z; omega
    · have f1 := a4 (by simpa using ht)
      have f2 := b4 (by rw [← hk]; simpa using ht)
      omega
/-- _law_turned(table, dice, first); slots table dice first places by found at place piece -/
noncomputable def m_law_turned (cs : Cs) : Stm :=
  (sSeq (sAs (gN 3) (eLc (iZp (aC (eV 2) (aC (eOp oIx (eV 0) (eK (.str "pieces"))) aN))) (gT (gsC (gN 7) (gsC (gN 8) gsN))) (tV (eOp (oEqN false) (eOp oIx (eV 8) (eK (.int 0))) (eK (.str "truck")))) (eV 7) [7, 8])) (sSeq (sAs (gN 4) (eCall 2 (f_law_roll cs) [] (aC (eV 1) (aC (eK (.int 3)) aN)))) (sSeq (sPar 5 6 (aC (eNew aN) (aC (eK (.int 0)) aN))) (sSeq (sFor (iZp (aC (eV 2) (aC (eOp oIx (eV 0) (eK (.str "pieces"))) aN))) (gT (gsC (gN 7) (gsC (gN 8) gsN))) (sIf (tV (eOp (oEqN false) (eOp oIx (eV 8) (eK (.int 0))) (eK (.str "truck")))) (sSeq (sEx (eMt "list" fApp (eV 5) (aC (eOp oIx (eV 3) (eOp oMod (eOp oAdd (eV 6) (eV 4)) (eB fLen (aC (eV 3) aN)))) aN))) (sAs (gN 6) (eOp oAdd (eV 6) (eK (.int 1))))) (sEx (eMt "list" fApp (eV 5) (aC (eV 7) aN))))) (sSeq (sCl 5) (sRt (eB fTuple (aC (eV 5) aN))))))))
/-- the run itself -/
noncomputable def f_law_turned (cs : Cs) : List D → Sto → R D := fun ds S => gcR S (runB (m_law_turned cs) 9 ds S)
theorem zip_items (xs : List (Option Int)) (ps : List Pc) : (xs.map plD).zipWith (fun x y => D.tup [x, y]) (ps.map Pc.d) = (xs.zip ps).map fun q => D.tup [plD q.1, q.2.d] := by
  induction xs generalizing ps with
  | nil => simp
  | cons x r ih =>
    cases ps with
    | nil => simp
    | cons p q => simp [ih]
theorem kind_run (p : Pc) (S : Sto) : (oIx p.d (.int 0) S).bind (fun x S1 => oEqN false x (.str "truck") S1) = .ok (.bl (isTr p)) S := by
  cases p with
  | cl l b h => simp [Pc.d, oIx_tup, oEqN_str _ _ _ ok_cloth ok_truck, cloth_ne, isTr]
  | tr b h => simp [Pc.d, oIx_tup, oEqN_str _ _ _ ok_truck ok_truck, isTr]
theorem turned_ok (cs : Cs) {S : Sto} {i : Nat} {c : Cell} {t : Tb} {xs : List (Option Int)} (h : S[i]? = some c) (hc : IsDice c) (ht : TOk t) (hx : ScOk t xs) :
    ∃ ys c', f_law_turned cs [t.d, .ref i, scD xs] S = .ok (scD ys) (S.set i c') ∧ IsDice c' ∧ ScOk t ys := by
  obtain ⟨l1, l2⟩ := ht.len
  obtain ⟨zs, hzs⟩ : ∃ zs, zs = xs.zip t.ps := ⟨_, rfl⟩
  have hzl : zs.length = t.ps.length := by rw [hzs, List.length_zip, hx.len]; omega
  obtain ⟨r, c1, e1, k1, a1, b1⟩ := roll_ok cs h hc (show (0 : Int) < 3 by decide) (by decide)
  obtain ⟨b, rfl⟩ : ∃ b : Nat, r = (b : Int) := ⟨r.toNat, by omega⟩
  refine ⟨gT' (tpl zs) b 0 zs, c1, ?_, k1, by rw [hzs]; exact turned_sc hx b⟩
  have hp := lcM_on (g := gT (gsC (gN 7) (gsC (gN 8) gsN))) (c := tV (eOp (oEqN false) (eOp oIx (eV 8) (eK (.int 0))) (eK (.str "truck")))) (e := eV 7) (chk := fun _ => True ∧ True) (en := [some t.d, some (.ref i), some (scD xs), none, none, none, none, none, none]) (S := S) (fun q : Option Int × Pc => D.tup [plD q.1, q.2.d])
    (fun q => [some t.d, some (.ref i), some (scD xs), none, none, none, none, some (plD q.1), some q.2.d]) (fun q => isTr q.2) (fun q => plD q.1) ⟨trivial, trivial⟩ zs (fun q _ => rfl) (fun q _ => by
      have := kind_run q.2 S
      simp only [ap_tV, ap_eOp, ap_eV, ap_eK, List.getElem?_cons_zero, List.getElem?_cons_succ, R.bind_ok]
      cases hq : oIx q.2.d (.int 0) S with
      | ok d S1 => rw [hq] at this; simp only [R.bind_ok] at this ⊢; rw [this]; rfl
      | exc x S1 => rw [hq] at this; cases this
      | stuck => rw [hq] at this; cases this) (fun q _ _ => rfl)
  have hpv : ((zs.filter fun q => isTr q.2).map fun q => plD q.1) = (tpl zs).map plD := by simp [tpl, List.map_map, Function.comp_def]
  rw [hpv] at hp
  have hlb : (S.set i c1).length = S.length := List.length_set
  have hidx : ∀ ds : List D, (S.set i c1 ++ [Cell.lst ds])[S.length]? = some (.lst ds) := fun ds => by rw [← hlb]; exact gx_last []
  have hset : ∀ (ds : List D) (x : Cell), (S.set i c1 ++ [Cell.lst ds]).set S.length x = S.set i c1 ++ [x] := fun ds x => by rw [← hlb]; exact gs_last _
  have hty : ∀ ds : List D, tyOk "list" (S.set i c1 ++ [Cell.lst ds]) (.ref S.length) = true := fun ds => by simp [tyOk, hidx]
  obtain ⟨en', S', eL, x7, x8, rfl, rfl⟩ := forL_on (g := gT (gsC (gN 7) (gsC (gN 8) gsN))) (chk := fun _ => True ∧ True)
    (b := (sIf (tV (eOp (oEqN false) (eOp oIx (eV 8) (eK (.int 0))) (eK (.str "truck")))) (sSeq (sEx (eMt "list" fApp (eV 5) (aC (eOp oIx (eV 3) (eOp oMod (eOp oAdd (eV 6) (eV 4)) (eB fLen (aC (eV 3) aN)))) aN))) (sAs (gN 6) (eOp oAdd (eV 6) (eK (.int 1))))) (sEx (eMt "list" fApp (eV 5) (aC (eV 7) aN)))))
    (fun q : Option Int × Pc => D.tup [plD q.1, q.2.d])
    (fun pre en S' => ∃ x7 x8, en = [some t.d, some (.ref i), some (scD xs), some (.lst ((tpl zs).map plD)), some (.int (b : Nat)), some (.ref S.length), some (.int (cntT pre : Nat)), x7, x8] ∧ S' = S.set i c1 ++ [.lst ((gT' (tpl zs) b 0 pre).map plD)])
    zs [] [some t.d, some (.ref i), some (scD xs), some (.lst ((tpl zs).map plD)), some (.int (b : Nat)), some (.ref S.length), some (.int 0), none, none] (S.set i c1 ++ [.lst []]) ⟨none, none, rfl, rfl⟩ (by
      rintro pre q en S' hq _ ⟨x7, x8, rfl, rfl⟩
      rw [List.nil_append] at hq
      have hql : pre.length ≤ zs.length := by have := hq.length_le; simp at this; omega
      obtain ⟨rest, hrest⟩ := hq
      have hat : zs[pre.length]? = some q := by rw [← hrest]; simp
      have htk : zs.take pre.length = pre := by rw [← hrest]; simp
      refine ⟨_, rfl, ?_⟩
      obtain ⟨fd, hfd⟩ : ∃ fd, fd = (gT' (tpl zs) b 0 pre).map plD := ⟨_, rfl⟩
      have hfl : fd.length < 100000 := by rw [hfd, List.length_map, gT'_len]; omega
      have hk := kind_run q.2 (S.set i c1 ++ [.lst fd])
      rw [← hfd, cntT_app, gT'_app, List.map_append, ← hfd, Nat.zero_add]
      cases hqq : oIx q.2.d (.int 0) (S.set i c1 ++ [.lst fd]) with
      | exc x S1 => rw [hqq] at hk; cases hk
      | stuck => rw [hqq] at hk; cases hk
      | ok d S1 =>
        rw [hqq] at hk
        simp only [R.bind_ok] at hk
        by_cases hT : isTr q.2 = true
        · have l3 := (List.getElem?_eq_some_iff.mp (tpl_at hat hT)).1
          have hmod : oMod (.int ((cntT pre : Nat) + (b : Nat) : Int)) (.int ((tpl zs).length : Nat)) (S.set i c1 ++ [.lst fd]) = .ok (.int (((cntT pre + b) % (tpl zs).length : Nat) : Int)) (S.set i c1 ++ [.lst fd]) := by
            rw [oMod_int _ _ (by omega)]; congr 2
          have hix : oIx (.lst ((tpl zs).map plD)) (.int (((cntT pre + b) % (tpl zs).length : Nat) : Int)) (S.set i c1 ++ [.lst fd]) = .ok (plD (pl (tpl zs) ((cntT pre + b) % (tpl zs).length))) (S.set i c1 ++ [.lst fd]) := by
            rw [oIx_lst, atI_nat (v := plD (pl (tpl zs) ((cntT pre + b) % (tpl zs).length))) (by rw [List.getElem?_map, pl_get (Nat.mod_lt _ (by omega))]; rfl)]
          refine ⟨[some t.d, some (.ref i), some (scD xs), some (.lst ((tpl zs).map plD)), some (.int (b : Nat)), some (.ref S.length), some (.int ((cntT pre + 1 : Nat) : Int)), some (plD q.1), some q.2.d], S.set i c1 ++ [.lst (fd ++ [plD (pl (tpl zs) ((cntT pre + b) % (tpl zs).length))])], ?_, ⟨trivial, trivial⟩, some (plD q.1), some q.2.d, by simp [hT], by simp [hT]⟩
          simp only [ap_sIf, ap_tV, ap_eOp, ap_eV, ap_eK, List.getElem?_cons_zero, List.getElem?_cons_succ, R.bind_ok, List.set_cons_succ, List.set_cons_zero, hqq, hk, hT, ap_toB, R.thenS_ok, ap_sSeq, ap_sEx, ap_eMt, hty, hidx, ap_aC, ap_aN, ap_eB, fLen_lst, List.length_map, oAdd_int, hmod, hix, fApp, hfl, hset, if_true, RS.andThen_nx, ap_sAs, ap_gN]
          rfl
        · refine ⟨[some t.d, some (.ref i), some (scD xs), some (.lst ((tpl zs).map plD)), some (.int (b : Nat)), some (.ref S.length), some (.int ((cntT pre : Nat) : Int)), some (plD q.1), some q.2.d], S.set i c1 ++ [.lst (fd ++ [plD q.1])], ?_, ⟨trivial, trivial⟩, some (plD q.1), some q.2.d, by simp [hT], by simp [hT]⟩
          have hT' : isTr q.2 = false := by simpa using hT
          simp only [ap_sIf, ap_tV, ap_eOp, ap_eV, ap_eK, List.getElem?_cons_zero, List.getElem?_cons_succ, R.bind_ok, List.set_cons_succ, List.set_cons_zero, hqq, hk, hT', ap_toB, R.thenS_ok, ap_sSeq, ap_sEx, ap_eMt, hty, hidx, ap_aC, ap_aN, ap_eB, fApp, hfl, hset, if_true, RS.andThen_nx, ap_sAs, ap_gN])
  rw [List.nil_append] at eL
  have hzi := zip_items xs t.ps
  rw [← hzs] at hzi
  have hz9 : (zs.map fun q => D.tup [plD q.1, q.2.d]).length ≤ 50000 := by rw [List.length_map]; omega
  have hrun : runB (m_law_turned cs) 9 [t.d, .ref i, scD xs] S = .ok (scD (gT' (tpl zs) b 0 zs)) (S.set i c1 ++ [.dead]) := by
    refine runB_rt ?_
    have e3 : (iZp (aC (eV 2) (aC (eOp oIx (eV 0) (eK (.str "pieces"))) aN))) = iZp (aC (eV 2) (aC (eOp oIx (eV 0) (eK (.str "pieces"))) aN)) := rfl
    have hit : ∀ a b c d e f S', iZp (aC (eV 2) (aC (eOp oIx (eV 0) (eK (.str "pieces"))) aN)) [some t.d, some (.ref i), some (scD xs), a, b, c, d, e, f] S' = .ok (zs.map fun q => D.tup [plD q.1, q.2.d], fun _ => True ∧ True) S' := fun a b c d e f S' => by
      simp only [ap_iZp, ap_aC, ap_aN, ap_eV, ap_eOp, ap_eK, List.getElem?_cons_zero, List.getElem?_cons_succ, R.bind_ok, tb_pieces, scD, seqD_tup, seqD_lst, hzi]
    simp only [m_law_turned, env0, ap_sSeq, ap_sAs, ap_eLc, List.map_cons, List.map_nil, List.length_cons, List.length_nil, List.cons_append, List.nil_append, List.replicate, Nat.reduceAdd, Nat.reduceSub, hit, R.bind_ok, hz9, if_true, wipeE, List.set_cons_succ, List.set_cons_zero, hp, R.thenS_ok, ap_gN, RS.andThen_nx, ap_eCall, ap_aC, ap_aN, ap_eV, ap_eK, List.getElem?_cons_zero, List.getElem?_cons_succ, List.append_nil, arg2, e1, ap_sPar, ap_eNew, hlb, Nat.zero_le, ap_sFor, eL, ap_sCl, hidx, hset, ap_sRt, ap_eB, fTuple_lst]
    rfl
  show gcR S _ = _
  rw [hrun, gcR_ok ((Good.set (Good.refl S) fun _ => noRefC_dice k1).app2 _) (noRef_sc _ _)]
  rw [← hlb, List.take_left]
/-- _law_change(dice, most); slots dice most table first -/
noncomputable def m_law_change (cs : Cs) : Stm :=
  (sSeq (sAs (gN 2) (eCall 2 (f_law_table cs) [] (aC (eV 0) (aC (eV 1) aN)))) (sSeq (sAs (gN 3) (eCall 3 (f_law_scene cs) [] (aC (eV 2) (aC (eV 0) (aC (eLst aN) aN))))) (sSeq (sIf (tV (eOp (oEqN false) (eCall 2 (f_law_roll cs) [] (aC (eV 0) (aC (eK (.int 8)) aN))) (eK (.int 0)))) (sRt (eTup (aC (eV 2) (aC (eCall 1 (f_law_house cs) [] (aC (eV 2) aN)) (aC (eV 3) (aC (eCall 3 (f_law_turned cs) [] (aC (eV 2) (aC (eV 0) (aC (eV 3) aN)))) aN)))))) sNx) (sRt (eTup (aC (eV 2) (aC (eCall 1 (f_law_house cs) [] (aC (eV 2) aN)) (aC (eV 3) (aC (eCall 3 (f_law_scene cs) [] (aC (eV 2) (aC (eV 0) (aC (eB fList (aC (eV 3) aN)) aN)))) aN)))))))))
/-- the run itself -/
noncomputable def f_law_change (cs : Cs) : List D → Sto → R D := fun ds S => runB (m_law_change cs) 4 ds S
theorem change_ok (cs : Cs) {S : Sto} {i : Nat} {c : Cell} {most : Int} (h : S[i]? = some c) (hc : IsDice c) (hm : 1 ≤ most ∧ most ≤ 8) :
    ∃ t xs ys c', f_law_change cs [.ref i, .int most] S = .ok (.tup [t.d, .ref S.length, scD xs, scD ys]) (S.set i c' ++ hCells cs t.ho S.length) ∧ IsDice c' ∧ TOk t ∧ ScOk t xs ∧ ScOk t ys ∧ t.w ≤ 4 ∧ t.g ≤ 3 ∧ t.c ≤ 4 ∧ t.ps.length ≤ most := by
  obtain ⟨t, c1, e1, k1, ht, w4, g3, c4, pm⟩ := table_ok cs h hc hm
  have h1 : (S.set i c1)[i]? = some c1 := gx_set h c1
  obtain ⟨xs, c2, e2, k2, hx⟩ := scene_ok cs h1 k1 ht (el := []) (.inl rfl)
  rw [List.set_set] at e2
  obtain ⟨r, c3, e3, k3, a3, b3⟩ := roll_set cs h k2 (show (0 : Int) < 8 by decide) (by decide)
  have hl : ∀ c, (S.set i c).length = S.length := fun c => List.length_set
  have h3 : (S.set i c3)[i]? = some c3 := gx_set h c3
  have e4 := house_ok cs (S := S.set i c3) ht
  rw [hl] at e4
  have h4 : (S.set i c3 ++ hCells cs t.ho S.length)[i]? = some c3 := gx_app h3 _
  have hset : ∀ c, (S.set i c3 ++ hCells cs t.ho S.length).set i c = S.set i c ++ hCells cs t.ho S.length := fun c => by
    rw [gs_app h3, List.set_set]
  by_cases hr : r = 0
  · obtain ⟨ys, c5, e5, k5, hy⟩ := turned_ok cs h4 k3 ht hx
    rw [hset] at e5
    refine ⟨t, xs, ys, c5, runB_rt ?_, k5, ht, hx, hy, w4, g3, c4, pm⟩
    have e2' : f_law_scene cs [t.d, .ref i, .lst []] (S.set i c1) = .ok (scD xs) (S.set i c2) := e2
    simp [m_law_change, env0, e1, e2', e3, hr, oEqN_int, e4, e5]
  · obtain ⟨ys, c5, e5, k5, hy⟩ := scene_ok cs h4 k3 ht (el := xs) (.inr hx)
    rw [hset] at e5
    refine ⟨t, xs, ys, c5, runB_rt ?_, k5, ht, hx, hy, w4, g3, c4, pm⟩
    have e2' : f_law_scene cs [t.d, .ref i, .lst []] (S.set i c1) = .ok (scD xs) (S.set i c2) := e2
    have hfl : fList [scD xs] (S.set i c3 ++ hCells cs t.ho S.length) = .ok (.lst (xs.map plD)) (S.set i c3 ++ hCells cs t.ho S.length) := rfl
    simp [m_law_change, env0, e1, e2', e3, hr, oEqN_int, e4, e5, hfl]
end SF

namespace SF
open PySem L2
/-! ### rings -/
abbrev RowS := List Nat × Nat
def rowOf (s : RowS) : List Nat := s.1 ++ [s.2]
def nxt (xs ys : List (Option Int)) (s : RowS) : RowS := match wt xs ys s.2 with
  | some o => if o ∈ rowOf s then s else (rowOf s, o)
  | none => s
def itN (xs ys : List (Option Int)) : Nat → RowS → RowS
  | 0, s => s
  | k + 1, s => nxt xs ys (itN xs ys k s)
structure RI (xs ys : List (Option Int)) (p : Nat) (s : RowS) : Prop where
  nd : (rowOf s).Nodup
  mem : ∀ a ∈ rowOf s, a ∈ mvs xs ys
  chain : ∀ (i : Nat) a b, (rowOf s)[i]? = some a → (rowOf s)[i + 1]? = some b → wt xs ys a = some b
  head : (rowOf s)[0]? = some p
theorem RI.nxt {xs ys : List (Option Int)} {p : Nat} {s : RowS} (h : RI xs ys p s) : RI xs ys p (nxt xs ys s) := by
  unfold SF.nxt
  cases hw : wt xs ys s.2 with
  | none => exact h
  | some o =>
    dsimp only
    split
    · exact h
    · rename_i ho
      have hr : rowOf (rowOf s, o) = rowOf s ++ [o] := rfl
      refine ⟨?_, ?_, ?_, ?_⟩
      · rw [hr, List.nodup_append]
        exact ⟨h.nd, by simp, fun a ha b hb => by
          have : b = o := by simpa using hb
          subst this
          rintro rfl; exact ho ha⟩
      · rw [hr]
        intro a ha
        rcases List.mem_append.mp ha with ha | ha
        · exact h.mem a ha
        · have : a = o := by simpa using ha
          subst this
          exact (wt_mem hw).1
      · rw [hr]
        intro i a b h1 h2
        by_cases hi : i + 1 < (rowOf s).length
        · rw [List.getElem?_append_left (by omega)] at h1
          rw [List.getElem?_append_left hi] at h2
          exact h.chain i a b h1 h2
        · have hi2 : i + 1 = (rowOf s).length := by
            have := (List.getElem?_eq_some_iff.mp h2).1
            simp at this
            omega
          rw [hi2, List.getElem?_append_right (Nat.le_refl _), Nat.sub_self] at h2
          have hb : b = o := by simpa using h2.symm
          have hl : (rowOf s).length = s.1.length + 1 := by simp [rowOf]
          have hi3 : i = s.1.length := by omega
          rw [List.getElem?_append_left (by omega)] at h1
          subst hi3
          have ha : a = s.2 := by
            unfold rowOf at h1
            rw [List.getElem?_append_right (Nat.le_refl _), Nat.sub_self] at h1
            simpa using h1.symm
          rw [ha, hb]
          exact hw
      · rw [hr, List.getElem?_append_left (by simp [rowOf])]
        exact h.head
theorem RI.it {xs ys : List (Option Int)} {p : Nat} {s : RowS} (h : RI xs ys p s) : ∀ k, RI xs ys p (itN xs ys k s)
  | 0 => h
  | k + 1 => (RI.it h k).nxt
theorem RI.start {xs ys : List (Option Int)} {p : Nat} (h : p ∈ mvs xs ys) : RI xs ys p ([], p) :=
  ⟨by simp [rowOf], by simpa [rowOf] using h, fun i a b h1 h2 => by simp [rowOf] at h2, rfl⟩
theorem nodup_len {α : Type} [DecidableEq α] : ∀ (l m : List α), l.Nodup → (∀ a ∈ l, a ∈ m) → l.length ≤ m.length
  | [], m, _, _ => Nat.zero_le _
  | a :: r, m, nd, h => by
    have nd' := List.nodup_cons.mp nd
    have hm := h a List.mem_cons_self
    have ih := nodup_len r (m.erase a) nd'.2 fun b hb => (List.mem_erase_of_ne (by rintro rfl; exact nd'.1 hb)).mpr (h b (List.mem_cons_of_mem _ hb))
    rw [List.length_erase_of_mem hm] at ih
    have := List.length_pos_of_mem hm
    rw [List.length_cons]
    omega
theorem RI.len {xs ys : List (Option Int)} {p : Nat} {s : RowS} (h : RI xs ys p s) : (rowOf s).length ≤ xs.length := by
  have h1 : (rowOf s).length ≤ (mvs xs ys).length := nodup_len _ _ h.nd h.mem
  have := mvs_len xs ys
  omega
theorem nxt_len {xs ys : List (Option Int)} {s : RowS} (h : nxt xs ys s ≠ s) : (rowOf (nxt xs ys s)).length = (rowOf s).length + 1 := by
  unfold nxt at h ⊢
  cases hw : wt xs ys s.2 with
  | none => rw [hw] at h; exact absurd rfl h
  | some o =>
    rw [hw] at h
    dsimp only at h ⊢
    split at h
    · exact absurd rfl h
    · rename_i ho
      rw [if_neg ho]
      simp [rowOf]
theorem it_fix {xs ys : List (Option Int)} {s : RowS} {k : Nat} (h : nxt xs ys (itN xs ys k s) = itN xs ys k s) : ∀ m, k ≤ m → itN xs ys m s = itN xs ys k s
  | 0, hm => by have : k = 0 := by omega
                rw [this]
  | m + 1, hm => by
    by_cases e : k = m + 1
    · rw [e]
    · have := it_fix h m (by omega)
      show nxt xs ys (itN xs ys m s) = _
      rw [this, h]
theorem it_grow {xs ys : List (Option Int)} {s : RowS} : ∀ k, (∀ j, j < k → nxt xs ys (itN xs ys j s) ≠ itN xs ys j s) → (rowOf (itN xs ys k s)).length = (rowOf s).length + k
  | 0, _ => rfl
  | k + 1, h => by
    have h1 := it_grow k fun j hj => h j (by omega)
    show (rowOf (nxt xs ys (itN xs ys k s))).length = _
    rw [nxt_len (h k (by omega)), h1]; omega
theorem it_end {xs ys : List (Option Int)} {p : Nat} (hp : p ∈ mvs xs ys) : ∃ k, k ≤ xs.length ∧ nxt xs ys (itN xs ys k ([], p)) = itN xs ys k ([], p) ∧ (∀ j, j < k → nxt xs ys (itN xs ys j ([], p)) ≠ itN xs ys j ([], p)) := by
  apply Classical.byContradiction
  intro hno
  have all : ∀ k, k ≤ xs.length → ∀ j, j ≤ k → nxt xs ys (itN xs ys j ([], p)) ≠ itN xs ys j ([], p) := by
    intro k
    induction k with
    | zero =>
      intro _ j hj e
      have : j = 0 := by omega
      subst this
      exact hno ⟨0, by omega, e, fun j hj => absurd hj (Nat.not_lt_zero _)⟩
    | succ k ih =>
      intro hk j hj e
      by_cases hjk : j ≤ k
      · exact ih (by omega) j hjk e
      · have : j = k + 1 := by omega
        subst this
        exact hno ⟨k + 1, hk, e, fun j hj => ih (by omega) j (by omega)⟩
  have h1 := it_grow (xs := xs) (ys := ys) (s := ([], p)) xs.length fun j hj => all xs.length (Nat.le_refl _) j (by omega)
  have h2 := ((RI.start hp).it xs.length).len
  rw [h1] at h2
  simp [rowOf] at h2
  omega
/-- the ring that begins with p -/
def rOf (xs ys : List (Option Int)) (p : Nat) : Option (List Nat) := if wt xs ys (itN xs ys xs.length ([], p)).2 = some p then some (rowOf (itN xs ys xs.length ([], p))) else none
def ringD (o : Option (List Nat)) : D := match o with
  | some row => .lst (natsD row)
  | none => .non
/-! runs -/
theorem oIn_nats (neg : Bool) (a : Nat) {row : List Nat} {S : Sto} {r : Nat} (h : S[r]? = some (.lst (natsD row))) : oIn neg (.int (a : Nat)) (.ref r) S = .ok (.bl (neg ^^ decide (a ∈ row))) S := by
  have h1 : (natsD row).all flatD = true := by
    rw [List.all_eq_true]; intro d hd; obtain ⟨i, _, rfl⟩ := List.mem_map.mp hd; rfl
  have h2 : ((natsD row).any fun y => eqF y (.int (a : Nat))) = decide (a ∈ row) := by
    unfold natsD
    rw [List.any_map]
    by_cases h : a ∈ row
    · rw [decide_eq_true h, List.any_eq_true]; exact ⟨a, h, by simp [eqF]⟩
    · rw [decide_eq_false h, List.any_eq_false]
      intro x hx
      simp only [Function.comp, eqF, beq_iff_eq]
      intro e
      have : x = a := by omega
      subst this; exact h hx
  have h3 : flatD (.int (a : Nat)) = true := rfl
  simp only [oIn, getD_ref, h, getQ_ref h, h1, h2, h3]
  rfl
theorem atI_end {α : Type} (l : List α) (z : α) : atI (l ++ [z]) (-1) = some z := by
  have h : ixN (l.length + 1) (-1) = some l.length := by
    unfold ixN
    have h1 : ¬ (0 ≤ (-1 : Int)) := by decide
    first
      | (simp; omega)
      | (simp [h1]; omega)
  unfold atI
  rw [List.length_append, List.length_singleton, h]
  simp
theorem oIx_end {s : RowS} {S : Sto} {r : Nat} (h : S[r]? = some (.lst (natsD (rowOf s)))) : oIx (.ref r) (.int (-1)) S = .ok (.int (s.2 : Nat)) S := by
  rw [oIx_ref h]
  have : natsD (rowOf s) = natsD s.1 ++ [.int (s.2 : Nat)] := by simp [natsD, rowOf]
  rw [this, atI_end]
theorem valD_wK {xs ys : List (Option Int)} (ha : apartP xs) {p : Nat} (hp : p ∈ mvs xs ys) : valD (wKV xs ys) (.inl (p : Int)) = (wt xs ys p).map fun o => D.int (o : Nat) := by
  rw [wKV_eq ha, valD_w, if_pos hp]
/-! ### need_scenes, ring_of, _law_ring -/
/-- need_scenes(house, first, then); slots house first then -/
noncomputable def m_need_scenes (cs : Cs) : Stm :=
  (sIf (tOrr (tNo (tV (eMeth cs.House "is_scene" 2 (f_House_is_scene cs) [] (eV 0) (aC (eV 1) aN)))) (tNo (tV (eMeth cs.House "is_scene" 2 (f_House_is_scene cs) [] (eV 0) (aC (eV 2) aN))))) (sRaise (cs.ex 2) 2) sNx)
/-- the run itself -/
noncomputable def f_need_scenes (cs : Cs) : List D → Sto → R D := fun ds S => runB (m_need_scenes cs) 3 ds S
theorem need_scenes_ok (cs : Cs) {S : Sto} {t : Tb} {hi hj : Nat} {xs ys : List (Option Int)} (ht : TOk t) (h : HAt cs S hi hj t.ho) (hx : ScOk t xs) (hy : ScOk t ys) : f_need_scenes cs [.ref hi, scD xs, scD ys] S = .ok .non S := by
  have hps9 : t.ho.ps.length ≤ 1000 := by show t.ps.length ≤ 1000; have := ht.len.2; omega
  refine runB_nx (en := [some (.ref hi), some (scD xs), some (scD ys)]) ?_
  simp [m_need_scenes, env0, ins_scene h, is_scene_run h hps9 (thingOk_sc xs), is_scene_run h hps9 (thingOk_sc ys), (isScene_iff t xs).mpr hx, (isScene_iff t ys).mpr hy]
theorem sGc_rt {m : Stm} {en : En} {S S2 : Sto} {d : D} (h : m en S = .rt d S2) : sGc m en S = .rt d S2 := by
  unfold sGc
  rw [h]
theorem natsD_sing (p : Nat) : natsD (rowOf ([], p)) = [.int (p : Nat)] := rfl
section
variable {xs ys : List (Option Int)} {S : Sto}
theorem row_idx (row : List Nat) : (S ++ [Cell.lst (natsD row)])[S.length]? = some (.lst (natsD row)) := gx_last []
theorem row_set (row : List Nat) (x : Cell) : (S ++ [Cell.lst (natsD row)]).set S.length x = S ++ [x] := gs_last _
theorem row_ty (row : List Nat) : tyOk "list" (S ++ [Cell.lst (natsD row)]) (.ref S.length) = true := by simp [tyOk, row_idx]
theorem row_app {row : List Nat} (h : row.length ≤ 1000) (o : Nat) : fApp (.ref S.length) [.int (o : Nat)] (S ++ [Cell.lst (natsD row)]) = .ok .non (S ++ [.lst (natsD (row ++ [o]))]) := by
  have h1 : (natsD row).length < 100000 := by simp [natsD]; omega
  simp only [fApp, row_idx, if_pos h1, row_set]
  simp [natsD]
/-- the while loop of ring_of -/
noncomputable def whC : Tst := (tV (eOp (oIn true) (eGet (eV 2) (eOp oIx (eV 4) (eNeg (eK (.int 1)))) (eV 3)) (eV 4)))
noncomputable def whB : Stm := (sEx (eMt "list" fApp (eV 4) (aC (eOp oIx (eV 2) (eOp oIx (eV 4) (eNeg (eK (.int 1))))) aN)))
theorem while_ok {p : Nat} (ha : apartP xs) (hx : xs.length ≤ 100) : ∀ (k f : Nat) (s : RowS), RI xs ys p s → k < f → nxt xs ys (itN xs ys k s) = itN xs ys k s →
    whileL whC whB f [some (scD xs), some (scD ys), some (.dct (wKV xs ys)), some (.int (p : Nat)), some (.ref S.length)] (S ++ [.lst (natsD (rowOf s))]) = .nx [some (scD xs), some (scD ys), some (.dct (wKV xs ys)), some (.int (p : Nat)), some (.ref S.length)] (S ++ [.lst (natsD (rowOf (itN xs ys k s)))]) := by
  have cond : ∀ (s : RowS), RI xs ys p s → whC [some (scD xs), some (scD ys), some (.dct (wKV xs ys)), some (.int (p : Nat)), some (.ref S.length)] (S ++ [.lst (natsD (rowOf s))]) = .ok (decide (nxt xs ys s ≠ s)) (S ++ [.lst (natsD (rowOf s))]) := fun s hs => by
    have hz : s.2 ∈ mvs xs ys := hs.mem _ (by simp [rowOf])
    have hpm : p ∈ rowOf s := List.mem_of_getElem? hs.head
    have h1 := oIx_end (row_idx (S := S) (rowOf s))
    simp only [whC, ap_tV, ap_eOp, ap_eGet, ap_eV, ap_eNeg, ap_eK, List.getElem?_cons_zero, List.getElem?_cons_succ, R.bind_ok, getD_dct, h1, keyD_int, valD_wK ha hz]
    cases hw : wt xs ys s.2 with
    | none =>
      have e : nxt xs ys s = s := by unfold nxt; rw [hw]
      simp only [Option.map_none, Option.getD_none, oIn_nats true p (row_idx (S := S) (rowOf s)), R.bind_ok, ap_toB, hpm, e, decide_true]
      simp
    | some o =>
      simp only [Option.map_some, Option.getD_some, oIn_nats true o (row_idx (S := S) (rowOf s)), R.bind_ok, ap_toB]
      by_cases ho : o ∈ rowOf s
      · have e : nxt xs ys s = s := by unfold nxt; rw [hw]; simp [ho]
        simp [ho, e]
      · have e : nxt xs ys s ≠ s := by
          intro z
          have e2 : nxt xs ys s = (rowOf s, o) := by unfold nxt; rw [hw]; exact if_neg ho
          have e3 := congrArg (fun s => (rowOf s).length) (e2.symm.trans z)
          have e4 : (rowOf (rowOf s, o)).length = (rowOf s).length + 1 := by simp [rowOf]
          omega
        simp [ho, e]
  intro k
  induction k with
  | zero =>
    intro f s hs hf hfix
    cases f with
    | zero => omega
    | succ f =>
      have hfix : nxt xs ys s = s := hfix
      unfold whileL
      rw [cond s hs]
      simp [hfix, itN]
  | succ k ih =>
    intro f s hs hf hfix
    cases f with
    | zero => omega
    | succ f =>
      unfold whileL
      rw [cond s hs]
      by_cases e : nxt xs ys s = s
      · have h0 : itN xs ys (k + 1) s = s := it_fix (k := 0) (s := s) e (k + 1) (by omega)
        simp [e, h0]
      · have hz : s.2 ∈ mvs xs ys := hs.mem _ (by simp [rowOf])
        have h1 := oIx_end (row_idx (S := S) (rowOf s))
        have hsh : ∀ j, itN xs ys j (nxt xs ys s) = itN xs ys (j + 1) s := fun j => by
          induction j with
          | zero => rfl
          | succ j ihj => show nxt xs ys (itN xs ys j (nxt xs ys s)) = _; rw [ihj]; rfl
        have hl := hs.len
        obtain ⟨o, hw, hn⟩ : ∃ o, wt xs ys s.2 = some o ∧ nxt xs ys s = (rowOf s, o) := by
          unfold nxt at e ⊢
          cases hw : wt xs ys s.2 with
          | none => rw [hw] at e; exact absurd rfl e
          | some o =>
            rw [hw] at e
            dsimp only at e ⊢
            split at e
            · exact absurd rfl e
            · rename_i ho
              exact ⟨o, rfl, by rw [if_neg ho]⟩
        have hb : whB [some (scD xs), some (scD ys), some (.dct (wKV xs ys)), some (.int (p : Nat)), some (.ref S.length)] (S ++ [.lst (natsD (rowOf s))]) = .nx [some (scD xs), some (scD ys), some (.dct (wKV xs ys)), some (.int (p : Nat)), some (.ref S.length)] (S ++ [.lst (natsD (rowOf (nxt xs ys s)))]) := by
          have hrow : rowOf (nxt xs ys s) = rowOf s ++ [o] := by rw [hn]; rfl
          rw [hrow]
          simp only [whB, ap_sEx, ap_eMt, ap_eV, ap_eOp, ap_eNeg, ap_eK, ap_aC, ap_aN, List.getElem?_cons_zero, List.getElem?_cons_succ, R.bind_ok, row_ty, if_true, h1, oIx_dct, keyD_int, valD_wK ha hz, hw, Option.map_some, row_app (show (rowOf s).length ≤ 1000 by omega), R.thenS_ok]
        have := ih f (nxt xs ys s) hs.nxt (by omega) (by rw [hsh]; exact hfix)
        rw [hsh] at this
        simp [e, hb, this]
end
end SF

namespace SF
open PySem L2
/-- ring_of(first, then); slots first then awaited piece row -/
noncomputable def m_ring_of (cs : Cs) : Stm :=
  (sSeq (sAs (gN 2) (eCall 2 (f_waiting cs) [] (aC (eV 0) (aC (eV 1) aN)))) (sSeq (sFor (iSeq (eCall 2 (f_moving cs) [] (aC (eV 0) (aC (eV 1) aN)))) (gN 3) (sGc (sSeq (sAs (gN 4) (eNew (aC (eV 3) aN))) (sSeq (whileL (tV (eOp (oIn true) (eGet (eV 2) (eOp oIx (eV 4) (eNeg (eK (.int 1)))) (eV 3)) (eV 4))) (sEx (eMt "list" fApp (eV 4) (aC (eOp oIx (eV 2) (eOp oIx (eV 4) (eNeg (eK (.int 1))))) aN))) 1000) (sIf (tV (eOp (oEqN false) (eGet (eV 2) (eOp oIx (eV 4) (eNeg (eK (.int 1)))) (eNeg (eK (.int 1)))) (eV 3))) (sSeq (sCl 4) (sRt (eV 4))) sNx))))) (sRt (eK .non))))
/-- the run itself -/
noncomputable def f_ring_of (cs : Cs) : List D → Sto → R D := fun ds S => gcR S (runB (m_ring_of cs) 5 ds S)
/-- _law_ring(first, then); slots first then awaited piece row turn -/
noncomputable def m_law_ring (cs : Cs) : Stm :=
  (sSeq (sAs (gN 2) (eCall 2 (f_law_waits cs) [] (aC (eV 0) (aC (eV 1) aN)))) (sSeq (sFor (iSeq (eCall 2 (f_law_moves cs) [] (aC (eV 0) (aC (eV 1) aN)))) (gN 3) (sGc (sSeq (sAs (gN 4) (eNew (aC (eV 3) aN))) (sSeq (sFor (iR1 (aC (eB fLen (aC (eV 0) aN)) aN)) (gN 5) (sIf (tAn (tV (eOp (oIn false) (eOp oIx (eV 4) (eNeg (eK (.int 1)))) (eV 2))) (tV (eOp (oIn true) (eOp oIx (eV 2) (eOp oIx (eV 4) (eNeg (eK (.int 1))))) (eV 4)))) (sEx (eMt "list" fApp (eV 4) (aC (eOp oIx (eV 2) (eOp oIx (eV 4) (eNeg (eK (.int 1))))) aN))) sNx)) (sIf (tAn (tV (eOp (oIn false) (eOp oIx (eV 4) (eNeg (eK (.int 1)))) (eV 2))) (tV (eOp (oEqN false) (eOp oIx (eV 2) (eOp oIx (eV 4) (eNeg (eK (.int 1))))) (eV 3)))) (sSeq (sCl 4) (sRt (eV 4))) sNx))))) (sRt (eK .non))))
/-- the run itself -/
noncomputable def f_law_ring (cs : Cs) : List D → Sto → R D := fun ds S => gcR S (runB (m_law_ring cs) 6 ds S)
/-- ring(house, first, then); slots house first then -/
noncomputable def m_ring (cs : Cs) : Stm :=
  (sSeq (sEx (eCall 3 (f_need_scenes cs) [] (aC (eV 0) (aC (eV 1) (aC (eV 2) aN))))) (sRt (eCall 2 (f_ring_of cs) [] (aC (eV 1) (aC (eV 2) aN)))))
/-- the run itself -/
noncomputable def f_ring (cs : Cs) : List D → Sto → R D := fun ds S => runB (m_ring cs) 3 ds S
theorem noRef_nats (n : Nat) (row : List Nat) : noRef n (.lst (natsD row)) = true := by
  show noRefs n (natsD row) = true
  rw [noRefs_all, List.all_eq_true]
  intro d hd
  obtain ⟨x, _, rfl⟩ := List.mem_map.mp hd
  simp [noRef]
theorem noRef_ring (n : Nat) (o : Option (List Nat)) : noRef n (ringD o) = true := by
  cases o with
  | none => simp [ringD, noRef]
  | some row => exact noRef_nats n row
theorem it_at_len {xs ys : List (Option Int)} {p : Nat} (hp : p ∈ mvs xs ys) : nxt xs ys (itN xs ys xs.length ([], p)) = itN xs ys xs.length ([], p) := by
  obtain ⟨k, h1, h2, _⟩ := it_end hp
  rw [it_fix h2 xs.length h1]
  exact h2
theorem get_is {xs ys : List (Option Int)} (ha : apartP xs) {z p : Nat} (hz : z ∈ mvs xs ys) (S : Sto) : oEqN false (((valD (wKV xs ys) (.inl (z : Int))).getD (.int (-1)))) (.int (p : Nat)) S = .ok (.bl (decide (wt xs ys z = some p))) S := by
  rw [valD_wK ha hz]
  cases hw : wt xs ys z with
  | none =>
    have : ¬ ((-1 : Int) = (p : Nat)) := by omega
    simp [oEqN_int, this]
  | some o =>
    have : ((o : Nat) : Int) = (p : Nat) ↔ o = p := by omega
    simp [oEqN_int, this]
theorem ring_of_ok (cs : Cs) {xs ys : List (Option Int)} {S : Sto} (ha : apartP xs) (hl : ys.length = xs.length) (hx : xs.length ≤ 100) : f_ring_of cs [scD xs, scD ys] S = .ok (ringD ((mvs xs ys).findSome? (rOf xs ys))) S := by
  obtain ⟨h1, h2⟩ := forL_first (g := gN 3) (chk := fun _ => True) (S := S)
    (b := (sGc (sSeq (sAs (gN 4) (eNew (aC (eV 3) aN))) (sSeq (whileL whC whB 1000) (sIf (tV (eOp (oEqN false) (eGet (eV 2) (eOp oIx (eV 4) (eNeg (eK (.int 1)))) (eNeg (eK (.int 1)))) (eV 3))) (sSeq (sCl 4) (sRt (eV 4))) sNx)))))
    (fun i : Nat => D.int (i : Nat)) (fun p => (rOf xs ys p).map fun row => D.lst (natsD row)) (fun en => ∃ x3 x4, en = [some (scD xs), some (scD ys), some (.dct (wKV xs ys)), x3, x4]) (mvs xs ys) [some (scD xs), some (scD ys), some (.dct (wKV xs ys)), none, none] ⟨_, _, rfl⟩ (by
      rintro p en hp ⟨x3, x4, rfl⟩
      refine ⟨_, rfl, ?_⟩
      obtain ⟨k, k1, k2, _⟩ := it_end hp
      have hfx := it_fix k2 xs.length k1
      have hw := while_ok (S := S) (ys := ys) ha hx k 1000 ([], p) (RI.start hp) (by omega) k2
      rw [← hfx, natsD_sing] at hw
      obtain ⟨s, hs⟩ : ∃ s, s = itN xs ys xs.length ([], p) := ⟨_, rfl⟩
      have hRI : RI xs ys p s := by rw [hs]; exact (RI.start hp).it _
      rw [← hs] at hw
      have hz : s.2 ∈ mvs xs ys := hRI.mem _ (by simp [rowOf])
      have h1 := oIx_end (row_idx (S := S) (rowOf s))
      have hg := get_is (ys := ys) (p := p) ha hz (S ++ [.lst (natsD (rowOf s))])
      have hr : rOf xs ys p = if wt xs ys s.2 = some p then some (rowOf s) else none := by unfold rOf; rw [← hs]
      have hfront : (sSeq (sAs (gN 4) (eNew (aC (eV 3) aN))) (sSeq (whileL whC whB 1000) (sIf (tV (eOp (oEqN false) (eGet (eV 2) (eOp oIx (eV 4) (eNeg (eK (.int 1)))) (eNeg (eK (.int 1)))) (eV 3))) (sSeq (sCl 4) (sRt (eV 4))) sNx))) [some (scD xs), some (scD ys), some (.dct (wKV xs ys)), some (.int (p : Nat)), x4] S =
          (if wt xs ys s.2 = some p then .rt (.lst (natsD (rowOf s))) (S ++ [.dead]) else .nx [some (scD xs), some (scD ys), some (.dct (wKV xs ys)), some (.int (p : Nat)), some (.ref S.length)] (S ++ [.lst (natsD (rowOf s))])) := by
        simp only [ap_sSeq, ap_sAs, ap_eNew, ap_aC, ap_aN, ap_eV, List.getElem?_cons_zero, List.getElem?_cons_succ, R.bind_ok, List.length_cons, List.length_nil, Nat.reduceAdd, Nat.reduceLeDiff, if_true, R.thenS_ok, ap_gN, List.set_cons_succ, List.set_cons_zero, RS.andThen_nx, hw, ap_sIf, ap_tV, ap_eOp, ap_eGet, ap_eNeg, ap_eK, getD_dct, h1, keyD_int, hg, ap_toB]
        by_cases hp2 : wt xs ys s.2 = some p
        · simp [hp2, row_idx, row_set]
        · simp [hp2]
      refine ⟨fun hn => ?_, fun d hd => ?_⟩
      · have hp2 : ¬ (wt xs ys s.2 = some p) := by
          intro z
          rw [hr, if_pos z] at hn
          cases hn
        rw [if_neg hp2] at hfront
        have hgc := sGc_nx hfront ((Good.refl S).app2 _)
        rw [List.take_left] at hgc
        have hk : ([some (scD xs), some (scD ys), some (.dct (wKV xs ys)), some (.int (p : Nat)), some (.ref S.length)] : En).map (kp S.length) = [some (scD xs), some (scD ys), some (.dct (wKV xs ys)), some (.int (p : Nat)), none] := by
          simp only [List.map_cons, List.map_nil, kp_some (noRef_sc S.length xs), kp_some (noRef_sc S.length ys), kp_some (show noRef S.length (.dct (wKV xs ys)) = true from noRefK_w _ _ _ _), kp_some (show noRef S.length (.int (p : Nat)) = true by simp [noRef])]
          have : kp S.length (some (.ref S.length)) = none := by simp [kp, noRef]
          rw [this]
        rw [hk] at hgc
        exact ⟨_, hgc, trivial, _, _, rfl⟩
      · by_cases hp2 : wt xs ys s.2 = some p
        · rw [if_pos hp2] at hfront
          rw [hr, if_pos hp2] at hd
          have : D.lst (natsD (rowOf s)) = d := by simpa using hd
          subst this
          exact ⟨[.dead], sGc_rt hfront⟩
        · rw [hr, if_neg hp2] at hd
          cases hd)
  have hit : natsD (mvs xs ys) = (mvs xs ys).map fun i : Nat => D.int (i : Nat) := rfl
  have hfm : (mvs xs ys).findSome? (fun p => (rOf xs ys p).map fun row => D.lst (natsD row)) = ((mvs xs ys).findSome? (rOf xs ys)).map fun row => D.lst (natsD row) := by
    induction mvs xs ys with
    | nil => rfl
    | cons a r ih => rw [List.findSome?_cons, List.findSome?_cons]; cases rOf xs ys a <;> simp [ih]
  rw [hfm] at h1 h2
  have hfr : ∀ X, forL (gN 3) (sGc (sSeq (sAs (gN 4) (eNew (aC (eV 3) aN))) (sSeq (whileL whC whB 1000) (sIf (tV (eOp (oEqN false) (eGet (eV 2) (eOp oIx (eV 4) (eNeg (eK (.int 1)))) (eNeg (eK (.int 1)))) (eV 3))) (sSeq (sCl 4) (sRt (eV 4))) sNx)))) (fun _ => True) (natsD (mvs xs ys)) [some (scD xs), some (scD ys), some (.dct (wKV xs ys)), none, none] S = X → m_ring_of cs (env0 5 [scD xs, scD ys]) S = X.andThen (sRt (eK .non)) := fun X hX => by
    have hm : m_ring_of cs = (sSeq (sAs (gN 2) (eCall 2 (f_waiting cs) [] (aC (eV 0) (aC (eV 1) aN)))) (sSeq (sFor (iSeq (eCall 2 (f_moving cs) [] (aC (eV 0) (aC (eV 1) aN)))) (gN 3) (sGc (sSeq (sAs (gN 4) (eNew (aC (eV 3) aN))) (sSeq (whileL whC whB 1000) (sIf (tV (eOp (oEqN false) (eGet (eV 2) (eOp oIx (eV 4) (eNeg (eK (.int 1)))) (eNeg (eK (.int 1)))) (eV 3))) (sSeq (sCl 4) (sRt (eV 4))) sNx))))) (sRt (eK .non)))) := rfl
    rw [hm]
    simp only [env0, List.map_cons, List.map_nil, List.length_cons, List.length_nil, List.cons_append, List.nil_append, List.replicate, Nat.reduceAdd, Nat.reduceSub, ap_sSeq, ap_sAs, ap_eCall, ap_aC, ap_aN, ap_eV, List.getElem?_cons_zero, List.getElem?_cons_succ, R.bind_ok, List.append_nil, arg2, waiting_ok cs hl hx, moving_ok cs hl (show xs.length ≤ 1000 by omega), R.thenS_ok, ap_gN, List.set_cons_succ, List.set_cons_zero, RS.andThen_nx, ap_sFor, ap_iSeq, hX]
  rw [hit] at hfr
  show gcR S (runB (m_ring_of cs) 5 [scD xs, scD ys] S) = _
  cases hf : (mvs xs ys).findSome? (rOf xs ys) with
  | none =>
    rw [hf] at h1
    obtain ⟨en', e, _⟩ := h1 rfl
    rw [runB_rt (show m_ring_of cs (env0 5 [scD xs, scD ys]) S = .rt .non S by rw [hfr _ e]; rfl), gcR_same (by simp [noRef])]
    rfl
  | some row =>
    rw [hf] at h2
    obtain ⟨T, e⟩ := h2 _ rfl
    rw [runB_rt (show m_ring_of cs (env0 5 [scD xs, scD ys]) S = .rt (.lst (natsD row)) (S ++ T) by rw [hfr _ e]; rfl), gcR_ok ((Good.refl S).app2 _) (noRef_nats _ _), List.take_left]
    rfl
/-- the law's own walk of a ring -/
noncomputable def lrB : Stm := (sIf (tAn (tV (eOp (oIn false) (eOp oIx (eV 4) (eNeg (eK (.int 1)))) (eV 2))) (tV (eOp (oIn true) (eOp oIx (eV 2) (eOp oIx (eV 4) (eNeg (eK (.int 1))))) (eV 4)))) (sEx (eMt "list" fApp (eV 4) (aC (eOp oIx (eV 2) (eOp oIx (eV 4) (eNeg (eK (.int 1))))) aN))) sNx)
noncomputable def lrT : Stm := (sSeq (sAs (gN 4) (eNew (aC (eV 3) aN))) (sSeq (sFor (iR1 (aC (eB fLen (aC (eV 0) aN)) aN)) (gN 5) lrB) (sIf (tAn (tV (eOp (oIn false) (eOp oIx (eV 4) (eNeg (eK (.int 1)))) (eV 2))) (tV (eOp (oEqN false) (eOp oIx (eV 2) (eOp oIx (eV 4) (eNeg (eK (.int 1))))) (eV 3)))) (sSeq (sCl 4) (sRt (eV 4))) sNx)))
theorem oIn_dct (neg : Bool) (kvs : List (Key × D)) (z : Nat) (S : Sto) : oIn neg (.int (z : Nat)) (.dct kvs) S = .ok (.bl (neg ^^ (valD kvs (.inl (z : Int))).isSome)) S := by
  simp only [oIn, getD_dct, keyD_int]
theorem law_ring_ok (cs : Cs) {xs ys : List (Option Int)} {S : Sto} (ha : apartP xs) (hl : ys.length = xs.length) (hx : xs.length ≤ 100) : f_law_ring cs [scD xs, scD ys] S = .ok (ringD ((mvs xs ys).findSome? (rOf xs ys))) S := by
  obtain ⟨h1, h2⟩ := forL_first (g := gN 3) (chk := fun _ => True) (S := S) (b := sGc lrT)
    (fun i : Nat => D.int (i : Nat)) (fun p => (rOf xs ys p).map fun row => D.lst (natsD row)) (fun en => ∃ x3 x4 x5, en = [some (scD xs), some (scD ys), some (.dct (wKV xs ys)), x3, x4, x5]) (mvs xs ys) [some (scD xs), some (scD ys), some (.dct (wKV xs ys)), none, none, none] ⟨_, _, _, rfl⟩ (by
      rintro p en hp ⟨x3, x4, x5, rfl⟩
      refine ⟨_, rfl, ?_⟩
      -- the turns
      obtain ⟨en', S', eL, x5', rfl, rfl⟩ := forL_inv (g := gN 5) (chk := fun _ => True) (b := lrB)
        (fun k en S' => ∃ x5, en = [some (scD xs), some (scD ys), some (.dct (wKV xs ys)), some (.int (p : Nat)), some (.ref S.length), x5] ∧ S' = S ++ [.lst (natsD (rowOf (itN xs ys k ([], p))))])
        (rngD 0 xs.length) 0 [some (scD xs), some (scD ys), some (.dct (wKV xs ys)), some (.int (p : Nat)), some (.ref S.length), x5] (S ++ [.lst [.int (p : Nat)]]) ⟨_, rfl, rfl⟩ (by
          rintro j d en S' hj ⟨x5, rfl, rfl⟩
          refine ⟨_, rfl, ?_⟩
          rw [Nat.zero_add]
          obtain ⟨s, hs⟩ : ∃ s, s = itN xs ys j ([], p) := ⟨_, rfl⟩
          have hRI : RI xs ys p s := by rw [hs]; exact (RI.start hp).it _
          have hnx : itN xs ys (j + 1) ([], p) = nxt xs ys s := by rw [hs]; rfl
          rw [hnx, ← hs]
          have hz : s.2 ∈ mvs xs ys := hRI.mem _ (by simp [rowOf])
          have h1 := oIx_end (row_idx (S := S) (rowOf s))
          have hln := hRI.len
          refine ⟨[some (scD xs), some (scD ys), some (.dct (wKV xs ys)), some (.int (p : Nat)), some (.ref S.length), some d], S ++ [.lst (natsD (rowOf (nxt xs ys s)))], ?_, trivial, _, rfl, rfl⟩
          cases hw : wt xs ys s.2 with
          | none =>
            have e : nxt xs ys s = s := by unfold nxt; rw [hw]
            simp only [lrB, ap_sIf, ap_tAn, ap_tV, ap_eOp, ap_eV, ap_eNeg, ap_eK, List.set_cons_succ, List.set_cons_zero, List.getElem?_cons_zero, List.getElem?_cons_succ, R.bind_ok, h1, oIn_dct, valD_wK ha hz, hw, Option.map_none, Option.isSome_none, Bool.false_xor, ap_toB, R.thenS_ok, ap_sNx, e]
          | some o =>
            by_cases ho : o ∈ rowOf s
            · have e : nxt xs ys s = s := by unfold nxt; rw [hw]; exact if_pos ho
              simp only [lrB, ap_sIf, ap_tAn, ap_tV, ap_eOp, ap_eV, ap_eNeg, ap_eK, List.set_cons_succ, List.set_cons_zero, List.getElem?_cons_zero, List.getElem?_cons_succ, R.bind_ok, h1, oIn_dct, valD_wK ha hz, hw, Option.map_some, Option.isSome_some, Bool.false_xor, ap_toB, R.thenS_ok, ap_sNx, e, oIx_dct, keyD_int, oIn_nats true o (row_idx (S := S) (rowOf s)), ho, decide_true, Bool.true_xor, Bool.not_true]
            · have e : nxt xs ys s = (rowOf s, o) := by unfold nxt; rw [hw]; exact if_neg ho
              have hrow : rowOf (nxt xs ys s) = rowOf s ++ [o] := by rw [e]; rfl
              rw [hrow]
              simp only [lrB, ap_sIf, ap_tAn, ap_tV, ap_eOp, ap_eV, ap_eNeg, ap_eK, List.set_cons_succ, List.set_cons_zero, List.getElem?_cons_zero, List.getElem?_cons_succ, R.bind_ok, h1, oIn_dct, valD_wK ha hz, hw, Option.map_some, Option.isSome_some, Bool.false_xor, ap_toB, R.thenS_ok, ap_sNx, oIx_dct, keyD_int, oIn_nats true o (row_idx (S := S) (rowOf s)), ho, decide_false, Bool.true_xor, Bool.not_false,
                ap_sEx, ap_eMt, row_ty, if_true, ap_aC, ap_aN, row_app (show (rowOf s).length ≤ 1000 by omega)])
      rw [Nat.zero_add, show (rngD 0 xs.length).length = xs.length by simp [rngD]] at eL
      obtain ⟨s, hs⟩ : ∃ s, s = itN xs ys xs.length ([], p) := ⟨_, rfl⟩
      rw [← hs] at eL
      have hRI : RI xs ys p s := by rw [hs]; exact (RI.start hp).it _
      have hz : s.2 ∈ mvs xs ys := hRI.mem _ (by simp [rowOf])
      have h1 := oIx_end (row_idx (S := S) (rowOf s))
      have hr : rOf xs ys p = if wt xs ys s.2 = some p then some (rowOf s) else none := by unfold rOf; rw [← hs]
      have hfl : ∀ S1, fLen [scD xs] S1 = .ok (.int (xs.length : Nat)) S1 := fun S1 => by rw [scD, fLen_tup, List.length_map]
      have h8 : (-1000000 : Int) ≤ (xs.length : Nat) ∧ ((xs.length : Nat) : Int) ≤ 1000000 := by omega
      have hfront : lrT [some (scD xs), some (scD ys), some (.dct (wKV xs ys)), some (.int (p : Nat)), x4, x5] S =
          (if wt xs ys s.2 = some p then .rt (.lst (natsD (rowOf s))) (S ++ [.dead]) else .nx [some (scD xs), some (scD ys), some (.dct (wKV xs ys)), some (.int (p : Nat)), some (.ref S.length), x5'] (S ++ [.lst (natsD (rowOf s))])) := by
        simp only [lrT, ap_sSeq, ap_sAs, ap_eNew, ap_aC, ap_aN, ap_eV, List.getElem?_cons_zero, List.getElem?_cons_succ, R.bind_ok, List.length_cons, List.length_nil, Nat.reduceAdd, Nat.reduceLeDiff, if_true, R.thenS_ok, ap_gN, List.set_cons_succ, List.set_cons_zero, RS.andThen_nx, ap_sFor, ap_iR1, ap_eB, hfl, h8, and_self, Int.toNat_natCast, eL, ap_sIf, ap_tAn, ap_tV, ap_eOp, ap_eNeg, ap_eK, h1, oIn_dct, valD_wK ha hz]
        cases hw : wt xs ys s.2 with
        | none => simp
        | some o =>
          have ho : ((o : Nat) : Int) = (p : Nat) ↔ o = p := by omega
          by_cases hp2 : o = p
          · simp [h1, oIx_dct, valD_wK ha hz, hw, oEqN_int, hp2, row_idx, row_set]
          · simp [h1, oIx_dct, valD_wK ha hz, hw, oEqN_int, ho, hp2]
      refine ⟨fun hn => ?_, fun d hd => ?_⟩
      · have hp2 : ¬ (wt xs ys s.2 = some p) := by
          intro z
          rw [hr, if_pos z] at hn
          cases hn
        rw [if_neg hp2] at hfront
        have hgc := sGc_nx hfront ((Good.refl S).app2 _)
        rw [List.take_left] at hgc
        have hk : ([some (scD xs), some (scD ys), some (.dct (wKV xs ys)), some (.int (p : Nat)), some (.ref S.length), x5'] : En).map (kp S.length) = [some (scD xs), some (scD ys), some (.dct (wKV xs ys)), some (.int (p : Nat)), kp S.length (some (.ref S.length)), kp S.length x5'] := by
          simp only [List.map_cons, List.map_nil, kp_some (noRef_sc S.length xs), kp_some (noRef_sc S.length ys), kp_some (show noRef S.length (.dct (wKV xs ys)) = true from noRefK_w _ _ _ _), kp_some (show noRef S.length (.int (p : Nat)) = true by simp [noRef])]
        rw [hk] at hgc
        exact ⟨_, hgc, trivial, _, _, _, rfl⟩
      · by_cases hp2 : wt xs ys s.2 = some p
        · rw [if_pos hp2] at hfront
          rw [hr, if_pos hp2] at hd
          have : D.lst (natsD (rowOf s)) = d := by simpa using hd
          subst this
          exact ⟨[.dead], sGc_rt hfront⟩
        · rw [hr, if_neg hp2] at hd
          cases hd)
  have hit : natsD (mvs xs ys) = (mvs xs ys).map fun i : Nat => D.int (i : Nat) := rfl
  have hfm : (mvs xs ys).findSome? (fun p => (rOf xs ys p).map fun row => D.lst (natsD row)) = ((mvs xs ys).findSome? (rOf xs ys)).map fun row => D.lst (natsD row) := by
    induction mvs xs ys with
    | nil => rfl
    | cons a r ih => rw [List.findSome?_cons, List.findSome?_cons]; cases rOf xs ys a <;> simp [ih]
  rw [hfm] at h1 h2
  have hfr : ∀ X, forL (gN 3) (sGc lrT) (fun _ => True) (natsD (mvs xs ys)) [some (scD xs), some (scD ys), some (.dct (wKV xs ys)), none, none, none] S = X → m_law_ring cs (env0 6 [scD xs, scD ys]) S = X.andThen (sRt (eK .non)) := fun X hX => by
    have hm : m_law_ring cs = (sSeq (sAs (gN 2) (eCall 2 (f_law_waits cs) [] (aC (eV 0) (aC (eV 1) aN)))) (sSeq (sFor (iSeq (eCall 2 (f_law_moves cs) [] (aC (eV 0) (aC (eV 1) aN)))) (gN 3) (sGc lrT)) (sRt (eK .non)))) := rfl
    rw [hm]
    simp only [env0, List.map_cons, List.map_nil, List.length_cons, List.length_nil, List.cons_append, List.nil_append, List.replicate, Nat.reduceAdd, Nat.reduceSub, ap_sSeq, ap_sAs, ap_eCall, ap_aC, ap_aN, ap_eV, List.getElem?_cons_zero, List.getElem?_cons_succ, R.bind_ok, List.append_nil, arg2, law_waits_ok cs hl hx, law_moves_ok cs hl (show xs.length ≤ 1000 by omega), R.thenS_ok, ap_gN, List.set_cons_succ, List.set_cons_zero, RS.andThen_nx, ap_sFor, ap_iSeq, hX]
  rw [hit] at hfr
  show gcR S (runB (m_law_ring cs) 6 [scD xs, scD ys] S) = _
  cases hf : (mvs xs ys).findSome? (rOf xs ys) with
  | none =>
    rw [hf] at h1
    obtain ⟨en', e, _⟩ := h1 rfl
    rw [runB_rt (show m_law_ring cs (env0 6 [scD xs, scD ys]) S = .rt .non S by rw [hfr _ e]; rfl), gcR_same (by simp [noRef])]
    rfl
  | some row =>
    rw [hf] at h2
    obtain ⟨T, e⟩ := h2 _ rfl
    rw [runB_rt (show m_law_ring cs (env0 6 [scD xs, scD ys]) S = .rt (.lst (natsD row)) (S ++ T) by rw [hfr _ e]; rfl), gcR_ok ((Good.refl S).app2 _) (noRef_nats _ _), List.take_left]
    rfl
theorem ring_ok (cs : Cs) {S : Sto} {t : Tb} {hi hj : Nat} {xs ys : List (Option Int)} (ht : TOk t) (h : HAt cs S hi hj t.ho) (hx : ScOk t xs) (hy : ScOk t ys) : f_ring cs [.ref hi, scD xs, scD ys] S = .ok (ringD ((mvs xs ys).findSome? (rOf xs ys))) S := by
  have hl : ys.length = xs.length := by rw [hy.len, hx.len]
  have hx9 : xs.length ≤ 100 := by have := ht.len.2; rw [hx.len]; omega
  refine runB_rt ?_
  simp [m_ring, env0, need_scenes_ok cs ht h hx hy, ring_of_ok cs hx.apart hl hx9]
/-! ### a law by its rounds -/
theorem law_by_rounds (cs : Cs) {body : Stm} {most : Int} {n : Nat} (hm : 0 ≤ most ∧ most ≤ 100) (ns : List Int) (hn : ns.length ≤ 63)
    (hb : ∀ (S : Sto) (i : Nat) (c : Cell) (es : List (Option D)), es.length = n → S[i]? = some c → IsDice c → ∃ (c' : Cell) (T : Sto) (es' : List (Option D)), es'.length = n ∧ IsDice c' ∧ body (some (.scr ns) :: some (.ref i) :: es) S = .nx (some (.scr ns) :: some (.ref i) :: es') (S.set i c' ++ T)) :
    ∃ S1, runB (sSeq (sFor (iSeq (eCall 2 (f_law_rounds cs) [] (aC (eV 0) (aC (eK (.int most)) aN)))) (gN 1) (sGc body)) (sRt (eK (.bl true)))) (n + 2) [.scr ns] [] = .ok (.bl true) S1 := by
  obtain ⟨m, cells, hl, hc, e⟩ := rounds_ok cs ns most [] hm (by omega)
  obtain ⟨en', S', eL, hI⟩ := forL_inv (g := gN 1) (chk := fun _ => True) (b := sGc body)
    (fun k en S' => ∃ (y1 : Option D) (es : List (Option D)), en = some (.scr ns) :: y1 :: es ∧ es.length = n ∧ S'.length = m ∧ ∀ c ∈ S', IsDice c)
    ((List.range m).map fun k => D.ref (([] : Sto).length + k)) 0 (some (.scr ns) :: none :: List.replicate n none) ([] ++ cells) ⟨_, _, rfl, by simp, hl, hc⟩ (by
      rintro j d en S' hj ⟨y1, es, rfl, hes, hl', hc'⟩
      have hjn : j < m := by have := (List.getElem?_eq_some_iff.mp hj).1; simpa using this
      have hd : d = .ref j := by
        rw [List.getElem?_map, List.getElem?_range hjn] at hj
        simp at hj
        exact hj.symm
      subst hd
      refine ⟨_, rfl, ?_⟩
      have hjS : S'[j]? = some S'[j] := List.getElem?_eq_getElem (by omega)
      obtain ⟨c', T, es', h1, kc, e⟩ := hb S' j _ es hes hjS (hc' _ (List.getElem_mem _))
      have hg : Good S' (S'.set j c' ++ T) := (Good.set (Good.refl S') fun _ => noRefC_dice kc).app2 T
      have htk : (S'.set j c' ++ T).take S'.length = S'.set j c' := by
        have : S'.length = (S'.set j c').length := by rw [List.length_set]
        rw [this, List.take_left]
      refine ⟨_, _, sGc_nx e hg, trivial, ?_⟩
      rw [htk, List.map_cons, List.map_cons, kp_some (show noRef S'.length (.scr ns) = true by simp [noRef])]
      refine ⟨_, _, rfl, by rw [List.length_map]; exact h1, by rw [List.length_set]; exact hl', fun c hcm => ?_⟩
      rcases List.mem_or_eq_of_mem_set hcm with hcm | rfl
      · exact hc' c hcm
      · exact kc)
  refine ⟨S', runB_rt ?_⟩
  have e' : f_law_rounds cs [.scr ns, .int most] [] = _ := e
  have henv : env0 (n + 2) [.scr ns] = some (.scr ns) :: none :: List.replicate n none := by
    simp [env0, List.replicate_succ]
  rw [henv]
  simp [e', eL]
  simp at eL
  simp [eL]
end SF

/-! Dicts walked: the dict is locked while the statement runs. -/
namespace SF
open PySem L2
section
variable {ρ ρ' : Rho K} {S S' : Sto} {H H' : Hp}
/-- a dict, locked or not -/
def LkO (kws : List (Key × V)) (o : HO) : Prop := o = .dK kws ∨ ∃ od, o = .frz od (.dK kws)
theorem RelD.swap {a : Addr} {o o' : HO} {kws : List (Key × V)} (ha : H a = some o) (ho : LkO kws o) (ho' : LkO kws o') {d : D} {v : V} (h : RelD ρ S H d v) : RelD ρ S (upd H a o') d v := by
  have ne : ∀ (b : Addr) (u : HO), H b = some u → (∀ kws, ¬ LkO kws u) → b ≠ a := fun b u hb hu e => by
    subst e
    rw [ha] at hb
    cases hb
    exact hu kws ho
  induction h with
  | non => exact .non
  | bl b => exact .bl b
  | int i => exact .int i
  | str x => exact .str x
  | scr h =>
    rcases h with ⟨h | ⟨q, h⟩, n⟩ | h
    · exact .scr (.inl ⟨.inl (by rw [upd_ne (ne _ _ h (fun k z => by rcases z with z | ⟨_, z⟩ <;> cases z))]; exact h), n⟩)
    · exact .scr (.inl ⟨.inr ⟨q, by rw [upd_ne (ne _ _ h (fun k z => by rcases z with z | ⟨_, z⟩ <;> cases z))]; exact h⟩, n⟩)
    · exact .scr (.inr h)
  | tup h n l _ ih => exact .tup (by rw [upd_ne (ne _ _ h (fun k z => by rcases z with z | ⟨_, z⟩ <;> cases z))]; exact h) n l ih
  | xtup h x n l _ ih => exact .xtup (by rw [upd_ne (ne _ _ h (fun k z => by rcases z with z | ⟨_, z⟩ <;> cases z))]; exact h) x n l ih
  | lst h n l _ ih => exact .lst (by rw [upd_ne (ne _ _ h (fun k z => by rcases z with z | ⟨_, z⟩ <;> cases z))]; exact h) n l ih
  | @dct kvs kw b h n l _ ih =>
    by_cases e : b = a
    · subst e
      have hk : kw = kws := by
        rcases h with h | ⟨q, h⟩
        · rw [ha] at h
          cases h
          rcases ho with z | ⟨_, z⟩ <;> cases z
          rfl
        · rw [ha] at h
          cases h
          rcases ho with z | ⟨_, z⟩ <;> cases z
          rfl
      subst hk
      refine .dct ?_ n l ih
      rcases ho' with rfl | ⟨q, rfl⟩
      · exact .inl upd_same
      · exact .inr ⟨q, upd_same⟩
    · refine .dct ?_ n l ih
      rcases h with h | ⟨q, h⟩
      · exact .inl (by rw [upd_ne e]; exact h)
      · exact .inr ⟨q, by rw [upd_ne e]; exact h⟩
  | ref h => exact .ref h
  | adr a => exact .adr a
theorem Rel.swap {a : Addr} {o o' : HO} {kws : List (Key × V)} (ha : H a = some o) (na : ¬ live ρ S a) (ho : LkO kws o) (ho' : LkO kws o') (r : Rel ρ H S) : Rel ρ (upd H a o') S := by
  refine ⟨r.len, r.inj, fun i b c e1 e2 => ?_, fun i b e1 => ?_, r.apart, fun b hb => ?_⟩
  · have rc := r.cell i b c e1 e2
    cases c with
    | dead =>
      obtain ⟨u, h1, h2⟩ := rc
      by_cases hb : b = a
      · refine ⟨o', by rw [hb]; exact upd_same, fun ps z => ?_⟩
        rcases ho' with y | ⟨_, y⟩ <;> rw [y] at z <;> cases z
      · exact ⟨u, by rw [upd_ne hb]; exact h1, h2⟩
    | lst ds =>
      obtain ⟨vs, h1, h2⟩ := rc
      have hne : b ≠ a := fun e => na (.inr ⟨i, _, e ▸ e1, e2, by simp⟩)
      exact ⟨vs, by rw [upd_ne hne]; exact h1, h2.1, fun i d v x y => (h2.2 i d v x y).swap ha ho ho'⟩
    | dct kvs =>
      obtain ⟨vs, h1, h2⟩ := rc
      have hne : b ≠ a := fun e => na (.inr ⟨i, _, e ▸ e1, e2, by simp⟩)
      exact ⟨vs, by rw [upd_ne hne]; exact h1, h2.1, fun i d v x y => (h2.2 i d v x y).swap ha ho ho'⟩
    | ins C fs =>
      obtain ⟨dx, vs, h1, h2⟩ := rc
      have hne : b ≠ a := fun e => na (.inr ⟨i, _, e ▸ e1, e2, by simp⟩)
      exact ⟨dx, vs, by rw [upd_ne hne]; exact h1, h2.1, fun i d v x y => (h2.2 i d v x y).swap ha ho ho'⟩
    | tab P q =>
      obtain ⟨h0, ps, h1, h2, h3⟩ := rc
      have hne : b ≠ a := fun e => na (.inr ⟨i, _, e ▸ e1, e2, by simp⟩)
      refine ⟨h0, ps, by rw [upd_ne hne]; exact h1, h2, fun pos cv hc => ?_⟩
      obtain ⟨c, g1, g2, g3⟩ := h3 pos cv hc
      refine ⟨c, g1, ?_, g3⟩
      rw [upd_ne]
      · exact g2
      · rintro rfl
        rw [ha] at g2
        cases g2
        rcases ho with z | ⟨_, z⟩ <;> cases z
  · obtain ⟨u, hu⟩ := r.there i b e1
    by_cases e : b = a
    · exact ⟨o', by rw [e]; exact upd_same⟩
    · exact ⟨u, by rw [upd_ne e]; exact hu⟩
  · obtain ⟨u, hu, t⟩ := r.prt b hb
    by_cases e : b = a
    · exact absurd (.inl (e ▸ hb)) na
    · exact ⟨u, by rw [upd_ne e]; exact hu, t⟩
theorem RelE.swap {a : Addr} {o o' : HO} {kws : List (Key × V)} (ha : H a = some o) (ho : LkO kws o) (ho' : LkO kws o') {en : En} {σ : L2.St} (r : RelE ρ S H en σ) : RelE ρ S (upd H a o') en σ :=
  ⟨r.1, fun i d h => let ⟨v, x, y⟩ := r.2 i d h; ⟨v, x, y.swap ha ho ho'⟩⟩
/-- what ran under the lock ran without it -/
theorem Ext.unlock {a : Addr} {od : Obj} {kws : List (Key × V)} (r : Rel ρ H S) (ha : H a = some (.dK kws)) (na : ¬ live ρ S a) (e : Ext ρ S (upd H a (.frz od (.dK kws))) ρ' S' H') :
    H' a = some (.frz od (.dK kws)) ∧ ¬ live ρ' S' a ∧ Ext ρ S H ρ' S' (upd H' a (.dK kws)) := by
  obtain ⟨h1, n1⟩ := e.frame a _ upd_same na
  refine ⟨h1, n1, ⟨e.pre, fun b u hb nb tb => ?_⟩, e.prot, fun b hb => ?_⟩
  · by_cases eb : b = a
    · subst eb
      rw [ha] at hb
      cases hb
      exact ⟨upd_same, n1⟩
    · obtain ⟨h2, n2⟩ := e.frame0 b u (by rw [upd_ne eb]; exact hb) nb tb
      exact ⟨by rw [upd_ne eb]; exact h2, n2⟩
  · have eb : b ≠ a := fun z => na (.inl (z ▸ hb))
    rw [upd_ne eb, e.pk b hb, upd_ne eb]
end
def RS.nox (r : RS) : RS := match r with
  | .exc _ _ => .stuck
  | r => r
@[simp] theorem RS.nox_nx (en : En) (S : Sto) : (RS.nx en S).nox = .nx en S := rfl
@[simp] theorem RS.nox_rt (d : D) (S : Sto) : (RS.rt d S).nox = .rt d S := rfl
@[simp] theorem RS.nox_stuck : (RS.stuck).nox = .stuck := rfl
theorem PostS.of_nox {r : RS} {ρ : Rho K} {S : Sto} {H : Hp} {Dn : Ends} (p : PostS r.nox ρ S H Dn E) : PostS r ρ S H Dn E := by
  cases r with
  | exc x S' => exact p.elim
  | _ => exact p
theorem PostG.of_nox {α β : Type} {RR : Rho K → Sto → Hp → α → β → Prop} {r : R α} {ρ : Rho K} {S : Sto} {H : Hp} {Q : β → Hp → Prop} (p : PostG RR r.nox ρ S H Q E) : PostG RR r ρ S H Q E := by
  cases r with
  | exc x S' => exact p.elim
  | _ => exact p
theorem PostS.lock {r : RS} {ρ : Rho K} {S : Sto} {H : Hp} {Dn : Ends} {a : Addr} {od : Obj} {kws : List (Key × V)} (rr : Rel ρ H S) (ha : H a = some (.dK kws)) (na : ¬ live ρ S a) (p : PostS r.nox ρ S H Dn E) :
    PostS r ρ S (upd H a (.frz od (.dK kws))) ⟨fun σ' H' => H' a = some (.frz od (.dK kws)) ∧ Dn.nx σ' (upd H' a (.dK kws)), fun v H' => H' a = some (.frz od (.dK kws)) ∧ Dn.rt v (upd H' a (.dK kws)), fun σ' H' => H' a = some (.frz od (.dK kws)) ∧ Dn.bk σ' (upd H' a (.dK kws)), fun σ' H' => H' a = some (.frz od (.dK kws)) ∧ Dn.ct σ' (upd H' a (.dK kws))⟩ E := by
  cases r with
  | nx en S' =>
    intro σ' H' ρ' e r' q
    obtain ⟨h1, n1, e1⟩ := Ext.unlock rr ha na e
    exact ⟨h1, p σ' _ ρ' e1 (r'.swap h1 n1 (.inr ⟨od, rfl⟩) (.inl rfl)) (q.swap h1 (.inr ⟨od, rfl⟩) (.inl rfl))⟩
  | rt d S' =>
    intro v H' ρ' e r' q
    obtain ⟨h1, n1, e1⟩ := Ext.unlock rr ha na e
    exact ⟨h1, p v _ ρ' e1 (r'.swap h1 n1 (.inr ⟨od, rfl⟩) (.inl rfl)) (q.swap h1 (.inr ⟨od, rfl⟩) (.inl rfl))⟩
  | exc x S' => exact p.elim
  | stuck => exact p
theorem Post.lock {r : R D} {ρ : Rho K} {S : Sto} {H : Hp} {Q : VK} {a : Addr} {od : Obj} {kws : List (Key × V)} (rr : Rel ρ H S) (ha : H a = some (.dK kws)) (na : ¬ live ρ S a) (p : Post r.nox ρ S H Q E) :
    Post r ρ S (upd H a (.frz od (.dK kws))) (fun v H' => H' a = some (.frz od (.dK kws)) ∧ Q v (upd H' a (.dK kws))) E := by
  cases r with
  | ok d S' =>
    intro v H' ρ' e r' q
    obtain ⟨h1, n1, e1⟩ := Ext.unlock rr ha na e
    exact ⟨h1, p v _ ρ' e1 (r'.swap h1 n1 (.inr ⟨od, rfl⟩) (.inl rfl)) (q.swap h1 (.inr ⟨od, rfl⟩) (.inl rfl))⟩
  | exc x S' => exact p.elim
  | stuck => exact p
/-! ### the keys walked -/
def kD : Key → D
  | .inl i => .int i
  | .inr x => .str x
def iDk (i : Nat) : Itm := fun en S => match en[i]? with
  | some (some (.dct kvs)) => .ok (kvs.map fun kv => kD kv.1, fun _ => True) S
  | _ => .stuck
theorem RelD.key (k : Key) {ρ : Rho K} {S : Sto} {H : Hp} : RelD ρ S H (kD k) (kV k) := by
  cases k with
  | inl i => exact .int i
  | inr x => exact .str x
section
variable {X : Cx} {E : XK}
theorem dict_it {i : Nat} {σ : L2.St} {H : Hp} {a : Addr} {o : Obj} {kws : List (Key × V)} {R : It → Hp → Prop} (hσ : σ[i]? = some (some (.ref a))) (ha : H a = some (.frz o (.dK kws))) (h : tMI K E (iDk i) σ H R) : iKeys (tVar i) σ H R := by
  obtain ⟨ρ, S, en, rr, re, p⟩ := h
  unfold iDk at p
  split at p
  · rename_i kvs e
    obtain ⟨v, e', q⟩ := re.2 i _ e
    rw [hσ] at e'
    cases e'
    cases q with
    | @dct _ kw _ hR n l qv =>
      have hk : kw = kws := by
        rcases hR with hR | ⟨q, hR⟩
        · rw [ha] at hR; cases hR
        · rw [ha] at hR; cases hR; rfl
      subst hk
      refine ⟨_, hσ, a, o, rfl, .inl ⟨kw, ha, ?_⟩⟩
      refine p _ _ ρ (Ext.refl _ _ _) rr ⟨trivial, fun H => H a = some (.frz o (.dK kw)), fun i H x H' => H' = H ∧ ∃ k v, kw[i]? = some (k, v) ∧ x = kV k, ?_, fun ρ' S' H' ex r' _ => (ex.frame a _ ha n).1, fun j d ρ' S' H' x H'' hd ex r' _ y => ?_⟩
      · have hl : (kvs.map fun kv => kD kv.1).length = kw.length := by
          have := congrArg List.length l
          simpa using this
        show Walk _ (kvs.map fun kv => kD kv.1).length _ _
        rw [hl]
        exact walk_keys
      · obtain ⟨rfl, k, v, hk, rfl⟩ := y
        refine ⟨Ext.refl _ _ _, r', ?_⟩
        have hd : (kvs.map fun kv => kD kv.1)[j]? = some d := hd
        have h1 : (kvs.map (·.1))[j]? = some k := by rw [l, List.getElem?_map, hk]; rfl
        rw [List.getElem?_map] at h1 hd
        cases hkv : kvs[j]? with
        | none => rw [hkv] at h1; cases h1
        | some kv =>
          rw [hkv] at h1 hd
          simp at h1 hd
          rw [← hd, h1]
          exact RelD.key k
  · exact p.elim
noncomputable def sForD (i : Nat) (g : Tgt) (b : Stm) : Stm := fun en S => (sFor (iDk i) g b en S).nox
theorem iDk_at {i : Nat} {g : Tgt} {b : Stm} {ρ : Rho K} {S : Sto} {H : Hp} {en : En} {σ : L2.St} {Dn : Ends} (re : RelE ρ S H en σ) (p : PostS (sForD i g b en S) ρ S H Dn E) : ∃ a kws, σ[i]? = some (some (.ref a)) ∧ Rd H a (.dK kws) ∧ ¬ live ρ S a := by
  unfold sForD sFor iDk at p
  cases e : en[i]? with
  | none => rw [e] at p; exact p.elim
  | some od =>
    cases od with
    | none => rw [e] at p; exact p.elim
    | some d =>
      obtain ⟨v, e', q⟩ := re.2 i d e
      cases q with
      | @dct _ kw a hR n l qv => exact ⟨a, kw, e', hR, n⟩
      | _ => rw [e] at p; exact p.elim
theorem pms_forD {k i : Nat} {x : Str} {tg : Expr} {body : List Stmt} {t : TG} {g : Tgt} {ws : List Nat} {b : Stm} {p pos : Pos} (c : Ctx X E k) (hv : PE X (.Name x p) (tVar i)) (ht : PG X tg t) (hg : GM X.K t g ws) (hb : PMSs X E body b)
    (hs : ∀ z, foldedSetIterable (.Name x p) X.env z = pure z := by intro _; rfl) : PMS X E (.For tg (.Name x p) body [] pos) (sForD i g b) := by
  refine ⟨fun pins s σ H Dn I h => ?_⟩
  obtain ⟨ρ, S, en, rr, re, pp⟩ := h
  obtain ⟨a, kws, hσ, hR, na⟩ := iDk_at re pp
  rcases hR with ha | ⟨o, ha⟩
  · refine (ps_lock (ps_for c.own c.calm (pi_keys hv) ht hb hs)).run pins s σ H Dn I ⟨a, .dK kws, ha, by first | trivial | exact True.intro | simp [Mut], fun od => ?_⟩
    have h2 := tFor_of hg ⟨ρ, S, en, rr.swap ha na (.inl rfl) (.inr ⟨od, rfl⟩), re.swap ha (.inl rfl) (.inr ⟨od, rfl⟩), PostS.lock (od := od) rr ha na pp⟩
    exact dict_it hσ upd_same h2
  · refine (ps_for c.own c.calm (pi_keys hv) ht hb hs).run pins s σ H Dn I ?_
    have h2 := tFor_of hg ⟨ρ, S, en, rr, re, PostS.of_nox pp⟩
    exact dict_it hσ ha h2
/-! ### comprehensions over a dict's keys -/
noncomputable def eLcD (i : Nat) (g : Tgt) (c : Tst) (e : Exp) (vs : List Nat) : Exp := fun en S => (eLc (iDk i) g c e vs en S).nox
theorem eLcD_at {i : Nat} {g : Tgt} {c : Tst} {e : Exp} {vs : List Nat} {ρ : Rho K} {S : Sto} {H : Hp} {en : En} {σ : L2.St} {Q : VK} (re : RelE ρ S H en σ) (p : Post (eLcD i g c e vs en S) ρ S H Q E) : ∃ a kws, σ[i]? = some (some (.ref a)) ∧ Rd H a (.dK kws) ∧ ¬ live ρ S a := by
  unfold eLcD eLc iDk at p
  cases e : en[i]? with
  | none => rw [e] at p; exact p.elim
  | some od =>
    cases od with
    | none => rw [e] at p; exact p.elim
    | some d =>
      obtain ⟨v, e', q⟩ := re.2 i d e
      cases q with
      | @dct _ kw a hR n l qv => exact ⟨a, kw, e', hR, n⟩
      | _ => rw [e] at p; exact p.elim
theorem pm_lcD {k i : Nat} {x : Str} {p : Pos} {elt tg : Expr} {ifs : List Expr} {scope : Scope} {own : List (Str × Nat)} {pos : Pos} {t : TG} {g : Tgt} {ws : List Nat} {mc : Tst} {me : Exp} (c : Ctx X E k) (hv : PE X (.Name x p) (tVar i)) (ok : BlkOk X.N X.env.scope scope own)
    (hG : ∀ (s : Shared) (H : Hp) (C : Addr) (cl : List (Str × Addr)) (fp : List Addr), PG (X.blk s H scope (compEnvC scope cl C X.env) fp) tg t) (hg : GM X.K t g ws) (hw : ∀ w ∈ ws, w ∈ own.map (·.2))
    (ht : ∀ (s : Shared) (H : Hp) (C : Addr) (cl : List (Str × Addr)) (fp : List Addr), PMTs (X.blk s H scope (compEnvC scope cl C X.env) fp) E0 ifs mc)
    (he : ∀ (s : Shared) (H : Hp) (C : Addr) (cl : List (Str × Addr)) (fp : List Addr), PM (X.blk s H scope (compEnvC scope cl C X.env) fp) E0 elt me) (hs : ∀ z, foldedSetIterable (.Name x p) X.env z = pure z := by intro _; rfl) :
    PM X E (.ListComp elt [⟨tg, .Name x p, ifs, 0⟩] scope pos) (eLcD i g mc me (own.map (·.2))) := by
  refine ⟨fun pins s σ H Q I h => ?_⟩
  obtain ⟨ρ, S, en, rr, re, pp⟩ := h
  obtain ⟨a, kws, hσ, hR, na⟩ := eLcD_at re pp
  rcases hR with ha | ⟨o, ha⟩
  · refine (pe_lock (pe_lc (tt := tMT X.K E0 mc) (te := tM X.K E0 me) c.calm c.nd (pi_keys hv) ok hG ht he hs)).run pins s σ H Q I ⟨a, .dK kws, ha, by first | trivial | exact True.intro | simp [Mut], fun od => ?_⟩
    have h2 := tLcV hg hw ⟨ρ, S, en, rr.swap ha na (.inl rfl) (.inr ⟨od, rfl⟩), re.swap ha (.inl rfl) (.inr ⟨od, rfl⟩), Post.lock (od := od) rr ha na pp⟩
    exact dict_it hσ upd_same h2
  · refine (pe_lc (tt := tMT X.K E0 mc) (te := tM X.K E0 me) c.calm c.nd (pi_keys hv) ok hG ht he hs).run pins s σ H Q I ?_
    have h2 := tLcV hg hw ⟨ρ, S, en, rr, re, PostG.of_nox pp⟩
    exact dict_it hσ ha h2
end
end SF

/-! dict(d), list(d), sorted(..). -/
namespace SF
open PySem L2
/-! ### one sorted list -/
section
variable {α : Type} (le : α → α → Bool)
def insS (a : α) : List α → List α
  | [] => [a]
  | b :: r => if le a b = true then a :: b :: r else b :: insS a r
def isrt : List α → List α
  | [] => []
  | a :: r => insS le a (isrt r)
end
structure Tot {α : Type} (le : α → α → Bool) : Prop where
  total : ∀ a b, le a b = true ∨ le b a = true
  anti : ∀ a b, le a b = true → le b a = true → a = b
  trans : ∀ a b c, le a b = true → le b c = true → le a c = true
section
variable {α : Type} {le : α → α → Bool}
theorem insS_perm (a : α) : ∀ l : List α, (insS le a l).Perm (a :: l)
  | [] => List.Perm.refl _
  | b :: r => by
    unfold insS
    split
    · exact List.Perm.refl _
    · exact ((insS_perm a r).cons b).trans (List.Perm.swap a b r)
theorem isrt_perm : ∀ l : List α, (isrt le l).Perm l
  | [] => List.Perm.refl _
  | a :: r => (insS_perm a _).trans ((isrt_perm r).cons a)
theorem insS_sorted (T : Tot le) (a : α) : ∀ l : List α, l.Pairwise (fun x y => le x y = true) → (insS le a l).Pairwise (fun x y => le x y = true)
  | [], _ => List.pairwise_singleton _ _
  | b :: r, h => by
    obtain ⟨h1, h2⟩ := List.pairwise_cons.mp h
    unfold insS
    split
    · rename_i hab
      refine List.pairwise_cons.mpr ⟨fun y hy => ?_, h⟩
      rcases List.mem_cons.mp hy with rfl | hy
      · exact hab
      · exact T.trans _ _ _ hab (h1 y hy)
    · rename_i hab
      refine List.pairwise_cons.mpr ⟨fun y hy => ?_, insS_sorted T a r h2⟩
      rcases List.mem_cons.mp ((insS_perm a r).mem_iff.mp hy) with rfl | hy
      · exact (T.total b y).resolve_right hab
      · exact h1 y hy
theorem isrt_sorted (T : Tot le) : ∀ l : List α, (isrt le l).Pairwise (fun x y => le x y = true)
  | [] => List.Pairwise.nil
  | a :: r => insS_sorted T a _ (isrt_sorted T r)
theorem sorted_uniq (T : Tot le) : ∀ {l m : List α}, l.Perm m → l.Pairwise (fun x y => le x y = true) → m.Pairwise (fun x y => le x y = true) → l = m
  | [], m, p, _, _ => (List.nil_perm.mp p).symm
  | a :: r, m, p, h1, h2 => by
    cases m with
    | nil => exact absurd (List.perm_nil.mp p) (List.cons_ne_nil _ _)
    | cons b s =>
      obtain ⟨a1, a2⟩ := List.pairwise_cons.mp h1
      obtain ⟨b1, b2⟩ := List.pairwise_cons.mp h2
      have e : a = b := by
        rcases List.mem_cons.mp (p.mem_iff.mp List.mem_cons_self) with e | hm
        · exact e
        · rcases List.mem_cons.mp (p.mem_iff.mpr List.mem_cons_self) with e | hm2
          · exact e.symm
          · exact T.anti _ _ (a1 b hm2) (b1 a hm)
      subst e
      rw [sorted_uniq T (List.Perm.cons_inv p) a2 b2]
theorem isrt_eq (T : Tot le) {l m : List α} (p : m.Perm l) (h : m.Pairwise (fun x y => le x y = true)) : m = isrt le l :=
  sorted_uniq T (p.trans (isrt_perm l).symm) h (isrt_sorted T l)
end
def leI (a b : Int) : Bool := decide (a ≤ b)
theorem tot_leI : Tot leI := ⟨fun a b => by simp [leI]; omega, fun a b h1 h2 => by simp [leI] at h1 h2; omega, fun a b c h1 h2 => by simp [leI] at h1 h2 ⊢; omega⟩
def leP (a b : Int × Int) : Bool := !SrtO.lexB b a
theorem leP_iff (a b : Int × Int) : leP a b = true ↔ a.1 < b.1 ∨ (a.1 = b.1 ∧ a.2 ≤ b.2) := by
  unfold leP SrtO.lexB
  by_cases e : b.1 = a.1
  · simp [e]
  · simp [e]; omega
theorem tot_leP : Tot leP := by
  refine ⟨fun a b => ?_, fun a b h1 h2 => ?_, fun a b c h1 h2 => ?_⟩
  · rw [leP_iff, leP_iff]; omega
  · rw [leP_iff] at h1 h2
    have e1 : a.1 = b.1 := by omega
    have e2 : a.2 = b.2 := by omega
    exact Prod.ext e1 e2
  · rw [leP_iff] at h1 h2 ⊢; omega
section
variable {K : PySem.W.Frag} {ρ : Rho K} {S : Sto} {H : Hp} {E : XK}
/-! ### dict(d), list(d) -/
theorem PostG.dctV {ds : List (Key × D)} {vs : List (Key × V)} {Q : VK} (p : Post (.ok (.dct ds) S) ρ S H Q E) (r : Rel ρ H S) (h : RelK ρ S H ds vs) : ∀ a, H a = none → Q (.ref a) (upd H a (.dK vs)) :=
  fun a ha => p _ _ ρ (Ext.laid r ha) (r.laid ha) (.dct (.inl upd_same) (r.fresh ha) h.1 (h.mono (Ext.laid r ha)).2)
theorem PostG.newD {ds : List (Key × D)} {vs : List (Key × V)} {Q : VK} (p : Post (.ok (.ref S.length) (S ++ [.dct ds])) ρ S H Q E) (r : Rel ρ H S) (h : RelK ρ S H ds vs) : ∀ a, H a = none → Q (.ref a) (upd H a (.dK vs)) :=
  fun a ha => p _ _ (ρ.add a) (Ext.new r ha upd_same (upd_keep ha)) (r.newDct h ha) (.ref (by rw [← r.len]; simp [Rho.add]))
def fDict : Fn1 := fun ds S => match ds with
  | [d] => match getD S d with
    | some kvs => .ok (.dct kvs) S
    | none => .stuck
  | _ => .stuck
def fDictN : Fn1 := fun ds S => match ds with
  | [d] => match getD S d with
    | some kvs => .ok (.ref S.length) (S ++ [.dct kvs])
    | none => .stuck
  | _ => .stuck
theorem c_dict : CallM K (fun xs H Q => ∃ (a : Addr) (kvs : List (Key × V)), xs = [.ref a] ∧ Rd H a (.dK kvs) ∧ ∀ p, H p = none → Q (.ref p) (upd H p (.dK kvs))) fDict := by
  intro ρ S H ds vs Q E r q p
  unfold fDict at p
  split at p
  · obtain ⟨v, rfl, qd⟩ := rel1 q
    split at p
    · rename_i kvs hg
      obtain ⟨a, ws, rfl, h2, h3⟩ := getD_at r qd hg
      exact ⟨a, ws, rfl, h2, PostG.dctV p r h3⟩
    · exact p.elim
  · exact p.elim
theorem c_dictN : CallM K (fun xs H Q => ∃ (a : Addr) (kvs : List (Key × V)), xs = [.ref a] ∧ Rd H a (.dK kvs) ∧ ∀ p, H p = none → Q (.ref p) (upd H p (.dK kvs))) fDictN := by
  intro ρ S H ds vs Q E r q p
  unfold fDictN at p
  split at p
  · obtain ⟨v, rfl, qd⟩ := rel1 q
    split at p
    · rename_i kvs hg
      obtain ⟨a, ws, rfl, h2, h3⟩ := getD_at r qd hg
      exact ⟨a, ws, rfl, h2, PostG.newD p r h3⟩
    · exact p.elim
  · exact p.elim
theorem rel_keys {kvs : List (Key × D)} {kws : List (Key × V)} (h : kvs.map (·.1) = kws.map (·.1)) : RelDs ρ S H (kvs.map fun kv => kD kv.1) (kws.map fun kv => kV kv.1) := by
  refine ⟨by have := congrArg List.length h; simpa using this, fun i d v e1 e2 => ?_⟩
  have e3 : (kvs.map (·.1))[i]? = (kws.map (·.1))[i]? := by rw [h]
  rw [List.getElem?_map] at e1 e2
  rw [List.getElem?_map, List.getElem?_map] at e3
  cases h1 : kvs[i]? with
  | none => rw [h1] at e1; cases e1
  | some kv =>
    cases h2 : kws[i]? with
    | none => rw [h2] at e2; cases e2
    | some kw =>
      rw [h1] at e1 e3
      rw [h2] at e2 e3
      simp at e1 e2 e3
      rw [← e1, ← e2, e3]
      exact RelD.key _
/-- list(d) of a dict -/
def fListK : Fn1 := fun ds S => match ds with
  | [d] => match getD S d with
    | some kvs => .ok (.lst (kvs.map fun kv => kD kv.1)) S
    | none => .stuck
  | _ => .stuck
theorem c_listK : CallM K (fun xs H Q => ∃ (a : Addr) (kvs : List (Key × V)), xs = [.ref a] ∧ Rd H a (.dK kvs) ∧ ∀ p, H p = none → Q (.ref p) (upd H p (.lst (kvs.map fun kv => kV kv.1)))) fListK := by
  intro ρ S H ds vs Q E r q p
  unfold fListK at p
  split at p
  · obtain ⟨v, rfl, qd⟩ := rel1 q
    split at p
    · rename_i kvs hg
      obtain ⟨a, ws, rfl, h2, h3⟩ := getD_at r qd hg
      exact ⟨a, ws, rfl, h2, PostG.lst p r (rel_keys h3.1)⟩
    · exact p.elim
  · exact p.elim
/-! ### sorted -/
theorem rel_intsD {ns : List Int} : RelDs ρ S H (ns.map D.int) (ns.map V.int) := by
  refine ⟨by simp, fun i d v e1 e2 => ?_⟩
  rw [List.getElem?_map] at e1 e2
  cases h : ns[i]? with
  | none => rw [h] at e1; cases e1
  | some n => rw [h] at e1 e2; simp at e1 e2; rw [← e1, ← e2]; exact .int n
def keysI : List (Key × D) → Option (List Int)
  | [] => some []
  | (.inl i, _) :: r => (keysI r).map (i :: ·)
  | _ => none
theorem keysI_eq : ∀ {kvs : List (Key × D)} {ks : List Int}, keysI kvs = some ks → kvs.map (·.1) = ks.map Sum.inl
  | [], ks, e => by simp only [keysI, Option.some.injEq] at e; subst e; rfl
  | (.inl i, d) :: r, ks, e => by
    simp only [keysI] at e
    cases h : keysI r with
    | none => rw [h] at e; cases e
    | some l =>
      rw [h] at e
      simp at e
      subst e
      simp [keysI_eq h]
  | (.inr x, d) :: r, ks, e => by simp [keysI] at e
/-- sorted(d), the keys ints -/
def fSortK : Fn1 := fun ds S => match ds with
  | [d] => match getD S d with
    | some kvs => match keysI kvs with
      | some ks => if ks.length < 64 then .ok (.lst ((isrt leI ks).map .int)) S else .stuck
      | none => .stuck
    | none => .stuck
  | _ => .stuck
theorem c_sortK : CallM K (fun xs H Q => ∃ (a : Addr) (kvs : List (Key × V)) (ks : List Int), xs = [.ref a] ∧ Rd H a (.dK kvs) ∧ kvs.map (·.1) = ks.map Sum.inl ∧ ks.length < 64 ∧
    ∀ (ys : List Int) (p : Addr), ys.Perm ks → ys.Pairwise (· ≤ ·) → H p = none → Q (.ref p) (upd H p (.lst (ys.map V.int)))) fSortK := by
  intro ρ S H ds vs Q E r q p
  unfold fSortK at p
  split at p
  · obtain ⟨v, rfl, qd⟩ := rel1 q
    split at p
    · rename_i kvs hg
      split at p
      · rename_i ks hk
        split at p
        · rename_i hl
          obtain ⟨a, ws, rfl, h2, h3⟩ := getD_at r qd hg
          refine ⟨a, ws, ks, rfl, h2, h3.1 ▸ keysI_eq hk, hl, fun ys l hp hs hn => ?_⟩
          have e : ys = isrt leI ks := isrt_eq tot_leI hp (hs.imp fun h => decide_eq_true h)
          rw [e]
          exact PostG.lst p r rel_intsD l hn
        · exact p.elim
      · exact p.elim
    · exact p.elim
  · exact p.elim
/-- sorted(l), l of ints -/
def fSortI : Fn1 := fun ds S => match ds with
  | [d] => match getL S d with
    | some xs => match intsD xs with
      | some ns => .ok (.lst ((isrt leI ns).map .int)) S
      | none => .stuck
    | none => .stuck
  | _ => .stuck
theorem ints_vals {ds : List D} {ns : List Int} {vs : List V} (h : RelDs ρ S H ds vs) (e : intsD ds = some ns) : vs = ns.map V.int := by
  have e := intsD_eq e
  subst e
  refine List.ext_getElem? fun i => ?_
  rw [List.getElem?_map]
  by_cases hi : i < ns.length
  · have h1 : (ns.map D.int)[i]? = some (.int ns[i]) := by rw [List.getElem?_map, List.getElem?_eq_getElem hi]; rfl
    obtain ⟨v, hv, rv⟩ := h.get h1
    rw [hv, List.getElem?_eq_getElem hi]
    cases rv
    rfl
  · have := h.1
    rw [List.length_map] at this
    rw [List.getElem?_eq_none (by omega), List.getElem?_eq_none (by omega)]
    rfl
theorem c_sortI : CallM K (rSortedI K) fSortI := by
  intro ρ S H ds vs Q E r q p
  unfold fSortI at p
  split at p
  · obtain ⟨v, rfl, qd⟩ := rel1 q
    split at p
    · rename_i xs hg
      split at p
      · rename_i ns hk
        obtain ⟨a, ws, rfl, h2, h3⟩ := getL_sq r qd hg
        have e0 := ints_vals h3 hk
        subst e0
        refine ⟨a, ns, rfl, h2, fun ys l hp hs hn => ?_⟩
        have e : ys = isrt leI ns := isrt_eq tot_leI hp (hs.imp fun h => decide_eq_true h)
        rw [e]
        exact PostG.lst p r rel_intsD l hn
      · exact p.elim
    · exact p.elim
  · exact p.elim
/-- sorted(l), l of pairs of ints -/
def pairsI : List D → Option (List (Int × Int))
  | [] => some []
  | .tup [.int i, .int j] :: r => (pairsI r).map ((i, j) :: ·)
  | _ => none
def pairD (q : Int × Int) : D := .tup [.int q.1, .int q.2]
theorem pairsI_eq : ∀ {ds : List D} {ps : List (Int × Int)}, pairsI ds = some ps → ds = ps.map pairD := by
  intro ds
  induction ds with
  | nil => intro ps e; simp only [pairsI, Option.some.injEq] at e; subst e; rfl
  | cons d r ih =>
    intro ps e
    unfold pairsI at e
    split at e
    · rename_i h; cases h
    · rename_i i j r' h
      cases h
      cases hr : pairsI r with
      | none => rw [hr] at e; cases e
      | some l =>
        rw [hr] at e
        simp at e
        subst e
        rw [List.map_cons, ← ih hr]
        rfl
    · cases e
def fSortP : Fn1 := fun ds S => match ds with
  | [d] => match getL S d with
    | some xs => match pairsI xs with
      | some ps => .ok (.lst ((isrt leP ps).map pairD)) S
      | none => .stuck
    | none => .stuck
  | _ => .stuck
/-- the pair that stands at v -/
def kOf (H : Hp) (v : V) : Int × Int := match v with
  | .ref t => match H t with
    | some (.tup [.int i, .int j]) => (i, j)
    | _ => (0, 0)
  | _ => (0, 0)
theorem rel_pair {q : Int × Int} {v : V} (h : RelD ρ S H (pairD q) v) : kOf H v = q ∧ ∃ t, v = .ref t ∧ H t = some (.tup [.int q.1, .int q.2]) := by
  unfold pairD at h
  cases h with
  | @tup _ vs a hH n l qv =>
    match vs, l with
    | [x, y], _ =>
      have r1 := qv 0 _ _ rfl rfl
      have r2 := qv 1 _ _ rfl rfl
      cases r1
      cases r2
      exact ⟨by simp [kOf, hH], a, rfl, hH⟩
theorem c_sortP : CallM K (rSortedPO K) fSortP := by
  intro ρ S H ds vs Q E r q p
  unfold fSortP at p
  split at p
  · obtain ⟨v, rfl, qd⟩ := rel1 q
    split at p
    · rename_i xs hg
      split at p
      · rename_i ps hk
        obtain ⟨a, ws, rfl, h2, h3⟩ := getL_sq r qd hg
        have e0 := pairsI_eq hk
        subst e0
        have hat : ∀ w ∈ ws, ∃ q, RelD ρ S H (pairD q) w ∧ kOf H w = q := fun w hw => by
          obtain ⟨i, hi⟩ := List.getElem?_of_mem hw
          have hil : i < ps.length := by
            have := (List.getElem?_eq_some_iff.mp hi).1
            have := h3.1
            simp at this
            omega
          have h1 : (ps.map pairD)[i]? = some (pairD ps[i]) := by rw [List.getElem?_map, List.getElem?_eq_getElem hil]; rfl
          have := h3.2 i _ w h1 hi
          exact ⟨_, this, (rel_pair this).1⟩
        refine ⟨a, ws, kOf H, rfl, h2, fun w hw => ?_, fun ys l hs hb hn => ?_⟩
        · obtain ⟨q, rq, kq⟩ := hat w hw
          obtain ⟨_, t, e1, e2⟩ := rel_pair rq
          exact ⟨t, e1, by rw [kq]; exact e2⟩
        · have hkeys : ws.map (kOf H) = ps := by
            refine List.ext_getElem? fun i => ?_
            rw [List.getElem?_map]
            by_cases hil : i < ps.length
            · have h1 : (ps.map pairD)[i]? = some (pairD ps[i]) := by rw [List.getElem?_map, List.getElem?_eq_getElem hil]; rfl
              obtain ⟨w, hw, rw'⟩ := h3.get h1
              rw [hw, List.getElem?_eq_getElem hil]
              simp [(rel_pair rw').1]
            · have := h3.1
              rw [List.length_map] at this
              rw [List.getElem?_eq_none (by omega), List.getElem?_eq_none (by omega)]
              rfl
          have hperm : (ys.map (kOf H)).Perm ps := by rw [← hkeys]; exact hb.perm.map _
          have hsrt : (ys.map (kOf H)).Pairwise (fun x y => leP x y = true) := by
            rw [List.pairwise_map]
            exact hs.imp fun {x y} h => by
              have h : SrtO.lexB (kOf H y) (kOf H x) = false := h
              simp [leP, h]
          have e := isrt_eq tot_leP hperm hsrt
          refine PostG.lst p r ?_ l hn
          refine ⟨by rw [← e]; simp, fun i d w e1 e2 => ?_⟩
          obtain ⟨q, rq, kq⟩ := hat w (hb.perm.mem_iff.mp (List.mem_of_getElem? e2))
          rw [← e, List.getElem?_map, List.getElem?_map, e2] at e1
          simp at e1
          rw [← e1, kq]
          exact rq
      · exact p.elim
    · exact p.elim
  · exact p.elim
end
end SF

/-! Exact tuples: tuple(list), (), dict(t). -/
namespace SF
open PySem PySem.Spec PyProof.Rows L2
section
variable {X : Cx}
/-- tuple(l), the new object told exactly -/
def rTupX (K : PySem.W.Frag) : List V → Hp → VK → Prop := fun xs H Q => ∃ p ys, xs = [.ref p] ∧ SqL K H p ys ∧ ∀ (l : Addr) (o : Obj), H l = none → o.dict = none → Q (.ref l) (upd H l (.frz o (.tup ys)))
theorem call_tupleX : CallR X (.type "tuple") (rTupX X.K) := by
  intro pins s σ H xs us Q I r h
  obtain ⟨p, ys, rfl, hq, q⟩ := h
  obtain ⟨u, rfl, rx⟩ := vals1 r
  cases rx
  obtain ⟨its, rv, pl, hz⟩ := I.list hq
  have hn := rv.length
  refine call_tuple_list pl.isList (fun h1 kp => ?_) (by simp only [List.size_toArray] <;> omega)
  have J : Inv X pins σ H { s with heap := h1 } := I.kept (t' := s.toks) kp
  have hnew : ObjOk X.prog X.w (upd H h1.objs.size (.frz { cls := .type "tuple", data := .seq its.toArray } (.tup ys))) (h1.push { cls := .type "tuple", data := .seq its.toArray }) h1.objs.size (.frz { cls := .type "tuple", data := .seq its.toArray } (.tup ys)) :=
    ⟨Heap.get?_push_size _ rfl, hz, its, rv, IsTup.new _ _⟩
  exact ⟨.ref h1.objs.size, _, J.laid (t' := s.toks) (fun b o e => Heap.get?_push_of_some _ e) (Nat.le_refl _) hnew, rfl, q _ _ (J.hok.fresh (Nat.le_refl _)) rfl⟩
/-- () -/
theorem pe_unitX {k : Nat} {pos : Pos} : PE X (.Tuple [] k pos) (fun _ H Q => ∀ (p : Addr) (o : Obj), H p = none → o.dict = none → Q (.ref p) (upd H p (.frz o (.tup [])))) := by
  refine ⟨fun pins s σ H Q I hq => ?_⟩
  have ha : PA X [] tNil := pa_nil
  refine wpAny_Tuple_spliced (thn (ha.run pos pins s σ H (fun vs H1 => vs = [] ∧ H1 = H) I ⟨rfl, rfl⟩) fun us s1 hh => ?_)
  obtain ⟨vs, H1, I1, r, rfl, rfl⟩ := hh
  cases r
  refine ⟨Nat.zero_le _, ?_⟩
  have hnew : ObjOk X.prog X.w (upd H1 s1.heap.objs.size (.frz { cls := .type "tuple", data := .seq #[] } (.tup []))) (s1.heap.push { cls := .type "tuple", data := .seq #[] }) s1.heap.objs.size (.frz { cls := .type "tuple", data := .seq #[] } (.tup [])) :=
    ⟨Heap.get?_push_size _ rfl, Nat.zero_le _, [], .nil, IsTup.new _ _⟩
  exact ⟨.ref s1.heap.objs.size, _, I1.laid (t' := s1.toks) (fun b o e => Heap.get?_push_of_some _ e) (Nat.le_refl _) hnew, rfl, hq _ _ (I1.hok.fresh (Nat.le_refl _)) rfl⟩
end
section
variable {K : PySem.W.Frag} {ρ : Rho K} {S : Sto} {H : Hp} {X : Cx} {E : XK}
theorem PostG.xtup {ds : List D} {vs : List V} {Q : VK} (p : Post (.ok (.xtup ds) S) ρ S H Q E) (r : Rel ρ H S) (h : RelDs ρ S H ds vs) : ∀ (a : Addr) (o : Obj), H a = none → o.dict = none → Q (.ref a) (upd H a (.frz o (.tup vs))) :=
  fun a o ha ho => p _ _ ρ (Ext.laid r ha) (r.laid ha) (.xtup upd_same ho (r.fresh ha) h.1 (h.mono (Ext.laid r ha)).2)
/-- tuple(l) -/
def fTupX : Fn1 := fun ds S => match ds with
  | [d] => match getL S d with
    | some xs => .ok (.xtup xs) S
    | none => .stuck
  | _ => .stuck
theorem c_tupX : CallM K (rTupX K) fTupX := by
  intro ρ S H ds vs Q E r q p
  unfold fTupX at p
  split at p
  · obtain ⟨v, rfl, qd⟩ := rel1 q
    split at p
    · rename_i xs hg
      obtain ⟨a, ws, rfl, h2, h3⟩ := getL_sq r qd hg
      exact ⟨a, ws, rfl, h2, PostG.xtup p r h3⟩
    · exact p.elim
  · exact p.elim
theorem pm_unitX {k : Nat} {pos : Pos} : PM X E (.Tuple [] k pos) (eK (.xtup [])) := by
  refine ⟨fun pins s σ H Q I t => pe_unitX.run pins s σ H Q I ?_⟩
  obtain ⟨ρ, S, en, rr, re, p⟩ := t
  exact PostG.xtup p rr RelDs.nil
end
end SF

/-! dict(t) of an exact tuple of pairs. -/
namespace SF
open PySem PySem.Spec PyProof.Rows L2
theorem tup_keys_none : typeLookup (.type "tuple") "keys" = pure none := am_miss_of_fast (by first | decide +kernel | rfl)
section
variable {prog : Program} {w : World} {A : Around} {E : Value → Shared → Prop}
theorem miss_tup {s : Shared} {a : Addr} {o : Obj} {xs : Array Value} {k : Nat} {Q : Option Value → Shared → Prop} (gx : s.heap.get? a = some o) (gc : o.cls = .type "tuple") (gd : o.data = .seq xs k) (gn : o.dict = none) (gA : A.handled = none)
    (h : ∀ h' tk, (∀ b ob, s.heap.get? b = some ob → h'.get? b = some ob) → Q none { s with heap := h', toks := tk }) : wpAny (model prog w) A (getAttr? (.ref a) "keys") Q E s := by
  obtain ⟨c, dct, dat, sl⟩ := o
  simp only at gc gd gn
  subst gc gd gn
  obtain ⟨hp, g, d, tk, os⟩ := s
  have tT : ∀ tk', (⟨hp, g, d, tk', os⟩ : Shared).TypeIs (.ref a) "tuple" := fun _ => ⟨_, gx, rfl⟩
  have m0 := tup_keys_none
  have m1 : (["__module__", "__name__", "__qualname__", "__doc__", "__annotations__"] : List Str).contains "keys" = false := by decide +kernel
  have m2 : ("keys" : Str).length + 100 ≤ sizeLine := by first | size_fits | decide +kernel
  have f1 := sub_AttributeError
  have f3 := PySem.F.slot_tuple_getattribute.lookup
  have f4 := PySem.F.slot_tuple_getattribute.bind (.ref a)
  have f5 := am_tuple_getattr_none
  unfold getAttr? getAttrBy? getAttrBy
  repeat (any_goals (first | assumption | exact tT _ | ((with_reducible show wpAny _ _ (call (Value.builtin "tuple.__getattribute__") _ _) _ _ _); refine call_meets PySem.F.slot_tuple_getattribute (tT _) am_entry_tuple_getattribute (PySem.F.args_tuple_getattribute_2 _ _) (meets_getattribute_miss_tuple a xs k sl "keys" _ m0 m1 m2) ⟨gx, gA, fun h' tk' e hx' => ?_⟩) | wp_step))
  obtain ⟨t', u', he⟩ := hx'.there
  show wpAny _ _ (getattributeRaised _ _ _ _ _ _ _) _ _ _
  unfold getattributeRaised
  repeat (any_goals (first | assumption | wp_step))
  all_goals first | exact h _ _ hx'.keeps | (dsimp only; repeat (any_goals (first | assumption | exact h _ _ hx'.keeps | wp_step)))
theorem upd_loopT {R : Result → Shared → Prop} {S I l : Addr} {items : Array Value} {res : Value} (gh : A.handled = none) (nlI : l ≠ I) (nSI : S ≠ I) (nSl : S ≠ l) :
    ∀ (rest : List (Key × Value)) (i : Nat) (acc : List (Key × Value)) (ix : Int) (t : Tok) (s : Shared), items.size = i + rest.length → acc.length + rest.length ≤ sizeLine →
      (∀ (j : Nat) (q : Key × Value), rest[j]? = some q → ∃ (b : Addr) (u : Value), items[i + j]? = some (.ref b) ∧ b ≠ S ∧ b ≠ I ∧ IsTup s.heap b #[u, q.2] ∧ keyIs q.1 u = true) →
      IsTupIter s.heap I l i → IsTup s.heap l items → s.heap.DictOf (mixKind prog w) S acc →
      (∀ h' tk, h'.DictOf (mixKind prog w) S (merged acc rest) → (∀ b o, b ≠ S → b ≠ I → s.heap.get? b = some o → h'.get? b = some o) → R (.ok (.ret res)) { s with heap := h', toks := tk }) →
      codeAny (model prog w) A (.builtin "dict.update.loop" ⟨[.ref S, .ref I, .int ix t, res], []⟩) R s
  | [], i, acc, ix, t, s, z1, z2, zt, it, il, im, zR => by
    refine codeAny_builtin ud_entry ?_
    rw [Around.under_plainId ud_plain _]
    show wpAny _ A.in1 (pyNext (.ref I) >>= _) _ _ s
    refine wpAny_bind (next_tuple_end (A := A.in1) gh it il (by first | exact Array.getElem?_eq_none (Nat.le_of_eq z1) | (simp at z1; simp; omega)) fun h1 he => ?_)
    show wpAny _ A.in1 (Builtin.Dict.addKeywords S [] >>= _) _ _ _
    refine wpAny_bind (wpAny_pure (wpAny_pure ?_))
    exact zR h1 s.toks (im.extBut he nSI) fun b o _ hb e => he b o hb e
  | q :: rest, i, acc, ix, t, s, z1, z2, zt, it, il, im, zR => by
    obtain ⟨b, u, hb, hbS, hbI, htup, hk⟩ := zt 0 q rfl
    rw [List.length_cons] at z1 z2
    refine codeAny_builtin ud_entry ?_
    rw [Around.under_plainId ud_plain _]
    show wpAny _ A.in1 (pyNext (.ref I) >>= _) _ _ s
    refine wpAny_bind (next_tuple_item (x := .ref b) it il (by simpa using hb) fun h1 it1 sb1 => ?_)
    have t1 : IsTup h1 b #[u, q.2] := htup.extBut sb1.extBut hbI
    have l1 : IsTup h1 l items := il.extBut sb1.extBut nlI
    have d1 : h1.DictOf (mixKind prog w) S acc := im.extBut sb1.extBut nSI
    obtain ⟨o, ho, hc, n, hd⟩ := id t1
    show wpAny _ A.in1 (holding [Value.ref b] _ >>= _) _ _ _
    refine wpAny_bind (wpAny_holding ?_)
    refine wpAny_bind (wpAny_tryCatch ?_)
    unfold Builtin.Dict.pairItems
    refine wpAny_bind (wpAny_typeOf (T := "tuple") ⟨o, ho, hc⟩ ?_)
    rw [if_pos (by first | decide | rfl | simp)]
    refine wpAny_bind (wpAny_seqItems ho hd (wpAny_pure ?_))
    show wpAny _ A.in1 (holding [u, q.2] (dictSet S u q.2)) _ _ _
    refine wpAny_holding (wpAny_dictSet_pairs (knd := mixKind prog w) (k := q.1) hk d1 (fun h2 d2 sb2 => ?_) (by omega))
    refine wpAny_pure ⟨plainId_quiet ud_plain _, upd_loopT (items := items) gh nlI nSI nSl rest (i + 1) (stored acc q.1 q.2) (ix + 1) 0 _ (show items.size = i + 1 + rest.length by omega) ?_ (fun j q' e => ?_) ?_ ?_ d2 fun h' tk hd' k => ?_⟩
    · have z := stored_length_le acc q.1 q.2
      omega
    · obtain ⟨b', u', hb', hbS', hbI', ht', hk'⟩ := zt (j + 1) q' (by simpa using e)
      refine ⟨b', u', ?_, hbS', hbI', (ht'.extBut sb1.extBut hbI').extBut sb2.extBut hbS', hk'⟩
      rw [show i + 1 + j = i + (j + 1) by omega]
      exact hb'
    · exact it1.extBut sb2.extBut (Ne.symm nSI)
    · exact l1.extBut sb2.extBut (Ne.symm nSl)
    · exact zR h' tk hd' fun c oc h3 h4 e => k c oc h3 h4 (sb2.extBut c oc h3 (sb1.extBut c oc h4 e))
theorem call_dict_pairsT {s : Shared} {l : Addr} {ol : Obj} {items : Array Value} {n : Nat} {prs : List (Key × Value)} {Q : Value → Shared → Prop} (gh : A.handled = none) (gl : s.heap.get? l = some ol) (gc : ol.cls = .type "tuple") (gn : ol.dict = none)
    (gd : ol.data = .seq items n) (z1 : items.size = prs.length) (z2 : prs.length ≤ sizeLine)
    (zt : ∀ (j : Nat) (q : Key × Value), prs[j]? = some q → ∃ (b : Addr) (u : Value), items[j]? = some (.ref b) ∧ IsTup s.heap b #[u, q.2] ∧ keyIs q.1 u = true)
    (h : ∀ h' tk, h'.DictOf (mixKind prog w) s.heap.objs.size (merged [] prs) → (∀ b o, s.heap.get? b = some o → h'.get? b = some o) → Q (.ref s.heap.objs.size) { s with heap := h', toks := tk }) :
    wpAny (model prog w) A (call (.type "dict") [.ref l]) Q E s := by
  refine callType_codes (Q₁ := fun obj s₁ => obj = .ref s.heap.objs.size ∧ s₁ = { s with heap := s.heap.push { cls := .type "dict", data := .dict #[] } }) PySem.F.kt_called_dict (PySem.F.kt_typeCall_dict_1 _) PySem.F.entry_dict_init (kt_code_dict_new _ ⟨rfl, rfl⟩) ?_
  rintro obj s₁ ⟨rfl, rfl⟩
  have dn : (s.heap.push { cls := .type "dict", data := .dict #[] }).DictOf (mixKind prog w) s.heap.objs.size [] := Heap.DictOf.new s.heap
  have k0 : ∀ b o, s.heap.get? b = some o → (s.heap.push { cls := .type "dict", data := .dict #[] }).get? b = some o := fun b o e => Heap.get?_push_of_some _ e
  refine ⟨dn.typeIs, PySem.F.args_dict_init_2 _ _, ?_⟩
  unfold Builtin.«dict.__init__»
  refine wpAny_bind ?_
  unfold Builtin.Dict.selfAndRest
  refine wpAny_bind (wpAny_notOrdered_dict dn.typeIs ?_)
  show wpAny _ _ (pure (s.heap.objs.size, [Value.ref l])) _ _ _
  refine wpAny_pure ?_
  show wpAny _ _ (Builtin.Dict.updateFrom "dict.__init__" s.heap.objs.size (.ref l) [] .none) _ _ _
  unfold Builtin.Dict.updateFrom
  refine wpAny_bind (wpAny_typeOf (T := "tuple") ⟨ol, k0 _ _ gl, gc⟩ ?_)
  rw [if_pos (by first | decide | rfl | simp)]
  refine wpAny_bind (miss_tup (k0 _ _ gl) gc gd gn gh fun h1 tk1 hk1 => ?_)
  rw [if_pos (show (none : Option Value).isNone = true from rfl)]
  refine wpAny_bind (wpAny_rule ?_)
  have l1 : IsTup h1 l items := ⟨ol, hk1 _ _ (k0 _ _ gl), gc, n, gd⟩
  have s1 : s.heap.objs.size < h1.objs.size := by
    have e : (s.heap.push { cls := .type "dict", data := .dict #[] }).get? s.heap.objs.size = some { cls := .type "dict", data := .dict #[] } := Heap.get?_push_size _ rfl
    exact Heap.lt_size (hk1 _ _ e)
  refine wpAny_bind (iter_tuple l1 ?_)
  have k2 : ∀ b o, h1.get? b = some o → (h1.push { cls := .type "tuple_iterator", data := .fields #[.ref l, .int 0 0] }).get? b = some o := fun b o e => Heap.get?_push_of_some _ e
  have llt : l < s.heap.objs.size := Heap.lt_size gl
  have key := upd_loopT (prog := prog) (w := w) (A := A.in1) (R := wants (fun r s₂ => r = .none ∧ Q (.ref s.heap.objs.size) s₂) E) (S := s.heap.objs.size) (I := h1.objs.size) (l := l) (items := items) (res := Value.none) gh
    (Nat.ne_of_lt (Nat.lt_trans llt s1)) (Nat.ne_of_lt s1) (Nat.ne_of_gt llt) prs 0 [] 0 0
    { s with heap := h1.push { cls := .type "tuple_iterator", data := .fields #[.ref l, .int 0 0] }, toks := tk1 } (by rw [z1, Nat.zero_add]) (by rw [List.length_nil, Nat.zero_add]; exact z2)
    (fun j q e => by
      obtain ⟨b, u, e1, e2, e3⟩ := zt j q e
      have hb : b < s.heap.objs.size := e2.lt
      exact ⟨b, u, by rw [Nat.zero_add]; exact e1, Nat.ne_of_lt hb, Nat.ne_of_lt (Nat.lt_trans hb s1), e2.keeps fun c o z => k2 _ _ (hk1 _ _ (k0 _ _ z)), e3⟩)
    ⟨_, Heap.get?_push_size _ rfl, rfl, rfl⟩ (l1.keeps fun b o e => k2 _ _ e) ((dn.at fun o e => hk1 _ _ e).at fun o e => k2 _ _ e)
    (fun h' tk hd' k => ⟨rfl, h h' tk hd' fun b o e => k b o (Nat.ne_of_lt (Heap.lt_size e)) (Nat.ne_of_lt (Nat.lt_trans (Heap.lt_size e) s1)) (k2 _ _ (hk1 _ _ (k0 _ _ e)))⟩)
  first
    | exact wpAny_pure ⟨plainId_quiet ud_plain _, key⟩
    | exact wpAny_bind (wpAny_pure (wpAny_pure ⟨plainId_quiet ud_plain _, key⟩))
end
end SF

namespace SF
open PySem PySem.Spec PyProof.Rows L2
section
variable {X : Cx}
def rDictX (K : PySem.W.Frag) : List V → Hp → VK → Prop := fun xs H Q => ∃ (a : Addr) (o : Obj) (ps : List Addr) (kvs : List (Key × V)), xs = [.ref a] ∧ H a = some (.frz o (.tup (ps.map V.ref))) ∧ o.dict = none ∧ Paired (fun p kv => SqT K H p [kV kv.1, kv.2]) ps kvs ∧
  ∀ p, H p = none → Q (.ref p) (upd H p (.dK (mergeK [] kvs)))
theorem call_dictX (hcalm : X.calm = true) : CallR X (.type "dict") (rDictX X.K) := by
  intro pins s σ H xs us Q I r q
  obtain ⟨a, o, ps, kvs, ex, ha, ho, hp, q⟩ := q
  subst ex
  obtain ⟨u, eu, rx⟩ := vals1 r
  subst eu
  cases rx
  obtain ⟨hget, hz, its, rv, o', e', hc, n, hdat⟩ := I.hok a _ ha
  have eo : o' = o := by rw [hget] at e'; exact (Option.some.inj e').symm
  subst eo
  have ei := refs_at rv
  subst ei
  rw [List.length_map] at hz
  obtain ⟨prs, rel, hl, hpr⟩ := pairs_of I hp
  refine call_dict_pairsT (prs := prs) (I.ok.hd hcalm) hget hc ho hdat (by simp [hl]) (by rw [hl]; exact hz) (fun j q' e => ?_) fun h' tk hd' k => ?_
  · obtain ⟨b, u, e1, e2, e3⟩ := hpr j q' e
    exact ⟨b, u, by simp [e1], e2, e3⟩
  · have nm : (s.heap.objs.size == sysModules) = false := beq_eq_false_iff_ne.mpr (Nat.ne_of_gt I.big)
    have hlen : (mergeK [] kvs).length ≤ sizeLine := by
      refine Nat.le_trans (length_mergeK kvs []) ?_
      rw [List.length_nil, Nat.zero_add, rel.length, hl]
      exact hz
    exact ⟨.ref s.heap.objs.size, upd H s.heap.objs.size (.dK (mergeK [] kvs)), I.laid (t' := tk) k (Nat.le_refl _) (show ObjOk X.prog X.w _ _ _ (.dK (mergeK [] kvs)) from ⟨hlen, nm, merged [] prs, KV.merge rel .nil, hd'⟩), rfl, q _ (I.hok.fresh (Nat.le_refl _))⟩
end
/-- the pairs of a list of data -/
def pairsK : List D → Option (List (Key × D))
  | [] => some []
  | .tup [k, d] :: r => (keyD k).bind fun kk => (pairsK r).map fun l => (kk, d) :: l
  | _ => none
section
variable {K : PySem.W.Frag} {ρ : Rho K} {S : Sto} {H : Hp} {E : XK}
theorem pairsK_rel : ∀ {ds : List D} {vs : List V} {kvs : List (Key × D)}, RelDs ρ S H ds vs → pairsK ds = some kvs → ∃ (ps : List Addr) (kws : List (Key × V)), vs = ps.map V.ref ∧ Paired (fun p kv => SqT K H p [kV kv.1, kv.2]) ps kws ∧ RelK ρ S H kvs kws := by
  intro ds
  induction ds with
  | nil =>
    intro vs kvs h e
    simp only [pairsK, Option.some.injEq] at e
    subst e
    have : vs = [] := by have := h.1; cases vs with | nil => rfl | cons _ _ => simp at this
    subst this
    exact ⟨[], [], rfl, .nil, RelK.nil⟩
  | cons d r ih =>
    intro vs kvs h e
    obtain ⟨v, ws, rfl, q, t⟩ := h.uncons
    unfold pairsK at e
    split at e
    · rename_i hh; cases hh
    · rename_i k d' r' hh
      cases hh
      cases hk : keyD k with
      | none => rw [hk] at e; cases e
      | some kk =>
        cases hr : pairsK r with
        | none => rw [hk, hr] at e; cases e
        | some l =>
          rw [hk, hr] at e
          simp at e
          subst e
          obtain ⟨ps, kws, e1, e2, e3⟩ := ih t hr
          cases q with
          | @tup _ us a hH n hl qv =>
            match us, hl with
            | [x, y], _ =>
              have r1 := qv 0 _ _ rfl rfl
              have r2 := qv 1 _ _ rfl rfl
              have ek := keyD_rel r1 hk
              subst ek
              exact ⟨a :: ps, (kk, y) :: kws, by rw [e1]; rfl, .cons (SqT.of hH) e2, RelK.cons r2 e3⟩
    · cases e
/-- dict(t), t an exact tuple of pairs: by value, owned -/
def fDictX : Fn1 := fun ds S => match ds with
  | [.xtup xs] => match pairsK xs with
    | some kvs => .ok (.dct (mergeD [] kvs)) S
    | none => .stuck
  | _ => .stuck
def fDictXN : Fn1 := fun ds S => match ds with
  | [.xtup xs] => match pairsK xs with
    | some kvs => .ok (.ref S.length) (S ++ [.dct (mergeD [] kvs)])
    | none => .stuck
  | _ => .stuck
theorem c_dictX : CallM K (rDictX K) fDictX := by
  intro ρ S H ds vs Q E r q p
  unfold fDictX at p
  split at p
  · obtain ⟨v, rfl, qd⟩ := rel1 q
    split at p
    · rename_i kvs hg
      cases qd with
      | @xtup _ us a o hH hx n hl qv =>
        obtain ⟨ps, kws, e1, e2, e3⟩ := pairsK_rel ⟨hl, qv⟩ hg
        subst e1
        exact ⟨a, o, ps, kws, rfl, hH, hx, e2, PostG.dctV p r (merge_rel e3 RelK.nil)⟩
    · exact p.elim
  · exact p.elim
theorem c_dictXN : CallM K (rDictX K) fDictXN := by
  intro ρ S H ds vs Q E r q p
  unfold fDictXN at p
  split at p
  · obtain ⟨v, rfl, qd⟩ := rel1 q
    split at p
    · rename_i kvs hg
      cases qd with
      | @xtup _ us a o hH hx n hl qv =>
        obtain ⟨ps, kws, e1, e2, e3⟩ := pairsK_rel ⟨hl, qv⟩ hg
        subst e1
        exact ⟨a, o, ps, kws, rfl, hH, hx, e2, PostG.newD p r (merge_rel e3 RelK.nil)⟩
    · exact p.elim
  · exact p.elim
end
end SF

namespace SF
open PySem L2
/-! ### dicts walked -/
theorem ap_sForD {i : Nat} {g : Tgt} {b : Stm} {en : En} {S : Sto} {kvs : List (Key × D)} (h : en[i]? = some (some (.dct kvs))) : sForD i g b en S = (forL g b (fun _ => True) (kvs.map fun kv => kD kv.1) en S).nox := by
  unfold sForD sFor iDk
  rw [h]
  rfl
theorem ap_eLcD {i : Nat} {g : Tgt} {c : Tst} {e : Exp} {vs : List Nat} {en : En} {S : Sto} {kvs : List (Key × D)} (h : en[i]? = some (some (.dct kvs))) (hl : kvs.length ≤ 50000) : eLcD i g c e vs en S = ((lcM g c e (fun _ => True) (wipeE en vs) (kvs.map fun kv => kD kv.1) S).bind fun ys S2 => .ok (.lst ys) S2).nox := by
  unfold eLcD eLc iDk
  rw [h]
  dsimp only [R.bind]
  rw [if_pos (by simpa using hl)]
/-- a loop that ends with False at the first that fails -/
theorem forL_chk {α : Type} {g : Tgt} {b : Stm} {chk : Sto → Prop} {S : Sto} (it : α → D) (ok : α → Bool) (I : En → Prop) (hk : chk S) : ∀ (is : List α) (en : En), I en →
    (∀ a en, a ∈ is → I en → ∃ en1, g (it a) en = some en1 ∧ (ok a = true → ∃ en2, b en1 S = .nx en2 S ∧ I en2) ∧ (ok a = false → b en1 S = .rt (.bl false) S)) →
    (is.all ok = true → ∃ en', forL g b chk (is.map it) en S = .nx en' S ∧ I en') ∧ (is.all ok = false → forL g b chk (is.map it) en S = .rt (.bl false) S)
  | [], en, h, _ => ⟨fun _ => ⟨en, rfl, h⟩, fun e => by simp at e⟩
  | a :: q, en, h, st => by
    obtain ⟨en1, h1, h2, h3⟩ := st a en List.mem_cons_self h
    rw [List.all_cons, List.map_cons]
    cases hr : ok a with
    | true =>
      obtain ⟨en2, e2, I2⟩ := h2 hr
      have ih := forL_chk (chk := chk) it ok I hk q en2 I2 fun a' en' ha hI => st a' en' (List.mem_cons_of_mem _ ha) hI
      have e : ∀ x, forL g b chk (q.map it) en2 S = x → forL g b chk (it a :: q.map it) en S = x := fun x hx => by
        conv => lhs; unfold forL
        rw [h1]
        dsimp only
        rw [e2]
        dsimp only
        rw [if_pos hk]
        exact hx
      rw [Bool.true_and]
      refine ⟨fun hn => ?_, fun hd => e _ (ih.2 hd)⟩
      obtain ⟨en', z, zI⟩ := ih.1 hn
      exact ⟨en', e _ z, zI⟩
    | false =>
      refine ⟨fun hn => by simp at hn, fun _ => ?_⟩
      have e3 := h3 hr
      unfold forL
      rw [h1]
      dsimp only
      rw [e3]
/-! ### beats and hands of a piece -/
def bt (ps : List Pc) (p : Nat) : Int := ((ps[p]?).map Pc.beats).getD 1
def hd (ps : List Pc) (p : Nat) : Int := ((ps[p]?).map Pc.hands).getD 1
theorem Pc.ix1 (p : Pc) (S : Sto) : oIx p.d (.int (-1)) S = .ok (.int p.hands) S := by
  cases p <;> rfl
theorem Pc.ix2 (p : Pc) (S : Sto) : oIx p.d (.int (-2)) S = .ok (.int p.beats) S := by
  cases p <;> rfl
theorem oIx_ps {ps : List Pc} {p : Nat} (h : p < ps.length) (S : Sto) : oIx (.lst (ps.map Pc.d)) (.int (p : Nat)) S = .ok (ps[p]).d S := by
  rw [oIx_lst, atI_nat (v := (ps[p]).d) (by rw [List.getElem?_map, List.getElem?_eq_getElem h]; rfl)]
theorem bt_at {ps : List Pc} {p : Nat} (h : p < ps.length) : bt ps p = (ps[p]).beats := by simp [bt, List.getElem?_eq_getElem h]
theorem hd_at {ps : List Pc} {p : Nat} (h : p < ps.length) : hd ps p = (ps[p]).hands := by simp [hd, List.getElem?_eq_getElem h]
/-- House.beats_of(self, piece); slots self piece -/
noncomputable def m_House_beats_of (cs : Cs) : Stm :=
  (sRt (eOp oIx (eOp oIx (eFldC cs.House "stock" (eV 0)) (eV 1)) (eNeg (eK (.int 2)))))
/-- the run itself -/
noncomputable def f_House_beats_of (cs : Cs) : List D → Sto → R D := fun ds S => runB (m_House_beats_of cs) 2 ds S
/-- House.hands_of(self, piece); slots self piece -/
noncomputable def m_House_hands_of (cs : Cs) : Stm :=
  (sRt (eOp oIx (eOp oIx (eFldC cs.House "stock" (eV 0)) (eV 1)) (eNeg (eK (.int 1)))))
/-- the run itself -/
noncomputable def f_House_hands_of (cs : Cs) : List D → Sto → R D := fun ds S => runB (m_House_hands_of cs) 2 ds S
/-- _law_beats(table, piece); slots table piece -/
noncomputable def m_law_beats (cs : Cs) : Stm :=
  (sRt (eOp oIx (eOp oIx (eOp oIx (eV 0) (eK (.str "pieces"))) (eV 1)) (eNeg (eK (.int 2)))))
/-- the run itself -/
noncomputable def f_law_beats (cs : Cs) : List D → Sto → R D := fun ds S => runB (m_law_beats cs) 2 ds S
/-- _law_hands(table, piece); slots table piece -/
noncomputable def m_law_hands (cs : Cs) : Stm :=
  (sRt (eOp oIx (eOp oIx (eOp oIx (eV 0) (eK (.str "pieces"))) (eV 1)) (eNeg (eK (.int 1)))))
/-- the run itself -/
noncomputable def f_law_hands (cs : Cs) : List D → Sto → R D := fun ds S => runB (m_law_hands cs) 2 ds S
theorem beats_of_ok (cs : Cs) {S : Sto} {i j : Nat} {ho : Ho} (h : HAt cs S i j ho) {p : Nat} (hp : p < ho.ps.length) : f_House_beats_of cs [.ref i, .int (p : Nat)] S = .ok (.int (bt ho.ps p)) S := by
  refine runB_rt ?_
  have h2 : oIx (.ref j) (.int (p : Nat)) S = .ok (ho.ps[p]).d S := by
    rw [oIx_ref h.stk, atI_nat (v := (ho.ps[p]).d) (by rw [List.getElem?_map, List.getElem?_eq_getElem hp]; rfl)]
  simp [m_House_beats_of, env0, h.f_stock, h2, Pc.ix2, bt_at hp]
theorem hands_of_ok (cs : Cs) {S : Sto} {i j : Nat} {ho : Ho} (h : HAt cs S i j ho) {p : Nat} (hp : p < ho.ps.length) : f_House_hands_of cs [.ref i, .int (p : Nat)] S = .ok (.int (hd ho.ps p)) S := by
  refine runB_rt ?_
  have h2 : oIx (.ref j) (.int (p : Nat)) S = .ok (ho.ps[p]).d S := by
    rw [oIx_ref h.stk, atI_nat (v := (ho.ps[p]).d) (by rw [List.getElem?_map, List.getElem?_eq_getElem hp]; rfl)]
  simp [m_House_hands_of, env0, h.f_stock, h2, Pc.ix1, hd_at hp]
theorem law_beats_ok (cs : Cs) {S : Sto} {t : Tb} {p : Nat} (hp : p < t.ps.length) : f_law_beats cs [t.d, .int (p : Nat)] S = .ok (.int (bt t.ps p)) S := by
  refine runB_rt ?_
  simp [m_law_beats, env0, tb_pieces, oIx_ps hp, Pc.ix2, bt_at hp]
theorem law_hands_ok (cs : Cs) {S : Sto} {t : Tb} {p : Nat} (hp : p < t.ps.length) : f_law_hands cs [t.d, .int (p : Nat)] S = .ok (.int (hd t.ps p)) S := by
  refine runB_rt ?_
  simp [m_law_hands, env0, tb_pieces, oIx_ps hp, Pc.ix1, hd_at hp]
theorem ins_beats {cs : Cs} {S : Sto} {i j : Nat} {ho : Ho} (h : HAt cs S i j ho) : isIns cs.House "beats_of" S (.ref i) = true := h.ins _ (by decide +kernel) (by decide +kernel)
theorem ins_hands {cs : Cs} {S : Sto} {i j : Nat} {ho : Ho} (h : HAt cs S i j ho) : isIns cs.House "hands_of" S (.ref i) = true := h.ins _ (by decide +kernel) (by decide +kernel)
theorem ins_numbers {cs : Cs} {S : Sto} {i j : Nat} {ho : Ho} (h : HAt cs S i j ho) : isIns cs.House "numbers" S (.ref i) = true := h.ins _ (by decide +kernel) (by decide +kernel)
/-! ### starts -/
abbrev Sts := List (Nat × Int)
def stK (st : Sts) : List (Key × D) := st.map fun q => (Sum.inl (q.1 : Int), D.int q.2)
def look (st : Sts) (p : Nat) : Int := ((st.find? fun q => decide (q.1 = p)).map (·.2)).getD 0
structure StOk (n : Nat) (st : Sts) : Prop where
  nd : (st.map (·.1)).Nodup
  lt : ∀ q ∈ st, q.1 < n
theorem st_keys (st : Sts) : ((stK st).map fun kv => kD kv.1) = st.map fun q => D.int (q.1 : Nat) := by
  simp [stK, kD, Function.comp_def]
theorem valD_st : ∀ (st : Sts) (p : Nat), valD (stK st) (.inl (p : Int)) = (st.find? fun q => decide (q.1 = p)).map fun q => D.int q.2
  | [], p => rfl
  | q :: r, p => by
    have ih := valD_st r p
    by_cases h : q.1 = p
    · simp [stK, valD, h]
    · have h2 : ¬ ((Sum.inl (q.1 : Int) : Key) = Sum.inl (p : Int)) := fun z => h (by have := Sum.inl.inj z; omega)
      have e1 : valD (stK (q :: r)) (.inl (p : Int)) = valD (stK r) (.inl (p : Int)) := by
        simp [stK, valD, h2]
      rw [e1, ih, List.find?_cons]
      simp [h]
theorem find_mem : ∀ {st : Sts}, (st.map (·.1)).Nodup → ∀ {q : Nat × Int}, q ∈ st → (st.find? fun x => decide (x.1 = q.1)) = some q
  | [], _, q, h => by simp at h
  | a :: r, nd, q, h => by
    rw [List.map_cons, List.nodup_cons] at nd
    rw [List.find?_cons]
    rcases List.mem_cons.mp h with rfl | h
    · simp
    · have : a.1 ≠ q.1 := fun e => nd.1 (e ▸ List.mem_map_of_mem h)
      simp [this, find_mem nd.2 h]
theorem StOk.look {n : Nat} {st : Sts} (h : StOk n st) {q : Nat × Int} (hq : q ∈ st) : look st q.1 = q.2 := by
  simp [SF.look, find_mem h.nd hq]
theorem StOk.len {n : Nat} {st : Sts} (h : StOk n st) : st.length ≤ n := by
  have := nodup_len (st.map (·.1)) (List.range n) h.nd (fun a ha => by
    obtain ⟨q, hq, rfl⟩ := List.mem_map.mp ha
    exact List.mem_range.mpr (h.lt q hq))
  simpa using this
theorem st_ix {n : Nat} {st : Sts} (h : StOk n st) {q : Nat × Int} (hq : q ∈ st) (S : Sto) : oIx (.dct (stK st)) (.int (q.1 : Nat)) S = .ok (.int q.2) S := by
  rw [oIx_dct, keyD_int]
  dsimp only
  rw [valD_st, find_mem h.nd hq]
  rfl
theorem st_ix' {n : Nat} {st : Sts} (h : StOk n st) {p : Nat} (hp : p ∈ st.map (·.1)) (S : Sto) : oIx (.dct (stK st)) (.int (p : Nat)) S = .ok (.int (look st p)) S := by
  obtain ⟨q, hq, rfl⟩ := List.mem_map.mp hp
  rw [st_ix h hq, h.look hq]
theorem st_some (st : Sts) (p : Nat) : (valD (stK st) (.inl (p : Int))).isSome = decide (p ∈ st.map (·.1)) := by
  rw [valD_st, Option.isSome_map]
  by_cases h : p ∈ st.map (·.1)
  · rw [decide_eq_true h, List.find?_isSome]
    obtain ⟨q, hq, rfl⟩ := List.mem_map.mp h
    exact ⟨q, hq, by simp⟩
  · rw [decide_eq_false h]
    cases e : st.find? fun q => decide (q.1 = p) with
    | none => rfl
    | some q =>
      have h1 := List.mem_of_find?_eq_some e
      have h2 := List.find?_some e
      simp at h2
      exact absurd (List.mem_map.mpr ⟨q, h1, h2⟩) h
def inB (ps : List Pc) (beat : Int) (q : Nat × Int) : Bool := decide (q.2 ≤ beat ∧ beat < q.2 + bt ps q.1)
def load (ps : List Pc) (st : Sts) (beat : Int) : Int := ((st.filter (inB ps beat)).map fun q => hd ps q.1).sum
end SF

namespace SF
open PySem L2
/-- law(script); slots script dice size turn house pieces way due told line beats hands -/
noncomputable def m_law (cs : Cs) : Stm :=
  (sSeq (sFor (iSeq (eCall 2 (f_law_rounds cs) [] (aC (eV 0) (aC (eK (.int 4)) aN)))) (gN 1) (sGc (sSeq (sAs (gN 2) (eTup (aC (eOp oAdd (eK (.int 1)) (eCall 2 (f_law_roll cs) [] (aC (eV 1) (aC (eK (.int 6)) aN)))) (aC (eCall 2 (f_law_roll cs) [] (aC (eV 1) (aC (eK (.int 7)) aN))) (aC (eOp oAdd (eK (.int 1)) (eCall 2 (f_law_roll cs) [] (aC (eV 1) (aC (eK (.int 6)) aN)))) aN))))) (sSeq (sAs (gT (gsC (gN 4) (gsC (gN 5) gsN))) (eTup (aC (eMake cs.House 4 (f_House___init__ cs) [] (aC (eOp oIx (eV 2) (eK (.int 0))) (aC (eOp oIx (eV 2) (eK (.int 1))) (aC (eOp oIx (eV 2) (eK (.int 2))) aN)))) (aC (eNew aN) aN)))) (sSeq (sIf (tOrr (tV (eOp (oEqN true) (eMeth cs.House "numbers" 1 (f_House_numbers cs) [] (eV 4) aN) (eV 2))) (tV (eOp (oEqN true) (eMeth cs.House "pieces" 1 (f_House_pieces cs) [] (eV 4) aN) (eLst aN)))) (sRt (eK (.bl false))) sNx) (sFor (iR1 (aC (eK (.int 10)) aN)) (gN 3) (sSeq (sAs (gT (gsC (gN 9) (gsC (gN 10) (gsC (gN 11) gsN)))) (eTup (aC (eCall 2 (f_law_roll cs) [] (aC (eV 1) (aC (eOp oAdd (eOp oIx (eV 2) (eK (.int 0))) (eK (.int 1))) aN))) (aC (eOp oAdd (eK (.int 1)) (eCall 2 (f_law_roll cs) [] (aC (eV 1) (aC (eK (.int 4)) aN)))) (aC (eOp oAdd (eK (.int 1)) (eCall 2 (f_law_roll cs) [] (aC (eV 1) (aC (eK (.int 6)) aN)))) aN))))) (sSeq (sAs (gN 6) (eCall 2 (f_law_roll cs) [] (aC (eV 1) (aC (eK (.int 2)) aN)))) (sSeq (sAs (gN 7) (eIf (tV (eOp oLt (eB fLen (aC (eV 5) aN)) (eK (.int 8)))) (eB fLen (aC (eV 5) aN)) (eTup (aC (eK (.str "refused")) (aC (eK (.str "Full")) aN))))) (sSeq (sIf (tAn (tV (eOp (oEqN false) (eV 6) (eK (.int 0)))) (tV (eOp (oEqN false) (eV 9) (eOp oIx (eV 2) (eK (.int 0)))))) (sAs (gN 7) (eTup (aC (eK (.str "refused")) (aC (eK (.str "BadLine")) aN)))) sNx) (sSeq (sAs (gN 8) (eTold 0 (cs.tb 0) cs.ex (eIf (tV (eOp oGt (eV 6) (eK (.int 0)))) (eMeth cs.House "truck" 3 (f_House_truck cs) [] (eV 4) (aC (eV 10) (aC (eV 11) aN))) (eMeth cs.House "cloth" 4 (f_House_cloth cs) [] (eV 4) (aC (eV 9) (aC (eV 10) (aC (eV 11) aN))))))) (sSeq (sIf (tOrr (tV (eOp (oEqN true) (eV 8) (eV 7))) (tV (eIsT .bool (eV 8)))) (sRt (eK (.bl false))) sNx) (sSeq (sIf (tNo (tV (eIsT .tuple (eV 8)))) (sEx (eMt "list" fApp (eV 5) (aC (eIf (tV (eOp oGt (eV 6) (eK (.int 0)))) (eTup (aC (eK (.str "truck")) (aC (eV 10) (aC (eV 11) aN)))) (eTup (aC (eK (.str "cloth")) (aC (eV 9) (aC (eV 10) (aC (eV 11) aN)))))) aN))) sNx) (sIf (tOrr (tV (eOp (oEqN true) (eMeth cs.House "pieces" 1 (f_House_pieces cs) [] (eV 4) aN) (eV 5))) (tV (eOp (oEqN true) (eMeth cs.House "numbers" 1 (f_House_numbers cs) [] (eV 4) aN) (eV 2)))) (sRt (eK (.bl false))) sNx)))))))))))))) (sRt (eK (.bl true))))
/-- the run itself -/
noncomputable def f_law (cs : Cs) : List D → Sto → R D := fun ds S => runB (m_law cs) 12 ds S
noncomputable def k10s0 (cs : Cs) : Stm := (sAs (gN 2) (eTup (aC (eOp oAdd (eK (.int 1)) (eCall 2 (f_law_roll cs) [] (aC (eV 1) (aC (eK (.int 6)) aN)))) (aC (eCall 2 (f_law_roll cs) [] (aC (eV 1) (aC (eK (.int 7)) aN))) (aC (eOp oAdd (eK (.int 1)) (eCall 2 (f_law_roll cs) [] (aC (eV 1) (aC (eK (.int 6)) aN)))) aN)))))
noncomputable def k10s1 (cs : Cs) : Stm := (sAs (gT (gsC (gN 4) (gsC (gN 5) gsN))) (eTup (aC (eMake cs.House 4 (f_House___init__ cs) [] (aC (eOp oIx (eV 2) (eK (.int 0))) (aC (eOp oIx (eV 2) (eK (.int 1))) (aC (eOp oIx (eV 2) (eK (.int 2))) aN)))) (aC (eNew aN) aN))))
noncomputable def k10s2 (cs : Cs) : Stm := (sIf (tOrr (tV (eOp (oEqN true) (eMeth cs.House "numbers" 1 (f_House_numbers cs) [] (eV 4) aN) (eV 2))) (tV (eOp (oEqN true) (eMeth cs.House "pieces" 1 (f_House_pieces cs) [] (eV 4) aN) (eLst aN)))) (sRt (eK (.bl false))) sNx)
noncomputable def k10b3 (cs : Cs) : Stm := (sSeq (sAs (gT (gsC (gN 9) (gsC (gN 10) (gsC (gN 11) gsN)))) (eTup (aC (eCall 2 (f_law_roll cs) [] (aC (eV 1) (aC (eOp oAdd (eOp oIx (eV 2) (eK (.int 0))) (eK (.int 1))) aN))) (aC (eOp oAdd (eK (.int 1)) (eCall 2 (f_law_roll cs) [] (aC (eV 1) (aC (eK (.int 4)) aN)))) (aC (eOp oAdd (eK (.int 1)) (eCall 2 (f_law_roll cs) [] (aC (eV 1) (aC (eK (.int 6)) aN)))) aN))))) (sSeq (sAs (gN 6) (eCall 2 (f_law_roll cs) [] (aC (eV 1) (aC (eK (.int 2)) aN)))) (sSeq (sAs (gN 7) (eIf (tV (eOp oLt (eB fLen (aC (eV 5) aN)) (eK (.int 8)))) (eB fLen (aC (eV 5) aN)) (eTup (aC (eK (.str "refused")) (aC (eK (.str "Full")) aN))))) (sSeq (sIf (tAn (tV (eOp (oEqN false) (eV 6) (eK (.int 0)))) (tV (eOp (oEqN false) (eV 9) (eOp oIx (eV 2) (eK (.int 0)))))) (sAs (gN 7) (eTup (aC (eK (.str "refused")) (aC (eK (.str "BadLine")) aN)))) sNx) (sSeq (sAs (gN 8) (eTold 0 (cs.tb 0) cs.ex (eIf (tV (eOp oGt (eV 6) (eK (.int 0)))) (eMeth cs.House "truck" 3 (f_House_truck cs) [] (eV 4) (aC (eV 10) (aC (eV 11) aN))) (eMeth cs.House "cloth" 4 (f_House_cloth cs) [] (eV 4) (aC (eV 9) (aC (eV 10) (aC (eV 11) aN))))))) (sSeq (sIf (tOrr (tV (eOp (oEqN true) (eV 8) (eV 7))) (tV (eIsT .bool (eV 8)))) (sRt (eK (.bl false))) sNx) (sSeq (sIf (tNo (tV (eIsT .tuple (eV 8)))) (sEx (eMt "list" fApp (eV 5) (aC (eIf (tV (eOp oGt (eV 6) (eK (.int 0)))) (eTup (aC (eK (.str "truck")) (aC (eV 10) (aC (eV 11) aN)))) (eTup (aC (eK (.str "cloth")) (aC (eV 9) (aC (eV 10) (aC (eV 11) aN)))))) aN))) sNx) (sIf (tOrr (tV (eOp (oEqN true) (eMeth cs.House "pieces" 1 (f_House_pieces cs) [] (eV 4) aN) (eV 5))) (tV (eOp (oEqN true) (eMeth cs.House "numbers" 1 (f_House_numbers cs) [] (eV 4) aN) (eV 2)))) (sRt (eK (.bl false))) sNx))))))))
noncomputable def k10s3 (cs : Cs) : Stm := (sFor (iR1 (aC (eK (.int 10)) aN)) (gN 3) (k10b3 cs))
noncomputable def k10r (cs : Cs) : Stm := (sSeq (k10s0 cs) (sSeq (k10s1 cs) (sSeq (k10s2 cs) (k10s3 cs))))
theorem m_law_eq (cs : Cs) : m_law cs = (sSeq (sFor (iSeq (eCall 2 (f_law_rounds cs) [] (aC (eV 0) (aC (eK (.int 4)) aN)))) (gN 1) (sGc (k10r cs))) (sRt (eK (.bl true)))) := rfl
theorem set_same0 {S : Sto} {i : Nat} {c : Cell} (h : S[i]? = some c) : S.set i c = S := List.ext_getElem? fun n => by
  by_cases q : i = n
  · subst q
    rw [List.getElem?_set_self (gx_lt h), h]
  · rw [List.getElem?_set_ne q]
theorem oEqN_refR (neg : Bool) {S : Sto} {i : Nat} {ds : List D} (h : S[i]? = some (.lst ds)) (x : D) : oEqN neg x (.ref i) S = oEqN neg x (.lst ds) S := by
  have e : pyS S (.ref i) = pyS S (.lst ds) := by simp [pyS, getL_ref, h]
  unfold oEqN
  rw [e]
section
variable (cs : Cs) {S : Sto} {i j : Nat} {ho : Ho}
theorem cloth_full {l b h : Int} (hf : cs.fu = true) (hat : HAt cs S i j ho) (h1 : 0 ≤ l ∧ l ≤ ho.l - 1) (h2 : 1 ≤ b ∧ b ≤ 4) (h3 : 1 ≤ h ∧ h ≤ 6) (h4 : ho.ps.length = 8) : f_House_cloth cs [.ref i, .int l, .int b, .int h] S = .exc ⟨cs.ex 7, [("most", .int 8)], 7⟩ S := by
  refine runB_exc ?_
  show m_House_cloth cs [some (.ref i), some (.int l), some (.int b), some (.int h)] S = _
  simp [m_House_cloth, hat.f_size, oIx_tup, f_is_number, f_need_number, plainD, isNum, h1, h2, h3, ins_taken hat, f_House_taken_in, houseOf_eq hat, h4, hf]
theorem truck_full {b h : Int} (hf : cs.fu = true) (hat : HAt cs S i j ho) (h2 : 1 ≤ b ∧ b ≤ 4) (h3 : 1 ≤ h ∧ h ≤ 6) (h4 : ho.ps.length = 8) : f_House_truck cs [.ref i, .int b, .int h] S = .exc ⟨cs.ex 7, [("most", .int 8)], 7⟩ S := by
  refine runB_exc ?_
  show m_House_truck cs [some (.ref i), some (.int b), some (.int h)] S = _
  simp [m_House_truck, f_need_number, plainD, isNum, h2, h3, ins_taken hat, f_House_taken_in, houseOf_eq hat, h4, hf]
end
theorem numbers_run {cs : Cs} {S : Sto} {i j : Nat} {ho : Ho} (hat : HAt cs S i j ho) : f_House_numbers cs [.ref i] S = .ok (.tup [.int ho.l, .int ho.s, .int ho.h]) S := by
  unfold f_House_numbers
  simp only [houseOf_eq hat]
/-- the store within a round -/
structure K10 (cs : Cs) (S : Sto) (i hi hj pj : Nat) (l s h : Int) (ps : List Pc) (X : Sto) : Prop where
  ex : ∃ c T, X = S.set i c ++ T ∧ IsDice c
  hat : HAt cs X hi hj ⟨l, s, h, ps⟩
  p : X[pj]? = some (.lst (ps.map Pc.d))
theorem law_ok (cs : Cs) (hf : cs.fu = true) (ns : List Int) (hn : ns.length ≤ 63) : ∃ S1, f_law cs [.scr ns] (tabS cs.tb 1) = .ok (.bl true) S1 := by
  show ∃ S1, runB (m_law cs) 12 [.scr ns] (tabS cs.tb 1) = .ok (.bl true) S1
  rw [m_law_eq]
  refine law_byT (cs := cs) (n := 10) (by decide) ns hn fun S i c es hes h hc hi ht => ?_
  obtain ⟨e2, e3, e4, e5, e6, e7, e8, e9, e10, e11, rfl⟩ : ∃ e2 e3 e4 e5 e6 e7 e8 e9 e10 e11, es = [e2, e3, e4, e5, e6, e7, e8, e9, e10, e11] := match es, hes with | [e2, e3, e4, e5, e6, e7, e8, e9, e10, e11], _ => ⟨_, _, _, _, _, _, _, _, _, _, rfl⟩
  have hl : ∀ c, (S.set i c).length = S.length := fun c => List.length_set
  have hroll : ∀ c T (m : Int), IsDice c → 0 < m → m < 1000000 → ∃ r c', f_law_roll cs [.ref i, .int m] (S.set i c ++ T) = .ok (.int r) (S.set i c' ++ T) ∧ IsDice c' ∧ 0 ≤ r ∧ r < m := fun c T m kc m0 m1 => roll_app cs T h kc m0 m1
  have hS0 : S = S.set i c ++ [] := by rw [List.append_nil, set_same0 h]
  obtain ⟨r1, c1, q1, k1, a1, b1⟩ := hroll c [] 6 hc (by decide) (by decide)
  obtain ⟨r2, c2, q2, k2, a2, b2⟩ := hroll c1 [] 7 k1 (by decide) (by decide)
  obtain ⟨r3, c3, q3, k3, a3, b3⟩ := hroll c2 [] 6 k2 (by decide) (by decide)
  rw [← hS0] at q1
  obtain ⟨l, hll⟩ : ∃ l, l = 1 + r1 := ⟨_, rfl⟩
  obtain ⟨hh, hhh⟩ : ∃ hh, hh = 1 + r3 := ⟨_, rfl⟩
  have hlr : 1 ≤ l ∧ l ≤ 6 := by omega
  have hhr : 1 ≤ hh ∧ hh ≤ 6 := by omega
  have hsr : 0 ≤ r2 ∧ r2 ≤ 6 := by omega
  obtain ⟨sz, hsz⟩ : ∃ sz, sz = D.tup [.int l, .int r2, .int hh] := ⟨_, rfl⟩
  have i0 : ∀ Y, oIx sz (.int 0) Y = .ok (.int l) Y := fun _ => by rw [hsz]; rfl
  have i1 : ∀ Y, oIx sz (.int 1) Y = .ok (.int r2) Y := fun _ => by rw [hsz]; rfl
  have i2 : ∀ Y, oIx sz (.int 2) Y = .ok (.int hh) Y := fun _ => by rw [hsz]; rfl
  rw [k10r]
  refine wp_seq (Q := RoundT ns S i 10) (en1 := [some (.scr ns), some (.ref i), some sz, e3, e4, e5, e6, e7, e8, e9, e10, e11]) (S1 := S.set i c3 ++ []) (by rw [k10s0]; simp [q1, q2, q3, hll, hhh, hsz] at q1 q2 q3 ⊢; simp [q1, q2, q3]) ?_
  rw [List.append_nil]
  have hmk := make_ok cs (ms := (aC (eOp oIx (eV 2) (eK (.int 0))) (aC (eOp oIx (eV 2) (eK (.int 1))) (aC (eOp oIx (eV 2) (eK (.int 2))) aN)))) (en := [some (.scr ns), some (.ref i), some sz, e3, e4, e5, e6, e7, e8, e9, e10, e11]) (X := S.set i c3) (Y := S.set i c3) (l := l) (s := r2) (h := hh) (by simp [i0, i1, i2]) hlr hsr hhr
  rw [hl] at hmk
  obtain ⟨B, hB⟩ : ∃ B, B = hCells cs ⟨l, r2, hh, []⟩ S.length := ⟨_, rfl⟩
  rw [← hB] at hmk
  have hBl : B.length = 2 := by rw [hB]; rfl
  have hat0 : ∀ T, HAt cs (S.set i c3 ++ B ++ T) S.length (S.length + 1) ⟨l, r2, hh, []⟩ := fun T => by
    have := hCells_at cs ⟨l, r2, hh, []⟩ (S.set i c3) T
    rw [hl, ← hB] at this
    exact this
  obtain ⟨pj, hpj⟩ : ∃ pj, pj = (S.set i c3 ++ B).length := ⟨_, rfl⟩
  have hpj2 : pj = S.length + 2 := by rw [hpj]; simp [hBl]
  refine wp_seq (Q := RoundT ns S i 10) (en1 := [some (.scr ns), some (.ref i), some sz, e3, some (.ref S.length), some (.ref pj), e6, e7, e8, e9, e10, e11]) (S1 := S.set i c3 ++ B ++ [.lst []]) (by
    rw [k10s1, ap_sAs, ap_eTup, ap_aC, hmk]
    simp [hpj]) ?_
  obtain ⟨X0, hX0⟩ : ∃ X0, X0 = S.set i c3 ++ B ++ [.lst []] := ⟨_, rfl⟩
  rw [← hX0]
  have hK0 : K10 cs S i S.length (S.length + 1) pj l r2 hh [] X0 := ⟨⟨c3, B ++ [.lst []], by rw [hX0, List.append_assoc], k3⟩, by rw [hX0]; exact hat0 _, by rw [hX0, hpj]; exact gx_last []⟩
  have gsz : good 1 sz = true := by rw [hsz]; rfl
  have esz : ∀ Y, oEqN true sz sz Y = .ok (.bl false) Y := fun Y => oEqN_eq true gsz gsz rfl
  have numsz : ∀ {ps : List Pc} {Y : Sto}, HAt cs Y S.length (S.length + 1) ⟨l, r2, hh, ps⟩ → f_House_numbers cs [.ref S.length] Y = .ok sz Y := fun hY => by rw [numbers_run hY, hsz]
  refine wp_seq (Q := RoundT ns S i 10) (en1 := [some (.scr ns), some (.ref i), some sz, e3, some (.ref S.length), some (.ref pj), e6, e7, e8, e9, e10, e11]) (S1 := X0) (by
    have h1 : oEqN true (.lst []) (.lst []) X0 = .ok (.bl false) X0 := oEqN_eq true (n := 1) (m := 1) rfl rfl rfl
    rw [k10s2]
    simp [ins_numbers hK0.hat, ins_pieces cs hK0.hat, numsz hK0.hat, esz, pieces_run cs hK0.hat, h1]) ?_
  rw [k10s3]
  refine wp_for1 (Q := RoundT ns S i 10) (chk := fun _ => True) (S1 := X0) (List.range 10) (fun i : Nat => D.int (0 + (i : Int)))
    (fun pre en X => ∃ x3 x6 x7 x8 x9 x10 x11 ps, en = [some (.scr ns), some (.ref i), some sz, x3, some (.ref S.length), some (.ref pj), x6, x7, x8, x9, x10, x11] ∧ K10 cs S i S.length (S.length + 1) pj l r2 hh ps X ∧ ps.length ≤ 8)
    (by simp [rngD]) ⟨_, _, _, _, _, _, _, [], rfl, hK0, by simp⟩ ?_ ?_
  · rintro pre a en X hp ⟨x3, x6, x7, x8, x9, x10, x11, ps, rfl, hK, hps⟩
    refine ⟨_, rfl, ?_⟩
    obtain ⟨⟨c, T, rfl, kc⟩, hat, hpp⟩ := hK
    obtain ⟨line, d1, p1, g1, a1', b1'⟩ := hroll c T (l + 1) kc (by omega) (by omega)
    obtain ⟨be, d2, p2, g2, a2', b2'⟩ := hroll d1 T 4 g1 (by decide) (by decide)
    obtain ⟨ha, d3, p3, g3, a3', b3'⟩ := hroll d2 T 6 g2 (by decide) (by decide)
    obtain ⟨way, d4, p4, g4, a4', b4'⟩ := hroll d3 T 2 g3 (by decide) (by decide)
    obtain ⟨b, hb⟩ : ∃ b, b = 1 + be := ⟨_, rfl⟩
    obtain ⟨k, hk⟩ : ∃ k, k = 1 + ha := ⟨_, rfl⟩
    have hbr : 1 ≤ b ∧ b ≤ 4 := by omega
    have hkr : 1 ≤ k ∧ k ≤ 6 := by omega
    obtain ⟨Y, hY⟩ : ∃ Y, Y = S.set i d4 ++ T := ⟨_, rfl⟩
    have hiX : ∀ n z, S.length ≤ n → (S.set i c ++ T)[n]? = some z → Y[n]? = some z := fun n z hn hz => by
      rw [hY, List.getElem?_append_right (by rw [hl]; exact hn), hl]
      rw [List.getElem?_append_right (by rw [hl]; exact hn), hl] at hz
      exact hz
    have hatY : HAt cs Y S.length (S.length + 1) ⟨l, r2, hh, ps⟩ := ⟨hiX _ _ (by omega) hat.own, hiX _ _ (by omega) hat.stk⟩
    have hpY : Y[pj]? = some (.lst (ps.map Pc.d)) := hiX _ _ (by omega) hpp
    have h0Y : Y[0]? = some (.tab (cs.tb 0).1 (cs.tb 0).2) := by rw [hY]; exact gx_app (gx_ne (ht 0 (by decide)) (by omega) _) _
    have hsetY : ∀ n z, S.length ≤ n → Y.set n z = S.set i d4 ++ T.set (n - S.length) z := fun n z hn => by
      rw [hY, List.set_append_right _ _ (by rw [hl]; exact hn), hl]
    suffices key : ∀ Q : RS → Prop, (∀ y6 y7 y8 y9 y10 y11 ps' Z, K10 cs S i S.length (S.length + 1) pj l r2 hh ps' Z → ps'.length ≤ 8 → Q (.nx [some (.scr ns), some (.ref i), some sz, some (.int (0 + (a : Int))), some (.ref S.length), some (.ref pj), y6, y7, y8, y9, y10, y11] Z)) →
        Q (k10b3 cs [some (.scr ns), some (.ref i), some sz, some (.int (0 + (a : Int))), some (.ref S.length), some (.ref pj), x6, x7, x8, x9, x10, x11] (S.set i c ++ T)) by
      obtain ⟨y6, y7, y8, y9, y10, y11, ps', Z, e1, e2, e3⟩ := key (fun r => ∃ y6 y7 y8 y9 y10 y11 ps' Z, r = .nx [some (.scr ns), some (.ref i), some sz, some (.int (0 + (a : Int))), some (.ref S.length), some (.ref pj), y6, y7, y8, y9, y10, y11] Z ∧ K10 cs S i S.length (S.length + 1) pj l r2 hh ps' Z ∧ ps'.length ≤ 8) fun y6 y7 y8 y9 y10 y11 ps' Z h1 h2 => ⟨y6, y7, y8, y9, y10, y11, ps', Z, rfl, h1, h2⟩
      exact ⟨_, _, e1, trivial, _, _, _, _, _, _, _, ps', rfl, e2, e3⟩
    intro Q hQ
    rw [k10b3]
    refine wp_seq (Q := Q) (en1 := [some (.scr ns), some (.ref i), some sz, some (.int (0 + (a : Int))), some (.ref S.length), some (.ref pj), x6, x7, x8, some (.int line), some (.int b), some (.int k)]) (S1 := S.set i d3 ++ T) (by simp [i0, p1, p2, p3, hb, hk]) ?_
    refine wp_seq (Q := Q) (en1 := [some (.scr ns), some (.ref i), some sz, some (.int (0 + (a : Int))), some (.ref S.length), some (.ref pj), some (.int way), x7, x8, some (.int line), some (.int b), some (.int k)]) (S1 := Y) (by rw [hY]; simp [p4]) ?_
    obtain ⟨due0, hd0⟩ : ∃ d : D, d = if ps.length < 8 then .int ps.length else wordD 7 := ⟨_, rfl⟩
    have hlp : fLen [.ref pj] Y = .ok (.int (ps.length : Nat)) Y := by rw [fLen_ref hpY]; simp
    refine wp_seq (Q := Q) (en1 := [some (.scr ns), some (.ref i), some sz, some (.int (0 + (a : Int))), some (.ref S.length), some (.ref pj), some (.int way), some due0, x8, some (.int line), some (.int b), some (.int k)]) (S1 := Y) (by
      by_cases h8 : ps.length < 8
      · have h8' : (ps.length : Int) < 8 := by omega
        simp [hlp, hd0, h8, h8']
      · have h8' : ¬ ((ps.length : Int) < 8) := by omega
        simp [hlp, hd0, h8, h8', wordD, exName, exNames]) ?_
    -- what is due and told
    obtain ⟨due, Z, ps', hdue, htold, hgd, hKZ, hps'⟩ : ∃ (due : D) (Z : Sto) (ps' : List Pc), (if way = 0 ∧ line = l then wordD 1 else due0) = due ∧
        (eIf (tV (eOp oGt (eV 6) (eK (.int 0)))) (eMeth cs.House "truck" 3 (f_House_truck cs) [] (eV 4) (aC (eV 10) (aC (eV 11) aN))) (eMeth cs.House "cloth" 4 (f_House_cloth cs) [] (eV 4) (aC (eV 9) (aC (eV 10) (aC (eV 11) aN)))) [some (.scr ns), some (.ref i), some sz, some (.int (0 + (a : Int))), some (.ref S.length), some (.ref pj), some (.int way), some due, x8, some (.int line), some (.int b), some (.int k)] Y = (match due with
          | .int n => .ok (.int n) Z
          | _ => .exc ⟨cs.ex (if way = 0 ∧ line = l then 1 else 7), if way = 0 ∧ line = l then [] else [("most", .int 8)], if way = 0 ∧ line = l then 1 else 7⟩ Y)) ∧
        ((due = .int ps.length ∧ ps' = ps ++ [if way > 0 then .tr b k else .cl line b k] ∧ ps.length < 8 ∧ Z = Y.set (S.length + 1) (.lst (ps'.map Pc.d))) ∨ (due = wordD (if way = 0 ∧ line = l then 1 else 7) ∧ ps' = ps ∧ Z = Y)) ∧
        HAt cs Z S.length (S.length + 1) ⟨l, r2, hh, ps'⟩ ∧ ps'.length ≤ 8 := by
      by_cases hw : way = 0
      · subst hw
        by_cases hln : line = l
        · refine ⟨wordD 1, Y, ps, by simp [hln], ?_, .inr ⟨by simp [hln], rfl, rfl⟩, hatY, hps⟩
          have e := cloth_exc1 cs (l := .int line) (b := .int b) (h := .int k) hatY rfl (by simp [isNum]; omega)
          simp [ins_cloth hatY, e, hln, wordD]
          rw [hln] at e
          simp [e]
        · by_cases h8 : ps.length < 8
          · have e := cloth_ok cs (l := line) (b := b) (h := k) hatY (by show 0 ≤ line ∧ line ≤ l - 1; omega) hbr hkr h8
            have hput := hatY.put (.cl line b k)
            refine ⟨.int ps.length, Y.set (S.length + 1) (.lst (ps.map Pc.d ++ [(Pc.cl line b k).d])), ps ++ [.cl line b k], by simp [hln, hd0, h8], by simp [ins_cloth hatY, e], .inl ⟨rfl, by simp, h8, by simp⟩, hput, by simp; omega⟩
          · have e := cloth_full cs (l := line) (b := b) (h := k) hf hatY (by show 0 ≤ line ∧ line ≤ l - 1; omega) hbr hkr (by show ps.length = 8; omega)
            refine ⟨wordD 7, Y, ps, by simp [hln, hd0, h8], by simp [ins_cloth hatY, e, hln, wordD], .inr ⟨by simp [hln], rfl, rfl⟩, hatY, hps⟩
      · have hwp : way > 0 := by omega
        by_cases h8 : ps.length < 8
        · have e := truck_ok cs (b := b) (h := k) hatY hbr hkr h8
          have hput := hatY.put (.tr b k)
          refine ⟨.int ps.length, Y.set (S.length + 1) (.lst (ps.map Pc.d ++ [(Pc.tr b k).d])), ps ++ [.tr b k], by simp [hw, hd0, h8], by simp [ins_truck hatY, e, hwp], .inl ⟨rfl, by simp [hwp], h8, by simp⟩, hput, by simp; omega⟩
        · have e := truck_full cs (b := b) (h := k) hf hatY hbr hkr (by show ps.length = 8; omega)
          refine ⟨wordD 7, Y, ps, by simp [hw, hd0, h8], by simp [ins_truck hatY, e, hw, hwp, wordD], .inr ⟨by simp [hw], rfl, rfl⟩, hatY, hps⟩
    refine wp_seq (Q := Q) (en1 := [some (.scr ns), some (.ref i), some sz, some (.int (0 + (a : Int))), some (.ref S.length), some (.ref pj), some (.int way), some due, x8, some (.int line), some (.int b), some (.int k)]) (S1 := Y) (by
      by_cases hw : way = 0
      · by_cases hln : line = l
        · simp [i0, oEqN_int, hw, hln, ← hdue, wordD, exName, exNames]
        · simp [i0, oEqN_int, hw, hln, ← hdue]
      · simp [i0, oEqN_int, hw, ← hdue]) ?_
    refine wp_seq (Q := Q) (en1 := [some (.scr ns), some (.ref i), some sz, some (.int (0 + (a : Int))), some (.ref S.length), some (.ref pj), some (.int way), some due, some due, some (.int line), some (.int b), some (.int k)]) (S1 := Z) (by
      rcases hgd with ⟨e1, e2, e3, e4⟩ | ⟨e1, e2, e3⟩
      · rw [e1] at htold ⊢
        rw [ap_sAs, told_ok h0Y htold]
        rfl
      · have htold' : ∀ w, (if way = 0 ∧ line = l then 1 else 7) = w → due = wordD w → eTold 0 (cs.tb 0) cs.ex (eIf (tV (eOp oGt (eV 6) (eK (.int 0)))) (eMeth cs.House "truck" 3 (f_House_truck cs) [] (eV 4) (aC (eV 10) (aC (eV 11) aN))) (eMeth cs.House "cloth" 4 (f_House_cloth cs) [] (eV 4) (aC (eV 9) (aC (eV 10) (aC (eV 11) aN))))) [some (.scr ns), some (.ref i), some sz, some (.int (0 + (a : Int))), some (.ref S.length), some (.ref pj), some (.int way), some due, x8, some (.int line), some (.int b), some (.int k)] Y = .ok due Y := fun w hw hdw => by
          rw [hw] at htold
          rw [hdw] at htold ⊢
          exact told_excF h0Y htold (by split at hw <;> omega)
        rw [ap_sAs, htold' _ rfl e1, e3]
        rfl) ?_
    have hpZ : Z[pj]? = some (.lst (ps.map Pc.d)) := by
      rcases hgd with ⟨e1, e2, e3, e4⟩ | ⟨e1, e2, e3⟩
      · rw [e4]; exact gx_ne hpY (by omega) _
      · rw [e3]; exact hpY
    have hexZ : ∃ c T, Z = S.set i c ++ T ∧ IsDice c := by
      rcases hgd with ⟨e1, e2, e3, e4⟩ | ⟨e1, e2, e3⟩
      · exact ⟨d4, _, by rw [e4, hsetY _ _ (by omega)], g4⟩
      · exact ⟨d4, T, by rw [e3, hY], g4⟩
    have hdd : oEqN true due due Z = .ok (.bl false) Z := by
      rcases hgd with ⟨e1, _⟩ | ⟨e1, _⟩
      · rw [e1, oEqN_int]; simp
      · rw [e1]; exact oEqN_eq true (good_word _) (good_word _) rfl
    refine wp_seq (Q := Q) (en1 := [some (.scr ns), some (.ref i), some sz, some (.int (0 + (a : Int))), some (.ref S.length), some (.ref pj), some (.int way), some due, some due, some (.int line), some (.int b), some (.int k)]) (S1 := Z) (by
      rcases hgd with ⟨e1, _⟩ | ⟨e1, _⟩
      · simp [hdd]; simp [e1, isTy]
      · simp [hdd]; simp [e1, isTy, wordD]) ?_
    obtain ⟨W, hW, hKW⟩ : ∃ W, (sIf (tNo (tV (eIsT .tuple (eV 8)))) (sEx (eMt "list" fApp (eV 5) (aC (eIf (tV (eOp oGt (eV 6) (eK (.int 0)))) (eTup (aC (eK (.str "truck")) (aC (eV 10) (aC (eV 11) aN)))) (eTup (aC (eK (.str "cloth")) (aC (eV 9) (aC (eV 10) (aC (eV 11) aN)))))) aN))) sNx) [some (.scr ns), some (.ref i), some sz, some (.int (0 + (a : Int))), some (.ref S.length), some (.ref pj), some (.int way), some due, some due, some (.int line), some (.int b), some (.int k)] Z = .nx [some (.scr ns), some (.ref i), some sz, some (.int (0 + (a : Int))), some (.ref S.length), some (.ref pj), some (.int way), some due, some due, some (.int line), some (.int b), some (.int k)] W ∧ K10 cs S i S.length (S.length + 1) pj l r2 hh ps' W := by
      rcases hgd with ⟨e1, e2, e3, e4⟩ | ⟨e1, e2, e3⟩
      · refine ⟨Z.set pj (.lst (ps'.map Pc.d)), ?_, ?_, ?_, gx_set hpZ _⟩
        · have hlt : ps.length < 100000 := by omega
          by_cases hw : way > 0
          · simp [e1, isTy, hw, tyOk, hpZ, fApp, hlt, e2, Pc.d]
          · simp [e1, isTy, hw, tyOk, hpZ, fApp, hlt, e2, Pc.d]
        · obtain ⟨c, T, e, kc⟩ := hexZ
          refine ⟨c, T.set (pj - S.length) (.lst (ps'.map Pc.d)), ?_, kc⟩
          rw [e, List.set_append_right _ _ (by rw [hl]; omega), hl]
        · exact ⟨gx_ne hKZ.own (by omega) _, gx_ne hKZ.stk (by omega) _⟩
      · refine ⟨Z, ?_, hexZ, hKZ, by rw [e2]; exact hpZ⟩
        simp [e1, isTy, wordD]
    refine wp_seq (Q := Q) hW ?_
    have hKh := hKW.hat
    have hKp := hKW.p
    have h9 : oEqN true (.lst (ps'.map Pc.d)) (.ref pj) W = .ok (.bl false) W := by
      rw [oEqN_refR true hKp]
      exact oEqN_eq true (good_Pcs _) (good_Pcs _) rfl
    have hfin : (sIf (tOrr (tV (eOp (oEqN true) (eMeth cs.House "pieces" 1 (f_House_pieces cs) [] (eV 4) aN) (eV 5))) (tV (eOp (oEqN true) (eMeth cs.House "numbers" 1 (f_House_numbers cs) [] (eV 4) aN) (eV 2)))) (sRt (eK (.bl false))) sNx) [some (.scr ns), some (.ref i), some sz, some (.int (0 + (a : Int))), some (.ref S.length), some (.ref pj), some (.int way), some due, some due, some (.int line), some (.int b), some (.int k)] W = .nx [some (.scr ns), some (.ref i), some sz, some (.int (0 + (a : Int))), some (.ref S.length), some (.ref pj), some (.int way), some due, some due, some (.int line), some (.int b), some (.int k)] W := by
      simp [ins_numbers hKh, ins_pieces cs hKh, numsz hKh, esz, pieces_run cs hKh, h9]
    rw [hfin]
    exact hQ _ _ _ _ _ _ ps' W hKW hps'
  rintro en' X' ⟨x3, x6, x7, x8, x9, x10, x11, ps, rfl, hK, hps⟩
  obtain ⟨⟨c, T, rfl, kc⟩, _⟩ := hK
  exact ⟨c, T, _, rfl, kc, rfl⟩
end SF

/-! raise Full(..): an exception with an own __init__ and a field. -/
namespace SF
open PySem PySem.Spec PyProof.Rows L2
/-- C(e), C's own __init__ keeping sp, its context none -/
theorem pmk_fullN {X : Cx} {CX : CXT} {x : Str} {e : Expr} {es : List Expr} {ta : TA} {p pos : Pos} {C fI : Addr} {k : Nat} {fd : FuncData} {ps : List Str} {sp : Sp} (T : OexC X.K C) (iC : PySem.W.findIn X.K (.ref C) "__init__" = some (some (.ref fI))) (tI : PySem.W.typeIn X.K (.ref fI) = some (.type "function")) (G : FnOk X.prog X.w X.K X.mg X.base CX k fI fd ps sp) (hr : Room (k + 1) X.A) (hb : Binds X.K fd ps []) (hx : Passes CX X (fun _ _ _ => False)) (hg : Gl X x) (hm : X.mg x = some (.ref C)) (ha : PA X (e :: es) ta)
    (hdb : (x == ("__debug__" : Str)) = false := by decide) (he : starEach (e :: es) X.env = (false, eval e X.env) :: starEach es X.env := by rfl) (hpl : (backTo pos (starEach es X.env)).any (·.1) = false := by rfl) : L2N.PMk X (.Call (.Name x p) (e :: es) [] pos) (tMkO C sp [] ta) := by
  intro pins s σ H Q I h; obtain ⟨nm, q, N, bs, bm, sn, sub, ab, col, dd, k0, k1, k2, k3, k5, hC, hbm⟩ := T.cls
  refine wpAny_Call_Name_kw (ld_glob I hg hm ?_ hdb); refine PySem.W.callWith_K (h₀ := X.base) I.ok.mod.kin T.kC (thn (ha.run pos pins s σ H _ I h) fun us s1 ⟨vs, H1, I1, r1, hz, q1⟩ => ⟨I1.kIn, ?_⟩) he hpl
  show wpAny _ _ (call (.ref C) us) _ _ _; obtain ⟨hp, g, dr, tk, os⟩ := s1; have z1 : hp.objs.size ≤ hp.objs.size + 1 := Nat.le_succ _; have hn : H1 (hp.objs.size + 1) = none := I1.hok.fresh z1
  have hq := q1 (hp.objs.size + 1) hn; rw [List.append_nil] at hq
  have kk : ∀ b o, hp.get? b = some o → ((hp.push (PySem.W.kdv_tup us)).push (PySem.HandSPX.excO C hp.objs.size)).get? b = some o := by intro b o e; exact Heap.get?_push_of_some _ (Heap.get?_push_of_some _ e)
  have hget : ((hp.push (PySem.W.kdv_tup us)).push (PySem.HandSPX.excO C hp.objs.size)).get? (hp.objs.size + 1) = some (PySem.HandSPX.excO C hp.objs.size) := (by heap_get)
  have J2 : Inv X pins σ (upd H1 (hp.objs.size + 1) (exo (hp.objs.size + 1) C none)) ⟨(hp.push (PySem.W.kdv_tup us)).push (PySem.HandSPX.excO C hp.objs.size), g, dr, tk, os⟩ := (I1.laid (t' := tk) (a := hp.objs.size + 1) (o := exo (hp.objs.size + 1) C none) (h' := (hp.push (PySem.W.kdv_tup us)).push (PySem.HandSPX.excO C hp.objs.size)) kk z1 (exo_ok hget))
  have r2 : Vals (V.ref (hp.objs.size + 1) :: vs) (Value.ref (hp.objs.size + 1) :: us) := (Paired.cons rfl r1)
  have hl : (Value.ref (hp.objs.size + 1) :: us ++ []).length = ps.length := by rw [List.append_nil, ← r2.length, G.len _ _ _ _ hq]
  have hus : us.length ≤ sizeLine := by rw [← Paired.length r1, sizeLine_eq]; omega
  have b2 := hb _ (Value.ref (hp.objs.size + 1) :: us) J2.kIn hl; rw [List.append_nil] at b2
  refine wpAny_call (PySem.HandSPX.call_own PySem.F.excBase_ValueError (fun Y => PySem.HandSPX.refsVE_contains Y bm hbm) (I1.kIn _ _ hC) (PySem.W.looks_findIn I1.kIn iC) (fun self => PySem.W.bind_fn I1.kIn self tI) hus (codeAny_mono (G.run _ X.stack _ _ ⟨Value.ref (hp.objs.size + 1) :: us, []⟩ (Value.ref (hp.objs.size + 1) :: us) _ _ (fun _ _ _ => False) (hr.make C us []) (J2.env0.make C us []) b2 r2 hq) fun r s' hq' => ?_))
  match r, hq' with
  | .error er, hq' => exact hx pins σ _ _ er s' J2 hq'
  | .ok .next, hq' => exact False.elim hq'
  | .ok .brk, hq' => exact False.elim hq'
  | .ok .cont, hq' => exact False.elim hq'
  | .ok (.ret u), hq' =>
    obtain ⟨v, H2, os2, bare2, un2, hok2, rv, ev, d, fs, ea, ed, hd1, q2⟩ := hq'; subst ev; obtain ⟨h2, g2, d2, t2, os'⟩ := s'
    obtain ⟨t0, G', J, kG, ge, hoe, na⟩ := mk_end0 (d2 := d2) (t2 := t2) I1 z1 kk un2 hok2 os2 bare2 ea ed hd1
    exact ⟨rv, ⟨hp.objs.size + 1, _, _, ⟨G', g2, d2, t2, os'⟩, _, .ref C, some d, rfl, J, kG, ge, hoe, ⟨rfl, rfl, fun vs hv => by cases hv; rfl⟩, rfl, rfl, na, rfl, bare2, raises_own T.exC T.tyC, q2⟩⟩
/-- what Full.__init__ does -/
def spF (K : PySem.W.Frag) (C : Addr) : Sp := fun vs H Q _ => ∃ (a : Addr) (y : V), vs = [.ref a, y] ∧ OexC K C ∧ PySem.W.findIn K (.ref C) "most" = some none ∧ H a = some (exo a C none) ∧ ∀ dx, H dx = none → dx ≠ a → Q .non (upd (upd H dx (exd dx [("most", y)])) a (exo a C (some dx)))
theorem pe_seinit {X : Cx} {C0 D fI : Addr} {e : Expr} {es : List Expr} {ta : TA} {p1 p2 pos : Pos} {pl : Sem Bool} (hF : FullC X.K C0 D fI) (hg : Gl X "StageError") (hm : X.mg "StageError" = some (.ref D)) (ha : PA X (e :: es) ta)
    (hc : eval (.Call (.Attribute (.Name "StageError" p1) "__init__" p2) (e :: es) [] pos) X.env = (do let ov ← eval (.Name "StageError" p1) X.env; standAt p2.atName; let (f, first) ← holding [ov] (getMethod ov "__init__" pl); callWith pos f first (backTo pos (starEach (e :: es) X.env)) (backToKw pos (keywordEach [] X.env))))
    (he : starEach (e :: es) X.env = (false, eval e X.env) :: starEach es X.env := by rfl) (hpl : (backTo pos (starEach es X.env)).any (·.1) = false := by rfl) : PE X (.Call (.Attribute (.Name "StageError" p1) "__init__" p2) (e :: es) [] pos) (tVeI X.K ta) := by
  refine ⟨fun pins s σ H Q I h => ?_⟩
  refine PySem.W.methodCall_KW (ld_glob I hg hm ?_ (by decide)) hc
  obtain ⟨m, fr⟩ := I.fr
  refine PySem.W.method_of_cls fr I.ok.mod.kin hF.ga (PySem.W.cls_val fr I.ok.mod.kin hF.ty hF.rd hF.fc (by decide +kernel) ?_)
  show wpAny _ _ (callWith pos (Value.builtin "ValueError.__init__") [] (backTo pos (starEach (e :: es) X.env)) []) _ _ _
  refine PyProof.Rows.callWith_method1 (thn (ha.run pos pins _ σ H _ (I.tok _) h) fun us s1 ⟨vs, H1, I1, r1, a, C, ws, ev, hl, T, ea, q⟩ => ?_) he hpl
  subst ev
  cases r1 with
  | @cons _ u0 _ ur ra rw' =>
    obtain rfl : u0 = Value.ref a := ra
    have hlen : ur.length ≤ sizeLine := by rw [← Paired.length rw', sizeLine_eq]; omega
    exact oinit_ok T I1 ea hlen fun s' J => ⟨.non, H1, J, rfl, q⟩
theorem fn_full {P : Program} {w : World} {K : PySem.W.Frag} {mg : Str → Option Value} {base : Heap} {C D fI : Addr} {fd : FuncData} {params : Arguments} {scope : Scope} {p1 p2 p3 p4 p5 p6 p7 p8 p9 p10 : Pos} {j : Nat}
    (F : FunD K "__init__" "Full.__init__" params [.Expr (.Call (.Attribute (.Name "StageError" p1) "__init__" p2) [.Name "self" p3, .Constant (.str "too many") j p4] [] p5) p6, .Assign [.Attribute (.Name "self" p7) "most" p8] (.Name "most" p9) p10] scope [] [] fI fd) (Sc : FnScope ["self", "most"] ["self", "most"] scope)
    (hF : FullC K C D fI) (hm : mg "StageError" = some (.ref D)) (hs1 : scope.names.lookup ("self" : Str) = some .local) (hs2 : scope.names.lookup ("most" : Str) = some .local) (hs3 : scope.names.lookup ("StageError" : Str) = some .globalImplicit)
    (hc : ∀ env : Env, ∃ pl : Sem Bool, eval (.Call (.Attribute (.Name "StageError" p1) "__init__" p2) [.Name "self" p3, .Constant (.str "too many") j p4] [] p5) env = (do let ov ← eval (.Name "StageError" p1) env; standAt p2.atName; let (f, first) ← holding [ov] (getMethod ov "__init__" pl); callWith p5 f first (backTo p5 (starEach [.Name "self" p3, .Constant (.str "too many") j p4] env)) (backToKw p5 (keywordEach [] env))))
    (hsw : ∀ env : Env, swapsWith (.Name "most" p9) (some (.Attribute (.Name "self" p7) "most" p8)) p10.line env = pure false) :
    FnOk P w K mg base (L2N.CX P w) 1 fI fd ["self", "most"] (spF K C) := by
  obtain ⟨oc, od, dV, kV, doc, pm, an, cdv, ct, osl, rfl, lk, hcd, _, _⟩ := F.ex
  refine fn_of lk hcd Sc (fun vs H Q E h => ?_) fun A outer s H vs Q E hr h => ?_
  · obtain ⟨a, y, rfl, _⟩ := h; rfl
  obtain ⟨a, y, rfl, T, hno, ha, hq⟩ := h
  obtain ⟨pl, hc⟩ := hc (envOfC "Full.__init__" scope s.heap.objs.size fI cdv)
  have d1 := ps_expr (pos := p6) (pe_seinit (X := cxOf (L2N.CX P w) P w K mg base ["self", "most"] "Full.__init__" scope fI cdv A outer s H E) hF hs3 hm (pa_cons (pe_var (pos := p3) (i := 0) rfl (.inl hs1)) (pa_cons pe_str pa_nil)) hc)
  have d2 := ps_ost (X := cxOf (L2N.CX P w) P w K mg base ["self", "most"] "Full.__init__" scope fI cdv A outer s H E) (f := "most") (p' := p8) (pos := p10) (pe_var (pos := p7) (i := 0) rfl (.inl hs1)) (pe_var (pos := p9) (i := 1) rfl (.inl hs2)) (hsw _)
  refine ⟨_, pss_cons d1 (pss_one d2), ?_⟩
  refine ⟨.ref a, rfl, a, C, [.str "too many"], rfl, by decide, T, ha, ?_⟩
  refine ⟨y, rfl, .ref a, rfl, a, C, rfl, T, hno, .inl ⟨ha, fun dx h1 h2 => hq dx h1 h2⟩⟩
/-- Full, as a def that raises it must know it -/
structure HasFull (P : Program) (w : World) (K : PySem.W.Frag) (mg : Str → Option Value) (base : Heap) (k : Nat) (C : Addr) : Prop where
  hk : 2 ≤ k
  g : mg "Full" = some (.ref C)
  fn : ∃ (D fI : Addr) (fd : FuncData), FullC K C D fI ∧ FnOk P w K mg base (L2N.CX P w) 1 fI fd ["self", "most"] (spF K C) ∧ Binds K fd ["self", "most"] []
theorem pms_raiseF {X : Cx} {E : XK} {k : Nat} {C : Addr} {w : Nat} {fu : Bool} {e : Expr} {m : Exp} {p pos pos' : Pos} (c : Ctx X E k) (f : fu = true → HasFull X.prog X.w X.K X.mg X.base k C) (hg : Gl X "Full") (he : PM X E e m) (hs : starEach [e] X.env = (false, eval e X.env) :: starEach [] X.env := by rfl) : PMS X E (.Raise (some (.Call (.Name "Full" p) [e] [] pos)) none pos') (sRaiseF fu C w m) := by
  cases fu with
  | false => exact ⟨fun pins s σ H Dd I t => by obtain ⟨ρ, S, en, rr, re, pp⟩ := t; exact pp.elim⟩
  | true =>
  replace f := f rfl
  obtain ⟨D, fI, fd, hF, G, hb⟩ := f.fn
  have hx : Passes (L2N.CX X.prog X.w) X (fun _ _ _ => False) := L2N.passes_call c.takes fun _ _ _ _ h => h.elim
  refine ⟨fun pins s σ H Dd I t => (L2N.ps_raise c.calm c.takes (pmk_fullN (p := p) (pos := pos) hF.T hF.ini hF.tI G (c.room.mono f.hk) hb hx hg f.g (pa_cons he pa_nil hs) (by decide) hs)).run pins s σ H Dd I ?_⟩
  obtain ⟨ρ, S, en, rr, re, pp⟩ := t
  have key : PostG RelD (m en S) ρ S H (fun v H1 => ∀ a, H1 a = none → ∀ dx, (upd H1 a (exo a C none)) dx = none → dx ≠ a → E (.ref C) (some dx) (upd H1 dx (.xd [("most", v)]))) E := by
    unfold sRaiseF at pp
    rw [if_pos rfl] at pp
    cases hm : m en S with
    | stuck => rw [hm] at pp; exact pp
    | exc x S1 => rw [hm] at pp; exact pp
    | ok d S1 =>
      rw [hm] at pp
      intro v H1 ρ1 e1 r1 q1 a ha dx hd hne
      have hd : H1 dx = none := by rw [upd_ne hne] at hd; exact hd
      have ex := Ext.laid (o := .xd [("most", v)]) r1 hd
      refine pp (some dx) _ ρ1 (e1.trans ex) (r1.laid hd) (.inr ⟨(fun z => nomatch z), dx, [("most", v)], rfl, upd_same, rfl, fun i d' v' h1 h2 => ?_⟩)
      cases i with
      | zero => cases h1; cases h2; exact q1.mono ex
      | succ i => simp at h1
  refine ⟨ρ, S, en, rr, re, PostG.mono key fun v H1 q => ?_⟩
  refine ⟨Nat.le_trans (Nat.le_refl 1) (by decide), fun a ha => ⟨a, v, rfl, hF.T, hF.no, upd_same, fun dx h1 h2 => ⟨rfl, dx, [("most", v)], upd_same, ?_, ?_, ?_⟩⟩⟩
  · rw [upd_ne h2, upd_same]
  · rw [upd_ne h2] at h1; exact h1
  · have e : upd (del (upd (upd (upd H1 a (exo a C none)) dx (exd dx [("most", v)])) a (exo a C (some dx))) a) dx (.xd [("most", v)]) = upd H1 dx (.xd [("most", v)]) := by
      funext b
      by_cases hb : b = dx
      · rw [hb, upd_same, upd_same]
      · rw [upd_ne hb, upd_ne hb]
        by_cases hba : b = a
        · rw [hba, del_same, ha]
        · rw [del_ne hba, upd_ne hba, upd_ne hb, upd_ne hba]
    rw [e]
    exact q a ha dx h1 h2
end SF

/-! sorted(d.items()), keys and values ints. -/
namespace SF
open PySem PySem.Spec PyProof.Rows L2 L2.DX
section
variable {X : Cx} {pins : List (Addr × Obj)} {σ : L2.St} {H : Hp} {s : Shared}
theorem nodup_ixA {α : Type} {N : List α} (hN : N.Nodup) {i j : Nat} {x : α} (a : N[i]? = some x) (b : N[j]? = some x) : i = j := by
  obtain ⟨hi, ei⟩ := List.getElem?_eq_some_iff.mp a
  obtain ⟨hj, ej⟩ := List.getElem?_eq_some_iff.mp b
  exact (List.getElem_inj hN).mp (ei.trans ej.symm)
/-- the same context, one unit deeper -/
abbrev inn (X : Cx) : Cx := { X with A := X.A.in1 }
theorem to_inn (I : Inv X pins σ H s) : Inv (inn X) pins σ H s :=
  ⟨⟨I.ok.mod, I.ok.kind, I.ok.glob, I.ok.blt, I.ok.above, I.ok.inj, I.ok.has, I.ok.cab, I.ok.hd, I.ok.frames, I.ok.stk, I.ok.exf, I.ok.bs, I.ok.bsz, I.ok.noex, I.ok.exfs, I.ok.funs, I.ok.frf⟩, I.os, I.bare, I.base, I.loc, I.cell, I.free, I.freeC, I.pin, I.hok, I.len⟩
theorem of_inn (ok : X.Ok) (I : Inv (inn X) pins σ H s) : Inv X pins σ H s := ⟨ok, I.os, I.bare, I.base, I.loc, I.cell, I.free, I.freeC, I.pin, I.hok, I.len⟩
/-- d.items() -/
def rItemsK : V → List V → Hp → VK → Prop := fun x xs H Q => ∃ (a : Addr) (kvs : List (Key × V)), x = .ref a ∧ xs = [] ∧ Rd H a (.dK kvs) ∧ ∀ p, H p = none → Q (.ref p) (upd H p (itemsO p a))
theorem mt_itemsK : MtR X "dict.items" rItemsK := by
  intro pins s σ H x xs v us Q I rx rxs h
  obtain ⟨a, kvs, rfl, rfl, ha, q⟩ := h
  cases rx
  cases rxs
  obtain ⟨z, hd, vs, rel, o, es, ep, ho, hx, hdat, _⟩ := ha.ok I.hok
  refine DT.callItems (es := es) (ep := ep) hd ⟨o, ho, hx, hdat⟩ ?_
  exact ⟨.ref s.heap.objs.size, upd H s.heap.objs.size (itemsO s.heap.objs.size a), I.laid (t' := s.toks) (fun b u e => Heap.get?_push_of_some _ e) (Nat.le_refl _) (itemsO_ok (Heap.get?_push_size _ rfl)), rfl, q _ (I.hok.fresh (Nat.le_refl _))⟩
abbrev kvI (q : Int × Int) : Key × V := (Sum.inl q.1, V.int q.2)
def rSortItI : List V → Hp → VK → Prop := fun xs H Q => ∃ (p a : Addr) (ps : List (Int × Int)), xs = [.ref p] ∧ H p = some (itemsO p a) ∧ Rd H a (.dK (ps.map kvI)) ∧
  ∀ (H' : Hp) (l : Addr) (zs : List V), (∀ b o, H b = some o → H' b = some o) → H l = none → H' l = some (.lst zs) → (∀ y ∈ zs, ∃ t, y = V.ref t ∧ H t = none ∧ t ≠ l ∧ H' t = some (.tup [.int (kOf H' y).1, .int (kOf H' y).2])) → zs.map (kOf H') = isrt leP ps → Q (.ref l) H'
theorem kvI_get {ps : List (Int × Int)} {vs : List (Key × Value)} {es : List DictEntry} (rel : KV (ps.map kvI) vs) (hp : Pairs (mixKind X.prog X.w) es vs) {j : Nat} {e : DictEntry} (he : es[j]? = some e) : ∃ q, ps[j]? = some q ∧ (∃ t, e.key = .int q.1 t) ∧ ∃ t, e.val = .int q.2 t := by
  induction hp generalizing ps j with
  | nil => simp at he
  | @cons e0 kv es kvs h1 h2 _ ih =>
    match ps, rel with
    | q :: ps, .cons r rel =>
      cases j with
      | zero =>
        simp at he
        subst he
        obtain ⟨r1, r2⟩ := r
        have rk : RelV (kV (Sum.inl q.1)) e0.key := by
          have := relV_key (show keyIs kv.1 e0.key = true from h1)
          rw [← r1] at this
          exact this
        obtain ⟨t, ht⟩ := rk
        rw [← h2] at r2
        obtain ⟨t2, ht2⟩ := r2
        exact ⟨q, rfl, ⟨t, ht⟩, t2, ht2⟩
      | succ j =>
        simp at he
        obtain ⟨q', h3, h4⟩ := ih rel he
        exact ⟨q', by simpa using h3, h4⟩
theorem cr_sortedItI (hc : X.calm = true) : CallR X (.builtin "sorted") rSortItI := by
  intro pins s σ H xs us Q I r h
  obtain ⟨p, a, ps, rfl, hp, ha, q⟩ := h
  obtain rfl := Vals.ref1 r
  have view : s.heap.IsItemsView p a := (show ObjOk X.prog X.w H s.heap p (itemsO p a) from I.hok p _ hp).1
  obtain ⟨z, hd, vs, rel, o, es, ep, ho, hx, hdat, hk, hpr, hn⟩ := ha.ok I.hok
  have l1 : ps.length = vs.length := by have := Paired.length rel; simpa using this
  have l2 : es.size = vs.length := by
    have : ∀ {a : List DictEntry} {b : List (Key × Value)}, Pairs (mixKind X.prog X.w) a b → a.length = b.length := fun h => by
      induction h with
      | nil => rfl
      | cons _ _ _ ih => simp [ih]
    have := this hpr
    simpa using this
  refine DT.sortedI (es := es) (ep := ep) (I.ok.hd hc) view ⟨o, ho, hx, hdat⟩ (by rw [List.length_map] at z; omega) fun h' tk as hkp hlt hl hG => ?_
  have nd : as.Nodup := List.Pairwise.imp (fun h => Nat.ne_of_lt h) hG.rise
  obtain ⟨L, hL⟩ : ∃ L, L = h'.objs.size := ⟨_, rfl⟩
  obtain ⟨h2, hh2⟩ : ∃ h2, h2 = h'.push { cls := .type "list", data := .seq (as.map Value.ref).toArray } := ⟨_, rfl⟩
  have kb : ∀ b o, s.heap.get? b = some o → h2.get? b = some o := fun b o e => by rw [hh2]; exact Heap.get?_push_of_some _ (hkp b o e)
  have hnone : ∀ t ∈ as, H t = none := fun t ht => I.hok.fresh (Nat.le_of_lt (hG.above t ht))
  have hLnone : H L = none := I.hok.fresh (by omega)
  have asL : ∀ t ∈ as, t ≠ L := fun t ht e => by have := hG.there ht; rw [e, hL] at this; exact Nat.lt_irrefl _ this
  have gL : h2.get? L = some (seqObj "list" (as.map Value.ref).toArray 0) := by rw [hh2, hL]; exact Heap.get?_push_size _ rfl
  have hz9 : (as.map V.ref).length ≤ sizeLine := by rw [List.length_map] at z ⊢; omega
  have I1 : Inv X pins σ (upd H L (.lst (as.map V.ref))) { s with heap := h2, toks := tk } :=
    I.laid (t' := tk) kb (by omega) (show ObjOk X.prog X.w _ h2 L (.lst (as.map V.ref)) from ⟨hz9, as.map Value.ref, 0, LiI.vals_refs as, gL⟩)
  obtain ⟨H2, I2, g2, q2⟩ := L2.DX.takeT (P := fun t us => ∃ (j : Nat) (q : Int × Int), as[j]? = some t ∧ ps[j]? = some q ∧ us = [V.int q.1, V.int q.2]) I as (upd H L (.lst (as.map V.ref))) I1 nd (fun t ht => by
    obtain ⟨j, hj⟩ := List.getElem?_of_mem ht
    obtain ⟨e, he, hg⟩ := hG.pairs j t hj
    obtain ⟨q, hq, ⟨t1, k1⟩, t2, k2⟩ := kvI_get (X := X) rel hpr (by rw [← Array.getElem?_toList] at he; exact he)
    refine ⟨Nat.le_of_lt (hG.above t ht), by rw [upd_ne (asL t ht)]; exact hnone t ht, [V.int q.1, V.int q.2], ⟨j, q, hj, hq, rfl⟩, fun H2 => ?_⟩
    refine ⟨by show 2 ≤ sizeLine; decide, [e.key, e.val], .cons ⟨t1, k1⟩ (.cons ⟨t2, k2⟩ .nil), ⟨_, by rw [hh2]; exact Heap.get?_push_of_some _ hg, rfl, _, rfl⟩⟩)
  have atL : H2 L = some (.lst (as.map V.ref)) := g2 _ _ upd_same
  have tup : ∀ (j : Nat) t, as[j]? = some t → ∃ q, ps[j]? = some q ∧ H2 t = some (.tup [.int q.1, .int q.2]) := fun j t hj => by
    obtain ⟨us, ⟨j', q, h1, h2', rfl⟩, h3⟩ := q2 t (List.mem_of_getElem? hj)
    have : j' = j := nodup_ixA nd h1 hj
    subst this
    exact ⟨q, h2', h3⟩
  have keys : (as.map V.ref).map (kOf H2) = ps := by
    refine List.ext_getElem? fun j => ?_
    rw [List.getElem?_map, List.getElem?_map]
    cases hj : as[j]? with
    | none =>
      have := List.getElem?_eq_none_iff.mp hj
      rw [List.getElem?_eq_none (by omega)]
      rfl
    | some t =>
      obtain ⟨q, h1, h2'⟩ := tup j t hj
      rw [h1]
      simp [kOf, h2']
  rw [← hL, ← hh2]
  refine wpAny_mono (mt_sortPO (X := inn X) pins { s with heap := h2, toks := tk } σ H2 (.ref L) [] (.ref L) [] (fun v H' => v = .non ∧ ∃ zs, SrtO.Srtd (ltP (kOf H2)) zs ∧ SrtO.Stb (ltP (kOf H2)) zs (as.map V.ref) ∧ H' = upd H2 L (.lst zs)) (to_inn I2) rfl .nil
    ⟨L, as.map V.ref, kOf H2, rfl, rfl, atL, fun y hy => ?_, fun zs h1 h2' => ⟨rfl, zs, h1, h2', rfl⟩⟩) (fun _ s' hs => ?_) fun _ _ e => e
  · obtain ⟨t, ht, rfl⟩ := List.mem_map.mp hy
    obtain ⟨j, hj⟩ := List.getElem?_of_mem ht
    obtain ⟨q, _, h3⟩ := tup j t hj
    exact ⟨t, rfl, by simp [kOf, h3]⟩
  · obtain ⟨_, H', J, _, _, zs, s1, s2, rfl⟩ := hs
    have nL : ∀ t ∈ as, upd H2 L (.lst zs) t = H2 t := fun t ht => upd_ne (asL t ht)
    have mz : ∀ y ∈ zs, ∃ t, t ∈ as ∧ y = V.ref t := fun y hy => by
      obtain ⟨t, ht, e⟩ := List.mem_map.mp (s2.perm.mem_iff.mp hy)
      exact ⟨t, ht, e.symm⟩
    have kz : ∀ y ∈ zs, kOf (upd H2 L (.lst zs)) y = kOf H2 y := fun y hy => by
      obtain ⟨t, ht, rfl⟩ := mz y hy
      simp only [kOf, nL t ht]
    refine ⟨.ref L, _, of_inn I.ok J, rfl, q _ L zs (fun b u e => ?_) hLnone upd_same (fun y hy => ?_) ?_⟩
    · have nb : b ≠ L := ne_of_none e hLnone
      rw [upd_ne nb]
      exact g2 b u (by rw [upd_ne nb]; exact e)
    · obtain ⟨t, ht, rfl⟩ := mz y hy
      obtain ⟨j, hj⟩ := List.getElem?_of_mem ht
      obtain ⟨q, _, h3⟩ := tup j t hj
      refine ⟨t, rfl, hnone t ht, asL t ht, ?_⟩
      rw [kz _ hy, nL t ht, h3]
      simp [kOf, h3]
    · have e1 : zs.map (kOf (upd H2 L (.lst zs))) = zs.map (kOf H2) := List.map_congr_left fun y hy => kz y hy
      rw [e1]
      refine isrt_eq tot_leP ?_ ?_
      · rw [← keys]
        exact s2.perm.map _
      · rw [List.pairwise_map]
        exact s1.imp fun {x y} h => by
          have h : SrtO.lexB (kOf H2 y) (kOf H2 x) = false := h
          simp [leP, h]
end
end SF

namespace SF
open PySem PySem.Spec PyProof.Rows L2 L2.DX
section
variable {K : PySem.W.Frag} {ρ : Rho K} {S : Sto} {H H' : Hp} {E : XK}
/-- more is known -/
theorem Ext.more (r : Rel ρ H S) (k : ∀ b o, H b = some o → H' b = some o) : Ext ρ S H ρ S H' :=
  ⟨⟨fun _ _ e => e, fun a u e n _ => ⟨k a u e, n⟩⟩, rfl, fun a ha => by obtain ⟨u, q, _⟩ := r.prt a ha; rw [k a u q, q]⟩
theorem Rel.more (r : Rel ρ H S) (k : ∀ b o, H b = some o → H' b = some o) : Rel ρ H' S :=
  ⟨r.len, r.inj, fun i a c e1 e2 => (r.cell i a c e1 e2).mono (Ext.more r k) (fun u e => k a u e), fun i a e => let ⟨u, q⟩ := r.there i a e; ⟨u, k a u q⟩, r.apart, fun a e => let ⟨u, q, t⟩ := r.prt a e; ⟨u, k a u q, t⟩⟩
def pairsKI : List (Key × D) → Option (List (Int × Int))
  | [] => some []
  | (.inl i, .int j) :: r => (pairsKI r).map ((i, j) :: ·)
  | _ => none
theorem pairsKI_rel : ∀ {kvs : List (Key × D)} {ps : List (Int × Int)} {kws : List (Key × V)}, pairsKI kvs = some ps → RelK ρ S H kvs kws → kws = ps.map kvI := by
  intro kvs
  induction kvs with
  | nil =>
    intro ps kws e h
    simp only [pairsKI, Option.some.injEq] at e
    subst e
    have := congrArg List.length h.1
    cases kws with
    | nil => rfl
    | cons _ _ => simp at this
  | cons kv r ih =>
    intro ps kws e h
    unfold pairsKI at e
    split at e
    · rename_i hh; cases hh
    · rename_i i j r' hh
      cases hh
      cases hr : pairsKI r with
      | none => rw [hr] at e; cases e
      | some l =>
        rw [hr] at e
        simp at e
        subst e
        cases kws with
        | nil => have := congrArg List.length h.1; simp at this
        | cons kw ws =>
          have h1 := h.1
          simp at h1
          have h2 := h.2 0 (.int j) kw.2 (by simp) (by simp)
          have h3 := ih hr (kws := ws) ⟨by simpa using h1.2, fun n d v x y => h.2 (n + 1) d v (by simpa using x) (by simpa using y)⟩
          rw [h3, List.map_cons]
          congr 1
          obtain ⟨k, v⟩ := kw
          cases h2
          simp at h1
          rw [← h1.1]
    · cases e
/-- sorted(d.items()) -/
def eSortIt (m : Exp) : Exp := fun en S => (m en S).bind fun d S1 => match getD S1 d with
  | some kvs => match pairsKI kvs with
    | some ps => .ok (.lst ((isrt leP ps).map pairD)) S1
    | none => .stuck
  | none => .stuck
@[simp] theorem ap_eSortIt (m : Exp) (en : En) (S : Sto) : eSortIt m en S = (m en S).bind fun d S1 => match getD S1 d with
  | some kvs => match pairsKI kvs with
    | some ps => .ok (.lst ((isrt leP ps).map pairD)) S1
    | none => .stuck
  | none => .stuck := rfl
end
section
variable {X : Cx} {E : XK}
theorem pe_itemsK {e : Expr} {te : TE} {apos cpos : Pos} (he : PE X e te) (hbase : attributeBase e "items" X.env (eval e X.env) = eval e X.env := by rfl) (hline : (apos.endLine == cpos.line) = true := by rfl) :
    PE X (.Call (.Attribute e "items" apos) [] [] cpos) (fun σ H Q => te σ H fun x H1 => rItemsK x [] H1 Q) := by
  refine ⟨fun pins s σ H Q I h => ?_⟩
  refine wpAny_Call_method0_late hbase hline (thn (he.run pins s σ H _ I h) fun v s1 ⟨x, H1, I1, r1, q1⟩ => ?_)
  obtain ⟨a, kvs, ex, en, hR, q⟩ := id q1
  subst ex
  obtain rfl : v = Value.ref a := r1
  obtain ⟨hz, hs0, vs, kv, hdo⟩ := hR.ok I1.hok
  exact ⟨"dict", "dict.items", F.plainAttrs_dict, F.slot_dict_items, F.type_dict_items, hdo.typeIs, hdo.mapOf.noDict, Calls.callWith_builtin rfl (PySem.evalArgs_none (mt_itemsK pins s1 σ H1 (.ref a) [] (.ref a) [] Q I1 rfl .nil q1))⟩
theorem pm_sortIt {k : Nat} {e : Expr} {me : Exp} {p apos cpos pos : Pos} (c : Ctx X E k) (hg : Gl X "sorted") (hm : X.mg "sorted" = none) (he : PM X E e me) (hbase : attributeBase e "items" X.env (eval e X.env) = eval e X.env := by rfl) (hline : (apos.endLine == cpos.line) = true := by rfl)
    (hs : starEach [.Call (.Attribute e "items" apos) [] [] cpos] X.env = (false, eval (.Call (.Attribute e "items" apos) [] [] cpos) X.env) :: starEach [] X.env := by rfl) (hpl : (backTo pos (starEach [] X.env)).any (·.1) = false := by rfl) :
    PM X E (.Call (.Name "sorted" p) [.Call (.Attribute e "items" apos) [] [] cpos] [] pos) (eSortIt me) := by
  refine ⟨fun pins s σ H Q I t => (pe_callB (cr_sortedItI c.calm) hg hm (by rfl) (pa_cons (pe_itemsK he hbase hline) pa_nil hs) (he := hs) (hpl := hpl)).run pins s σ H Q I ?_⟩
  obtain ⟨ρ, S, en, rr, re, p⟩ := t
  refine ⟨ρ, S, en, rr, re, PostG.mono (PostG.bind (RR := RelD) p) ?_⟩
  rintro x H1 ⟨d, ρ1, S1, _, e1, r1, q1, p1⟩
  split at p1
  · rename_i kvs hgd
    split at p1
    · rename_i ps hps
      · obtain ⟨a, ws, rfl, hR, rk⟩ := getD_at r1 q1 hgd
        have ew := pairsKI_rel hps rk
        subst ew
        refine ⟨a, ps.map kvI, rfl, rfl, hR, fun pv hpv => ?_⟩
        have ka : ∀ b o, H1 b = some o → upd H1 pv (itemsO pv a) b = some o := fun b o e => by rw [upd_ne (ne_of_none e hpv)]; exact e
        refine ⟨pv, a, ps, rfl, upd_same, hR.imp (ka a _) (fun ⟨o, z⟩ => ⟨o, ka a _ z⟩), fun H' l zs k1 k2 k3 k4 k5 => ?_⟩
        have kk : ∀ b o, H1 b = some o → H' b = some o := fun b o e => k1 b o (ka b o e)
        have hlp : ∀ b, upd H1 pv (itemsO pv a) b = none → H1 b = none := fun b e => by
          by_cases z : b = pv
          · rw [z]; exact hpv
          · rw [upd_ne z] at e; exact e
        refine p1 (.ref l) H' ρ1 (Ext.more r1 kk) (r1.more kk) (.lst k3 (r1.fresh (hlp l k2)) ?_ fun i d v x y => ?_)
        · rw [← k5]; simp
        · rw [← k5, List.getElem?_map, List.getElem?_map, y] at x
          simp at x
          subst x
          obtain ⟨t, rfl, h1, h2, h3⟩ := k4 v (List.mem_of_getElem? y)
          refine .tup h3 (r1.fresh (hlp t h1)) rfl fun i d v x y => ?_
          match i with
          | 0 => simp at x y; subst x; subst y; exact .int _
          | 1 => simp at x y; subst x; subst y; exact .int _
          | n + 2 => simp at x
    · exact p1.elim
  · exact p1.elim
end
end SF

namespace SF
open PySem L2
def top (i : Nat) : Stmt := PySem.Challenge.pw_sceneflies_k10_houses.main.body.getD i (.Pass ⟨0, 0, 0, 0⟩)
section
variable {P : Program} {w : World} {K : PySem.W.Frag} {mg : Str → Option Value} {base : Heap} {cs : Cs}
abbrev st_law_drawn : Stmt := top 22
abbrev N_law_drawn : List Str := ["cell", "k", "more"]
abbrev ps_law_drawn : List Str := ["cell", "k"]
theorem sc_law_drawn : FnScope N_law_drawn ps_law_drawn (defScope st_law_drawn) := ⟨rfl, rfl, rfl, by decide +kernel, rfl, by decide +kernel, by decide +kernel⟩
theorem b_law_drawn {k : Nat}  : ∀ (f : Addr) (cdv : Value) (A : Around) (outer : List Env) (s : Shared) (H : Hp) (E : XK), Ctx (cxOf (L2N.CX P w) P w K mg base N_law_drawn "_law_drawn" (defScope st_law_drawn) f cdv A outer s H E) E k → PMSs (cxOf (L2N.CX P w) P w K mg base N_law_drawn "_law_drawn" (defScope st_law_drawn) f cdv A outer s H E) E (defBody st_law_drawn) (m_law_drawn cs) := fun f cdv A outer s H E c =>
  (pms_cons (pms_set (i := 2) c rfl (by first | exact Or.inl rfl | exact Or.inr rfl) (pm_mod (pm_add (pm_mul (pm_v 0 (pv 0)) pm_int) (pm_mul (pm_add (pm_v 1 (pv 1)) pm_int) pm_int)) pm_int)) (pms_cons (pms_set (i := 2) c rfl (by first | exact Or.inl rfl | exact Or.inr rfl) (pm_mod (pm_mul (pm_v 2 (pv 2)) (pm_v 2 (pv 2))) pm_int)) (pms_cons (pms_set (i := 2) c rfl (by first | exact Or.inl rfl | exact Or.inr rfl) (pm_mul (pm_mul (pm_add (pm_mod (pm_v 2 (pv 2)) pm_int) pm_int) (pm_add (pm_div (pm_v 2 (pv 2)) pm_int) pm_int)) (pm_v 2 (pv 2)))) (pms_one (pms_ret (pm_mod (pm_v 2 (pv 2)) pm_int))))))
abbrev st_law_roll : Stmt := top 23
abbrev N_law_roll : List Str := ["dice", "many", "told"]
abbrev ps_law_roll : List Str := ["dice", "many"]
theorem sc_law_roll : FnScope N_law_roll ps_law_roll (defScope st_law_roll) := ⟨rfl, rfl, rfl, by decide +kernel, rfl, by decide +kernel, by decide +kernel⟩
theorem b_law_roll {k : Nat} (h_f_law_drawn : HasFn P w K mg base k "_law_drawn" 2 (f_law_drawn cs)) : ∀ (f : Addr) (cdv : Value) (A : Around) (outer : List Env) (s : Shared) (H : Hp) (E : XK), Ctx (cxOf (L2N.CX P w) P w K mg base N_law_roll "_law_roll" (defScope st_law_roll) f cdv A outer s H E) E k → PMSs (cxOf (L2N.CX P w) P w K mg base N_law_roll "_law_roll" (defScope st_law_roll) f cdv A outer s H E) E (defBody st_law_roll) (m_law_roll cs) := fun f cdv A outer s H E c =>
  (pms_cons (pms_if (pmt_cmp op_ge m_ge (nomark _) (pm_ix c (pm_v 0 (pv 0)) pm_int) (pm_pow pm_int pm_int)) (pms_cons (pms_set (i := 2) c rfl (by first | exact Or.inl rfl | exact Or.inr rfl) (pm_mod (pm_ix c (pm_v 0 (pv 0)) pm_int) (pm_v 1 (pv 1)))) (pms_cons (pms_setL (ps_asg (pm_div (pm_ix c (pm_v 0 (pv 0)) pm_int) (pm_v 1 (pv 1))) (pg_sub (pm_v 0 (pv 0)) pm_int set_list))) (pms_one (pms_ret (pm_v 2 (pv 2)))))) pms_nil) (pms_cons (pms_setL (ps_asg (pm_add (pm_ix c (pm_v 0 (pv 0)) pm_int) pm_int) (pg_sub (pm_v 0 (pv 0)) pm_int set_list))) (pms_one (pms_ret (pm_mod (pm_div (pm_call c h_f_law_drawn rfl (pma_cons (pm_ix c (pm_v 0 (pv 0)) pm_int) (pma_cons (pm_ix c (pm_v 0 (pv 0)) pm_int) pma_nil))) pm_int) (pm_v 1 (pv 1)))))))
abbrev st_law_cell : Stmt := top 21
abbrev N_law_cell : List Str := ["script", "k"]
abbrev ps_law_cell : List Str := ["script", "k"]
theorem sc_law_cell : FnScope N_law_cell ps_law_cell (defScope st_law_cell) := ⟨rfl, rfl, rfl, by decide +kernel, rfl, by decide +kernel, by decide +kernel⟩
theorem b_law_cell {k : Nat} (h_b_len : mg "len" = none) : ∀ (f : Addr) (cdv : Value) (A : Around) (outer : List Env) (s : Shared) (H : Hp) (E : XK), Ctx (cxOf (L2N.CX P w) P w K mg base N_law_cell "_law_cell" (defScope st_law_cell) f cdv A outer s H E) E k → PMSs (cxOf (L2N.CX P w) P w K mg base N_law_cell "_law_cell" (defScope st_law_cell) f cdv A outer s H E) E (defBody st_law_cell) (m_law_cell cs) := fun f cdv A outer s H E c =>
  (pms_cons (pms_if (pmt_cmp (op_eqD c.hu) m_eq (nomark _) (pm_v 0 (pv 0)) (pm_lst pma_nil)) (pms_one (pms_ret (pm_mul (pm_v 1 (pv 1)) pm_int))) pms_nil) (pms_one (pms_ret (pm_add (pm_ix c (pm_v 0 (pv 0)) (pm_mod (pm_v 1 (pv 1)) (pm_len rfl h_b_len (pm_v 0 (pv 0))))) (pm_mul (pm_div (pm_v 1 (pv 1)) (pm_len rfl h_b_len (pm_v 0 (pv 0)))) pm_int)))))
abbrev st_law_rounds : Stmt := top 24
abbrev N_law_rounds : List Str := ["script", "most", "k"]
abbrev ps_law_rounds : List Str := ["script", "most"]
theorem sc_law_rounds : FnScope N_law_rounds ps_law_rounds (defScope st_law_rounds) := ⟨rfl, rfl, rfl, by decide +kernel, rfl, by decide +kernel, by decide +kernel⟩
theorem b_law_rounds {k : Nat} (h_b_len : mg "len" = none) (h_b_max : mg "max" = none) (h_b_min : mg "min" = none) (h_b_range : mg "range" = none) (h_f_law_cell : HasFn P w K mg base k "_law_cell" 2 (f_law_cell cs)) : ∀ (f : Addr) (cdv : Value) (A : Around) (outer : List Env) (s : Shared) (H : Hp) (E : XK), Ctx (cxOf (L2N.CX P w) P w K mg base N_law_rounds "_law_rounds" (defScope st_law_rounds) f cdv A outer s H E) E k → PMSs (cxOf (L2N.CX P w) P w K mg base N_law_rounds "_law_rounds" (defScope st_law_rounds) f cdv A outer s H E) E (defBody st_law_rounds) (m_law_rounds cs) := fun f cdv A outer s H E c =>
  (pms_one (pms_ret (pm_lc (own := [("k", 2)]) c (pmi_r1 rfl h_b_range (pm_b (call_max2 c.calm) c_max2 rfl h_b_max PyProof.Rows.boot_max (pma_cons pm_int (pma_cons (pm_b (call_min2 c.calm) c_min2 rfl h_b_min PyProof.Rows.boot_min (pma_cons (pm_v 1 (pv 1)) (pma_cons (pm_len rfl h_b_len (pm_v 0 (pv 0))) pma_nil))) pma_nil)))) (blkOk_by (own := [("k", 2)]) (N := N_law_rounds) (sc := defScope st_law_rounds) (by decide +kernel)) (fun s1 H1 C1 cl1 fp1 => (pg_name (i := 2) (c.blk s1 H1 _ _ fp1).nd rfl (by first | exact Or.inl rfl | exact Or.inr rfl))) (gm_name 2) (by simp) (fun s1 H1 C1 cl1 fp1 => pmts_nil) (fun s1 H1 C1 cl1 fp1 => (pm_new (pma_cons (pm_call (c.blk s1 H1 _ _ fp1) h_f_law_cell rfl (pma_cons (pm_v 0 (pv 0)) (pma_cons (pm_v 2 (pv 2)) pma_nil))) (pma_cons pm_int pma_nil)))))))
abbrev st_is_number : Stmt := top 17
abbrev N_is_number : List Str := ["thing", "least", "most"]
abbrev ps_is_number : List Str := ["thing", "least", "most"]
theorem sc_is_number : FnScope N_is_number ps_is_number (defScope st_is_number) := ⟨rfl, rfl, rfl, by decide +kernel, rfl, by decide +kernel, by decide +kernel⟩
theorem b_is_number {k : Nat} (h_b_bool : mg "bool" = none) (h_b_int : mg "int" = none) (h_b_isinstance : mg "isinstance" = none) : ∀ (f : Addr) (cdv : Value) (A : Around) (outer : List Env) (s : Shared) (H : Hp) (E : XK), Ctx (cxOf (L2N.CX P w) P w K mg base N_is_number "is_number" (defScope st_is_number) f cdv A outer s H E) E k → PMSs (cxOf (L2N.CX P w) P w K mg base N_is_number "is_number" (defScope st_is_number) f cdv A outer s H E) E (defBody st_is_number) (m_is_number cs) := fun f cdv A outer s H E c =>
  (pms_one (pms_ret (pm_and (pm_isT .int rfl h_b_isinstance rfl h_b_int PyProof.Rows.boot_int (pm_v 0 (pv 0))) (pm_and (pm_not (pm_isT .bool rfl h_b_isinstance rfl h_b_bool PyProof.Rows.boot_bool (pm_v 0 (pv 0)))) (pm_one (pm_chain op_le m_le op_le m_le (by rfl) (pm_v 1 (pv 1)) (pm_v 0 (pv 0)) (pm_v 2 (pv 2))))))))
abbrev st_need_number : Stmt := top 18
abbrev N_need_number : List Str := ["thing", "least", "most"]
abbrev ps_need_number : List Str := ["thing", "least", "most"]
theorem sc_need_number : FnScope N_need_number ps_need_number (defScope st_need_number) := ⟨rfl, rfl, rfl, by decide +kernel, rfl, by decide +kernel, by decide +kernel⟩
theorem b_need_number {k : Nat} (h_f_is_number : HasFn P w K mg base k "is_number" 3 (f_is_number cs)) (h_x_BadNumber : ExcR K mg "BadNumber" (cs.ex 0)) : ∀ (f : Addr) (cdv : Value) (A : Around) (outer : List Env) (s : Shared) (H : Hp) (E : XK), Ctx (cxOf (L2N.CX P w) P w K mg base N_need_number "need_number" (defScope st_need_number) f cdv A outer s H E) E k → PMSs (cxOf (L2N.CX P w) P w K mg base N_need_number "need_number" (defScope st_need_number) f cdv A outer s H E) E (defBody st_need_number) (m_need_number cs) := fun f cdv A outer s H E c =>
  (pms_one (pms_if (pmt_not (pmt_val (pm_call c h_f_is_number rfl (pma_cons (pm_v 0 (pv 0)) (pma_cons (pm_v 1 (pv 1)) (pma_cons (pm_v 2 (pv 2)) pma_nil)))))) (pms_one (pms_raise c h_x_BadNumber rfl)) pms_nil))
abbrev st_House___init__ : Stmt := inClass (top 19) 0
abbrev N_House___init__ : List Str := ["self", "lines", "slots", "hands"]
abbrev ps_House___init__ : List Str := ["self", "lines", "slots", "hands"]
theorem sc_House___init__ : FnScope N_House___init__ ps_House___init__ (defScope st_House___init__) := ⟨rfl, rfl, rfl, by decide +kernel, rfl, by decide +kernel, by decide +kernel⟩
theorem b_House___init__ {k : Nat} (h_cl_House : Cls K cs.House) (h_f_need_number : HasFn P w K mg base k "need_number" 3 (f_need_number cs)) (h_g_MOST_HANDS : ∃ t, mg "MOST_HANDS" = some (.int 6 t)) (h_na_House_size : NoAttr K cs.House "size") (h_na_House_stock : NoAttr K cs.House "stock") : ∀ (f : Addr) (cdv : Value) (A : Around) (outer : List Env) (s : Shared) (H : Hp) (E : XK), Ctx (cxOf (L2N.CX P w) P w K mg base N_House___init__ "House.__init__" (defScope st_House___init__) f cdv A outer s H E) E k → PMSs (cxOf (L2N.CX P w) P w K mg base N_House___init__ "House.__init__" (defScope st_House___init__) f cdv A outer s H E) E (defBody st_House___init__) (m_House___init__ cs) := fun f cdv A outer s H E c =>
  (pms_cons (pms_expr (pm_call c h_f_need_number rfl (pma_cons (pm_v 1 (pv 1)) (pma_cons pm_int (pma_cons pm_int pma_nil)))) (ps_expr (pm_call c h_f_need_number rfl (pma_cons (pm_v 1 (pv 1)) (pma_cons pm_int (pma_cons pm_int pma_nil)))))) (pms_cons (pms_expr (pm_call c h_f_need_number rfl (pma_cons (pm_v 2 (pv 2)) (pma_cons pm_int (pma_cons pm_int pma_nil)))) (ps_expr (pm_call c h_f_need_number rfl (pma_cons (pm_v 2 (pv 2)) (pma_cons pm_int (pma_cons pm_int pma_nil)))))) (pms_cons (pms_expr (pm_call c h_f_need_number rfl (pma_cons (pm_v 3 (pv 3)) (pma_cons pm_int (pma_cons (pm_gi rfl h_g_MOST_HANDS) pma_nil)))) (ps_expr (pm_call c h_f_need_number rfl (pma_cons (pm_v 3 (pv 3)) (pma_cons pm_int (pma_cons (pm_gi rfl h_g_MOST_HANDS) pma_nil)))))) (pms_cons (pms_fld h_cl_House h_na_House_size (pm_v 0 (pv 0)) (pm_tup (pma_cons (pm_v 1 (pv 1)) (pma_cons (pm_v 2 (pv 2)) (pma_cons (pm_v 3 (pv 3)) pma_nil))))) (pms_one (pms_fld h_cl_House h_na_House_stock (pm_v 0 (pv 0)) (pm_new pma_nil)))))))
abbrev st_House_taken_in : Stmt := inClass (top 19) 6
abbrev N_House_taken_in : List Str := ["self", "piece"]
abbrev ps_House_taken_in : List Str := ["self", "piece"]
theorem sc_House_taken_in : FnScope N_House_taken_in ps_House_taken_in (defScope st_House_taken_in) := ⟨rfl, rfl, rfl, by decide +kernel, rfl, by decide +kernel, by decide +kernel⟩
theorem b_House_taken_in {k : Nat} (h_b_len : mg "len" = none) (h_cl_House : Cls K cs.House) (h_full : cs.fu = true → HasFull P w K mg base k (cs.ex 7)) (h_g_MOST_PIECES : ∃ t, mg "MOST_PIECES" = some (.int 8 t)) (h_na_House_stock : NoAttr K cs.House "stock") : ∀ (f : Addr) (cdv : Value) (A : Around) (outer : List Env) (s : Shared) (H : Hp) (E : XK), Ctx (cxOf (L2N.CX P w) P w K mg base N_House_taken_in "House.taken_in" (defScope st_House_taken_in) f cdv A outer s H E) E k → PMSs (cxOf (L2N.CX P w) P w K mg base N_House_taken_in "House.taken_in" (defScope st_House_taken_in) f cdv A outer s H E) E (defBody st_House_taken_in) (m_House_taken_in cs) := fun f cdv A outer s H E c =>
  (pms_cons (pms_if (pmt_cmp (op_eqD c.hu) m_eq (nomark _) (pm_len rfl h_b_len (pm_fld h_cl_House h_na_House_stock (pm_v 0 (pv 0)))) (pm_gi rfl h_g_MOST_PIECES)) (pms_one (pms_raiseF c h_full rfl (pm_gi rfl h_g_MOST_PIECES))) pms_nil) (pms_cons (pms_expr (pm_append (pm_fld h_cl_House h_na_House_stock (pm_v 0 (pv 0))) (pma_cons (pm_v 1 (pv 1)) pma_nil)) (ps_expr (pm_append (pm_fld h_cl_House h_na_House_stock (pm_v 0 (pv 0))) (pma_cons (pm_v 1 (pv 1)) pma_nil)))) (pms_one (pms_ret (pm_sub (pm_len rfl h_b_len (pm_fld h_cl_House h_na_House_stock (pm_v 0 (pv 0)))) pm_int)))))
abbrev st_House_cloth : Stmt := inClass (top 19) 7
abbrev N_House_cloth : List Str := ["self", "line", "beats", "hands"]
abbrev ps_House_cloth : List Str := ["self", "line", "beats", "hands"]
theorem sc_House_cloth : FnScope N_House_cloth ps_House_cloth (defScope st_House_cloth) := ⟨rfl, rfl, rfl, by decide +kernel, rfl, by decide +kernel, by decide +kernel⟩
theorem b_House_cloth {k : Nat} (h_cl_House : Cls K cs.House) (h_f_is_number : HasFn P w K mg base k "is_number" 3 (f_is_number cs)) (h_f_need_number : HasFn P w K mg base k "need_number" 3 (f_need_number cs)) (h_g_MOST_BEATS : ∃ t, mg "MOST_BEATS" = some (.int 4 t)) (h_g_MOST_HANDS : ∃ t, mg "MOST_HANDS" = some (.int 6 t)) (h_m_House_taken_in : HasMt P w K mg base k cs.House "taken_in" 2 [] (f_House_taken_in cs)) (h_na_House_size : NoAttr K cs.House "size") (h_x_BadLine : ExcR K mg "BadLine" (cs.ex 1)) : ∀ (f : Addr) (cdv : Value) (A : Around) (outer : List Env) (s : Shared) (H : Hp) (E : XK), Ctx (cxOf (L2N.CX P w) P w K mg base N_House_cloth "House.cloth" (defScope st_House_cloth) f cdv A outer s H E) E k → PMSs (cxOf (L2N.CX P w) P w K mg base N_House_cloth "House.cloth" (defScope st_House_cloth) f cdv A outer s H E) E (defBody st_House_cloth) (m_House_cloth cs) := fun f cdv A outer s H E c =>
  (pms_cons (pms_if (pmt_not (pmt_val (pm_call c h_f_is_number rfl (pma_cons (pm_v 1 (pv 1)) (pma_cons pm_int (pma_cons (pm_sub (pm_ix c (pm_fld h_cl_House h_na_House_size (pm_v 0 (pv 0))) pm_int) pm_int) pma_nil)))))) (pms_one (pms_raise c h_x_BadLine rfl)) pms_nil) (pms_cons (pms_expr (pm_call c h_f_need_number rfl (pma_cons (pm_v 2 (pv 2)) (pma_cons pm_int (pma_cons (pm_gi rfl h_g_MOST_BEATS) pma_nil)))) (ps_expr (pm_call c h_f_need_number rfl (pma_cons (pm_v 2 (pv 2)) (pma_cons pm_int (pma_cons (pm_gi rfl h_g_MOST_BEATS) pma_nil)))))) (pms_cons (pms_expr (pm_call c h_f_need_number rfl (pma_cons (pm_v 3 (pv 3)) (pma_cons pm_int (pma_cons (pm_gi rfl h_g_MOST_HANDS) pma_nil)))) (ps_expr (pm_call c h_f_need_number rfl (pma_cons (pm_v 3 (pv 3)) (pma_cons pm_int (pma_cons (pm_gi rfl h_g_MOST_HANDS) pma_nil)))))) (pms_one (pms_ret (pm_meth c h_m_House_taken_in (pm_v 0 (pv 0)) (pma_cons (pm_tup (pma_cons pm_str (pma_cons (pm_v 1 (pv 1)) (pma_cons (pm_v 2 (pv 2)) (pma_cons (pm_v 3 (pv 3)) pma_nil))))) pma_nil)))))))
abbrev st_House_numbers : Stmt := inClass (top 19) 4
abbrev N_House_numbers : List Str := ["self"]
abbrev ps_House_numbers : List Str := ["self"]
theorem sc_House_numbers : FnScope N_House_numbers ps_House_numbers (defScope st_House_numbers) := ⟨rfl, rfl, rfl, by decide +kernel, rfl, by decide +kernel, by decide +kernel⟩
theorem b_House_numbers {k : Nat} (h_cl_House : Cls K cs.House) (h_na_House_size : NoAttr K cs.House "size") : ∀ (f : Addr) (cdv : Value) (A : Around) (outer : List Env) (s : Shared) (H : Hp) (E : XK), Ctx (cxOf (L2N.CX P w) P w K mg base N_House_numbers "House.numbers" (defScope st_House_numbers) f cdv A outer s H E) E k → PMSs (cxOf (L2N.CX P w) P w K mg base N_House_numbers "House.numbers" (defScope st_House_numbers) f cdv A outer s H E) E (defBody st_House_numbers) (m_House_numbers cs) := fun f cdv A outer s H E c =>
  (pms_one (pms_ret (pm_fld h_cl_House h_na_House_size (pm_v 0 (pv 0)))))
abbrev st_House_pieces : Stmt := inClass (top 19) 5
abbrev N_House_pieces : List Str := ["self"]
abbrev ps_House_pieces : List Str := ["self"]
theorem sc_House_pieces : FnScope N_House_pieces ps_House_pieces (defScope st_House_pieces) := ⟨rfl, rfl, rfl, by decide +kernel, rfl, by decide +kernel, by decide +kernel⟩
theorem b_House_pieces {k : Nat} (h_b_list : mg "list" = none) (h_cl_House : Cls K cs.House) (h_na_House_stock : NoAttr K cs.House "stock") : ∀ (f : Addr) (cdv : Value) (A : Around) (outer : List Env) (s : Shared) (H : Hp) (E : XK), Ctx (cxOf (L2N.CX P w) P w K mg base N_House_pieces "House.pieces" (defScope st_House_pieces) f cdv A outer s H E) E k → PMSs (cxOf (L2N.CX P w) P w K mg base N_House_pieces "House.pieces" (defScope st_House_pieces) f cdv A outer s H E) E (defBody st_House_pieces) (m_House_pieces cs) := fun f cdv A outer s H E c =>
  (pms_one (pms_ret (pm_ty call_list_of c_list rfl h_b_list PyProof.Rows.boot_list (pma_cons (pm_fld h_cl_House h_na_House_stock (pm_v 0 (pv 0))) pma_nil))))
abbrev st_House_truck : Stmt := inClass (top 19) 8
abbrev N_House_truck : List Str := ["self", "beats", "hands"]
abbrev ps_House_truck : List Str := ["self", "beats", "hands"]
theorem sc_House_truck : FnScope N_House_truck ps_House_truck (defScope st_House_truck) := ⟨rfl, rfl, rfl, by decide +kernel, rfl, by decide +kernel, by decide +kernel⟩
theorem b_House_truck {k : Nat} (h_f_need_number : HasFn P w K mg base k "need_number" 3 (f_need_number cs)) (h_g_MOST_BEATS : ∃ t, mg "MOST_BEATS" = some (.int 4 t)) (h_g_MOST_HANDS : ∃ t, mg "MOST_HANDS" = some (.int 6 t)) (h_m_House_taken_in : HasMt P w K mg base k cs.House "taken_in" 2 [] (f_House_taken_in cs)) : ∀ (f : Addr) (cdv : Value) (A : Around) (outer : List Env) (s : Shared) (H : Hp) (E : XK), Ctx (cxOf (L2N.CX P w) P w K mg base N_House_truck "House.truck" (defScope st_House_truck) f cdv A outer s H E) E k → PMSs (cxOf (L2N.CX P w) P w K mg base N_House_truck "House.truck" (defScope st_House_truck) f cdv A outer s H E) E (defBody st_House_truck) (m_House_truck cs) := fun f cdv A outer s H E c =>
  (pms_cons (pms_expr (pm_call c h_f_need_number rfl (pma_cons (pm_v 1 (pv 1)) (pma_cons pm_int (pma_cons (pm_gi rfl h_g_MOST_BEATS) pma_nil)))) (ps_expr (pm_call c h_f_need_number rfl (pma_cons (pm_v 1 (pv 1)) (pma_cons pm_int (pma_cons (pm_gi rfl h_g_MOST_BEATS) pma_nil)))))) (pms_cons (pms_expr (pm_call c h_f_need_number rfl (pma_cons (pm_v 2 (pv 2)) (pma_cons pm_int (pma_cons (pm_gi rfl h_g_MOST_HANDS) pma_nil)))) (ps_expr (pm_call c h_f_need_number rfl (pma_cons (pm_v 2 (pv 2)) (pma_cons pm_int (pma_cons (pm_gi rfl h_g_MOST_HANDS) pma_nil)))))) (pms_one (pms_ret (pm_meth c h_m_House_taken_in (pm_v 0 (pv 0)) (pma_cons (pm_tup (pma_cons pm_str (pma_cons (pm_v 1 (pv 1)) (pma_cons (pm_v 2 (pv 2)) pma_nil)))) pma_nil))))))
abbrev st_law : Stmt := top 27
abbrev N_law : List Str := ["script", "dice", "size", "turn", "house", "pieces", "way", "due", "told", "line", "beats", "hands"]
abbrev ps_law : List Str := ["script"]
theorem sc_law : FnScope N_law ps_law (defScope st_law) := ⟨rfl, rfl, rfl, by decide +kernel, rfl, by decide +kernel, by decide +kernel⟩
theorem b_law {k : Nat} (h_b_bool : mg "bool" = none) (h_b_isinstance : mg "isinstance" = none) (h_b_len : mg "len" = none) (h_b_range : mg "range" = none) (h_b_tuple : mg "tuple" = none) (h_f_law_roll : HasFn P w K mg base (k + 2) "_law_roll" 2 (f_law_roll cs)) (h_f_law_rounds : HasFn P w K mg base (k + 2) "_law_rounds" 2 (f_law_rounds cs)) (h_k_House___init__ : HasMk P w K mg base (k + 1) "House" cs.House 4 [] (f_House___init__ cs)) (h_m_House_cloth : HasMt P w K mg base (k + 2) cs.House "cloth" 4 [] (f_House_cloth cs)) (h_m_House_numbers : HasMt P w K mg base (k + 2) cs.House "numbers" 1 [] (f_House_numbers cs)) (h_m_House_pieces : HasMt P w K mg base (k + 2) cs.House "pieces" 1 [] (f_House_pieces cs)) (h_m_House_truck : HasMt P w K mg base (k + 2) cs.House "truck" 3 [] (f_House_truck cs)) (h_told : ToldOk P w K mg base cs.ex k) (h_tabq : (cs.tb 0).2 = (PyProof.Rows.envOfC "law" (defScope st_law) 0 0 .none).qual ++ "<lambda>") : ∀ (f : Addr) (cdv : Value) (A : Around) (outer : List Env) (s : Shared) (H : Hp) (E : XK), (∃ cc : Addr, LamX.TabB base mg cc (cs.tb 0).1 ∧ cdv = .ref cc) → Ctx (cxOf (L2N.CX P w) P w K mg base N_law "law" (defScope st_law) f cdv A outer s H E) E (k + 4) → PMSs (cxOf (L2N.CX P w) P w K mg base N_law "law" (defScope st_law) f cdv A outer s H E) E (defBody st_law) (m_law cs) := fun f cdv A outer s H E ht c =>
  (pms_cons (pms_for (c.mono (Nat.le_add_right (k + 2) 2)) (pmi_seq (pm_call (c.mono (Nat.le_add_right (k + 2) 2)) h_f_law_rounds rfl (pma_cons (pm_v 0 (pv 0)) (pma_cons pm_int pma_nil)))) (pg_name (i := 1) (c.mono (Nat.le_add_right (k + 2) 2)).nd rfl (by first | exact Or.inl rfl | exact Or.inr rfl)) (gm_name 1) (pms_gc (pms_cons (pms_set (i := 2) (c.mono (Nat.le_add_right (k + 2) 2)) rfl (by first | exact Or.inl rfl | exact Or.inr rfl) (pm_tup (pma_cons (pm_add pm_int (pm_call (c.mono (Nat.le_add_right (k + 2) 2)) h_f_law_roll rfl (pma_cons (pm_v 1 (pv 1)) (pma_cons pm_int pma_nil)))) (pma_cons (pm_call (c.mono (Nat.le_add_right (k + 2) 2)) h_f_law_roll rfl (pma_cons (pm_v 1 (pv 1)) (pma_cons pm_int pma_nil))) (pma_cons (pm_add pm_int (pm_call (c.mono (Nat.le_add_right (k + 2) 2)) h_f_law_roll rfl (pma_cons (pm_v 1 (pv 1)) (pma_cons pm_int pma_nil)))) pma_nil))))) (pms_cons (pms_asg (ps_asg (pm_tup (pma_cons (pm_make (c.mono (Nat.le_add_right (k + 2) 2)) h_k_House___init__ rfl (pma_cons (pm_ix (c.mono (Nat.le_add_right (k + 2) 2)) (pm_v 2 (pv 2)) pm_int) (pma_cons (pm_ix (c.mono (Nat.le_add_right (k + 2) 2)) (pm_v 2 (pv 2)) pm_int) (pma_cons (pm_ix (c.mono (Nat.le_add_right (k + 2) 2)) (pm_v 2 (pv 2)) pm_int) pma_nil)))) (pma_cons (pm_new pma_nil) pma_nil))) (pg_tup (c.mono (Nat.le_add_right (k + 2) 2)).calm (pgs_cons (pg_name (i := 4) (c.mono (Nat.le_add_right (k + 2) 2)).nd rfl (by first | exact Or.inl rfl | exact Or.inr rfl)) (pgs_cons (pg_name (i := 5) (c.mono (Nat.le_add_right (k + 2) 2)).nd rfl (by first | exact Or.inl rfl | exact Or.inr rfl)) pgs_nil)))) (gm_tup (gms_cons (gm_name 4) (gms_cons (gm_name 5) gms_nil)))) (pms_cons (pms_if (PMW.t (pmw_or (pmt_cmp (op_neD (c.mono (Nat.le_add_right (k + 2) 2)).hu) m_ne (nomark _) (pm_meth0 (c.mono (Nat.le_add_right (k + 2) 2)) h_m_House_numbers (pm_v 4 (pv 4))) (pm_v 2 (pv 2))) (pmw_or1 (pmt_cmp (op_neD (c.mono (Nat.le_add_right (k + 2) 2)).hu) m_ne (nomark _) (pm_meth0 (c.mono (Nat.le_add_right (k + 2) 2)) h_m_House_pieces (pm_v 4 (pv 4))) (pm_lst pma_nil))))) (pms_one (pms_ret pm_bl)) pms_nil) (pms_one (pms_for (c.mono (Nat.le_add_right (k + 2) 2)) (pmi_r1 rfl h_b_range pm_int) (pg_name (i := 3) (c.mono (Nat.le_add_right (k + 2) 2)).nd rfl (by first | exact Or.inl rfl | exact Or.inr rfl)) (gm_name 3) (pms_cons (pms_asg (ps_asg (pm_tup (pma_cons (pm_call (c.mono (Nat.le_add_right (k + 2) 2)) h_f_law_roll rfl (pma_cons (pm_v 1 (pv 1)) (pma_cons (pm_add (pm_ix (c.mono (Nat.le_add_right (k + 2) 2)) (pm_v 2 (pv 2)) pm_int) pm_int) pma_nil))) (pma_cons (pm_add pm_int (pm_call (c.mono (Nat.le_add_right (k + 2) 2)) h_f_law_roll rfl (pma_cons (pm_v 1 (pv 1)) (pma_cons pm_int pma_nil)))) (pma_cons (pm_add pm_int (pm_call (c.mono (Nat.le_add_right (k + 2) 2)) h_f_law_roll rfl (pma_cons (pm_v 1 (pv 1)) (pma_cons pm_int pma_nil)))) pma_nil)))) (pg_tup (c.mono (Nat.le_add_right (k + 2) 2)).calm (pgs_cons (pg_name (i := 9) (c.mono (Nat.le_add_right (k + 2) 2)).nd rfl (by first | exact Or.inl rfl | exact Or.inr rfl)) (pgs_cons (pg_name (i := 10) (c.mono (Nat.le_add_right (k + 2) 2)).nd rfl (by first | exact Or.inl rfl | exact Or.inr rfl)) (pgs_cons (pg_name (i := 11) (c.mono (Nat.le_add_right (k + 2) 2)).nd rfl (by first | exact Or.inl rfl | exact Or.inr rfl)) pgs_nil))))) (gm_tup (gms_cons (gm_name 9) (gms_cons (gm_name 10) (gms_cons (gm_name 11) gms_nil))))) (pms_cons (pms_set (i := 6) (c.mono (Nat.le_add_right (k + 2) 2)) rfl (by first | exact Or.inl rfl | exact Or.inr rfl) (pm_call (c.mono (Nat.le_add_right (k + 2) 2)) h_f_law_roll rfl (pma_cons (pm_v 1 (pv 1)) (pma_cons pm_int pma_nil)))) (pms_cons (pms_set (i := 7) (c.mono (Nat.le_add_right (k + 2) 2)) rfl (by first | exact Or.inl rfl | exact Or.inr rfl) (pm_if (pmt_cmp op_lt m_lt (nomark _) (pm_len rfl h_b_len (pm_v 5 (pv 5))) pm_int) (pm_len rfl h_b_len (pm_v 5 (pv 5))) (pm_tup (pma_cons pm_str (pma_cons pm_str pma_nil))))) (pms_cons (pms_if (PMW.t (pmw_and (pmt_cmp (op_eqD (c.mono (Nat.le_add_right (k + 2) 2)).hu) m_eq (nomark _) (pm_v 6 (pv 6)) pm_int) (pmw_and1 (pmt_cmp (op_eqD (c.mono (Nat.le_add_right (k + 2) 2)).hu) m_eq (nomark _) (pm_v 9 (pv 9)) (pm_ix (c.mono (Nat.le_add_right (k + 2) 2)) (pm_v 2 (pv 2)) pm_int))))) (pms_one (pms_set (i := 7) (c.mono (Nat.le_add_right (k + 2) 2)) rfl (by first | exact Or.inl rfl | exact Or.inr rfl) (pm_tup (pma_cons pm_str (pma_cons pm_str pma_nil))))) pms_nil) (pms_cons (pms_set (i := 8) (c.mono (Nat.le_add_right (k + 2) 2)) rfl (by first | exact Or.inl rfl | exact Or.inr rfl) (pm_told (i := 0) c h_told ⟨ht, h_tabq⟩ rfl (LamX.lamS_by (by kernel_rfl)) rfl (fun _ _ _ _ _ => rfl) (fun _ _ _ _ _ _ _ c1t => (pm_if (pmt_cmp op_gt m_gt (nomark _) (pm_v 6 (pv 6)) pm_int) (pm_meth c1t h_m_House_truck (pm_v 4 (pv 4)) (pma_cons (pm_v 10 (pv 10)) (pma_cons (pm_v 11 (pv 11)) pma_nil))) (pm_meth c1t h_m_House_cloth (pm_v 4 (pv 4)) (pma_cons (pm_v 9 (pv 9)) (pma_cons (pm_v 10 (pv 10)) (pma_cons (pm_v 11 (pv 11)) pma_nil)))))))) (pms_cons (pms_if (PMW.t (pmw_or (pmt_cmp (op_neD (c.mono (Nat.le_add_right (k + 2) 2)).hu) m_ne (nomark _) (pm_v 8 (pv 8)) (pm_v 7 (pv 7))) (pmw_or1 (pmt_val (pm_isT .bool rfl h_b_isinstance rfl h_b_bool PyProof.Rows.boot_bool (pm_v 8 (pv 8))))))) (pms_one (pms_ret pm_bl)) pms_nil) (pms_cons (pms_if (pmt_not (pmt_val (pm_isT .tuple rfl h_b_isinstance rfl h_b_tuple PyProof.Rows.boot_tuple (pm_v 8 (pv 8))))) (pms_one (pms_expr (pm_append (pm_v 5 (pv 5)) (pma_cons (pm_if (pmt_cmp op_gt m_gt (nomark _) (pm_v 6 (pv 6)) pm_int) (pm_tup (pma_cons pm_str (pma_cons (pm_v 10 (pv 10)) (pma_cons (pm_v 11 (pv 11)) pma_nil)))) (pm_tup (pma_cons pm_str (pma_cons (pm_v 9 (pv 9)) (pma_cons (pm_v 10 (pv 10)) (pma_cons (pm_v 11 (pv 11)) pma_nil)))))) pma_nil)) (ps_expr (pm_append (pm_v 5 (pv 5)) (pma_cons (pm_if (pmt_cmp op_gt m_gt (nomark _) (pm_v 6 (pv 6)) pm_int) (pm_tup (pma_cons pm_str (pma_cons (pm_v 10 (pv 10)) (pma_cons (pm_v 11 (pv 11)) pma_nil)))) (pm_tup (pma_cons pm_str (pma_cons (pm_v 9 (pv 9)) (pma_cons (pm_v 10 (pv 10)) (pma_cons (pm_v 11 (pv 11)) pma_nil)))))) pma_nil))))) pms_nil) (pms_one (pms_if (PMW.t (pmw_or (pmt_cmp (op_neD (c.mono (Nat.le_add_right (k + 2) 2)).hu) m_ne (nomark _) (pm_meth0 (c.mono (Nat.le_add_right (k + 2) 2)) h_m_House_pieces (pm_v 4 (pv 4))) (pm_v 5 (pv 5))) (pmw_or1 (pmt_cmp (op_neD (c.mono (Nat.le_add_right (k + 2) 2)).hu) m_ne (nomark _) (pm_meth0 (c.mono (Nat.le_add_right (k + 2) 2)) h_m_House_numbers (pm_v 4 (pv 4))) (pm_v 2 (pv 2)))))) (pms_one (pms_ret pm_bl)) pms_nil)))))))))))))))) (pms_one (pms_ret pm_bl)))
abbrev st_law_word : Stmt := top 25
abbrev N_law_word : List Str := ["e", "flags", "words", "flag"]
abbrev ps_law_word : List Str := ["e"]
theorem sc_law_word : FnScope N_law_word ps_law_word (defScope st_law_word) := ⟨rfl, rfl, rfl, by decide +kernel, rfl, by decide +kernel, by decide +kernel⟩
abbrev st_law_told : Stmt := top 26
abbrev N_law_told : List Str := ["deed", "e"]
abbrev ps_law_told : List Str := ["deed"]
theorem sc_law_told : FnScope N_law_told ps_law_told (defScope st_law_told) := ⟨rfl, rfl, rfl, by decide +kernel, rfl, by decide +kernel, by decide +kernel⟩
theorem b_law_word (h_isi : mg "isinstance" = none) (h_sum : mg "sum" = none) (h_int : mg "int" = none) (h_ve : mg "ValueError" = none) (h_c : ∀ j, j < 10 → mg (exName j) = some (.ref (cs.ex j))) : ∀ (wi : Nat) (a : Addr) (oe : Obj) (f : Addr) (cdv : Value) (A : Around) (outer : List Env) (s : Shared) (H : Hp) (E : XK), wi < 10 → HX (L2H.cxH C8.CX0 P w K mg base N_law_word "_law_word" (defScope st_law_word) f cdv A outer s H C8.E0 (a, oe)) a oe cs.ex wi → PMSs (L2H.cxH C8.CX0 P w K mg base N_law_word "_law_word" (defScope st_law_word) f cdv A outer s H C8.E0 (a, oe)) E (defBody st_law_word) (m_law_word a wi) := fun wi a oe f cdv A outer s H E hw hx =>
  (pms_cons (pms_setH (i := 1) hx.nd rfl (by first | exact Or.inl rfl | exact Or.inr rfl) (pm_lst (pma_cons (pm_isE hx 0 (by decide) rfl h_isi rfl (h_c 0 (by decide)) (pm_v 0 (pv 0))) (pma_cons (pm_isE hx 1 (by decide) rfl h_isi rfl (h_c 1 (by decide)) (pm_v 0 (pv 0))) (pma_cons (pm_isE hx 2 (by decide) rfl h_isi rfl (h_c 2 (by decide)) (pm_v 0 (pv 0))) (pma_cons (pm_isE hx 3 (by decide) rfl h_isi rfl (h_c 3 (by decide)) (pm_v 0 (pv 0))) pma_nil)))))) (pms_cons (pms_setH (i := 1) hx.nd rfl (by first | exact Or.inl rfl | exact Or.inr rfl) (pm_add (pm_v 1 (pv 1)) (pm_lst (pma_cons (pm_isE hx 4 (by decide) rfl h_isi rfl (h_c 4 (by decide)) (pm_v 0 (pv 0))) (pma_cons (pm_isE hx 5 (by decide) rfl h_isi rfl (h_c 5 (by decide)) (pm_v 0 (pv 0))) (pma_cons (pm_isE hx 6 (by decide) rfl h_isi rfl (h_c 6 (by decide)) (pm_v 0 (pv 0))) (pma_cons (pm_isE hx 7 (by decide) rfl h_isi rfl (h_c 7 (by decide)) (pm_v 0 (pv 0))) pma_nil))))))) (pms_cons (pms_setH (i := 1) hx.nd rfl (by first | exact Or.inl rfl | exact Or.inr rfl) (pm_add (pm_v 1 (pv 1)) (pm_lst (pma_cons (pm_isE hx 8 (by decide) rfl h_isi rfl (h_c 8 (by decide)) (pm_v 0 (pv 0))) (pma_cons (pm_isE hx 9 (by decide) rfl h_isi rfl (h_c 9 (by decide)) (pm_v 0 (pv 0))) pma_nil))))) (pms_cons (pms_setH (i := 2) hx.nd rfl (by first | exact Or.inl rfl | exact Or.inr rfl) (pm_lst (pma_cons pm_str (pma_cons pm_str (pma_cons pm_str (pma_cons pm_str (pma_cons pm_str (pma_cons pm_str (pma_cons pm_str (pma_cons pm_str (pma_cons pm_str pma_nil))))))))))) (pms_cons (pms_if (PMW.t (pmw_or (pmt_cmp (op_neD hx.hu) m_ne (nomark _) (pm_b (cr_sumH hx.hot) c_sum rfl h_sum PyProof.Rows.boot_sum (pma_cons (pm_ints (pe_intsH hx.hot ⟨by decide +kernel, by decide +kernel, rfl, by decide +kernel, rfl⟩ (pv 1) h_int (by decide) (fun _ _ => rfl) (fun _ _ => rfl))) pma_nil)) pm_int) (pmw_or1 (pmt_not (pmt_val (pm_isV hx rfl h_isi rfl h_ve (by kernel_rfl) (pm_v 0 (pv 0)))))))) (pms_one (pms_ret (pm_tup (pma_cons pm_str (pma_cons pm_str pma_nil))))) pms_nil) (pms_one (pms_ret (pm_tup (pma_cons pm_str (pma_cons (pm_ixL (pm_add (pm_v 2 (pv 2)) (pm_lst (pma_cons pm_str pma_nil))) (pm_index (pm_v 1 (pv 1)) (pma_cons pm_bl pma_nil))) pma_nil))))))))))
abbrev st_Full___init__ : Stmt := inClass (top 10) 0
abbrev N_Full___init__ : List Str := ["self", "most"]
abbrev ps_Full___init__ : List Str := ["self", "most"]
theorem sc_Full___init__ : FnScope N_Full___init__ ps_Full___init__ (defScope st_Full___init__) := ⟨rfl, rfl, rfl, by decide +kernel, rfl, by decide +kernel, by decide +kernel⟩
end
end SF

namespace SF
open PySem PySem.Spec PyProof.Rows L2
def d_law_drawn : He.DefD := ⟨("_law_drawn", none), "_law_drawn", "_law_drawn", defArgs st_law_drawn, defBody st_law_drawn, defScope st_law_drawn, [], []⟩
def d_law_roll : He.DefD := ⟨("_law_roll", none), "_law_roll", "_law_roll", defArgs st_law_roll, defBody st_law_roll, defScope st_law_roll, [], []⟩
def d_law_cell : He.DefD := ⟨("_law_cell", none), "_law_cell", "_law_cell", defArgs st_law_cell, defBody st_law_cell, defScope st_law_cell, [], []⟩
def d_law_rounds : He.DefD := ⟨("_law_rounds", none), "_law_rounds", "_law_rounds", defArgs st_law_rounds, defBody st_law_rounds, defScope st_law_rounds, [], []⟩
def d_is_number : He.DefD := ⟨("is_number", none), "is_number", "is_number", defArgs st_is_number, defBody st_is_number, defScope st_is_number, [], []⟩
def d_need_number : He.DefD := ⟨("need_number", none), "need_number", "need_number", defArgs st_need_number, defBody st_need_number, defScope st_need_number, [], []⟩
def d_House___init__ : He.DefD := ⟨("House", some "__init__"), "__init__", "House.__init__", defArgs st_House___init__, defBody st_House___init__, defScope st_House___init__, [.int 0, .int 1], []⟩
def d_House_taken_in : He.DefD := ⟨("House", some "taken_in"), "taken_in", "House.taken_in", defArgs st_House_taken_in, defBody st_House_taken_in, defScope st_House_taken_in, [], []⟩
def d_House_cloth : He.DefD := ⟨("House", some "cloth"), "cloth", "House.cloth", defArgs st_House_cloth, defBody st_House_cloth, defScope st_House_cloth, [.int 1, .int 1], []⟩
def d_House_numbers : He.DefD := ⟨("House", some "numbers"), "numbers", "House.numbers", defArgs st_House_numbers, defBody st_House_numbers, defScope st_House_numbers, [], []⟩
def d_House_pieces : He.DefD := ⟨("House", some "pieces"), "pieces", "House.pieces", defArgs st_House_pieces, defBody st_House_pieces, defScope st_House_pieces, [], []⟩
def d_House_truck : He.DefD := ⟨("House", some "truck"), "truck", "House.truck", defArgs st_House_truck, defBody st_House_truck, defScope st_House_truck, [.int 1, .int 1], []⟩
def d_law : He.DefD := ⟨("law", none), "law", "law", defArgs st_law, defBody st_law, defScope st_law, [], []⟩
def d_law_word : He.DefD := ⟨("_law_word", none), "_law_word", "_law_word", defArgs st_law_word, defBody st_law_word, defScope st_law_word, [], []⟩
def d_law_told : He.DefD := ⟨("_law_told", none), "_law_told", "_law_told", defArgs st_law_told, defBody st_law_told, defScope st_law_told, [], []⟩
def d_Full___init__ : He.DefD := ⟨("Full", some "__init__"), "__init__", "Full.__init__", defArgs st_Full___init__, defBody st_Full___init__, defScope st_Full___init__, [], []⟩
def fn : List He.DefD := [d_law_drawn, d_law_roll, d_law_cell, d_law_rounds, d_is_number, d_need_number, d_House___init__, d_House_taken_in, d_House_cloth, d_House_numbers, d_House_pieces, d_House_truck, d_law, d_law_word, d_law_told, d_Full___init__]
def fa : List He.Fa := [.glo "BadNumber", .glo "BadLine", .glo "BadScene", .glo "BadTime", .glo "BadPlan", .glo "BadPicture", .glo "BadPlace", .glo "Full", .glo "Nothing", .glo "BadText", .glo "_law_word", .free "isinstance", .free "sum", .free "int", .free "ValueError", .glo "StageError", .glo "_law_told", .glo "_law_drawn", .free "len", .free "max", .free "min", .free "range", .glo "_law_cell", .free "bool", .glo "is_number", .exc "BadNumber", .cls "House", .glo "need_number", .int "MOST_HANDS" 6, .noat "House" "size", .noat "House" "stock", .int "MOST_PIECES" 8, .int "MOST_BEATS" 4, .meth "House" "taken_in", .exc "BadLine", .free "list", .free "tuple", .glo "_law_roll", .glo "_law_rounds", .mkr "House", .glo "House", .meth "House" "cloth", .meth "House" "numbers", .meth "House" "pieces", .meth "House" "truck", .glo "law"]
abbrev RR : PySem.W.OpenRow := PySem.W.OpenLaw.row PySem.Challenge.rw_sceneflies_k10_houses
def ps_ : List (Str × Option Str) := [("law", none)]
def xs_ : List Nat := List.range 11
abbrev hk : PySem.W.Hook := hookX 5 fa fn ps_ xs_
def ob (s : PySem.W.SharedT) : AlX := obsX 5 fa fn ps_ xs_ (HandSHeadRun.getT s)
theorem ob_eq (s : PySem.W.SharedT) : ob s = hk.obs s.abs := obsX_eq (HandSHeadRun.getT_eq s)
def names : List PySem.Str := ("_wall" : PySem.Str) :: ("__name__" : PySem.Str) :: ("StageError" : PySem.Str) :: ("BadNumber" : PySem.Str) :: ("BadLine" : PySem.Str) :: ("BadScene" : PySem.Str) :: ("BadTime" : PySem.Str) :: ("BadPlan" : PySem.Str) :: ("BadPicture" : PySem.Str) :: ("BadPlace" : PySem.Str) :: ("Full" : PySem.Str) :: ("Nothing" : PySem.Str) :: ("BadText" : PySem.Str) :: ("MOST_PIECES" : PySem.Str) :: ("MOST_BEATS" : PySem.Str) :: ("MOST_HANDS" : PySem.Str) :: ("is_number" : PySem.Str) :: ("need_number" : PySem.Str) :: ("House" : PySem.Str) :: ("_law_cell" : PySem.Str) :: ("_law_drawn" : PySem.Str) :: ("_law_roll" : PySem.Str) :: ("_law_rounds" : PySem.Str) :: ("_law_word" : PySem.Str) :: ("_law_told" : PySem.Str) :: []
theorem comb {σ α β γ δ ε : Type} {o : Option σ} {a : σ → α} {b : σ → β} {c : σ → γ} {d : σ → δ} {f : σ → ε} {x : α} {y : β} {z : γ} {v : δ} {u : ε} (h1 : o.map (fun s => (a s, b s)) = some (x, y)) (h2 : o.map c = some z) (h3 : o.map d = some v) (h4 : o.map f = some u) : o.map (fun s => (a s, b s, ((c s, d s), f s))) = some (x, y, ((z, v), u)) := by
  cases o with
  | none => cases h1
  | some s =>
    simp only [Option.map_some, Option.some.injEq, Prod.mk.injEq] at h1 h2 h3 h4 ⊢
    exact ⟨h1.1, h1.2, ⟨h2, h3⟩, h4⟩
section
open HandSHeadRun PySem.W
set_option maxHeartbeats 0 in
theorem run1 (w : World) (os : OsState) : (endF (stepQ (denQ tabQ) RR.prog w) 6000 RR.prog w os).map (fun s => (looksF RR.prog (boot_heap w.params) s.abs, seenQ (PySem.W.view RR.prog [27]) names (PySem.importedModules RR.prog.main.body) (fun s => xlAt (PySem.W.view RR.prog [27]) [] s && recOk RR.toRowW.records s) s.abs)) = some (true, openGood (PySem.W.view RR.prog [27]) names) := by kernel_rfl
set_option maxHeartbeats 0 in
theorem run2 (w : World) (os : OsState) : (endF (stepQ (denQ tabQ) RR.prog w) 6000 RR.prog w os).map (fun s => (ob s).1.1) = some true := by kernel_rfl
set_option maxHeartbeats 0 in
theorem run3 (w : World) (os : OsState) : (endF (stepQ (denQ tabQ) RR.prog w) 6000 RR.prog w os).map (fun s => (ob s).1.2) = some (fn.map He.DefD.val) := by kernel_rfl
set_option maxHeartbeats 0 in
theorem run4 (w : World) (os : OsState) : (endF (stepQ (denQ tabQ) RR.prog w) 6000 RR.prog w os).map (fun s => (ob s).2) = some true := by kernel_rfl
theorem run (w : World) : RunEq RR (PySem.W.view RR.prog [27]) hk ob 6000 names w := fun os => comb (run1 w os) (run2 w os) (run3 w os) (run4 w os)
end
def csOf (K : PySem.W.Frag) (ts : List (Addr × Addr)) : Cs := ⟨He.ga K "House", 0, 0, 0, exA K, fun j => ((ts.getD j (0, 0)).2, ([(envOfC "law" (defScope st_law) 0 0 .none).qual ++ "<lambda>"] : List Str).getD j ""), true⟩
set_option maxHeartbeats 0 in
theorem facts {P : Program} {w : World} {K : PySem.W.Frag} {h : Heap} {mg : Str → Option Value} {f : Addr} (X : K.In h) (G : h.Ns mainGlobals mg) (hfa : mg ("law" : Str) = some (.ref f)) {ts : List (Addr × Addr)} (c : SaysX fa fn ps_ xs_ K ts h) :
    ∃ fd : FuncData, (∀ (s : Shared) (v : Value), BindsTo s fd ⟨[v], []⟩ [("script", v)]) ∧ ∀ base : Heap, K.In base → base.Ns mainGlobals mg → (∀ p ∈ ts, LamX.TabB base mg p.1 p.2) → FnOk P w K mg base (L2N.CX P w) 7 f fd ["script"] (spM K 1 (f_law (csOf K ts))) := by
  have e := hfa.symm.trans (He.glo_ok X G (c.d.fact 45 (f := .glo "law") rfl))
  cases e
  obtain ⟨fd_law_drawn, F_law_drawn⟩ := c.d.def_ 0 (d := d_law_drawn) rfl
  obtain ⟨fd_law_roll, F_law_roll⟩ := c.d.def_ 1 (d := d_law_roll) rfl
  obtain ⟨fd_law_cell, F_law_cell⟩ := c.d.def_ 2 (d := d_law_cell) rfl
  obtain ⟨fd_law_rounds, F_law_rounds⟩ := c.d.def_ 3 (d := d_law_rounds) rfl
  obtain ⟨fd_is_number, F_is_number⟩ := c.d.def_ 4 (d := d_is_number) rfl
  obtain ⟨fd_need_number, F_need_number⟩ := c.d.def_ 5 (d := d_need_number) rfl
  obtain ⟨fd_House___init__, F_House___init__⟩ := c.d.def_ 6 (d := d_House___init__) rfl
  obtain ⟨fd_House_taken_in, F_House_taken_in⟩ := c.d.def_ 7 (d := d_House_taken_in) rfl
  obtain ⟨fd_House_cloth, F_House_cloth⟩ := c.d.def_ 8 (d := d_House_cloth) rfl
  obtain ⟨fd_House_numbers, F_House_numbers⟩ := c.d.def_ 9 (d := d_House_numbers) rfl
  obtain ⟨fd_House_pieces, F_House_pieces⟩ := c.d.def_ 10 (d := d_House_pieces) rfl
  obtain ⟨fd_House_truck, F_House_truck⟩ := c.d.def_ 11 (d := d_House_truck) rfl
  obtain ⟨fd_law, F_law⟩ := c.d.def_ 12 (d := d_law) rfl
  obtain ⟨fd_law_word, F_law_word⟩ := c.d.def_ 13 (d := d_law_word) rfl
  obtain ⟨fd_law_told, F_law_told⟩ := c.d.def_ 14 (d := d_law_told) rfl
  obtain ⟨fd_Full___init__, F_Full___init__⟩ := c.d.def_ 15 (d := d_Full___init__) rfl
  have b := FunD.bindsA (ps := ["script"]) F_law fun _ _ _ _ _ _ us hl => match us, hl with | [_], _ => rfl
  refine ⟨fd_law, fun s v => b s [v] rfl, fun base _ _ TB => ?_⟩
  have B_law_word := F_law_word.bindsN (ps := ps_law_word) fun _ _ _ _ _ _ us hl => match us, hl with | [_], _ => rfl
  have B_law_told := F_law_told.bindsN (ps := ps_law_told) fun _ _ _ _ _ _ us hl => match us, hl with | [_], _ => rfl
  have hC : ∀ j, j < 10 → mg (exName j) = some (.ref ((csOf K ts).ex j)) := fun j hj => match j, hj with | 0, _ => (He.glo_ok X G (c.d.fact 0 rfl)) | 1, _ => (He.glo_ok X G (c.d.fact 1 rfl)) | 2, _ => (He.glo_ok X G (c.d.fact 2 rfl)) | 3, _ => (He.glo_ok X G (c.d.fact 3 rfl)) | 4, _ => (He.glo_ok X G (c.d.fact 4 rfl)) | 5, _ => (He.glo_ok X G (c.d.fact 5 rfl)) | 6, _ => (He.glo_ok X G (c.d.fact 6 rfl)) | 7, _ => (He.glo_ok X G (c.d.fact 7 rfl)) | 8, _ => (He.glo_ok X G (c.d.fact 8 rfl)) | 9, _ => (He.glo_ok X G (c.d.fact 9 rfl)) | n + 10, h => absurd h (by omega)
  have hEx : ∀ wi, wi < 10 → exB K wi = true := fun wi hw => c.ex wi (List.mem_range.mpr (by omega))
  have WO : ∀ k, WordOk P w K mg base (csOf K ts).ex k := fun k => ⟨_, fd_law_word, _, _, _, F_law_word, sc_law_word, (He.glo_ok X G (c.d.fact 10 rfl)), B_law_word, fun wi a oe cdv A outer s H E hw hx => b_law_word (cs := csOf K ts) (He.free_ok X G (c.d.fact 11 rfl)) (He.free_ok X G (c.d.fact 12 rfl)) (He.free_ok X G (c.d.fact 13 rfl)) (He.free_ok X G (c.d.fact 14 rfl)) hC wi a oe _ cdv A outer s H E hw hx⟩
  have TO : ∀ k, ToldOk P w K mg base (csOf K ts).ex k := fun k => ⟨WO k, fun wi hw => (exB_ok (hEx wi hw) hw).1, ⟨_, (He.glo_ok X G (c.d.fact 15 rfl)), fun wi hw => (exB_ok (hEx wi hw) hw).2⟩, ⟨_, fd_law_told, _, _, _, _, _, _, _, _, _, _, _, _, F_law_told, sc_law_told, (He.glo_ok X G (c.d.fact 16 rfl)), B_law_told, rfl, rfl, rfl, rfl⟩⟩
  have B_Full___init__ := F_Full___init__.bindsN (ps := ps_Full___init__) fun _ _ _ _ _ _ us hl => match us, hl with | [_, _], _ => rfl
  have hFC := fullB_ok (exB_full (c.ex 10 (List.mem_range.mpr (by decide))))
  have FU : ∀ {k : Nat}, 2 ≤ k → HasFull P w K mg base k ((csOf K ts).ex 7) := fun hk => ⟨hk, (He.glo_ok X G (c.d.fact 7 rfl)), _, _, fd_Full___init__, hFC, fn_full F_Full___init__ sc_Full___init__ hFC (He.glo_ok X G (c.d.fact 15 rfl)) rfl rfl rfl (fun env => ⟨_, rfl⟩) (fun env => rfl), B_Full___init__⟩
  have G_law_drawn : FnOk P w K mg base (L2N.CX P w) 1 _ fd_law_drawn ps_law_drawn (spM K 2 (f_law_drawn (csOf K ts))) := fn_rawD F_law_drawn sc_law_drawn (fun cdv A outer s H E cc => b_law_drawn (k := 0)  _ cdv A outer s H E cc) (fun ds S _ => .inr rfl)
  have B_law_drawn := F_law_drawn.bindsN (ps := ps_law_drawn) fun _ _ _ _ _ _ us hl => match us, hl with | [_, _], _ => rfl
  have G_law_roll : FnOk P w K mg base (L2N.CX P w) 2 _ fd_law_roll ps_law_roll (spM K 2 (f_law_roll (csOf K ts))) := fn_rawD F_law_roll sc_law_roll (fun cdv A outer s H E cc => b_law_roll (k := 1) (h_f_law_drawn := ⟨_, _, _, G_law_drawn.mono (by decide), He.glo_ok X G (c.d.fact 17 rfl), F_law_drawn.kp, B_law_drawn⟩) _ cdv A outer s H E cc) (fun ds S _ => .inr rfl)
  have B_law_roll := F_law_roll.bindsN (ps := ps_law_roll) fun _ _ _ _ _ _ us hl => match us, hl with | [_, _], _ => rfl
  have G_law_cell : FnOk P w K mg base (L2N.CX P w) 1 _ fd_law_cell ps_law_cell (spM K 2 (f_law_cell (csOf K ts))) := fn_rawD F_law_cell sc_law_cell (fun cdv A outer s H E cc => b_law_cell (k := 0) (h_b_len := (He.free_ok X G (c.d.fact 18 rfl))) _ cdv A outer s H E cc) (fun ds S _ => .inr rfl)
  have B_law_cell := F_law_cell.bindsN (ps := ps_law_cell) fun _ _ _ _ _ _ us hl => match us, hl with | [_, _], _ => rfl
  have G_law_rounds : FnOk P w K mg base (L2N.CX P w) 2 _ fd_law_rounds ps_law_rounds (spM K 2 (f_law_rounds (csOf K ts))) := fn_rawD F_law_rounds sc_law_rounds (fun cdv A outer s H E cc => b_law_rounds (k := 1) (h_b_len := (He.free_ok X G (c.d.fact 18 rfl))) (h_b_max := (He.free_ok X G (c.d.fact 19 rfl))) (h_b_min := (He.free_ok X G (c.d.fact 20 rfl))) (h_b_range := (He.free_ok X G (c.d.fact 21 rfl))) (h_f_law_cell := ⟨_, _, _, G_law_cell.mono (by decide), He.glo_ok X G (c.d.fact 22 rfl), F_law_cell.kp, B_law_cell⟩) _ cdv A outer s H E cc) (fun ds S _ => .inr rfl)
  have B_law_rounds := F_law_rounds.bindsN (ps := ps_law_rounds) fun _ _ _ _ _ _ us hl => match us, hl with | [_, _], _ => rfl
  have G_is_number : FnOk P w K mg base (L2N.CX P w) 1 _ fd_is_number ps_is_number (spM K 3 (f_is_number (csOf K ts))) := fn_rawD F_is_number sc_is_number (fun cdv A outer s H E cc => b_is_number (k := 0) (h_b_bool := (He.free_ok X G (c.d.fact 23 rfl))) (h_b_int := (He.free_ok X G (c.d.fact 13 rfl))) (h_b_isinstance := (He.free_ok X G (c.d.fact 11 rfl))) _ cdv A outer s H E cc) (fun ds S _ => spec_is_number _ ds S)
  have B_is_number := F_is_number.bindsN (ps := ps_is_number) fun _ _ _ _ _ _ us hl => match us, hl with | [_, _, _], _ => rfl
  have G_need_number : FnOk P w K mg base (L2N.CX P w) 2 _ fd_need_number ps_need_number (spM K 3 (f_need_number (csOf K ts))) := fn_rawD F_need_number sc_need_number (fun cdv A outer s H E cc => b_need_number (k := 1) (h_f_is_number := ⟨_, _, _, G_is_number.mono (by decide), He.glo_ok X G (c.d.fact 24 rfl), F_is_number.kp, B_is_number⟩) (h_x_BadNumber := (let z := He.exc_ok (c.d.fact 25 rfl); ⟨z.1, He.glo_ok X G (c.d.fact 0 rfl), z.2.1, z.2.2.1, z.2.2.2⟩)) _ cdv A outer s H E cc) (fun ds S _ => spec_need_number _ ds S)
  have B_need_number := F_need_number.bindsN (ps := ps_need_number) fun _ _ _ _ _ _ us hl => match us, hl with | [_, _, _], _ => rfl
  have G_House___init__ : FnOk P w K mg base (L2N.CX P w) 3 _ fd_House___init__ ps_House___init__ (spM K 4 (f_House___init__ (csOf K ts))) := fn_rawD F_House___init__ sc_House___init__ (fun cdv A outer s H E cc => b_House___init__ (k := 2) (h_cl_House := (He.cls_ok (c.d.fact 26 rfl))) (h_f_need_number := ⟨_, _, _, G_need_number.mono (by decide), He.glo_ok X G (c.d.fact 27 rfl), F_need_number.kp, B_need_number⟩) (h_g_MOST_HANDS := (He.int_ok X G (c.d.fact 28 rfl))) (h_na_House_size := (He.noat_ok (c.d.fact 29 rfl))) (h_na_House_stock := (He.noat_ok (c.d.fact 30 rfl))) _ cdv A outer s H E cc) (fun ds S _ => .inr rfl)
  obtain ⟨ds_House___init___0, B_House___init___0⟩ := F_House___init__.binds1 (ps := ps_House___init__) 4 2 (List.cons_ne_nil _ _) rfl fun _ _ _ _ _ _ _ us its h1 h2 => match us, h1, its, h2 with | [_, _, _, _], _, [_, _], _ => ⟨_, rfl, rfl⟩
  have G_House_taken_in : FnOk P w K mg base (L2N.CX P w) 3 _ fd_House_taken_in ps_House_taken_in (spM K 2 (f_House_taken_in (csOf K ts))) := fn_rawD F_House_taken_in sc_House_taken_in (fun cdv A outer s H E cc => b_House_taken_in (k := 2) (h_b_len := (He.free_ok X G (c.d.fact 18 rfl))) (h_cl_House := (He.cls_ok (c.d.fact 26 rfl))) (h_full := (fun _ => FU (by decide))) (h_g_MOST_PIECES := (He.int_ok X G (c.d.fact 31 rfl))) (h_na_House_stock := (He.noat_ok (c.d.fact 30 rfl))) _ cdv A outer s H E cc) (fun ds S _ => spec_House_taken_in _ ds S)
  have B_House_taken_in := F_House_taken_in.bindsN (ps := ps_House_taken_in) fun _ _ _ _ _ _ us hl => match us, hl with | [_, _], _ => rfl
  have G_House_cloth : FnOk P w K mg base (L2N.CX P w) 4 _ fd_House_cloth ps_House_cloth (spM K 4 (f_House_cloth (csOf K ts))) := fn_rawD F_House_cloth sc_House_cloth (fun cdv A outer s H E cc => b_House_cloth (k := 3) (h_cl_House := (He.cls_ok (c.d.fact 26 rfl))) (h_f_is_number := ⟨_, _, _, G_is_number.mono (by decide), He.glo_ok X G (c.d.fact 24 rfl), F_is_number.kp, B_is_number⟩) (h_f_need_number := ⟨_, _, _, G_need_number.mono (by decide), He.glo_ok X G (c.d.fact 27 rfl), F_need_number.kp, B_need_number⟩) (h_g_MOST_BEATS := (He.int_ok X G (c.d.fact 32 rfl))) (h_g_MOST_HANDS := (He.int_ok X G (c.d.fact 28 rfl))) (h_m_House_taken_in := ⟨_, _, _, [], _, G_House_taken_in.mono (by decide), He.cls_ok (c.d.fact 26 rfl), He.meth_ok (c.d.fact 33 rfl), B_House_taken_in, .nil, relDs_nil⟩) (h_na_House_size := (He.noat_ok (c.d.fact 29 rfl))) (h_x_BadLine := (let z := He.exc_ok (c.d.fact 34 rfl); ⟨z.1, He.glo_ok X G (c.d.fact 1 rfl), z.2.1, z.2.2.1, z.2.2.2⟩)) _ cdv A outer s H E cc) (fun ds S _ => .inr rfl)
  obtain ⟨ds_House_cloth_0, B_House_cloth_0⟩ := F_House_cloth.binds1 (ps := ps_House_cloth) 4 2 (List.cons_ne_nil _ _) rfl fun _ _ _ _ _ _ _ us its h1 h2 => match us, h1, its, h2 with | [_, _, _, _], _, [_, _], _ => ⟨_, rfl, rfl⟩
  have G_House_numbers : FnOk P w K mg base (L2N.CX P w) 1 _ fd_House_numbers ps_House_numbers (spM K 1 (f_House_numbers (csOf K ts))) := fn_rawD F_House_numbers sc_House_numbers (fun cdv A outer s H E cc => b_House_numbers (k := 0) (h_cl_House := (He.cls_ok (c.d.fact 26 rfl))) (h_na_House_size := (He.noat_ok (c.d.fact 29 rfl))) _ cdv A outer s H E cc) (fun ds S _ => spec_House_numbers _ ds S)
  have B_House_numbers := F_House_numbers.bindsN (ps := ps_House_numbers) fun _ _ _ _ _ _ us hl => match us, hl with | [_], _ => rfl
  have G_House_pieces : FnOk P w K mg base (L2N.CX P w) 1 _ fd_House_pieces ps_House_pieces (spM K 1 (f_House_pieces (csOf K ts))) := fn_rawD F_House_pieces sc_House_pieces (fun cdv A outer s H E cc => b_House_pieces (k := 0) (h_b_list := (He.free_ok X G (c.d.fact 35 rfl))) (h_cl_House := (He.cls_ok (c.d.fact 26 rfl))) (h_na_House_stock := (He.noat_ok (c.d.fact 30 rfl))) _ cdv A outer s H E cc) (fun ds S _ => spec_House_pieces _ ds S)
  have B_House_pieces := F_House_pieces.bindsN (ps := ps_House_pieces) fun _ _ _ _ _ _ us hl => match us, hl with | [_], _ => rfl
  have G_House_truck : FnOk P w K mg base (L2N.CX P w) 4 _ fd_House_truck ps_House_truck (spM K 3 (f_House_truck (csOf K ts))) := fn_rawD F_House_truck sc_House_truck (fun cdv A outer s H E cc => b_House_truck (k := 3) (h_f_need_number := ⟨_, _, _, G_need_number.mono (by decide), He.glo_ok X G (c.d.fact 27 rfl), F_need_number.kp, B_need_number⟩) (h_g_MOST_BEATS := (He.int_ok X G (c.d.fact 32 rfl))) (h_g_MOST_HANDS := (He.int_ok X G (c.d.fact 28 rfl))) (h_m_House_taken_in := ⟨_, _, _, [], _, G_House_taken_in.mono (by decide), He.cls_ok (c.d.fact 26 rfl), He.meth_ok (c.d.fact 33 rfl), B_House_taken_in, .nil, relDs_nil⟩) _ cdv A outer s H E cc) (fun ds S _ => .inr rfl)
  obtain ⟨ds_House_truck_0, B_House_truck_0⟩ := F_House_truck.binds1 (ps := ps_House_truck) 3 2 (List.cons_ne_nil _ _) rfl fun _ _ _ _ _ _ _ us its h1 h2 => match us, h1, its, h2 with | [_, _, _], _, [_, _], _ => ⟨_, rfl, rfl⟩
  have G_law : FnOk P w K mg base (L2N.CX P w) 7 _ fd_law ps_law (spM K 1 (f_law (csOf K ts))) := fn_rawC F_law sc_law (fun cdv A outer s H E hcd cc => b_law (k := 2) (h_b_bool := (He.free_ok X G (c.d.fact 23 rfl))) (h_b_isinstance := (He.free_ok X G (c.d.fact 11 rfl))) (h_b_len := (He.free_ok X G (c.d.fact 18 rfl))) (h_b_range := (He.free_ok X G (c.d.fact 21 rfl))) (h_b_tuple := (He.free_ok X G (c.d.fact 36 rfl))) (h_f_law_roll := ⟨_, _, _, G_law_roll.mono (by decide), He.glo_ok X G (c.d.fact 37 rfl), F_law_roll.kp, B_law_roll⟩) (h_f_law_rounds := ⟨_, _, _, G_law_rounds.mono (by decide), He.glo_ok X G (c.d.fact 38 rfl), F_law_rounds.kp, B_law_rounds⟩) (h_k_House___init__ := ⟨_, _, _, [], _, He.mkr_ok (c.d.fact 39 rfl), G_House___init__.mono (by decide), He.glo_ok X G (c.d.fact 40 rfl), B_House___init___0.2, B_House___init___0.1, relDs_nil⟩) (h_m_House_cloth := ⟨_, _, _, [], _, G_House_cloth.mono (by decide), He.cls_ok (c.d.fact 26 rfl), He.meth_ok (c.d.fact 41 rfl), B_House_cloth_0.2, B_House_cloth_0.1, relDs_nil⟩) (h_m_House_numbers := ⟨_, _, _, [], _, G_House_numbers.mono (by decide), He.cls_ok (c.d.fact 26 rfl), He.meth_ok (c.d.fact 42 rfl), B_House_numbers, .nil, relDs_nil⟩) (h_m_House_pieces := ⟨_, _, _, [], _, G_House_pieces.mono (by decide), He.cls_ok (c.d.fact 26 rfl), He.meth_ok (c.d.fact 43 rfl), B_House_pieces, .nil, relDs_nil⟩) (h_m_House_truck := ⟨_, _, _, [], _, G_House_truck.mono (by decide), He.cls_ok (c.d.fact 26 rfl), He.meth_ok (c.d.fact 44 rfl), B_House_truck_0.2, B_House_truck_0.1, relDs_nil⟩) (h_told := (TO 2)) (h_tabq := rfl) _ cdv A outer s H E ⟨(ts.getD 0 (0, 0)).1, TB _ (ts_mem c.len (show 0 < 1 by decide)), hcd.symm.trans (code_of (p := ("law", none)) F_law (c.cd 0 _ _ rfl (ts_at c.len (show 0 < 1 by decide))))⟩ cc) (fun ds S _ => .inr rfl)
  have B_law := F_law.bindsN (ps := ps_law) fun _ _ _ _ _ _ us hl => match us, hl with | [_], _ => rfl
  exact G_law
end SF
open PySem PySem.W PySem.Calls PyProof.Rows
set_option maxHeartbeats 0 in
theorem PySem.Challenge.cw_sceneflies_k10_houses_holds : PySem.Challenge.rw_sceneflies_k10_houses.Holds := by
  w_on; o_law
  refine HandSHeadRun.head_any (r := OpenLaw.row PySem.Challenge.rw_sceneflies_k10_houses) (q := view (OpenLaw.row PySem.Challenge.rw_sceneflies_k10_houses).prog [27]) (H := SF.hk) (ob := SF.ob) (M := 6000) (loose := SF.names) (d := HandSHeadRun.topDef (OpenLaw.row PySem.Challenge.rw_sceneflies_k10_houses).prog 27) (kwd := []) SF.ob_eq
    (by kernel_rfl) (fun s => by kernel_rfl) SF.run (by kernel_rfl) (by kernel_rfl) (by kernel_rfl) (by rfl) (by first | assumption | decide +kernel) (by decide +kernel) ⟨rfl, rfl, rfl, rfl, rfl, by decide +kernel⟩ ?hw ?hc
  case hw => w_witness2
  case hc =>
    refine SF.walk_endT (l := PySem.Challenge.rw_sceneflies_k10_houses) (n := 63) (k := 7) (x := "script") rfl (by decide) (by kernel_rfl) ⟨rfl, by decide, by decide⟩ ?F
    case F =>
      intro w mg fa h Y G hmg0
      obtain ⟨K, ts, c⟩ := Y
      have hmg : mg ("law" : PySem.Str) = some (.ref fa) := by
        have e : (HandSHeadRun.topDef (OpenLaw.row PySem.Challenge.rw_sceneflies_k10_houses).prog 27).name = ("law" : PySem.Str) := by kernel_rfl
        rw [← e]
        exact hmg0
      obtain ⟨fd, hb, hF⟩ := SF.facts (P := (PySem.Challenge.rw_sceneflies_k10_houses).prog) (w := w) c.kin G hmg c
      exact ⟨K, fd, ts, _, c.kin, c.tab, c.no, c.code, hb, fun H a ns hl hT hS => SF.law_endT (n := 1) (tb := (SF.csOf K ts).tb) (SF.law_ok _ rfl) hl (fun j hj => hT _ (SF.ts_mem c.len hj)) (SF.tabs_inj c.len c.nd) hS, hF⟩
#print axioms PySem.Challenge.cw_sceneflies_k10_houses_holds

