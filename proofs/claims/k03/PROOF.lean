import PyProof.Rows.All
import Wide.All
import OpenK.AllK
import Wide.FinOn
import HandS.ForMost
import HandS.ForExc
import HandS.CallSlots
import HandS.IsInst
import HandS.Gcd
import HandS.Wide
import HandS.MakeKw
import HandS.TupAny
import HandS.Defaults
import HandS.Deep
import HandS.HeadEnd
import HandS.HeadHook1
import HandS.HeadHook2
import HandS.ExcIs
import HandS.Comp
import HandS.Conv
import HandS.Text
import HandS.StrMore
import HandS.FStr
import HandS.ClsMeth
import HandS.SlotsOwn
import KE.KCallOwn
import HandS.RaiseMore
import HandS.Dict
import HandS.Iter
import HandS.Property
import KE.KDictWalk
import PyProof.WalkInts
import PyProof.P3In
import HandS.HeadNt
import PySem.Challenge.RW_oddsward_k03_plain_books
import HandS.Head0
import HandS.Head1
import HandS.Head2
import HandS.Head3
import PyProof.Rows.StrCase
set_option Elab.async false
set_option linter.all false
set_option maxRecDepth 100000
set_option maxHeartbeats 4000000
set_option exponentiation.threshold 256
namespace L3
open PySem PySem.Spec PyProof.Rows L2

/-! ## values with their contents; the store of what may change -/
inductive D where
  | non | bl (b : Bool) | int (i : Int) | str (x : Str)
  | tup (ds : List D) | lst (ds : List D)
  | obj (C : Str) (fs : List (Str × D))
  | cell (p : Addr)
  | ty (n : String)
  | dK (kvs : List (Key × D)) | dT (kvs : List (List Key × D))
inductive MO where
  | lst (ds : List D)
  | dK (kvs : List (Key × D))
  | dT (kvs : List (List Key × D))
  | ins (C : Str) (fs : List (Str × D))
abbrev Sto := Addr → Option MO
abbrev Gm := List (Option D)
def put (O : Sto) (p : Addr) (o : MO) : Sto := fun q => if q = p then some o else O q
def del (O : Sto) (p : Addr) : Sto := fun q => if q = p then none else O q
theorem put_same {O : Sto} {p : Addr} {o : MO} : put O p o p = some o := by unfold put; rw [if_pos rfl]
theorem put_ne {O : Sto} {p q : Addr} {o : MO} (h : q ≠ p) : put O p o q = O q := by unfold put; rw [if_neg h]
theorem del_same {O : Sto} {p : Addr} : del O p p = none := by unfold del; rw [if_pos rfl]
theorem del_ne {O : Sto} {p q : Addr} (h : q ≠ p) : del O p q = O q := by unfold del; rw [if_neg h]
theorem put_put {O : Sto} {p : Addr} {o u : MO} : put (put O p o) p u = put O p u := by
  funext q; unfold put; split <;> rfl
theorem del_put {O : Sto} {p : Addr} {o : MO} (h : O p = none) : del (put O p o) p = O := by
  funext q; unfold del put; split
  · rename_i e; subst e; exact h.symm
  · rfl

inductive Is (K : PySem.W.Frag) (H : Hp) : V → D → Prop where
  | non : Is K H .non .non
  | bl (b : Bool) : Is K H (.bl b) (.bl b)
  | int (i : Int) : Is K H (.int i) (.int i)
  | str (x : Str) : Is K H (.str x) (.str x)
  | ty (n : String) : Is K H (.ty n) (.ty n)
  | cell (p : Addr) : Is K H (.ref p) (.cell p)
  | tup {a : Addr} {vs : List V} {ds : List D} (h : H a = some (.tup vs)) (l : vs.length = ds.length) (c : ∀ (i : Nat) (v : V) (d : D), vs[i]? = some v → ds[i]? = some d → Is K H v d) : Is K H (.ref a) (.tup ds)
  | lst {a : Addr} {vs : List V} {ds : List D} (h : SqL K H a vs) (l : vs.length = ds.length) (c : ∀ (i : Nat) (v : V) (d : D), vs[i]? = some v → ds[i]? = some d → Is K H v d) : Is K H (.ref a) (.lst ds)
  | obj {a dx : Addr} {C : Str} {vs : List (Str × V)} {ds : List (Str × D)} (h : H a = some (.ins (He.ga K C) dx vs)) (l : vs.map (·.1) = ds.map (·.1))
      (c : ∀ (i : Nat) (v : V) (d : D), (vs.map (·.2))[i]? = some v → (ds.map (·.2))[i]? = some d → Is K H v d) : Is K H (.ref a) (.obj C ds)
  | dK {a : Addr} {od : Obj} {ws : List (Key × V)} {kvs : List (Key × D)} (h : H a = some (.frz od (.dK ws))) (l : ws.map (·.1) = kvs.map (·.1))
      (c : ∀ (i : Nat) (v : V) (d : D), (ws.map (·.2))[i]? = some v → (kvs.map (·.2))[i]? = some d → Is K H v d) : Is K H (.ref a) (.dK kvs)
  | dT {a : Addr} {od : Obj} {ws : List (List Key × V)} {kvs : List (List Key × D)} (h : H a = some (.frz od (.dT ws))) (l : ws.map (·.1) = kvs.map (·.1))
      (c : ∀ (i : Nat) (v : V) (d : D), (ws.map (·.2))[i]? = some v → (kvs.map (·.2))[i]? = some d → Is K H v d) : Is K H (.ref a) (.dT kvs)
/-- lists, value by value -/
def Iss (K : PySem.W.Frag) (H : Hp) (vs : List V) (ds : List D) : Prop := vs.length = ds.length ∧ ∀ (i : Nat) (v : V) (d : D), vs[i]? = some v → ds[i]? = some d → Is K H v d
def RO (K : PySem.W.Frag) (H0 H : Hp) (p : Addr) : MO → Prop
  | .lst ds => ∃ vs, H p = some (.lst vs) ∧ Iss K H0 vs ds
  | .dK kvs => ∃ ws, H p = some (.dK ws) ∧ ws.map (·.1) = kvs.map (·.1) ∧ Iss K H0 (ws.map (·.2)) (kvs.map (·.2))
  | .dT kvs => ∃ ws, H p = some (.dT ws) ∧ ws.map (·.1) = kvs.map (·.1) ∧ Iss K H0 (ws.map (·.2)) (kvs.map (·.2))
  | .ins C fs => ∃ dx ws, H p = some (.ins (He.ga K C) dx ws) ∧ ws.map (·.1) = fs.map (·.1) ∧ Iss K H0 (ws.map (·.2)) (fs.map (·.2))
/-- H0: the part that stays for good; O: what is known of what may change -/
structure Sta (K : PySem.W.Frag) (H0 : Hp) (O : Sto) (H : Hp) : Prop where
  same : Same H0 H
  cell : ∀ p o, O p = some o → H0 p = none ∧ RO K H0 H p o
def EnvR (K : PySem.W.Frag) (H0 : Hp) (Γ : Gm) (σ : L2.St) : Prop := Γ.length = σ.length ∧ ∀ (i : Nat) (d : D), Γ[i]? = some (some d) → ∃ v, σ[i]? = some (some v) ∧ Is K H0 v d

section
variable {K : PySem.W.Frag} {H H' H0 H1 : Hp} {O : Sto} {v : V} {d : D} {vs : List V} {ds : List D} {p : Addr} {Γ : Gm} {σ : L2.St}
theorem same_rd {a : Addr} {u : HO} (e : Same H H') (h : Rd H a u) : Rd H' a u := by
  rcases h with h | ⟨o, h⟩
  · exact Or.inl (e a _ h)
  · exact Or.inr ⟨o, e a _ h⟩
theorem same_l {a : Addr} {xs : List V} (e : Same H H') (h : SqL K H a xs) : SqL K H' a xs := by
  rcases h with h | h
  · exact Or.inl (same_rd e h)
  · exact Or.inr h
theorem same_t {a : Addr} {xs : List V} (e : Same H H') (h : SqT K H a xs) : SqT K H' a xs := by
  rcases h with h | h
  · exact Or.inl (same_rd e h)
  · exact Or.inr h
theorem same_tt {a : Addr} {xs : List V} (e : Same H H') (h : H a = some (.tup xs)) : SqT K H' a xs := .inl (.inl (e _ _ h))
theorem Is.mono (e : Same H H') (h : Is K H v d) : Is K H' v d := by
  induction h with
  | non => exact .non
  | bl b => exact .bl b
  | int i => exact .int i
  | str x => exact .str x
  | ty n => exact .ty n
  | cell p => exact .cell p
  | tup h l c ih => exact .tup (e _ _ h) l ih
  | lst h l c ih => exact .lst (same_l e h) l ih
  | obj h l c ih => exact .obj (e _ _ h) l ih
  | dK h l c ih => exact .dK (e _ _ h) l ih
  | dT h l c ih => exact .dT (e _ _ h) l ih
theorem Iss.mono (e : Same H H') (h : Iss K H vs ds) : Iss K H' vs ds := ⟨h.1, fun i v d a b => (h.2 i v d a b).mono e⟩
theorem EnvR.mono (e : Same H H') (h : EnvR K H Γ σ) : EnvR K H' Γ σ := ⟨h.1, fun i d a => let ⟨v, q, r⟩ := h.2 i d a; ⟨v, q, r.mono e⟩⟩
theorem RO.mono {o : MO} (e : Same H0 H1) (h : RO K H0 H p o) : RO K H1 H p o := by
  cases o with
  | lst ds => obtain ⟨vs, a, b⟩ := h; exact ⟨vs, a, b.mono e⟩
  | dK kvs => obtain ⟨vs, a, k, b⟩ := h; exact ⟨vs, a, k, b.mono e⟩
  | dT kvs => obtain ⟨vs, a, k, b⟩ := h; exact ⟨vs, a, k, b.mono e⟩
  | ins C fs => obtain ⟨dx, vs, a, k, b⟩ := h; exact ⟨dx, vs, a, k, b.mono e⟩
theorem RO.some {o : MO} (h : RO K H0 H p o) : ∃ u, H p = Option.some u := by
  cases o with
  | lst ds => obtain ⟨vs, a, b⟩ := h; exact ⟨_, a⟩
  | dK kvs => obtain ⟨vs, a, b⟩ := h; exact ⟨_, a⟩
  | dT kvs => obtain ⟨vs, a, b⟩ := h; exact ⟨_, a⟩
  | ins C fs => obtain ⟨dx, vs, a, b⟩ := h; exact ⟨_, a⟩
theorem RO.at {o : MO} (e : H' p = H p) (h : RO K H0 H p o) : RO K H0 H' p o := by
  cases o with
  | lst ds => obtain ⟨vs, a, b⟩ := h; exact ⟨vs, e.trans a, b⟩
  | dK kvs => obtain ⟨vs, a, b⟩ := h; exact ⟨vs, e.trans a, b⟩
  | dT kvs => obtain ⟨vs, a, b⟩ := h; exact ⟨vs, e.trans a, b⟩
  | ins C fs => obtain ⟨dx, vs, a, b⟩ := h; exact ⟨dx, vs, e.trans a, b⟩
theorem Sta.free (s : Sta K H0 O H) (h : H p = none) : O p = none ∧ H0 p = none := by
  constructor
  · cases e : O p with
    | none => rfl
    | some o =>
      obtain ⟨_, r⟩ := s.cell p o e
      obtain ⟨u, q⟩ := r.some
      rw [h] at q; cases q
  · exact s.same.free h
theorem same_upd {o : HO} (h : H p = none) : Same H (upd H p o) := fun b u e => by rw [upd_ne (ne_of_none e h)]; exact e
theorem upd_mono {o : HO} (e : Same H H') : Same (upd H p o) (upd H' p o) := fun b u q => by
  by_cases hb : b = p
  · subst hb; rw [upd_same] at q ⊢; exact q
  · rw [upd_ne hb] at q ⊢; exact e b u q
/-- a new object that stays for good -/
theorem Sta.new0 {o : HO} (s : Sta K H0 O H) (h : H p = none) : Sta K (upd H0 p o) O (upd H p o) := by
  obtain ⟨ho, h0⟩ := s.free h
  refine ⟨upd_mono s.same, fun q u e => ?_⟩
  have ne : q ≠ p := by rintro rfl; rw [ho] at e; cases e
  obtain ⟨a, b⟩ := s.cell q u e
  exact ⟨by rw [upd_ne ne]; exact a, (b.mono (same_upd h0)).at (upd_ne ne)⟩
/-- a new object that may change -/
theorem Sta.newC {o : HO} {u : MO} (s : Sta K H0 O H) (h : H p = none) (r : RO K H0 (upd H p o) p u) : Sta K H0 (put O p u) (upd H p o) := by
  obtain ⟨ho, h0⟩ := s.free h
  refine ⟨s.same.trans (same_upd h), fun q w e => ?_⟩
  by_cases ne : q = p
  · subst ne; rw [put_same] at e; cases e; exact ⟨h0, r⟩
  · rw [put_ne ne] at e
    obtain ⟨a, b⟩ := s.cell q w e
    exact ⟨a, b.at (upd_ne ne)⟩
/-- an object changes -/
theorem Sta.set {o : HO} {u w : MO} (s : Sta K H0 O H) (h : O p = some w) (r : RO K H0 (upd H p o) p u) : Sta K H0 (put O p u) (upd H p o) := by
  obtain ⟨h0, _⟩ := s.cell p w h
  refine ⟨fun b x e => ?_, fun q x e => ?_⟩
  · have ne : b ≠ p := by rintro rfl; rw [h0] at e; cases e
    rw [upd_ne ne]; exact s.same b x e
  · by_cases ne : q = p
    · subst ne; rw [put_same] at e; cases e; exact ⟨h0, r⟩
    · rw [put_ne ne] at e
      obtain ⟨a, b⟩ := s.cell q x e
      exact ⟨a, b.at (upd_ne ne)⟩
/-- a new object that nobody speaks of -/
theorem Sta.more {o : HO} (s : Sta K H0 O H) (h : H p = none) : Sta K H0 O (upd H p o) := by
  obtain ⟨ho, h0⟩ := s.free h
  refine ⟨s.same.trans (same_upd h), fun q w e => ?_⟩
  have ne : q ≠ p := by rintro rfl; rw [ho] at e; cases e
  obtain ⟨a, b⟩ := s.cell q w e
  exact ⟨a, b.at (upd_ne ne)⟩
theorem Sta.forget {O' : Sto} (s : Sta K H0 O H) (h : ∀ p o, O' p = some o → O p = some o) : Sta K H0 O' H := ⟨s.same, fun p o e => s.cell p o (h p o e)⟩
theorem Iss.nil : Iss K H [] [] := ⟨rfl, fun i v d a _ => by simp at a⟩
theorem Iss.cons (a : Is K H v d) (b : Iss K H vs ds) : Iss K H (v :: vs) (d :: ds) := by
  refine ⟨by simp [b.1], fun i w e h1 h2 => ?_⟩
  cases i with
  | zero => simp at h1 h2; subst h1 h2; exact a
  | succ i => simp at h1 h2; exact b.2 i w e h1 h2
theorem Iss.get {i : Nat} (h : Iss K H vs ds) (e : ds[i]? = some d) : ∃ v, vs[i]? = some v ∧ Is K H v d := by
  have hi : i < vs.length := by rw [h.1]; exact (List.getElem?_eq_some_iff.mp e).1
  exact ⟨vs[i], List.getElem?_eq_getElem hi, h.2 i _ _ (List.getElem?_eq_getElem hi) e⟩
theorem Iss.uncons {w : List V} (h : Iss K H w (d :: ds)) : ∃ v vs, w = v :: vs ∧ Is K H v d ∧ Iss K H vs ds := by
  cases w with
  | nil => have := h.1; simp at this
  | cons v vs =>
    refine ⟨v, vs, rfl, h.2 0 v d rfl rfl, by have := h.1; simpa using this, fun i a b p q => h.2 (i + 1) a b (by simpa using p) (by simpa using q)⟩
theorem Iss.unnil {w : List V} (h : Iss K H w []) : w = [] := by
  have := h.1; simp at this; exact this
theorem Iss.append {us : List V} {es : List D} (a : Iss K H vs ds) (b : Iss K H us es) : Iss K H (vs ++ us) (ds ++ es) := by
  refine ⟨by simp [a.1, b.1], fun i v d h1 h2 => ?_⟩
  by_cases hi : i < vs.length
  · rw [List.getElem?_append_left hi] at h1
    rw [List.getElem?_append_left (by rw [← a.1]; exact hi)] at h2
    exact a.2 i v d h1 h2
  · have hi : vs.length ≤ i := Nat.le_of_not_lt hi
    rw [List.getElem?_append_right hi] at h1
    rw [List.getElem?_append_right (by rw [← a.1]; exact hi)] at h2
    rw [a.1] at h1
    exact b.2 _ v d h1 h2
theorem Iss.set {i : Nat} (a : Iss K H vs ds) (b : Is K H v d) : Iss K H (vs.set i v) (ds.set i d) := by
  refine ⟨by simp [a.1], fun j w e h1 h2 => ?_⟩
  by_cases hj : i = j
  · subst hj
    by_cases hl : i < vs.length
    · rw [List.getElem?_set_self hl] at h1
      rw [List.getElem?_set_self (by rw [← a.1]; exact hl)] at h2
      cases h1; cases h2; exact b
    · rw [List.getElem?_eq_none (by simpa using Nat.le_of_not_lt hl)] at h1; cases h1
  · rw [List.getElem?_set_ne hj] at h1 h2
    exact a.2 j w e h1 h2
theorem Iss.take {n : Nat} (a : Iss K H vs ds) : Iss K H (vs.take n) (ds.take n) := by
  refine ⟨by simp [a.1], fun i v d h1 h2 => ?_⟩
  rw [List.getElem?_take] at h1 h2
  split at h1
  · rename_i q; rw [if_pos q] at h2; exact a.2 i v d h1 h2
  · cases h1
theorem Iss.drop {n : Nat} (a : Iss K H vs ds) : Iss K H (vs.drop n) (ds.drop n) := by
  refine ⟨by simp [a.1], fun i v d h1 h2 => ?_⟩
  rw [List.getElem?_drop] at h1 h2
  exact a.2 _ v d h1 h2
theorem EnvR.get {i : Nat} (h : EnvR K H Γ σ) (e : Γ[i]? = some (some d)) : ∃ v, σ[i]? = some (some v) ∧ Is K H v d := h.2 i d e
theorem EnvR.set {i : Nat} (h : EnvR K H Γ σ) (r : Is K H v d) : EnvR K H (Γ.set i (some d)) (σ.set i (some v)) := by
  refine ⟨by simp [h.1], fun j e q => ?_⟩
  by_cases hj : i = j
  · subst hj
    have hl : i < Γ.length := by
      have := (List.getElem?_eq_some_iff.mp q).1
      simpa using this
    rw [List.getElem?_set_self hl] at q
    cases q
    exact ⟨v, List.getElem?_set_self (by rw [← h.1]; exact hl), r⟩
  · rw [List.getElem?_set_ne hj] at q
    obtain ⟨w, a, b⟩ := h.2 j e q
    exact ⟨w, by rw [List.getElem?_set_ne hj]; exact a, b⟩
theorem EnvR.unset {i : Nat} {o : Option V} (h : EnvR K H Γ σ) : EnvR K H (Γ.set i none) (σ.set i o) := by
  refine ⟨by simp [h.1], fun j e q => ?_⟩
  by_cases hj : i = j
  · subst hj
    by_cases hl : i < Γ.length
    · rw [List.getElem?_set_self hl] at q; cases q
    · rw [List.getElem?_eq_none (by simpa using Nat.le_of_not_lt hl)] at q; cases q
  · rw [List.getElem?_set_ne hj] at q
    obtain ⟨w, a, b⟩ := h.2 j e q
    exact ⟨w, by rw [List.getElem?_set_ne hj]; exact a, b⟩
theorem Is.notup {a : Addr} (h : Is K H (.ref a) d) : (∃ ds, d = .tup ds) ∨ (∃ ds, d = .lst ds) ∨ (∃ C fs, d = .obj C fs) ∨ d = .cell a ∨ (∃ k, d = .dK k) ∨ ∃ k, d = .dT k := by
  cases h with
  | cell => exact .inr (.inr (.inr (.inl rfl)))
  | dK => exact .inr (.inr (.inr (.inr (.inl ⟨_, rfl⟩))))
  | dT => exact .inr (.inr (.inr (.inr (.inr ⟨_, rfl⟩))))
  | tup => exact .inl ⟨_, rfl⟩
  | lst => exact .inr (.inl ⟨_, rfl⟩)
  | obj => exact .inr (.inr (.inl ⟨_, _, rfl⟩))
end
end L3

namespace L3
open PySem PySem.Spec PyProof.Rows L2

/-! ## readings by contents -/
abbrev PX := Str → List (Str × D) → Sto → Prop
abbrev PV := D → Sto → Prop
abbrev ME := PX → Gm → Sto → PV → Prop
abbrev MT := PX → Gm → Sto → (Bool → Sto → Prop) → Prop
abbrev MA := PX → Gm → Sto → (List D → Sto → Prop) → Prop
/-- an error's own dict -/
def XOk (K : PySem.W.Frag) (H0 H : Hp) (oe : Option Addr) (fs : List (Str × D)) : Prop :=
  (fs = [] ∧ oe = none) ∨ fs ≠ [] ∧ ∃ d ws, oe = some d ∧ H d = some (.xd ws) ∧ ws.map (·.1) = fs.map (·.1) ∧ Iss K H0 (ws.map (·.2)) (fs.map (·.2))
def LinkX (K : PySem.W.Frag) (W : WX) (H0 : Hp) (σ : L2.St) (X : PX) : Prop := ∀ (H1 : Hp) (C : Str) (fs : List (Str × D)) (O : Sto) (oe : Option Addr) (H : Hp), Same H0 H1 → Sta K H1 O H → XOk K H1 H oe fs → X C fs O → W (.ref (He.ga K C)) oe σ H
def LinkV (K : PySem.W.Frag) (H0 : Hp) (P : PV) (Q : VK) : Prop := ∀ (H1 : Hp) (v : V) (d : D) (O : Sto) (H : Hp), Same H0 H1 → Is K H1 v d → Sta K H1 O H → P d O → Q v H
def LinkB (K : PySem.W.Frag) (H0 : Hp) (P : Bool → Sto → Prop) (Q : Bool → Hp → Prop) : Prop := ∀ (H1 : Hp) (b : Bool) (O : Sto) (H : Hp), Same H0 H1 → Sta K H1 O H → P b O → Q b H
def LinkA (K : PySem.W.Frag) (H0 : Hp) (P : List D → Sto → Prop) (Q : List V → Hp → Prop) : Prop := ∀ (H1 : Hp) (vs : List V) (ds : List D) (O : Sto) (H : Hp), Same H0 H1 → Iss K H1 vs ds → Sta K H1 O H → P ds O → Q vs H
theorem LinkX.mono {K : PySem.W.Frag} {W : WX} {H0 H1 : Hp} {σ : L2.St} {X : PX} (e : Same H0 H1) (l : LinkX K W H0 σ X) : LinkX K W H1 σ X := fun H2 C fs O oe H s a b c => l H2 C fs O oe H (e.trans s) a b c
def r3E (K : PySem.W.Frag) (W : WX) (m : ME) : TE := fun σ H Q => ∃ Γ O H0 X P, EnvR K H0 Γ σ ∧ Sta K H0 O H ∧ m X Γ O P ∧ LinkX K W H0 σ X ∧ LinkV K H0 P Q
def r3T (K : PySem.W.Frag) (W : WX) (m : MT) : TT := fun σ H Q => ∃ Γ O H0 X P, EnvR K H0 Γ σ ∧ Sta K H0 O H ∧ m X Γ O P ∧ LinkX K W H0 σ X ∧ LinkB K H0 P Q
def r3A (K : PySem.W.Frag) (W : WX) (m : MA) : TA := fun σ H Q => ∃ Γ O H0 X P, EnvR K H0 Γ σ ∧ Sta K H0 O H ∧ m X Γ O P ∧ LinkX K W H0 σ X ∧ LinkA K H0 P Q
theorem peW {X : Cx} {e : Expr} {t t' : TE} (h : PE X e t) (w : ∀ σ H Q, t' σ H Q → t σ H Q) : PE X e t' := ⟨fun pins s σ H Q I q => h.run pins s σ H Q I (w σ H Q q)⟩
theorem ptW {X : Cx} {e : Expr} {t t' : TT} (h : PT X e t) (w : ∀ σ H Q, t' σ H Q → t σ H Q) : PT X e t' := ⟨fun pins s σ H Q I q => h.run pins s σ H Q I (w σ H Q q)⟩
theorem pwW {X : Cx} {e : Expr} {t t' : TT} (h : PW X e t) (w : ∀ σ H Q, t' σ H Q → t σ H Q) : PW X e t' := ⟨fun wh pins s σ H Q I q => h.run wh pins s σ H Q I (w σ H Q q)⟩
theorem paW {X : Cx} {e : List Expr} {t t' : TA} (h : PA X e t) (w : ∀ σ H Q, t' σ H Q → t σ H Q) : PA X e t' := ⟨fun p pins s σ H Q I q => h.run p pins s σ H Q I (w σ H Q q)⟩
theorem psW {X : Cx} {e : Stmt} {t t' : TS} (h : PS X e t) (w : ∀ D σ H, t' D σ H → t D σ H) : PS X e t' := ⟨fun pins s σ H D I q => h.run pins s σ H D I (w D σ H q)⟩
theorem pssW {X : Cx} {e : List Stmt} {t t' : TS} (h : PSs X e t) (w : ∀ D σ H, t' D σ H → t D σ H) : PSs X e t' := ⟨fun pins s σ H D I q => h.run pins s σ H D I (w D σ H q)⟩

/-! ### what a part leaves: the same context, further on -/
section
variable {X : Cx} {W : WX} {pos : Pos}

/-! ### names, constants -/
def mVar (i : Nat) : ME := fun _ Γ O Q => match Γ[i]? with
  | some (some d) => Q d O
  | _ => False
def mC (d : D) : ME := fun _ _ O Q => Q d O
theorem pe3_var {i : Nat} {x : Str} (h : PE X (.Name x pos) (tVar i)) : PE X (.Name x pos) (r3E X.K W (mVar i)) := by
  refine peW h fun σ H Q ⟨Γ, O, H0, Z, P, env, st, hm, lx, lv⟩ => ?_
  unfold mVar at hm
  cases e : Γ[i]? with
  | none => rw [e] at hm; exact hm.elim
  | some o =>
    cases o with
    | none => rw [e] at hm; exact hm.elim
    | some d =>
      rw [e] at hm
      obtain ⟨v, e1, is⟩ := env.get e
      exact ⟨v, e1, lv H0 v d O H (Same.refl _) is st hm⟩
theorem pe3_c {e : Expr} {v : V} {d : D} (h : PE X e (tC v)) (is : ∀ H, Is X.K H v d) : PE X e (r3E X.K W (mC d)) :=
  peW h fun σ H Q ⟨Γ, O, H0, Z, P, env, st, hm, lx, lv⟩ => lv H0 v d O H (Same.refl _) (is _) st hm

/-! ### two parts, an operation by contents -/
abbrev F2 := D → D → Sto → PV → Prop
abbrev F1 := D → Sto → PV → Prop
def mOp (f : F2) (ma mb : ME) : ME := fun X Γ O Q => ma X Γ O fun x O1 => mb X Γ O1 fun y O2 => f x y O2 Q
def mUn (f : F1) (ma : ME) : ME := fun X Γ O Q => ma X Γ O fun x O1 => f x O1 Q
def Rep2 (K : PySem.W.Frag) (r : R2) (f : F2) : Prop := ∀ (H0 : Hp) (O : Sto) (H : Hp) (x y : V) (a b : D) (P : PV) (Q : VK), Sta K H0 O H → Is K H0 x a → Is K H0 y b → f a b O P → LinkV K H0 P Q → r x y H Q
def Rep1 (K : PySem.W.Frag) (r : V → Hp → VK → Prop) (f : F1) : Prop := ∀ (H0 : Hp) (O : Sto) (H : Hp) (x : V) (a : D) (P : PV) (Q : VK), Sta K H0 O H → Is K H0 x a → f a O P → LinkV K H0 P Q → r x H Q
theorem two {K : PySem.W.Frag} {f : F2} {ma mb : ME} {r : R2} (R : Rep2 K r f) {σ : L2.St} {H : Hp} {Q : VK} (h : r3E K W (mOp f ma mb) σ H Q) : r3E K W ma σ H fun x H1 => r3E K W mb σ H1 fun y H2 => r x y H2 Q := by
  obtain ⟨Γ, O, H0, Z, P, env, st, hm, lx, lv⟩ := h
  refine ⟨Γ, O, H0, Z, _, env, st, hm, lx, fun H1 v d O1 H' s1 is1 st1 hm1 => ?_⟩
  refine ⟨Γ, O1, H1, Z, _, env.mono s1, st1, hm1, lx.mono s1, fun H2 w e O2 H'' s2 is2 st2 hm2 => ?_⟩
  exact R H2 O2 H'' v w d e P Q st2 (is1.mono s2) is2 hm2 fun H3 u c O3 H3' s3 is3 st3 hp => lv H3 u c O3 H3' ((s1.trans s2).trans s3) is3 st3 hp
theorem one {K : PySem.W.Frag} {f : F1} {ma : ME} {r : V → Hp → VK → Prop} (R : Rep1 K r f) {σ : L2.St} {H : Hp} {Q : VK} (h : r3E K W (mUn f ma) σ H Q) : r3E K W ma σ H fun x H1 => r x H1 Q := by
  obtain ⟨Γ, O, H0, Z, P, env, st, hm, lx, lv⟩ := h
  refine ⟨Γ, O, H0, Z, _, env, st, hm, lx, fun H1 v d O1 H' s1 is1 st1 hm1 => ?_⟩
  exact R H1 O1 H' v d P Q st1 is1 hm1 fun H3 u c O3 H3' s3 is3 st3 hp => lv H3 u c O3 H3' (s1.trans s3) is3 st3 hp
theorem pe3_op {a b : Expr} {op : Operator} {r : R2} {f : F2} {ma mb : ME} (ho : OpR X (binaryOp op) r) (R : Rep2 X.K r f) (ha : PE X a (r3E X.K W ma)) (hb : PE X b (r3E X.K W mb)) : PE X (.BinOp a op b pos) (r3E X.K W (mOp f ma mb)) :=
  peW (pe_op ho ha hb) fun σ H Q h => two R h
theorem pe3_un {a : Expr} {op : UnaryOp} {r : V → Hp → VK → Prop} {f : F1} {ma : ME} (ho : UnR X (unaryOp op) r) (R : Rep1 X.K r f) (ha : PE X a (r3E X.K W ma)) : PE X (.UnaryOp op a pos) (r3E X.K W (mUn f ma)) :=
  peW (pe_un ho ha) fun σ H Q h => one R h
theorem pe3_cmp {a b : Expr} {op : CmpOp} {r : R2} {f : F2} {ma mb : ME} (ho : OpR X (compareOp op) r) (R : Rep2 X.K r f) (ha : PE X a (r3E X.K W ma)) (hb : PE X b (r3E X.K W mb)) (hm : behindInMarks op b = false) : PE X (.Compare a [op] [b] pos) (r3E X.K W (mOp f ma mb)) :=
  peW (pe_cmpR ho ha hb hm) fun σ H Q h => two R h
/-- a value that is True or False, as a test -/
def mB (m : ME) : MT := fun X Γ O Q => m X Γ O fun x O1 => match x with
  | .bl b => Q b O1
  | _ => False
theorem pt3_B {e : Expr} {t : TE} {m : ME} (h : PT X e (tTest t)) (w : ∀ σ H Q, r3E X.K W m σ H Q → t σ H Q) : PT X e (r3T X.K W (mB m)) := by
  refine ptW h fun σ H Q ⟨Γ, O, H0, Z, P, env, st, hm, lx, lv⟩ => w σ H _ ?_
  refine ⟨Γ, O, H0, Z, _, env, st, hm, lx, fun H1 v d O1 H' s1 is1 st1 hm1 => ?_⟩
  cases is1 with
  | bl b => exact ⟨b, rfl, lv H1 b O1 H' s1 st1 hm1⟩
  | _ => exact hm1.elim
theorem pt3_cmp {a b : Expr} {op : CmpOp} {r : R2} {f : F2} {ma mb : ME} (ho : OpR X (compareOp op) r) (R : Rep2 X.K r f) (ha : PE X a (r3E X.K W ma)) (hb : PE X b (r3E X.K W mb)) (hm : behindInMarks op b = false) : PT X (.Compare a [op] [b] pos) (r3T X.K W (mB (mOp f ma mb))) :=
  pt3_B (pt_cmpR ho ha hb hm) fun σ H Q h => two R h
/-- two comparisons in a row -/
def mChain (f g : F2) (ma mb mc : ME) : ME := fun X Γ O Q => ma X Γ O fun x O1 => mb X Γ O1 fun y O2 => f x y O2 fun k O3 => match k with
  | .bl true => mc X Γ O3 fun z O4 => g y z O4 Q
  | .bl false => Q (.bl false) O3
  | _ => False
theorem three {K : PySem.W.Frag} {f g : F2} {ma mb mc : ME} {r r' : R2} (R : Rep2 K r f) (R' : Rep2 K r' g) {σ : L2.St} {H : Hp} {Q : VK} (h : r3E K W (mChain f g ma mb mc) σ H Q) : tChain r r' (r3E K W ma) (r3E K W mb) (r3E K W mc) σ H Q := by
  obtain ⟨Γ, O, H0, Z, P, env, st, hm, lx, lv⟩ := h
  refine ⟨Γ, O, H0, Z, _, env, st, hm, lx, fun H1 v d O1 H' s1 is1 st1 hm1 => ?_⟩
  refine ⟨Γ, O1, H1, Z, _, env.mono s1, st1, hm1, lx.mono s1, fun H2 w e O2 H'' s2 is2 st2 hm2 => ?_⟩
  refine R H2 O2 H'' v w d e _ _ st2 (is1.mono s2) is2 hm2 fun H3 u c O3 H3' s3 is3 st3 hp => ?_
  have s13 := (s1.trans s2).trans s3
  cases is3 with
  | bl k =>
    refine ⟨k, rfl, ?_⟩
    cases k with
    | true =>
      rw [if_pos rfl]
      refine ⟨Γ, O3, H3, Z, _, env.mono s13, st3, hp, lx.mono s13, fun H4 z e4 O4 H4' s4 is4 st4 hm4 => ?_⟩
      exact R' H4 O4 H4' w z e e4 P Q st4 (is2.mono (s3.trans s4)) is4 hm4 fun H5 u c O5 H5' s5 is5 st5 hp => lv H5 u c O5 H5' ((s13.trans s4).trans s5) is5 st5 hp
    | false =>
      rw [if_neg Bool.false_ne_true]
      exact lv H3 _ _ O3 H3' s13 (.bl false) st3 hp
  | _ => exact hp.elim
theorem pe3_chain {a b c : Expr} {op op' : CmpOp} {r r' : R2} {f g : F2} {ma mb mc : ME} (h : PE X (.Compare a [op, op'] [b, c] pos) (tChain r r' (r3E X.K W ma) (r3E X.K W mb) (r3E X.K W mc))) (R : Rep2 X.K r f) (R' : Rep2 X.K r' g) :
    PE X (.Compare a [op, op'] [b, c] pos) (r3E X.K W (mChain f g ma mb mc)) := peW h fun σ H Q h => three R R' h
theorem pt3_chain {a b c : Expr} {op op' : CmpOp} {r r' : R2} {f g : F2} {ma mb mc : ME} (h : PT X (.Compare a [op, op'] [b, c] pos) (tTest (tChain r r' (r3E X.K W ma) (r3E X.K W mb) (r3E X.K W mc)))) (R : Rep2 X.K r f) (R' : Rep2 X.K r' g) :
    PT X (.Compare a [op, op'] [b, c] pos) (r3T X.K W (mB (mChain f g ma mb mc))) := pt3_B h fun σ H Q h => three R R' h

/-! ### tests -/
/-- truth by contents -/
def truD (O : Sto) : D → Option Bool
  | .non => some false
  | .bl b => some b
  | .int i => some (i != 0)
  | .lst ds => some (!ds.isEmpty)
  | .tup ds => some (!ds.isEmpty)
  | .cell p => match O p with
    | some (.lst ds) => some (!ds.isEmpty)
    | some (.dK ds) => some (!ds.isEmpty)
    | _ => none
  | _ => none
def mTru (m : ME) : MT := fun X Γ O Q => m X Γ O fun x O1 => match truD O1 x with
  | some b => Q b O1
  | none => False
theorem Iss.isEmpty {K : PySem.W.Frag} {H : Hp} {vs : List V} {ds : List D} (h : Iss K H vs ds) : vs.isEmpty = ds.isEmpty := by
  have := h.1
  cases vs <;> cases ds <;> simp at this ⊢
theorem tru3 {K : PySem.W.Frag} {H0 H : Hp} {O : Sto} {x : V} {d : D} {b : Bool} (st : Sta K H0 O H) (is : Is K H0 x d) (e : truD O d = some b) : TruV K x H b := by
  cases is with
  | non => cases e; rfl
  | bl c => cases e; rfl
  | int i => cases e; rfl
  | str x => cases e
  | ty n => cases e
  | cell p =>
    have e2 : (match O p with
      | some (.lst ds) => some (!ds.isEmpty)
      | some (.dK ds) => some (!ds.isEmpty)
      | _ => none) = some b := e
    cases q : O p with
    | none => rw [q] at e2; cases e2
    | some u =>
      rw [q] at e2
      obtain ⟨_, r⟩ := st.cell p u q
      cases u with
      | lst ds =>
        obtain ⟨vs, h1, h2⟩ := r
        cases e2
        exact .inl ⟨vs, SqL.of h1, by rw [h2.isEmpty]⟩
      | dK kvs =>
        obtain ⟨ws, h1, h2, h3⟩ := r
        cases e2
        refine .inr (.inr ⟨ws, h1, ?_⟩)
        have := congrArg List.isEmpty h2
        simpa using this.symm
      | dT kvs => cases e2
      | ins C fs => cases e2
  | tup h l c =>
    cases e
    exact .inr (.inl ⟨_, same_tt st.same h, by rw [Iss.isEmpty (⟨l, c⟩ : Iss K H0 _ _)]⟩)
  | lst h l c =>
    cases e
    exact .inl ⟨_, same_l st.same h, by rw [Iss.isEmpty (⟨l, c⟩ : Iss K H0 _ _)]⟩
  | obj h l c => cases e
  | dK h l c => cases e
  | dT h l c => cases e
theorem pt3_tru {e : Expr} {m : ME} (h : PE X e (r3E X.K W m)) (he : ∀ whole, isTrue e X.env whole = (do let v ← whole; standAt e.pos; holding [v] (truthy v))) : PT X e (r3T X.K W (mTru m)) := by
  refine ptW (pt_truth h he) fun σ H Q ⟨Γ, O, H0, Z, P, env, st, hm, lx, lv⟩ => ?_
  refine ⟨Γ, O, H0, Z, _, env, st, hm, lx, fun H1 v d O1 H' s1 is1 st1 hm1 => ?_⟩
  have hm2 : (match truD O1 d with
    | some b => P b O1
    | none => False) := hm1
  cases e : truD O1 d with
  | none => rw [e] at hm2; exact hm2.elim
  | some b => rw [e] at hm2; exact ⟨b, tru3 st1 is1 e, lv H1 b O1 H' s1 st1 hm2⟩
def mAnd (a b : MT) : MT := fun X Γ O Q => a X Γ O fun k O1 => if k = true then b X Γ O1 Q else Q false O1
def mOr (a b : MT) : MT := fun X Γ O Q => a X Γ O fun k O1 => if k = true then Q true O1 else b X Γ O1 Q
def mNot (a : MT) : MT := fun X Γ O Q => a X Γ O fun k O1 => Q (!k) O1
theorem LinkB.mono {K : PySem.W.Frag} {H0 H1 : Hp} {P : Bool → Sto → Prop} {Q : Bool → Hp → Prop} (e : Same H0 H1) (l : LinkB K H0 P Q) : LinkB K H1 P Q := fun H2 b O H s st p => l H2 b O H (e.trans s) st p
theorem LinkV.mono {K : PySem.W.Frag} {H0 H1 : Hp} {P : PV} {Q : VK} (e : Same H0 H1) (l : LinkV K H0 P Q) : LinkV K H1 P Q := fun H2 v b O H s is st p => l H2 v b O H (e.trans s) is st p
theorem LinkA.mono {K : PySem.W.Frag} {H0 H1 : Hp} {P : List D → Sto → Prop} {Q : List V → Hp → Prop} (e : Same H0 H1) (l : LinkA K H0 P Q) : LinkA K H1 P Q := fun H2 v b O H s is st p => l H2 v b O H (e.trans s) is st p
theorem pt3_not {a : Expr} {ta : MT} (ha : PT X a (r3T X.K W ta)) : PT X (.UnaryOp .Not a pos) (r3T X.K W (mNot ta)) := by
  refine ptW (pt_not ha) fun σ H Q ⟨Γ, O, H0, Z, P, env, st, hm, lx, lv⟩ => ?_
  exact ⟨Γ, O, H0, Z, _, env, st, hm, lx, fun H1 b O1 H' s1 st1 hm1 => lv H1 _ O1 H' s1 st1 hm1⟩
theorem pw3_and1 {a : Expr} {ta : MT} (ha : PT X a (r3T X.K W ta)) : PW X (.BoolOp .And [a] pos) (r3T X.K W ta) := pw_and1 ha
theorem pw3_or1 {a : Expr} {ta : MT} (ha : PT X a (r3T X.K W ta)) : PW X (.BoolOp .Or [a] pos) (r3T X.K W ta) := pw_or1 ha
theorem pw3_and {a b : Expr} {rest : List Expr} {ta tb : MT} (ha : PT X a (r3T X.K W ta)) (hb : PW X (.BoolOp .And (b :: rest) pos) (r3T X.K W tb)) : PW X (.BoolOp .And (a :: b :: rest) pos) (r3T X.K W (mAnd ta tb)) := by
  refine pwW (pw_and ha hb) fun σ H Q ⟨Γ, O, H0, Z, P, env, st, hm, lx, lv⟩ => ?_
  refine ⟨Γ, O, H0, Z, _, env, st, hm, lx, fun H1 b O1 H' s1 st1 hm1 => ?_⟩
  cases b with
  | true => rw [if_pos rfl] at hm1 ⊢; exact ⟨Γ, O1, H1, Z, _, env.mono s1, st1, hm1, lx.mono s1, lv.mono s1⟩
  | false => rw [if_neg Bool.false_ne_true] at hm1 ⊢; exact lv H1 false O1 H' s1 st1 hm1
theorem pw3_or {a b : Expr} {rest : List Expr} {ta tb : MT} (ha : PT X a (r3T X.K W ta)) (hb : PW X (.BoolOp .Or (b :: rest) pos) (r3T X.K W tb)) : PW X (.BoolOp .Or (a :: b :: rest) pos) (r3T X.K W (mOr ta tb)) := by
  refine pwW (pw_or ha hb) fun σ H Q ⟨Γ, O, H0, Z, P, env, st, hm, lx, lv⟩ => ?_
  refine ⟨Γ, O, H0, Z, _, env, st, hm, lx, fun H1 b O1 H' s1 st1 hm1 => ?_⟩
  cases b with
  | true => rw [if_pos rfl] at hm1 ⊢; exact lv H1 true O1 H' s1 st1 hm1
  | false => rw [if_neg Bool.false_ne_true] at hm1 ⊢; exact ⟨Γ, O1, H1, Z, _, env.mono s1, st1, hm1, lx.mono s1, lv.mono s1⟩

/-! ### and, or, not as values (all but the last True or False); a if t else b -/
def mAndV (ma mb : ME) : ME := fun X Γ O Q => ma X Γ O fun x O1 => match x with
  | .bl true => mb X Γ O1 Q
  | .bl false => Q (.bl false) O1
  | _ => False
def mOrV (ma mb : ME) : ME := fun X Γ O Q => ma X Γ O fun x O1 => match x with
  | .bl true => Q (.bl true) O1
  | .bl false => mb X Γ O1 Q
  | _ => False
def mNotV (ma : ME) : ME := fun X Γ O Q => ma X Γ O fun x O1 => match x with
  | .bl b => Q (.bl (!b)) O1
  | _ => False
def mIfE (t : MT) (ma mb : ME) : ME := fun X Γ O Q => t X Γ O fun k O1 => if k = true then ma X Γ O1 Q else mb X Γ O1 Q
theorem pe3_and {a b : Expr} {rest : List Expr} {ma mb : ME} (ha : PE X a (r3E X.K W ma)) (hb : PE X (.BoolOp .And (b :: rest) pos) (r3E X.K W mb)) : PE X (.BoolOp .And (a :: b :: rest) pos) (r3E X.K W (mAndV ma mb)) := by
  refine peW (pe_and ha hb) fun σ H Q ⟨Γ, O, H0, Z, P, env, st, hm, lx, lv⟩ => ?_
  refine ⟨Γ, O, H0, Z, _, env, st, hm, lx, fun H1 v d O1 H' s1 is1 st1 hm1 => ?_⟩
  cases is1 with
  | bl b =>
    refine ⟨b, rfl, ?_⟩
    cases b with
    | true => rw [if_pos rfl]; exact ⟨Γ, O1, H1, Z, _, env.mono s1, st1, hm1, lx.mono s1, lv.mono s1⟩
    | false => rw [if_neg Bool.false_ne_true]; exact lv H1 _ _ O1 H' s1 (.bl false) st1 hm1
  | _ => exact hm1.elim
theorem pe3_or {a b : Expr} {rest : List Expr} {ma mb : ME} (ha : PE X a (r3E X.K W ma)) (hb : PE X (.BoolOp .Or (b :: rest) pos) (r3E X.K W mb)) : PE X (.BoolOp .Or (a :: b :: rest) pos) (r3E X.K W (mOrV ma mb)) := by
  refine peW (pe_or ha hb) fun σ H Q ⟨Γ, O, H0, Z, P, env, st, hm, lx, lv⟩ => ?_
  refine ⟨Γ, O, H0, Z, _, env, st, hm, lx, fun H1 v d O1 H' s1 is1 st1 hm1 => ?_⟩
  cases is1 with
  | bl b =>
    refine ⟨b, rfl, ?_⟩
    cases b with
    | true => rw [if_pos rfl]; exact lv H1 _ _ O1 H' s1 (.bl true) st1 hm1
    | false => rw [if_neg Bool.false_ne_true]; exact ⟨Γ, O1, H1, Z, _, env.mono s1, st1, hm1, lx.mono s1, lv.mono s1⟩
  | _ => exact hm1.elim
theorem pe3_not {a : Expr} {ma : ME} (ha : PE X a (r3E X.K W ma)) : PE X (.UnaryOp .Not a pos) (r3E X.K W (mNotV ma)) := by
  refine peW (pe_not ha) fun σ H Q ⟨Γ, O, H0, Z, P, env, st, hm, lx, lv⟩ => ?_
  refine ⟨Γ, O, H0, Z, _, env, st, hm, lx, fun H1 v d O1 H' s1 is1 st1 hm1 => ?_⟩
  cases is1 with
  | bl b => exact ⟨b, rfl, lv H1 _ _ O1 H' s1 (.bl _) st1 hm1⟩
  | _ => exact hm1.elim
theorem pe3_if {c a b : Expr} {t : MT} {ma mb : ME} (hc : PT X c (r3T X.K W t)) (ha : PE X a (r3E X.K W ma)) (hb : PE X b (r3E X.K W mb)) : PE X (.IfExp c a b pos) (r3E X.K W (mIfE t ma mb)) := by
  refine peW (pe_ifExp hc ha hb) fun σ H Q ⟨Γ, O, H0, Z, P, env, st, hm, lx, lv⟩ => ?_
  refine ⟨Γ, O, H0, Z, _, env, st, hm, lx, fun H1 b O1 H' s1 st1 hm1 => ?_⟩
  cases b with
  | true => rw [if_pos rfl] at hm1 ⊢; exact ⟨Γ, O1, H1, Z, _, env.mono s1, st1, hm1, lx.mono s1, lv.mono s1⟩
  | false => rw [if_neg Bool.false_ne_true] at hm1 ⊢; exact ⟨Γ, O1, H1, Z, _, env.mono s1, st1, hm1, lx.mono s1, lv.mono s1⟩

/-! ### arguments, displays -/
def mNil : MA := fun _ _ O Q => Q [] O
def mCons (ma : ME) (mr : MA) : MA := fun X Γ O Q => ma X Γ O fun x O1 => mr X Γ O1 fun xs O2 => Q (x :: xs) O2
theorem pa3_nil : PA X [] (r3A X.K W mNil) := paW pa_nil fun σ H Q ⟨Γ, O, H0, Z, P, env, st, hm, lx, lv⟩ => lv H0 [] [] O H (Same.refl _) .nil st hm
theorem pa3_cons {e : Expr} {es : List Expr} {ma : ME} {mr : MA} (ha : PE X e (r3E X.K W ma)) (hr : PA X es (r3A X.K W mr)) (hs : starEach (e :: es) X.env = (false, eval e X.env) :: starEach es X.env) : PA X (e :: es) (r3A X.K W (mCons ma mr)) := by
  refine paW (pa_cons ha hr hs) fun σ H Q ⟨Γ, O, H0, Z, P, env, st, hm, lx, lv⟩ => ?_
  refine ⟨Γ, O, H0, Z, _, env, st, hm, lx, fun H1 v d O1 H' s1 is1 st1 hm1 => ?_⟩
  refine ⟨Γ, O1, H1, Z, _, env.mono s1, st1, hm1, lx.mono s1, fun H2 vs ds O2 H'' s2 is2 st2 hm2 => ?_⟩
  exact lv H2 _ _ O2 H'' (s1.trans s2) (.cons (is1.mono s2) is2) st2 hm2
/-- freezing: what may change no longer, seen as data -/
inductive Fz : D → Sto → D → Sto → Prop where
  | refl {d : D} {O : Sto} : Fz d O d O
  | lst {p : Addr} {ds : List D} {O : Sto} (h : O p = some (.lst ds)) : Fz (.cell p) O (.lst ds) (del O p)
  | obj {p : Addr} {C : Str} {fs : List (Str × D)} {O : Sto} (h : O p = some (.ins C fs)) : Fz (.cell p) O (.obj C fs) (del O p)
  | drop {d : D} {p : Addr} {u : MO} {O : Sto} (h : O p = some u) : Fz d O d (del O p)
  | tup {ds es : List D} {O O' : Sto} {d e : D} {i : Nat} (h : Fz d O e O') (hd : ds[i]? = some d) (he : es = ds.set i e) : Fz (.tup ds) O (.tup es) O'
  | trans {d d1 d2 : D} {O O1 O2 : Sto} (h : Fz d O d1 O1) (k : Fz d1 O1 d2 O2) : Fz d O d2 O2
theorem Sta.freeze {K : PySem.W.Frag} {H0 H : Hp} {O : Sto} {p : Addr} {u : MO} {o : HO} (st : Sta K H0 O H) (h : O p = some u) (e : H p = some o) : Same H0 (upd H0 p o) ∧ Sta K (upd H0 p o) (del O p) H := by
  obtain ⟨h0, _⟩ := st.cell p u h
  refine ⟨same_upd h0, fun b x q => ?_, fun b x q => ?_⟩
  · by_cases hb : b = p
    · subst hb; rw [upd_same] at q; cases q; exact e
    · rw [upd_ne hb] at q; exact st.same b x q
  · have hb : b ≠ p := by rintro rfl; rw [del_same] at q; cases q
    rw [del_ne hb] at q
    obtain ⟨a, r⟩ := st.cell b x q
    exact ⟨by rw [upd_ne hb]; exact a, r.mono (same_upd h0)⟩
theorem Fz.ok {K : PySem.W.Frag} {d e : D} {O O' : Sto} (f : Fz d O e O') : ∀ {H0 H : Hp} {v : V}, Is K H0 v d → Sta K H0 O H → ∃ H1, Same H0 H1 ∧ Is K H1 v e ∧ Sta K H1 O' H := by
  induction f with
  | refl => exact fun is st => ⟨_, Same.refl _, is, st⟩
  | @lst p ds O h =>
    intro H0 H v is st
    cases is with
    | cell =>
      obtain ⟨h0, vs, e, r⟩ := st.cell p _ h
      obtain ⟨s, st'⟩ := st.freeze h e
      exact ⟨_, s, .lst (SqL.of upd_same) r.1 (r.mono s).2, st'⟩
  | @obj p C fs O h =>
    intro H0 H v is st
    cases is with
    | cell =>
      obtain ⟨h0, dx, vs, e, k, r⟩ := st.cell p _ h
      obtain ⟨s, st'⟩ := st.freeze h e
      exact ⟨_, s, .obj upd_same k (r.mono s).2, st'⟩
  | @drop d p u O h =>
    intro H0 H v is st
    obtain ⟨h0, r⟩ := st.cell p _ h
    have ⟨o, e⟩ : ∃ o, H p = some o := by
      cases u with
      | lst ds => obtain ⟨vs, e, _⟩ := r; exact ⟨_, e⟩
      | dK ds => obtain ⟨vs, e, _⟩ := r; exact ⟨_, e⟩
      | dT ds => obtain ⟨vs, e, _⟩ := r; exact ⟨_, e⟩
      | ins C ds => obtain ⟨dx, vs, e, _⟩ := r; exact ⟨_, e⟩
    obtain ⟨s, st'⟩ := st.freeze h e
    exact ⟨_, s, is.mono s, st'⟩
  | @tup ds es O O' d e i h hd he ih =>
    intro H0 H v is st
    cases is with
    | @tup a vs _ hq hl hc =>
      obtain ⟨w, hw, is'⟩ := Iss.get (⟨hl, hc⟩ : Iss K H0 vs ds) hd
      obtain ⟨H1, s, is1, st1⟩ := ih is' st
      refine ⟨H1, s, ?_, st1⟩
      have h3 : Iss K H0 vs ds := ⟨hl, hc⟩
      have h2 : Iss K H1 (vs.set i w) (ds.set i e) := Iss.set (h3.mono s) is1
      have e2 : vs.set i w = vs := by
        apply List.ext_getElem?
        intro j
        by_cases hj : i = j
        · subst hj
          rw [List.getElem?_set_self (List.getElem?_eq_some_iff.mp hw).1, hw]
        · rw [List.getElem?_set_ne hj]
      rw [e2] at h2
      rw [he]
      exact .tup (s _ _ hq) h2.1 h2.2
  | trans h k ih1 ih2 =>
    intro H0 H v is st
    obtain ⟨H1, s1, is1, st1⟩ := ih1 is st
    obtain ⟨H2, s2, is2, st2⟩ := ih2 is1 st1
    exact ⟨H2, s1.trans s2, is2, st2⟩
/-- what a value may also be said to be -/
def orFz (Q : PV) : PV := fun d O => ∃ e O', Fz d O e O' ∧ Q e O'
theorem LinkV.fz {K : PySem.W.Frag} {H0 : Hp} {P : PV} {Q : VK} (l : LinkV K H0 P Q) : LinkV K H0 (orFz P) Q := by
  rintro H1 v d O H s is st ⟨e, O', f, p⟩
  obtain ⟨H2, s2, is2, st2⟩ := f.ok is st
  exact l H2 v e O' H (s.trans s2) is2 st2 p
def mTup (m : MA) : ME := fun X Γ O Q => m X Γ O fun ds O1 => ds.length ≤ sizeLine ∧ Q (.tup ds) O1
def mLst (m : MA) : ME := fun X Γ O Q => m X Γ O fun ds O1 => ds.length ≤ sizeLine ∧ ∀ p, O1 p = none → orFz Q (.cell p) (put O1 p (.lst ds))
theorem pe3_tup {es : List Expr} {x1 : Nat} {m : MA} (h : PA X es (r3A X.K W m)) : PE X (.Tuple es x1 pos) (r3E X.K W (mTup m)) := by
  refine peW (pe_tup h) fun σ H Q ⟨Γ, O, H0, Z, P, env, st, hm, lx, lv⟩ => ?_
  refine ⟨Γ, O, H0, Z, _, env, st, hm, lx, fun H1 vs ds O1 H' s1 is1 st1 hm1 => ?_⟩
  refine ⟨by rw [is1.1]; exact hm1.1, fun p hp => ?_⟩
  have h0 := (st1.free hp).2
  exact lv _ _ _ O1 _ (s1.trans (same_upd h0)) (.tup upd_same is1.1 (is1.mono (same_upd h0)).2) (st1.new0 hp) hm1.2
theorem pe3_lst {es : List Expr} {m : MA} (h : PA X es (r3A X.K W m)) : PE X (.List es pos) (r3E X.K W (mLst m)) := by
  refine peW (pe_lst h) fun σ H Q ⟨Γ, O, H0, Z, P, env, st, hm, lx, lv⟩ => ?_
  refine ⟨Γ, O, H0, Z, _, env, st, hm, lx, fun H1 vs ds O1 H' s1 is1 st1 hm1 => ?_⟩
  refine ⟨by rw [is1.1]; exact hm1.1, fun p hp => ?_⟩
  exact lv.fz H1 _ _ _ _ s1 (.cell p) (st1.newC (u := .lst ds) hp ⟨vs, upd_same, is1⟩) (hm1.2 p (st1.free hp).1)
end
end L3

namespace L3
open PySem PySem.Spec PyProof.Rows L2

section
variable {K : PySem.W.Frag} {H0 H : Hp} {O : Sto} {v : V} {d : D} {ds : List D}
/-! ### lists and sequences, as they stand -/
def lstOf (O : Sto) : D → Option (List D)
  | .lst ds => some ds
  | .cell p => match O p with
    | some (.lst ds) => some ds
    | _ => none
  | _ => none
def seqOf (O : Sto) : D → Option (List D)
  | .lst ds => some ds
  | .tup ds => some ds
  | .cell p => match O p with
    | some (.lst ds) => some ds
    | _ => none
  | _ => none
theorem lstOf_cell {p : Addr} (h : lstOf O (.cell p) = some ds) : O p = some (.lst ds) := by
  have h2 : (match O p with
    | some (.lst ds) => some ds
    | _ => none) = some ds := h
  cases q : O p with
  | none => rw [q] at h2; cases h2
  | some u =>
    rw [q] at h2
    cases u with
    | lst es => cases h2; rfl
    | _ => cases h2
theorem lstOf_ok (st : Sta K H0 O H) (is : Is K H0 v d) (h : lstOf O d = some ds) : ∃ a vs, v = .ref a ∧ SqL K H a vs ∧ Iss K H0 vs ds := by
  cases is with
  | lst r l c => cases h; exact ⟨_, _, rfl, same_l st.same r, l, c⟩
  | cell p =>
    obtain ⟨_, vs, e, r⟩ := st.cell p _ (lstOf_cell h)
    exact ⟨p, vs, rfl, .inl (.inl e), r⟩
  | _ => cases h
theorem seqOf_ok (st : Sta K H0 O H) (is : Is K H0 v d) (h : seqOf O d = some ds) : ∃ a vs, v = .ref a ∧ (SqL K H a vs ∨ SqT K H a vs) ∧ Iss K H0 vs ds := by
  cases is with
  | lst r l c => cases h; exact ⟨_, _, rfl, .inl (same_l st.same r), l, c⟩
  | tup r l c => cases h; exact ⟨_, _, rfl, .inr (same_tt st.same r), l, c⟩
  | cell p =>
    obtain ⟨_, vs, e, r⟩ := st.cell p _ (lstOf_cell h)
    exact ⟨p, vs, rfl, .inl (.inl (.inl e)), r⟩
  | _ => cases h
theorem Is.int_ (h : Is K H v (.int i)) : v = .int i := by cases h; rfl
theorem Is.bl_ (h : Is K H v (.bl i)) : v = .bl i := by cases h; rfl
theorem Is.str_ (h : Is K H v (.str i)) : v = .str i := by cases h; rfl
theorem Is.non_ (h : Is K H v .non) : v = .non := by cases h; rfl
theorem Is.tup_ (h : Is K H v (.tup ds)) : ∃ a vs, v = .ref a ∧ H a = some (.tup vs) ∧ Iss K H vs ds := by
  cases h with
  | tup r l c => exact ⟨_, _, rfl, r, l, c⟩
theorem Is.cell_ {p : Addr} (h : Is K H v (.cell p)) : v = .ref p := by cases h; rfl
end

/-! ### operators by contents -/
/-- lists of any kind of standing: + -/
def rCatR (K : PySem.W.Frag) : R2 := fun x y H Q => ∃ l b xs zs, x = .ref l ∧ y = .ref b ∧ SqL K H l xs ∧ SqL K H b zs ∧ xs.length + zs.length ≤ sizeLine ∧ ∀ p, H p = none → Q (.ref p) (upd H p (.lst (xs ++ zs)))
theorem lstRd {X : Cx} {pins : List (Addr × Obj)} {σ : L2.St} {H : Hp} {s : Shared} {l : Addr} {xs : List V} (I : Inv X pins σ H s) (h : Rd H l (.lst xs)) : xs.length ≤ sizeLine ∧ ∃ (its : List Value) (n : Nat), Vals xs its ∧ xs.length = its.length ∧ s.heap.get? l = some { cls := .type "list", data := .seq its.toArray n } := by
  obtain ⟨z, its, n, r, e⟩ := h.ok I.hok
  exact ⟨z, its, n, r, r.length, e⟩
theorem op_catR {X : Cx} : OpR X (binaryOp .Add) (rCatR X.K) := by
  intro pins s σ H x y v u Q I rx ry h
  obtain ⟨l, b, xs, zs, rfl, rfl, hH, hB, hz, q⟩ := h
  cases rx
  cases ry
  obtain ⟨its, r, ⟨⟨cls, dd, data, sl⟩, n, ho, hc, hd, hs⟩, z⟩ := I.list hH
  obtain ⟨its2, r2, ⟨⟨cls2, dd2, data2, sl2⟩, n2, ho2, hc2, hd2, hs2⟩, z2⟩ := I.list hB
  simp only at hc hd hs hc2 hd2 hs2
  subst hc hd hs hc2 hd2 hs2
  have hl := r.length
  have hl2 := r2.length
  have e : its.toArray ++ its2.toArray = (its ++ its2).toArray := by simp
  refine concat_meets ⟨_, ho, rfl⟩ ⟨_, ho2, rfl⟩ noFill_list_add seq_list_add PySem.F.slot_list_add PySem.F.entry_list_add (PySem.F.args_list_add_2 _ _) (list_addW l b its.toArray its2.toArray n n2 _ _ sl sl2 (by rw [List.size_toArray, List.size_toArray]; omega)) ⟨ho, ho2, ?_⟩
  rw [e]
  exact ⟨.ref _, _, I.lnew (t' := s.toks) (r.append r2) (by rw [List.length_append]; omega), rfl, q _ I.fresh⟩
def fAdd : F2 := fun a b O Q => match a, b with
  | .int i, .int j => Q (.int (i + j)) O
  | .str x, .str y => x.length + y.length ≤ sizeLine ∧ Q (.str (x ++ y)) O
  | .tup xs, .tup ys => xs.length + ys.length ≤ sizeLine ∧ Q (.tup (xs ++ ys)) O
  | a, b => match lstOf O a, lstOf O b with
    | some xs, some ys => xs.length + ys.length ≤ sizeLine ∧ ∀ p, O p = none → orFz Q (.cell p) (put O p (.lst (xs ++ ys)))
    | _, _ => False
def rAdd3 (K : PySem.W.Frag) : R2 := fun x y H Q => (rI0 (fun i j => .int (i + j)) x y H Q ∨ (∃ i j, x = .str i ∧ y = .str j ∧ i.length + j.length ≤ sizeLine ∧ Q (.str (i ++ j)) H)) ∨ (rCatA K x y H Q ∨ rCatR K x y H Q)
theorem op_add3 {X : Cx} : OpR X (binaryOp .Add) (rAdd3 X.K) := OpR.or (OpR.or op_add op_add_str) (OpR.or op_catA op_catR)
theorem rep_add {K : PySem.W.Frag} : Rep2 K (rAdd3 K) fAdd := by
  intro H0 O H x y a b P Q st ix iy h lv
  have lists : ∀ xs ys, lstOf O a = some xs → lstOf O b = some ys → (xs.length + ys.length ≤ sizeLine ∧ ∀ p, O p = none → orFz P (.cell p) (put O p (.lst (xs ++ ys)))) → rAdd3 K x y H Q := by
    intro xs ys e1 e2 ⟨hz, h⟩
    obtain ⟨p, vs, rfl, r1, i1⟩ := lstOf_ok st ix e1
    obtain ⟨q, us, rfl, r2, i2⟩ := lstOf_ok st iy e2
    refine .inr (.inr ⟨p, q, vs, us, rfl, rfl, r1, r2, by rw [i1.1, i2.1]; exact hz, fun c hc => ?_⟩)
    exact lv.fz H0 _ _ _ _ (Same.refl _) (.cell c) (st.newC (u := .lst (xs ++ ys)) hc ⟨_, upd_same, i1.append i2⟩) (h c (st.free hc).1)
  unfold fAdd at h
  split at h
  · cases ix; cases iy
    exact .inl (.inl ⟨_, _, rfl, rfl, lv H0 _ _ O H (Same.refl _) (.int _) st h⟩)
  · cases ix; cases iy
    exact .inl (.inr ⟨_, _, rfl, rfl, h.1, lv H0 _ _ O H (Same.refl _) (.str _) st h.2⟩)
  · rename_i xs ys
    obtain ⟨p, vs, rfl, r1, i1⟩ := ix.tup_
    obtain ⟨q, us, rfl, r2, i2⟩ := iy.tup_
    refine .inr (.inl ⟨p, q, vs, us, rfl, rfl, same_tt st.same r1, same_tt st.same r2, by rw [i1.1, i2.1]; exact h.1, fun e => ?_, fun e1 e2 => ?_, fun e1 e2 c hc => ?_⟩)
    · subst e
      have : xs = [] := List.length_eq_zero_iff.mp (i1.1.symm.trans rfl)
      subst this
      exact lv H0 _ _ O H (Same.refl _) (.tup r2 i2.1 i2.2) st h.2
    · subst e2
      have : ys = [] := List.length_eq_zero_iff.mp (i2.1.symm.trans rfl)
      subst this
      have h2 := h.2
      rw [List.append_nil] at h2
      exact lv H0 _ _ O H (Same.refl _) (.tup r1 i1.1 i1.2) st h2
    · have i3 := i1.append i2
      have h0 := (st.free hc).2
      exact lv _ _ _ O _ (same_upd h0) (.tup upd_same i3.1 (i3.mono (same_upd h0)).2) (st.new0 hc) h.2
  · split at h
    · rename_i xs ys e1 e2
      exact lists xs ys e1 e2 h
    · exact h.elim
def fI2 (C : Int → Int → Prop) (g : Int → Int → D) : F2 := fun a b O Q => match a, b with
  | .int i, .int j => C i j ∧ Q (g i j) O
  | _, _ => False
theorem rep_I2 {K : PySem.W.Frag} {C C' : Int → Int → Prop} {g : Int → Int → V} {g' : Int → Int → D} (hC : ∀ i j, C' i j → C i j) (hg : ∀ H i j, C' i j → Is K H (g i j) (g' i j)) : Rep2 K (rI C g) (fI2 C' g') := by
  intro H0 O H x y a b P Q st ix iy h lv
  unfold fI2 at h
  split at h
  · cases ix; cases iy
    exact ⟨_, _, rfl, rfl, hC _ _ h.1, lv H0 _ _ O H (Same.refl _) (hg _ _ _ h.1) st h.2⟩
  · exact h.elim
def fI0 (g : Int → Int → D) : F2 := fun a b O Q => match a, b with
  | .int i, .int j => Q (g i j) O
  | _, _ => False
theorem rep_I0 {K : PySem.W.Frag} {g : Int → Int → V} {g' : Int → Int → D} (hg : ∀ H i j, Is K H (g i j) (g' i j)) : Rep2 K (rI0 g) (fI0 g') := by
  intro H0 O H x y a b P Q st ix iy h lv
  unfold fI0 at h
  split at h
  · cases ix; cases iy
    exact ⟨_, _, rfl, rfl, lv H0 _ _ O H (Same.refl _) (hg _ _ _) st h⟩
  · exact h.elim
def fSub : F2 := fI0 fun i j => .int (i - j)
theorem rep_sub {K : PySem.W.Frag} : Rep2 K (rI0 fun i j => .int (i - j)) fSub := rep_I0 fun _ _ _ => .int _
/-- the factors' sizes -/
def mulOk (i j : Int) : Prop := (i.natAbs < 2 ^ 64 ∨ j.natAbs < 2 ^ 64) ∨ ∃ n, 0 < n ∧ n ≤ 500000 ∧ i.natAbs < 2 ^ n ∧ j.natAbs < 2 ^ n
theorem mulOk.ok {i j : Int} (h : mulOk i j) : CMul i j ∨ CMulW i j := by
  rcases h with (h | h) | ⟨n, h0, h1, h2, h3⟩
  · exact .inl (.inl ⟨by omega, by omega⟩)
  · exact .inl (.inr ⟨by omega, by omega⟩)
  · exact .inr (wide_mul h2 h3 h0 h0 (by omega))
/-- a text so many times -/
def repS (z : Str) (k : Int) : Str := if k < 1 then Str.empty else if (k == 1 || z.length == 0) = true then z else ⟨(List.replicate k.toNat z.cps).foldl (· ++ ·) #[]⟩
theorem fold_size (a : Array Nat) : ∀ (n : Nat) (acc : Array Nat), ((List.replicate n a).foldl (· ++ ·) acc).size = acc.size + n * a.size
  | 0, acc => by simp
  | n + 1, acc => by
    rw [List.replicate_succ, List.foldl_cons, fold_size a n, Array.size_append, Nat.succ_mul]
    omega
theorem repS_len {z : Str} {k : Int} (h : z.length * k.toNat ≤ sizeLine) (hk : 1 ≤ k) : (⟨(List.replicate k.toNat z.cps).foldl (· ++ ·) #[]⟩ : Str).length ≤ sizeLine := by
  show ((List.replicate k.toNat z.cps).foldl (· ++ ·) #[]).size ≤ sizeLine
  rw [fold_size]
  have : z.cps.size = z.length := rfl
  rw [this, Nat.mul_comm]
  simpa using h
def rMulS : R2 := fun x y H Q => ∃ z k, x = .str z ∧ y = .int k ∧ -(2 ^ 63) ≤ k ∧ k < 2 ^ 63 ∧ z.length * k.toNat ≤ sizeLine ∧ Q (.str (repS z k)) H
theorem op_mulS {X : Cx} : OpR X (binaryOp .Mult) rMulS := by
  intro pins s σ H x y v u Q I rx ry h
  obtain ⟨z, k, rfl, rfl, h1, h2, hz, q⟩ := h
  obtain ⟨t, rfl⟩ := rx
  obtain ⟨t', rfl⟩ := ry
  refine PySem.P.mul_str (by rw [decide_eq_false (by omega), decide_eq_false (by omega)]; rfl) (fun hk _ => ?_) (fun hk _ => ?_) ?_
  · have h0 : 0 < k := by omega
    have e : (z.length : Int) * k ≤ 2 ^ 63 - 1 := by
      have e1 : ((z.length * k.toNat : Nat) : Int) = (z.length : Int) * k := by
        rw [Int.natCast_mul, Int.toNat_of_nonneg (by omega)]
      have e2 : ((z.length * k.toNat : Nat) : Int) ≤ (sizeLine : Int) := by exact_mod_cast hz
      have e3 : (sizeLine : Int) ≤ 2 ^ 63 - 1 := by decide
      rw [← e1]
      exact Int.le_trans e2 e3
    have := Int.le_ediv_of_mul_le h0 e
    omega
  · show decide (z.length * k.toNat > sizeLine) = false
    exact decide_eq_false (by omega)
  · unfold repS at q
    by_cases hk : k < 1
    · rw [if_pos hk] at q ⊢
      exact ⟨Nat.zero_le _, .str _, H, I.tok _, ⟨_, rfl⟩, q⟩
    · rw [if_neg hk] at q ⊢
      by_cases hc : (k == 1 || z.length == 0) = true
      · rw [if_pos hc] at q ⊢
        exact ⟨.str z, H, I, ⟨_, rfl⟩, q⟩
      · rw [if_neg hc] at q ⊢
        exact ⟨repS_len hz (by omega), .str _, H, I.tok _, ⟨_, rfl⟩, q⟩
def fMul : F2 := fun a b O Q => match a, b with
  | .int i, .int j => mulOk i j ∧ Q (.int (i * j)) O
  | .str z, .int k => (-(2 ^ 63) ≤ k ∧ k < 2 ^ 63 ∧ z.length * k.toNat ≤ sizeLine) ∧ Q (.str (repS z k)) O
  | _, _ => False
def rMul3 : R2 := fun x y H Q => (rI CMul (fun i j => .int (i * j)) x y H Q ∨ rI CMulW (fun i j => .int (i * j)) x y H Q) ∨ rMulS x y H Q
theorem op_mul3 {X : Cx} : OpR X (binaryOp .Mult) rMul3 := OpR.or (OpR.or op_mul op_mulW) op_mulS
theorem rep_mul {K : PySem.W.Frag} : Rep2 K rMul3 fMul := by
  intro H0 O H x y a b P Q st ix iy h lv
  unfold fMul at h
  split at h
  · cases ix; cases iy
    rcases h.1.ok with c | c
    · exact .inl (.inl ⟨_, _, rfl, rfl, c, lv H0 _ _ O H (Same.refl _) (.int _) st h.2⟩)
    · exact .inl (.inr ⟨_, _, rfl, rfl, c, lv H0 _ _ O H (Same.refl _) (.int _) st h.2⟩)
  · cases ix; cases iy
    exact .inr ⟨_, _, rfl, rfl, h.1.1, h.1.2.1, h.1.2.2, lv H0 _ _ O H (Same.refl _) (.str _) st h.2⟩
  · exact h.elim
def divOk (_ j : Int) : Prop := 0 < j ∧ (j < 1073741824 ∨ ∃ n, 0 < n ∧ n ≤ 9000 ∧ j < 2 ^ n)
def fMod : F2 := fI2 (fun _ j => 0 < j) fun i j => .int (i % j)
theorem rep_mod {K : PySem.W.Frag} : Rep2 K (rI (fun _ j => 0 < j) fun i j => .int (i % j)) fMod := rep_I2 (fun _ _ h => h) fun _ _ _ _ => .int _
def fDiv : F2 := fI2 divOk fun i j => .int (i / j)
def rDiv3 : R2 := fun x y H Q => rI CDiv (fun i j => .int (i / j)) x y H Q ∨ rI CDivW (fun i j => .int (i / j)) x y H Q
theorem op_div3 {X : Cx} : OpR X (binaryOp .FloorDiv) rDiv3 := OpR.or op_fdiv op_fdivW
theorem rep_div {K : PySem.W.Frag} : Rep2 K rDiv3 fDiv := by
  intro H0 O H x y a b P Q st ix iy h lv
  unfold fDiv fI2 at h
  split at h
  · cases ix; cases iy
    rename_i i j
    obtain ⟨⟨h0, h1 | ⟨n, h1, h2, h3⟩⟩, h⟩ := h
    · exact .inl ⟨_, _, rfl, rfl, ⟨h0, h1⟩, lv H0 _ _ O H (Same.refl _) (.int _) st h⟩
    · refine .inr ⟨_, _, rfl, rfl, wide_div h0 (b := n) ?_ h1 h2, lv H0 _ _ O H (Same.refl _) (.int _) st h⟩
      have : (j.natAbs : Int) < 2 ^ n := by omega
      exact_mod_cast this
  · exact h.elim
def fPow : F2 := fI2 (fun i j => 0 ≤ j ∧ j ≤ 1000000 ∧ i.natAbs < 2 ^ 64) fun i j => .int (i ^ j.toNat)
theorem rep_pow {K : PySem.W.Frag} : Rep2 K (rI CPow fun i j => .int (i ^ j.toNat)) fPow := rep_I2 (fun _ _ h => h) fun _ _ _ _ => .int _
def fNeg : F1 := fun a O Q => match a with
  | .int i => Q (.int (-i)) O
  | _ => False
theorem rep_neg {K : PySem.W.Frag} : Rep1 K (rU fun i => .int (-i)) fNeg := by
  intro H0 O H x a P Q st ix h lv
  cases ix with
  | int i => exact ⟨_, rfl, lv H0 _ _ O H (Same.refl _) (.int _) st h⟩
  | _ => exact h.elim
def fLt : F2 := fI0 fun i j => .bl (decide (i < j))
def fLe : F2 := fI0 fun i j => .bl (decide (i ≤ j))
def fGt : F2 := fI0 fun i j => .bl (decide (j < i))
def fGe : F2 := fI0 fun i j => .bl (decide (j ≤ i))
theorem rep_lt {K : PySem.W.Frag} : Rep2 K (rI0 fun i j => .bl (decide (i < j))) fLt := rep_I0 fun _ _ _ => .bl _
theorem rep_le {K : PySem.W.Frag} : Rep2 K (rI0 fun i j => .bl (decide (i ≤ j))) fLe := rep_I0 fun _ _ _ => .bl _
theorem rep_gt {K : PySem.W.Frag} : Rep2 K (rI0 fun i j => .bl (decide (j < i))) fGt := rep_I0 fun _ _ _ => .bl _
theorem rep_ge {K : PySem.W.Frag} : Rep2 K (rI0 fun i j => .bl (decide (j ≤ i))) fGe := rep_I0 fun _ _ _ => .bl _
/-- is None -/
def fIsN (neg : Bool) : F2 := fun a b O Q => match b with
  | .non => match a with
    | .non => Q (.bl (!neg)) O
    | _ => Q (.bl neg) O
  | _ => False
theorem Is.isNon {K : PySem.W.Frag} {H : Hp} {v : V} {d : D} (h : Is K H v d) : (v = .non ↔ d = .non) := by
  cases h <;> simp
theorem rep_isN {K : PySem.W.Frag} : Rep2 K (fun x y H Q => y = .non ∧ Q (.bl (decide (x = .non))) H) (fIsN false) := by
  intro H0 O H x y a b P Q st ix iy h lv
  unfold fIsN at h
  split at h
  · refine ⟨iy.non_, ?_⟩
    split at h
    · rw [ix.non_]; exact lv H0 _ _ O H (Same.refl _) (.bl _) st h
    · rename_i hn
      have : ¬ x = .non := fun e => hn (ix.isNon.mp e)
      rw [decide_eq_false this]
      exact lv H0 _ _ O H (Same.refl _) (.bl _) st h
  · exact h.elim
theorem rep_notN {K : PySem.W.Frag} : Rep2 K (fun x y H Q => y = .non ∧ Q (.bl (!decide (x = .non))) H) (fIsN true) := by
  intro H0 O H x y a b P Q st ix iy h lv
  unfold fIsN at h
  split at h
  · refine ⟨iy.non_, ?_⟩
    split at h
    · rw [ix.non_]; exact lv H0 _ _ O H (Same.refl _) (.bl _) st h
    · rename_i hn
      have : ¬ x = .non := fun e => hn (ix.isNon.mp e)
      rw [decide_eq_false this]
      exact lv H0 _ _ O H (Same.refl _) (.bl _) st h
  · exact h.elim

/-! ### == of data -/
mutual
inductive Py (O : Sto) : D → PyData → Prop where
  | non : Py O .non .none
  | bl (b : Bool) : Py O (.bl b) (.bool b)
  | int (i : Int) : Py O (.int i) (.int i)
  | str (x : Str) : Py O (.str x) (.str x)
  | tup {ds : List D} {xs : List PyData} (h : Pys O ds xs) : Py O (.tup ds) (.tuple xs)
  | lst {ds : List D} {xs : List PyData} (h : Pys O ds xs) : Py O (.lst ds) (.list xs)
  | cell {p : Addr} {ds : List D} {xs : List PyData} (e : O p = some (.lst ds)) (h : Pys O ds xs) : Py O (.cell p) (.list xs)
inductive Pys (O : Sto) : List D → List PyData → Prop where
  | nil : Pys O [] []
  | cons {d : D} {ds : List D} {x : PyData} {xs : List PyData} (h : Py O d x) (t : Pys O ds xs) : Pys O (d :: ds) (x :: xs)
end
mutual
theorem Py.dp {K : PySem.W.Frag} {H0 H : Hp} {O : Sto} (st : Sta K H0 O H) : ∀ {d : D} {x : PyData} {v : V}, Py O d x → Is K H0 v d → Dp K H v x
  | _, _, _, .non, .non => .non
  | _, _, _, .bl b, .bl _ => .bl b
  | _, _, _, .int b, .int _ => .int b
  | _, _, _, .str b, .str _ => .str b
  | _, _, _, .tup h, .tup r l c => .tup (same_tt st.same r) (Pys.dp st h ⟨l, c⟩)
  | _, _, _, .lst h, .lst r l c => .lst (same_l st.same r) (Pys.dp st h ⟨l, c⟩)
  | _, _, _, .cell e h, r => by
    cases r
    obtain ⟨_, vs, e2, r⟩ := st.cell _ _ e
    exact .lst (SqL.of e2) (Pys.dp st h r)
theorem Pys.dp {K : PySem.W.Frag} {H0 H : Hp} {O : Sto} (st : Sta K H0 O H) : ∀ {ds : List D} {xs : List PyData} {vs : List V}, Pys O ds xs → Iss K H0 vs ds → DpAll K H vs xs
  | _, _, _, .nil, r => by rw [r.unnil]; exact .nil
  | _, _, _, .cons h t, r => by
    obtain ⟨v, vs, rfl, r1, r2⟩ := r.uncons
    exact .cons (Py.dp st h r1) (Pys.dp st t r2)
end
def scalD : D → D → Option Bool
  | .int i, .int j => some (decide (i = j))
  | .bl i, .bl j => some (decide (i = j))
  | .str i, .str j => some (decide (i = j))
  | .non, .non => some true
  | .non, .int _ => some false | .int _, .non => some false
  | .non, .bl _ => some false | .bl _, .non => some false
  | .non, .str _ => some false | .str _, .non => some false
  | .int _, .str _ => some false | .str _, .int _ => some false
  | .bl _, .str _ => some false | .str _, .bl _ => some false
  | _, _ => none
def fEq (neg : Bool) : F2 := fun a b O Q => match scalD a b with
  | some k => Q (.bl (k != neg)) O
  | none => ∃ x y, Py O a x ∧ Py O b y ∧ SeqAt.shaped x = true ∧ SeqAt.shaped y = true ∧ Q (.bl (PyData.eqv x y != neg)) O
theorem scal_ok {K : PySem.W.Frag} {H : Hp} {x y : V} {a b : D} {k : Bool} (ix : Is K H x a) (iy : Is K H y b) (h : scalD a b = some k) : scal x y = true ∧ decide (x = y) = k := by
  cases ix <;> cases iy <;> first
    | (cases h; done)
    | (injection h with h; subst h; exact ⟨rfl, by simp⟩)
theorem rep_eq {K : PySem.W.Frag} : Rep2 K (fun x y H Q => rEq x y H Q ∨ rEqD K x y H Q) (fEq false) := by
  intro H0 O H x y a b P Q st ix iy h lv
  unfold fEq at h
  split at h
  · rename_i k e
    obtain ⟨s1, s2⟩ := scal_ok ix iy e
    refine .inl ⟨s1, ?_⟩
    rw [s2]
    have e3 : (k != false) = k := by cases k <;> rfl
    rw [e3] at h
    exact lv H0 _ _ O H (Same.refl _) (.bl _) st h
  · obtain ⟨c, d, h1, h2, h3, h4, h5⟩ := h
    have e3 : (PyData.eqv c d != false) = PyData.eqv c d := by cases PyData.eqv c d <;> rfl
    rw [e3] at h5
    exact .inr ⟨c, d, h1.dp st ix, h2.dp st iy, h3, h4, lv H0 _ _ O H (Same.refl _) (.bl _) st h5⟩
theorem rep_ne {K : PySem.W.Frag} : Rep2 K (fun x y H Q => rNe x y H Q ∨ rNeD K x y H Q) (fEq true) := by
  intro H0 O H x y a b P Q st ix iy h lv
  unfold fEq at h
  split at h
  · rename_i k e
    obtain ⟨s1, s2⟩ := scal_ok ix iy e
    refine .inl ⟨s1, ?_⟩
    rw [s2]
    have e3 : (k != true) = !k := by cases k <;> rfl
    rw [e3] at h
    exact lv H0 _ _ O H (Same.refl _) (.bl _) st h
  · obtain ⟨c, d, h1, h2, h3, h4, h5⟩ := h
    have e3 : (PyData.eqv c d != true) = !PyData.eqv c d := by cases PyData.eqv c d <;> rfl
    rw [e3] at h5
    exact .inr ⟨c, d, h1.dp st ix, h2.dp st iy, h3, h4, lv H0 _ _ O H (Same.refl _) (.bl _) st h5⟩

/-! ### subscripts, slices -/
theorem atI_map {K : PySem.W.Frag} {H : Hp} {vs : List V} {ds : List D} {i : Int} {d : D} (r : Iss K H vs ds) (h : atI ds i = some d) : ∃ v, atI vs i = some v ∧ Is K H v d := by
  unfold atI at h ⊢
  rw [r.1]
  cases e : ixN ds.length i with
  | none => rw [e] at h; cases h
  | some j =>
    rw [e] at h
    exact r.get h
/-! ### dicts by contents -/
def keyD : D → Option Key
  | .int i => some (.inl i)
  | .str s => some (.inr s)
  | _ => none
def keysD : List D → Option (List Key)
  | [] => some []
  | d :: r => match keyD d, keysD r with
    | some k, some ks => some (k :: ks)
    | _, _ => none
def valD {κ : Type} [DecidableEq κ] (kvs : List (κ × D)) (k : κ) : Option D := (kvs.find? fun kv => decide (kv.1 = k)).map (·.2)
def putD {κ : Type} [DecidableEq κ] (kvs : List (κ × D)) (k : κ) (v : D) : List (κ × D) := if (kvs.any fun kv => decide (kv.1 = k)) = true then kvs.map fun kv => if kv.1 = k then (kv.1, v) else kv else kvs ++ [(k, v)]
def dicOf (O : Sto) : D → Option (Sum (List (Key × D)) (List (List Key × D)))
  | .dK kvs => some (.inl kvs)
  | .dT kvs => some (.inr kvs)
  | .cell p => match O p with
    | some (.dK kvs) => some (.inl kvs)
    | some (.dT kvs) => some (.inr kvs)
    | _ => none
  | _ => none
def dget (O : Sto) (o k : D) : Option (Option D) := match dicOf O o with
  | some (.inl kvs) => (keyD k).map (valD kvs)
  | some (.inr kvs) => match k with
    | .tup ds => (keysD ds).map (valD kvs)
    | _ => none
  | none => none
theorem keyD_ok {K : PySem.W.Frag} {H : Hp} {v : V} {d : D} {k : Key} (is : Is K H v d) (h : keyD d = some k) : v = kV k := by
  cases is <;> cases h <;> rfl
theorem keysD_ok {K : PySem.W.Frag} {H : Hp} : ∀ {vs : List V} {ds : List D} {ks : List Key}, Iss K H vs ds → keysD ds = some ks → vs = ks.map kV
  | vs, [], ks, r, h => by cases h; exact r.unnil
  | vs, d :: ds, ks, r, h => by
    obtain ⟨v, us, rfl, r1, r2⟩ := r.uncons
    have h2 : (match keyD d, keysD ds with
      | some k, some ks => some (k :: ks)
      | _, _ => none) = some ks := h
    split at h2
    · rename_i k ks' e1 e2
      cases h2
      rw [keyD_ok r1 e1, keysD_ok r2 e2]
      rfl
    · cases h2
section
variable {κ : Type} [DecidableEq κ]
theorem val_rel {K : PySem.W.Frag} {H : Hp} {k : κ} : ∀ {ws : List (κ × V)} {kvs : List (κ × D)}, ws.map (·.1) = kvs.map (·.1) → Iss K H (ws.map (·.2)) (kvs.map (·.2)) → (∀ d, valD kvs k = some d → ∃ v, valV ws k = some v ∧ Is K H v d) ∧ (valD kvs k = none → valV ws k = none)
  | [], [], _, _ => ⟨fun d h => (nomatch h), fun _ => rfl⟩
  | [], _ :: _, e, _ => by cases e
  | _ :: _, [], e, _ => by cases e
  | (a, v) :: ws, (b, d) :: kvs, e, r => by
    have e1 : a = b := (List.cons.inj e).1
    subst e1
    obtain ⟨v', us, e2, r1, r2⟩ := Iss.uncons (show Iss K H (v :: ws.map (·.2)) (d :: kvs.map (·.2)) from r)
    cases e2
    have ih := val_rel (k := k) (List.cons.inj e).2 r2
    by_cases h : a = k
    · have x1 : valD ((a, d) :: kvs) k = some d := by simp [valD, h]
      have x2 : valV ((a, v) :: ws) k = some v := valV_pos h
      rw [x1, x2]
      exact ⟨fun d' q => by cases q; exact ⟨v, rfl, r1⟩, fun q => (nomatch q)⟩
    · have x1 : valD ((a, d) :: kvs) k = valD kvs k := by simp [valD, List.find?_cons, h]
      have x2 : valV ((a, v) :: ws) k = valV ws k := valV_neg h
      rw [x1, x2]
      exact ih
theorem any_rel {k : κ} {ws : List (κ × V)} {kvs : List (κ × D)} (e : ws.map (·.1) = kvs.map (·.1)) : (ws.any fun kv => decide (kv.1 = k)) = kvs.any fun kv => decide (kv.1 = k) := by
  have x1 : ∀ l : List (κ × V), (l.any fun kv => decide (kv.1 = k)) = (l.map (·.1)).any fun z => decide (z = k) := fun l => by rw [List.any_map]; rfl
  have x2 : ∀ l : List (κ × D), (l.any fun kv => decide (kv.1 = k)) = (l.map (·.1)).any fun z => decide (z = k) := fun l => by rw [List.any_map]; rfl
  rw [x1, x2, e]
theorem put_rel {K : PySem.W.Frag} {H : Hp} {k : κ} {y : V} {d : D} (iy : Is K H y d) {ws : List (κ × V)} {kvs : List (κ × D)} (e : ws.map (·.1) = kvs.map (·.1)) (r : Iss K H (ws.map (·.2)) (kvs.map (·.2))) :
    (putK ws k y).map (·.1) = (putD kvs k d).map (·.1) ∧ Iss K H ((putK ws k y).map (·.2)) ((putD kvs k d).map (·.2)) := by
  unfold putK putD
  rw [any_rel e]
  split
  · rename_i hany
    clear hany
    induction ws generalizing kvs with
    | nil =>
      cases kvs with
      | nil => exact ⟨rfl, .nil⟩
      | cons => cases e
    | cons w ws ih =>
      cases kvs with
      | nil => cases e
      | cons q kvs =>
        obtain ⟨a, v⟩ := w
        obtain ⟨b, x⟩ := q
        have e1 : a = b := (List.cons.inj e).1
        subst e1
        obtain ⟨v', us, e2, r1, r2⟩ := Iss.uncons (show Iss K H (v :: ws.map (·.2)) (x :: kvs.map (·.2)) from r)
        cases e2
        obtain ⟨i1, i2⟩ := ih (List.cons.inj e).2 r2
        simp only [List.map_cons]
        by_cases h : a = k
        · simp only [if_pos h]
          exact ⟨by rw [i1], .cons iy i2⟩
        · simp only [if_neg h]
          exact ⟨by rw [i1], .cons r1 i2⟩
  · simp only [List.map_append, List.map_cons, List.map_nil, e]
    exact And.intro (by first | trivial | rfl) (r.append (.cons iy .nil))
end
section
variable {K : PySem.W.Frag} {H0 H : Hp} {O : Sto} {v y : V} {o k : D}
theorem dicOf_k {kvs : List (Key × D)} (st : Sta K H0 O H) (is : Is K H0 v o) (h : dicOf O o = some (.inl kvs)) : ∃ a ws, v = .ref a ∧ Rd H a (.dK ws) ∧ ws.map (·.1) = kvs.map (·.1) ∧ Iss K H0 (ws.map (·.2)) (kvs.map (·.2)) := by
  cases is with
  | dK r l c => cases h; exact ⟨_, _, rfl, .inr ⟨_, st.same _ _ r⟩, l, ⟨by simpa using congrArg List.length l, c⟩⟩
  | cell p =>
    have h2 : (match O p with
      | some (.dK kvs) => some (.inl kvs)
      | some (.dT kvs) => some (.inr kvs)
      | _ => none) = some (Sum.inl (β := List (List Key × D)) kvs) := h
    cases e : O p with
    | none => rw [e] at h2; cases h2
    | some u =>
      rw [e] at h2
      cases u with
      | dK kvs' =>
        cases h2
        obtain ⟨_, ws, e2, l, r⟩ := st.cell p _ e
        exact ⟨p, ws, rfl, .inl e2, l, r⟩
      | dT => cases h2
      | lst => cases h2
      | ins => cases h2
  | _ => cases h
theorem dicOf_t {kvs : List (List Key × D)} (st : Sta K H0 O H) (is : Is K H0 v o) (h : dicOf O o = some (.inr kvs)) : ∃ a ws, v = .ref a ∧ Rd H a (.dT ws) ∧ ws.map (·.1) = kvs.map (·.1) ∧ Iss K H0 (ws.map (·.2)) (kvs.map (·.2)) := by
  cases is with
  | dT r l c => cases h; exact ⟨_, _, rfl, .inr ⟨_, st.same _ _ r⟩, l, ⟨by simpa using congrArg List.length l, c⟩⟩
  | cell p =>
    have h2 : (match O p with
      | some (.dK kvs) => some (.inl kvs)
      | some (.dT kvs) => some (.inr kvs)
      | _ => none) = some (Sum.inr (α := List (Key × D)) kvs) := h
    cases e : O p with
    | none => rw [e] at h2; cases h2
    | some u =>
      rw [e] at h2
      cases u with
      | dT kvs' =>
        cases h2
        obtain ⟨_, ws, e2, l, r⟩ := st.cell p _ e
        exact ⟨p, ws, rfl, .inl e2, l, r⟩
      | dK => cases h2
      | lst => cases h2
      | ins => cases h2
  | _ => cases h
/-- what a get finds -/
def GetOk (K : PySem.W.Frag) (H0 : Hp) (r : Option D) (rv : Option V) : Prop := (∀ d, r = some d → ∃ w, rv = some w ∧ Is K H0 w d) ∧ (r = none → rv = none)
theorem dget_ok {r : Option D} (st : Sta K H0 O H) (is : Is K H0 v o) (ik : Is K H0 y k) (h : dget O o k = some r) : ∃ a rv, v = .ref a ∧ IsD H a ∧ DGet H a y rv ∧ GetOk K H0 r rv := by
  unfold dget at h
  split at h
  · rename_i kvs e
    obtain ⟨a, ws, rfl, e1, l, q⟩ := dicOf_k st is e
    cases ek : keyD k with
    | none => rw [ek] at h; cases h
    | some kk =>
      rw [ek] at h
      cases h
      exact ⟨a, _, rfl, .inl ⟨_, e1⟩, .inl ⟨ws, kk, e1, keyD_ok ik ek, rfl⟩, val_rel l q⟩
  · rename_i kvs e
    obtain ⟨a, ws, rfl, e1, l, q⟩ := dicOf_t st is e
    split at h
    · rename_i ds
      obtain ⟨b, us, rfl, r1, i1⟩ := ik.tup_
      cases ek : keysD ds with
      | none => rw [ek] at h; cases h
      | some ks =>
        rw [ek] at h
        cases h
        refine ⟨a, _, rfl, .inr ⟨_, e1⟩, .inr ⟨ws, ks, b, e1, rfl, ?_, rfl⟩, val_rel l q⟩
        rw [← keysD_ok i1 ek]
        exact st.same _ _ r1
    · cases h
  · cases h
end
def fIx0 : F2 := fun a b O Q => match b with
  | .int i => match a with
    | .str z => z.length ≤ sizeLine ∧ match atI z.cps.toList i with
      | some c => Q (.str ⟨#[c]⟩) O
      | none => False
    | a => match seqOf O a with
      | some ds => match atI ds i with
        | some d => Q d O
        | none => False
      | none => False
  | _ => False
theorem rep_ix0 {K : PySem.W.Frag} : Rep2 K (rIx K) fIx0 := by
  intro H0 O H x y a b P Q st ix iy h lv
  unfold fIx0 at h
  split at h
  · rename_i i
    cases iy
    split at h
    · rename_i z
      cases ix
      obtain ⟨h1, h2⟩ := h
      cases e : atI z.cps.toList i with
      | none => rw [e] at h2; exact h2.elim
      | some c => rw [e] at h2; exact .inr (.inr ⟨z, i, c, rfl, rfl, h1, e, lv H0 _ _ O H (Same.refl _) (.str _) st h2⟩)
    · cases e : seqOf O a with
      | none => rw [e] at h; exact h.elim
      | some ds =>
        rw [e] at h
        obtain ⟨p, vs, rfl, r, i1⟩ := seqOf_ok st ix e
        simp only at h
        cases e2 : atI ds i with
        | none => rw [e2] at h; exact h.elim
        | some d =>
          rw [e2] at h
          obtain ⟨v, q, is⟩ := atI_map i1 e2
          rcases r with r | r
          · exact .inl ⟨p, vs, i, v, rfl, rfl, r, q, lv H0 _ _ O H (Same.refl _) is st h⟩
          · exact .inr (.inl ⟨p, vs, i, v, rfl, rfl, r, q, lv H0 _ _ O H (Same.refl _) is st h⟩)
  · exact h.elim
def rIxD : R2 := fun x y H Q => ∃ a v, x = .ref a ∧ DGet H a y (some v) ∧ Q v H
theorem ix_dict {X : Cx} (hu : X.A.units + 1 < cLine) : IxR X rIxD := by
  intro value slice pins s σ H x y v u Q I rx ry h hs
  obtain ⟨a, z, rfl, g, q⟩ := h
  obtain rfl : v = Value.ref a := rx
  exact tail_any (dict_typeIs I g) PySem.F.slot_dict_getitem.lookup (d_getItem hu I g ry fun w' s3 I3 rw' => ⟨z, H, I3, rw', q⟩) hs
def fIx : F2 := fun a b O Q => match dget O a b with
  | some (some d) => Q d O
  | some none => False
  | none => fIx0 a b O Q
theorem rep_ix {K : PySem.W.Frag} : Rep2 K (fun x y H Q => rIx K x y H Q ∨ rIxD x y H Q) fIx := by
  intro H0 O H x y a b P Q st ix iy h lv
  unfold fIx at h
  split at h
  · rename_i d e
    obtain ⟨p, rv, rfl, _, g, k1, k2⟩ := dget_ok st ix iy e
    obtain ⟨w, rfl, is⟩ := k1 d rfl
    exact .inr ⟨p, w, rfl, g, lv H0 _ _ O H (Same.refl _) is st h⟩
  · exact h.elim
  · exact .inl (rep_ix0 H0 O H x y a b P Q st ix iy h lv)
section
variable {X : Cx} {W : WX} {pos : Pos}
theorem pe3_ix {a b : Expr} {ma mb : ME} (hu : X.A.units + 1 < cLine) (ha : PE X a (r3E X.K W ma)) (hb : PE X b (r3E X.K W mb)) (hs : PlainIx b) : PE X (.Subscript a b pos) (r3E X.K W (mOp fIx ma mb)) :=
  peW (pe_ix (ix_seq.or (ix_dict hu)) ha hb hs) fun σ H Q h => two rep_ix h
/-- a part of a slice -/
abbrev MO3 := PX → Gm → Sto → (Option Int → Sto → Prop) → Prop
def mNone : MO3 := fun _ _ O Q => Q none O
def mSome (m : ME) : MO3 := fun X Γ O Q => m X Γ O fun d O1 => match d with
  | .int i => Q (some i) O1
  | _ => False
def LinkO (K : PySem.W.Frag) (H0 : Hp) (P : Option Int → Sto → Prop) (Q : Option Int → Hp → Prop) : Prop := ∀ (H1 : Hp) (b : Option Int) (O : Sto) (H : Hp), Same H0 H1 → Sta K H1 O H → P b O → Q b H
def r3O (K : PySem.W.Frag) (W : WX) (m : MO3) : TO := fun σ H Q => ∃ Γ O H0 X P, EnvR K H0 Γ σ ∧ Sta K H0 O H ∧ m X Γ O P ∧ LinkX K W H0 σ X ∧ LinkO K H0 P Q
end
end L3

namespace L3
open PySem PySem.Spec PyProof.Rows L2

section
variable {X : Cx} {W : WX} {pos : Pos}
/-! ### slices -/
theorem po3_none : PO X none (r3O X.K W mNone) := ⟨fun pins s σ H Q I ⟨Γ, O, H0, Z, P, env, st, hm, lx, lv⟩ => po_none.run pins s σ H Q I (lv H0 none O H (Same.refl _) st hm)⟩
theorem po3_some {e : Expr} {m : ME} (h : PE X e (r3E X.K W m)) : PO X (some e) (r3O X.K W (mSome m)) := by
  refine ⟨fun pins s σ H Q I ⟨Γ, O, H0, Z, P, env, st, hm, lx, lv⟩ => (po_some h).run pins s σ H Q I ?_⟩
  refine ⟨Γ, O, H0, Z, _, env, st, hm, lx, fun H1 v d O1 H' s1 is1 st1 hm1 => ?_⟩
  cases is1 with
  | int i => exact ⟨i, rfl, lv H1 _ O1 H' s1 st1 hm1⟩
  | _ => exact hm1.elim
/-- the places of a slice -/
def cut {α : Type} (xs : List α) (lo hi : Option Int) : List α := (xs.drop (HT.sIx xs.length 0 lo)).take (HT.sIx xs.length xs.length hi - HT.sIx xs.length 0 lo)
def mSlice (ma : ME) (ml mh : MO3) : ME := fun X Γ O Q => ma X Γ O fun x O1 => ml X Γ O1 fun lo O2 => mh X Γ O2 fun hi O3 => match x with
  | .str z => z.length ≤ sizeLine ∧ Q (.str (cutS z lo hi)) O3
  | .tup ds => Q (.tup (cut ds lo hi)) O3
  | x => match lstOf O3 x with
    | some ds => ∀ p, O3 p = none → orFz Q (.cell p) (put O3 p (.lst (cut ds lo hi)))
    | none => False
theorem Iss.cut {K : PySem.W.Frag} {H : Hp} {vs : List V} {ds : List D} {lo hi : Option Int} (h : Iss K H vs ds) : Iss K H (cutV vs lo hi) (L3.cut ds lo hi) := by
  unfold cutV L3.cut
  rw [h.1]
  exact h.drop.take
theorem pe3_slice {e : Expr} {lo hi : Option Expr} {p2 : Pos} {ma : ME} {ml mh : MO3} (he : PE X e (r3E X.K W ma)) (hl : PO X lo (r3O X.K W ml)) (hh : PO X hi (r3O X.K W mh)) :
    PE X (.Subscript e (.Slice lo hi none p2) pos) (r3E X.K W (mSlice ma ml mh)) := by
  refine peW (pe_slice (SlR.or sl_list (SlR.or sl_tupA sl_str)) he hl hh) fun σ H Q ⟨Γ, O, H0, Z, P, env, st, hm, lx, lv⟩ => ?_
  refine ⟨Γ, O, H0, Z, _, env, st, hm, lx, fun H1 v d O1 H' s1 is1 st1 hm1 => ?_⟩
  refine ⟨Γ, O1, H1, Z, _, env.mono s1, st1, hm1, lx.mono s1, fun H2 l O2 H'' s2 st2 hm2 => ?_⟩
  refine ⟨Γ, O2, H2, Z, _, env.mono (s1.trans s2), st2, hm2, lx.mono (s1.trans s2), fun H3 u O3 H''' s3 st3 hm3 => ?_⟩
  have s := (s1.trans s2).trans s3
  have is3 := is1.mono (s2.trans s3)
  split at hm3
  · cases is3
    exact .inr (.inr ⟨_, rfl, hm3.1, lv H3 _ _ O3 H''' s (.str _) st3 hm3.2⟩)
  · rename_i ds
    obtain ⟨p, vs, rfl, r1, i1⟩ := is3.tup_
    refine .inr (.inl ⟨p, vs, rfl, same_tt st3.same r1, fun hw => ?_, fun hw c hc => ?_⟩)
    · have e1 : L3.cut ds l u = ds := by
        unfold L3.cut
        rw [i1.1] at hw
        rw [hw.1, hw.2]
        simp
      rw [e1] at hm3
      exact lv H3 _ _ O3 H''' s (.tup r1 i1.1 i1.2) st3 hm3
    · have h0 := (st3.free hc).2
      have i3 : Iss X.K H3 (cutV vs l u) (L3.cut ds l u) := i1.cut
      exact lv _ _ _ O3 _ (s.trans (same_upd h0)) (.tup upd_same i3.1 (i3.mono (same_upd h0)).2) (st3.new0 hc) hm3
  · rename_i x _ _
    cases e : lstOf O3 d with
    | none => rw [e] at hm3; exact hm3.elim
    | some ds =>
      rw [e] at hm3
      obtain ⟨p, vs, rfl, r1, i1⟩ := lstOf_ok st3 is3 e
      refine .inl ⟨p, vs, rfl, r1, fun c hc => ?_⟩
      exact lv.fz H3 _ _ _ _ s (.cell c) (st3.newC (u := .lst (L3.cut ds l u)) hc ⟨_, upd_same, i1.cut⟩) (hm3 c (st3.free hc).1)

/-! ### calls of built-in functions by values -/
abbrev FA := List D → Sto → PV → Prop
def RepA (K : PySem.W.Frag) (r : List V → Hp → VK → Prop) (f : FA) : Prop := ∀ (H0 : Hp) (O : Sto) (H : Hp) (vs : List V) (ds : List D) (P : PV) (Q : VK), Sta K H0 O H → Iss K H0 vs ds → f ds O P → LinkV K H0 P Q → r vs H Q
def mCB (f : FA) (ms : MA) : ME := fun X Γ O Q => ms X Γ O fun ds O1 => f ds O1 Q
theorem cb3 {K : PySem.W.Frag} {r : List V → Hp → VK → Prop} {f : FA} {ms : MA} (R : RepA K r f) {σ : L2.St} {H : Hp} {Q : VK} (h : r3E K W (mCB f ms) σ H Q) : tCB r (r3A K W ms) σ H Q := by
  obtain ⟨Γ, O, H0, Z, P, env, st, hm, lx, lv⟩ := h
  refine ⟨Γ, O, H0, Z, _, env, st, hm, lx, fun H1 vs ds O1 H' s1 is1 st1 hm1 => ?_⟩
  exact R H1 O1 H' vs ds P Q st1 is1 hm1 (lv.mono s1)
def fInt1 : FA := fun ds O Q => match ds with
  | [.int i] => Q (.int i) O
  | [.bl b] => Q (.int (if b then 1 else 0)) O
  | [.str a] => ∃ n, PySem.intText? a = some n ∧ a.length ≤ 640 ∧ Q (.int n) O
  | _ => False
theorem Iss.one {K : PySem.W.Frag} {H : Hp} {vs : List V} {d : D} (h : Iss K H vs [d]) : ∃ v, vs = [v] ∧ Is K H v d := by
  obtain ⟨v, us, rfl, a, b⟩ := h.uncons
  exact ⟨v, by rw [b.unnil], a⟩
theorem Iss.two_ {K : PySem.W.Frag} {H : Hp} {vs : List V} {d e : D} (h : Iss K H vs [d, e]) : ∃ v w, vs = [v, w] ∧ Is K H v d ∧ Is K H w e := by
  obtain ⟨v, us, rfl, a, b⟩ := h.uncons
  obtain ⟨w, rfl, c⟩ := b.one
  exact ⟨v, w, rfl, a, c⟩
theorem repA_int {K : PySem.W.Frag} : RepA K (fun xs H Q => ((∃ i, xs = [.int i] ∧ Q (.int i) H) ∨ ∃ k, xs = [.bl k] ∧ Q (.int (if k then 1 else 0)) H) ∨ ∃ a n, xs = [.str a] ∧ PySem.intText? a = some n ∧ a.length ≤ 640 ∧ Q (.int n) H) fInt1 := by
  intro H0 O H vs ds P Q st is h lv
  unfold fInt1 at h
  split at h
  · obtain ⟨v, rfl, a⟩ := is.one
    cases a
    exact .inl (.inl ⟨_, rfl, lv H0 _ _ O H (Same.refl _) (.int _) st h⟩)
  · obtain ⟨v, rfl, a⟩ := is.one
    cases a
    exact .inl (.inr ⟨_, rfl, lv H0 _ _ O H (Same.refl _) (.int _) st h⟩)
  · obtain ⟨v, rfl, a⟩ := is.one
    cases a
    obtain ⟨n, h1, h2, h3⟩ := h
    exact .inr ⟨_, n, rfl, h1, h2, lv H0 _ _ O H (Same.refl _) (.int _) st h3⟩
  · exact h.elim
def fAbs : FA := fun ds O Q => match ds with
  | [.int i] => Q (.int (if i < 0 then -i else i)) O
  | _ => False
theorem repA_abs {K : PySem.W.Frag} : RepA K (fun xs H Q => ∃ i, xs = [.int i] ∧ Q (.int (if i < 0 then -i else i)) H) fAbs := by
  intro H0 O H vs ds P Q st is h lv
  unfold fAbs at h
  split at h
  · obtain ⟨v, rfl, a⟩ := is.one
    cases a
    exact ⟨_, rfl, lv H0 _ _ O H (Same.refl _) (.int _) st h⟩
  · exact h.elim
def fI2A (g : Int → Int → Int) : FA := fun ds O Q => match ds with
  | [.int i, .int j] => Q (.int (g i j)) O
  | _ => False
theorem repA_I2 {K : PySem.W.Frag} {g : Int → Int → Int} : RepA K (fun xs H Q => ∃ i j, xs = [.int i, .int j] ∧ Q (.int (g i j)) H) (fI2A g) := by
  intro H0 O H vs ds P Q st is h lv
  unfold fI2A at h
  split at h
  · obtain ⟨v, w, rfl, a, b⟩ := is.two_
    cases a
    cases b
    exact ⟨_, _, rfl, lv H0 _ _ O H (Same.refl _) (.int _) st h⟩
  · exact h.elim
def fMax2 : FA := fI2A fun i j => if j > i then j else i
def fMin2 : FA := fI2A fun i j => if j < i then j else i
def fGcd : FA := fI2A fun i j => ((Nat.gcd i.natAbs j.natAbs : Nat) : Int)
def fLen : FA := fun ds O Q => match ds with
  | [.str z] => z.length ≤ sizeLine ∧ Q (.int z.length) O
  | [d] => match seqOf O d with
    | some xs => Q (.int xs.length) O
    | none => False
  | _ => False
theorem repA_len {K : PySem.W.Frag} : RepA K (fun xs H Q => ∃ x n, xs = [x] ∧ LenV K x H n ∧ Q (.int n) H) fLen := by
  intro H0 O H vs ds P Q st is h lv
  unfold fLen at h
  split at h
  · obtain ⟨v, rfl, a⟩ := is.one
    cases a
    exact ⟨_, _, rfl, ⟨h.1, rfl⟩, lv H0 _ _ O H (Same.refl _) (.int _) st h.2⟩
  · rename_i d _
    obtain ⟨v, rfl, a⟩ := is.one
    cases e : seqOf O d with
    | none => rw [e] at h; exact h.elim
    | some xs =>
      rw [e] at h
      obtain ⟨p, us, rfl, r, i1⟩ := seqOf_ok st a e
      refine ⟨_, us.length, rfl, ?_, lv H0 _ _ O H (Same.refl _) (by rw [i1.1]; exact .int _) st h⟩
      rcases r with r | r
      · exact .inl ⟨us, r, rfl⟩
      · exact .inr ⟨us, r, rfl⟩
  · exact h.elim

/-! ### calls of own defs -/
abbrev FSpec := List D → Sto → PX → PV → Prop
def LinkE (K : PySem.W.Frag) (H0 : Hp) (Z : PX) (E : XK) : Prop := ∀ (H1 : Hp) (C : Str) (fs : List (Str × D)) (O : Sto) (oe : Option Addr) (H : Hp), Same H0 H1 → Sta K H1 O H → XOk K H1 H oe fs → Z C fs O → E (.ref (He.ga K C)) oe H
def spOf (K : PySem.W.Frag) (n : Nat) (S : FSpec) : Sp := fun vs H Q E => vs.length = n ∧ ∃ H0 O ds Z P, Iss K H0 vs ds ∧ Sta K H0 O H ∧ S ds O Z P ∧ LinkE K H0 Z E ∧ LinkV K H0 P Q
def mCall (S : FSpec) (n : Nat) (ms : MA) : ME := fun Z Γ O Q => ms Z Γ O fun ds O1 => ds.length = n ∧ S ds O1 Z Q
structure FnAt (X : Cx) (x : Str) (n : Nat) (S : FSpec) : Prop where
  ex : ∃ k f fd ps, FnOk X.prog X.w X.K X.mg X.base (L2.CX X.prog X.w) k f fd ps (spOf X.K n S) ∧ Room k X.A ∧ X.mg x = some (.ref f) ∧ PySem.W.keepIn X.K (.ref f) = true ∧ Binds X.K fd ps []
theorem pe3_call {x : Str} {p : Pos} {e : Expr} {es : List Expr} {n : Nat} {S : FSpec} {ms : MA} (F : FnAt X x n S) (tk : Takes X W) (hg : Gl X x) (ha : PA X (e :: es) (r3A X.K W ms)) (hdb : (x == ("__debug__" : Str)) = false)
    (he : starEach (e :: es) X.env = (false, eval e X.env) :: starEach es X.env) (hpl : (backTo pos (starEach es X.env)).any (·.1) = false) :
    PE X (.Call (.Name x p) (e :: es) [] pos) (r3E X.K W (mCall S n ms)) := by
  obtain ⟨k, f, fd, ps, F, hr, hm, hk, hb⟩ := F.ex
  refine peW (pe_callSD F hr hg hm hk hb (dvs := []) .nil (fun σ => passAt tk σ) ha hdb he hpl) fun σ H Q ⟨Γ, O, H0, Z, P, env, st, hm, lx, lv⟩ => ?_
  refine ⟨Γ, O, H0, Z, _, env, st, hm, lx, fun H1 vs ds O1 H' s1 is1 st1 hm1 => ?_⟩
  show spOf X.K n S (vs ++ []) H' Q (WE W σ)
  rw [List.append_nil]
  refine ⟨by rw [is1.1]; exact hm1.1, H1, O1, ds, Z, P, is1, st1, hm1.2, ?_, lv.mono s1⟩
  exact fun H2 C fs O2 oe H'' s2 st2 xo z => lx H2 C fs O2 oe H'' (s1.trans s2) st2 xo z
theorem pe3_call0 {x : Str} {p : Pos} {S : FSpec} (F : FnAt X x 0 S) (tk : Takes X W) (hg : Gl X x) (hdb : (x == ("__debug__" : Str)) = false) : PE X (.Call (.Name x p) [] [] pos) (r3E X.K W (mCall S 0 mNil)) := by
  obtain ⟨k, f, fd, ps, F, hr, hm, hk, hb⟩ := F.ex
  refine ⟨fun pins s σ H Q I ⟨Γ, O, H0, Z, P, env, st, hS, lx, lv⟩ => ?_⟩
  refine wpAny_Call_Name_kw (ld_glob I hg hm ?_ hdb)
  refine PySem.W.callWith_K0 I.kIn hk (run_fnSD (us := []) (E := fun σ => WE W σ) F hr hb (dvs := []) .nil (passAt tk σ) I .nil ?_)
  refine ⟨rfl, H0, O, [], Z, P, .nil, st, hS.2, fun H2 C fs O2 oe H'' s2 st2 xo z => lx H2 C fs O2 oe H'' s2 st2 xo z, lv⟩

/-! ## statements -/
structure En where
  nx : Gm → Sto → Prop
  rt : PV
  bk : Gm → Sto → Prop := fun _ _ => False
  ct : Gm → Sto → Prop := fun _ _ => False
  xp : Str → List (Str × D) → Gm → Sto → Prop := fun _ _ _ _ => False
abbrev MS := En → Gm → Sto → Prop
def LinkN (K : PySem.W.Frag) (H0 : Hp) (P : Gm → Sto → Prop) (Q : L2.St → Hp → Prop) : Prop := ∀ (H1 : Hp) (Γ : Gm) (σ : L2.St) (O : Sto) (H : Hp), Same H0 H1 → EnvR K H1 Γ σ → Sta K H1 O H → P Γ O → Q σ H
def LinkW (K : PySem.W.Frag) (W : WX) (H0 : Hp) (Z : Str → List (Str × D) → Gm → Sto → Prop) : Prop := ∀ (H1 : Hp) (C : Str) (fs : List (Str × D)) (Γ : Gm) (σ : L2.St) (O : Sto) (oe : Option Addr) (H : Hp), Same H0 H1 → EnvR K H1 Γ σ → Sta K H1 O H → XOk K H1 H oe fs → Z C fs Γ O → W (.ref (He.ga K C)) oe σ H
structure LinkS (K : PySem.W.Frag) (W : WX) (H0 : Hp) (P : En) (E : Ends) : Prop where
  nx : LinkN K H0 P.nx E.nx
  rt : LinkV K H0 P.rt E.rt
  bk : LinkN K H0 P.bk E.bk
  ct : LinkN K H0 P.ct E.ct
  xp : LinkW K W H0 P.xp
theorem LinkN.mono {K : PySem.W.Frag} {H0 H1 : Hp} {P : Gm → Sto → Prop} {Q : L2.St → Hp → Prop} (e : Same H0 H1) (l : LinkN K H0 P Q) : LinkN K H1 P Q := fun H2 Γ σ O H s a b c => l H2 Γ σ O H (e.trans s) a b c
theorem LinkS.mono {K : PySem.W.Frag} {W : WX} {H0 H1 : Hp} {P : En} {E : Ends} (e : Same H0 H1) (l : LinkS K W H0 P E) : LinkS K W H1 P E :=
  ⟨l.nx.mono e, l.rt.mono e, l.bk.mono e, l.ct.mono e, fun H2 C fs Γ σ O oe H s a b c d => l.xp H2 C fs Γ σ O oe H (e.trans s) a b c d⟩
theorem LinkS.x {K : PySem.W.Frag} {W : WX} {H0 : Hp} {P : En} {E : Ends} {Γ : Gm} {σ : L2.St} (l : LinkS K W H0 P E) (env : EnvR K H0 Γ σ) : LinkX K W H0 σ fun C fs O => P.xp C fs Γ O :=
  fun H1 C fs O oe H s st xo z => l.xp H1 C fs Γ σ O oe H s (env.mono s) st xo z
def r3S (K : PySem.W.Frag) (W : WX) (m : MS) : TS := fun E σ H => ∃ Γ O H0 P, EnvR K H0 Γ σ ∧ Sta K H0 O H ∧ m P Γ O ∧ LinkS K W H0 P E
/-- what an expression is asked within a statement -/
abbrev En.x (P : En) (Γ : Gm) : PX := fun C fs O => P.xp C fs Γ O
def mNext : MS := fun P Γ O => P.nx Γ O
def mSeq (a b : MS) : MS := fun P Γ O => a { P with nx := b P } Γ O
def mBrk : MS := fun P Γ O => P.bk Γ O
def mCont : MS := fun P Γ O => P.ct Γ O
def mRet (m : ME) : MS := fun P Γ O => m (P.x Γ) Γ O (orFz P.rt)
def mRetN : MS := fun P _ O => P.rt .non O
def mDrop (m : ME) : MS := fun P Γ O => m (P.x Γ) Γ O fun _ O1 => P.nx Γ O1
def mIf (t : MT) (a b : MS) : MS := fun P Γ O => t (P.x Γ) Γ O fun k O1 => if k = true then a P Γ O1 else b P Γ O1
theorem pss3_nil : PSs X [] (r3S X.K W mNext) := pssW pss_nil fun E σ H ⟨Γ, O, H0, P, env, st, hm, l⟩ => l.nx H0 Γ σ O H (Same.refl _) env st hm
theorem seq3 {K : PySem.W.Frag} {a b : MS} {E : Ends} {σ : L2.St} {H : Hp} (h : r3S K W (mSeq a b) E σ H) : tSeq (r3S K W a) (r3S K W b) E σ H := by
  obtain ⟨Γ, O, H0, P, env, st, hm, l⟩ := h
  exact ⟨Γ, O, H0, { P with nx := b P }, env, st, hm, fun H1 Γ1 σ1 O1 H' s1 e1 st1 hm1 => ⟨Γ1, O1, H1, P, e1, st1, hm1, l.mono s1⟩, l.rt, l.bk, l.ct, l.xp⟩
theorem pss3_cons {st : Stmt} {rest : List Stmt} {a b : MS} (h1 : PS X st (r3S X.K W a)) (h2 : PSs X rest (r3S X.K W b)) : PSs X (st :: rest) (r3S X.K W (mSeq a b)) := pssW (pss_cons h1 h2) fun E σ H h => seq3 h
theorem pss3_one {st : Stmt} {a : MS} (h1 : PS X st (r3S X.K W a)) : PSs X [st] (r3S X.K W a) := pss_one h1
theorem ps3_pass : PS X (.Pass pos) (r3S X.K W mNext) := psW ps_pass fun E σ H ⟨Γ, O, H0, P, env, st, hm, l⟩ => l.nx H0 Γ σ O H (Same.refl _) env st hm
theorem ps3_break : PS X (.Break pos) (r3S X.K W mBrk) := psW ps_break fun E σ H ⟨Γ, O, H0, P, env, st, hm, l⟩ => l.bk H0 Γ σ O H (Same.refl _) env st hm
theorem ps3_continue : PS X (.Continue pos) (r3S X.K W mCont) := psW ps_continue fun E σ H ⟨Γ, O, H0, P, env, st, hm, l⟩ => l.ct H0 Γ σ O H (Same.refl _) env st hm
theorem ps3_ret {e : Expr} {m : ME} (he : PE X e (r3E X.K W m)) : PS X (.Return (some e) pos) (r3S X.K W (mRet m)) :=
  psW (ps_ret he) fun E σ H ⟨Γ, O, H0, P, env, st, hm, l⟩ => ⟨Γ, O, H0, _, _, env, st, hm, l.x env, l.rt.fz⟩
theorem ps3_retN : PS X (.Return none pos) (r3S X.K W mRetN) := psW ps_retN fun E σ H ⟨Γ, O, H0, P, env, st, hm, l⟩ => l.rt H0 _ _ O H (Same.refl _) .non st hm
theorem ps3_expr {e : Expr} {m : ME} (he : PE X e (r3E X.K W m)) (hs : swapsWith e none pos.line X.env = pure false) : PS X (.Expr e pos) (r3S X.K W (mDrop m)) :=
  psW (ps_expr he hs) fun E σ H ⟨Γ, O, H0, P, env, st, hm, l⟩ => ⟨Γ, O, H0, _, _, env, st, hm, l.x env, fun H1 v d O1 H' s1 is1 st1 hm1 => l.nx H1 Γ σ O1 H' s1 (env.mono s1) st1 hm1⟩
theorem ps3_if {c : Expr} {a b : List Stmt} {t : MT} {ma mb : MS} (hc : PT X c (r3T X.K W t)) (ha : PSs X a (r3S X.K W ma)) (hb : PSs X b (r3S X.K W mb)) : PS X (.If c a b pos) (r3S X.K W (mIf t ma mb)) := by
  refine psW (ps_if hc ha hb) fun E σ H ⟨Γ, O, H0, P, env, st, hm, l⟩ => ?_
  refine ⟨Γ, O, H0, _, _, env, st, hm, l.x env, fun H1 b O1 H' s1 st1 hm1 => ?_⟩
  cases b with
  | true => rw [if_pos rfl] at hm1 ⊢; exact ⟨Γ, O1, H1, P, env.mono s1, st1, hm1, l.mono s1⟩
  | false => rw [if_neg Bool.false_ne_true] at hm1 ⊢; exact ⟨Γ, O1, H1, P, env.mono s1, st1, hm1, l.mono s1⟩

/-! ### targets -/
abbrev MG := PX → D → Gm → Sto → (Gm → Sto → Prop) → Prop
abbrev MGs := PX → List D → Gm → Sto → (Gm → Sto → Prop) → Prop
def r3G (K : PySem.W.Frag) (W : WX) (m : MG) : TG := fun v σ H Q => ∃ Γ O H0 Z P d, EnvR K H0 Γ σ ∧ Sta K H0 O H ∧ Is K H0 v d ∧ m Z d Γ O P ∧ LinkX K W H0 σ Z ∧ LinkN K H0 P Q
def r3Gs (K : PySem.W.Frag) (W : WX) (m : MGs) : TGs := fun vs σ H Q => ∃ Γ O H0 Z P ds, EnvR K H0 Γ σ ∧ Sta K H0 O H ∧ Iss K H0 vs ds ∧ m Z ds Γ O P ∧ (∀ σ, LinkX K W H0 σ Z) ∧ LinkN K H0 P Q
theorem pgW {e : Expr} {t t' : TG} (h : PG X e t) (w : ∀ v σ H Q, t' v σ H Q → t v σ H Q) : PG X e t' := ⟨fun pins s σ H v u Q I r q => h.run pins s σ H v u Q I r (w v σ H Q q)⟩
theorem pgsW {e : List Expr} {t t' : TGs} (h : PGs X e t) (w : ∀ v σ H Q, t' v σ H Q → t v σ H Q) : PGs X e t' := ⟨fun pins s σ H v u Q I r q => h.run pins s σ H v u Q I r (w v σ H Q q)⟩
def tgName (i : Nat) : MG := fun _ d Γ O Q => Q (Γ.set i (some d)) O
theorem pg3_name {e : Expr} {i : Nat} (h : PG X e (gName i)) : PG X e (r3G X.K W (tgName i)) :=
  pgW h fun v σ H Q ⟨Γ, O, H0, Z, P, d, env, st, is, hm, lx, ln⟩ => ln H0 _ _ O H (Same.refl _) (env.set is) st hm
def tgNil : MGs := fun _ ds Γ O Q => match ds with
  | [] => Q Γ O
  | _ => False
/-- names alone (nothing raised): the first, then the rest -/
def tgCons (t : MG) (u : MGs) : MGs := fun Z ds Γ O Q => match ds with
  | d :: r => t (fun _ _ _ => False) d Γ O fun Γ1 O1 => u Z r Γ1 O1 Q
  | [] => False
theorem pgs3_nil : PGs X [] (r3Gs X.K W tgNil) := by
  refine pgsW pgs_nil fun vs σ H Q ⟨Γ, O, H0, Z, P, ds, env, st, is, hm, lx, ln⟩ => ?_
  cases ds with
  | nil => exact ⟨is.unnil, ln H0 _ _ O H (Same.refl _) env st hm⟩
  | cons d r => exact hm.elim
theorem linkX0 {K : PySem.W.Frag} {H0 : Hp} {σ : L2.St} : LinkX K W H0 σ (fun _ _ _ => False) := fun _ _ _ _ _ _ _ _ _ z => z.elim
theorem pgs3_cons {e : Expr} {es : List Expr} {t : MG} {u : MGs} (h1 : PG X e (r3G X.K W t)) (h2 : PGs X es (r3Gs X.K W u)) (hs : (assignEach (e :: es) X.env).map (·.2) = assign e X.env :: (assignEach es X.env).map (·.2)) : PGs X (e :: es) (r3Gs X.K W (tgCons t u)) := by
  refine pgsW (pgs_cons h1 h2 hs) fun vs σ H Q ⟨Γ, O, H0, Z, P, ds, env, st, is, hm, lx, ln⟩ => ?_
  cases ds with
  | nil => exact hm.elim
  | cons d r =>
    obtain ⟨v, us, rfl, i1, i2⟩ := is.uncons
    refine ⟨v, us, rfl, Γ, O, H0, _, _, d, env, st, i1, hm, linkX0, fun H1 Γ1 σ1 O1 H' s1 e1 st1 hm1 => ?_⟩
    exact ⟨Γ1, O1, H1, Z, P, r, e1, st1, i2.mono s1, hm1, fun σ => (lx σ).mono s1, ln.mono s1⟩
/-- (a, b, ..) = a tuple -/
def tgTup (n : Nat) (u : MGs) : MG := fun _ d Γ O Q => match d with
  | .tup ds => ds.length = n ∧ u (fun _ _ _ => False) ds Γ O Q
  | _ => False
theorem pg3_tup {es : List Expr} {k n : Nat} {u : MGs} (hc : X.calm = true) (h : PGs X es (r3Gs X.K W u)) (hn : (assignEach es X.env).length = n) (hst : (assignEach es X.env).findIdx? (·.1) = none) : PG X (.Tuple es k pos) (r3G X.K W (tgTup n u)) := by
  refine pgW (pg_tup hc h hn hst) fun v σ H Q ⟨Γ, O, H0, Z, P, d, env, st, is, hm, lx, ln⟩ => ?_
  cases is with
  | @tup a vs ds r l c =>
    obtain ⟨e, hm⟩ := hm
    exact ⟨a, vs, rfl, same_tt st.same r, by rw [l]; exact e, Γ, O, H0, _, P, ds, env, st, ⟨l, c⟩, hm, fun σ => linkX0, ln⟩
  | _ => exact hm.elim
/-- xs[i] = v, d[k] = v -/
def setL (O : Sto) (o i d : D) (Q : Sto → Prop) : Prop := match o with
  | .cell p => match O p, i with
    | some (.lst ds), .int k => match ixN ds.length k with
      | some j => Q (put O p (.lst (ds.set j d)))
      | none => False
    | some (.dK kvs), i => match keyD i with
      | some k => kvs.length < sizeLine ∧ Q (put O p (.dK (putD kvs k d)))
      | none => False
    | some (.dT kvs), .tup is => match keysD is with
      | some k => kvs.length < sizeLine ∧ Q (put O p (.dT (putD kvs k d)))
      | none => False
    | _, _ => False
  | _ => False
theorem setL_ok {O : Sto} {o i d : D} {Q : Sto → Prop} (h : setL O o i d Q) : (∃ p ds k j, o = .cell p ∧ i = .int k ∧ O p = some (.lst ds) ∧ ixN ds.length k = some j ∧ Q (put O p (.lst (ds.set j d)))) ∨
    (∃ p kvs k, o = .cell p ∧ O p = some (.dK kvs) ∧ keyD i = some k ∧ kvs.length < sizeLine ∧ Q (put O p (.dK (putD kvs k d)))) ∨ ∃ p kvs is k, o = .cell p ∧ O p = some (.dT kvs) ∧ i = .tup is ∧ keysD is = some k ∧ kvs.length < sizeLine ∧ Q (put O p (.dT (putD kvs k d))) := by
  unfold setL at h
  split at h
  · split at h
    · rename_i e
      split at h
      · rename_i e2
        exact .inl ⟨_, _, _, _, rfl, rfl, e, e2, h⟩
      · exact h.elim
    · rename_i e
      split at h
      · rename_i e2
        exact .inr (.inl ⟨_, _, _, rfl, e, e2, h.1, h.2⟩)
      · exact h.elim
    · rename_i e
      split at h
      · rename_i e2
        exact .inr (.inr ⟨_, _, _, _, rfl, e, rfl, e2, h.1, h.2⟩)
      · exact h.elim
    · exact h.elim
  · exact h.elim
def rSetD : V → V → V → Hp → (Hp → Prop) → Prop := fun o i v H Q => rSetL o i v H Q ∨ ∃ a H4, o = .ref a ∧ DPut H a i v H4 ∧ Q H4
theorem set_any (hu : X.A.units + 1 < cLine) : PSet X rSetD := by
  intro pins s σ H o i v ov iv u Q I ro ri rv h
  rcases h with h | ⟨a, H4, rfl, g, q⟩
  · exact set_list pins s σ H o i v ov iv u Q I ro ri rv h
  · obtain rfl : ov = Value.ref a := ro
    exact d_setItem hu I g ri rv fun s4 I4 => ⟨H4, I4, q⟩
def tgIx (mo mi : ME) : MG := fun Z d Γ O Q => mo Z Γ O fun o O1 => mi Z Γ O1 fun i O2 => setL O2 o i d (Q Γ)
theorem pg3_ix {o i : Expr} {mo mi : ME} (hu : X.A.units + 1 < cLine) (ho : PE X o (r3E X.K W mo)) (hi : PE X i (r3E X.K W mi))
    (ha : ∀ v, assign (.Subscript o i pos) X.env v = (do
      let ov ← holding [v] (eval o X.env)
      let iv ← holding [v, ov] (eval i X.env)
      standAt pos
      holding [v, ov, iv] (setItem ov iv v)
      release [v, ov, iv] [])) : PG X (.Subscript o i pos) (r3G X.K W (tgIx mo mi)) := by
  refine pgW (pg_sub ho hi (set_any hu) ha) fun v σ H Q ⟨Γ, O, H0, Z, P, d, env, st, is, hm, lx, ln⟩ => ?_
  refine ⟨Γ, O, H0, Z, _, env, st, hm, lx, fun H1 x a O1 H' s1 is1 st1 hm1 => ?_⟩
  refine ⟨Γ, O1, H1, Z, _, env.mono s1, st1, hm1, lx.mono s1, fun H2 y b O2 H'' s2 is2 st2 hm2 => ?_⟩
  have isd := is.mono (s1.trans s2)
  rcases setL_ok hm2 with ⟨p, ds, k, j, rfl, rfl, e, e2, hq⟩ | ⟨p, kvs, k, rfl, e, e2, hl, hq⟩ | ⟨p, kvs, js, k, rfl, e, rfl, e2, hl, hq⟩
  · cases is1
    cases is2
    obtain ⟨_, vs, e3, r⟩ := st2.cell p _ e
    refine .inl ⟨p, vs, k, j, rfl, rfl, e3, by rw [r.1]; exact e2, ?_⟩
    have r2 : Iss X.K H2 (vs.set j v) (ds.set j d) := r.set isd
    exact ln H2 _ _ _ _ (s1.trans s2) (env.mono (s1.trans s2)) (st2.set (u := .lst (ds.set j d)) e ⟨_, upd_same, r2⟩) hq
  · cases is1
    obtain ⟨_, ws, e3, l, r⟩ := st2.cell p _ e
    obtain ⟨l2, r2⟩ := put_rel (k := k) isd l r
    refine .inr ⟨p, _, rfl, .inl ⟨ws, k, e3, keyD_ok is2 e2, ?_, rfl⟩, ?_⟩
    · have := congrArg List.length l
      simp only [List.length_map] at this
      omega
    · exact ln H2 _ _ _ _ (s1.trans s2) (env.mono (s1.trans s2)) (st2.set (u := .dK (putD kvs k d)) e ⟨_, upd_same, l2, r2⟩) hq
  · cases is1
    obtain ⟨b, us, rfl, r1, i1⟩ := is2.tup_
    obtain ⟨_, ws, e3, l, r⟩ := st2.cell p _ e
    obtain ⟨l2, r2⟩ := put_rel (k := k) isd l r
    refine .inr ⟨p, _, rfl, .inr ⟨ws, k, b, e3, rfl, ?_, ?_, rfl⟩, ?_⟩
    · rw [← keysD_ok i1 e2]
      exact st2.same _ _ r1
    · have := congrArg List.length l
      simp only [List.length_map] at this
      omega
    · exact ln H2 _ _ _ _ (s1.trans s2) (env.mono (s1.trans s2)) (st2.set (u := .dT (putD kvs k d)) e ⟨_, upd_same, l2, r2⟩) hq
def mAsg (m : ME) (g : MG) : MS := fun P Γ O => m (P.x Γ) Γ O fun d O1 => g (P.x Γ) d Γ O1 P.nx
theorem asg3 {K : PySem.W.Frag} {m : ME} {g : MG} {E : Ends} {σ : L2.St} {H : Hp} (h : r3S K W (mAsg m g) E σ H) : tAsg (r3E K W m) (r3G K W g) E σ H := by
  obtain ⟨Γ, O, H0, P, env, st, hm, l⟩ := h
  refine ⟨Γ, O, H0, _, _, env, st, hm, l.x env, fun H1 v d O1 H' s1 is1 st1 hm1 => ?_⟩
  exact ⟨Γ, O1, H1, _, _, d, env.mono s1, st1, is1, hm1, (l.x env).mono s1, l.nx.mono s1⟩
theorem ps3_asg {tg e : Expr} {m : ME} {g : MG} (he : PE X e (r3E X.K W m)) (hg : PG X tg (r3G X.K W g)) (hs : swapsWithSole [tg] e pos.line X.env = pure false) (hw : swappedStores [tg] e X.env = pure none) (h1 : (assignEach [tg] X.env).map (·.2) = [assign tg X.env]) :
    PS X (.Assign [tg] e pos) (r3S X.K W (mAsg m g)) := psW (ps_asg he hg hs hw h1) fun E σ H h => asg3 h
/-- a, b = e1, e2, local names -/
def par2 (ds : List D) (Q : D → D → Prop) : Prop := match ds with
  | [a, b] => Q a b
  | _ => False
theorem par2_ok {ds : List D} {Q : D → D → Prop} (h : par2 ds Q) : ∃ a b, ds = [a, b] ∧ Q a b := by
  unfold par2 at h
  split at h
  · exact ⟨_, _, rfl, h⟩
  · exact h.elim
def mPar (i j : Nat) (ms : MA) : MS := fun P Γ O => ms (P.x Γ) Γ O fun ds O1 => par2 ds fun a b => P.nx ((Γ.set i (some a)).set j (some b)) O1
theorem ps3_par {st : Stmt} {i j : Nat} {ms : MA} (h : PS X st (tPar i j (r3A X.K W ms))) : PS X st (r3S X.K W (mPar i j ms)) := by
  refine psW h fun E σ H ⟨Γ, O, H0, P, env, st, hm, l⟩ => ?_
  refine ⟨Γ, O, H0, _, _, env, st, hm, l.x env, fun H1 vs ds O1 H' s1 is1 st1 hm1 => ?_⟩
  obtain ⟨a, b, rfl, hm2⟩ := par2_ok hm1
  obtain ⟨v, w, rfl, a, b⟩ := is1.two_
  exact ⟨v, w, rfl, l.nx H1 _ _ O1 H' s1 (((env.mono s1).set a).set b) st1 hm2⟩
end
end L3

namespace L3
open PySem PySem.Spec PyProof.Rows L2

/-- freezing what a name holds -/
inductive FzG : Gm → Sto → Gm → Sto → Prop where
  | refl {Γ : Gm} {O : Sto} : FzG Γ O Γ O
  | slot {Γ : Gm} {O O' : Sto} {i : Nat} {d e : D} (h : Γ[i]? = some (some d)) (f : Fz d O e O') : FzG Γ O (Γ.set i (some e)) O'
  | trans {Γ Γ1 Γ2 : Gm} {O O1 O2 : Sto} (h : FzG Γ O Γ1 O1) (k : FzG Γ1 O1 Γ2 O2) : FzG Γ O Γ2 O2
theorem FzG.ok {K : PySem.W.Frag} {Γ Γ' : Gm} {O O' : Sto} (f : FzG Γ O Γ' O') : ∀ {H0 H : Hp} {σ : L2.St}, EnvR K H0 Γ σ → Sta K H0 O H → ∃ H1, Same H0 H1 ∧ EnvR K H1 Γ' σ ∧ Sta K H1 O' H := by
  induction f with
  | refl => exact fun env st => ⟨_, Same.refl _, env, st⟩
  | @slot Γ O O' i d e h f =>
    intro H0 H σ env st
    obtain ⟨v, hv, is⟩ := env.get h
    obtain ⟨H1, s, is1, st1⟩ := f.ok is st
    refine ⟨H1, s, ?_, st1⟩
    have env1 := (env.mono s).set (i := i) is1
    have e2 : σ.set i (some v) = σ := by
      apply List.ext_getElem?
      intro j
      by_cases hj : i = j
      · subst hj
        rw [List.getElem?_set_self (List.getElem?_eq_some_iff.mp hv).1, hv]
      · rw [List.getElem?_set_ne hj]
    rw [e2] at env1
    exact env1
  | trans h k ih1 ih2 =>
    intro H0 H σ env st
    obtain ⟨H1, s1, e1, st1⟩ := ih1 env st
    obtain ⟨H2, s2, e2, st2⟩ := ih2 e1 st1
    exact ⟨H2, s1.trans s2, e2, st2⟩
def orFzG (Q : Gm → Sto → Prop) : Gm → Sto → Prop := fun Γ O => ∃ Γ' O', FzG Γ O Γ' O' ∧ Q Γ' O'
theorem LinkN.fz {K : PySem.W.Frag} {H0 : Hp} {P : Gm → Sto → Prop} {Q : L2.St → Hp → Prop} (l : LinkN K H0 P Q) : LinkN K H0 (orFzG P) Q := by
  rintro H1 Γ σ O H s env st ⟨Γ', O', f, p⟩
  obtain ⟨H2, s2, e2, st2⟩ := f.ok env st
  exact l H2 Γ' σ O' H (s.trans s2) e2 st2 p

/-! ## for -/
/-- what is walked -/
def itemsOf (O : Sto) : D → Option (List D)
  | .str z => some (z.cps.toList.map fun c => .str ⟨#[c]⟩)
  | d => seqOf O d
def forL (chk : Sto → Prop) (g : MG) (b : MS) (P : En) : List D → Gm → Sto → Prop
  | [], Γ, O => chk O ∧ orFzG P.nx Γ O
  | x :: r, Γ, O => chk O ∧ g (fun _ _ _ => False) x Γ O fun Γ1 O1 => b { P with nx := forL chk g b P r, ct := forL chk g b P r, bk := orFzG P.nx } Γ1 O1
/-! what is walked, as what is known of it and its items -/
abbrev MI := PX → Gm → Sto → ((Sto → Prop) → List D → Sto → Prop) → Prop
/-- an iterator that yields these items while chk holds -/
structure ItOk (K : PySem.W.Frag) (H1 : Hp) (J : It) (chk : Sto → Prop) (all : List D) : Prop where
  go : ∀ H2 O H i x, Same H1 H2 → Sta K H2 O H → chk O → all[i]? = some x → J.go i H ∧ ∀ y H', J.yld i H y H' → ∃ H3, Same H2 H3 ∧ Sta K H3 O H' ∧ Is K H3 y x
  stop : ∀ H2 O H i, Same H1 H2 → Sta K H2 O H → chk O → all.length ≤ i → J.stop i H
theorem ItOk.plain {K : PySem.W.Frag} {H1 : Hp} {J : It} {chk : Sto → Prop} {all : List D} (h1 : ∀ H2 O H i x, Same H1 H2 → Sta K H2 O H → chk O → all[i]? = some x → J.go i H ∧ ∀ y H', J.yld i H y H' → H' = H ∧ Is K H2 y x)
    (h2 : ∀ H2 O H i, Same H1 H2 → Sta K H2 O H → chk O → all.length ≤ i → J.stop i H) : ItOk K H1 J chk all :=
  ⟨fun H2 O H i x s st hc hx => ⟨(h1 H2 O H i x s st hc hx).1, fun y H' hy => by
    obtain ⟨rfl, is⟩ := (h1 H2 O H i x s st hc hx).2 y H' hy
    exact ⟨H2, Same.refl _, st, is⟩⟩, h2⟩
def LinkI (K : PySem.W.Frag) (H0 : Hp) (P : (Sto → Prop) → List D → Sto → Prop) (R : It → Hp → Prop) : Prop := ∀ (H1 : Hp) (J : It) (chk : Sto → Prop) (all : List D) (O : Sto) (H : Hp), Same H0 H1 → Sta K H1 O H → ItOk K H1 J chk all → P chk all O → R J H
def r3I (K : PySem.W.Frag) (W : WX) (m : MI) : TI := fun σ H R => ∃ Γ O H0 Z P, EnvR K H0 Γ σ ∧ Sta K H0 O H ∧ m Z Γ O P ∧ LinkX K W H0 σ Z ∧ LinkI K H0 P R
def mFor (mi : MI) (g : MG) (b : MS) : MS := fun P Γ O => mi (P.x Γ) Γ O fun chk all O1 => forL chk g b P all Γ O1
def itQ (O : Sto) (d : D) (Q : (Sto → Prop) → List D → Sto → Prop) : Prop := match itemsOf O d with
  | some all => Q (fun O => itemsOf O d = some all) all O
  | none => False
def iSeq (m : ME) : MI := fun Z Γ O Q => m Z Γ O fun d O1 => itQ O1 d Q
def upto (lo : Int) : Nat → List D
  | 0 => []
  | n + 1 => .int lo :: upto (lo + 1) n
theorem upto_get : ∀ {n : Nat} {lo : Int} {i : Nat}, i < n → (upto lo n)[i]? = some (.int (lo + i))
  | 0, _, _, h => absurd h (Nat.not_lt_zero _)
  | n + 1, lo, 0, _ => by simp [upto]
  | n + 1, lo, i + 1, h => by
    have := upto_get (n := n) (lo := lo + 1) (i := i) (by omega)
    show (upto (lo + 1) n)[i]? = _
    rw [this]
    congr 2
    omega
theorem upto_len : ∀ {n : Nat} {lo : Int}, (upto lo n).length = n
  | 0, _ => rfl
  | n + 1, lo => by show (upto (lo + 1) n).length + 1 = n + 1; rw [upto_len]
def rng1 (ds : List D) (Q : Int → Nat → Prop) : Prop := match ds with
  | [.int j] => (-(2 ^ 62) ≤ j ∧ j < 2 ^ 62) ∧ Q 0 j.toNat
  | _ => False
def rng2 (ds : List D) (Q : Int → Nat → Prop) : Prop := match ds with
  | [.int i, .int j] => (-(2 ^ 62) ≤ i ∧ i < 2 ^ 62 ∧ -(2 ^ 62) ≤ j ∧ j < 2 ^ 62) ∧ Q i (j - i).toNat
  | _ => False
theorem rng1_ok {ds : List D} {Q : Int → Nat → Prop} (h : rng1 ds Q) : ∃ j, ds = [.int j] ∧ (-(2 ^ 62) ≤ j ∧ j < 2 ^ 62) ∧ Q 0 j.toNat := by
  unfold rng1 at h
  split at h
  · exact ⟨_, rfl, h⟩
  · exact h.elim
theorem rng2_ok {ds : List D} {Q : Int → Nat → Prop} (h : rng2 ds Q) : ∃ i j, ds = [.int i, .int j] ∧ (-(2 ^ 62) ≤ i ∧ i < 2 ^ 62 ∧ -(2 ^ 62) ≤ j ∧ j < 2 ^ 62) ∧ Q i (j - i).toNat := by
  unfold rng2 at h
  split at h
  · exact ⟨_, _, rfl, h⟩
  · exact h.elim
def iR1 (ms : MA) : MI := fun Z Γ O Q => ms Z Γ O fun ds O1 => rng1 ds fun lo n => Q (fun _ => True) (upto lo n) O1
def iR2 (ms : MA) : MI := fun Z Γ O Q => ms Z Γ O fun ds O1 => rng2 ds fun lo n => Q (fun _ => True) (upto lo n) O1

theorem piW {X : Cx} {tg e : Expr} {t t' : TI} (h : PI X tg e t) (w : ∀ σ H R, t' σ H R → t σ H R) : PI X tg e t' := ⟨fun pins s σ H R I q => h.run pins s σ H R I (w σ H R q)⟩
section
variable {X : Cx} {W : WX} {pos : Pos}
/-- a loop's walk, by what its iterator yields -/
theorem for_core {K : PySem.W.Frag} {J : It} {all : List D} {chk : Sto → Prop} {g : MG} {b : MS} {P : En} {H0 : Hp} {D0 : Ends} (l : LinkS K W H0 P D0)
    (hJ : ItOk K H0 J chk all) {Γ : Gm} {σ : L2.St} {O : Sto} {H : Hp} (env : EnvR K H0 Γ σ) (st : Sta K H0 O H) (hm : forL chk g b P all Γ O) :
    ∃ W0 : Nat → Nat → L2.St → Hp → Prop, (∃ m, W0 0 m σ H) ∧ ∀ i m σ H, W0 i m σ H →
      (J.stop i H ∧ D0.nx σ H) ∨ (J.go i H ∧ ∃ N : L2.St → Hp → Prop, (∀ σ' H', N σ' H' → ∃ m', m' < m ∧ W0 (i + 1) m' σ' H') ∧ ∀ x H', J.yld i H x H' → r3G K W g x σ H' fun σ2 H2 => r3S K W b { D0 with nx := N, ct := N, bk := D0.nx } σ2 H2) := by
  refine ⟨fun i m σ H => ∃ Γ O H1, Same H0 H1 ∧ EnvR K H1 Γ σ ∧ Sta K H1 O H ∧ i + m = all.length ∧ forL chk g b P (all.drop i) Γ O, ⟨all.length, Γ, O, H0, Same.refl _, env, st, by omega, by simpa using hm⟩, ?_⟩
  rintro i m σ H ⟨Γ, O, H1, s1, env1, st1, hi, hm⟩
  cases e : all.drop i with
  | nil =>
    rw [e] at hm
    have hl : all.length ≤ i := List.drop_eq_nil_iff.mp e
    exact .inl ⟨hJ.stop H1 O H i s1 st1 hm.1 hl, l.nx.fz H1 Γ σ O H s1 env1 st1 hm.2⟩
  | cons x r =>
    rw [e] at hm
    have hx : all[i]? = some x := by
      have h0 := congrArg (fun z : List L3.D => z[0]?) e
      simp only [List.getElem?_drop] at h0
      simpa using h0
    have hr : all.drop (i + 1) = r := by
      have h0 := congrArg List.tail e
      rw [List.tail_drop] at h0
      exact h0
    obtain ⟨j1, j2⟩ := hJ.go H1 O H i x s1 st1 hm.1 hx
    refine .inr ⟨j1, fun σ' H' => ∃ Γ O H2, Same H0 H2 ∧ EnvR K H2 Γ σ' ∧ Sta K H2 O H' ∧ forL chk g b P r Γ O, ?_, ?_⟩
    · rintro σ' H' ⟨Γ', O', H2, s2, env2, st2, h2⟩
      have hlt : i < all.length := (List.getElem?_eq_some_iff.mp hx).1
      exact ⟨m - 1, by omega, Γ', O', H2, s2, env2, st2, by omega, by rw [hr]; exact h2⟩
    · intro y H' hy
      obtain ⟨Hy, sy, sty, is⟩ := j2 y H' hy
      refine ⟨Γ, O, Hy, _, _, x, env1.mono sy, sty, is, hm.2, linkX0, fun H2 Γ2 σ2 O2 H2' s2 env2 st2 hm2 => ?_⟩
      refine ⟨Γ2, O2, H2, _, env2, st2, hm2, ?_⟩
      have s02 := (s1.trans sy).trans s2
      have l2 := l.mono s02
      refine ⟨fun H3 Γ3 σ3 O3 H3' s3 env3 st3 h3 => ⟨Γ3, O3, H3, s02.trans s3, env3, st3, h3⟩, l2.rt, l2.nx.fz, fun H3 Γ3 σ3 O3 H3' s3 env3 st3 h3 => ⟨Γ3, O3, H3, s02.trans s3, env3, st3, h3⟩, l2.xp⟩
theorem ps3_for {tg iter : Expr} {body : List Stmt} {mi : MI} {g : MG} {b : MS} (hp : PassesOwn (model X.prog X.w) X.A X.env X.xe) (hc : X.calm = true) (hi : PI X tg iter (r3I X.K W mi)) (hg : PG X tg (r3G X.K W g)) (hb : PSs X body (r3S X.K W b))
    (hs : ∀ x, foldedSetIterable iter X.env x = pure x) : PS X (.For tg iter body [] pos) (r3S X.K W (mFor mi g b)) := by
  refine psW (ps_for hp hc hi hg hb hs) fun E σ H ⟨Γ, O, H0, P, env, st, hm, l⟩ => ?_
  refine ⟨Γ, O, H0, _, _, env, st, hm, l.x env, fun H1 J chk all O1 H' s1 st1 hJ hm1 => ?_⟩
  exact for_core (l.mono s1) hJ (env.mono s1) st1 hm1
/-- a list, a tuple, a text walked -/
def iSeq3 (K : PySem.W.Frag) (te : TE) : TI := fun σ H R => te σ H fun x H1 => (∃ a, x = .ref a ∧ (∃ xs, SqL K H1 a xs) ∧ R (Itl K a) H1) ∨ (∃ a, x = .ref a ∧ (∃ xs, SqT K H1 a xs) ∧ R (Itt K a) H1) ∨ ∃ z, x = .str z ∧ R (Its z) H1
theorem pi_seq3 {tg e : Expr} {te : TE} (he : PE X e te) : PI X tg e (iSeq3 X.K te) := by
  refine ⟨fun pins s σ H R I h => ?_⟩
  refine thn (he.run pins s σ H _ I h) fun v s1 ⟨y, H1, I1, r1, q⟩ => ?_
  rcases q with ⟨a, e, ⟨xs, hq⟩, q⟩ | ⟨a, e, ⟨xs, hq⟩, q⟩ | ⟨x, e, q⟩
  · subst e
    cases r1
    obtain ⟨its, rv, p, hz⟩ := I1.list hq
    refine wpAny_pyIter_list p.isList ?_
    refine ⟨s1.heap.objs.size, [s1.heap.objs.size], _, _, H1, rfl, I1.kept (t' := s1.toks) fun b o e => Heap.get?_push_of_some _ e, turn_list a _, ⟨_, Heap.get?_push_size _ rfl, rfl, rfl⟩, fun b hb => ?_, q⟩
    have e : b = s1.heap.objs.size := by simpa using hb
    subst e
    exact I1.fpOk (Nat.le_refl _) (I1.hok.fresh (Nat.le_refl _))
  · subst e
    cases r1
    obtain ⟨its, rv, p, hz⟩ := I1.tuple hq
    refine wpAny_pyIter_tuple (show s1.heap.IsTuple a its.toArray from p) ?_
    refine ⟨s1.heap.objs.size, [s1.heap.objs.size], _, _, H1, rfl, I1.kept (t' := s1.toks) fun b o e => Heap.get?_push_of_some _ e, turn_tuple a _, ⟨_, Heap.get?_push_size _ rfl, rfl, rfl⟩, fun b hb => ?_, q⟩
    have e : b = s1.heap.objs.size := by simpa using hb
    subst e
    exact I1.fpOk (Nat.le_refl _) (I1.hok.fresh (Nat.le_refl _))
  · subst e
    obtain ⟨t, rfl⟩ := r1
    cases ha : x.cps.all (· < 128)
    · exact wpAny_pyIter_wide ha (pi_one (tk := s1.toks) I1 _ (turn_str _ x t "str_iterator" (.inr rfl)) ⟨_, Heap.get?_push_size _ rfl, rfl, rfl⟩ q)
    · exact wpAny_pyIter_ascii ha (pi_one (tk := s1.toks) I1 _ (turn_str _ x t "str_ascii_iterator" (.inl rfl)) ⟨_, Heap.get?_push_size _ rfl, rfl, rfl⟩ q)
theorem Rd.sq {K : PySem.W.Frag} {H : Hp} {a : Addr} {vs : List V} (r : Rd H a (.lst vs)) : SqL K H a vs := .inl r
/-- the iterator of a value, by its items: which, and what it yields -/
theorem items_it {K : PySem.W.Frag} {H0 : Hp} {v : V} {d : L3.D} {all : List L3.D} (is : Is K H0 v d) {O : Sto} (hd : itemsOf O d = some all) :
    ∃ J : It, (∀ H1 O H, Same H0 H1 → Sta K H1 O H → itemsOf O d = some all → (∃ a, v = .ref a ∧ (∃ xs, SqL K H a xs) ∧ J = Itl K a) ∨ (∃ a, v = .ref a ∧ (∃ xs, SqT K H a xs) ∧ J = Itt K a) ∨ ∃ z, v = .str z ∧ J = Its z) ∧
      (∀ H1 O H i x, Same H0 H1 → Sta K H1 O H → itemsOf O d = some all → all[i]? = some x → J.go i H ∧ ∀ y H', J.yld i H y H' → H' = H ∧ Is K H1 y x) ∧ (∀ H1 O H i, Same H0 H1 → Sta K H1 O H → itemsOf O d = some all → all.length ≤ i → J.stop i H) := by
  have viaL : ∀ a, v = .ref a → (∀ H1 O H, Same H0 H1 → Sta K H1 O H → itemsOf O d = some all → ∃ vs, SqL K H a vs ∧ Iss K H1 vs all) → ∃ J : It, (∀ H1 O H, Same H0 H1 → Sta K H1 O H → itemsOf O d = some all → (∃ a, v = .ref a ∧ (∃ xs, SqL K H a xs) ∧ J = Itl K a) ∨ (∃ a, v = .ref a ∧ (∃ xs, SqT K H a xs) ∧ J = Itt K a) ∨ ∃ z, v = .str z ∧ J = Its z) ∧
      (∀ H1 O H i x, Same H0 H1 → Sta K H1 O H → itemsOf O d = some all → all[i]? = some x → J.go i H ∧ ∀ y H', J.yld i H y H' → H' = H ∧ Is K H1 y x) ∧ (∀ H1 O H i, Same H0 H1 → Sta K H1 O H → itemsOf O d = some all → all.length ≤ i → J.stop i H) := by
    intro a e q
    refine ⟨Itl K a, fun H1 O H s st h => ?_, fun H1 O H i x s st h hx => ?_, fun H1 O H i s st h hl => ?_⟩
    · obtain ⟨vs, r, _⟩ := q H1 O H s st h
      exact .inl ⟨a, e, ⟨vs, r⟩, rfl⟩
    · obtain ⟨vs, r, ii⟩ := q H1 O H s st h
      obtain ⟨w, hw, iw⟩ := ii.get hx
      exact ⟨⟨vs, w, r, hw⟩, fun y H' hy => ⟨hy.1, by rw [Option.some.inj ((hy.2 vs r).symm.trans hw)]; exact iw⟩⟩
    · obtain ⟨vs, r, ii⟩ := q H1 O H s st h
      exact ⟨vs, r, by rw [ii.1]; exact hl⟩
  cases is with
  | str z =>
    cases hd
    refine ⟨Its z, fun H1 O H s st h => .inr (.inr ⟨z, rfl, rfl⟩), fun H1 O H i x s st h hx => ?_, fun H1 O H i s st h hl => ?_⟩
    · rw [List.getElem?_map] at hx
      cases e : z.cps.toList[i]? with
      | none => rw [e] at hx; cases hx
      | some c =>
        rw [e] at hx
        cases hx
        have hlt : i < z.cps.size := by
          have := (List.getElem?_eq_some_iff.mp e).1
          simpa using this
        refine ⟨hlt, fun y H' hy => ⟨hy.1, ?_⟩⟩
        obtain ⟨c', h1, h2⟩ := hy.2
        have e3 : z.cps.toList[i]? = z.cps[i]? := by simp
        rw [e3, h1] at e
        cases e
        subst h2
        exact .str _
    · have : z.cps.size ≤ i := by simpa using hl
      exact this
  | @tup a vs ds r l c =>
    have hds : ds = all := Option.some.inj hd
    subst hds
    refine ⟨Itt K a, fun H1 O H s st h => ?_, fun H1 O H i x s st h hx => ?_, fun H1 O H i s st h hl => ?_⟩
    · exact .inr (.inl ⟨a, rfl, ⟨vs, same_tt (s.trans st.same) r⟩, rfl⟩)
    · have ii : Iss K H0 vs ds := ⟨l, c⟩
      obtain ⟨w, hw, iw⟩ := ii.get hx
      have r' := same_tt (K := K) (s.trans st.same) r
      exact ⟨⟨vs, w, r', hw⟩, fun y H' hy => ⟨hy.1, by rw [Option.some.inj ((hy.2 vs r').symm.trans hw)]; exact iw.mono s⟩⟩
    · exact ⟨vs, same_tt (s.trans st.same) r, by rw [l]; exact hl⟩
  | @lst a vs ds r l c =>
    have hds : ds = all := Option.some.inj hd
    subst hds
    exact viaL a rfl fun H1 O H s st h => ⟨vs, same_l (s.trans st.same) r, (show Iss K H0 vs ds from ⟨l, c⟩).mono s⟩
  | cell p =>
    refine viaL p rfl fun H1 O H s st h => ?_
    obtain ⟨_, vs, e, ii⟩ := st.cell p _ (lstOf_cell h)
    exact ⟨vs, SqL.of e, ii⟩
  | non => cases hd
  | bl b => cases hd
  | int i => cases hd
  | ty n => cases hd
  | obj h l c => cases hd
  | dK h l c => cases hd
  | dT h l c => cases hd
theorem pi3_seq {tg e : Expr} {m : ME} (he : PE X e (r3E X.K W m)) : PI X tg e (r3I X.K W (iSeq m)) := by
  refine piW (pi_seq3 he) fun σ H R ⟨Γ, O, H0, Z, P, env, st, hm, lx, li⟩ => ?_
  refine ⟨Γ, O, H0, Z, _, env, st, hm, lx, fun H1 v d O1 H' s1 is1 st1 hm1 => ?_⟩
  have hm2 : itQ O1 d P := hm1
  unfold itQ at hm2
  cases e : itemsOf O1 d with
  | none => rw [e] at hm2; exact hm2.elim
  | some all =>
    rw [e] at hm2
    obtain ⟨J, j1, j2, j3⟩ := items_it is1 e
    have core := li H1 J _ all O1 H' s1 st1 (ItOk.plain j2 j3) hm2
    rcases j1 H1 O1 H' (Same.refl _) st1 e with ⟨a, rfl, hx, rfl⟩ | ⟨a, rfl, hx, rfl⟩ | ⟨z, rfl, rfl⟩
    · exact .inl ⟨a, rfl, hx, core⟩
    · exact .inr (.inl ⟨a, rfl, hx, core⟩)
    · exact .inr (.inr ⟨z, rfl, core⟩)
theorem rng_it {K : PySem.W.Frag} {H1 : Hp} {lo : Int} {n : Nat} : ItOk K H1 (Itr lo n) (fun _ => True) (upto lo n) := by
  refine ItOk.plain (fun H1 O H i x s st _ hx => ?_) (fun H1 O H i s st _ hl => ?_)
  · have hlt : i < n := by
      have := (List.getElem?_eq_some_iff.mp hx).1
      rwa [upto_len] at this
    rw [upto_get hlt] at hx
    cases hx
    exact ⟨hlt, fun y H' hy => ⟨hy.1, by rw [hy.2]; exact .int _⟩⟩
  · rw [upto_len] at hl
    exact hl
theorem pi3_r1 {tg a : Expr} {ms : MA} {p pos1 : Pos} (hgl : Gl X "range") (hm : X.mg "range" = none) (ha : PA X [a] (r3A X.K W ms)) (hst : starEach [a] X.env = [(false, eval a X.env)]) : PI X tg (.Call (.Name "range" p) [a] [] pos1) (r3I X.K W (iR1 ms)) := by
  refine piW (pi_range1 hgl hm ha hst) fun σ H R ⟨Γ, O, H0, Z, P, env, st, hm, lx, li⟩ => ?_
  refine ⟨Γ, O, H0, Z, _, env, st, hm, lx, fun H1 vs ds O1 H' s1 is1 st1 hm2 => ?_⟩
  obtain ⟨j, rfl, hj, hm2⟩ := rng1_ok hm2
  obtain ⟨v, rfl, r⟩ := is1.one
  cases r
  exact ⟨_, rfl, hj.1, hj.2, li H1 _ _ _ O1 H' s1 st1 rng_it hm2⟩
theorem pi3_r2 {tg a a2 : Expr} {ms : MA} {p pos1 : Pos} (hgl : Gl X "range") (hm : X.mg "range" = none) (ha : PA X [a, a2] (r3A X.K W ms)) (hst : starEach [a, a2] X.env = [(false, eval a X.env), (false, eval a2 X.env)]) (hst2 : starEach [a2] X.env = [(false, eval a2 X.env)]) :
    PI X tg (.Call (.Name "range" p) [a, a2] [] pos1) (r3I X.K W (iR2 ms)) := by
  refine piW (pi_range2 hgl hm ha hst hst2) fun σ H R ⟨Γ, O, H0, Z, P, env, st, hm, lx, li⟩ => ?_
  refine ⟨Γ, O, H0, Z, _, env, st, hm, lx, fun H1 vs ds O1 H' s1 is1 st1 hm2 => ?_⟩
  obtain ⟨i, j, rfl, hj, hm2⟩ := rng2_ok hm2
  obtain ⟨v, w, rfl, r, r2⟩ := is1.two_
  cases r
  cases r2
  exact ⟨_, _, rfl, hj, li H1 _ _ _ O1 H' s1 st1 rng_it hm2⟩

/-! ## while -/
def mWhile (t : MT) (b : MS) : MS := fun P Γ O => ∃ W0 : Nat → Gm → Sto → Prop, (∃ m, W0 m Γ O) ∧ ∀ m Γ O, W0 m Γ O →
  t (P.x Γ) Γ O fun k O1 => if k = true then b { P with nx := fun Γ' O' => ∃ m', m' < m ∧ W0 m' Γ' O', ct := fun Γ' O' => ∃ m', m' < m ∧ W0 m' Γ' O', bk := orFzG P.nx } Γ O1 else orFzG P.nx Γ O1
theorem ps3_while {c : Expr} {body : List Stmt} {t : MT} {b : MS} (hp : PassesOwn (model X.prog X.w) X.A X.env X.xe) (hc : PT X c (r3T X.K W t)) (hb : PSs X body (r3S X.K W b)) : PS X (.While c body [] pos) (r3S X.K W (mWhile t b)) := by
  refine psW (ps_while hp hc hb) fun E σ H ⟨Γ, O, H0, P, env, st, ⟨W0, ⟨m0, w0⟩, hm⟩, l⟩ => ?_
  refine ⟨fun m σ H => ∃ Γ O H1, Same H0 H1 ∧ EnvR X.K H1 Γ σ ∧ Sta X.K H1 O H ∧ W0 m Γ O, ⟨m0, Γ, O, H0, Same.refl _, env, st, w0⟩, ?_⟩
  rintro m σ H ⟨Γ, O, H1, s1, env1, st1, w1⟩
  have l1 := l.mono s1
  refine ⟨Γ, O, H1, _, _, env1, st1, hm m Γ O w1, l1.x env1, fun H2 k O2 H2' s2 st2 hm2 => ?_⟩
  cases k with
  | true =>
    rw [if_pos rfl] at hm2 ⊢
    refine ⟨fun σ' H' => ∃ m', m' < m ∧ ∃ Γ O H1, Same H0 H1 ∧ EnvR X.K H1 Γ σ' ∧ Sta X.K H1 O H' ∧ W0 m' Γ O, fun σ' H' ⟨m', h1, h2⟩ => ⟨m', h1, h2⟩, ?_⟩
    have s12 := s1.trans s2
    have l2 := l.mono s12
    refine ⟨Γ, O2, H2, _, env1.mono s2, st2, hm2, ?_, l2.rt, l2.nx.fz, ?_, l2.xp⟩
    · rintro H3 Γ3 σ3 O3 H3' s3 env3 st3 ⟨m', h1, h2⟩
      exact ⟨m', h1, Γ3, O3, H3, s12.trans s3, env3, st3, h2⟩
    · rintro H3 Γ3 σ3 O3 H3' s3 env3 st3 ⟨m', h1, h2⟩
      exact ⟨m', h1, Γ3, O3, H3, s12.trans s3, env3, st3, h2⟩
  | false =>
    rw [if_neg Bool.false_ne_true] at hm2 ⊢
    exact l1.nx.fz H2 Γ σ O2 H2' s2 (env1.mono s2) st2 hm2
end
end L3

namespace L3
open PySem PySem.Spec PyProof.Rows L2

/-! ## isinstance -/
inductive T3 where
  | int | bool | str | tup | lst | dict
  deriving DecidableEq
def T3.nm : T3 → String
  | .int => "int" | .bool => "bool" | .str => "str" | .tup => "tuple" | .lst => "list" | .dict => "dict"
def T3.isInt : T3 → Bool | .int => true | _ => false
def T3.isBl : T3 → Bool | .int => true | .bool => true | _ => false
def T3.isStr : T3 → Bool | .str => true | _ => false
def T3.isTup : T3 → Bool | .tup => true | _ => false
def T3.isLst : T3 → Bool | .lst => true | _ => false
def isT (O : Sto) (d : D) (t : T3) : Option Bool := match d with
  | .non => some false
  | .int _ => some t.isInt
  | .bl _ => some t.isBl
  | .str _ => some t.isStr
  | .tup _ => some t.isTup
  | .lst _ => some t.isLst
  | .cell p => match O p with
    | some (.lst _) => some t.isLst
    | _ => none
  | _ => none
theorem sqT_tyX {K : PySem.W.Frag} {H : Hp} {a : Addr} {vs : List V} (h : SqT K H a vs) : TyX K H (.ref a) (.type "tuple") := by
  rcases h with (h | ⟨o, h⟩) | ⟨o, its, n, hk, hc, _⟩
  · exact .base (.tup h)
  · exact .fTuple h
  · exact .kTuple hk hc
theorem rd_tyX {K : PySem.W.Frag} {H : Hp} {a : Addr} {vs : List V} (h : SqL K H a vs) : TyX K H (.ref a) (.type "list") := by
  rcases h with (h | ⟨o, h⟩) | ⟨o, its, n, hk, hc, _⟩
  · exact .base (.lst h)
  · exact .base (.frz h)
  · exact .kList hk hc
theorem isT_ok {K : PySem.W.Frag} {H0 H : Hp} {O : Sto} {v : V} {d : D} {t : T3} {b : Bool} (st : Sta K H0 O H) (is : Is K H0 v d) (h : isT O d t = some b) : ∃ ty, TyX K H v (.type ty) ∧ kitB ty t.nm = some b := by
  have L : ∀ b', some t.isLst = some b' → kitB "list" t.nm = some b' := by
    intro b' e
    cases e
    cases t <;> decide +kernel
  cases is with
  | non => cases h; exact ⟨"NoneType", .base .non, by cases t <;> decide +kernel⟩
  | bl x => exact ⟨"bool", .base (.bl x), by cases h; cases t <;> decide +kernel⟩
  | int x => exact ⟨"int", .base (.int x), by cases h; cases t <;> decide +kernel⟩
  | str x => exact ⟨"str", .base (.str x), by cases h; cases t <;> decide +kernel⟩
  | ty n => cases h
  | tup r l c => exact ⟨"tuple", sqT_tyX (same_tt st.same r), by cases h; cases t <;> decide +kernel⟩
  | lst r l c => exact ⟨"list", rd_tyX (same_l st.same r), L b h⟩
  | obj r l c => cases h
  | dK r l c => cases h
  | dT r l c => cases h
  | cell p =>
    have h2 : (match O p with
      | some (.lst _) => some t.isLst
      | _ => none) = some b := h
    cases e : O p with
    | none => rw [e] at h2; cases h2
    | some u =>
      rw [e] at h2
      cases u with
      | lst ds =>
        obtain ⟨_, vs, e2, _⟩ := st.cell p _ e
        exact ⟨"list", .base (.lst e2), L b h2⟩
      | _ => cases h2
def mIsT (t : T3) (m : ME) : ME := fun X Γ O Q => m X Γ O fun d O1 => match isT O1 d t with
  | some b => Q (.bl b) O1
  | none => False
/-- what a class of the program must say for isinstance -/
structure OCls (K : PySem.W.Frag) (C : Addr) : Prop where
  cls : Cls K C
  ha : PySem.W.findIn K (.ref C) "__class__" = some (some (.builtin "object.__class__"))
  hn : PySem.W.specialIn K (.builtin "object.__class__") "__get__" = some (some (.builtin "getset_descriptor.__get__"))
  ht : PySem.W.takesIn K (.builtin "object.__class__") = some true
  hm : PySem.W.mroIn K C (.type "object") = some true
  ne : ∀ T ∈ ["int", "bool", "str", "tuple", "list", "NoneType"], PySem.W.kitOne K (.type T) (.ref C) = some false
def isO (cn : Str) (O : Sto) (d : D) : Option Bool := match d with
  | .non => some false
  | .int _ => some false
  | .bl _ => some false
  | .str _ => some false
  | .tup _ => some false
  | .lst _ => some false
  | .obj C _ => if C = cn then some true else none
  | .cell p => match O p with
    | some (.lst _) => some false
    | some (.ins C _) => if C = cn then some true else none
    | _ => none
  | _ => none
theorem kit_self {K : PySem.W.Frag} {C : Addr} : PySem.W.kitOne K (.ref C) (.ref C) = some true := by
  unfold PySem.W.kitOne
  rw [if_pos (by simp)]
theorem isO_ok {K : PySem.W.Frag} {H0 H : Hp} {O : Sto} {v : V} {d : D} {cn : Str} {b : Bool} (c : OCls K (He.ga K cn)) (st : Sta K H0 O H) (is : Is K H0 v d) (h : isO cn O d = some b) : ∃ ty, TyX K H v ty ∧ PySem.W.kitOne K ty (.ref (He.ga K cn)) = some b := by
  cases is with
  | non => cases h; exact ⟨_, .base .non, c.ne _ (by decide)⟩
  | bl x => cases h; exact ⟨_, .base (.bl x), c.ne _ (by decide)⟩
  | int x => cases h; exact ⟨_, .base (.int x), c.ne _ (by decide)⟩
  | str x => cases h; exact ⟨_, .base (.str x), c.ne _ (by decide)⟩
  | ty n => cases h
  | dK r l q => cases h
  | dT r l q => cases h
  | tup r l q => cases h; exact ⟨_, sqT_tyX (same_tt st.same r), c.ne _ (by decide)⟩
  | lst r l q => cases h; exact ⟨_, rd_tyX (same_l st.same r), c.ne _ (by decide)⟩
  | @obj a dx C vs ds r l q =>
    have h2 : (if C = cn then some true else none) = some b := h
    split at h2
    · rename_i e
      cases h2
      subst e
      exact ⟨_, .base (.ins (st.same _ _ r) c.cls c.ha c.hn c.ht c.hm), kit_self⟩
    · cases h2
  | cell p =>
    have h2 : (match O p with
      | some (.lst _) => some false
      | some (.ins C _) => if C = cn then some true else none
      | _ => none) = some b := h
    cases e : O p with
    | none => rw [e] at h2; cases h2
    | some u =>
      rw [e] at h2
      cases u with
      | lst ds =>
        cases h2
        obtain ⟨_, vs, e2, _⟩ := st.cell p _ e
        exact ⟨_, .base (.lst e2), c.ne _ (by decide)⟩
      | ins C fs =>
        have h3 : (if C = cn then some true else none) = some b := h2
        split at h3
        · rename_i e3
          cases h3
          subst e3
          obtain ⟨_, dx, vs, e2, _⟩ := st.cell p _ e
          exact ⟨_, .base (.ins e2 c.cls c.ha c.hn c.ht c.hm), kit_self⟩
        · cases h3
      | _ => cases h2
def mIsO (cn : Str) (m : ME) : ME := fun X Γ O Q => m X Γ O fun d O1 => match isO cn O1 d with
  | some b => Q (.bl b) O1
  | none => False
section
variable {X : Cx} {W : WX} {pos : Pos}
theorem pe3_isT {e : Expr} {t : T3} {m : ME} {p p2 : Pos} {x : Str} (he : PE X e (r3E X.K W m)) (hg : Gl X "isinstance") (hm : X.mg "isinstance" = none) (hgt : Gl X x) (hmt : X.mg x = none) (hvt : bootBuiltins x = some (.type t.nm)) (hn : x ≠ "__name__") (hdb : (x == ("__debug__" : Str)) = false)
    (h1 : starEach [e, .Name x p2] X.env = (false, eval e X.env) :: starEach [.Name x p2] X.env) : PE X (.Call (.Name "isinstance" p) [e, .Name x p2] [] pos) (r3E X.K W (mIsT t m)) := by
  refine peW (pe_callB call_isi hg hm (by decide +kernel) (pa_cons he (pa_cons (pe_bltn (v := .ty t.nm) hgt hmt hvt rfl hn hdb) pa_nil) h1) (by decide) (by decide) h1) fun σ H Q ⟨Γ, O, H0, Z, P, env, st, hm, lx, lv⟩ => ?_
  refine ⟨Γ, O, H0, Z, _, env, st, hm, lx, fun H1 v d O1 H' s1 is1 st1 hm1 => ?_⟩
  have hm2 : (match isT O1 d t with
    | some b => P (.bl b) O1
    | none => False) := hm1
  cases e2 : isT O1 d t with
  | none => rw [e2] at hm2; exact hm2.elim
  | some b =>
    rw [e2] at hm2
    obtain ⟨ty, h1, h2⟩ := isT_ok st1 is1 e2
    exact ⟨_, _, _, _, b, rfl, .ty _, h1, kit_ty h2, lv H1 _ _ O1 H' s1 (.bl b) st1 hm2⟩
theorem pe3_isO {e : Expr} {cn : Str} {m : ME} {p p2 : Pos} (he : PE X e (r3E X.K W m)) (hg : Gl X "isinstance") (hm : X.mg "isinstance" = none) (hgt : Gl X cn) (hmt : X.mg cn = some (.ref (He.ga X.K cn))) (c : OCls X.K (He.ga X.K cn)) (hdb : (cn == ("__debug__" : Str)) = false)
    (h1 : starEach [e, .Name cn p2] X.env = (false, eval e X.env) :: starEach [.Name cn p2] X.env) : PE X (.Call (.Name "isinstance" p) [e, .Name cn p2] [] pos) (r3E X.K W (mIsO cn m)) := by
  refine peW (pe_callB call_isi hg hm (by decide +kernel) (pa_cons he (pa_cons (pe_glob (v := .ref (He.ga X.K cn)) hgt hmt rfl hdb) pa_nil) h1) (by decide) (by decide) h1) fun σ H Q ⟨Γ, O, H0, Z, P, env, st, hm, lx, lv⟩ => ?_
  refine ⟨Γ, O, H0, Z, _, env, st, hm, lx, fun H1 v d O1 H' s1 is1 st1 hm1 => ?_⟩
  have hm2 : (match isO cn O1 d with
    | some b => P (.bl b) O1
    | none => False) := hm1
  cases e2 : isO cn O1 d with
  | none => rw [e2] at hm2; exact hm2.elim
  | some b =>
    rw [e2] at hm2
    obtain ⟨ty, h1, h2⟩ := isO_ok c st1 is1 e2
    exact ⟨_, _, _, _, b, rfl, .own _, h1, h2, lv H1 _ _ O1 H' s1 (.bl b) st1 hm2⟩
end

/-! ## fields -/
theorem lookup_rel {K : PySem.W.Frag} {H : Hp} {f : Str} {d : D} : ∀ {vs : List (Str × V)} {ds : List (Str × D)}, vs.map (·.1) = ds.map (·.1) → Iss K H (vs.map (·.2)) (ds.map (·.2)) → ds.lookup f = some d → ∃ v, vs.lookup f = some v ∧ Is K H v d
  | [], [], _, _, h => by cases h
  | [], _ :: _, e, _, _ => by cases e
  | _ :: _, [], e, _, _ => by cases e
  | (a, v) :: vs, (b, c) :: ds, e, r, h => by
    have e1 : a = b := (List.cons.inj e).1
    have e2 : vs.map (·.1) = ds.map (·.1) := (List.cons.inj e).2
    subst e1
    obtain ⟨v', vs', ev, i1, i2⟩ := Iss.uncons (show Iss K H (v :: vs.map (·.2)) (c :: ds.map (·.2)) from r)
    cases ev
    rw [List.lookup_cons] at h ⊢
    cases q : (f == a) with
    | true => rw [q] at h; cases h; exact ⟨v, rfl, i1⟩
    | false => rw [q] at h; exact lookup_rel e2 i2 h
def putA (f : Str) (d : D) : List (Str × D) → List (Str × D)
  | [] => [(f, d)]
  | (g, x) :: r => if g = f then (g, d) :: r else (g, x) :: putA f d r
theorem putA_rel {K : PySem.W.Frag} {H : Hp} {f : Str} {v : V} {d : D} (iv : Is K H v d) : ∀ {vs : List (Str × V)} {ds : List (Str × D)}, vs.map (·.1) = ds.map (·.1) → Iss K H (vs.map (·.2)) (ds.map (·.2)) →
    (putF f v vs).map (·.1) = (putA f d ds).map (·.1) ∧ Iss K H ((putF f v vs).map (·.2)) ((putA f d ds).map (·.2))
  | [], [], _, _ => ⟨rfl, .cons iv .nil⟩
  | [], _ :: _, e, _ => by cases e
  | _ :: _, [], e, _ => by cases e
  | (a, w) :: vs, (b, c) :: ds, e, r => by
    have e1 : a = b := (List.cons.inj e).1
    have e2 : vs.map (·.1) = ds.map (·.1) := (List.cons.inj e).2
    subst e1
    obtain ⟨v', vs', ev, i1, i2⟩ := Iss.uncons (show Iss K H (w :: vs.map (·.2)) (c :: ds.map (·.2)) from r)
    cases ev
    show ((if a = f then (a, v) :: vs else (a, w) :: putF f v vs).map (·.1) = (if a = f then (a, d) :: ds else (a, c) :: putA f d ds).map (·.1)) ∧ Iss K H ((if a = f then (a, v) :: vs else (a, w) :: putF f v vs).map (·.2)) ((if a = f then (a, d) :: ds else (a, c) :: putA f d ds).map (·.2))
    by_cases q : a = f
    · rw [if_pos q, if_pos q]
      exact ⟨by simp [e2], .cons iv i2⟩
    · rw [if_neg q, if_neg q]
      obtain ⟨h1, h2⟩ := putA_rel (f := f) iv e2 i2
      exact ⟨by simp [h1], .cons i1 h2⟩
/-- what the classes say of their instances' fields -/
def AtOk (K : PySem.W.Frag) (tab : List (Str × Str)) : Prop := ∀ q ∈ tab, Cls K (He.ga K q.1) ∧ NoAttr K (He.ga K q.1) q.2
def fldD (tab : List (Str × Str)) (f : Str) (O : Sto) (d : D) : Option D := match d with
  | .obj C fs => if (C, f) ∈ tab then fs.lookup f else none
  | .cell p => match O p with
    | some (.ins C fs) => if (C, f) ∈ tab then fs.lookup f else none
    | _ => none
  | _ => none
def mFld (tab : List (Str × Str)) (f : Str) (m : ME) : ME := fun X Γ O Q => m X Γ O fun d O1 => match fldD tab f O1 d with
  | some e => Q e O1
  | none => False
theorem fldD_ok {K : PySem.W.Frag} {H0 H : Hp} {O : Sto} {v : V} {d e : D} {tab : List (Str × Str)} {f : Str} (ok : AtOk K tab) (st : Sta K H0 O H) (is : Is K H0 v d) (h : fldD tab f O d = some e) :
    ∃ a C dx fs w, v = .ref a ∧ H a = some (.ins C dx fs) ∧ Cls K C ∧ NoAttr K C f ∧ fs.lookup f = some w ∧ Is K H0 w e := by
  cases is with
  | @obj a dx C vs ds r l q =>
    have h2 : (if (C, f) ∈ tab then ds.lookup f else none) = some e := h
    split at h2
    · rename_i hm
      obtain ⟨w, h3, h4⟩ := lookup_rel l ⟨by have := congrArg List.length l; simpa using this, q⟩ h2
      exact ⟨a, _, dx, vs, w, rfl, st.same _ _ r, (ok _ hm).1, (ok _ hm).2, h3, h4⟩
    · cases h2
  | cell p =>
    have h2 : (match O p with
      | some (.ins C fs) => if (C, f) ∈ tab then fs.lookup f else none
      | _ => none) = some e := h
    cases e2 : O p with
    | none => rw [e2] at h2; cases h2
    | some u =>
      rw [e2] at h2
      cases u with
      | ins C ds =>
        have h3 : (if (C, f) ∈ tab then ds.lookup f else none) = some e := h2
        split at h3
        · rename_i hm
          obtain ⟨_, dx, vs, e3, l, q⟩ := st.cell p _ e2
          obtain ⟨w, h4, h5⟩ := lookup_rel l q h3
          exact ⟨p, _, dx, vs, w, rfl, e3, (ok _ hm).1, (ok _ hm).2, h4, h5⟩
        · cases h3
      | _ => cases h2
  | _ => cases h
section
variable {X : Cx} {W : WX} {pos : Pos}
theorem pe3_fld {e : Expr} {f : Str} {tab : List (Str × Str)} {m : ME} (ok : AtOk X.K tab) (he : PE X e (r3E X.K W m)) (hb : attributeBase e f X.env (eval e X.env) = eval e X.env) : PE X (.Attribute e f pos) (r3E X.K W (mFld tab f m)) := by
  refine peW (pe_fld he hb) fun σ H Q ⟨Γ, O, H0, Z, P, env, st, hm, lx, lv⟩ => ?_
  refine ⟨Γ, O, H0, Z, _, env, st, hm, lx, fun H1 v d O1 H' s1 is1 st1 hm1 => ?_⟩
  have hm2 : (match fldD tab f O1 d with
    | some e => P e O1
    | none => False) := hm1
  cases e2 : fldD tab f O1 d with
  | none => rw [e2] at hm2; exact hm2.elim
  | some e =>
    rw [e2] at hm2
    obtain ⟨a, C, dx, fs, w, rfl, h1, h2, h3, h4, h5⟩ := fldD_ok ok st1 is1 e2
    exact ⟨a, C, dx, fs, w, rfl, h1, h2, h3, h4, lv H1 _ _ O1 H' s1 h5 st1 hm2⟩
/-- o.f = v -/
def setA (tab : List (Str × Str)) (f : Str) (O : Sto) (o d : D) (Q : Sto → Prop) : Prop := match o with
  | .cell p => match O p with
    | some (.ins C fs) => (C, f) ∈ tab ∧ fs.length < 1000 ∧ Q (put O p (.ins C (putA f d fs)))
    | _ => False
  | _ => False
theorem setA_ok {tab : List (Str × Str)} {f : Str} {O : Sto} {o d : D} {Q : Sto → Prop} (h : setA tab f O o d Q) : ∃ p C fs, o = .cell p ∧ O p = some (.ins C fs) ∧ (C, f) ∈ tab ∧ fs.length < 1000 ∧ Q (put O p (.ins C (putA f d fs))) := by
  unfold setA at h
  split at h
  · split at h
    · rename_i e
      exact ⟨_, _, _, rfl, e, h⟩
    · exact h.elim
  · exact h.elim
def mSetA (tab : List (Str × Str)) (f : Str) (me mo : ME) : MS := fun P Γ O => me (P.x Γ) Γ O fun d O1 => mo (P.x Γ) Γ O1 fun o O2 => setA tab f O2 o d (P.nx Γ)
theorem ps3_setA {o value : Expr} {f : Str} {tab : List (Str × Str)} {me mo : ME} {pos' : Pos} (ok : AtOk X.K tab) (ho : PE X o (r3E X.K W mo)) (hv : PE X value (r3E X.K W me)) (hs : swapsWith value (some (.Attribute o f pos')) pos.line X.env = pure false) :
    PS X (.Assign [.Attribute o f pos'] value pos) (r3S X.K W (mSetA tab f me mo)) := by
  refine psW (ps_fld ho hv hs) fun E σ H ⟨Γ, O, H0, P, env, st, hm, l⟩ => ?_
  refine ⟨Γ, O, H0, _, _, env, st, hm, l.x env, fun H1 v d O1 H' s1 is1 st1 hm1 => ?_⟩
  refine ⟨Γ, O1, H1, _, _, env.mono s1, st1, hm1, (l.x env).mono s1, fun H2 w o' O2 H'' s2 is2 st2 hm2 => ?_⟩
  obtain ⟨p, C, fs, rfl, e, h1, h2, h3⟩ := setA_ok hm2
  cases is2
  obtain ⟨_, dx, vs, e2, k, r⟩ := st2.cell p _ e
  have hl : vs.length = fs.length := by have := congrArg List.length k; simpa using this
  obtain ⟨r1, r2⟩ := putA_rel (f := f) (is1.mono s2) k r
  refine ⟨p, _, dx, vs, rfl, e2, (ok _ h1).1, (ok _ h1).2, by rw [hl]; exact h2, ?_⟩
  exact l.nx H2 Γ σ _ _ (s1.trans s2) (env.mono (s1.trans s2)) (st2.set (u := .ins C (putA f d fs)) e ⟨dx, _, upd_same, r1, r2⟩) h3
end

/-! ## making instances -/
/-- C(..): ex fills up -/
def mMake (C : Str) (S : FSpec) (n : Nat) (ex : List D) (ms : MA) : ME := fun Z Γ O Q => ms Z Γ O fun ds O1 => ds.length = n ∧ ∀ p, O1 p = none → S (.cell p :: (ds ++ ex)) (put O1 p (.ins C [])) Z fun d O2 => d = .non ∧ orFz Q (.cell p) O2
structure MkAt (X : Cx) (C : Str) (n : Nat) (S : FSpec) (ex : List D) : Prop where
  ex : ∃ k f fd ps dvs ds, Mk X.K (He.ga X.K C) f ∧ FnOk X.prog X.w X.K X.mg X.base (L2.CX X.prog X.w) k f fd ps (spOf X.K (n + 1 + ex.length) S) ∧ Room (k + 1) X.A ∧ X.mg C = some (.ref (He.ga X.K C)) ∧ Binds X.K fd ps ds ∧ Vals dvs ds ∧ ∀ H, Iss X.K H dvs ex
section
variable {X : Cx} {W : WX} {pos : Pos}
def tMakeS (C : Addr) (sp : Sp) (dvs : List V) (E : L2.St → XK) (t : TA) : TE := fun σ H Q => t σ H fun vs H1 => ∀ x dx, H1 x = none → H1 dx = none → dx ≠ x → sp (.ref x :: (vs ++ dvs)) (upd (upd H1 dx (.own x)) x (.ins C dx [])) (fun v H2 => v = .non ∧ Q (.ref x) H2) (E σ)
theorem run_makeS {CX : CXT} {k : Nat} {f C : Addr} {fd : FuncData} {ps : List Str} {sp : Sp} {dvs : List V} {ds : List Value} {E : XK} {pins : List (Addr × Obj)} {σ : L2.St} {H : Hp} {s : Shared} {Q : VK} {us : List Value} {vs : List V} (M : Mk X.K C f)
    (F : FnOk X.prog X.w X.K X.mg X.base CX k f fd ps sp) (hr : Room (k + 1) X.A) (hb : Binds X.K fd ps ds) (hd : Vals dvs ds) (hx : PassesAt CX X σ E) (I : Inv X pins σ H s) (r : Vals vs us)
    (h : ∀ x dx, H x = none → H dx = none → dx ≠ x → sp (.ref x :: (vs ++ dvs)) (upd (upd H dx (.own x)) x (.ins C dx [])) (fun v H2 => v = .non ∧ Q (.ref x) H2) E) :
    wpAny (model X.prog X.w) X.A (call (.ref C) us) (EP X pins σ Q) X.xe s := by
  have hq := h (s.heap.objs.size + 1) s.heap.objs.size (I.hok.fresh (Nat.le_succ _)) (I.hok.fresh (Nat.le_refl _)) (Nat.ne_of_lt (Nat.lt_succ_self _))
  have I2 := Inv.made (C := C) I
  have r2 : Vals (V.ref (s.heap.objs.size + 1) :: (vs ++ dvs)) (Value.ref (s.heap.objs.size + 1) :: (us ++ ds)) := .cons rfl (r.append hd)
  have hl : (Value.ref (s.heap.objs.size + 1) :: us ++ ds).length = ps.length := by
    have e := r2.length
    rw [F.len _ _ _ _ hq] at e
    exact e.symm
  refine wpAny_call (make_map (f := f) I.kIn M.makes M.init (beq_iff_eq.mp M.fn) (codeAny_mono (F.run _ X.stack _ _ ⟨Value.ref (s.heap.objs.size + 1) :: us, []⟩ (Value.ref (s.heap.objs.size + 1) :: (us ++ ds)) _ _ E (hr.make C us [])
    (I2.env0.make C us []) (hb _ (Value.ref (s.heap.objs.size + 1) :: us) I2.kIn hl) r2 hq) fun r s' hq' => ?_))
  cases r with
  | error e => exact hx pins _ _ e s' I2 hq'
  | ok fl =>
    cases fl with
    | ret u =>
      obtain ⟨v, H', I3, rv, ev, q3⟩ := I2.after hq'
      subst ev
      exact ⟨rv, ⟨V.ref (s.heap.objs.size + 1), H', I3, rfl, q3⟩⟩
    | next => exact False.elim hq'
    | brk => exact False.elim hq'
    | cont => exact False.elim hq'
theorem make_mid {K : PySem.W.Frag} {C : Str} {S : FSpec} {ex : List D} {dvs : List V} {n : Nat} (hex : ∀ H, Iss K H dvs ex) {Γ : Gm} {Z : PX} {σ : L2.St} {H0 H1 H' : Hp} {O1 : Sto} {vs : List V} {ds : List D} {P : PV} {Q : VK} (s1 : Same H0 H1) (is1 : Iss K H1 vs ds) (st1 : Sta K H1 O1 H')
    (hl : ds.length = n) (hm : ∀ p, O1 p = none → S (.cell p :: (ds ++ ex)) (put O1 p (.ins C [])) Z fun d O2 => d = .non ∧ orFz P (.cell p) O2) (lx : LinkX K W H0 σ Z) (lv : LinkV K H0 P Q) (x dx : Addr) (hx : H' x = none) (hdx : H' dx = none) (ne : dx ≠ x) :
    spOf K (n + 1 + ex.length) S (.ref x :: (vs ++ dvs)) (upd (upd H' dx (.own x)) x (.ins (He.ga K C) dx [])) (fun v H2 => v = .non ∧ Q (.ref x) H2) (WE W σ) := by
  have hO := (st1.free hx).1
  have ie : Iss K H1 (V.ref x :: (vs ++ dvs)) (.cell x :: (ds ++ ex)) := .cons (.cell x) (is1.append (hex H1))
  have st2 : Sta K H1 (put O1 x (.ins C [])) (upd (upd H' dx (.own x)) x (.ins (He.ga K C) dx [])) := (st1.more hdx).newC (u := .ins C []) (by rw [upd_ne ne.symm]; exact hx) ⟨dx, [], upd_same, rfl, .nil⟩
  refine ⟨by rw [ie.1]; simp [hl]; omega, H1, _, _, Z, _, ie, st2, hm x hO, ?_, ?_⟩
  · exact fun H2 C fs O2 oe H'' s2 st2 xo z => lx H2 C fs O2 oe H'' (s1.trans s2) st2 xo z
  · rintro H2 v d O2 H'' s2 is2 st2 ⟨rfl, q⟩
    exact ⟨is2.non_, lv.fz H2 _ _ O2 H'' (s1.trans s2) (.cell x) st2 q⟩
theorem pe3_make {C : Str} {p : Pos} {e : Expr} {es : List Expr} {n : Nat} {S : FSpec} {ex : List D} {ms : MA} (F : MkAt X C n S ex) (tk : Takes X W) (hg : Gl X C) (ha : PA X (e :: es) (r3A X.K W ms)) (hdb : (C == ("__debug__" : Str)) = false)
    (he : starEach (e :: es) X.env = (false, eval e X.env) :: starEach es X.env) (hpl : (backTo pos (starEach es X.env)).any (·.1) = false) : PE X (.Call (.Name C p) (e :: es) [] pos) (r3E X.K W (mMake C S n ex ms)) := by
  obtain ⟨k, f, fd, ps, dvs, ds, M, F, hr, hm, hb, hd, hex⟩ := F.ex
  refine ⟨fun pins s σ H Q I ⟨Γ, O, H0, Z, P, env, st, hmm, lx, lv⟩ => ?_⟩
  refine wpAny_Call_Name_kw (ld_glob I hg hm ?_ hdb)
  have hA : r3A X.K W ms σ H fun vs H1 => ∀ x dx, H1 x = none → H1 dx = none → dx ≠ x → spOf X.K (n + 1 + ex.length) S (.ref x :: (vs ++ dvs)) (upd (upd H1 dx (.own x)) x (.ins (He.ga X.K C) dx [])) (fun v H2 => v = .non ∧ Q (.ref x) H2) (WE W σ) := by
    refine ⟨Γ, O, H0, Z, _, env, st, hmm, lx, fun H1 vs ds' O1 H' s1 is1 st1 hm1 => ?_⟩
    exact make_mid (Γ := Γ) hex s1 is1 st1 hm1.1 hm1.2 lx lv
  refine PySem.W.callWith_K (h₀ := X.base) I.ok.mod.kin M.kp (thn (ha.run pos pins s σ H _ I hA) fun us s1 ⟨vs, H1, I1, r, q⟩ => ⟨I1.kIn, ?_⟩) he hpl
  exact run_makeS M F hr hb hd (passAt tk σ) I1 r q
end

/-- C(.., k = v) -/
def mMakeK (C : Str) (S : FSpec) (n : Nat) (ms mk : MA) : ME := fun Z Γ O Q => ms Z Γ O fun ds O1 => mk Z Γ O1 fun es O2 => ds.length = n ∧ es.length = 1 ∧ ∀ p, O2 p = none → S (.cell p :: (ds ++ es)) (put O2 p (.ins C [])) Z fun d O3 => d = .non ∧ orFz Q (.cell p) O3
structure MkwAt (X : Cx) (C : Str) (n : Nat) (kw : Str) (S : FSpec) : Prop where
  ex : ∃ k f fd ps, Mk X.K (He.ga X.K C) f ∧ FnOk X.prog X.w X.K X.mg X.base (L2.CX X.prog X.w) k f fd ps (spOf X.K (n + 2) S) ∧ Room (k + 1) X.A ∧ X.mg C = some (.ref (He.ga X.K C)) ∧ KBn X.K fd ps (n + 1) [kw] (fun us ws => us ++ ws) (fun vs zs => vs ++ zs)
section
variable {X : Cx} {W : WX} {pos : Pos}
theorem run_makeNS {CX : CXT} {k n : Nat} {f C : Addr} {fd : FuncData} {ps ks : List Str} {sp : Sp} {E : XK} {pins : List (Addr × Obj)} {σ : L2.St} {H : Hp} {s : Shared} {Q : VK} {us ws : List Value} {vs zs : List V} {g : List Value → List Value → List Value} {gV : List V → List V → List V} (M : Mk X.K C f) (F : FnOk X.prog X.w X.K X.mg X.base CX k f fd ps sp) (hr : Room (k + 1) X.A) (hb : KBn X.K fd ps (n + 1) ks g gV)
    (hx : PassesAt CX X σ E) (I : Inv X pins σ H s) (r : Vals vs us) (rz : Vals zs ws) (l1 : vs.length = n) (l2 : zs.length = ks.length)
    (h : ∀ x dx, H x = none → H dx = none → dx ≠ x → sp (gV (.ref x :: vs) zs) (upd (upd H dx (.own x)) x (.ins C dx [])) (fun v H2 => v = .non ∧ Q (.ref x) H2) E) :
    wpAny (model X.prog X.w) X.A (call (.ref C) us (ks.zip ws)) (EP X pins σ Q) X.xe s := by
  have hq := h (s.heap.objs.size + 1) s.heap.objs.size (I.hok.fresh (Nat.le_succ _)) (I.hok.fresh (Nat.le_refl _)) (Nat.ne_of_lt (Nat.lt_succ_self _))
  have I2 := Inv.made (C := C) I
  have r1 : Vals (V.ref (s.heap.objs.size + 1) :: vs) (Value.ref (s.heap.objs.size + 1) :: us) := .cons rfl r
  have r2 := hb.rel r1 rz
  have e1 : (Value.ref (s.heap.objs.size + 1) :: us).length = n + 1 := r1.length.symm.trans (congrArg Nat.succ l1)
  have e2 : ws.length = ks.length := rz.length.symm.trans l2
  refine wpAny_call (make_map (f := f) I.kIn M.makes M.init (beq_iff_eq.mp M.fn) (codeAny_mono (F.run _ X.stack _ _ ⟨Value.ref (s.heap.objs.size + 1) :: us, ks.zip ws⟩ (g (Value.ref (s.heap.objs.size + 1) :: us) ws) _ _ E (hr.make C us (ks.zip ws))
    (I2.env0.make C us (ks.zip ws)) (hb.to _ (Value.ref (s.heap.objs.size + 1) :: us) ws I2.kIn e1 e2) r2 hq) fun r s' hq' => ?_))
  cases r with
  | error e => exact hx pins _ _ e s' I2 hq'
  | ok fl =>
    cases fl with
    | ret u =>
      obtain ⟨v, H', I3, rv, ev, q3⟩ := I2.after hq'
      subst ev
      exact ⟨rv, ⟨V.ref (s.heap.objs.size + 1), H', I3, rfl, q3⟩⟩
    | next => exact False.elim hq'
    | brk => exact False.elim hq'
    | cont => exact False.elim hq'
theorem pk_we {X : Cx} {kws : List Keyword} {t u : TA} (h : PK X kws t) (i : ∀ σ H Q, u σ H Q → t σ H Q) : PK X kws u := ⟨fun pos pins s σ H Q I q => h.run pos pins s σ H Q I (i σ H Q q)⟩
theorem pk3_one {e : Expr} {nm : Option Str} {kp : Pos} {m : ME} (he : PE X e (r3E X.K W m)) : PK X [⟨nm, e, kp⟩] (r3A X.K W (mCons m mNil)) := by
  refine pk_we (pk_cons he pk_nil) fun σ H Q ⟨Γ, O, H0, Z, P, env, st, hm, lx, lv⟩ => ?_
  refine ⟨Γ, O, H0, Z, _, env, st, hm, lx, fun H1 v d O1 H' s1 is1 st1 hm1 => ?_⟩
  exact lv H1 [v] [d] O1 H' s1 (.cons is1 .nil) st1 hm1
theorem pe3_makeK {C kw : Str} {p kp : Pos} {e a : Expr} {es : List Expr} {n : Nat} {S : FSpec} {ms : MA} {m : ME} (F : MkwAt X C n kw S) (tk : Takes X W) (hg : Gl X C) (ha : PA X (e :: es) (r3A X.K W ms)) (hk : PE X a (r3E X.K W m)) (hdb : (C == ("__debug__" : Str)) = false)
    (he : starEach (e :: es) X.env = (false, eval e X.env) :: starEach es X.env) (hpl : (backTo pos (starEach (e :: es) X.env)).any (·.1) = false) : PE X (.Call (.Name C p) (e :: es) [⟨some kw, a, kp⟩] pos) (r3E X.K W (mMakeK C S n ms (mCons m mNil))) := by
  obtain ⟨k, f, fd, ps, M, F, hr, hm, hb⟩ := F.ex
  refine ⟨fun pins s σ H Q I ⟨Γ, O, H0, Z, P, env, st, hmm, lx, lv⟩ => ?_⟩
  refine wpAny_Call_Name_kw (ld_glob I hg hm ?_ hdb)
  have hA : r3A X.K W ms σ H fun vs H1 => r3A X.K W (mCons m mNil) σ H1 fun zs H2 => vs.length = n ∧ zs.length = 1 ∧ ∀ x dx, H2 x = none → H2 dx = none → dx ≠ x → spOf X.K (n + 2) S ((V.ref x :: vs) ++ zs) (upd (upd H2 dx (.own x)) x (.ins (He.ga X.K C) dx [])) (fun v H3 => v = .non ∧ Q (.ref x) H3) (WE W σ) := by
    refine ⟨Γ, O, H0, Z, _, env, st, hmm, lx, fun H1 vs ds' O1 H' s1 is1 st1 hm1 => ?_⟩
    refine ⟨Γ, O1, H1, Z, _, env.mono s1, st1, hm1, lx.mono s1, fun H2 zs es' O2 H'' s2 is2 st2 hm2 => ?_⟩
    obtain ⟨a1, a2, a3⟩ := hm2
    refine ⟨by rw [is1.1]; exact a1, by rw [is2.1]; exact a2, fun x dx hx hdx ne => ?_⟩
    have := make_mid (C := C) (K := X.K) (S := S) (ex := []) (dvs := []) (n := n + 1) (Γ := Γ) (W := W) (σ := σ) (vs := vs ++ zs) (ds := ds' ++ es') (P := P) (Q := Q) (fun _ => .nil) (s1.trans s2) ((is1.mono s2).append is2) st2 (by rw [List.length_append, a1, a2]) (by simpa using a3) lx lv x dx hx hdx ne
    simpa using this
  refine PySem.W.callWith_KW (h₀ := X.base) I.ok.mod.kin M.kp (by rfl) (thn (ha.run pos pins s σ H _ I hA) fun us s1 ⟨vs, H1, I1, r, q⟩ => ?_) (by rw [hpl]; rfl) he
  refine thn ((pk3_one hk).run pos pins s1 σ H1 _ I1 q) fun ws s2 ⟨zs, H2, I2, rz, l1, l2, q2⟩ => ⟨I2.kIn, ?_⟩
  exact run_makeNS (ks := [kw]) M F hr hb (passAt tk σ) I2 r rz l1 l2 q2
end

/-! ## a def -/
theorem env_start {K : PySem.W.Frag} {H : Hp} {vs : List V} {ds : List D} {N : List Str} (r : Iss K H vs ds) : EnvR K H (ds.map some ++ List.replicate (N.length - ds.length) none) (L2.start N vs) := by
  unfold L2.start
  refine ⟨by simp [r.1], fun i d e => ?_⟩
  by_cases hi : i < ds.length
  · rw [List.getElem?_append_left (by simpa using hi), List.getElem?_map] at e
    cases q : ds[i]? with
    | none => rw [q] at e; cases e
    | some x =>
      rw [q] at e
      cases e
      obtain ⟨v, h1, h2⟩ := r.get q
      exact ⟨v, by rw [List.getElem?_append_left (by simpa [r.1] using hi), List.getElem?_map, h1]; rfl, h2⟩
  · rw [List.getElem?_append_right (by simpa using Nat.le_of_not_lt hi)] at e
    rw [List.getElem?_replicate] at e
    split at e <;> cases e
/-- what a body must do for a promise -/
def BodyOk (N : List Str) (n : Nat) (S : FSpec) (m : MS) : Prop := ∀ ds O Z P, ds.length = n → S ds O Z P → m { nx := fun _ O' => orFz P .non O', rt := P, xp := fun C fs _ O' => Z C fs O' } (ds.map some ++ List.replicate (N.length - ds.length) none) O
/-- how an error leaves a def -/
abbrev WF (E : XK) : WX := fun cls d _ H => E cls d H
theorem fn3 {P : Program} {w : World} {K : PySem.W.Frag} {mg : Str → Option Value} {base : Heap} {x qual : Str} {params : Arguments} {body : List Stmt} {scope : Scope} {dvs : List V} {kws : List (Str × V)} {f : Addr} {fd : FuncData} {N ps : List Str} {k : Nat} {S : FSpec} {m : MS}
    (F : FunD K x qual params body scope dvs kws f fd) (sc : FnScope N ps scope)
    (hm : ∀ (cdv : Value) (A : Around) (outer : List Env) (s : Shared) (H : Hp) (E : XK), Room k (A.deeper (envOfC qual scope s.heap.objs.size f cdv)) → PSs (cxOf (L2.CX P w) P w K mg base N qual scope f cdv A outer s H E) body (r3S K (WF E) m))
    (hb : BodyOk N ps.length S m) : FnOk P w K mg base (L2.CX P w) (k + 1) f fd ps (spOf K ps.length S) := by
  refine F.ok sc (fun vs H Q E h => h.1) fun cdv A outer s H vs Q E hr ⟨hl, H0, O, ds, Z, P', is, st, hS, le, lv⟩ => ⟨r3S K (WF E) m, hm cdv A outer s H E hr, ?_⟩
  refine ⟨_, O, H0, _, env_start (N := N) is, st, hb ds O Z P' (by rw [← is.1]; exact hl) hS, ?_, lv, fun _ _ _ _ _ _ _ _ q => q.elim, fun _ _ _ _ _ _ _ _ q => q.elim, ?_⟩
  · intro H1 Γ σ O1 H' s1 env1 st1 q
    exact lv.fz H1 _ _ O1 H' s1 .non st1 q
  · intro H1 C fs Γ σ O1 oe H' s1 env1 st1 xo q
    exact le H1 C fs O1 oe H' s1 st1 xo q
/-- a def that lets nothing out -/
theorem fn3L {P : Program} {w : World} {K : PySem.W.Frag} {mg : Str → Option Value} {base : Heap} {x qual : Str} {params : Arguments} {body : List Stmt} {scope : Scope} {dvs : List V} {kws : List (Str × V)} {f : Addr} {fd : FuncData} {N ps : List Str} {k : Nat} {S : FSpec} {m : MS}
    (F : FunD K x qual params body scope dvs kws f fd) (sc : FnScope N ps scope)
    (hm : ∀ (cdv : Value) (A : Around) (outer : List Env) (s : Shared) (H : Hp) (E : XK), Room k (A.deeper (envOfC qual scope s.heap.objs.size f cdv)) → PSs (cxOf CX0 P w K mg base N qual scope f cdv A outer s H E).nox body (r3S K (fun _ _ _ _ => False) m))
    (hb : BodyOk N ps.length S m) : FnOk P w K mg base CX0 (k + 1) f fd ps (fun vs H Q E => vs.length = ps.length ∧ ∃ H0 O ds P, Iss K H0 vs ds ∧ Sta K H0 O H ∧ S ds O (fun _ _ _ => False) P ∧ LinkV K H0 P Q) := by
  refine F.ok sc (fun vs H Q E h => h.1) fun cdv A outer s H vs Q E hr ⟨hl, H0, O, ds, P', is, st, hS, lv⟩ => ⟨r3S K (fun _ _ _ _ => False) m, PSs.nox (hm cdv A outer s H E hr), ?_⟩
  refine ⟨_, O, H0, _, env_start (N := N) is, st, hb ds O _ P' (by rw [← is.1]; exact hl) hS, ?_, lv, fun _ _ _ _ _ _ _ _ q => q.elim, fun _ _ _ _ _ _ _ _ q => q.elim, ?_⟩
  · intro H1 Γ σ O1 H' s1 env1 st1 q
    exact lv.fz H1 _ _ O1 H' s1 .non st1 q
  · intro H1 C fs Γ σ O1 oe H' s1 env1 st1 xo q
    exact q.elim
end L3

namespace L3
open PySem PySem.Spec PyProof.Rows L2

abbrev noX : PX := fun _ _ _ => False
/-! ## operators of the program's own classes -/
structure OwnOp (X : Cx) (C m : Str) (S : FSpec) : Prop where
  ex : ∃ k f fd ps, FnOk X.prog X.w X.K X.mg X.base (L2.CX X.prog X.w) k f fd ps (spOf X.K 2 S) ∧ Room k X.A ∧ Binds X.K fd ps [] ∧ PySem.W.selfFirst X.K (He.ga X.K C) = true ∧ PySem.W.findIn X.K (.ref (He.ga X.K C)) m = some (some (.ref f)) ∧ PySem.W.isFn X.K (.ref f) = true
def rOwn (K : PySem.W.Frag) (C : Str) (S : FSpec) : R2 := fun x y H Q => ∃ a b dx dy fs gs, x = .ref a ∧ y = .ref b ∧ H a = some (.ins (He.ga K C) dx fs) ∧ H b = some (.ins (He.ga K C) dy gs) ∧ spOf K 2 S [x, y] H Q E0
theorem passAt0 {X : Cx} {σ : L2.St} : PassesAt (L2.CX X.prog X.w) X σ E0 := fun pins H s e s' I h => passL pins σ H s e s' I h
theorem back_of {X : Cx} {pins : List (Addr × Obj)} {σ : L2.St} {Q : VK} {u : Value} {s : Shared} (h : EP X pins σ Q u s) : PySem.W.CmpBack (EP X pins σ Q) u s := by
  obtain ⟨v, H', I, r, q⟩ := id h
  have hn : u ≠ .notImplemented := by
    intro e
    subst e
    cases v <;> first | (obtain ⟨_, e⟩ := r; cases e; done) | cases r
  unfold PySem.W.CmpBack
  split
  · exact absurd rfl hn
  · exact h
theorem op_own {X : Cx} {C : Str} {S : FSpec} {op : Operator} (F : OwnOp X C (PySem.dunder op.info.2) S) : OpR X (binaryOp op) (rOwn X.K C S) := by
  intro pins s σ H x y v u Q I rx ry h
  obtain ⟨a, b, dx, dy, fs, gs, rfl, rfl, ha, hb, hsp⟩ := h
  obtain ⟨k, f, fd, ps, F, hr, hbd, hc, hs, hf⟩ := F.ex
  cases rx
  cases ry
  obtain ⟨mA, J, _⟩ := ins_get I.hok ha
  obtain ⟨mB, J', _⟩ := ins_get I.hok hb
  obtain ⟨od, J, _⟩ := J.look
  obtain ⟨od', J', _⟩ := J'.look
  obtain ⟨m, hF⟩ := I.fr
  refine PySem.W.binop_K hF I.ok.mod.kin J J'.type hc hs hf ?_
  exact wpAny_mono (run_fnS (E := fun _ => E0) (vs := [.ref a, .ref b]) F hr hbd passAt0 I (.cons rfl (.cons rfl .nil)) hsp) (fun _ _ z => back_of z) fun _ _ z => z
theorem Sta.ins {K : PySem.W.Frag} {H0 H : Hp} {O : Sto} {v : V} {C : Str} {fs : List (Str × D)} (st : Sta K H0 O H) (is : Is K H0 v (.obj C fs)) : ∃ a dx vs, v = .ref a ∧ H a = some (.ins (He.ga K C) dx vs) := by
  cases is with
  | obj h l c => exact ⟨_, _, _, rfl, st.same _ _ h⟩
/-- two instances of C by its own operator, else f -/
def fOwn (C : Str) (S : FSpec) (f : F2) : F2 := fun a b O Q => match a, b with
  | .obj C1 fs, .obj C2 gs => (C1 = C ∧ C2 = C) ∧ S [.obj C1 fs, .obj C2 gs] O noX Q
  | a, b => f a b O Q
theorem rep_own {K : PySem.W.Frag} {C : Str} {S : FSpec} {r : R2} {f : F2} (R : Rep2 K r f) : Rep2 K (fun x y H Q => rOwn K C S x y H Q ∨ r x y H Q) (fOwn C S f) := by
  intro H0 O H x y a b P Q st ix iy h lv
  unfold fOwn at h
  split at h
  · obtain ⟨⟨rfl, rfl⟩, h⟩ := h
    obtain ⟨p, dx, vs, rfl, e1⟩ := st.ins ix
    obtain ⟨q, dy, us, rfl, e2⟩ := st.ins iy
    exact .inl ⟨p, q, dx, dy, vs, us, rfl, rfl, e1, e2, rfl, H0, O, _, noX, P, .cons ix (.cons iy .nil), st, h, fun _ _ _ _ _ _ _ _ _ z => z.elim, lv⟩
  · exact .inr (R H0 O H x y _ _ P Q st ix iy h lv)
/-- what a class must say for its own == against anything -/
structure OEq (K : PySem.W.Frag) (C : Addr) : Prop where
  oc : OCls K C
  nf : ∀ T ∈ ["int", "bool", "str", "tuple", "list", "NoneType"], PySem.W.notFirst K C (.type T) = true
theorem isO_ty {K : PySem.W.Frag} {H0 H : Hp} {O : Sto} {v : V} {d : D} {cn : Str} {b : Bool} (c : OCls K (He.ga K cn)) (st : Sta K H0 O H) (is : Is K H0 v d) (h : isO cn O d = some b) :
    ∃ ty, TyX K H v ty ∧ (ty = .ref (He.ga K cn) ∨ ∃ T ∈ ["int", "bool", "str", "tuple", "list", "NoneType"], ty = .type T) := by
  cases is with
  | non => exact ⟨_, .base .non, .inr ⟨_, by decide, rfl⟩⟩
  | bl x => exact ⟨_, .base (.bl x), .inr ⟨_, by decide, rfl⟩⟩
  | int x => exact ⟨_, .base (.int x), .inr ⟨_, by decide, rfl⟩⟩
  | str x => exact ⟨_, .base (.str x), .inr ⟨_, by decide, rfl⟩⟩
  | ty n => cases h
  | dK r l q => cases h
  | dT r l q => cases h
  | tup r l q => exact ⟨_, sqT_tyX (same_tt st.same r), .inr ⟨_, by decide, rfl⟩⟩
  | lst r l q => exact ⟨_, rd_tyX (same_l st.same r), .inr ⟨_, by decide, rfl⟩⟩
  | @obj a dx C vs ds r l q =>
    have h2 : (if C = cn then some true else none) = some b := h
    split at h2
    · rename_i e
      subst e
      exact ⟨_, .base (.ins (st.same _ _ r) c.cls c.ha c.hn c.ht c.hm), .inl rfl⟩
    · cases h2
  | cell p =>
    have h2 : (match O p with
      | some (.lst _) => some false
      | some (.ins C _) => if C = cn then some true else none
      | _ => none) = some b := h
    cases e : O p with
    | none => rw [e] at h2; cases h2
    | some u =>
      rw [e] at h2
      cases u with
      | lst ds =>
        obtain ⟨_, vs, e2, _⟩ := st.cell p _ e
        exact ⟨_, .base (.lst e2), .inr ⟨_, by decide, rfl⟩⟩
      | ins C fs =>
        have h3 : (if C = cn then some true else none) = some b := h2
        split at h3
        · rename_i e3
          subst e3
          obtain ⟨_, dx, vs, e2, _⟩ := st.cell p _ e
          exact ⟨_, .base (.ins e2 c.cls c.ha c.hn c.ht c.hm), .inl rfl⟩
        · cases h3
      | _ => cases h2
def rOwnEq (K : PySem.W.Frag) (C : Str) (S : FSpec) : R2 := fun x y H Q => ∃ a dx fs ty, x = .ref a ∧ H a = some (.ins (He.ga K C) dx fs) ∧ TyX K H y ty ∧ PySem.W.notFirst K (He.ga K C) ty = true ∧ spOf K 2 S [x, y] H Q E0
theorem op_ownEq {X : Cx} {C : Str} {S : FSpec} (F : OwnOp X C "__eq__" S) : OpR X (compareOp .Eq) (rOwnEq X.K C S) := by
  intro pins s σ H x y v u Q I rx ry h
  obtain ⟨a, dx, fs, ty, rfl, ha, ty1, nf, hsp⟩ := h
  obtain ⟨k, f, fd, ps, F, hr, hbd, hc, hs, hf⟩ := F.ex
  cases rx
  obtain ⟨mA, J, _⟩ := ins_get I.hok ha
  obtain ⟨od, J, _⟩ := J.look
  obtain ⟨P, Z, p, hx⟩ := kit_of I ry ty1
  obtain ⟨m, hF⟩ := I.fr
  refine PySem.W.cmp_K (op := .Eq) (tb := ty) hr.units0 hF I.ok.mod.kin J (Z.ty _ _ I.kIn p) nf hs hf ?_
  exact wpAny_mono (run_fnS (E := fun _ => E0) (vs := [.ref a, y]) F hr hbd passAt0 I (.cons rfl (.cons ry .nil)) hsp) (fun _ _ z => back_of z) fun _ _ z => z
def fEqOwn (C : Str) (S : FSpec) : F2 := fun a b O Q => match a with
  | .obj C1 fs => C1 = C ∧ (isO C O b).isSome = true ∧ S [.obj C1 fs, b] O noX Q
  | a => fEq false a b O Q
theorem rep_eqOwn {K : PySem.W.Frag} {C : Str} {S : FSpec} (c : OEq K (He.ga K C)) : Rep2 K (fun x y H Q => rOwnEq K C S x y H Q ∨ (rEq x y H Q ∨ rEqD K x y H Q)) (fEqOwn C S) := by
  intro H0 O H x y a b P Q st ix iy h lv
  unfold fEqOwn at h
  split at h
  · obtain ⟨rfl, hk, h⟩ := h
    obtain ⟨p, dx, vs, rfl, e1⟩ := st.ins ix
    obtain ⟨k, hk⟩ := Option.isSome_iff_exists.mp hk
    obtain ⟨ty, t1, t2⟩ := isO_ty c.oc st iy hk
    refine .inl ⟨p, dx, vs, ty, rfl, e1, t1, ?_, rfl, H0, O, _, noX, P, .cons ix (.cons iy .nil), st, h, fun _ _ _ _ _ _ _ _ _ z => z.elim, lv⟩
    rcases t2 with rfl | ⟨T, hT, rfl⟩
    · simp [PySem.W.notFirst]
    · exact c.nf T hT
  · exact .inr (rep_eq H0 O H x y _ _ P Q st ix iy h lv)

/-! ## errors -/
structure XcAt (K : PySem.W.Frag) (mg : Str → Option Value) (C : Str) : Prop where
  x : PySem.W.excIn K (He.ga K C) He.veBase "ValueError.__new__" = true
  k : PySem.W.keepIn K (.ref (He.ga K C)) = true
  b : PySem.W.subIn K (.ref (He.ga K C)) (.type "BaseException") = some true
  t : PySem.W.typeIn K (.ref (He.ga K C)) = some (.type "type")
  g : mg C = some (.ref (He.ga K C))
def mRaise (C : Str) : MS := fun P Γ O => P.xp C [] Γ O
section
variable {X : Cx} {W : WX} {pos : Pos}
theorem ps3_raise {C m : Str} {j : Nat} {p p2 pos2 : Pos} (hc : X.calm = true) (tk : Takes X W) (c : XcAt X.K X.mg C) (hg : Gl X C) (hdb : (C == ("__debug__" : Str)) = false) : PS X (.Raise (some (.Call (.Name C p) [.Constant (.str m) j p2] [] pos2)) none pos) (r3S X.K W (mRaise C)) := by
  refine psW (ps_raise hc tk (pmk_own PySem.F.excBase_ValueError c.x c.g c.k (raises_own c.b c.t) hg hdb)) fun E σ H ⟨Γ, O, H0, P, env, st, hm, l⟩ => ?_
  exact l.xp H0 C [] Γ σ O none H (Same.refl _) env st (.inl ⟨rfl, rfl⟩) hm

/-! ## try -/
theorem pss_ex {α : Type} {body : List Stmt} {p : α → Prop} {t : α → TS} (h : ∀ a, p a → PSs X body (t a)) : PSs X body (fun E σ H => ∃ a, p a ∧ t a E σ H) := ⟨fun pins s σ H E I ⟨a, pa, q⟩ => (h a pa).run pins s σ H E I q⟩
/-- try: body / except X as n: suite; cs: the errors that the clause catches -/
def mTry (i : Nat) (cs : List Str) (body : MS) (suite : Str → List (Str × D) → Addr → MS) : MS := fun P Γ O =>
  body { P with xp := fun C fs Γ1 O1 => C ∈ cs ∧ ∀ a, suite C fs a { nx := fun Γ2 O2 => P.nx (Γ2.set i none) O2, rt := P.rt, bk := fun Γ2 O2 => P.bk (Γ2.set i none) O2, ct := fun Γ2 O2 => P.ct (Γ2.set i none) O2, xp := fun _ _ _ _ => False } (Γ1.set i (some (.cell a))) O1 } Γ O
theorem ps3_try {x n : Str} {i : Nat} {body suite : List Stmt} {b0 : Stmt} {np pos' : Pos} {cs : List Str} {mb : MS} {ms : Str → List (Str × D) → Addr → MS} (hs : X.stack = X.env :: X.outer) (hf : X.env.frame = some X.env.locals) (hN : X.N.Nodup) (hi : X.N[i]? = some n) (hln : X.env.kindOf n = some .local)
    (hc : Names X x (.ref (He.ga X.K x))) (tk : Takes X W) (hcs : ∀ C ∈ cs, PySem.W.exmOne X.K (.ref (He.ga X.K C)) (.ref (He.ga X.K x)) = some true)
    (hb : ∀ (W : WX) (pn : List (Addr × Obj)) (xe : Value → Shared → Prop), Takes (X.tr pn xe) W → PassesOwn (model X.prog X.w) X.A X.env xe → PSs (X.tr pn xe) body (r3S X.K W mb))
    (hsu : ∀ (a : Addr) (oe : Obj) (C : Str) (fs : List (Str × D)) (d : Option Addr) (pn : List (Addr × Obj)), C ∈ cs → Zc (.ref (He.ga X.K C)) d oe → (∃ vs, oe.data = .fields vs) → (fs = [] → d = none) → PSs (X.suite a ((a, oe) :: pn)) (b0 :: suite) (r3S X.K (fun _ _ _ _ => False) (ms C fs a))) :
    PS X (.Try body [.ExceptHandler (some (.Name x np)) (some n) (b0 :: suite) pos'] [] [] pos) (r3S X.K W (mTry i cs mb ms)) := by
  have hsu' : ∀ (a : Addr) (oe : Obj) (cls : Value) (d : Option Addr) (pn : List (Addr × Obj)), Zc cls d oe → (∃ vs, oe.data = .fields vs) → PSs (X.suite a ((a, oe) :: pn)) (b0 :: suite) (fun E σ H => ∃ q : Str × List (Str × D), (q.1 ∈ cs ∧ cls = .ref (He.ga X.K q.1) ∧ (q.2 = [] → d = none)) ∧ r3S X.K (fun _ _ _ _ => False) (ms q.1 q.2 a) E σ H) := by
    intro a oe cls d pn hz hd
    refine pss_ex fun q ⟨h1, h2, h3⟩ => ?_
    subst h2
    exact hsu a oe q.1 q.2 d pn h1 hz hd h3
  refine psW (ps_try_as (tb := fun W => r3S X.K W mb) hs hf hN hi hln hc tk hb hsu') fun E σ H ⟨Γ, O, H0, P, env, st, hm, l⟩ => ?_
  refine ⟨Γ, O, H0, _, env, st, hm, l.nx, l.rt, l.bk, l.ct, ?_⟩
  intro H1 C fs Γ1 σ1 O1 oe H' s1 env1 st1 xo ⟨hC, hq⟩
  refine ⟨true, hcs C hC, fun _ a ha => ⟨(C, fs), ⟨hC, rfl, ?_⟩, ?_⟩, fun z => nomatch z⟩
  · intro e
    rcases xo with ⟨_, e2⟩ | ⟨e2, _⟩
    · exact e2
    · exact absurd e e2
  · have l1 := l.mono s1
    refine ⟨Γ1.set i (some (.cell a)), O1, H1, _, env1.set (.cell a), st1, hq a, ?_, l1.rt, ?_, ?_, fun _ _ _ _ _ _ _ _ _ _ _ _ z => z.elim⟩
    · exact fun H2 Γ2 σ2 O2 H2' s2 env2 st2 q => l1.nx H2 _ _ O2 H2' s2 env2.unset st2 q
    · exact fun H2 Γ2 σ2 O2 H2' s2 env2 st2 q => l1.bk H2 _ _ O2 H2' s2 env2.unset st2 q
    · exact fun H2 Γ2 σ2 O2 H2' s2 env2 st2 q => l1.ct H2 _ _ O2 H2' s2 env2.unset st2 q
end
end L3

namespace L3
open PySem PySem.Spec PyProof.Rows L2

/-! ## isinstance of the error that a suite holds -/
structure XcT (K : PySem.W.Frag) (cs : List Str) : Prop where
  exc : ∀ C ∈ cs, ExcC K (He.ga K C)
  own : ∀ C ∈ cs, ∀ c ∈ cs, PySem.W.kitOne K (.ref (He.ga K C)) (.ref (He.ga K c)) = some (decide (C = c))
  ve : ∀ C ∈ cs, PySem.W.kitOne K (.ref (He.ga K C)) (.type "ValueError") = some true
def mIsE (i : Nat) (a : Addr) (b : Bool) : ME := fun _ Γ O Q => Γ[i]? = some (some (.cell a)) ∧ Q (.bl b) O
theorem inst_of {X : Cx} {a D : Addr} {oe : Obj} {pn : List (Addr × Obj)} {pins : List (Addr × Obj)} {σ : L2.St} {H : Hp} {s : Shared} (I : Inv (X.suite a ((a, oe) :: pn)) pins σ H s) (hz : Zc (.ref D) none oe) (hf : ∃ vs, oe.data = .fields vs) : PySem.W.InstAt s.heap a oe D none := by
  obtain ⟨hget, _⟩ := I.pin (a, oe) (List.mem_append.mpr (.inl List.mem_cons_self))
  obtain ⟨vs, hv⟩ := hf
  obtain ⟨oc, od, oda, osl⟩ := oe
  obtain ⟨h1, h2⟩ := hz
  dsimp only at h1 h2 hv
  subst h1 h2 hv
  exact ⟨hget, rfl, rfl, trivial⟩
def rIsET (K : PySem.W.Frag) (D a : Addr) : List V → Hp → VK → Prop := fun xs H Q => ∃ (tp : Addr) (cs : List V) (us : List Value) (b : Bool), xs = [.ref a, .ref tp] ∧ H tp = some (.tup cs) ∧ Paired ClsV cs us ∧ PySem.W.kitAny K (.ref D) us = some b ∧ Q (.bl b) H
theorem call_isET {X : Cx} {a D : Addr} {oe : Obj} {pn : List (Addr × Obj)} (C : ExcC X.K D) (hz : Zc (.ref D) none oe) (hf : ∃ vs, oe.data = .fields vs) : CallR (X.suite a ((a, oe) :: pn)) (.builtin "isinstance") (rIsET X.K D a) := by
  intro pins s σ H xs us Q I r h
  obtain ⟨tp, cs, ws, b, rfl, hT, k, e, q⟩ := h
  obtain ⟨u1, u2, rfl, r1, r2⟩ := vals2 r
  cases r1
  cases (show u2 = Value.ref tp from r2)
  have J := inst_of I hz hf
  obtain ⟨_, its, rv, o, h1, h2, n, h3⟩ := (show ObjOk X.prog X.w H s.heap tp (.tup cs) from I.hok tp _ hT)
  have e3 := ClsV.all k rv
  subst e3
  obtain ⟨oc, od, dt, sl⟩ := o
  simp only at h2 h3
  subst h2 h3
  exact PySem.W.kia_tup (PySem.W.handS_kitx_exc C.hg C.hk C.hs C.hd C.ha C.hn C.ht C.hm) I.kIn J h1 e (fun z => nomatch z) fun tk => ⟨.bl b, H, I.kept (t' := tk) fun _ _ z => z, rfl, q⟩
def tCs (vs : List V) : TA := fun _ H Q => Q vs H
theorem pa_cs_nil {X : Cx} : PA X [] (tCs []) := paW pa_nil fun σ H Q h => h
theorem pa_cs_cons {X : Cx} {e : Expr} {es : List Expr} {v : V} {vs : List V} (h1 : PE X e (tC v)) (h2 : PA X es (tCs vs)) (hs : starEach (e :: es) X.env = (false, eval e X.env) :: starEach es X.env) : PA X (e :: es) (tCs (v :: vs)) := paW (pa_cons h1 h2 hs) fun σ H Q h => h
theorem kitAny_own {K : PySem.W.Frag} {C : Str} : ∀ {cs : List Str}, (∀ c ∈ cs, PySem.W.kitOne K (.ref (He.ga K C)) (.ref (He.ga K c)) = some (decide (C = c))) → PySem.W.kitAny K (.ref (He.ga K C)) (cs.map fun c => .ref (He.ga K c)) = some (decide (C ∈ cs))
  | [], _ => by simp [PySem.W.kitAny]
  | c :: cs, h => by
    refine kitAny_cons (b := decide (C = c)) (h c List.mem_cons_self) (fun e => ?_) fun e => ?_
    · have e' : ¬ C = c := of_decide_eq_false e
      rw [kitAny_own fun d hd => h d (List.mem_cons_of_mem _ hd)]
      simp [e']
    · have e' : C = c := of_decide_eq_true e
      simp [e']
section
variable {X : Cx} {W : WX} {pos : Pos} {a : Addr} {oe : Obj} {pn : List (Addr × Obj)}
theorem isE_var {X' : Cx} {K : PySem.W.Frag} {i : Nat} {b : Bool} {σ : L2.St} {H : Hp} {Q : VK} (h : r3E K W (mIsE i a b) σ H Q) : σ[i]? = some (some (.ref a)) ∧ ∀ H', (∃ p xs, H p = none ∧ H' = upd H p (.tup xs)) ∨ H' = H → Q (.bl b) H' := by
  obtain ⟨Γ, O, H0, Z, P, env, st, ⟨hv, hm⟩, lx, lv⟩ := h
  obtain ⟨v, e1, is⟩ := env.get hv
  rw [is.cell_] at e1
  refine ⟨e1, fun H' hH => ?_⟩
  rcases hH with ⟨p, xs, hp, rfl⟩ | rfl
  · exact lv H0 _ _ O _ (Same.refl _) (.bl b) (st.more hp) hm
  · exact lv H0 _ _ O _ (Same.refl _) (.bl b) st hm
theorem pe3_isE {cs : List Str} {C c x : Str} {i : Nat} {p p1 p2 : Pos} (T : XcT X.K cs) (hC : C ∈ cs) (hc : c ∈ cs) (hz : Zc (.ref (He.ga X.K C)) none oe) (hf : ∃ vs, oe.data = .fields vs)
    (hv : PE (X.suite a ((a, oe) :: pn)) (.Name x p1) (tVar i)) (hg : Gl X "isinstance") (hm : X.mg "isinstance" = none) (hgt : Gl X c) (hmt : X.mg c = some (.ref (He.ga X.K c))) (hdb : (c == ("__debug__" : Str)) = false) :
    PE (X.suite a ((a, oe) :: pn)) (.Call (.Name "isinstance" p) [.Name x p1, .Name c p2] [] pos) (r3E X.K W (mIsE i a (decide (C = c)))) := by
  refine peW (pe_callB (X := X.suite a ((a, oe) :: pn)) (call_isE (T.exc C hC) hz hf) hg hm (by decide +kernel) (pa_cons hv (pa_cons (pe_glob (v := .ref (He.ga X.K c)) hgt hmt rfl hdb) pa_nil))) fun σ H Q h => ?_
  obtain ⟨e1, q⟩ := isE_var (X' := X) h
  exact ⟨_, e1, .ref (He.ga X.K c), .ref (He.ga X.K c), _, rfl, fun u r => r, T.own C hC c hc, q _ (.inr rfl)⟩
theorem pe3_isEV {cs : List Str} {C x : Str} {i : Nat} {p p1 p2 : Pos} (T : XcT X.K cs) (hC : C ∈ cs) (hz : Zc (.ref (He.ga X.K C)) none oe) (hf : ∃ vs, oe.data = .fields vs)
    (hv : PE (X.suite a ((a, oe) :: pn)) (.Name x p1) (tVar i)) (hg : Gl X "isinstance") (hm : X.mg "isinstance" = none) (hgt : Gl X "ValueError") (hmt : X.mg "ValueError" = none) :
    PE (X.suite a ((a, oe) :: pn)) (.Call (.Name "isinstance" p) [.Name x p1, .Name "ValueError" p2] [] pos) (r3E X.K W (mIsE i a true)) := by
  refine peW (pe_callB (X := X.suite a ((a, oe) :: pn)) (call_isE (T.exc C hC) hz hf) hg hm (by decide +kernel) (pa_cons hv (pa_cons (pe_bltn (v := .ty "ValueError") (u := .type "ValueError") hgt hmt (by decide +kernel) rfl) pa_nil))) fun σ H Q h => ?_
  obtain ⟨e1, q⟩ := isE_var (X' := X) h
  exact ⟨_, e1, .ty "ValueError", .type "ValueError", _, rfl, fun u r => r, T.ve C hC, q _ (.inr rfl)⟩
theorem pairedCls {K : PySem.W.Frag} : ∀ {ns : List Str}, Paired ClsV (ns.map fun c => V.ref (He.ga K c)) (ns.map fun c => Value.ref (He.ga K c))
  | [] => .nil
  | _ :: _ => .cons (.own _) pairedCls
theorem pe3_isET {cs ns : List Str} {C x : Str} {i k : Nat} {p p1 p2 : Pos} {es : List Expr} (T : XcT X.K cs) (hC : C ∈ cs) (hns : ∀ c ∈ ns, c ∈ cs) (hz : Zc (.ref (He.ga X.K C)) none oe) (hf : ∃ vs, oe.data = .fields vs)
    (hv : PE (X.suite a ((a, oe) :: pn)) (.Name x p1) (tVar i)) (hg : Gl X "isinstance") (hm : X.mg "isinstance" = none) (hes : PA (X.suite a ((a, oe) :: pn)) es (tCs (ns.map fun c => V.ref (He.ga X.K c)))) (hl : ns.length ≤ 1000) :
    PE (X.suite a ((a, oe) :: pn)) (.Call (.Name "isinstance" p) [.Name x p1, .Tuple es k p2] [] pos) (r3E X.K W (mIsE i a (decide (C ∈ ns)))) := by
  refine peW (pe_callB (X := X.suite a ((a, oe) :: pn)) (call_isET (T.exc C hC) hz hf) hg hm (by decide +kernel) (pa_cons hv (pa_cons (pe_tup hes) pa_nil))) fun σ H Q h => ?_
  obtain ⟨e1, q⟩ := isE_var (X' := X) h
  refine ⟨_, e1, by rw [List.length_map]; exact Nat.le_trans hl (by decide), fun tp htp => ?_⟩
  exact ⟨tp, _, _, _, rfl, upd_same, pairedCls, kitAny_own fun c hc => T.own C hC c (hns c hc), q _ (.inl ⟨tp, _, htp, rfl⟩)⟩
end

/-! ## methods of lists -/
def appD (O : Sto) (o : D) (ds : List D) (Q : Sto → Prop) : Prop := match o, ds with
  | .cell p, [d] => match O p with
    | some (.lst xs) => xs.length < sizeLine ∧ Q (put O p (.lst (xs ++ [d])))
    | _ => False
  | _, _ => False
theorem appD_ok {O : Sto} {o : D} {ds : List D} {Q : Sto → Prop} (h : appD O o ds Q) : ∃ p d xs, o = .cell p ∧ ds = [d] ∧ O p = some (.lst xs) ∧ xs.length < sizeLine ∧ Q (put O p (.lst (xs ++ [d]))) := by
  unfold appD at h
  split at h
  · split at h
    · rename_i e
      exact ⟨_, _, _, rfl, rfl, e, h⟩
    · exact h.elim
  · exact h.elim
def mApp (mo : ME) (ms : MA) : ME := fun Z Γ O Q => mo Z Γ O fun o O1 => (∃ xs, lstOf O1 o = some xs) ∧ ms Z Γ O1 fun ds O2 => appD O2 o ds fun O3 => Q .non O3
def extD (O : Sto) (o : D) (ds : List D) (Q : Sto → Prop) : Prop := match o, ds with
  | .cell p, [d] => match O p, lstOf O d with
    | some (.lst xs), some ys => xs.length + ys.length ≤ sizeLine ∧ Q (put O p (.lst (xs ++ ys)))
    | _, _ => False
  | _, _ => False
section
variable {X : Cx} {W : WX} {pos apos : Pos}
theorem lst_tyV {K : PySem.W.Frag} {H0 H : Hp} {O : Sto} {v : V} {d : D} {xs : List D} (st : Sta K H0 O H) (is : Is K H0 v d) (h : lstOf O d = some xs) : tyV K "list" v H := by
  obtain ⟨a, vs, rfl, r, _⟩ := lstOf_ok st is h
  exact .inl ⟨rfl, vs, r⟩
theorem pe3_app {o e : Expr} {mo : ME} {ms : MA} (h : PE X (.Call (.Attribute o "append" apos) [e] [] pos) (tBM X.K "list" rAppend (r3E X.K W mo) (r3A X.K W ms))) : PE X (.Call (.Attribute o "append" apos) [e] [] pos) (r3E X.K W (mApp mo ms)) := by
  refine peW h fun σ H Q ⟨Γ, O, H0, Z, P, env, st, hm, lx, lv⟩ => ?_
  refine ⟨Γ, O, H0, Z, _, env, st, hm, lx, fun H1 v d O1 H' s1 is1 st1 hm1 => ?_⟩
  obtain ⟨⟨xs0, h0⟩, hm1⟩ := hm1
  refine ⟨lst_tyV st1 is1 h0, Γ, O1, H1, Z, _, env.mono s1, st1, hm1, lx.mono s1, fun H2 vs ds O2 H'' s2 is2 st2 hm2 => ?_⟩
  obtain ⟨p, e, xs, rfl, rfl, e1, h1, h2⟩ := appD_ok hm2
  cases is1
  obtain ⟨w, rfl, iw⟩ := is2.one
  obtain ⟨_, us, e2, r⟩ := st2.cell p _ e1
  refine ⟨p, us, w, rfl, rfl, e2, by rw [r.1]; exact h1, ?_⟩
  exact lv H2 _ _ _ _ (s1.trans s2) .non (st2.set (u := .lst (xs ++ [e])) e1 ⟨_, upd_same, r.append (.cons iw .nil)⟩) h2
end
end L3

namespace L3
open PySem PySem.Spec PyProof.Rows L2

/-! ## targets that are names alone -/
inductive TgN where
  | one (i : Nat) | many (is : List Nat)
def TgN.vs : TgN → List Nat
  | .one i => [i]
  | .many is => is
def setNs : List Nat → List D → Gm → Gm
  | i :: is, d :: ds, Γ => setNs is ds (Γ.set i (some d))
  | _, _, Γ => Γ
def TgN.put (t : TgN) (d : D) (Γ : Gm) (Q : Gm → Prop) : Prop := match t, d with
  | .one i, d => Q (Γ.set i (some d))
  | .many is, .tup ds => ds.length = is.length ∧ Q (setNs is ds Γ)
  | _, _ => False
def gNs : List Nat → TGs
  | [] => gNil
  | i :: is => gCons (gName i) (gNs is)
def TgN.g (K : PySem.W.Frag) : TgN → TG
  | .one i => gName i
  | .many is => gTup K is.length (gNs is)
def wipeG (Γ : Gm) : List Nat → Gm
  | [] => Γ
  | v :: vs => (wipeG Γ vs).set v none
theorem EnvR.wipe {K : PySem.W.Frag} {H : Hp} {Γ : Gm} {σ : L2.St} (e : EnvR K H Γ σ) : ∀ vs : List Nat, EnvR K H (wipeG Γ vs) (L2.wipe σ vs)
  | [] => e
  | v :: vs => (EnvR.wipe e vs).unset
theorem wipe_over {σ : L2.St} {i : Nat} {x y : Option V} : ∀ {vs : List Nat}, (L2.wipe (σ.set i x) vs).set i y = (L2.wipe σ vs).set i y
  | [] => by
    show (σ.set i x).set i y = σ.set i y
    rw [List.set_set]
  | v :: vs => by
    show ((L2.wipe (σ.set i x) vs).set v none).set i y = ((L2.wipe σ vs).set v none).set i y
    by_cases h : v = i
    · subst h
      rw [List.set_set, List.set_set]
      exact wipe_over
    · rw [List.set_comm _ _ h, List.set_comm _ _ h, wipe_over]
theorem wipe_set {σ : L2.St} {i : Nat} {x : Option V} : ∀ {vs : List Nat}, i ∈ vs → L2.wipe (σ.set i x) vs = L2.wipe σ vs
  | v :: vs, h => by
    show (L2.wipe (σ.set i x) vs).set v none = (L2.wipe σ vs).set v none
    by_cases e : i = v
    · subst e
      exact wipe_over
    · rw [wipe_set (List.mem_of_ne_of_mem e h)]
theorem gNs_ok {K : PySem.W.Frag} {H0 H : Hp} {V0 : List Nat} {Q : L2.St → Hp → Prop} : ∀ {is : List Nat} {ds : List D} {vs : List V} {Γ : Gm} {σ : L2.St}, Iss K H0 vs ds → ds.length = is.length → EnvR K H0 Γ σ → (∀ j ∈ is, j ∈ V0) →
    (∀ σ1, EnvR K H0 (setNs is ds Γ) σ1 → L2.wipe σ1 V0 = L2.wipe σ V0 → Q σ1 H) → gNs is vs σ H Q
  | [], [], vs, Γ, σ, r, _, env, _, h => ⟨r.unnil, h σ env rfl⟩
  | i :: is, d :: ds, vs, Γ, σ, r, l, env, hv, h => by
    obtain ⟨v, us, rfl, r1, r2⟩ := r.uncons
    refine ⟨v, us, rfl, ?_⟩
    refine gNs_ok r2 (by simpa using l) (env.set r1) (fun j hj => hv j (List.mem_cons_of_mem _ hj)) fun σ1 e1 e2 => h σ1 e1 ?_
    rw [e2]
    exact wipe_set (hv i List.mem_cons_self)
  | [], _ :: _, _, _, _, _, l, _, _, _ => by cases l
  | _ :: _, [], _, _, _, _, l, _, _, _ => by cases l
theorem tgN_ok {K : PySem.W.Frag} {H0 H : Hp} {O : Sto} {t : TgN} {d : D} {y : V} {Γ : Gm} {σ : L2.St} {P : Gm → Prop} {Q : L2.St → Hp → Prop} (is : Is K H0 y d) (st : Sta K H0 O H) (env : EnvR K H0 Γ σ) (h : t.put d Γ P)
    (hq : ∀ Γ1 σ1, EnvR K H0 Γ1 σ1 → L2.wipe σ1 t.vs = L2.wipe σ t.vs → P Γ1 → Q σ1 H) : t.g K y σ H Q := by
  cases t with
  | one i => exact hq _ _ (env.set is) (wipe_set List.mem_cons_self) h
  | many js =>
    cases d with
    | tup ds =>
      obtain ⟨l, h⟩ := (show ds.length = js.length ∧ P (setNs js ds Γ) from h)
      obtain ⟨a, vs, rfl, r, ii⟩ := is.tup_
      exact ⟨a, vs, rfl, same_tt st.same r, by rw [ii.1]; exact l, gNs_ok ii l env (fun j hj => hj) fun σ1 e1 e2 => hq _ _ e1 e2 h⟩
    | _ => exact h.elim

/-! ## list comprehensions of one clause -/
def lcL (p : Addr) (chk : Sto → Prop) (tg : TgN) (t : MT) (e : ME) (Γ : Gm) (K : Sto → Prop) : List D → Sto → Prop
  | [], O => chk O ∧ K O
  | x :: r, O => chk O ∧ tg.put x Γ fun Γ1 => t noX Γ1 O fun b O2 => if b = true then e noX Γ1 O2 fun y O3 => ∃ acc, O3 p = some (.lst acc) ∧ acc.length < sizeLine ∧ lcL p chk tg t e Γ K r (put O3 p (.lst (acc ++ [y]))) else lcL p chk tg t e Γ K r O2
def mComp (mi : MI) (tg : TgN) (t : MT) (e : ME) : ME := fun Z Γ O Q => mi Z Γ O fun chk all O1 => ∀ p, O1 p = none → lcL p chk tg t e (wipeG Γ tg.vs) (orFz Q (.cell p)) all (put O1 p (.lst []))
def mYes : MT := fun _ _ O Q => Q true O
theorem lc3 {K : PySem.W.Frag} {W : WX} {mi : MI} {tg : TgN} {t : MT} {e : ME} {σ : L2.St} {H : Hp} {Q : VK} (h : r3E K W (mComp mi tg t e) σ H Q) :
    tLc (r3I K W mi) (tg.g K) (r3T K (fun _ _ _ _ => False) t) (r3E K (fun _ _ _ _ => False) e) tg.vs σ H Q := by
  obtain ⟨Γ, O, H0, Z, P, env, st, hm, lx, lv⟩ := h
  refine ⟨Γ, O, H0, Z, _, env, st, hm, lx, fun H1 J chk all O1 H' s1 st1 hJ hm1 => ?_⟩
  intro D hD
  have hO := (st1.free hD).1
  have st0 : Sta K H1 (put O1 D (.lst [])) (upd H' D (.lst [])) := st1.newC (u := .lst []) hD ⟨[], upd_same, .nil⟩
  refine ⟨fun i m H => ∃ O H2, Same H1 H2 ∧ Sta K H2 O H ∧ i + m = all.length ∧ lcL D chk tg t e (wipeG Γ tg.vs) (orFz P (.cell D)) (all.drop i) O, ⟨all.length, _, H1, Same.refl _, st0, by omega, by simpa using hm1 D hO⟩, ?_⟩
  rintro i m H ⟨O2, H2, s2, st2, hi, hl⟩
  cases ed : all.drop i with
  | nil =>
    rw [ed] at hl
    have hlen : all.length ≤ i := List.drop_eq_nil_iff.mp ed
    exact .inl ⟨hJ.stop H2 O2 H i s2 st2 hl.1 hlen, lv.fz H2 _ _ O2 H (s1.trans s2) (.cell D) st2 hl.2⟩
  | cons x r =>
    rw [ed] at hl
    obtain ⟨hl0, hl⟩ := hl
    have hx : all[i]? = some x := by
      have h0 := congrArg (fun z : List L3.D => z[0]?) ed
      simp only [List.getElem?_drop] at h0
      simpa using h0
    have hr : all.drop (i + 1) = r := by
      have h0 := congrArg List.tail ed
      rw [List.tail_drop] at h0
      exact h0
    obtain ⟨k1, k2⟩ := hJ.go H2 O2 H i x s2 st2 hl0 hx
    refine .inr ⟨k1, fun H' => ∃ O H3, Same H1 H3 ∧ Sta K H3 O H' ∧ lcL D chk tg t e (wipeG Γ tg.vs) (orFz P (.cell D)) r O, ?_, ?_⟩
    · rintro H5 ⟨O3, H3, s3, st3, h3⟩
      have hlt : i < all.length := (List.getElem?_eq_some_iff.mp hx).1
      exact ⟨m - 1, by omega, O3, H3, s3, st3, by omega, by rw [hr]; exact h3⟩
    · intro y H5 hy
      obtain ⟨Hy, sy, sty, is2⟩ := k2 y H5 hy
      have envw : EnvR K Hy (wipeG Γ tg.vs) (L2.wipe σ tg.vs) := (env.mono ((s1.trans s2).trans sy)).wipe tg.vs
      refine tgN_ok is2 sty envw hl fun Γ1 σ1 env1 ew hl1 => ⟨?_, ?_⟩
      · have idem : ∀ (vs : List Nat) (τ : L2.St), L2.wipe (L2.wipe τ vs) vs = L2.wipe τ vs := by
          have aux : ∀ (us vs : List Nat) (τ : L2.St), (∀ j ∈ us, j ∈ vs) → L2.wipe (L2.wipe τ us) vs = L2.wipe τ vs := by
            intro us
            induction us with
            | nil => intro vs τ _; rfl
            | cons j js ih =>
              intro vs τ hj
              show L2.wipe ((L2.wipe τ js).set j none) vs = _
              rw [wipe_set (hj j List.mem_cons_self)]
              exact ih vs τ fun k hk => hj k (List.mem_cons_of_mem _ hk)
          exact fun vs τ => aux vs vs τ fun j hj => hj
        rw [ew]
        exact idem _ _
      · refine ⟨Γ1, O2, Hy, _, _, env1, sty, hl1, linkX0, fun H3 b O3 H6 s3 st3 h3 => ?_⟩
        have s23 := (s2.trans sy).trans s3
        cases b with
        | false =>
          simp only [Bool.false_eq_true, if_false] at h3 ⊢
          exact ⟨O3, H3, s23, st3, h3⟩
        | true =>
          simp only [if_true] at h3 ⊢
          refine ⟨Γ1, O3, H3, _, _, env1.mono s3, st3, h3, linkX0, fun H4 z dz O4 H7 s4 is4 st4 h4 => ?_⟩
          obtain ⟨acc, ea, hz, h4⟩ := h4
          obtain ⟨_, us, eu, ii⟩ := st4.cell D _ ea
          refine ⟨us, eu, by rw [ii.1]; exact hz, _, H4, s23.trans s4, st4.set (u := .lst (acc ++ [dz])) ea ⟨_, upd_same, ii.append (.cons is4 .nil)⟩, h4⟩

/-! ## methods of own instances -/
def insD (C m : Str) (O : Sto) (d : D) : Prop := match d with
  | .obj C1 fs => C1 = C ∧ fs.lookup m = none
  | .cell p => match O p with
    | some (.ins C1 fs) => C1 = C ∧ fs.lookup m = none
    | _ => False
  | _ => False
theorem lookup_none {m : Str} : ∀ {vs : List (Str × V)} {ds : List (Str × D)}, vs.map (·.1) = ds.map (·.1) → ds.lookup m = none → vs.lookup m = none
  | [], [], _, _ => rfl
  | [], _ :: _, e, _ => by cases e
  | _ :: _, [], e, _ => by cases e
  | (a, v) :: vs, (b, d) :: ds, e, h => by
    have e1 : a = b := (List.cons.inj e).1
    subst e1
    rw [List.lookup_cons] at h ⊢
    cases q : (m == a) with
    | true => rw [q] at h; cases h
    | false => rw [q] at h; exact lookup_none (List.cons.inj e).2 h
theorem insD_ok {K : PySem.W.Frag} {H0 H : Hp} {O : Sto} {v : V} {d : D} {C m : Str} (st : Sta K H0 O H) (is : Is K H0 v d) (h : insD C m O d) : ∃ a dx fs, v = .ref a ∧ H a = some (.ins (He.ga K C) dx fs) ∧ fs.lookup m = none := by
  cases is with
  | @obj a dx C1 vs ds r l q =>
    obtain ⟨rfl, h2⟩ := (show C1 = C ∧ ds.lookup m = none from h)
    exact ⟨a, dx, vs, rfl, st.same _ _ r, lookup_none l h2⟩
  | cell p =>
    have h2 : (match O p with
      | some (.ins C1 fs) => C1 = C ∧ fs.lookup m = none
      | _ => False) := h
    cases e : O p with
    | none => rw [e] at h2; exact h2.elim
    | some u =>
      rw [e] at h2
      cases u with
      | ins C1 fs =>
        obtain ⟨rfl, h3⟩ := (show C1 = C ∧ fs.lookup m = none from h2)
        obtain ⟨_, dx, vs, e3, l, q⟩ := st.cell p _ e
        exact ⟨p, dx, vs, rfl, e3, lookup_none l h3⟩
      | _ => exact h2.elim
  | _ => exact h.elim
def mMeth (C m : Str) (S : FSpec) (n : Nat) (mo : ME) (ms : MA) : ME := fun Z Γ O Q => mo Z Γ O fun o O1 => insD C m O1 o ∧ ms Z Γ O1 fun ds O2 => ds.length = n ∧ S (o :: ds) O2 Z Q
structure MthAt (X : Cx) (C m : Str) (n : Nat) (S : FSpec) : Prop where
  ex : ∃ k f fd ps, Cls X.K (He.ga X.K C) ∧ Meth X.K (He.ga X.K C) m f ∧ FnOk X.prog X.w X.K X.mg X.base (L2.CX X.prog X.w) k f fd ps (spOf X.K (n + 1) S) ∧ Room k X.A ∧ Binds X.K fd ps []
section
variable {X : Cx} {W : WX} {pos apos : Pos}
theorem pe3_meth {pl : Sem Bool} {C m : Str} {o e : Expr} {es : List Expr} {n : Nat} {S : FSpec} {mo : ME} {ms : MA} (F : MthAt X C m n S) (tk : Takes X W) (ho : PE X o (r3E X.K W mo)) (ha : PA X (e :: es) (r3A X.K W ms))
    (he : starEach (e :: es) X.env = (false, eval e X.env) :: starEach es X.env) (hpl : (backTo pos (starEach es X.env)).any (·.1) = false)
    (ht : eval (.Call (.Attribute o m apos) (e :: es) [] pos) X.env = (do
      let ov ← eval o X.env
      standAt apos.atName
      let (f, first) ← holding [ov] (getMethod ov m pl)
      callWith pos f first (backTo pos (starEach (e :: es) X.env)) (backToKw pos (keywordEach [] X.env)))) : PE X (.Call (.Attribute o m apos) (e :: es) [] pos) (r3E X.K W (mMeth C m S n mo ms)) := by
  obtain ⟨k, f, fd, ps, c, hm, F, hr, hb⟩ := F.ex
  refine ⟨fun pins s σ H Q I ⟨Γ, O, H0, Z, P, env, st, hmm, lx, lv⟩ => ?_⟩
  have hA : r3E X.K W mo σ H fun x H1 => ∃ a dx fs, x = .ref a ∧ H1 a = some (.ins (He.ga X.K C) dx fs) ∧ fs.lookup m = none ∧ r3A X.K W ms σ H1 fun vs H2 => spOf X.K (n + 1) S (.ref a :: vs) H2 Q (WE W σ) := by
    refine ⟨Γ, O, H0, Z, _, env, st, hmm, lx, fun H1 v d O1 H' s1 is1 st1 hm1 => ?_⟩
    obtain ⟨a, dx, fs, rfl, h1, h2⟩ := insD_ok st1 is1 hm1.1
    refine ⟨a, dx, fs, rfl, h1, h2, Γ, O1, H1, Z, _, env.mono s1, st1, hm1.2, lx.mono s1, fun H2 vs ds O2 H'' s2 is2 st2 hm2 => ?_⟩
    have s12 := s1.trans s2
    refine ⟨by simp [is2.1, hm2.1], H2, O2, d :: ds, Z, P, .cons (is1.mono s2) is2, st2, hm2.2, ?_, lv.mono s12⟩
    exact fun H3 C fs O3 oe H''' s3 st3 xo z => lx H3 C fs O3 oe H''' (s12.trans s3) st3 xo z
  refine PySem.W.methodCall_KW (pl := pl) (thn (ho.run pins s σ H _ I hA) fun u s1 ⟨x, H1, I1, rx, a, dx, fs, ex, ea, l, q⟩ => ?_) ht
  subst ex
  obtain rfl : u = Value.ref a := rx
  refine getmeth_ok I1 ea c hm l ?_
  refine PySem.W.callWith_K (first := [.ref a]) (h₀ := X.base) I.ok.mod.kin hm.kp (thn (ha.run pos pins s1 σ H1 _ I1 q) fun us s2 ⟨vs, H2, I2, r, q2⟩ => ⟨I2.kIn, ?_⟩) he hpl
  exact run_fnSD (us := .ref a :: us) (vs := .ref a :: vs) (E := fun σ => WE W σ) F hr hb (dvs := []) .nil (passAt tk σ) I2 (.cons rfl r) (by rw [List.append_nil]; exact q2)
/-- the tree of a method's call, told of the text's form -/
theorem mcall_tree {o : Expr} {m : Str} {args : List Expr} {env : Env} (hb : attributeBase o m env (eval o env) = eval o env) (hf : methodCallForm (args.length + 0) (backTo pos (starEach args env)) (backToKw pos (keywordEach [] env)) = true) (hl : (apos.endLine == pos.line) = true) :
    eval (.Call (.Attribute o m apos) args [] pos) env = (do
      let ov ← eval o env
      standAt apos.atName
      let (f, first) ← holding [ov] (getMethod ov m (do return (← importBound o env).getD true))
      callWith pos f first (backTo pos (starEach args env)) (backToKw pos (keywordEach [] env))) := by
  rw [arm_eval_Call, hb]
  unfold methodCall
  have e : args.length + ([] : List Keyword).length = args.length + 0 := rfl
  rw [e, hf]
  unfold methodCallPos calleeOf
  rw [hl]
  rfl
/-- tuple(x) -/
def tupD (O : Sto) (d : D) (Q : PV) : Prop := match seqOf O d with
  | some ds => Q (.tup ds) O
  | none => False
def mTupOf (m : ME) : ME := fun Z Γ O Q => m Z Γ O fun d O1 => tupD O1 d Q
theorem pe3_tupleOf {a : Expr} {m : ME} {p : Pos} (hg : Gl X "tuple") (hm : X.mg "tuple" = none) (ha : PE X a (r3E X.K W m)) (na : starEach [a] X.env = (false, eval a X.env) :: starEach [] X.env) : PE X (.Call (.Name "tuple" p) [a] [] pos) (r3E X.K W (mTupOf m)) := by
  refine peW (pe_tupleOf hg hm ha na) fun σ H Q ⟨Γ, O, H0, Z, P, env, st, hmm, lx, lv⟩ => ?_
  refine ⟨Γ, O, H0, Z, _, env, st, hmm, lx, fun H1 v d O1 H' s1 is1 st1 hm1 => ?_⟩
  have hm1 : tupD O1 d P := hm1
  unfold tupD at hm1
  cases e : seqOf O1 d with
  | none => rw [e] at hm1; exact hm1.elim
  | some ds =>
    rw [e] at hm1
    have hm2 : P (.tup ds) O1 := hm1
    clear hm1
    obtain ⟨a, vs, rfl, r, ii⟩ := seqOf_ok st1 is1 e
    rcases r with r | r
    · refine .inl ⟨a, vs, rfl, r, fun q hq => ?_⟩
      have h0 := (st1.free hq).2
      exact lv _ _ _ O1 _ (s1.trans (same_upd h0)) (.tup upd_same ii.1 (ii.mono (same_upd h0)).2) (st1.new0 hq) hm2
    · generalize hv : V.ref a = w at is1
      cases is1 with
      | tup r0 l c =>
        cases e
        exact .inr ⟨_, _, rfl, same_tt st1.same r0, lv H1 _ _ O1 H' s1 (.tup r0 l c) st1 hm2⟩
      | lst r0 l c =>
        cases e
        refine .inl ⟨_, _, rfl, same_l st1.same r0, fun q hq => ?_⟩
        have h0 := (st1.free hq).2
        exact lv _ _ _ O1 _ (s1.trans (same_upd h0)) (.tup upd_same l ((show Iss X.K H1 _ _ from ⟨l, c⟩).mono (same_upd h0)).2) (st1.new0 hq) hm2
      | cell q0 =>
        obtain ⟨_, us, e2, rr⟩ := st1.cell _ _ (lstOf_cell e)
        refine .inl ⟨_, _, rfl, SqL.of e2, fun q hq => ?_⟩
        have h0 := (st1.free hq).2
        exact lv _ _ _ O1 _ (s1.trans (same_upd h0)) (.tup upd_same rr.1 (rr.mono (same_upd h0)).2) (st1.new0 hq) hm2
      | _ => cases e
end
end L3

namespace L3
open PySem PySem.Spec PyProof.Rows L2

/-! ## texts -/
abbrev FM := D → List D → Sto → PV → Prop
def RepM (K : PySem.W.Frag) (r : V → List V → Hp → VK → Prop) (f : FM) : Prop := ∀ (H0 : Hp) (O : Sto) (H : Hp) (x : V) (vs : List V) (o : D) (ds : List D) (P : PV) (Q : VK), Sta K H0 O H → Is K H0 x o → Iss K H0 vs ds → f o ds O P → LinkV K H0 P Q → r x vs H Q
def isStrD : D → Prop
  | .str _ => True
  | _ => False
def mSM (f : FM) (mo : ME) (ms : MA) : ME := fun Z Γ O Q => mo Z Γ O fun o O1 => isStrD o ∧ ms Z Γ O1 fun ds O2 => f o ds O2 Q
def mSM0 (f : FM) (mo : ME) : ME := fun Z Γ O Q => mo Z Γ O fun o O1 => isStrD o ∧ f o [] O1 Q
theorem isStr_ty {K : PySem.W.Frag} {H0 H : Hp} {v : V} {d : D} (is : Is K H0 v d) (h : isStrD d) : tyV K "str" v H := by
  cases is with
  | str x => exact rfl
  | _ => exact h.elim
theorem sm3 {K : PySem.W.Frag} {W : WX} {r : V → List V → Hp → VK → Prop} {f : FM} {mo : ME} {ms : MA} (R : RepM K r f) {σ : L2.St} {H : Hp} {Q : VK} (h : r3E K W (mSM f mo ms) σ H Q) : tBM K "str" r (r3E K W mo) (r3A K W ms) σ H Q := by
  obtain ⟨Γ, O, H0, Z, P, env, st, hm, lx, lv⟩ := h
  refine ⟨Γ, O, H0, Z, _, env, st, hm, lx, fun H1 v d O1 H' s1 is1 st1 hm1 => ⟨isStr_ty is1 hm1.1, ?_⟩⟩
  refine ⟨Γ, O1, H1, Z, _, env.mono s1, st1, hm1.2, lx.mono s1, fun H2 vs ds O2 H'' s2 is2 st2 hm2 => ?_⟩
  exact R H2 O2 H'' v vs d ds P Q st2 (is1.mono s2) is2 hm2 (lv.mono (s1.trans s2))
theorem sm30 {K : PySem.W.Frag} {W : WX} {r : V → List V → Hp → VK → Prop} {f : FM} {mo : ME} (R : RepM K r f) {σ : L2.St} {H : Hp} {Q : VK} (h : r3E K W (mSM0 f mo) σ H Q) : tBM0 K "str" r (r3E K W mo) σ H Q := by
  obtain ⟨Γ, O, H0, Z, P, env, st, hm, lx, lv⟩ := h
  refine ⟨Γ, O, H0, Z, _, env, st, hm, lx, fun H1 v d O1 H' s1 is1 st1 hm1 => ⟨isStr_ty is1 hm1.1, ?_⟩⟩
  exact R H1 O1 H' v [] d [] P Q st1 is1 .nil hm1.2 (lv.mono s1)
/-- a text, one text: a value -/
def fM1 (C : Str → Str → Prop) (g : Str → Str → D) : FM := fun o ds O Q => match o, ds with
  | .str a, [.str b] => C a b ∧ Q (g a b) O
  | _, _ => False
def fM0 (C : Str → Prop) (g : Str → D) : FM := fun o ds O Q => match o, ds with
  | .str a, [] => C a ∧ Q (g a) O
  | _, _ => False
theorem repM1 {K : PySem.W.Frag} {C : Str → Str → Prop} {g : Str → Str → D} {g' : Str → Str → V} (hg : ∀ H a b, Is K H (g' a b) (g a b)) {r : V → List V → Hp → VK → Prop} (hr : ∀ a b H Q, C a b → Q (g' a b) H → r (.str a) [.str b] H Q) : RepM K r (fM1 C g) := by
  intro H0 O H x vs o ds P Q st ix is h lv
  unfold fM1 at h
  split at h
  · cases ix
    obtain ⟨w, rfl, iw⟩ := is.one
    cases iw
    exact hr _ _ _ _ h.1 (lv H0 _ _ O H (Same.refl _) (hg _ _ _) st h.2)
  · exact h.elim
theorem repM0 {K : PySem.W.Frag} {C : Str → Prop} {g : Str → D} {g' : Str → V} (hg : ∀ H a, Is K H (g' a) (g a)) {r : V → List V → Hp → VK → Prop} (hr : ∀ a H Q, C a → Q (g' a) H → r (.str a) [] H Q) : RepM K r (fM0 C g) := by
  intro H0 O H x vs o ds P Q st ix is h lv
  unfold fM0 at h
  split at h
  · cases ix
    rw [is.unnil]
    exact hr _ _ _ h.1 (lv H0 _ _ O H (Same.refl _) (hg _ _) st h.2)
  · exact h.elim
def fFind : FM := fM1 (fun _ _ => True) fun a b => .int (Txt.find a b)
def fStarts : FM := fM1 (fun _ _ => True) fun a b => .bl (Txt.startswith a b)
def fRemPre : FM := fM1 (fun a _ => a.length ≤ sizeLine) fun a b => .str (Txt.removeprefix a b)
def fIsascii : FM := fM0 (fun _ => True) fun a => .bl (Txt.isascii a)
def fIsdigit : FM := fM0 (fun _ => True) fun a => .bl (Txt.isdigit a)
def fUpper : FM := fM0 (fun a => a.length ≤ 5592405) fun a => .str (Txt.upper a)
def fParti : FM := fun o ds O Q => match o, ds with
  | .str a, [.str b] => (b.length == 0) = false ∧ a.length ≤ sizeLine ∧ Q (.tup [.str (Txt.partition a b).1, .str (Txt.partition a b).2.1, .str (Txt.partition a b).2.2]) O
  | _, _ => False
/-- which method, of one text -/
def sm1 (m : Str) : Option FM := if m = "find" then some fFind else if m = "startswith" then some fStarts else if m = "removeprefix" then some fRemPre else if m = "partition" then some fParti else none
def sm0 (m : Str) : Option FM := if m = "isascii" then some fIsascii else if m = "isdigit" then some fIsdigit else if m = "upper" then some fUpper else none
theorem sm1_ok {X : Cx} {m : Str} {f : FM} (h : sm1 m = some f) : ∃ (id : String) (r : V → List V → Hp → VK → Prop), Slot "str" m id ∧ typeOf (.builtin id) = pure (.type "method_descriptor") ∧ MtR X id r ∧ RepM X.K r f := by
  unfold sm1 at h
  split at h
  · rename_i e; subst e; cases h
    exact ⟨_, _, PySem.F.slot_str_find, PySem.F.type_str_find, mt_find, repM1 (g' := fun a b => .int (Txt.find a b)) (fun _ _ _ => .int _) fun a b H Q _ q => ⟨a, b, rfl, rfl, q⟩⟩
  · split at h
    · rename_i e; subst e; cases h
      exact ⟨_, _, PySem.F.slot_str_startswith, PySem.F.type_str_startswith, mt_startswith, repM1 (g' := fun a b => .bl (Txt.startswith a b)) (fun _ _ _ => .bl _) fun a b H Q _ q => ⟨a, b, rfl, rfl, q⟩⟩
    · split at h
      · rename_i e; subst e; cases h
        exact ⟨_, _, PySem.F.slot_str_removeprefix, PySem.F.type_str_removeprefix, mt_removeprefix, repM1 (g' := fun a b => .str (Txt.removeprefix a b)) (fun _ _ _ => .str _) fun a b H Q c q => ⟨a, b, rfl, rfl, c, q⟩⟩
      · split at h
        · rename_i e; subst e; cases h
          refine ⟨_, _, PySem.F.slot_str_partition, PySem.F.type_str_partition, mt_partition, ?_⟩
          intro H0 O H x vs o ds P Q st ix is h lv
          unfold fParti at h
          split at h
          · rename_i a b
            cases ix
            obtain ⟨w, rfl, iw⟩ := is.one
            cases iw
            refine ⟨a, b, rfl, rfl, h.1, h.2.1, fun p hp => ?_⟩
            have h0 := (st.free hp).2
            have i3 : Iss X.K (upd H0 p (.tup [.str (Txt.partition a b).1, .str (Txt.partition a b).2.1, .str (Txt.partition a b).2.2])) [V.str (Txt.partition a b).1, V.str (Txt.partition a b).2.1, V.str (Txt.partition a b).2.2] [D.str (Txt.partition a b).1, D.str (Txt.partition a b).2.1, D.str (Txt.partition a b).2.2] := .cons (.str _) (.cons (.str _) (.cons (.str _) .nil))
            exact lv _ _ _ O _ (same_upd h0) (.tup upd_same i3.1 i3.2) (st.new0 hp) h.2.2
          · exact h.elim
        · cases h
theorem sm0_ok {X : Cx} {m : Str} {f : FM} (h : sm0 m = some f) : ∃ (id : String) (r : V → List V → Hp → VK → Prop), Slot "str" m id ∧ typeOf (.builtin id) = pure (.type "method_descriptor") ∧ MtR X id r ∧ RepM X.K r f := by
  unfold sm0 at h
  split at h
  · rename_i e; subst e; cases h
    exact ⟨_, _, PySem.F.slot_str_isascii, PySem.F.type_str_isascii, mt_isascii, repM0 (g' := fun a => .bl (Txt.isascii a)) (fun _ _ => .bl _) fun a H Q _ q => ⟨a, rfl, rfl, trivial, q⟩⟩
  · split at h
    · rename_i e; subst e; cases h
      exact ⟨_, _, PySem.F.slot_str_isdigit, PySem.F.type_str_isdigit, mt_isdigit, repM0 (g' := fun a => .bl (Txt.isdigit a)) (fun _ _ => .bl _) fun a H Q _ q => ⟨a, rfl, rfl, trivial, q⟩⟩
    · split at h
      · rename_i e; subst e; cases h
        exact ⟨_, _, PySem.F.slot_str_upper, PySem.F.type_str_upper, mt_upper, repM0 (g' := fun a => .str (Txt.upper a)) (fun _ _ => .str _) fun a H Q c q => ⟨a, rfl, rfl, c, q⟩⟩
      · cases h
/-! ### str(x), {x}, f'..' -/
theorem CallR.or {X : Cx} {v : Value} {r r' : List V → Hp → VK → Prop} (h : CallR X v r) (h' : CallR X v r') : CallR X v (fun xs H Q => r xs H Q ∨ r' xs H Q) := by
  intro pins s σ H xs us Q I rs q
  rcases q with q | q
  · exact h pins s σ H xs us Q I rs q
  · exact h' pins s σ H xs us Q I rs q
def fStr1 : FA := fun ds O Q => match ds with
  | [.int i] => i.natAbs.log2 < 1920 ∧ Q (.str (toString i)) O
  | [.str a] => Q (.str a) O
  | _ => False
theorem repA_str {K : PySem.W.Frag} : RepA K (fun xs H Q => (∃ i, xs = [.int i] ∧ i.natAbs.log2 < 1920 ∧ Q (.str (toString i)) H) ∨ ∃ a, xs = [.str a] ∧ Q (.str a) H) fStr1 := by
  intro H0 O H vs ds P Q st is h lv
  unfold fStr1 at h
  split at h
  · obtain ⟨v, rfl, a⟩ := is.one
    cases a
    exact .inl ⟨_, rfl, h.1, lv H0 _ _ O H (Same.refl _) (.str _) st h.2⟩
  · obtain ⟨v, rfl, a⟩ := is.one
    cases a
    exact .inr ⟨_, rfl, lv H0 _ _ O H (Same.refl _) (.str _) st h⟩
  · exact h.elim
def fmtD (d : D) (O : Sto) (Q : PV) : Prop := match d with
  | .str y => y.length ≤ sizeLine ∧ Q (.str y) O
  | .int i => i.natAbs.log2 < 1920 ∧ Q (.str (toString i)) O
  | _ => False
def mFmt (m : ME) : ME := fun Z Γ O Q => m Z Γ O fun d O1 => fmtD d O1 Q
def jsL : List ME → Str → PX → Gm → Sto → (Str → Sto → Prop) → Prop
  | [], acc, _, _, O, K => K acc O
  | m :: ms, acc, Z, Γ, O, K => m Z Γ O fun d O1 => ∃ y, d = .str y ∧ (acc ++ y).length ≤ sizeLine ∧ jsL ms (acc ++ y) Z Γ O1 K
def mJoin (ms : List ME) : ME := fun Z Γ O Q => jsL ms Str.empty Z Γ O fun out O1 => Q (.str out) O1
section
variable {X : Cx} {W : WX} {pos : Pos}
theorem pe3_fmt {e : Expr} {m : ME} (he : PE X e (r3E X.K W m)) : PE X (.FormattedValue e (-1) none pos) (r3E X.K W (mFmt m)) := by
  refine peW (pe_fmt he) fun σ H Q ⟨Γ, O, H0, Z, P, env, st, hm, lx, lv⟩ => ?_
  refine ⟨Γ, O, H0, Z, _, env, st, hm, lx, fun H1 v d O1 H' s1 is1 st1 hm1 => ?_⟩
  cases is1 with
  | str y => exact .inl ⟨y, rfl, hm1.1, lv H1 _ _ O1 H' s1 (.str _) st1 hm1.2⟩
  | int i => exact .inr ⟨i, rfl, hm1.1, lv H1 _ _ O1 H' s1 (.str _) st1 hm1.2⟩
  | _ => exact hm1.elim
theorem js_ok {K : PySem.W.Frag} {σ : L2.St} {Z : PX} {Γ : Gm} : ∀ {ms : List ME} {acc : Str} {H0 H : Hp} {O : Sto} {P : Str → Sto → Prop} {Q : Str → Hp → Prop}, EnvR K H0 Γ σ → Sta K H0 O H → LinkX K W H0 σ Z → jsL ms acc Z Γ O P →
    (∀ H1 out O1 H', Same H0 H1 → Sta K H1 O1 H' → P out O1 → Q out H') → tJs (ms.map (r3E K W)) acc σ H Q
  | [], acc, H0, H, O, P, Q, env, st, lx, h, k => k H0 acc O H (Same.refl _) st h
  | m :: ms, acc, H0, H, O, P, Q, env, st, lx, h, k => by
    refine ⟨Γ, O, H0, Z, _, env, st, h, lx, fun H1 v d O1 H' s1 is1 st1 hm1 => ?_⟩
    obtain ⟨y, rfl, hz, hm1⟩ := hm1
    cases is1
    exact ⟨y, rfl, hz, js_ok (env.mono s1) st1 (lx.mono s1) hm1 fun H2 out O2 H'' s2 st2 p => k H2 out O2 H'' (s1.trans s2) st2 p⟩
theorem pe3_joined {v1 v2 : Expr} {rest : List Expr} {ms : List ME} (h : PJ X (v1 :: v2 :: rest) (ms.map (r3E X.K W))) : PE X (.JoinedStr (v1 :: v2 :: rest) pos) (r3E X.K W (mJoin ms)) := by
  refine peW (pe_joined h) fun σ H Q ⟨Γ, O, H0, Z, P, env, st, hm, lx, lv⟩ => ?_
  exact js_ok env st lx hm fun H1 out O1 H' s1 st1 p => lv H1 _ _ O1 H' s1 (.str _) st1 p
end
/-! ### in, not in: a text in a text -/
def occS (i j : Str) : Bool := !(Builtin.Str.occurrences j i 0 j.length 1).isEmpty
theorem occ_sign {c : Nat} {z : Str} : occS ⟨#[c]⟩ z = decide (c ∈ z.cps.toList) := PySem.StrLaws.found_one z c
def fInS (neg : Bool) : F2 := fun a b O Q => match a, b with
  | .str i, .str j => Q (.bl (if neg then !occS i j else occS i j)) O
  | _, _ => False
theorem rep_inS {K : PySem.W.Frag} : Rep2 K (fun x y H Q => ∃ i j, x = .str i ∧ y = .str j ∧ Q (.bl (!(Builtin.Str.occurrences j i 0 j.length 1).isEmpty)) H) (fInS false) := by
  intro H0 O H x y a b P Q st ix iy h lv
  unfold fInS at h
  split at h
  · cases ix; cases iy
    exact ⟨_, _, rfl, rfl, lv H0 _ _ O H (Same.refl _) (.bl _) st h⟩
  · exact h.elim
theorem rep_notInS {K : PySem.W.Frag} : Rep2 K (fun x y H Q => ∃ i j, x = .str i ∧ y = .str j ∧ Q (.bl (!(!(Builtin.Str.occurrences j i 0 j.length 1).isEmpty))) H) (fInS true) := by
  intro H0 O H x y a b P Q st ix iy h lv
  unfold fInS at h
  split at h
  · cases ix; cases iy
    exact ⟨_, _, rfl, rfl, lv H0 _ _ O H (Same.refl _) (.bl _) st h⟩
  · exact h.elim
end L3

namespace L3
open PySem PySem.Spec PyProof.Rows L2

/-! ## str(x) of an own instance -/
structure StrAt (X : Cx) (C : Str) (S : FSpec) : Prop where
  ex : ∃ k f fd ps, FnOk X.prog X.w X.K X.mg X.base (L2.CX X.prog X.w) k f fd ps (spOf X.K 1 S) ∧ Room (k + 2) X.A ∧ Binds X.K fd ps [] ∧ PySem.W.findIn X.K (.ref (He.ga X.K C)) "__str__" = some (some (.ref f)) ∧ PySem.W.isFn X.K (.ref f) = true
def rStrOwn (K : PySem.W.Frag) (C : Str) (S : FSpec) : List V → Hp → VK → Prop := fun xs H Q => ∃ a dx fs, xs = [.ref a] ∧ H a = some (.ins (He.ga K C) dx fs) ∧ spOf K 1 S [.ref a] H (fun z H' => ∃ y, z = .str y ∧ Q z H') E0
theorem call_strOwn {X : Cx} {C : Str} {S : FSpec} (F : StrAt X C S) : CallR X (.type "str") (rStrOwn X.K C S) := by
  obtain ⟨k, f, fd, ps, F, hr, hb, hs, hf⟩ := F.ex
  intro pins s σ H xs us Q I r h
  obtain ⟨a, dx, fs, rfl, ha, q⟩ := h
  obtain ⟨u, rfl, ru⟩ := r.one
  cases (show u = Value.ref a from ru)
  obtain ⟨mA, J, _⟩ := ins_get I.hok ha
  obtain ⟨od, J', _⟩ := J.look
  have hr2 : Room k X.A.in1.in1 := (show Room (k + 1) X.A.in1 from Room.in1 hr).in1
  have hl : ([Value.ref a] : List Value).length = ps.length := by
    have e := F.len _ _ _ _ q
    exact e
  have key : wpAny (model X.prog X.w) X.A.in1.in1 (call (.ref f) [.ref a]) (fun v s' => ∃ y t, v = .str y t ∧ EP X pins σ Q v s') X.xe s := by
    refine wpAny_call (codeAny_mono (F.run X.A.in1.in1 X.stack s H ⟨[.ref a], []⟩ ([Value.ref a] ++ ([] : List Value)) [V.ref a] _ E0 hr2 I.env0.in1.in1 (hb s [Value.ref a] I.kIn (by rw [List.append_nil]; exact hl)) (by rw [List.append_nil]; exact .cons rfl .nil) q) fun r s' hq => ?_)
    cases r with
    | error e => exact passAt0 (X := X) (σ := σ) pins H s e s' I hq
    | ok fl =>
      cases fl with
      | ret u =>
        obtain ⟨v, H', I3, rv, ⟨y, ev, q3⟩⟩ := I.after hq
        subst ev
        obtain ⟨t, rfl⟩ := (show ∃ t, u = Value.str y t from rv)
        exact ⟨y, t, rfl, .str y, H', I3, ⟨t, rfl⟩, q3⟩
      | next => exact False.elim hq
      | brk => exact False.elim hq
      | cont => exact False.elim hq
  refine PySem.W.kso_call hr2.units0 I.kIn J' hs hf (wpAny_mono key (fun w s' z => ?_) fun _ _ x => x)
  obtain ⟨y, t, rfl, z⟩ := z
  exact z
def fStrO (C : Str) (S : FSpec) : FA := fun ds O Q => match ds with
  | [.obj C1 fs] => C1 = C ∧ S [.obj C1 fs] O noX fun d O' => isStrD d ∧ Q d O'
  | ds => fStr1 ds O Q
theorem repA_strO {K : PySem.W.Frag} {C : Str} {S : FSpec} : RepA K (fun xs H Q => rStrOwn K C S xs H Q ∨ ((∃ i, xs = [.int i] ∧ i.natAbs.log2 < 1920 ∧ Q (.str (toString i)) H) ∨ ∃ a, xs = [.str a] ∧ Q (.str a) H)) (fStrO C S) := by
  intro H0 O H vs ds P Q st is h lv
  unfold fStrO at h
  split at h
  · obtain ⟨rfl, h⟩ := h
    obtain ⟨v, rfl, iv⟩ := is.one
    obtain ⟨p, dx, us, rfl, e1⟩ := st.ins iv
    refine .inl ⟨p, dx, us, rfl, e1, rfl, H0, O, _, noX, _, .cons iv .nil, st, h, fun _ _ _ _ _ _ _ _ _ z => z.elim, ?_⟩
    rintro H1 w d O1 H' s1 i1 st1 ⟨hd, p1⟩
    cases i1 with
    | str y => exact ⟨y, rfl, lv H1 _ _ O1 H' s1 (.str y) st1 p1⟩
    | _ => exact hd.elim
  · exact .inr (repA_str H0 O H vs ds P Q st is h lv)

/-! ## static methods -/
/-- C.m is a staticmethod: its record at p, its def at g -/
structure SmC (K : PySem.W.Frag) (C : Addr) (m : Str) (p g : Addr) : Prop where
  rd : ClX.CRead K C (.type "type")
  at_ : PySem.W.findCls K (.ref C) (.type "type") m = some (.get (.builtin "staticmethod.__get__") (.ref p) .none (.ref C))
  rc : ∃ rest, PySem.W.recIn K p "staticmethod" = some (.ref g :: rest)
  kp : PySem.W.keepIn K (.ref g) = true
/-- .. reached through an instance -/
structure SmI (K : PySem.W.Frag) (C : Addr) (m : Str) (p g : Addr) : Prop where
  pg : PySem.W.plainGet K C m = true
  ic : PySem.W.isClsIn K C = true
  at_ : PySem.W.findIn K (.ref C) m = some (some (.ref p))
  ty : PySem.W.typeIn K (.ref p) = some (.type "staticmethod")
  get : PySem.W.specialIn K (.ref p) "__get__" = some (some (.builtin "staticmethod.__get__"))
  tk : PySem.W.takesIn K (.ref p) = some false
  cp : PySem.W.copiedNames.contains m = false
  rc : ∃ rest, PySem.W.recIn K p "staticmethod" = some (.ref g :: rest)
  kp : PySem.W.keepIn K (.ref g) = true
section
variable {X : Cx} {pins : List (Addr × Obj)} {σ : L2.St} {H : Hp} {s : Shared} {a C p g : Addr} {m : Str} {A : Around} {E : Value → Shared → Prop}
theorem getsm_ok {pl : Sem Bool} {Q : Value × List Value → Shared → Prop} (I : Inv X pins σ H s) (k : SmC X.K C m p g) (h : ∀ s', Inv X pins σ H s' → Q (.ref g, []) s') : wpAny (model X.prog X.w) A (getMethod (.ref C) m pl) Q E s := by
  obtain ⟨rest, hp⟩ := k.rc
  refine PySem.W.method_cls I.kIn k.rd.ga (PySem.W.cls_bind I.kIn k.rd.rd k.at_ ?_)
  exact wpAny_call (PySem.W.sm_get (s := { s with toks := s.toks + 1 }) I.kIn hp (PySem.W.handed_on rfl (h _ (I.tok _))))
theorem getsmi_ok {pl : Sem Bool} {dx : Addr} {fs : List (Str × V)} {Q : Value × List Value → Shared → Prop} (I : Inv X pins σ H s) (e : H a = some (.ins C dx fs)) (hl : fs.lookup m = none) (k : SmI X.K C m p g) (h : ∀ s', Inv X pins σ H s' → Q (.ref g, []) s') : wpAny (model X.prog X.w) A (getMethod (.ref a) m pl) Q E s := by
  obtain ⟨mA, J0, r, _, _, _⟩ := ins_get I.hok e
  have hn : mA m = none := RelO.none_of (by rw [← hl]; exact r m)
  obtain ⟨od, J, hlk⟩ := J0.look
  have hl2 : PySem.W.lookIn m od = some none := by rw [hlk, hn]
  obtain ⟨rest, hp⟩ := k.rc
  refine PySem.W.method_usual (r := some (.ref p)) I.kIn J (PySem.W.plainGet_of k.pg).1 (PySem.W.plainGet_of k.pg).2 k.at_ ?_ ?_
  · show ((PySem.W.typeIn X.K (.ref p)).any fun t => t != .type "function" && t != .type "method_descriptor" && t != .type "wrapper_descriptor") = true
    rw [k.ty]
    decide +kernel
  · refine PySem.W.get_bind I.kIn J (PySem.W.plainGet_of k.pg).1 (ClX.find_cm k.ic k.at_ k.get k.tk k.cp hl2) (PySem.W.plainGet_of k.pg).2 ?_
    exact wpAny_call (PySem.W.sm_get (s := { s with toks := s.toks + 1 }) I.kIn hp (PySem.W.handed_on rfl (h _ (I.tok _))))
end
structure StatAt (X : Cx) (C m : Str) (n : Nat) (S : FSpec) : Prop where
  ex : ∃ k p g fd ps, SmC X.K (He.ga X.K C) m p g ∧ SmI X.K (He.ga X.K C) m p g ∧ FnOk X.prog X.w X.K X.mg X.base (L2.CX X.prog X.w) k g fd ps (spOf X.K n S) ∧ Room k X.A ∧ Binds X.K fd ps [] ∧ X.mg C = some (.ref (He.ga X.K C))
def mStatI (C m : Str) (S : FSpec) (n : Nat) (mo : ME) (ms : MA) : ME := fun Z Γ O Q => mo Z Γ O fun o O1 => insD C m O1 o ∧ ms Z Γ O1 fun ds O2 => ds.length = n ∧ S ds O2 Z Q
section
variable {X : Cx} {W : WX} {pos apos p1 : Pos}
theorem pe3_statI {pl : Sem Bool} {C m : Str} {o e : Expr} {es : List Expr} {n : Nat} {S : FSpec} {mo : ME} {ms : MA} (F : StatAt X C m n S) (tk : Takes X W) (ho : PE X o (r3E X.K W mo)) (ha : PA X (e :: es) (r3A X.K W ms))
    (he : starEach (e :: es) X.env = (false, eval e X.env) :: starEach es X.env) (hpl : (backTo pos (starEach es X.env)).any (·.1) = false)
    (ht : eval (.Call (.Attribute o m apos) (e :: es) [] pos) X.env = (do
      let ov ← eval o X.env
      standAt apos.atName
      let (f, first) ← holding [ov] (getMethod ov m pl)
      callWith pos f first (backTo pos (starEach (e :: es) X.env)) (backToKw pos (keywordEach [] X.env)))) : PE X (.Call (.Attribute o m apos) (e :: es) [] pos) (r3E X.K W (mStatI C m S n mo ms)) := by
  obtain ⟨k, p, g, fd, ps, _, hm, F, hr, hb, _⟩ := F.ex
  refine ⟨fun pins s σ H Q I ⟨Γ, O, H0, Z, P, env, st, hmm, lx, lv⟩ => ?_⟩
  have hA : r3E X.K W mo σ H fun x H1 => ∃ a dx fs, x = .ref a ∧ H1 a = some (.ins (He.ga X.K C) dx fs) ∧ fs.lookup m = none ∧ r3A X.K W ms σ H1 fun vs H2 => spOf X.K n S vs H2 Q (WE W σ) := by
    refine ⟨Γ, O, H0, Z, _, env, st, hmm, lx, fun H1 v d O1 H' s1 is1 st1 hm1 => ?_⟩
    obtain ⟨a, dx, fs, rfl, h1, h2⟩ := insD_ok st1 is1 hm1.1
    refine ⟨a, dx, fs, rfl, h1, h2, Γ, O1, H1, Z, _, env.mono s1, st1, hm1.2, lx.mono s1, fun H2 vs ds O2 H3 s2 is2 st2 hm2 => ?_⟩
    have s12 := s1.trans s2
    refine ⟨by simp [is2.1, hm2.1], H2, O2, ds, Z, P, is2, st2, hm2.2, ?_, lv.mono s12⟩
    exact fun H4 C fs O3 oe H5 s3 st3 xo z => lx H4 C fs O3 oe H5 (s12.trans s3) st3 xo z
  refine PySem.W.methodCall_KW (pl := pl) (thn (ho.run pins s σ H _ I hA) fun u s1 ⟨x, H1, I1, rx, a, dx, fs, ex, ea, l, q⟩ => ?_) ht
  subst ex
  obtain rfl : u = Value.ref a := rx
  refine getsmi_ok I1 ea l hm fun s2 I2 => ?_
  refine PySem.W.callWith_K (first := []) (h₀ := X.base) I.ok.mod.kin hm.kp (thn (ha.run pos pins s2 σ H1 _ I2 q) fun us s3 ⟨vs, H2, I3, r, q2⟩ => ⟨I3.kIn, ?_⟩) he hpl
  exact run_fnSD (us := us) (vs := vs) (E := fun σ => WE W σ) F hr hb (dvs := []) .nil (passAt tk σ) I3 r (by rw [List.append_nil]; exact q2)
theorem pe3_statC {pl : Sem Bool} {C m : Str} {e : Expr} {es : List Expr} {n : Nat} {S : FSpec} {ms : MA} (F : StatAt X C m n S) (tk : Takes X W) (hg : Gl X C) (hdb : (C == ("__debug__" : Str)) = false) (ha : PA X (e :: es) (r3A X.K W ms))
    (he : starEach (e :: es) X.env = (false, eval e X.env) :: starEach es X.env) (hpl : (backTo pos (starEach es X.env)).any (·.1) = false)
    (ht : eval (.Call (.Attribute (.Name C p1) m apos) (e :: es) [] pos) X.env = (do
      let ov ← eval (.Name C p1) X.env
      standAt apos.atName
      let (f, first) ← holding [ov] (getMethod ov m pl)
      callWith pos f first (backTo pos (starEach (e :: es) X.env)) (backToKw pos (keywordEach [] X.env)))) : PE X (.Call (.Attribute (.Name C p1) m apos) (e :: es) [] pos) (r3E X.K W (mCall S n ms)) := by
  obtain ⟨k, p, g, fd, ps, hm, _, F, hr, hb, hmg⟩ := F.ex
  refine ⟨fun pins s σ H Q I ⟨Γ, O, H0, Z, P, env, st, hmm, lx, lv⟩ => ?_⟩
  have hA : r3A X.K W ms σ H fun vs H2 => spOf X.K n S vs H2 Q (WE W σ) := by
    refine ⟨Γ, O, H0, Z, _, env, st, hmm, lx, fun H2 vs ds O2 H3 s2 is2 st2 hm2 => ?_⟩
    refine ⟨by simp [is2.1, hm2.1], H2, O2, ds, Z, P, is2, st2, hm2.2, ?_, lv.mono s2⟩
    exact fun H4 C fs O3 oe H5 s3 st3 xo z => lx H4 C fs O3 oe H5 (s2.trans s3) st3 xo z
  have hn : PE X (.Name C p1) (tC (.ref (He.ga X.K C))) := pe_glob (v := .ref (He.ga X.K C)) hg hmg rfl hdb
  refine PySem.W.methodCall_KW (pl := pl) (thn (hn.run pins s σ H (fun x H1 => x = .ref (He.ga X.K C) ∧ H1 = H) I ⟨rfl, rfl⟩) fun u s1 ⟨x, H1, I1, rx, ex, eh⟩ => ?_) ht
  subst ex eh
  obtain rfl : u = Value.ref (He.ga X.K C) := rx
  refine getsm_ok I1 hm fun s2 I2 => ?_
  refine PySem.W.callWith_K (first := []) (h₀ := X.base) I.ok.mod.kin hm.kp (thn (ha.run pos pins s2 σ _ _ I2 hA) fun us s3 ⟨vs, H2, I3, r, q2⟩ => ⟨I3.kIn, ?_⟩) he hpl
  exact run_fnSD (us := us) (vs := vs) (E := fun σ => WE W σ) F hr hb (dvs := []) .nil (passAt tk σ) I3 r (by rw [List.append_nil]; exact q2)
end
end L3

namespace L3
open PySem PySem.Spec PyProof.Rows L2

/-! ## in, of any container -/
def rInAny (K : PySem.W.Frag) (neg : Bool) : R2 := fun x y H Q => (∃ i j, x = .str i ∧ y = .str j ∧ Q (.bl (if neg then !occS i j else occS i j)) H) ∨
  (∃ d ds, Dp K H x d ∧ (Dp K H y (.list ds) ∨ Dp K H y (.tuple ds)) ∧ SeqAt.shaped d = true ∧ SeqAt.shaped (.list ds) = true ∧ Q (.bl (if neg then !(ds.any fun z => PyData.eqv z d) else ds.any fun z => PyData.eqv z d)) H) ∨
  ∃ a o, y = .ref a ∧ DGet H a x o ∧ Q (.bl (if neg then !o.isSome else o.isSome)) H
theorem op_inAny {X : Cx} (hu : X.A.units + 65 < cLine) : OpR X (compareOp .In) (rInAny X.K false) := by
  intro pins s σ H x y v u Q I rx ry h
  rcases h with ⟨i, j, rfl, rfl, q⟩ | ⟨d, ds, hd, he, sd, se, q⟩ | ⟨a, o, rfl, g, q⟩
  · exact op_in_str pins s σ H _ _ v u Q I rx ry ⟨i, j, rfl, rfl, q⟩
  · obtain ⟨as, r1⟩ := Dp.reads I d x v hd rx
    rcases he with he | he
    · obtain ⟨bs, r2⟩ := Dp.reads I (.list ds) y u he ry
      exact SeqAt.in_list_reads r2 r1 (SeqAt.canLay_of_shaped se) (SeqAt.canLay_of_shaped sd) (room_in_shaped sd hu) ⟨.bl _, H, I, rfl, q⟩
    · obtain ⟨bs, r2⟩ := Dp.reads I (.tuple ds) y u he ry
      exact SeqAt.in_tuple_reads r2 r1 (SeqAt.canLay_of_shaped se) (SeqAt.canLay_of_shaped sd) (room_in_shaped sd hu) ⟨.bl _, H, I, rfl, q⟩
  · obtain rfl : u = Value.ref a := ry
    exact d_in (by omega) I g rx fun s3 I3 => ⟨.bl _, H, I3, rfl, q⟩
theorem op_notInAny {X : Cx} (hu : X.A.units + 65 < cLine) : OpR X (compareOp .NotIn) (rInAny X.K true) := by
  intro pins s σ H x y v u Q I rx ry h
  rcases h with ⟨i, j, rfl, rfl, q⟩ | ⟨d, ds, hd, he, sd, se, q⟩ | ⟨a, o, rfl, g, q⟩
  · exact op_notin_str pins s σ H _ _ v u Q I rx ry ⟨i, j, rfl, rfl, q⟩
  · obtain ⟨as, r1⟩ := Dp.reads I d x v hd rx
    rcases he with he | he
    · obtain ⟨bs, r2⟩ := Dp.reads I (.list ds) y u he ry
      exact SeqAt.notIn_list_reads r2 r1 (SeqAt.canLay_of_shaped se) (SeqAt.canLay_of_shaped sd) (room_in_shaped sd hu) ⟨.bl _, H, I, rfl, q⟩
    · obtain ⟨bs, r2⟩ := Dp.reads I (.tuple ds) y u he ry
      exact SeqAt.notIn_tuple_reads r2 r1 (SeqAt.canLay_of_shaped se) (SeqAt.canLay_of_shaped sd) (room_in_shaped sd hu) ⟨.bl _, H, I, rfl, q⟩
  · obtain rfl : u = Value.ref a := ry
    exact d_notIn (by omega) I g rx fun s3 I3 => ⟨.bl _, H, I3, rfl, q⟩
def fIn0 (neg : Bool) : F2 := fun a b O Q => match dget O b a with
  | some r => Q (.bl (if neg then !r.isSome else r.isSome)) O
  | none => ∃ x xs, Py O a x ∧ (Py O b (.list xs) ∨ Py O b (.tuple xs)) ∧ SeqAt.shaped x = true ∧ SeqAt.shaped (.list xs) = true ∧ Q (.bl (if neg then !(xs.any fun z => PyData.eqv z x) else xs.any fun z => PyData.eqv z x)) O
def fIn (neg : Bool) : F2 := fun a b O Q => match a, b with
  | .str i, .str j => Q (.bl (if neg then !occS i j else occS i j)) O
  | a, b => fIn0 neg a b O Q
theorem rep_in {K : PySem.W.Frag} {neg : Bool} : Rep2 K (rInAny K neg) (fIn neg) := by
  intro H0 O H x y a b P Q st ix iy h lv
  unfold fIn at h
  split at h
  · cases ix; cases iy
    exact .inl ⟨_, _, rfl, rfl, lv H0 _ _ O H (Same.refl _) (.bl _) st h⟩
  · unfold fIn0 at h
    split at h
    · rename_i r e
      obtain ⟨p, rv, rfl, _, g, k1, k2⟩ := dget_ok st iy ix e
      refine .inr (.inr ⟨p, rv, rfl, g, ?_⟩)
      have e2 : rv.isSome = r.isSome := by
        cases r with
        | none => rw [k2 rfl]; rfl
        | some d => obtain ⟨w, rfl, _⟩ := k1 d rfl; rfl
      rw [e2]
      exact lv H0 _ _ O H (Same.refl _) (.bl _) st h
    · obtain ⟨c, cs, h1, h2, h3, h4, h5⟩ := h
      refine .inr (.inl ⟨c, cs, h1.dp st ix, ?_, h3, h4, lv H0 _ _ O H (Same.refl _) (.bl _) st h5⟩)
      rcases h2 with h2 | h2
      · exact .inl (h2.dp st iy)
      · exact .inr (h2.dp st iy)

/-! ## d.get -/
def getQ (O : Sto) (o k x : D) (Q : PV) : Prop := match dget O o k with
  | some r => Q (r.getD x) O
  | none => False
def mGet2 (mo mk mx : ME) : ME := fun Z Γ O Q => mo Z Γ O fun o O1 => (dicOf O1 o).isSome = true ∧ mk Z Γ O1 fun k O2 => mx Z Γ O2 fun x O3 => getQ O3 o k x Q
def mGet1 (mo mk : ME) : ME := fun Z Γ O Q => mo Z Γ O fun o O1 => (dicOf O1 o).isSome = true ∧ mk Z Γ O1 fun k O2 => getQ O2 o k .non Q
theorem dic_isD {K : PySem.W.Frag} {H0 H : Hp} {O : Sto} {v : V} {o : D} (st : Sta K H0 O H) (is : Is K H0 v o) (h : (dicOf O o).isSome = true) : ∃ a, v = .ref a ∧ IsD H a := by
  cases e : dicOf O o with
  | none => rw [e] at h; cases h
  | some z =>
    cases z with
    | inl kvs =>
      obtain ⟨a, ws, rfl, r, _⟩ := dicOf_k st is e
      exact ⟨a, rfl, .inl ⟨_, r⟩⟩
    | inr kvs =>
      obtain ⟨a, ws, rfl, r, _⟩ := dicOf_t st is e
      exact ⟨a, rfl, .inr ⟨_, r⟩⟩
theorem getD_ok {K : PySem.W.Frag} {H0 : Hp} {r : Option D} {rv : Option V} {x : V} {d : D} (g : GetOk K H0 r rv) (is : Is K H0 x d) : Is K H0 (rv.getD x) (r.getD d) := by
  cases r with
  | none => rw [g.2 rfl]; exact is
  | some e => obtain ⟨w, rfl, i⟩ := g.1 e rfl; exact i
section
variable {X : Cx} {W : WX} {pos apos cpos : Pos}
theorem pe3_get2 {o e f : Expr} {mo mk mx : ME} (hu : X.A.units + 1 < cLine) (ho : PE X o (r3E X.K W mo)) (he : PE X e (r3E X.K W mk)) (hf : PE X f (r3E X.K W mx)) (m : M2 X o "get" apos e f cpos) :
    PE X (.Call (.Attribute o "get" apos) [e, f] [] cpos) (r3E X.K W (mGet2 mo mk mx)) := by
  refine peW (pe_dget2 hu ho he hf m) fun σ H Q ⟨Γ, O, H0, Z, P, env, st, hm, lx, lv⟩ => ?_
  refine ⟨Γ, O, H0, Z, _, env, st, hm, lx, fun H1 v d O1 H' s1 is1 st1 hm1 => ?_⟩
  obtain ⟨a, rfl, hd⟩ := dic_isD st1 is1 hm1.1
  refine ⟨a, rfl, hd, Γ, O1, H1, Z, _, env.mono s1, st1, hm1.2, lx.mono s1, fun H2 w k O2 H2' s2 is2 st2 hm2 => ?_⟩
  refine ⟨Γ, O2, H2, Z, _, env.mono (s1.trans s2), st2, hm2, lx.mono (s1.trans s2), fun H3 y x O3 H3' s3 is3 st3 hm3 => ?_⟩
  have s123 := (s1.trans s2).trans s3
  have hm3 : getQ O3 d k x P := hm3
  unfold getQ at hm3
  split at hm3
  · rename_i r er
    obtain ⟨a', rv, ea, _, g, gk⟩ := dget_ok st3 (is1.mono (s2.trans s3)) (is2.mono s3) er
    cases ea
    exact ⟨rv, g, lv H3 _ _ O3 H3' s123 (getD_ok gk is3) st3 hm3⟩
  · exact hm3.elim
theorem pe3_get1 {o e : Expr} {mo mk : ME} (hu : X.A.units + 1 < cLine) (ho : PE X o (r3E X.K W mo)) (he : PE X e (r3E X.K W mk)) (m : M1 X o "get" apos e cpos) :
    PE X (.Call (.Attribute o "get" apos) [e] [] cpos) (r3E X.K W (mGet1 mo mk)) := by
  refine peW (pe_dget1 hu ho he m) fun σ H Q ⟨Γ, O, H0, Z, P, env, st, hm, lx, lv⟩ => ?_
  refine ⟨Γ, O, H0, Z, _, env, st, hm, lx, fun H1 v d O1 H' s1 is1 st1 hm1 => ?_⟩
  obtain ⟨a, rfl, hd⟩ := dic_isD st1 is1 hm1.1
  refine ⟨a, rfl, hd, Γ, O1, H1, Z, _, env.mono s1, st1, hm1.2, lx.mono s1, fun H2 w k O2 H2' s2 is2 st2 hm2 => ?_⟩
  have hm2 : getQ O2 d k .non P := hm2
  unfold getQ at hm2
  split at hm2
  · rename_i r er
    obtain ⟨a', rv, ea, _, g, gk⟩ := dget_ok st2 (is1.mono s2) is2 er
    cases ea
    exact ⟨rv, g, lv H2 _ _ O2 H2' (s1.trans s2) (getD_ok gk .non) st2 hm2⟩
  · exact hm2.elim

/-! ## {} -/
def mDict0 : ME := fun _ _ O Q => (∀ p, O p = none → Q (.cell p) (put O p (.dK []))) ∨ ∀ p, O p = none → Q (.cell p) (put O p (.dT []))
theorem pe3_dict0 : PE X (.Dict [] [] pos) (r3E X.K W mDict0) := by
  refine ⟨fun pins s σ H Q I ⟨Γ, O, H0, Z, P, env, st, hm, lx, lv⟩ => ?_⟩
  rcases hm with hm | hm
  · exact pe_dnewK.run pins s σ H Q I fun p hp => lv H0 _ _ _ _ (Same.refl _) (.cell p) (st.newC (u := .dK []) hp ⟨[], upd_same, rfl, .nil⟩) (hm p (st.free hp).1)
  · exact pe_dnewT.run pins s σ H Q I fun p hp => lv H0 _ _ _ _ (Same.refl _) (.cell p) (st.newC (u := .dT []) hp ⟨[], upd_same, rfl, .nil⟩) (hm p (st.free hp).1)

/-! ## a dict given out for good -/
/-- what may change no longer -/
inductive FzD (O : Sto) : D → D → Sto → Prop where
  | dK {p : Addr} {kvs : List (Key × D)} (h : O p = some (.dK kvs)) : FzD O (.cell p) (.dK kvs) (del O p)
  | dT {p : Addr} {kvs : List (List Key × D)} (h : O p = some (.dT kvs)) : FzD O (.cell p) (.dT kvs) (del O p)
theorem Sta.lock {K : PySem.W.Frag} {H0 H : Hp} {O : Sto} {p : Addr} {u : MO} {o : HO} (st : Sta K H0 O H) (h : O p = some u) : Same H0 (upd H0 p o) ∧ Sta K (upd H0 p o) (del O p) (upd H p o) := by
  obtain ⟨h0, _⟩ := st.cell p u h
  refine ⟨same_upd h0, upd_mono st.same, fun b x q => ?_⟩
  have hb : b ≠ p := by rintro rfl; rw [del_same] at q; cases q
  rw [del_ne hb] at q
  obtain ⟨a, r⟩ := st.cell b x q
  exact ⟨by rw [upd_ne hb]; exact a, (r.mono (same_upd h0)).at (upd_ne hb)⟩
def mRetL (m : ME) : MS := fun P Γ O => m (P.x Γ) Γ O fun d O1 => ∃ e O2, FzD O1 d e O2 ∧ P.rt e O2
theorem peLock {e : Expr} {t : TE} (h : PE X e t) : PE X e (fun σ H Q => t σ H fun v H1 => ∃ d u, H1 d = some u ∧ Mut (some u) ∧ ∀ od, Q v (upd H1 d (.frz od u))) := by
  refine ⟨fun pins s σ H Q I q => thn (h.run pins s σ H _ I q) fun v s1 ⟨x, H1, I1, r1, d, u, hd, mu, q1⟩ => ?_⟩
  obtain ⟨od, I2⟩ := I1.lock hd mu
  exact ⟨x, _, I2, r1, q1 od⟩
theorem ps3_retL {e : Expr} {m : ME} (he : PE X e (r3E X.K W m)) : PS X (.Return (some e) pos) (r3S X.K W (mRetL m)) := by
  refine psW (ps_ret (peLock he)) fun E σ H ⟨Γ, O, H0, P, env, st, hm, l⟩ => ?_
  refine ⟨Γ, O, H0, _, _, env, st, hm, l.x env, fun H1 v d O1 H' s1 is1 st1 hm1 => ?_⟩
  obtain ⟨e, O2, f, q⟩ := hm1
  cases f with
  | @dK p kvs h =>
    cases is1
    obtain ⟨h0, ws, e2, k, r⟩ := st1.cell p _ h
    refine ⟨p, _, e2, trivial, fun od => ?_⟩
    obtain ⟨s2, st2⟩ := st1.lock (o := .frz od (.dK ws)) h
    exact l.rt _ _ _ _ _ (s1.trans s2) (.dK (upd_same) k (r.mono s2).2) st2 q
  | @dT p kvs h =>
    cases is1
    obtain ⟨h0, ws, e2, k, r⟩ := st1.cell p _ h
    refine ⟨p, _, e2, trivial, fun od => ?_⟩
    obtain ⟨s2, st2⟩ := st1.lock (o := .frz od (.dT ws)) h
    exact l.rt _ _ _ _ _ (s1.trans s2) (.dT (upd_same) k (r.mono s2).2) st2 q

/-! ## properties -/
structure PropAt (X : Cx) (C f : Str) (S : FSpec) : Prop where
  ex : ∃ k p g fd ps, Cls X.K (He.ga X.K C) ∧ PropOf X.K (He.ga X.K C) f p g ∧ FnOk X.prog X.w X.K X.mg X.base (L2.CX X.prog X.w) k g fd ps (spOf X.K 1 S) ∧ Room (k + 1) X.A ∧ Binds X.K fd ps []
def isC (C : Str) (O : Sto) : D → Prop
  | .obj C1 _ => C1 = C
  | .cell p => ∃ fs, O p = some (.ins C fs)
  | _ => False
def mProp (C : Str) (S : FSpec) (mo : ME) : ME := fun Z Γ O Q => mo Z Γ O fun o O1 => isC C O1 o ∧ S [o] O1 noX Q
theorem isC_ok {K : PySem.W.Frag} {H0 H : Hp} {O : Sto} {v : V} {d : D} {C : Str} (st : Sta K H0 O H) (is : Is K H0 v d) (h : isC C O d) : ∃ a dx fs, v = .ref a ∧ H a = some (.ins (He.ga K C) dx fs) := by
  cases is with
  | obj r l c => cases h; exact ⟨_, _, _, rfl, st.same _ _ r⟩
  | cell p =>
    obtain ⟨fs, e⟩ := h
    obtain ⟨_, dx, vs, e3, l, q⟩ := st.cell p _ e
    exact ⟨p, dx, vs, rfl, e3⟩
  | _ => exact h.elim
theorem pe3_prop {e : Expr} {C f : Str} {S : FSpec} {m : ME} (F : PropAt X C f S) (he : PE X e (r3E X.K W m)) (hab : attributeBase e f X.env (eval e X.env) = eval e X.env) : PE X (.Attribute e f pos) (r3E X.K W (mProp C S m)) := by
  obtain ⟨k, p, g, fd, ps, c, hp, F, hr, hb⟩ := F.ex
  refine peW (pe_prop (E := E0) he c hp F hr hb (dvs := []) .nil (fun pins σ H s e s1 I h => passL pins σ H s e s1 I h) hab) fun σ H Q ⟨Γ, O, H0, Z, P, env, st, hm, lx, lv⟩ => ?_
  refine ⟨Γ, O, H0, Z, _, env, st, hm, lx, fun H1 v d O1 H' s1 is1 st1 hm1 => ?_⟩
  obtain ⟨a, dx, fs, rfl, e1⟩ := isC_ok st1 is1 hm1.1
  exact ⟨a, dx, fs, rfl, e1, rfl, H1, O1, [d], noX, P, .cons is1 .nil, st1, hm1.2, fun _ _ _ _ _ _ _ _ _ z => z.elim, lv.mono s1⟩
end

/-! ## list(x); min, max, sum of ints -/
def fList1 : FA := fun ds O Q => match ds with
  | [d] => match seqOf O d with
    | some xs => ∀ p, O p = none → orFz Q (.cell p) (put O p (.lst xs))
    | none => False
  | _ => False
theorem repA_list {K : PySem.W.Frag} : RepA K (fun xs H Q => ∃ p ys, xs = [.ref p] ∧ (SqL K H p ys ∨ SqT K H p ys) ∧ ∀ l, H l = none → Q (.ref l) (upd H l (.lst ys))) fList1 := by
  intro H0 O H vs ds P Q st is h lv
  unfold fList1 at h
  split at h
  · rename_i d
    obtain ⟨v, rfl, a⟩ := is.one
    cases e : seqOf O d with
    | none => rw [e] at h; exact h.elim
    | some xs =>
      rw [e] at h
      obtain ⟨p, us, rfl, r, i1⟩ := seqOf_ok st a e
      exact ⟨p, us, rfl, r, fun l hl => lv.fz H0 _ _ _ _ (Same.refl _) (.cell l) (st.newC (u := .lst xs) hl ⟨us, upd_same, i1⟩) (h l (st.free hl).1)⟩
  · exact h.elim
/-- ints, item by item -/
def intsOf : List D → Option (List Int)
  | [] => some []
  | .int i :: r => (intsOf r).map (i :: ·)
  | _ => none
theorem intsOf_ok {K : PySem.W.Frag} {H : Hp} : ∀ {vs : List V} {ds : List D} {ns : List Int}, Iss K H vs ds → intsOf ds = some ns → vs = ns.map V.int
  | vs, [], ns, r, h => by cases h; exact r.unnil
  | vs, d :: ds, ns, r, h => by
    obtain ⟨v, us, rfl, r1, r2⟩ := r.uncons
    cases d with
    | int i =>
      have h2 : (intsOf ds).map (i :: ·) = some ns := h
      cases e : intsOf ds with
      | none => rw [e] at h2; cases h2
      | some ms =>
        rw [e] at h2
        cases h2
        rw [r1.int_, intsOf_ok r2 e]
        rfl
    | _ => cases h
section
open PySem
variable {prog : Program} {w : World} {A : Around} {E : Value → Shared → Prop} {s : Shared} {l : Addr} {xs : Array (Int × Tok)}
theorem iter_intTup {Q : Value → Shared → Prop} (hl : s.heap.IsTuple l (intItems xs))
    (h : ∀ s₂ : Shared, s₂ = { s with heap := s.heap.push { cls := .type "tuple_iterator", data := .fields #[.ref l, .int 0 0] } } →
      (s₂.heap.IsTupleIter s.heap.objs.size l 0 ∧ s₂.heap.IsTuple l (intItems xs)) → (∀ b ∈ [s.heap.objs.size, l], b < s₂.heap.objs.size) → l ≠ s.heap.objs.size → Q (.ref s.heap.objs.size) s₂) :
    wpAny (model prog w) A (pyIter (.ref l)) Q E s := by
  have hlt : l < s.heap.objs.size := by obtain ⟨_, e, _⟩ := hl; exact Heap.lt_size e
  refine wpAny_pyIter_tuple hl (h _ rfl ⟨⟨_, Heap.get?_push_size _ rfl, rfl, rfl⟩, hl.push _⟩ (fun b hb => ?_) (Nat.ne_of_lt hlt))
  show b < (s.heap.push _).objs.size
  rw [Heap.size_push]
  rcases List.mem_cons.mp hb with rfl | hb
  · exact Nat.lt_succ_self _
  · rcases List.mem_cons.mp hb with rfl | hb
    · exact Nat.lt_succ_of_lt hlt
    · cases hb
theorem old_keptT {h' : Heap} (hk : ∀ b o, b ∉ [s.heap.objs.size] → (s.heap.push { cls := .type "tuple_iterator", data := .fields #[.ref l, .int 0 0] }).get? b = some o → h'.get? b = some o) :
    ∀ b o, s.heap.get? b = some o → h'.get? b = some o := fun b o e => by
  refine hk b o (fun hm => ?_) (Heap.get?_push_of_some _ e)
  rcases List.mem_cons.mp hm with e1 | hm
  · exact absurd (e1 ▸ Heap.lt_size e) (Nat.lt_irrefl _)
  · cases hm
theorem max_intTup {Q : Value → Shared → Prop} (hh : A.handled = none) (hl : s.heap.IsTuple l (intItems xs)) (hne : 0 < xs.size)
    (h : ∀ v h' tk, (intItems xs)[argBest (fun i j => decide (numAt xs i > numAt xs j)) (xs.size - 1)]? = some v → (∀ b o, s.heap.get? b = some o → h'.get? b = some o) → Q v { s with heap := h', toks := tk }) :
    wpAny (model prog w) A (call (.builtin "max") [.ref l]) Q E s := by
  refine call_max_walk (iter_intTup hl fun s₂ e st hfp hlI => ?_)
  subst e
  refine ⟨_, _, _, _, _, _, _, rfl, Walks.tuple (A := A.in1) hh _ l hlI (intItems xs), st, hfp, by simpa [intItems] using hne, CmpOf.ints_gt (numAt xs) (fun _ _ => intItems_at), fun v h' tk hP hk => ?_⟩
  exact h v h' tk (by simpa [intItems] using hP) (old_keptT hk)
theorem min_intTup {Q : Value → Shared → Prop} (hh : A.handled = none) (hl : s.heap.IsTuple l (intItems xs)) (hne : 0 < xs.size)
    (h : ∀ v h' tk, (intItems xs)[argBest (fun i j => decide (numAt xs i < numAt xs j)) (xs.size - 1)]? = some v → (∀ b o, s.heap.get? b = some o → h'.get? b = some o) → Q v { s with heap := h', toks := tk }) :
    wpAny (model prog w) A (call (.builtin "min") [.ref l]) Q E s := by
  refine call_min_walk (iter_intTup hl fun s₂ e st hfp hlI => ?_)
  subst e
  refine ⟨_, _, _, _, _, _, _, rfl, Walks.tuple (A := A.in1) hh _ l hlI (intItems xs), st, hfp, by simpa [intItems] using hne, CmpOf.ints_lt (numAt xs) (fun _ _ => intItems_at), fun v h' tk hP hk => ?_⟩
  exact h v h' tk (by simpa [intItems] using hP) (old_keptT hk)
theorem max_rawT {its : List Value} {ns : List Int} {Q : Value → Shared → Prop} (hh : A.handled = none) (hl : s.heap.IsTuple l its.toArray) (hi : IntsAre its ns) (hne : 0 < ns.length)
    (h : ∀ h' tk M t', (∀ b o, s.heap.get? b = some o → h'.get? b = some o) → M ∈ ns → (∀ a, a ∈ ns → a ≤ M) → Q (.int M t') { s with heap := h', toks := tk }) : wpAny (model prog w) A (call (.builtin "max") [.ref l]) Q E s := by
  obtain ⟨xs, e⟩ := hi.allInts.items
  have hn : numsOf (intItems xs).toList = ns := by rw [← e]; exact hi.numsOf
  rw [nums_intItems] at hn
  subst hn
  rw [e] at hl
  have hsz : 0 < xs.size := by simpa using hne
  refine max_intTup hh hl hsz fun v h' tk hv hk => ?_
  obtain ⟨t, rfl⟩ := intItems_at hv
  obtain ⟨h1, h2⟩ := argBest_gt (numAt xs) (xs.size - 1)
  refine h h' tk _ t hk ?_ fun a ha => ?_
  · rw [numAt_eq]; exact PySem.getD_mem (by rw [List.length_map, Array.length_toList]; omega)
  · obtain ⟨j, hj, rfl⟩ := mem_getD ha
    rw [List.length_map, Array.length_toList] at hj
    rw [← numAt_eq]; exact h2 j (by omega)
theorem min_rawT {its : List Value} {ns : List Int} {Q : Value → Shared → Prop} (hh : A.handled = none) (hl : s.heap.IsTuple l its.toArray) (hi : IntsAre its ns) (hne : 0 < ns.length)
    (h : ∀ h' tk M t', (∀ b o, s.heap.get? b = some o → h'.get? b = some o) → M ∈ ns → (∀ a, a ∈ ns → M ≤ a) → Q (.int M t') { s with heap := h', toks := tk }) : wpAny (model prog w) A (call (.builtin "min") [.ref l]) Q E s := by
  obtain ⟨xs, e⟩ := hi.allInts.items
  have hn : numsOf (intItems xs).toList = ns := by rw [← e]; exact hi.numsOf
  rw [nums_intItems] at hn
  subst hn
  rw [e] at hl
  have hsz : 0 < xs.size := by simpa using hne
  refine min_intTup hh hl hsz fun v h' tk hv hk => ?_
  obtain ⟨t, rfl⟩ := intItems_at hv
  obtain ⟨h1, h2⟩ := argBest_lt (numAt xs) (xs.size - 1)
  refine h h' tk _ t hk ?_ fun a ha => ?_
  · rw [numAt_eq]; exact PySem.getD_mem (by rw [List.length_map, Array.length_toList]; omega)
  · obtain ⟨j, hj, rfl⟩ := mem_getD ha
    rw [List.length_map, Array.length_toList] at hj
    rw [← numAt_eq]; exact h2 j (by omega)
end
def rMaxT (K : PySem.W.Frag) : List V → Hp → VK → Prop := fun vs H Q => ∃ (a : Addr) (ns : List Int), vs = [V.ref a] ∧ SqT K H a (ns.map V.int) ∧ 0 < ns.length ∧ ∀ m, m ∈ ns → (∀ y, y ∈ ns → y ≤ m) → Q (.int m) H
def rMinT (K : PySem.W.Frag) : List V → Hp → VK → Prop := fun vs H Q => ∃ (a : Addr) (ns : List Int), vs = [V.ref a] ∧ SqT K H a (ns.map V.int) ∧ 0 < ns.length ∧ ∀ m, m ∈ ns → (∀ y, y ∈ ns → m ≤ y) → Q (.int m) H
section
variable {X : Cx}
theorem cr_maxT (hc : X.calm = true) : CallR X (.builtin "max") (rMaxT X.K) := by
  intro pins s σ H vs us Q I r h
  obtain ⟨a, ns, rfl, hs, hne, q⟩ := h
  obtain ⟨its, rv, hl, _⟩ := I.tuple hs
  rw [Vals.ref1 r]
  exact max_rawT (I.ok.hd hc) hl rv.ints hne fun h' tk m t' hk h1 h2 => ⟨.int _, H, I.kept hk, ⟨_, rfl⟩, q m h1 h2⟩
theorem cr_minT (hc : X.calm = true) : CallR X (.builtin "min") (rMinT X.K) := by
  intro pins s σ H vs us Q I r h
  obtain ⟨a, ns, rfl, hs, hne, q⟩ := h
  obtain ⟨its, rv, hl, _⟩ := I.tuple hs
  rw [Vals.ref1 r]
  exact min_rawT (I.ok.hd hc) hl rv.ints hne fun h' tk m t' hk h1 h2 => ⟨.int _, H, I.kept hk, ⟨_, rfl⟩, q m h1 h2⟩
end
def seqInts (O : Sto) (d : D) (Q : List Int → Prop) : Prop := match seqOf O d with
  | some xs => match intsOf xs with
    | some ns => Q ns
    | none => False
  | none => False
theorem seqInts_ok {K : PySem.W.Frag} {H0 H : Hp} {O : Sto} {v : V} {d : D} {Q : List Int → Prop} (st : Sta K H0 O H) (is : Is K H0 v d) (h : seqInts O d Q) : ∃ a ns, v = .ref a ∧ (SqL K H a (ns.map V.int) ∨ SqT K H a (ns.map V.int)) ∧ Q ns := by
  unfold seqInts at h
  split at h
  · rename_i xs e
    split at h
    · rename_i ns e2
      obtain ⟨a, vs, rfl, r, ii⟩ := seqOf_ok st is e
      have := intsOf_ok ii e2
      subst this
      exact ⟨a, ns, rfl, r, h⟩
    · exact h.elim
  · exact h.elim
def fMax1 : FA := fun ds O Q => match ds with
  | [d] => seqInts O d fun ns => 0 < ns.length ∧ ∀ m, m ∈ ns → (∀ y, y ∈ ns → y ≤ m) → Q (.int m) O
  | ds => fMax2 ds O Q
def fMin1 : FA := fun ds O Q => match ds with
  | [d] => seqInts O d fun ns => 0 < ns.length ∧ ∀ m, m ∈ ns → (∀ y, y ∈ ns → m ≤ y) → Q (.int m) O
  | ds => fMin2 ds O Q
theorem repA_max {K : PySem.W.Frag} : RepA K (fun xs H Q => (∃ i j, xs = [.int i, .int j] ∧ Q (.int (if j > i then j else i)) H) ∨ (rMax K xs H Q ∨ rMaxT K xs H Q)) fMax1 := by
  intro H0 O H vs ds P Q st is h lv
  unfold fMax1 at h
  split at h
  · obtain ⟨v, rfl, a⟩ := is.one
    obtain ⟨p, ns, rfl, r, h1, h2⟩ := seqInts_ok st a h
    have fin : ∀ m, m ∈ ns → (∀ y, y ∈ ns → y ≤ m) → Q (.int m) H := fun m e1 e2 => lv H0 _ _ O H (Same.refl _) (.int _) st (h2 m e1 e2)
    rcases r with r | r
    · exact .inr (.inl ⟨p, ns, rfl, r, h1, fin⟩)
    · exact .inr (.inr ⟨p, ns, rfl, r, h1, fin⟩)
  · exact .inl (repA_I2 H0 O H vs ds P Q st is h lv)
theorem repA_min {K : PySem.W.Frag} : RepA K (fun xs H Q => (∃ i j, xs = [.int i, .int j] ∧ Q (.int (if j < i then j else i)) H) ∨ (rMin K xs H Q ∨ rMinT K xs H Q)) fMin1 := by
  intro H0 O H vs ds P Q st is h lv
  unfold fMin1 at h
  split at h
  · obtain ⟨v, rfl, a⟩ := is.one
    obtain ⟨p, ns, rfl, r, h1, h2⟩ := seqInts_ok st a h
    have fin : ∀ m, m ∈ ns → (∀ y, y ∈ ns → m ≤ y) → Q (.int m) H := fun m e1 e2 => lv H0 _ _ O H (Same.refl _) (.int _) st (h2 m e1 e2)
    rcases r with r | r
    · exact .inr (.inl ⟨p, ns, rfl, r, h1, fin⟩)
    · exact .inr (.inr ⟨p, ns, rfl, r, h1, fin⟩)
  · exact .inl (repA_I2 H0 O H vs ds P Q st is h lv)
def fSum1 : FA := fun ds O Q => match ds with
  | [d] => match lstOf O d with
    | some xs => match intsOf xs with
      | some ns => Q (.int ns.sum) O
      | none => False
    | none => False
  | _ => False
theorem repA_sum {K : PySem.W.Frag} : RepA K (rSum K) fSum1 := by
  intro H0 O H vs ds P Q st is h lv
  unfold fSum1 at h
  split at h
  · obtain ⟨v, rfl, a⟩ := is.one
    split at h
    · rename_i xs e
      split at h
      · rename_i ns e2
        obtain ⟨p, us, rfl, r, ii⟩ := lstOf_ok st a e
        have := intsOf_ok ii e2
        subst this
        exact ⟨p, ns, rfl, r, lv H0 _ _ O H (Same.refl _) (.int _) st h⟩
      · exact h.elim
    · exact h.elim
  · exact h.elim
end L3

namespace L3
open PySem PySem.Spec PyProof.Rows L2

/-! ## dicts that stay for good, walked -/
/-- the values of a locked dict, as its entries stand -/
def EntV (o : Obj) (vs : List V) : Prop := ∃ (es : Array DictEntry) (ep : Nat), o.data = .dict es ep ∧ es.size = vs.length ∧ ∀ (i : Nat) (v : V), vs[i]? = some v → ∃ h : i < es.size, RelV v es[i].val
def frzVs : HO → Option (List V)
  | .dK ws => some (ws.map (·.2))
  | .dT ws => some (ws.map (·.2))
  | _ => none
section
variable {X : Cx} {pins : List (Addr × Obj)} {σ : L2.St} {H : Hp} {s : Shared} {d : Addr} {o : Obj}
theorem pairs_at {P : Program} {w : World} {κ : Type} [DecidableEq κ] {knd : KeyKind P w κ} : ∀ {es : List DictEntry} {kvs : List (κ × Value)}, Pairs knd es kvs → ∀ {i : Nat} {e : DictEntry} {kv : κ × Value}, es[i]? = some e → kvs[i]? = some kv → e.val = kv.2
  | _, _, .nil, i, e, kv, h, _ => by simp at h
  | _, _, .cons h1 h2 t, 0, e, kv, a, b => by
    simp at a b
    subst a b
    exact h2
  | _, _, .cons h1 h2 t, i + 1, e, kv, a, b => by
    simp at a b
    exact pairs_at t a b
theorem ent_of {u : HO} {vs : List V} (I : Inv X pins σ H s) (h : H d = some (.frz o u)) (e : frzVs u = some vs) : (d == sysModules) = false ∧ s.heap.get? d = some o ∧ o.ExactDict ∧ EntV o vs := by
  cases u with
  | dK kvs =>
    cases e
    obtain ⟨hs, hd, hx, es, ep, ws, hdt, hsz, kv, o', es', ho', _, hdt', hko, hpr, hnd⟩ := I.frzK h
    rw [hd] at ho'
    cases ho'
    rw [hdt] at hdt'
    cases hdt'
    refine ⟨hs, hd, hx, es, ep, hdt, by simpa using hsz, fun i v hv => ?_⟩
    rw [List.getElem?_map] at hv
    cases q : kvs[i]? with
    | none => rw [q] at hv; cases hv
    | some kp =>
      rw [q] at hv
      cases hv
      obtain ⟨k, v⟩ := kp
      obtain ⟨u, hu, ru⟩ := kv_get kv q
      have hi : i < es.size := by rw [hsz]; exact (List.getElem?_eq_some_iff.mp q).1
      refine ⟨hi, ?_⟩
      have e1 : es.toList[i]? = some es[i] := by simp [hi]
      rw [pairs_at hpr e1 hu]
      exact ru
  | dT kvs =>
    cases e
    obtain ⟨hd, z, hs, xs, pr, o', es, ep, ho, hx, hdt, he, _⟩ := I.hok d _ h
    rw [hd] at ho
    cases ho
    have l1 : es.size = xs.length := size_of_entries he
    have l2 : kvs.length = xs.length := Paired.length pr
    refine ⟨hs, hd, hx, es, ep, hdt, by simp; omega, fun i v hv => ?_⟩
    rw [List.getElem?_map] at hv
    cases q : kvs[i]? with
    | none => rw [q] at hv; cases hv
    | some kp =>
      rw [q] at hv
      cases hv
      obtain ⟨b, hb, e1, e2, e3⟩ := paired_get pr q
      have q2 := entry_at he i
      rw [hb] at q2
      have hi : i < es.size := (Array.getElem?_eq_some_iff.mp q2).1
      refine ⟨hi, ?_⟩
      rw [Array.getElem?_eq_getElem hi] at q2
      have q3 : es[i] = entryOfKey (tupleKind (mixKind X.prog X.w)) b := Option.some.inj q2
      rw [q3]
      exact e3
  | _ => cases e
end
/-- its values -/
def Itw (d : Addr) (o : Obj) (u : HO) (vs : List V) : It := ⟨fun i H => H d = some (.frz o u) ∧ i < vs.length, fun i H x H' => H' = H ∧ vs[i]? = some x, fun i H => H d = some (.frz o u) ∧ vs.length ≤ i⟩
theorem turn_valsW {P : Program} {w : World} {K : PySem.W.Frag} {tg : Expr} {d : Addr} {o : Obj} {u : HO} {vs : List V} {es : Array DictEntry} {ep : Nat} (it : Addr) (hu : frzVs u = some vs) (hod : o.data = .dict es ep) :
    Turn P w K tg (Itw d o u vs) [it] it (fun i h => h.IsValIter it d i vs.length ep) where
  mem := by simp
  obj := fun i h st b hb => by
    have e : b = it := by simpa using hb
    subst e
    obtain ⟨oi, e, c, dd⟩ := st
    exact ⟨oi, e, fun v z => by rw [dd] at z; cases z⟩
  keep := fun i h h' st k => by
    obtain ⟨o, ho, r⟩ := st
    exact ⟨o, k it (by simp) o ho, r⟩
  item := by
    intro X hP hw hK hc i pins s σ H E I hf st hg
    subst hP hw hK
    obtain ⟨hd, hi⟩ := hg
    obtain ⟨f0, f1, f2, f3, f4, f5⟩ := hf it (by simp)
    obtain ⟨hs, hgd, hx, es', ep', hdt, hsz, ent⟩ := ent_of I hd hu
    obtain ⟨rfl, rfl⟩ := dict_ep hod hdt
    obtain ⟨v, hv⟩ : ∃ p, vs[i]? = some p := ⟨vs[i], List.getElem?_eq_getElem hi⟩
    obtain ⟨hi2, ru⟩ := ent i v hv
    rw [← hsz] at st
    refine wpAny_pyNext_values_item_raw st ⟨o, hgd, hx, hdt⟩ hi2 fun h' st' sb => ?_
    have I1 : Inv X pins σ H { s with heap := h' } := I.turned (t' := s.toks) (fun b ob hb e => (sb.2 b hb).trans e) f0 f1 f3 f4 f5
    obtain ⟨oi, e, c, dd⟩ := id st'
    refine ⟨es'[i].val, rfl, go_of (s := { s with heap := h' }) e c dd (by decide) ⟨v, H, I1, ru, ⟨rfl, hv⟩, ?_, fun b hb => (hf b hb).1⟩⟩
    show h'.IsValIter it d (i + 1) vs.length _
    rw [← hsz]
    exact st'
  done := by
    intro X hP hw hK hc i pins s σ H E I hf st hg
    subst hP hw hK
    obtain ⟨hd, hi⟩ := hg
    obtain ⟨f0, f1, f2, f3, f4, f5⟩ := hf it (by simp)
    obtain ⟨hs, hgd, hx, es', ep', hdt, hsz, ent⟩ := ent_of I hd hu
    obtain ⟨rfl, rfl⟩ := dict_ep hod hdt
    rw [← hsz] at st
    exact wpAny_pyNext_values_end_raw (I.ok.hd hc) st ⟨o, hgd, hx, hdt⟩ (by omega) fun h' eb => ⟨rfl, I.turned (t' := s.toks) (fun b ob hb e => eb b ob hb e) f0 f1 f3 f4 f5⟩
  self := fun A i s Q E st h => wpAny_pyIter_valiter st h
section
variable {X : Cx} {W : WX} {pos apos cpos : Pos} {tg e : Expr}
def iValsW (td : TE) : TI := fun σ H R => td σ H fun x H1 => ∃ d o u vs, x = .ref d ∧ H1 d = some (.frz o u) ∧ frzVs u = some vs ∧ R (Itw d o u vs) H1
theorem pi_valuesW {td : TE} (he : PE X e td) (hbase : attributeBase e "values" X.env (eval e X.env) = eval e X.env) (hline : (apos.endLine == cpos.line) = true) : PI X tg (.Call (.Attribute e "values" apos) [] [] cpos) (iValsW td) := by
  refine ⟨fun pins s σ H R I h => ?_⟩
  refine wpAny_Call_method (T := "dict") (id := "dict.values") hbase rfl hline F.plainAttrs_dict F.slot_dict_values F.type_dict_values (thn (he.run pins s σ H _ I h) fun u s1 ⟨x, H1, I1, rx, d, o, u', vs, ex, hd, hu, q⟩ => ?_)
  subst ex
  obtain rfl : u = Value.ref d := rx
  obtain ⟨hs, hgd, hx, es, ep, hdt, hsz, ent⟩ := ent_of I1 hd hu
  have raw : s1.heap.DictRaw d es ep := ⟨o, hgd, hx, hdt⟩
  refine ⟨raw.typeIs, fun b q => by cases q; exact ⟨o, hgd, hx.2.1⟩, ?_⟩
  have I2 : Inv X pins σ H1 { s1 with heap := s1.heap.push { cls := .type "dict_values", data := .fields #[.ref d] } } := I1.kept (t' := s1.toks) fun b ob q => Heap.get?_push_of_some _ q
  have fin : wpAny (model X.prog X.w) X.A (pyIter (.ref s1.heap.objs.size)) (PIE X pins σ tg R) X.xe { s1 with heap := s1.heap.push { cls := .type "dict_values", data := .fields #[.ref d] } } := by
    refine wpAny_pyIter_values_raw (d := d) ⟨_, Heap.get?_push_size _ rfl, rfl, rfl⟩ (raw.at fun ob q => Heap.get?_push_of_some _ q) (pi_one (tk := s1.toks) I2 _ (turn_valsW _ hu hdt) ⟨_, Heap.get?_push_size _ rfl, rfl, ?_⟩ q)
    rw [hsz] <;> rfl
  show wpAny _ _ (callWith cpos (.builtin "dict.values") [.ref d] [] []) _ X.xe s1
  exact method_meetsIn F.slot_dict_values F.entry_dict_values rfl (PySem.evalArgs_none ⟨rfl, raw.typeIs, F.args_dict_values_1 _, _, meets_dict_values_raw d hs, ⟨es, ep, raw⟩, fin⟩)
def valsD : D → Option (List D)
  | .dK kvs => some (kvs.map (·.2))
  | .dT kvs => some (kvs.map (·.2))
  | _ => none
def valsQ (O : Sto) (d : D) (Q : (Sto → Prop) → List D → Sto → Prop) : Prop := match valsD d with
  | some all => Q (fun _ => True) all O
  | none => False
def iVals3 (m : ME) : MI := fun Z Γ O Q => m Z Γ O fun d O1 => valsQ O1 d Q
theorem pi3_vals {m : ME} (he : PE X e (r3E X.K W m)) (hbase : attributeBase e "values" X.env (eval e X.env) = eval e X.env) (hline : (apos.endLine == cpos.line) = true) : PI X tg (.Call (.Attribute e "values" apos) [] [] cpos) (r3I X.K W (iVals3 m)) := by
  refine piW (pi_valuesW he hbase hline) fun σ H R ⟨Γ, O, H0, Z, P, env, st, hm, lx, li⟩ => ?_
  refine ⟨Γ, O, H0, Z, _, env, st, hm, lx, fun H1 v d O1 H' s1 is1 st1 hm1 => ?_⟩
  have hm2 : valsQ O1 d P := hm1
  unfold valsQ at hm2
  have core : ∀ (a : Addr) (o : Obj) (u : HO) (vs : List V) (all : List L3.D), H1 a = some (.frz o u) → frzVs u = some vs → Iss X.K H1 vs all → P (fun _ => True) all O1 → ∃ d o u vs, V.ref a = .ref d ∧ H' d = some (.frz o u) ∧ frzVs u = some vs ∧ R (Itw d o u vs) H' := by
    intro a o u vs all e1 e2 ii hp
    refine ⟨a, o, u, vs, rfl, st1.same _ _ e1, e2, li H1 _ _ all O1 H' s1 st1 ?_ hp⟩
    refine ItOk.plain (fun H2 O H i x s st _ hx => ?_) (fun H2 O H i s st _ hl => ?_)
    · obtain ⟨w, hw, iw⟩ := ii.get hx
      exact ⟨⟨st.same _ _ (s _ _ e1), (List.getElem?_eq_some_iff.mp hw).1⟩, fun y H' hy => ⟨hy.1, by rw [Option.some.inj (hy.2.symm.trans hw)]; exact iw.mono s⟩⟩
    · exact ⟨st.same _ _ (s _ _ e1), by rw [ii.1]; exact hl⟩
  cases is1 with
  | dK r l c => exact core _ _ _ _ _ r rfl ⟨by simpa using congrArg List.length l, c⟩ hm2
  | dT r l c => exact core _ _ _ _ _ r rfl ⟨by simpa using congrArg List.length l, c⟩ hm2
  | _ => exact hm2.elim
end
end L3

namespace L3
open PySem PySem.Spec PyProof.Rows L2

/-! ## from the text to readings -/
structure OwnI where
  C : Str
  ops : List (Str × FSpec)
  eq : FSpec
structure CI where
  N : List Str
  sc : Scope
  calm : Bool := true
  top : Bool := true
  asg : Bool := true
  cst : List (Str × D) := []
  sts : List (Str × Str × Nat × FSpec) := []
  stro : Option (Str × FSpec) := none
  mth : List (Str × Str × Nat × FSpec) := []
  fns : List (Str × Nat × FSpec) := []
  mks : List (Str × Nat × FSpec × List D) := []
  mkw : List (Str × Nat × Str × FSpec) := []
  tab : List (Str × Str) := []
  ocl : List Str := []
  exs : List Str := []
  exr : List Str := []
  base : Str := "OddsError"
  free : List Str := []
  own : Option OwnI := none
  exc : Option (Nat × Str × Addr) := none
  gcd : Bool := false
  prp : List (Str × Str × FSpec) := []
  lk : Bool := false
structure Rec where
  E : Expr → Option ME
  T : Expr → Option MT
  V : BoolOp → List Expr → Option MT
  A : List Expr → Option MA
  G : Expr → Option MG
  Gs : List Expr → Option MGs
  S : Stmt → Option MS
  Ss : List Stmt → Option MS
def idx : List Str → Str → Option Nat
  | [], _ => none
  | y :: r, x => if y = x then some 0 else (idx r x).map (· + 1)
theorem idx_ok : ∀ {N : List Str} {x : Str} {i : Nat}, idx N x = some i → N[i]? = some x
  | [], _, _, h => by cases h
  | y :: r, x, i, h => by
    unfold idx at h
    split at h
    · rename_i e
      cases h
      rw [e]
      rfl
    · cases e : idx r x with
      | none => rw [e] at h; cases h
      | some j =>
        rw [e] at h
        cases h
        have := idx_ok e
        simpa using this
def visB (sc : Scope) (x : Str) : Bool := match sc.names.lookup x with
  | some .local => true
  | some .cell => true
  | some .free => true
  | _ => false
def locB (sc : Scope) (x : Str) : Bool := match sc.names.lookup x with
  | some .local => true
  | some .cell => true
  | _ => false
def glB (sc : Scope) (x : Str) : Bool := match sc.names.lookup x with
  | some .globalImplicit => !(x == ("__debug__" : Str))
  | _ => false
def plainN (x : Str) : Bool := !(x == ("__debug__" : Str)) && !(x == ("__classdict__" : Str))
def isComp : Expr → Bool
  | .ListComp .. => true
  | .SetComp .. => true
  | .DictComp .. => true
  | _ => false
def isStar : Expr → Bool
  | .Starred .. => true
  | _ => false
def isTupE : Expr → Bool
  | .Tuple .. => true
  | .List .. => true
  | _ => false
def isSlice : Expr → Bool
  | .Slice .. => true
  | _ => false
def isSet : Expr → Bool
  | .Set .. => true
  | _ => false
/-- no call without arguments: its field is met plainly -/
def baseOk : Expr → Bool
  | .Call (.Name ..) [] [] _ => false
  | _ => true
def freeB (c : CI) (x : Str) : Bool := glB c.sc x && decide (x ∈ c.free)

section
variable (c : CI) (r : CI → Rec)
def cName (x : Str) : Option ME := match idx c.N x with
  | some i => if visB c.sc x && plainN x then some (mVar i) else none
  | none => if glB c.sc x then (c.cst.lookup x).map mC else none
def cConst : Const → Option ME
  | .none => some (mC .non)
  | .bool b => some (mC (.bl b))
  | .int i => some (mC (.int i))
  | .str x => some (mC (.str x))
  | _ => none
def ownF (nm : Str) (f : F2) : F2 := match c.own with
  | some o => match o.ops.lookup nm with
    | some S => fOwn o.C S f
    | none => f
  | none => f
def binF (op : Operator) : Option F2 := match op with
  | .Add => some (ownF c "__add__" fAdd)
  | .Sub => some (ownF c "__sub__" fSub)
  | .Mult => some (ownF c "__mul__" fMul)
  | .Mod => some fMod
  | .FloorDiv => some fDiv
  | .Pow => some fPow
  | _ => none
def cmpF (op : CmpOp) (b : Expr) : Option F2 := match op with
  | .Lt => some fLt
  | .LtE => some fLe
  | .Gt => some fGt
  | .GtE => some fGe
  | .Eq => if c.calm then some (match c.own with
    | some o => fEqOwn o.C o.eq
    | none => fEq false) else none
  | .NotEq => if c.calm then some (fEq true) else none
  | .Is => some (fIsN false)
  | .IsNot => some (fIsN true)
  | .In => if c.calm then some (fIn false) else none
  | .NotIn => if c.calm then some (fIn true) else none
def tyName (x : Str) : Option T3 :=
  if x = "int" then some .int else if x = "bool" then some .bool else if x = "str" then some .str else if x = "tuple" then some .tup else if x = "list" then some .lst else none
def namesOf : List Expr → Option (List Str)
  | [] => some []
  | .Name x _ :: es => (namesOf es).map (x :: ·)
  | _ => none
def cIsi (e : Expr) (t : Expr) : Option ME := match c.exc, e with
  | some (i, C, a), .Name x _ => match idx c.N x with
    | some j => if j = i ∧ visB c.sc x = true ∧ plainN x = true then (match t with
      | .Name y _ => if y ∈ c.exs then (if glB c.sc y then some (mIsE i a (decide (C = y))) else none) else if y = "ValueError" ∧ freeB c y = true then some (mIsE i a true) else none
      | .Tuple es _ _ => match namesOf es with
        | some ns => if (ns.all fun y => decide (y ∈ c.exs) && glB c.sc y) && decide (ns.length ≤ 1000) then some (mIsE i a (decide (C ∈ ns))) else none
        | none => none
      | _ => none) else none
    | none => none
  | none, _ => match t with
    | .Name y _ => match tyName y with
      | some ty => if freeB c y then ((r c).E e).map (mIsT ty) else none
      | none => if y ∈ c.ocl ∧ glB c.sc y = true then ((r c).E e).map (mIsO y) else none
    | _ => none
  | _, _ => none
/-- built-in functions by their arguments -/
def biF (x : Str) : Option FA :=
  if x = "int" then some fInt1 else if x = "abs" then some fAbs else if x = "max" then some fMax1 else if x = "min" then some fMin1 else if x = "len" then some fLen else if x = "list" then some fList1 else if x = "sum" then some fSum1 else none
def cCall (x : Str) (es : List Expr) : Option ME :=
  if glB c.sc x = true ∧ es ≠ [] then
    match c.fns.lookup x with
    | some (n, S) => if decide (es.length = n) then ((r c).A es).map (mCall S n) else none
    | none => match c.mks.find? (fun q => q.1 == x && q.2.1 == es.length) with
      | some (_, n, S, ex) => ((r c).A es).map (mMake x S n ex)
      | none =>
        if x = "isinstance" ∧ freeB c x = true then (match es with
          | [e, t] => if isStar e then none else cIsi c r e t
          | _ => none)
        else if x = "gcd" ∧ c.gcd = true then ((r c).A es).map (mCB fGcd)
        else if c.calm = true ∧ freeB c x = true then (match biF x with
          | some f => ((r c).A es).map (mCB f)
          | none => none)
        else none
  else none
def stepE : Expr → Option ME
  | .Name x _ => cName c x
  | .Constant k _ _ => cConst k
  | .BinOp a op b _ => match binF c op, (r c).E a, (r c).E b with
    | some f, some ma, some mb => some (mOp f ma mb)
    | _, _, _ => none
  | .UnaryOp .USub a _ => ((r c).E a).map (mUn fNeg)
  | .UnaryOp .Not a _ => ((r c).E a).map mNotV
  | .Compare a [op] [b] _ => match cmpF c op b, (r c).E a, (r c).E b with
    | some f, some ma, some mb => if isSet b then none else some (mOp f ma mb)
    | _, _, _ => none
  | .Compare a [op, op'] [b, d] _ => match cmpF c op b, cmpF c op' d, (r c).E a, (r c).E b, (r c).E d with
    | some f, some g, some ma, some mb, some md => if isSet b || isSet d then none else some (mChain f g ma mb md)
    | _, _, _, _, _ => none
  | .BoolOp op [a] _ => (r c).E a
  | .BoolOp .And (a :: b :: rest) pos => match (r c).E a, (r c).E (.BoolOp .And (b :: rest) pos) with
    | some ma, some mb => some (mAndV ma mb)
    | _, _ => none
  | .BoolOp .Or (a :: b :: rest) pos => match (r c).E a, (r c).E (.BoolOp .Or (b :: rest) pos) with
    | some ma, some mb => some (mOrV ma mb)
    | _, _ => none
  | .IfExp t a b _ => match (r c).T t, (r c).E a, (r c).E b with
    | some t, some ma, some mb => some (mIfE t ma mb)
    | _, _, _ => none
  | .Tuple es _ _ => ((r c).A es).map mTup
  | .List es _ => ((r c).A es).map mLst
  | .Subscript a (.Slice none none none _) _ => ((r c).E a).map fun ma => mSlice ma mNone mNone
  | .Subscript a (.Slice (some l) none none _) _ => match (r c).E a, (r c).E l with
    | some ma, some ml => some (mSlice ma (mSome ml) mNone)
    | _, _ => none
  | .Subscript a (.Slice none (some h) none _) _ => match (r c).E a, (r c).E h with
    | some ma, some mh => some (mSlice ma mNone (mSome mh))
    | _, _ => none
  | .Subscript a (.Slice (some l) (some h) none _) _ => match (r c).E a, (r c).E l, (r c).E h with
    | some ma, some ml, some mh => some (mSlice ma (mSome ml) (mSome mh))
    | _, _, _ => none
  | .Subscript a b _ => if isSlice b || !c.calm then none else match (r c).E a, (r c).E b with
    | some ma, some mb => some (mOp fIx ma mb)
    | _, _ => none
  | .Attribute e f _ => if baseOk e then (match c.prp.lookup f with
    | some (C, S) => ((r c).E e).map (mProp C S)
    | none => ((r c).E e).map (mFld c.tab f)) else none
  | .Dict [] [] _ => some mDict0
  | .Call (.Name x _) es [] _ => cCall c r x es
  | .Call (.Name x _) (e :: es) [⟨some kw, a, _⟩] _ => if glB c.sc x then (match c.mkw.find? (fun q => q.1 == x && (q.2.1 == es.length + 1 && q.2.2.1 == kw)), (r c).A (e :: es), (r c).E a with
    | some (_, n, _, S), some ms, some m => some (mMakeK x S n ms (mCons m mNil))
    | _, _, _ => none) else none
  | _ => none
/-- the inside of a comprehension -/
def blkI (scope : Scope) : CI := { c with sc := relS scope c.sc, top := false, asg := false }
def cTgNs (sc : Scope) : List Expr → Option (List (Str × Nat))
  | [] => some []
  | .Name x _ :: es => match idx c.N x, cTgNs sc es with
    | some i, some r => if sc.names.lookup x = some .local then some ((x, i) :: r) else none
    | _, _ => none
  | _ => none
def cTgN (sc : Scope) : Expr → Option (List (Str × Nat) × TgN)
  | .Name x _ => match idx c.N x with
    | some i => if sc.names.lookup x = some .local then some ([(x, i)], .one i) else none
    | none => none
  | .Tuple es _ _ => (cTgNs c sc es).map fun ps => (ps, .many (ps.map (·.2)))
  | _ => none
def cIfs (r : Rec) : List Expr → Option MT
  | [] => some mYes
  | [e] => r.T e
  | _ => none
def cIter : Expr → Option MI
  | .Call (.Name x p) [e] [] q => if x = "range" then (if freeB c x && !isStar e then ((r c).A [e]).map iR1 else none) else ((r c).E (.Call (.Name x p) [e] [] q)).map iSeq
  | .Call (.Name x p) [e, e2] [] q => if x = "range" then (if freeB c x && !(isStar e || isStar e2) then ((r c).A [e, e2]).map iR2 else none) else ((r c).E (.Call (.Name x p) [e, e2] [] q)).map iSeq
  | .Call (.Attribute e m apos) [] [] cpos => if m = "values" then (if baseOk e && (apos.endLine == cpos.line) then ((r c).E e).map iVals3 else none) else ((r c).E (.Call (.Attribute e m apos) [] [] cpos)).map iSeq
  | it => if isSet it then none else ((r c).E it).map iSeq
def cComp (elt tg iter : Expr) (ifs : List Expr) (scope : Scope) : Option ME := match cTgN c (relS scope c.sc) tg with
  | some (own, tn) => if c.calm && (c.exc.isNone && blkC c.N c.sc scope own) then (match cIter c r iter, cIfs (r (blkI c scope)) ifs, (r (blkI c scope)).E elt with
    | some mi, some t, some e => some (mComp mi tn t e)
    | _, _, _ => none) else none
  | none => none
def isGlobal (o : Expr) (C : Str) : Bool := match o with
  | .Name y _ => decide (y = C) && ((idx c.N y).isNone && glB c.sc y)
  | _ => false
def cParts (r : Rec) : List Expr → Option (List ME)
  | [] => some []
  | e :: es => match r.E e, cParts r es with
    | some m, some ms => some (m :: ms)
    | _, _ => none
/-- d.get(k), d.get(k, x) -/
def cGet (o e : Expr) (es : List Expr) : Option ME := if c.calm && !isStar e then (match es with
  | [] => match (r c).E o, (r c).E e with
    | some mo, some mk => some (mGet1 mo mk)
    | _, _ => none
  | [f] => if isStar f then none else match (r c).E o, (r c).E e, (r c).E f with
    | some mo, some mk, some mx => some (mGet2 mo mk mx)
    | _, _, _ => none
  | _ => none) else none
/-- comprehensions, methods -/
def stepC : Expr → Option ME
  | .ListComp elt [⟨tg, iter, ifs, 0⟩] scope _ => cComp c r elt tg iter ifs scope
  | .Call (.Attribute o m apos) (e :: es) [] pos => if baseOk o && (decide (es.length < 20) && (apos.endLine == pos.line)) then (match c.sts.lookup m with
    | some (C, n, S) => if isGlobal c o C then ((r c).A (e :: es)).map (mCall S n) else (match (r c).E o, (r c).A (e :: es) with
      | some mo, some ms => some (mStatI C m S n mo ms)
      | _, _ => none)
    | none => match c.mth.lookup m with
    | some (C, n, S) => match (r c).E o, (r c).A (e :: es) with
      | some mo, some ms => some (mMeth C m S n mo ms)
      | _, _ => none
    | none => if m = "get" then cGet c r o e es else if m = "append" ∧ es = [] then (match (r c).E o, (r c).A (e :: es) with
      | some mo, some ms => some (mApp mo ms)
      | _, _ => none) else if es = [] then (match sm1 m, (r c).E o, (r c).A (e :: es) with
      | some f, some mo, some ms => some (mSM f mo ms)
      | _, _, _ => none) else none) else none
  | .Call (.Attribute o m apos) [] [] pos => if baseOk o && (apos.endLine == pos.line) then (match sm0 m, (r c).E o with
    | some f, some mo => some (mSM0 f mo)
    | _, _ => none) else none
  | .FormattedValue e k none _ => if k = -1 then ((r c).E e).map mFmt else none
  | .JoinedStr (v1 :: v2 :: rest) _ => (cParts (r c) (v1 :: v2 :: rest)).map mJoin
  | .Call (.Name x _) [a] [] _ => if x = "tuple" ∧ freeB c x = true ∧ isStar a = false then ((r c).E a).map mTupOf else if x = "str" ∧ freeB c x = true ∧ isStar a = false then ((r c).A [a]).map (mCB (match c.stro with
    | some (C, S) => fStrO C S
    | none => fStr1)) else none
  | _ => none
def stepT : Expr → Option MT
  | .UnaryOp .Not a _ => ((r c).T a).map mNot
  | .BoolOp op vs _ => (r c).V op vs
  | .Compare a [op] [b] _ => match cmpF c op b, (r c).E a, (r c).E b with
    | some f, some ma, some mb => if isSet b then none else some (mB (mOp f ma mb))
    | _, _, _ => none
  | .Compare a [op, op'] [b, d] _ => match cmpF c op b, cmpF c op' d, (r c).E a, (r c).E b, (r c).E d with
    | some f, some g, some ma, some mb, some md => if isSet b || isSet d then none else some (mB (mChain f g ma mb md))
    | _, _, _, _, _ => none
  | .Name x p => ((r c).E (.Name x p)).map mTru
  | .Call f es ks p => ((r c).E (.Call f es ks p)).map mTru
  | .Attribute e f p => ((r c).E (.Attribute e f p)).map mTru
  | .Constant k j p => ((r c).E (.Constant k j p)).map mTru
  | _ => none
def stepV : BoolOp → List Expr → Option MT
  | _, [a] => (r c).T a
  | .And, a :: b :: rest => match (r c).T a, (r c).V .And (b :: rest) with
    | some ta, some tb => some (mAnd ta tb)
    | _, _ => none
  | .Or, a :: b :: rest => match (r c).T a, (r c).V .Or (b :: rest) with
    | some ta, some tb => some (mOr ta tb)
    | _, _ => none
  | _, _ => none
def stepA : List Expr → Option MA
  | [] => some mNil
  | e :: es => if isStar e then none else match (r c).E e, (r c).A es with
    | some ma, some mr => some (mCons ma mr)
    | _, _ => none
def stepG : Expr → Option MG
  | .Name x _ => match idx c.N x with
    | some i => if c.asg && locB c.sc x then some (tgName i) else none
    | none => none
  | .Tuple es _ _ => if c.calm && es.all (!isStar ·) then ((r c).Gs es).map (tgTup es.length) else none
  | .Subscript o i _ => if isSlice i || !c.calm then none else match (r c).E o, (r c).E i with
    | some mo, some mi => some (tgIx mo mi)
    | _, _ => none
  | _ => none
def stepGs : List Expr → Option MGs
  | [] => some tgNil
  | e :: es => if isStar e then none else match (r c).G e, (r c).Gs es with
    | some g, some u => some (tgCons g u)
    | _, _ => none
/-- a, b = x, y: both names stored from the right -/
def parOk (x y : Str) (px py : Pos) (a b : Expr) : Bool :=
  decide (px.line = py.line) && (decide (x ≠ y) && (decide (c.sc.names.lookup x = some .local) && (decide (c.sc.names.lookup y = some .local) && (!([a, b].all (foldedForSure 8)) && (!([a, b].all (constantsAlone 8)) && (!isStar a && !isStar b))))))
def sfx (i : Nat) (C : Str) (a : Addr) : CI := { c with calm := false, top := false, fns := [], mks := [], mkw := [], mth := [], sts := [], stro := none, prp := [], own := none, exc := some (i, C, a) }
/-- a suite for errors without fields -/
def sui (fs : List (Str × D)) (o : Option MS) : MS := fun P Γ O => fs = [] ∧ match o with
  | some m => m P Γ O
  | none => False
def stepS : Stmt → Option MS
  | .Pass _ => some mNext
  | .Break _ => some mBrk
  | .Continue _ => some mCont
  | .Return none _ => some mRetN
  | .Return (some e) _ => if c.lk then ((r c).E e).map mRetL else ((r c).E e).map mRet
  | .Expr e _ => if isComp e then none else ((r c).E e).map mDrop
  | .If t a b _ => match (r c).T t, (r c).Ss a, (r c).Ss b with
    | some t, some a, some b => some (mIf t a b)
    | _, _, _ => none
  | .While t b [] _ => match (r c).T t, (r c).Ss b with
    | some t, some b => some (mWhile t b)
    | _, _ => none
  | .For tg it b [] _ => if c.calm then (match cIter c r it, (r c).G tg, (r c).Ss b with
    | some mi, some g, some b => some (mFor mi g b)
    | _, _, _ => none) else none
  | .Assign [.Attribute o f _] e _ => if isComp e then none else match (r c).E o, (r c).E e with
    | some mo, some me => some (mSetA c.tab f me mo)
    | _, _ => none
  | .Assign [.Tuple [.Name x px, .Name y py] q1 p1] (.Tuple [a, b] q2 p2) _ => if c.calm && parOk c x y px py a b then (match idx c.N x, idx c.N y, (r c).A [a, b] with
    | some i, some j, some ms => some (mPar i j ms)
    | _, _, _ => none) else if [a, b].all (foldedForSure 8) then (match (r c).E (.Tuple [a, b] q2 p2), (r c).G (.Tuple [.Name x px, .Name y py] q1 p1) with
    | some m, some g => some (mAsg m g)
    | _, _ => none) else none
  | .Assign [.Name y py] (.ListComp elt [⟨tg, iter, ifs, 0⟩] scope pos) spos => if c.asg && (decide (c.sc.names.lookup y = some .local) && ((py.line == pos.line) && !(scope.names.any fun (n, k) => n == y && (k == .local || k == .cell)))) then (match idx c.N y, cComp c r elt tg iter ifs scope with
    | some i, some m => some (mAsg m (tgName i))
    | _, _ => none) else none
  | .Assign [tg] e _ => if isComp e || isStar tg || (isTupE tg && isTupE e) then none else match (r c).E e, (r c).G tg with
    | some m, some g => some (mAsg m g)
    | _, _ => none
  | .Raise (some (.Call (.Name C _) [.Constant (.str _) _ _] [] _)) none _ => if c.calm && (decide (C ∈ c.exr) && glB c.sc C) then some (mRaise C) else none
  | .Try b [.ExceptHandler (some (.Name x _)) (some n) (b0 :: su) _] [] [] _ => if c.calm && (c.top && (decide (x = c.base) && (glB c.sc x && (decide (c.sc.names.lookup n = some .local) && !c.exs.isEmpty)))) then (match idx c.N n, (r c).Ss b with
    | some i, some mb => if (((r (sfx c i Str.empty 0)).Ss (b0 :: su)).isSome) then some (mTry i c.exs mb fun C fs a => sui fs ((r (sfx c i C a)).Ss (b0 :: su))) else none
    | _, _ => none) else none
  | _ => none
def stepSs : List Stmt → Option MS
  | [] => some mNext
  | [s] => (r c).S s
  | s :: t :: rest => match (r c).S s, (r c).Ss (t :: rest) with
    | some a, some b => some (mSeq a b)
    | _, _ => none
end
def Rec.no : Rec := ⟨fun _ => none, fun _ => none, fun _ _ => none, fun _ => none, fun _ => none, fun _ => none, fun _ => none, fun _ => none⟩
def comp : Nat → CI → Rec
  | 0, _ => Rec.no
  | n + 1, c => ⟨fun e => match stepC c (comp n) e with
    | some m => some m
    | none => stepE c (comp n) e, stepT c (comp n), stepV c (comp n), stepA c (comp n), stepG c (comp n), stepGs c (comp n), stepS c (comp n), stepSs c (comp n)⟩
end L3

namespace L3
open PySem PySem.Spec PyProof.Rows L2

structure Ctx (c : CI) (X : Cx) (W : WX) : Prop where
  hN : X.N = c.N
  nd : X.N.Nodup
  sc : X.env.scope = c.sc
  kind : c.sc.kind = .function
  fn : c.asg = true → ∀ x, locB c.sc x = true → X.fn x = true ∨ X.env.scope.names.lookup x = some .local
  calm : c.calm = true → X.calm = true ∧ X.A.units + 65 < cLine
  tk : Takes X W
  po : PassesOwn (model X.prog X.w) X.A X.env X.xe
  top : c.top = true → X.stack = X.env :: X.outer ∧ X.env.frame = some X.env.locals
  fns : ∀ x n S, c.fns.lookup x = some (n, S) → FnAt X x n S
  mks : ∀ q ∈ c.mks, MkAt X q.1 q.2.1 q.2.2.1 q.2.2.2
  mkw : ∀ q ∈ c.mkw, MkwAt X q.1 q.2.1 q.2.2.1 q.2.2.2
  mth : ∀ m C n S, c.mth.lookup m = some (C, n, S) → MthAt X C m n S
  cst : ∀ x d, c.cst.lookup x = some d → ∃ v u, X.mg x = some u ∧ RelV v u ∧ ∀ H, Is X.K H v d
  sts : ∀ m C n S, c.sts.lookup m = some (C, n, S) → StatAt X C m n S
  stro : ∀ C S, c.stro = some (C, S) → StrAt X C S
  tab : AtOk X.K c.tab
  ocl : ∀ x ∈ c.ocl, OCls X.K (He.ga X.K x) ∧ X.mg x = some (.ref (He.ga X.K x))
  exs : XcT X.K c.exs
  exg : ∀ x ∈ c.exs, X.mg x = some (.ref (He.ga X.K x))
  exa : ∀ x ∈ c.exr, XcAt X.K X.mg x
  exb : c.exs ≠ [] → X.mg c.base = some (.ref (He.ga X.K c.base)) ∧ ∀ C ∈ c.exs, PySem.W.exmOne X.K (.ref (He.ga X.K C)) (.ref (He.ga X.K c.base)) = some true
  free : ∀ x ∈ c.free, X.mg x = none
  own : ∀ o, c.own = some o → (∀ op : Operator, ∀ S, o.ops.lookup (PySem.dunder op.info.2) = some S → OwnOp X o.C (PySem.dunder op.info.2) S) ∧ OwnOp X o.C "__eq__" o.eq ∧ OEq X.K (He.ga X.K o.C)
  gcd : c.gcd = true → X.mg "gcd" = some (.builtin "math.gcd")
  prp : ∀ f C S, c.prp.lookup f = some (C, S) → PropAt X C f S
  exc : ∀ i C a, c.exc = some (i, C, a) → ∃ X0 oe pn, X = Cx.suite X0 a ((a, oe) :: pn) ∧ C ∈ c.exs ∧ Zc (.ref (He.ga X.K C)) none oe ∧ ∃ vs, oe.data = .fields vs
structure RecOk (X : Cx) (W : WX) (r : Rec) : Prop where
  E : ∀ e m, r.E e = some m → isStar e = false ∧ PE X e (r3E X.K W m)
  T : ∀ e m, r.T e = some m → PT X e (r3T X.K W m)
  V : ∀ op es m, r.V op es = some m → ∀ pos, PW X (.BoolOp op es pos) (r3T X.K W m)
  A : ∀ es m, r.A es = some m → (es.all fun e => !isStar e) = true ∧ PA X es (r3A X.K W m)
  G : ∀ e m, r.G e = some m → isStar e = false ∧ PG X e (r3G X.K W m)
  Gs : ∀ es m, r.Gs es = some m → (es.all fun e => !isStar e) = true ∧ PGs X es (r3Gs X.K W m)
  S : ∀ st m, r.S st = some m → PS X st (r3S X.K W m)
  Ss : ∀ sts m, r.Ss sts = some m → PSs X sts (r3S X.K W m)
theorem RecOk.no {X : Cx} {W : WX} : RecOk X W Rec.no := by
  constructor <;> (intros; first | (rename_i h; cases h; done) | (rename_i h _; cases h))

/-! ### small facts of the text -/
theorem star1 {e : Expr} {es : List Expr} {env : Env} (h : isStar e = false) : starEach (e :: es) env = (false, eval e env) :: starEach es env := by
  cases e <;> first | rfl | cases h
theorem starAny {pos : Pos} {env : Env} : ∀ {es : List Expr}, (es.all fun e => !isStar e) = true → (backTo pos (starEach es env)).any (·.1) = false
  | [], _ => rfl
  | e :: es, h => by
    rw [List.all_cons, Bool.and_eq_true] at h
    have h1 : isStar e = false := by simpa using h.1
    rw [star1 h1]
    show (false || (backTo pos (starEach es env)).any (·.1)) = false
    rw [starAny h.2]
    rfl
theorem sw_none {e : Expr} {t : Option Expr} {l : Nat} {env : Env} (h : isComp e = false) : swapsWith e t l env = pure false := by
  cases e <;> first | rfl | cases h
theorem swSole {e t : Expr} {l : Nat} {env : Env} (h : isComp e = false) : swapsWithSole [t] e l env = pure false := sw_none h
theorem asg1 {t : Expr} {env : Env} (h : isStar t = false) : (assignEach [t] env).map (·.2) = [assign t env] := by
  cases t <;> first | rfl | cases h
theorem asgC {t : Expr} {ts : List Expr} {env : Env} (h : isStar t = false) : (assignEach (t :: ts) env).map (·.2) = assign t env :: (assignEach ts env).map (·.2) := by
  cases t <;> first | rfl | cases h
theorem asgC2 {t : Expr} {ts : List Expr} {env : Env} (h : isStar t = false) : assignEach (t :: ts) env = (false, assign t env) :: assignEach ts env := by
  cases t <;> first | rfl | cases h
theorem asgAll {env : Env} : ∀ {ts : List Expr}, (ts.all fun e => !isStar e) = true → (assignEach ts env).length = ts.length ∧ (assignEach ts env).findIdx? (·.1) = none
  | [], _ => ⟨rfl, rfl⟩
  | t :: ts, h => by
    rw [List.all_cons, Bool.and_eq_true] at h
    have h1 : isStar t = false := by simpa using h.1
    obtain ⟨a, b⟩ := asgAll (env := env) h.2
    rw [asgC2 h1]
    refine ⟨by simp [a], ?_⟩
    rw [List.findIdx?_cons]
    simp [b]
theorem swNo {t e : Expr} {env : Env} (h : (isTupE t && isTupE e) = false) : swappedStores [t] e env = pure none := by
  cases t <;> first | rfl | (cases e <;> first | rfl | cases h)
theorem fold1 {e : Expr} {env : Env} (h : isSet e = false) : ∀ x, foldedSetIterable e env x = pure x := by
  intro x
  cases e <;> first | rfl | cases h
theorem plainIx {b : Expr} (h : isSlice b = false) : PlainIx b := by
  intro o i
  cases b <;> first | rfl | cases h
theorem behind0 {op : CmpOp} {b : Expr} (h : isSet b = false) : behindInMarks op b = false := by
  cases b <;> first | rfl | cases h
theorem asgSub {o i : Expr} {pos : Pos} {env : Env} (h : isSlice i = false) : ∀ v, assign (.Subscript o i pos) env v = (do
      let ov ← holding [v] (eval o env)
      let iv ← holding [v, ov] (eval i env)
      standAt pos
      holding [v, ov, iv] (setItem ov iv v)
      release [v, ov, iv] []) := by
  intro v
  cases i <;> first | rfl | cases h
theorem base1 {e : Expr} {f : Str} {env : Env} (h : baseOk e = true) : attributeBase e f env (eval e env) = eval e env := by
  cases e with
  | Call fn es ks p =>
    cases fn <;> first
      | rfl
      | (cases es with
         | cons => rfl
         | nil => cases ks with
           | cons => rfl
           | nil => cases h)
  | _ => rfl
section
variable {c : CI} {X : Cx} {W : WX} {pos : Pos}
theorem Ctx.gl (k : Ctx c X W) {x : Str} (h : glB c.sc x = true) : Gl X x ∧ (x == ("__debug__" : Str)) = false := by
  unfold glB at h
  split at h
  · rename_i e
    refine ⟨?_, by simpa using h⟩
    show X.env.scope.names.lookup x = some .globalImplicit
    rw [k.sc]
    exact e
  · cases h
theorem Ctx.vis (k : Ctx c X W) {x : Str} (h : visB c.sc x = true) : Vis X.env.scope x := by
  unfold visB at h
  rw [k.sc]
  split at h
  · rename_i e; exact .inl e
  · rename_i e; exact .inr (.inl e)
  · rename_i e; exact .inr (.inr e)
  · cases h
theorem Ctx.loc (k : Ctx c X W) {x : Str} (h : locB c.sc x = true) : Loc X.env.scope x := by
  unfold locB at h
  rw [k.sc]
  split at h
  · rename_i e; exact .inl e
  · rename_i e; exact .inr e
  · cases h
theorem Ctx.fr (k : Ctx c X W) {x : Str} (h : freeB c x = true) : Gl X x ∧ (x == ("__debug__" : Str)) = false ∧ X.mg x = none := by
  unfold freeB at h
  obtain ⟨h1, h2⟩ := Bool.and_eq_true_iff.mp h
  obtain ⟨a, b⟩ := k.gl h1
  exact ⟨a, b, k.free x (of_decide_eq_true h2)⟩
theorem plainN_ok {x : Str} (h : plainN x = true) : (x == ("__debug__" : Str)) = false ∧ (x == ("__classdict__" : Str)) = false := by
  unfold plainN at h
  obtain ⟨h1, h2⟩ := Bool.and_eq_true_iff.mp h
  exact ⟨by simpa using h1, by simpa using h2⟩
theorem Ctx.nm (k : Ctx c X W) {x : Str} {i : Nat} (h1 : idx c.N x = some i) (h2 : visB c.sc x = true) (h3 : plainN x = true) : PE X (.Name x pos) (tVar i) := by
  obtain ⟨a, b⟩ := plainN_ok h3
  exact pe_var (by rw [k.hN]; exact idx_ok h1) (k.vis h2) a b
theorem name_ok (k : Ctx c X W) {x : Str} {m : ME} (h : cName c x = some m) : PE X (.Name x pos) (r3E X.K W m) := by
  unfold cName at h
  split at h
  · rename_i i e
    split at h
    · rename_i q
      cases h
      obtain ⟨h1, h2⟩ := Bool.and_eq_true_iff.mp q
      exact pe3_var (k.nm e h1 h2)
    · cases h
  · split at h
    · rename_i hg
      obtain ⟨g1, g2⟩ := k.gl hg
      cases q : c.cst.lookup x with
      | none => rw [q] at h; cases h
      | some d =>
        rw [q] at h
        cases h
        obtain ⟨v, u, hm, rv, is⟩ := k.cst x d q
        exact pe3_c (pe_glob (v := v) g1 hm rv g2) is
    · cases h
theorem const_ok {q : Const} {j : Nat} {m : ME} (h : cConst q = some m) : PE X (.Constant q j pos) (r3E X.K W m) := by
  unfold cConst at h
  split at h <;> first
    | cases h; done
    | (cases h; exact pe3_c pe_non fun _ => .non)
    | (cases h; exact pe3_c pe_bl fun _ => .bl _)
    | (cases h; exact pe3_c pe_int fun _ => .int _)
    | (cases h; exact pe3_c pe_str fun _ => .str _)
theorem own_ok (k : Ctx c X W) {op : Operator} {r : R2} {f : F2} (h1 : OpR X (binaryOp op) r) (h2 : Rep2 X.K r f) : ∃ r, OpR X (binaryOp op) r ∧ Rep2 X.K r (ownF c (PySem.dunder op.info.2) f) := by
  unfold ownF
  split
  · rename_i o e
    split
    · rename_i S e2
      exact ⟨_, OpR.or (op_own ((k.own o e).1 op S e2)) h1, rep_own h2⟩
    · exact ⟨r, h1, h2⟩
  · exact ⟨r, h1, h2⟩
theorem binF_ok (k : Ctx c X W) {op : Operator} {f : F2} (h : binF c op = some f) : ∃ r, OpR X (binaryOp op) r ∧ Rep2 X.K r f := by
  unfold binF at h
  split at h
  · cases h; exact own_ok k (op := .Add) op_add3 rep_add
  · cases h; exact own_ok k (op := .Sub) op_sub rep_sub
  · cases h; exact own_ok k (op := .Mult) op_mul3 rep_mul
  · cases h; exact ⟨_, op_mod, rep_mod⟩
  · cases h; exact ⟨_, op_div3, rep_div⟩
  · cases h; exact ⟨_, op_pow, rep_pow⟩
  · cases h
theorem cmpF_ok (k : Ctx c X W) {op : CmpOp} {b : Expr} {f : F2} (h : cmpF c op b = some f) : ∃ r, OpR X (compareOp op) r ∧ Rep2 X.K r f := by
  unfold cmpF at h
  split at h
  · cases h; exact ⟨_, op_lt, rep_lt⟩
  · cases h; exact ⟨_, op_le, rep_le⟩
  · cases h; exact ⟨_, op_gt, rep_gt⟩
  · cases h; exact ⟨_, op_ge, rep_ge⟩
  · split at h
    · rename_i hc
      cases h
      have hu := (k.calm hc).2
      split
      · rename_i o e
        obtain ⟨_, h2, h3⟩ := k.own o e
        exact ⟨_, OpR.or (op_ownEq h2) (OpR.or op_eq (op_eqD (by omega))), rep_eqOwn h3⟩
      · exact ⟨_, OpR.or op_eq (op_eqD (by omega)), rep_eq⟩
    · cases h
  · split at h
    · rename_i hc
      cases h
      exact ⟨_, OpR.or op_ne (op_neD (by have := (k.calm hc).2; omega)), rep_ne⟩
    · cases h
  · cases h; exact ⟨_, op_isN, rep_isN⟩
  · cases h; exact ⟨_, op_notN, rep_notN⟩
  · split at h
    · rename_i hc
      cases h
      have hu := (k.calm hc).2
      exact ⟨_, op_inAny hu, rep_in⟩
    · cases h
  · split at h
    · rename_i hc
      cases h
      have hu := (k.calm hc).2
      exact ⟨_, op_notInAny hu, rep_in⟩
    · cases h
end
end L3

namespace L3
open PySem PySem.Spec PyProof.Rows L2
section
variable {c : CI} {X : Cx} {W : WX} {r : CI → Rec} {pos : Pos}
theorem mapS {α β : Type} {o : Option α} {f : α → β} {m : β} (h : o.map f = some m) : ∃ a, o = some a ∧ f a = m := by
  cases o with
  | none => cases h
  | some a => exact ⟨a, rfl, Option.some.inj h⟩
theorem names_pa (k : Ctx c X W) : ∀ {es : List Expr} {ns : List Str}, namesOf es = some ns → (∀ y ∈ ns, y ∈ c.exs ∧ glB c.sc y = true) → (es.all fun e => !isStar e) = true ∧ PA X es (tCs (ns.map fun y => V.ref (He.ga X.K y)))
  | [], ns, h, _ => by cases h; exact ⟨rfl, pa_cs_nil⟩
  | e :: es, ns, h, hn => by
    cases e with
    | Name x p =>
      obtain ⟨ms, e1, e2⟩ := mapS (show (namesOf es).map (x :: ·) = some ns from h)
      subst e2
      obtain ⟨h1, h2⟩ := names_pa k e1 fun y hy => hn y (List.mem_cons_of_mem _ hy)
      obtain ⟨h3, h4⟩ := hn x List.mem_cons_self
      obtain ⟨g1, g2⟩ := k.gl h4
      exact ⟨by rw [List.all_cons, h1]; rfl, pa_cs_cons (pe_glob (v := .ref (He.ga X.K x)) g1 (k.exg x h3) rfl g2) h2 (star1 rfl)⟩
    | _ => cases h
theorem isi_ok (k : Ctx c X W) (R : RecOk X W (r c)) {e t : Expr} {m : ME} {x : Str} {p : Pos} (hx : x = "isinstance") (hf : freeB c x = true) (hs : isStar e = false) (h : cIsi c r e t = some m) : PE X (.Call (.Name x p) [e, t] [] pos) (r3E X.K W m) := by
  subst hx
  obtain ⟨g1, g2, g3⟩ := k.fr hf
  unfold cIsi at h
  split at h
  · -- the suite's error
    rename_i i C a y q ex
    obtain ⟨X0, oe, pn, rfl, hC, hz, hfd⟩ := k.exc i C a ex
    split at h
    · rename_i j ej
      split at h
      · rename_i hj
        obtain ⟨rfl, v1, v2⟩ := hj
        have hv := k.nm (pos := q) ej v1 v2
        split at h
        · rename_i z p2
          split at h
          · rename_i hz2
            split at h
            · rename_i gz
              cases h
              obtain ⟨a1, a2⟩ := k.gl gz
              exact pe3_isE k.exs hC hz2 hz hfd hv g1 g3 a1 (k.exg z hz2) a2
            · cases h
          · split at h
            · rename_i hve
              cases h
              obtain ⟨rfl, fz⟩ := hve
              obtain ⟨a1, a2, a3⟩ := k.fr fz
              exact pe3_isEV k.exs hC hz hfd hv g1 g3 a1 a3
            · cases h
        · rename_i es kk p2
          split at h
          · rename_i ns en
            split at h
            · rename_i hall
              cases h
              obtain ⟨h1, h2⟩ := Bool.and_eq_true_iff.mp hall
              have hn : ∀ y ∈ ns, y ∈ c.exs ∧ glB c.sc y = true := fun y hy => by
                have := List.all_eq_true.mp h1 y hy
                obtain ⟨b1, b2⟩ := Bool.and_eq_true_iff.mp this
                exact ⟨of_decide_eq_true b1, b2⟩
              exact pe3_isET k.exs hC (fun y hy => (hn y hy).1) hz hfd hv g1 g3 (names_pa k en hn).2 (of_decide_eq_true h2)
            · cases h
          · cases h
        · cases h
      · cases h
    · cases h
  · split at h
    · rename_i y p2
      split at h
      · rename_i ty ety
        split at h
        · rename_i fy
          obtain ⟨m', e1, rfl⟩ := mapS h
          obtain ⟨a1, a2, a3⟩ := k.fr fy
          have ny : bootBuiltins y = some (.type ty.nm) ∧ y ≠ "__name__" := by
            unfold tyName at ety
            split at ety
            · rename_i e; subst e; cases ety; exact ⟨by decide +kernel, by decide⟩
            · split at ety
              · rename_i e; subst e; cases ety; exact ⟨by decide +kernel, by decide⟩
              · split at ety
                · rename_i e; subst e; cases ety; exact ⟨by decide +kernel, by decide⟩
                · split at ety
                  · rename_i e; subst e; cases ety; exact ⟨by decide +kernel, by decide⟩
                  · split at ety
                    · rename_i e; subst e; cases ety; exact ⟨by decide +kernel, by decide⟩
                    · cases ety
          exact pe3_isT (R.E _ _ e1).2 g1 g3 a1 a3 ny.1 ny.2 a2 (star1 hs)
        · cases h
      · split at h
        · rename_i hy
          obtain ⟨m', e1, rfl⟩ := mapS h
          obtain ⟨a1, a2⟩ := k.gl hy.2
          obtain ⟨b1, b2⟩ := k.ocl y hy.1
          exact pe3_isO (R.E _ _ e1).2 g1 g3 a1 b2 b1 a2 (star1 hs)
        · cases h
    · cases h
  · cases h
theorem bi_ok (hc : X.calm = true) {x : Str} {f : FA} (h : biF x = some f) : ∃ (v : Value) (rr : List V → Hp → VK → Prop), bootBuiltins x = some v ∧ ((∃ id, v = .builtin id) ∨ ∃ T, v = .type T) ∧ CallR X v rr ∧ RepA X.K rr f ∧ x ≠ "__name__" := by
  unfold biF at h
  split at h
  · rename_i e; subst e; cases h; exact ⟨_, _, by decide +kernel, .inr ⟨_, rfl⟩, CallR.or call_int1 call_int_str, repA_int, by decide⟩
  · split at h
    · rename_i e; subst e; cases h; exact ⟨_, _, by decide +kernel, .inl ⟨_, rfl⟩, call_abs, repA_abs, by decide⟩
    · split at h
      · rename_i e; subst e; cases h; exact ⟨_, _, by decide +kernel, .inl ⟨_, rfl⟩, CallR.or (call_max2 hc) (CallR.or (cr_max hc) (cr_maxT hc)), repA_max, by decide⟩
      · split at h
        · rename_i e; subst e; cases h; exact ⟨_, _, by decide +kernel, .inl ⟨_, rfl⟩, CallR.or (call_min2 hc) (CallR.or (cr_min hc) (cr_minT hc)), repA_min, by decide⟩
        · split at h
          · rename_i e; subst e; cases h; exact ⟨_, _, by decide +kernel, .inl ⟨_, rfl⟩, call_len, repA_len, by decide⟩
          · split at h
            · rename_i e; subst e; cases h; exact ⟨_, _, by decide +kernel, .inr ⟨_, rfl⟩, call_list_of, repA_list, by decide⟩
            · split at h
              · rename_i e; subst e; cases h; exact ⟨_, _, by decide +kernel, .inl ⟨_, rfl⟩, cr_sum hc, repA_sum, by decide⟩
              · cases h
theorem call_ok (k : Ctx c X W) (R : RecOk X W (r c)) {x : Str} {es : List Expr} {m : ME} {p : Pos} (h : cCall c r x es = some m) : PE X (.Call (.Name x p) es [] pos) (r3E X.K W m) := by
  unfold cCall at h
  split at h
  · rename_i hg
    obtain ⟨hg, hne⟩ := hg
    obtain ⟨g1, g2⟩ := k.gl hg
    obtain ⟨e, es, rfl⟩ : ∃ e es', es = e :: es' := by
      cases es with
      | nil => exact absurd rfl hne
      | cons e es => exact ⟨e, es, rfl⟩
    have stars : (((e :: es).all fun e => !isStar e) = true) → isStar e = false ∧ (es.all fun e => !isStar e) = true := fun h => by
      rw [List.all_cons, Bool.and_eq_true] at h
      exact ⟨by simpa using h.1, h.2⟩
    split at h
    · rename_i n S e1
      split at h
      · rename_i hl
        obtain ⟨ms, e2, rfl⟩ := mapS h
        obtain ⟨h1, h2⟩ := R.A _ _ e2
        obtain ⟨h3, h4⟩ := stars h1
        exact pe3_call (k.fns x n S e1) k.tk g1 h2 g2 (star1 h3) (starAny h4)
      · cases h
    · split at h
      · rename_i y n S ex e1
        obtain ⟨ms, e2, rfl⟩ := mapS h
        obtain ⟨h1, h2⟩ := R.A _ _ e2
        obtain ⟨h3, h4⟩ := stars h1
        have hmem := List.mem_of_find?_eq_some e1
        have hp := List.find?_some e1
        have hy : y = x := by
          have := (Bool.and_eq_true_iff.mp hp).1
          simpa using this
        subst hy
        exact pe3_make (k.mks _ hmem) k.tk g1 h2 g2 (star1 h3) (starAny h4)
      · split at h
        · rename_i hi
          split at h
          · rename_i e0 t0 hes
            cases hes
            split at h
            · cases h
            · rename_i hst
              exact isi_ok k R hi.1 hi.2 (by simpa using hst) h
          · cases h
        · split at h
          · rename_i hgc
            obtain ⟨ms, e2, rfl⟩ := mapS h
            obtain ⟨rfl, hgc⟩ := hgc
            obtain ⟨h1, h2⟩ := R.A _ _ e2
            obtain ⟨h3, h4⟩ := stars h1
            exact peW (pe_callBfun cr_gcd g1 (k.gcd hgc) h2 g2 (star1 h3) (starAny h4)) fun σ H Q h => cb3 repA_I2 h
          · split at h
            · rename_i hcf
              obtain ⟨hc, hfr⟩ := hcf
              obtain ⟨_, _, hm⟩ := k.fr hfr
              split at h
              · rename_i f ef
                obtain ⟨ms, e2, rfl⟩ := mapS h
                obtain ⟨h1, h2⟩ := R.A _ _ e2
                obtain ⟨h3, h4⟩ := stars h1
                obtain ⟨v, rr, b1, b2, b3, b4, b5⟩ := bi_ok (k.calm hc).1 ef
                rcases b2 with ⟨id, rfl⟩ | ⟨T, rfl⟩
                · exact peW (pe_callB b3 g1 hm b1 h2 b5 g2 (star1 h3) (starAny h4)) fun σ H Q h => cb3 b4 h
                · exact peW (pe_callTy b3 g1 hm b1 h2 b5 g2 (star1 h3) (starAny h4)) fun σ H Q h => cb3 b4 h
              · cases h
            · cases h
  · cases h
theorem lm2 {op op' : CmpOp} {b d : Expr} (h : isSet d = false) : lastMarks [op, op'] [b, d] = false := behind0 h
theorem stepE_ok (k : Ctx c X W) (R : RecOk X W (r c)) {e : Expr} {m : ME} (h : stepE c r e = some m) : isStar e = false ∧ PE X e (r3E X.K W m) := by
  unfold stepE at h
  split at h
  · exact ⟨rfl, name_ok k h⟩
  · exact ⟨rfl, const_ok h⟩
  · split at h
    · rename_i f ma mb e1 e2 e3
      cases h
      obtain ⟨rr, h1, h2⟩ := binF_ok k e1
      exact ⟨rfl, pe3_op h1 h2 (R.E _ _ e2).2 (R.E _ _ e3).2⟩
    · cases h
  · obtain ⟨ma, e1, rfl⟩ := mapS h
    exact ⟨rfl, pe3_un un_neg rep_neg (R.E _ _ e1).2⟩
  · obtain ⟨ma, e1, rfl⟩ := mapS h
    exact ⟨rfl, pe3_not (R.E _ _ e1).2⟩
  · split at h
    · rename_i f ma mb e1 e2 e3
      split at h
      · cases h
      · rename_i hs
        cases h
        obtain ⟨rr, h1, h2⟩ := cmpF_ok k e1
        exact ⟨rfl, pe3_cmp h1 h2 (R.E _ _ e2).2 (R.E _ _ e3).2 (behind0 (by simpa using hs))⟩
    · cases h
  · split at h
    · rename_i f g ma mb md e1 e2 e3 e4 e5
      split at h
      · cases h
      · rename_i hs
        cases h
        simp only [Bool.or_eq_true, not_or, Bool.not_eq_true] at hs
        obtain ⟨rr, h1, h2⟩ := cmpF_ok k e1
        obtain ⟨rr', h1', h2'⟩ := cmpF_ok k e2
        exact ⟨rfl, pe3_chain (pe_chain h1 h1' (R.E _ _ e3).2 (R.E _ _ e4).2 (R.E _ _ e5).2 (lm2 hs.2)) h2 h2'⟩
    · cases h
  · exact ⟨rfl, pe_one (R.E _ _ h).2⟩
  · split at h
    · rename_i ma mb e1 e2
      cases h
      exact ⟨rfl, pe3_and (R.E _ _ e1).2 (R.E _ _ e2).2⟩
    · cases h
  · split at h
    · rename_i ma mb e1 e2
      cases h
      exact ⟨rfl, pe3_or (R.E _ _ e1).2 (R.E _ _ e2).2⟩
    · cases h
  · split at h
    · rename_i t ma mb e1 e2 e3
      cases h
      exact ⟨rfl, pe3_if (R.T _ _ e1) (R.E _ _ e2).2 (R.E _ _ e3).2⟩
    · cases h
  · obtain ⟨ms, e1, rfl⟩ := mapS h
    exact ⟨rfl, pe3_tup (R.A _ _ e1).2⟩
  · obtain ⟨ms, e1, rfl⟩ := mapS h
    exact ⟨rfl, pe3_lst (R.A _ _ e1).2⟩
  · obtain ⟨ma, e1, rfl⟩ := mapS h
    exact ⟨rfl, pe3_slice (R.E _ _ e1).2 po3_none po3_none⟩
  · split at h
    · rename_i ma ml e1 e2
      cases h
      exact ⟨rfl, pe3_slice (R.E _ _ e1).2 (po3_some (R.E _ _ e2).2) po3_none⟩
    · cases h
  · split at h
    · rename_i ma ml e1 e2
      cases h
      exact ⟨rfl, pe3_slice (R.E _ _ e1).2 po3_none (po3_some (R.E _ _ e2).2)⟩
    · cases h
  · split at h
    · rename_i ma ml mh e1 e2 e3
      cases h
      exact ⟨rfl, pe3_slice (R.E _ _ e1).2 (po3_some (R.E _ _ e2).2) (po3_some (R.E _ _ e3).2)⟩
    · cases h
  · split at h
    · cases h
    · rename_i hsl
      split at h
      · rename_i ma mb e1 e2
        cases h
        simp only [Bool.or_eq_true, not_or, Bool.not_eq_true] at hsl
        have hu := (k.calm (by simpa using hsl.2)).2
        exact ⟨rfl, pe3_ix (by omega) (R.E _ _ e1).2 (R.E _ _ e2).2 (plainIx hsl.1)⟩
      · cases h
  · split at h
    · rename_i hb
      split at h
      · rename_i C S ep
        obtain ⟨ma, e1, rfl⟩ := mapS h
        exact ⟨rfl, pe3_prop (k.prp _ _ _ ep) (R.E _ _ e1).2 (base1 hb)⟩
      · obtain ⟨ma, e1, rfl⟩ := mapS h
        exact ⟨rfl, pe3_fld k.tab (R.E _ _ e1).2 (base1 hb)⟩
    · cases h
  · cases h
    exact ⟨rfl, pe3_dict0⟩
  · exact ⟨rfl, call_ok k R h⟩
  · split at h
    · rename_i hg
      obtain ⟨g1, g2⟩ := k.gl hg
      split at h
      · rename_i y n kw' S ms m e1 e2 e3
        cases h
        obtain ⟨h1, h2⟩ := R.A _ _ e2
        have hmem := List.mem_of_find?_eq_some e1
        have hp := List.find?_some e1
        obtain ⟨q1, q2⟩ := Bool.and_eq_true_iff.mp hp
        obtain ⟨q2, q3⟩ := Bool.and_eq_true_iff.mp q2
        simp only [beq_iff_eq] at q1 q3
        subst q1 q3
        have hs := h1
        rw [List.all_cons, Bool.and_eq_true] at hs
        exact ⟨rfl, pe3_makeK (k.mkw _ hmem) k.tk g1 h2 (R.E _ _ e3).2 g2 (star1 (by simpa using hs.1)) (starAny h1)⟩
      · cases h
    · cases h
  · cases h
end
end L3

namespace L3
open PySem PySem.Spec PyProof.Rows L2
section
variable {c : CI} {X : Cx} {W : WX} {r : CI → Rec} {pos : Pos}
theorem stepT_ok (k : Ctx c X W) (R : RecOk X W (r c)) {e : Expr} {m : MT} (h : stepT c r e = some m) : PT X e (r3T X.K W m) := by
  unfold stepT at h
  split at h
  · obtain ⟨ma, e1, rfl⟩ := mapS h
    exact pt3_not (R.T _ _ e1)
  · exact (R.V _ _ _ h _).pt
  · split at h
    · rename_i f ma mb e1 e2 e3
      split at h
      · cases h
      · rename_i hs
        cases h
        obtain ⟨rr, h1, h2⟩ := cmpF_ok k e1
        exact pt3_cmp h1 h2 (R.E _ _ e2).2 (R.E _ _ e3).2 (behind0 (by simpa using hs))
    · cases h
  · split at h
    · rename_i f g ma mb md e1 e2 e3 e4 e5
      split at h
      · cases h
      · rename_i hs
        cases h
        simp only [Bool.or_eq_true, not_or, Bool.not_eq_true] at hs
        obtain ⟨rr, h1, h2⟩ := cmpF_ok k e1
        obtain ⟨rr', h1', h2'⟩ := cmpF_ok k e2
        exact pt3_chain (pt_chain h1 h1' (R.E _ _ e3).2 (R.E _ _ e4).2 (R.E _ _ e5).2 (lm2 hs.2)) h2 h2'
    · cases h
  · obtain ⟨ma, e1, rfl⟩ := mapS h
    exact pt3_tru (R.E _ _ e1).2 fun _ => rfl
  · obtain ⟨ma, e1, rfl⟩ := mapS h
    exact pt3_tru (R.E _ _ e1).2 fun _ => rfl
  · obtain ⟨ma, e1, rfl⟩ := mapS h
    exact pt3_tru (R.E _ _ e1).2 fun _ => rfl
  · obtain ⟨ma, e1, rfl⟩ := mapS h
    exact pt3_tru (R.E _ _ e1).2 fun _ => rfl
  · cases h
theorem stepV_ok (R : RecOk X W (r c)) {op : BoolOp} {es : List Expr} {m : MT} (h : stepV c r op es = some m) : PW X (.BoolOp op es pos) (r3T X.K W m) := by
  unfold stepV at h
  split at h
  · cases op with
    | And => exact pw3_and1 (R.T _ _ h)
    | Or => exact pw3_or1 (R.T _ _ h)
  · split at h
    · rename_i ta tb e1 e2
      cases h
      exact pw3_and (R.T _ _ e1) (R.V _ _ _ e2 _)
    · cases h
  · split at h
    · rename_i ta tb e1 e2
      cases h
      exact pw3_or (R.T _ _ e1) (R.V _ _ _ e2 _)
    · cases h
  · cases h
theorem stepA_ok (R : RecOk X W (r c)) {es : List Expr} {m : MA} (h : stepA c r es = some m) : (es.all fun e => !isStar e) = true ∧ PA X es (r3A X.K W m) := by
  unfold stepA at h
  split at h
  · cases h
    exact ⟨rfl, pa3_nil⟩
  · split at h
    · cases h
    · rename_i hs
      split at h
      · rename_i ma mr e1 e2
        cases h
        obtain ⟨a1, a2⟩ := R.A _ _ e2
        have hs' := (R.E _ _ e1).1
        exact ⟨by rw [List.all_cons, hs', a1]; rfl, pa3_cons (R.E _ _ e1).2 a2 (star1 hs')⟩
      · cases h
theorem stepG_ok (k : Ctx c X W) (R : RecOk X W (r c)) {e : Expr} {m : MG} (h : stepG c r e = some m) : isStar e = false ∧ PG X e (r3G X.K W m) := by
  unfold stepG at h
  split at h
  · split at h
    · rename_i i e1
      split at h
      · rename_i hl
        cases h
        obtain ⟨ha, hl⟩ := Bool.and_eq_true_iff.mp hl
        exact ⟨rfl, pg3_name (pg_name k.nd (by rw [k.hN]; exact idx_ok e1) (k.loc hl) (k.fn ha _ hl))⟩
      · cases h
    · cases h
  · split at h
    · rename_i hc
      obtain ⟨hc, hs⟩ := Bool.and_eq_true_iff.mp hc
      obtain ⟨u, e1, rfl⟩ := mapS h
      obtain ⟨a1, a2⟩ := R.Gs _ _ e1
      obtain ⟨b1, b2⟩ := asgAll (env := X.env) a1
      exact ⟨rfl, pg3_tup (k.calm hc).1 a2 b1 b2⟩
    · cases h
  · split at h
    · cases h
    · rename_i hs
      split at h
      · rename_i mo mi e1 e2
        cases h
        simp only [Bool.or_eq_true, not_or, Bool.not_eq_true] at hs
        have hu := (k.calm (by simpa using hs.2)).2
        exact ⟨rfl, pg3_ix (by omega) (R.E _ _ e1).2 (R.E _ _ e2).2 (asgSub hs.1)⟩
      · cases h
  · cases h
theorem stepGs_ok (R : RecOk X W (r c)) {es : List Expr} {m : MGs} (h : stepGs c r es = some m) : (es.all fun e => !isStar e) = true ∧ PGs X es (r3Gs X.K W m) := by
  unfold stepGs at h
  split at h
  · cases h
    exact ⟨rfl, pgs3_nil⟩
  · split at h
    · cases h
    · split at h
      · rename_i g u e1 e2
        cases h
        obtain ⟨a1, a2⟩ := R.Gs _ _ e2
        obtain ⟨b1, b2⟩ := R.G _ _ e1
        exact ⟨by rw [List.all_cons, b1, a1]; rfl, pgs3_cons b2 a2 (asgC b1)⟩
      · cases h
theorem stepSs_ok (R : RecOk X W (r c)) {sts : List Stmt} {m : MS} (h : stepSs c r sts = some m) : PSs X sts (r3S X.K W m) := by
  unfold stepSs at h
  split at h
  · cases h
    exact pss3_nil
  · exact pss3_one (R.S _ _ h)
  · split at h
    · rename_i a b e1 e2
      cases h
      exact pss3_cons (R.S _ _ e1) (R.Ss _ _ e2)
    · cases h
theorem notT {b : Bool} (h : (!b) = true) : b = false := by
  cases b with
  | true => cases h
  | false => rfl
theorem sw_fold {ts vs : List Expr} {k1 k2 : Nat} {p1 p2 : Pos} {env : Env} (h : vs.all (foldedForSure 8) = true) : swappedStores [.Tuple ts k1 p1] (.Tuple vs k2 p2) env = pure none := by
  unfold swappedStores
  simp only [h, if_true]
  split
  · rfl
  · split
    · rfl
    · split
      · rfl
      · rfl
theorem par_ok (k : Ctx c X W) {x y : Str} {px py pt : Pos} {a b : Expr} {kt k2 : Nat} {pt2 : Pos} (h : parOk c x y px py a b = true) :
    x ≠ y ∧ c.sc.names.lookup x = some .local ∧ c.sc.names.lookup y = some .local ∧ isStar a = false ∧ isStar b = false ∧ swappedStores [.Tuple [.Name x px, .Name y py] kt pt] (.Tuple [a, b] k2 pt2) X.env = pure (some [x, y]) := by
  unfold parOk at h
  obtain ⟨h1, h⟩ := Bool.and_eq_true_iff.mp h
  obtain ⟨h2, h⟩ := Bool.and_eq_true_iff.mp h
  obtain ⟨h3, h⟩ := Bool.and_eq_true_iff.mp h
  obtain ⟨h4, h⟩ := Bool.and_eq_true_iff.mp h
  obtain ⟨h5, h⟩ := Bool.and_eq_true_iff.mp h
  obtain ⟨h6, h⟩ := Bool.and_eq_true_iff.mp h
  obtain ⟨h7, h8⟩ := Bool.and_eq_true_iff.mp h
  have h1 := of_decide_eq_true h1
  have h2 := of_decide_eq_true h2
  have h3 := of_decide_eq_true h3
  have h4 := of_decide_eq_true h4
  have h7 : isStar a = false := by simpa using h7
  have h8 : isStar b = false := by simpa using h8
  have h5 : [a, b].all (foldedForSure 8) = false := notT h5
  have h6 : [a, b].all (constantsAlone 8) = false := notT h6
  refine ⟨h2, h3, h4, h7, h8, ?_⟩
  have kx : X.env.kindOf x = some .local := by
    show X.env.scope.names.lookup x = _
    rw [k.sc]; exact h3
  have ky : X.env.kindOf y = some .local := by
    show X.env.scope.names.lookup y = _
    rw [k.sc]; exact h4
  have bk : X.env.blockKind = .function := by
    unfold Env.blockKind
    rw [k.sc, k.kind]
    rfl
  have st : ∀ f : Expr → Bool, (∀ e, isStar e = false → f e = false) → [a, b].any f = false := fun f hf => by
    rw [List.any_cons, List.any_cons, List.any_nil, hf a h7, hf b h8]
    rfl
  have yx : (y == x) = false := by simpa using h2.symm
  unfold swappedStores
  simp only [pure_bind, bk, List.length_cons, List.length_nil, h5, h6]
  rw [st _ (by intro e he; cases e <;> first | rfl | cases he)]
  have e2 : [x, y].eraseDups = [x, y] := by simp [List.eraseDups_cons, yx]
  simp only [List.filterMap_cons, List.filterMap_nil, List.head?_cons, Option.map_some, Option.getD_some, Expr.pos, kx, ky, h1, beq_self_eq_true, Bool.and_self, if_true, e2]
  rfl
theorem Ctx.toTry (k : Ctx c X W) {W' : WX} {pn : List (Addr × Obj)} {xe : Value → Shared → Prop} (tk : Takes (X.tr pn xe) W') (po : PassesOwn (model X.prog X.w) X.A X.env xe) (he : c.exc = none) : Ctx c (X.tr pn xe) W' where
  hN := k.hN
  nd := k.nd
  sc := k.sc
  kind := k.kind
  fn := k.fn
  calm := k.calm
  tk := tk
  po := po
  top := k.top
  fns := fun x n S h => ⟨(k.fns x n S h).ex⟩
  mks := fun q h => ⟨(k.mks q h).ex⟩
  mkw := fun q h => ⟨(k.mkw q h).ex⟩
  mth := fun m C n S h => ⟨(k.mth m C n S h).ex⟩
  cst := k.cst
  sts := fun m C n S h => ⟨(k.sts m C n S h).ex⟩
  stro := fun C S h => ⟨(k.stro C S h).ex⟩
  tab := k.tab
  ocl := k.ocl
  exs := k.exs
  exg := k.exg
  exa := k.exa
  exb := k.exb
  free := k.free
  own := fun o h => ⟨fun op S e => ⟨((k.own o h).1 op S e).ex⟩, ⟨(k.own o h).2.1.ex⟩, (k.own o h).2.2⟩
  gcd := k.gcd
  prp := fun f C S h => ⟨(k.prp f C S h).ex⟩
  exc := fun i C a h => by rw [he] at h; cases h
theorem Ctx.toSuite (k : Ctx c X W) {i : Nat} {C : Str} {a : Addr} {oe : Obj} {pn : List (Addr × Obj)} (hC : C ∈ c.exs) (hz : Zc (.ref (He.ga X.K C)) none oe) (hf : ∃ vs, oe.data = .fields vs) : Ctx (sfx c i C a) (X.suite a ((a, oe) :: pn)) (fun _ _ _ _ => False) where
  hN := k.hN
  nd := k.nd
  sc := k.sc
  kind := k.kind
  fn := k.fn
  calm := fun h => nomatch (show false = true from h)
  tk := takes0
  po := PassesOwn.never
  top := fun h => nomatch (show false = true from h)
  fns := fun x n S h => nomatch h
  mks := fun q h => nomatch h
  mkw := fun q h => nomatch h
  mth := fun m C n S h => nomatch h
  cst := k.cst
  sts := fun m C n S h => nomatch h
  stro := fun C S h => nomatch h
  tab := k.tab
  ocl := k.ocl
  exs := k.exs
  exg := k.exg
  exa := k.exa
  exb := k.exb
  free := k.free
  own := fun o h => nomatch h
  gcd := k.gcd
  prp := fun f C S h => nomatch h
  exc := fun i' C' a' h => by
    cases h
    exact ⟨X, oe, pn, rfl, hC, hz, hf⟩
/-- one step, given the rest for every context -/
structure Alls (r : CI → Rec) : Prop where
  ok : ∀ c X W, Ctx c X W → RecOk X W (r c)
theorem sui_ok {X : Cx} {W : WX} {fs : List (Str × D)} {o : Option MS} {sts : List Stmt} (h : fs = [] → ∀ m, o = some m → PSs X sts (r3S X.K W m)) : PSs X sts (r3S X.K W (sui fs o)) := by
  refine ⟨fun pins s σ H E I ⟨Γ, O, H0, P, env, st, hm, l⟩ => ?_⟩
  obtain ⟨hf, hm⟩ := hm
  cases o with
  | none => exact hm.elim
  | some m => exact (h hf m rfl).run pins s σ H E I ⟨Γ, O, H0, P, env, st, hm, l⟩
theorem relS_loc {scope sc : Scope} {x : Str} : (relS scope sc).names.lookup x = some .local → scope.names.lookup x = some .local := fun h => by
  obtain ⟨k', e, q⟩ := lookup_relS h
  rcases q with rfl | ⟨_, q⟩
  · exact e
  · cases q
/-- the context of a comprehension's block -/
theorem Ctx.toBlk (k : Ctx c X W) {scope : Scope} {own : List (Str × Nat)} (ok : BlkOk X.N X.env.scope scope own) (hne : c.exc = none) (s : Shared) (H : Hp) (C : Addr) (cl : List (Str × Addr)) (fp : List Addr) :
    Ctx (blkI c scope) (X.blk s H scope (compEnvC scope cl C X.env) fp) (fun _ _ _ _ => False) where
  hN := k.hN
  nd := k.nd
  sc := by
    show relS scope X.env.scope = relS scope c.sc
    rw [k.sc]
  kind := ok.kind
  fn := fun h => nomatch (show false = true from h)
  calm := k.calm
  tk := takes0
  po := PassesOwn.never
  top := fun h => nomatch (show false = true from h)
  fns := fun x n S h => ⟨(k.fns x n S h).ex⟩
  mks := fun q h => ⟨(k.mks q h).ex⟩
  mkw := fun q h => ⟨(k.mkw q h).ex⟩
  mth := fun m C n S h => ⟨(k.mth m C n S h).ex⟩
  cst := k.cst
  sts := fun m C n S h => ⟨(k.sts m C n S h).ex⟩
  stro := fun C S h => ⟨(k.stro C S h).ex⟩
  tab := k.tab
  ocl := k.ocl
  exs := k.exs
  exg := k.exg
  exa := k.exa
  exb := k.exb
  free := k.free
  own := fun o h => ⟨fun op S e => ⟨((k.own o h).1 op S e).ex⟩, ⟨(k.own o h).2.1.ex⟩, (k.own o h).2.2⟩
  gcd := k.gcd
  prp := fun f C S h => ⟨(k.prp f C S h).ex⟩
  exc := fun i C a h => by
    have h2 : c.exc = some (i, C, a) := h
    rw [hne] at h2
    cases h2
theorem tgNs_ok {N : List Str} {sc : Scope} {Y : Cx} (hN : Y.N = c.N) (nd : Y.N.Nodup) (hsc : Y.env.scope = sc) : ∀ {es : List Expr} {own : List (Str × Nat)}, cTgNs c sc es = some own → (es.all fun e => !isStar e) = true ∧ own.length = es.length ∧ PGs Y es (gNs (own.map (·.2)))
  | [], own, h => by
    cases h
    exact ⟨rfl, rfl, pgs_nil⟩
  | e :: es, own, h => by
    cases e with
    | Name x p =>
      have h2 : (match idx c.N x, cTgNs c sc es with
        | some i, some r => if sc.names.lookup x = some .local then some ((x, i) :: r) else none
        | _, _ => none) = some own := h
      split at h2
      · rename_i i r e1 e2
        split at h2
        · rename_i hl
          cases h2
          obtain ⟨a1, a2, a3⟩ := tgNs_ok (N := N) hN nd hsc e2
          have hl2 : Y.env.scope.names.lookup x = some .local := by rw [hsc]; exact hl
          exact ⟨by rw [List.all_cons, a1]; rfl, by simp [a2], pgs_cons (pg_name nd (by rw [hN]; exact idx_ok e1) (.inl hl2) (.inr hl2)) a3 (asgC rfl)⟩
        · cases h2
      · cases h2
    | _ => cases h
theorem tgN_pg {sc : Scope} {Y : Cx} (hc : Y.calm = true) (hN : Y.N = c.N) (nd : Y.N.Nodup) (hsc : Y.env.scope = sc) {tg : Expr} {own : List (Str × Nat)} {tn : TgN} (h : cTgN c sc tg = some (own, tn)) : tn.vs = own.map (·.2) ∧ PG Y tg (tn.g Y.K) := by
  unfold cTgN at h
  split at h
  · split at h
    · rename_i i e1
      split at h
      · rename_i hl
        cases h
        have hl2 := hl
        rw [← hsc] at hl2
        exact ⟨rfl, pg_name nd (by rw [hN]; exact idx_ok e1) (.inl hl2) (.inr hl2)⟩
      · cases h
    · cases h
  · obtain ⟨ps, e1, e2⟩ := mapS h
    cases e2
    obtain ⟨a1, a2, a3⟩ := tgNs_ok (N := c.N) hN nd hsc e1
    obtain ⟨b1, b2⟩ := asgAll (env := Y.env) a1
    refine ⟨rfl, ?_⟩
    show PG Y _ (gTup Y.K (own.map (·.2)).length (gNs (own.map (·.2))))
    exact pg_tup hc a3 (by rw [b1, List.length_map, a2]) b2
  · cases h
theorem ifs_ok {Y : Cx} {R : Rec} (h0 : RecOk Y (fun _ _ _ _ => False) R) {ifs : List Expr} {t : MT} (h : cIfs R ifs = some t) : PTs Y ifs (r3T Y.K (fun _ _ _ _ => False) t) := by
  unfold cIfs at h
  split at h
  · cases h
    exact ⟨fun pins s σ H Q I ⟨Γ, O, H0, Z, P, env, st, hm, lx, lv⟩ => (pts_nil (X := Y)).run pins s σ H Q I (lv H0 true O H (Same.refl _) st hm)⟩
  · exact pts_one (h0.T _ _ h)
  · cases h
theorem cIter_ok {r : CI → Rec} (R : RecOk X W (r c)) (k : Ctx c X W) {it : Expr} {mi : MI} (h : cIter c r it = some mi) : (∀ tg, PI X tg it (r3I X.K W mi)) ∧ ∀ x, foldedSetIterable it X.env x = pure x := by
  unfold cIter at h
  split at h
  · rename_i x p e q
    split at h
    · rename_i hx
      split at h
      · rename_i hf
        subst hx
        obtain ⟨hf, hst⟩ := Bool.and_eq_true_iff.mp hf
        have hst : isStar e = false := by simpa using hst
        obtain ⟨g1, g2, g3⟩ := k.fr hf
        obtain ⟨ms, e3, rfl⟩ := mapS h
        exact ⟨fun tg => pi3_r1 g1 g3 (R.A _ _ e3).2 (star1 hst), fun _ => rfl⟩
      · cases h
    · obtain ⟨ma, e3, rfl⟩ := mapS h
      exact ⟨fun tg => pi3_seq (R.E _ _ e3).2, fun _ => rfl⟩
  · rename_i x p e e' q
    split at h
    · rename_i hx
      split at h
      · rename_i hf
        subst hx
        obtain ⟨hf, hst⟩ := Bool.and_eq_true_iff.mp hf
        have hst : isStar e = false ∧ isStar e' = false := by simpa using hst
        obtain ⟨g1, g2, g3⟩ := k.fr hf
        obtain ⟨ms, e3, rfl⟩ := mapS h
        exact ⟨fun tg => pi3_r2 g1 g3 (R.A _ _ e3).2 ((star1 hst.1).trans (congrArg _ (star1 hst.2))) (star1 hst.2), fun _ => rfl⟩
      · cases h
    · obtain ⟨ma, e3, rfl⟩ := mapS h
      exact ⟨fun tg => pi3_seq (R.E _ _ e3).2, fun _ => rfl⟩
  · rename_i e m apos cpos
    split at h
    · rename_i hm
      subst hm
      split at h
      · rename_i hb
        obtain ⟨hb0, hb1⟩ := Bool.and_eq_true_iff.mp hb
        obtain ⟨ma, e3, rfl⟩ := mapS h
        exact ⟨fun tg => pi3_vals (R.E _ _ e3).2 (base1 hb0) hb1, fun _ => rfl⟩
      · cases h
    · obtain ⟨ma, e3, rfl⟩ := mapS h
      exact ⟨fun tg => pi3_seq (R.E _ _ e3).2, fun _ => rfl⟩
  · split at h
    · cases h
    · rename_i hs
      obtain ⟨ma, e3, rfl⟩ := mapS h
      exact ⟨fun tg => pi3_seq (R.E _ _ e3).2, fold1 (by simpa using hs)⟩
structure CompOk (c : CI) (X : Cx) (W : WX) (elt tg iter : Expr) (ifs : List Expr) (scope : Scope) (m : ME) : Prop where
  ex : ∃ mi tn t e own, m = mComp mi tn t e ∧ X.calm = true ∧ PI X tg iter (r3I X.K W mi) ∧ BlkOk X.N X.env.scope scope own ∧ tn.vs = own.map (·.2) ∧
    (∀ (s : Shared) (H : Hp) (C : Addr) (cl : List (Str × Addr)) (fp : List Addr), PG (X.blk s H scope (compEnvC scope cl C X.env) fp) tg (tn.g X.K)) ∧
    (∀ (s : Shared) (H : Hp) (C : Addr) (cl : List (Str × Addr)) (fp : List Addr), PTs (X.blk s H scope (compEnvC scope cl C X.env) fp) ifs (r3T X.K (fun _ _ _ _ => False) t)) ∧
    (∀ (s : Shared) (H : Hp) (C : Addr) (cl : List (Str × Addr)) (fp : List Addr), PE (X.blk s H scope (compEnvC scope cl C X.env) fp) elt (r3E X.K (fun _ _ _ _ => False) e)) ∧ ∀ x, foldedSetIterable iter X.env x = pure x
theorem cComp_ok {r : CI → Rec} (A : Alls r) (k : Ctx c X W) {elt tg iter : Expr} {ifs : List Expr} {scope : Scope} {m : ME} (h : cComp c r elt tg iter ifs scope = some m) : CompOk c X W elt tg iter ifs scope m := by
  unfold cComp at h
  split at h
  · rename_i own tn e1
    split at h
    · rename_i hc
      obtain ⟨hc, h2⟩ := Bool.and_eq_true_iff.mp hc
      obtain ⟨hx, h2⟩ := Bool.and_eq_true_iff.mp h2
      have hb := h2
      have hne : c.exc = none := by
        cases q : c.exc with
        | none => rfl
        | some z => rw [q] at hx; cases hx
      have ok : BlkOk X.N X.env.scope scope own := by
        rw [k.hN, k.sc]
        exact blkOk_by hb
      have hcalm := (k.calm hc).1
      split at h
      · rename_i mi t e e2 e3 e4
        cases h
        have cb := fun s H C cl fp => k.toBlk ok hne s H C cl fp
        have rb := fun s H C cl fp => A.ok _ _ _ (cb s H C cl fp)
        have g := fun s H C cl fp => tgN_pg (c := c) (sc := relS scope c.sc) (Y := X.blk s H scope (compEnvC scope cl C X.env) fp) hcalm k.hN k.nd (by show relS scope X.env.scope = _; rw [k.sc]) e1
        obtain ⟨i1, i2⟩ := cIter_ok (A.ok _ _ _ k) k e2
        exact ⟨mi, tn, t, e, own, rfl, hcalm, i1 tg, ok, (g X.s_0 X.H_0 0 [] []).1, fun s H C cl fp => (g s H C cl fp).2, fun s H C cl fp => ifs_ok (rb s H C cl fp) e3, fun s H C cl fp => ((rb s H C cl fp).E _ _ e4).2, i2⟩
      · cases h
    · cases h
  · cases h
theorem few_ok {o : Expr} {pos : Pos} {env : Env} {es : List Expr} (h : (es.all fun e => !isStar e) = true) : (backTo pos (starEach es env)).all (fun x => !x.1) = true := by
  induction es with
  | nil => rfl
  | cons e es ih =>
    rw [List.all_cons, Bool.and_eq_true] at h
    have h1 : isStar e = false := by simpa using h.1
    rw [star1 h1]
    show (!false && (backTo pos (starEach es env)).all (fun x => !x.1)) = true
    rw [ih h.2]
    rfl
theorem parts_ok {r : Rec} (R : RecOk X W r) : ∀ {es : List Expr} {ms : List ME}, cParts r es = some ms → PJ X es (ms.map (r3E X.K W))
  | [], ms, h => by
    cases h
    exact .nil
  | e :: es, ms, h => by
    have h2 : (match r.E e, cParts r es with
      | some m, some ms => some (m :: ms)
      | _, _ => none) = some ms := h
    split at h2
    · rename_i m ms' e1 e2
      cases h2
      exact .cons (R.E _ _ e1).2 (parts_ok R e2)
    · cases h2
theorem cGet_ok {r : CI → Rec} (k : Ctx c X W) (R : RecOk X W (r c)) {o e : Expr} {es : List Expr} {apos cpos : Pos} {m : ME} (hb : attributeBase o "get" X.env (eval o X.env) = eval o X.env) (hp : (apos.endLine == cpos.line) = true) (h : cGet c r o e es = some m) :
    PE X (.Call (.Attribute o "get" apos) (e :: es) [] cpos) (r3E X.K W m) := by
  unfold cGet at h
  split at h
  · rename_i hc
    obtain ⟨hc, he⟩ := Bool.and_eq_true_iff.mp hc
    have he : isStar e = false := by simpa using he
    have hu := (k.calm hc).2
    have st1 : starEach [e] X.env = [(false, eval e X.env)] := star1 he
    split at h
    · split at h
      · rename_i mo mk e1 e2
        cases h
        refine pe3_get1 (by omega) (R.E _ _ e1).2 (R.E _ _ e2).2 ⟨hb, ?_, hp, ?_⟩
        · rw [st1]; rfl
        · rw [st1]; rfl
      · cases h
    · rename_i f
      split at h
      · cases h
      · rename_i hf
        have hf : isStar f = false := by simpa using hf
        have st2 : starEach [e, f] X.env = [(false, eval e X.env), (false, eval f X.env)] := (star1 he).trans (congrArg _ (star1 hf))
        split at h
        · rename_i mo mk mx e1 e2 e3
          cases h
          refine pe3_get2 (by omega) (R.E _ _ e1).2 (R.E _ _ e2).2 (R.E _ _ e3).2 ⟨hb, ?_, hp, ?_⟩
          · rw [st2]; rfl
          · rw [st2]; rfl
        · cases h
    · cases h
  · cases h
theorem stepC_ok {r : CI → Rec} (A : Alls r) (k : Ctx c X W) {e : Expr} {m : ME} (h : stepC c r e = some m) : isStar e = false ∧ PE X e (r3E X.K W m) := by
  have R := A.ok _ _ _ k
  unfold stepC at h
  split at h
  · obtain ⟨mi, tn, t, e, own, rfl, hc, hi, ok, hv, hg, ht, he, hs⟩ := (cComp_ok A k h).ex
    refine ⟨rfl, peW (pe_lc hc k.nd hi ok hg ht he hs) fun σ H Q q => ?_⟩
    rw [← hv]
    exact lc3 q
  · rename_i o m' apos e es pos
    split at h
    · rename_i hb
      obtain ⟨hb0, h2⟩ := Bool.and_eq_true_iff.mp hb
      obtain ⟨hl, hp⟩ := Bool.and_eq_true_iff.mp h2
      have hl := of_decide_eq_true hl
      refine ⟨rfl, ?_⟩
      have stars : ∀ {ms : MA}, (r c).A (e :: es) = some ms → isStar e = false ∧ (es.all fun e => !isStar e) = true := fun hA => by
        have h := (R.A _ _ hA).1
        rw [List.all_cons, Bool.and_eq_true] at h
        exact ⟨by simpa using h.1, h.2⟩
      have tree : ∀ {ms : MA}, (r c).A (e :: es) = some ms → methodCallForm ((e :: es).length + 0) (backTo pos (starEach (e :: es) X.env)) (backToKw pos (keywordEach [] X.env)) = true := fun hA => by
        unfold methodCallForm
        rw [few_ok (o := o) (R.A _ _ hA).1]
        show (true && true && decide ((e :: es).length + 0 + 0 < 30)) = true
        simp
        omega
      split at h
      · rename_i C n S e1
        split at h
        · rename_i hg
          obtain ⟨ms, e3, rfl⟩ := mapS h
          obtain ⟨s1, s2⟩ := stars e3
          unfold isGlobal at hg
          split at hg
          · obtain ⟨hy0, hg1⟩ := Bool.and_eq_true_iff.mp hg
            obtain ⟨_, hg2⟩ := Bool.and_eq_true_iff.mp hg1
            have hy := of_decide_eq_true hy0
            subst hy
            obtain ⟨g1, g2⟩ := k.gl hg2
            exact pe3_statC (k.sts _ _ _ _ e1) k.tk g1 g2 (R.A _ _ e3).2 (star1 s1) (starAny s2) (mcall_tree (base1 hb0) (tree e3) hp)
          · cases hg
        · split at h
          · rename_i mo ms e2 e3
            cases h
            obtain ⟨s1, s2⟩ := stars e3
            exact pe3_statI (k.sts _ _ _ _ e1) k.tk (R.E _ _ e2).2 (R.A _ _ e3).2 (star1 s1) (starAny s2) (mcall_tree (base1 hb0) (tree e3) hp)
          · cases h
      split at h
      · rename_i C n S e1
        split at h
        · rename_i mo ms e2 e3
          cases h
          obtain ⟨s1, s2⟩ := stars e3
          refine pe3_meth (k.mth _ _ _ _ e1) k.tk (R.E _ _ e2).2 (R.A _ _ e3).2 (star1 s1) (starAny s2) (mcall_tree (base1 hb0) ?_ hp)
          unfold methodCallForm
          rw [few_ok (o := o) (R.A _ _ e3).1]
          show (true && true && decide ((e :: es).length + 0 + 0 < 30)) = true
          simp
          omega
        · cases h
      · split at h
        · rename_i hm
          subst hm
          exact cGet_ok k R (base1 hb0) hp h
        split at h
        · rename_i hm
          obtain ⟨rfl, rfl⟩ := hm
          split at h
          · rename_i mo ms e2 e3
            cases h
            obtain ⟨s1, s2⟩ := stars e3
            refine pe3_app (pe_bm PySem.F.plainAttrs_list PySem.F.slot_list_append PySem.F.type_list_append mt_append (R.E _ _ e2).2 (R.A _ _ e3).2 (base1 hb0) ?_ hp (star1 s1) (starAny s2))
            rw [few_ok (o := o) (R.A _ _ e3).1]
            rfl
          · cases h
        · split at h
          · rename_i hes
            subst hes
            split at h
            · rename_i f mo ms e1 e2 e3
              cases h
              obtain ⟨s1, s2⟩ := stars e3
              obtain ⟨id, rr, q1, q2, q3, q4⟩ := sm1_ok (X := X) e1
              refine peW (pe_bm PySem.F.plainAttrs_str q1 q2 q3 (R.E _ _ e2).2 (R.A _ _ e3).2 (base1 hb0) ?_ hp (star1 s1) (starAny s2)) fun σ H Q h => sm3 q4 h
              rw [few_ok (o := o) (R.A _ _ e3).1]
              rfl
            · cases h
          · cases h
    · cases h
  · split at h
    · rename_i hb
      obtain ⟨hb0, hp⟩ := Bool.and_eq_true_iff.mp hb
      split at h
      · rename_i f mo e1 e2
        cases h
        obtain ⟨id, rr, q1, q2, q3, q4⟩ := sm0_ok (X := X) e1
        exact ⟨rfl, peW (pe_bm0 PySem.F.plainAttrs_str q1 q2 q3 (R.E _ _ e2).2 (base1 hb0) hp) fun σ H Q h => sm30 q4 h⟩
      · cases h
    · cases h
  · split at h
    · rename_i hk
      subst hk
      obtain ⟨ma, e1, rfl⟩ := mapS h
      exact ⟨rfl, pe3_fmt (R.E _ _ e1).2⟩
    · cases h
  · obtain ⟨ms, e1, rfl⟩ := mapS h
    exact ⟨rfl, pe3_joined (parts_ok R e1)⟩
  · split at h
    · rename_i hx
      obtain ⟨rfl, hf, hs⟩ := hx
      obtain ⟨ma, e1, rfl⟩ := mapS h
      obtain ⟨g1, g2, g3⟩ := k.fr hf
      exact ⟨rfl, pe3_tupleOf g1 g3 (R.E _ _ e1).2 (star1 hs)⟩
    · split at h
      · rename_i hx
        obtain ⟨rfl, hf, hs⟩ := hx
        obtain ⟨ms, e1, rfl⟩ := mapS h
        obtain ⟨g1, g2, g3⟩ := k.fr hf
        refine ⟨rfl, ?_⟩
        have bt : bootBuiltins ("str" : Str) = some (.type "str") := by decide +kernel
        cases q : c.stro with
        | none => exact peW (pe_callTy (CallR.or call_str_int SkE.call_str_str) g1 g3 bt (R.A _ _ e1).2 (by decide) g2 (star1 hs) rfl) fun σ H Q h => cb3 repA_str h
        | some z =>
          obtain ⟨C, S⟩ := z
          exact peW (pe_callTy (CallR.or (call_strOwn (k.stro C S q)) (CallR.or call_str_int SkE.call_str_str)) g1 g3 bt (R.A _ _ e1).2 (by decide) g2 (star1 hs) rfl) fun σ H Q h => cb3 repA_strO h
      · cases h
  · cases h
theorem stepS_ok (A : Alls r) (k : Ctx c X W) {st : Stmt} {m : MS} (h : stepS c r st = some m) : PS X st (r3S X.K W m) := by
  have R := A.ok c X W k
  unfold stepS at h
  split at h
  · cases h; exact ps3_pass
  · cases h; exact ps3_break
  · cases h; exact ps3_continue
  · cases h; exact ps3_retN
  · split at h
    · obtain ⟨ma, e1, rfl⟩ := mapS h
      exact ps3_retL (R.E _ _ e1).2
    · obtain ⟨ma, e1, rfl⟩ := mapS h
      exact ps3_ret (R.E _ _ e1).2
  · split at h
    · cases h
    · rename_i hc
      obtain ⟨ma, e1, rfl⟩ := mapS h
      exact ps3_expr (R.E _ _ e1).2 (sw_none (by simpa using hc))
  · split at h
    · rename_i t a b e1 e2 e3
      cases h
      exact ps3_if (R.T _ _ e1) (R.Ss _ _ e2) (R.Ss _ _ e3)
    · cases h
  · split at h
    · rename_i t b e1 e2
      cases h
      exact ps3_while k.po (R.T _ _ e1) (R.Ss _ _ e2)
    · cases h
  · split at h
    · rename_i hc
      have hcalm := (k.calm hc).1
      split at h
      · rename_i mi g b e0 e1 e2
        cases h
        obtain ⟨i1, i2⟩ := cIter_ok R k e0
        exact ps3_for k.po hcalm (i1 _) (R.G _ _ e1).2 (R.Ss _ _ e2) i2
      · cases h
    · cases h
  · split at h
    · cases h
    · rename_i hc
      split at h
      · rename_i mo me e1 e2
        cases h
        exact ps3_setA k.tab (R.E _ _ e1).2 (R.E _ _ e2).2 (sw_none (by simpa using hc))
      · cases h
  · split at h
    · rename_i hc
      obtain ⟨hc, hp⟩ := Bool.and_eq_true_iff.mp hc
      obtain ⟨p1, p2, p3, p4, p5, p6⟩ := par_ok k hp
      split at h
      · rename_i i j ms e1 e2 e3
        cases h
        have hi := idx_ok e1
        have hj := idx_ok e2
        have hij : i ≠ j := fun q => p1 (by
          subst q
          rw [hi] at hj
          exact Option.some.inj hj)
        refine ps3_par (ps_par (k.calm hc).1 k.nd (by rw [k.hN]; exact hi) (by rw [k.hN]; exact hj) hij (by rw [k.sc]; exact p2) (by rw [k.sc]; exact p3) (R.A _ _ e3).2 p6)
      · cases h
    · split at h
      · rename_i hfo
        split at h
        · rename_i m' g e1 e2
          cases h
          exact ps3_asg (R.E _ _ e1).2 (R.G _ _ e2).2 rfl (sw_fold hfo) rfl
        · cases h
      · cases h
  · split at h
    · rename_i hc
      obtain ⟨ha, h1⟩ := Bool.and_eq_true_iff.mp hc
      obtain ⟨h1, h2⟩ := Bool.and_eq_true_iff.mp h1
      obtain ⟨h2, h3⟩ := Bool.and_eq_true_iff.mp h2
      have h1 := of_decide_eq_true h1
      split at h
      · rename_i i m' e1 e2
        cases h
        obtain ⟨mi, tn, t, e, own, rfl, hcm, hi, ok, hv, hg, ht, he, hs⟩ := (cComp_ok A k e2).ex
        have hy := h1
        rw [← k.sc] at hy
        refine psW (ps_setLc hcm k.nd (by rw [k.hN]; exact idx_ok e1) hy (sw_true (by rw [k.sc]; exact k.kind) hy h2 (by simpa using h3)) hi ok hg ht he hs) fun E σ H q => ?_
        obtain ⟨Γ, O, H0, P, env, st, hm, l⟩ := q
        show tLc _ _ _ _ (own.map (·.2)) σ H fun x H1 => gName i x σ H1 E.nx
        rw [← hv]
        refine lc3 ⟨Γ, O, H0, _, _, env, st, hm, l.x env, fun H1 v d O1 H' s1 is1 st1 hm1 => ?_⟩
        exact l.nx H1 _ _ O1 H' s1 ((env.mono s1).set is1) st1 hm1
      · cases h
    · cases h
  · split at h
    · cases h
    · rename_i hc
      simp only [Bool.or_eq_true, not_or, Bool.not_eq_true] at hc
      split at h
      · rename_i m' g e1 e2
        cases h
        exact ps3_asg (R.E _ _ e1).2 (R.G _ _ e2).2 (swSole hc.1.1) (swNo hc.2) (asg1 hc.1.2)
      · cases h
  · split at h
    · rename_i hc
      cases h
      obtain ⟨hc, h1⟩ := Bool.and_eq_true_iff.mp hc
      obtain ⟨h1, h2⟩ := Bool.and_eq_true_iff.mp h1
      obtain ⟨g1, g2⟩ := k.gl h2
      exact ps3_raise (k.calm hc).1 k.tk (k.exa _ (of_decide_eq_true h1)) g1 g2
    · cases h
  · split at h
    · rename_i hc0
      obtain ⟨hca, h1⟩ := Bool.and_eq_true_iff.mp hc0
      obtain ⟨h1, h2⟩ := Bool.and_eq_true_iff.mp h1
      obtain ⟨h2, h3⟩ := Bool.and_eq_true_iff.mp h2
      obtain ⟨h3, h4⟩ := Bool.and_eq_true_iff.mp h3
      obtain ⟨h4, h5⟩ := Bool.and_eq_true_iff.mp h4
      have hne : c.exs ≠ [] := fun q => by rw [q] at h5; cases h5
      have h2 := of_decide_eq_true h2
      have h4 := of_decide_eq_true h4
      obtain ⟨g1, g2⟩ := k.gl h3
      split at h
      · rename_i i mb e1 e2
        split at h
        · cases h
          obtain ⟨b1, b2⟩ := k.exb hne
          obtain ⟨t1, t2⟩ := k.top h1
          subst h2
          have hen : c.exc = none := by
            cases q : c.exc with
            | none => rfl
            | some z =>
              obtain ⟨X0, oe, pn, e, _⟩ := k.exc z.1 z.2.1 z.2.2 q
              have := (k.calm hca).1
              rw [e] at this
              cases this
          refine ps3_try t1 t2 k.nd (by rw [k.hN]; exact idx_ok e1) (by show X.env.scope.names.lookup _ = _; rw [k.sc]; exact h4) ⟨g1, g2, .inl b1⟩ k.tk b2 (fun W' pn xe tk' po' => ?_) fun a oe C fs d pn hC hz hf hd => ?_
          · exact (A.ok c (X.tr pn xe) W' (k.toTry tk' po' hen)).Ss _ _ e2
          · refine sui_ok fun hfs ms hms => ?_
            have hd' := hd hfs
            subst hd'
            exact (A.ok _ _ _ (k.toSuite (i := i) hC hz hf)).Ss _ _ hms
        · cases h
      · cases h
    · cases h
  · cases h
theorem alls : ∀ n, Alls (comp n)
  | 0 => ⟨fun c X W k => RecOk.no⟩
  | n + 1 => by
    have A := alls n
    refine ⟨fun c X W k => ?_⟩
    have R := A.ok c X W k
    refine ⟨fun e m h => ?_, fun e m h => stepT_ok k R h, fun op es m h pos => stepV_ok R h, fun es m h => stepA_ok R h, fun e m h => stepG_ok k R h, fun es m h => stepGs_ok R h, fun st m h => stepS_ok A k h, fun sts m h => stepSs_ok R h⟩
    have h2 : (match stepC c (comp n) e with
      | some m => some m
      | none => stepE c (comp n) e) = some m := h
    split at h2
    · rename_i e1
      cases h2
      exact stepC_ok A k e1
    · exact stepE_ok k R h2
end
end L3

namespace L3
open PySem PySem.Spec PyProof.Rows L2

/-- what a def's body leans on, told of the program alone -/
structure Glob (c : CI) (P : Program) (w : World) (K : PySem.W.Frag) (mg : Str → Option Value) (base : Heap) (k : Nat) : Prop where
  fns : ∀ x n S, c.fns.lookup x = some (n, S) → ∃ k' f fd ps, k' ≤ k ∧ FnOk P w K mg base (L2.CX P w) k' f fd ps (spOf K n S) ∧ mg x = some (.ref f) ∧ PySem.W.keepIn K (.ref f) = true ∧ Binds K fd ps []
  mks : ∀ q ∈ c.mks, ∃ k' f fd ps dvs ds, k' + 1 ≤ k ∧ Mk K (He.ga K q.1) f ∧ FnOk P w K mg base (L2.CX P w) k' f fd ps (spOf K (q.2.1 + 1 + q.2.2.2.length) q.2.2.1) ∧ mg q.1 = some (.ref (He.ga K q.1)) ∧ Binds K fd ps ds ∧ Vals dvs ds ∧ ∀ H, Iss K H dvs q.2.2.2
  mkw : ∀ q ∈ c.mkw, ∃ k' f fd ps, k' + 1 ≤ k ∧ Mk K (He.ga K q.1) f ∧ FnOk P w K mg base (L2.CX P w) k' f fd ps (spOf K (q.2.1 + 2) q.2.2.2) ∧ mg q.1 = some (.ref (He.ga K q.1)) ∧ KBn K fd ps (q.2.1 + 1) [q.2.2.1] (fun us ws => us ++ ws) (fun vs zs => vs ++ zs)
  mth : ∀ m C n S, c.mth.lookup m = some (C, n, S) → ∃ k' f fd ps, k' ≤ k ∧ Cls K (He.ga K C) ∧ Meth K (He.ga K C) m f ∧ FnOk P w K mg base (L2.CX P w) k' f fd ps (spOf K (n + 1) S) ∧ Binds K fd ps []
  cst : ∀ x d, c.cst.lookup x = some d → ∃ v u, mg x = some u ∧ RelV v u ∧ ∀ H, Is K H v d
  sts : ∀ m C n S, c.sts.lookup m = some (C, n, S) → ∃ k' p g fd ps, k' ≤ k ∧ SmC K (He.ga K C) m p g ∧ SmI K (He.ga K C) m p g ∧ FnOk P w K mg base (L2.CX P w) k' g fd ps (spOf K n S) ∧ Binds K fd ps [] ∧ mg C = some (.ref (He.ga K C))
  stro : ∀ C S, c.stro = some (C, S) → ∃ k' f fd ps, k' + 2 ≤ k ∧ FnOk P w K mg base (L2.CX P w) k' f fd ps (spOf K 1 S) ∧ Binds K fd ps [] ∧ PySem.W.findIn K (.ref (He.ga K C)) "__str__" = some (some (.ref f)) ∧ PySem.W.isFn K (.ref f) = true
  tab : AtOk K c.tab
  ocl : ∀ x ∈ c.ocl, OCls K (He.ga K x) ∧ mg x = some (.ref (He.ga K x))
  exs : XcT K c.exs
  exg : ∀ x ∈ c.exs, mg x = some (.ref (He.ga K x))
  exa : ∀ x ∈ c.exr, XcAt K mg x
  exb : c.exs ≠ [] → mg c.base = some (.ref (He.ga K c.base)) ∧ ∀ C ∈ c.exs, PySem.W.exmOne K (.ref (He.ga K C)) (.ref (He.ga K c.base)) = some true
  free : ∀ x ∈ c.free, mg x = none
  own : ∀ o, c.own = some o → (∀ op : Operator, ∀ S, o.ops.lookup (PySem.dunder op.info.2) = some S → ∃ k' f fd ps, k' ≤ k ∧ FnOk P w K mg base (L2.CX P w) k' f fd ps (spOf K 2 S) ∧ Binds K fd ps [] ∧ PySem.W.selfFirst K (He.ga K o.C) = true ∧ PySem.W.findIn K (.ref (He.ga K o.C)) (PySem.dunder op.info.2) = some (some (.ref f)) ∧ PySem.W.isFn K (.ref f) = true) ∧
    (∃ k' f fd ps, k' ≤ k ∧ FnOk P w K mg base (L2.CX P w) k' f fd ps (spOf K 2 o.eq) ∧ Binds K fd ps [] ∧ PySem.W.selfFirst K (He.ga K o.C) = true ∧ PySem.W.findIn K (.ref (He.ga K o.C)) "__eq__" = some (some (.ref f)) ∧ PySem.W.isFn K (.ref f) = true) ∧ OEq K (He.ga K o.C)
  gcd : c.gcd = true → mg "gcd" = some (.builtin "math.gcd")
  prp : ∀ f C S, c.prp.lookup f = some (C, S) → ∃ k' p g fd ps, k' + 1 ≤ k ∧ Cls K (He.ga K C) ∧ PropOf K (He.ga K C) f p g ∧ FnOk P w K mg base (L2.CX P w) k' g fd ps (spOf K 1 S) ∧ Binds K fd ps []
section
variable {c : CI} {P : Program} {w : World} {K : PySem.W.Frag} {mg : Str → Option Value} {base : Heap} {k : Nat}
/-- the same of a context over the program -/
theorem Glob.ctx (G : Glob c P w K mg base k) {X : Cx} {W : WX} (e1 : X.prog = P) (e2 : X.w = w) (e3 : X.K = K) (e4 : X.mg = mg) (e5 : X.base = base) (hr : Room k X.A)
    (hN : X.N = c.N) (nd : X.N.Nodup) (sc : X.env.scope = c.sc) (kind : c.sc.kind = .function) (fn : c.asg = true → ∀ x, locB c.sc x = true → X.fn x = true ∨ X.env.scope.names.lookup x = some .local) (calm : X.calm = true) (tk : Takes X W)
    (po : PassesOwn (model X.prog X.w) X.A X.env X.xe) (top : c.top = true → X.stack = X.env :: X.outer ∧ X.env.frame = some X.env.locals) (he : c.exc = none) : Ctx c X W := by
  subst e1 e2 e3 e4 e5
  refine ⟨hN, nd, sc, kind, fn, fun _ => ⟨calm, by have := hr.un; omega⟩, tk, po, top, fun x n S h => ?_, fun q h => ?_, fun q h => ?_, fun m C n S h => ?_, G.cst, fun m C n S h => ?_, fun C S h => ?_, G.tab, G.ocl, G.exs, G.exg, G.exa, G.exb, G.free, fun o h => ?_, G.gcd, fun f C S h => ?_, fun i C a h => by rw [he] at h; cases h⟩
  · obtain ⟨k', f, fd, ps, l, F, h1, h2, h3⟩ := G.fns x n S h
    exact ⟨k', f, fd, ps, F, hr.mono l, h1, h2, h3⟩
  · obtain ⟨k', f, fd, ps, dvs, ds, l, M, F, h1, h2, h3, h4⟩ := G.mks q h
    exact ⟨k', f, fd, ps, dvs, ds, M, F, hr.mono l, h1, h2, h3, h4⟩
  · obtain ⟨k', f, fd, ps, l, M, F, h1, h2⟩ := G.mkw q h
    exact ⟨k', f, fd, ps, M, F, hr.mono l, h1, h2⟩
  · obtain ⟨k', f, fd, ps, l, c1, c2, F, h1⟩ := G.mth m C n S h
    exact ⟨k', f, fd, ps, c1, c2, F, hr.mono l, h1⟩
  · obtain ⟨k', p, g, fd, ps, l, c1, c2, F, h1, h2⟩ := G.sts m C n S h
    exact ⟨k', p, g, fd, ps, c1, c2, F, hr.mono l, h1, h2⟩
  · obtain ⟨k', f, fd, ps, l, F, h1, h2, h3⟩ := G.stro C S h
    exact ⟨k', f, fd, ps, F, hr.mono l, h1, h2, h3⟩
  · obtain ⟨a, b, d⟩ := G.own o h
    refine ⟨fun op S e => ?_, ?_, d⟩
    · obtain ⟨k', f, fd, ps, l, F, h1, h2⟩ := a op S e
      exact ⟨k', f, fd, ps, F, hr.mono l, h1, h2⟩
    · obtain ⟨k', f, fd, ps, l, F, h1, h2⟩ := b
      exact ⟨k', f, fd, ps, F, hr.mono l, h1, h2⟩
  · obtain ⟨k', p, g, fd, ps, l, c1, c2, F, h1⟩ := G.prp f C S h
    exact ⟨k', p, g, fd, ps, c1, c2, F, hr.mono l, h1⟩
variable {x qual : Str} {params : Arguments} {body : List Stmt} {scope : Scope} {dvs : List V} {kws : List (Str × V)} {f : Addr} {fd : FuncData} {ps : List Str} {n fu : Nat} {S : FSpec} {m : MS}
/-- a def of the text keeps its promise -/
theorem def3 (F : FunD K x qual params body scope dvs kws f fd) (sc : FnScope c.N ps scope) (hsc : c.sc = scope) (he : c.exc = none) (hl : ps.length = n) (hc : (comp fu c).Ss body = some m) (hb : BodyOk c.N n S m) (G : Glob c P w K mg base k) :
    FnOk P w K mg base (L2.CX P w) (k + 1) f fd ps (spOf K n S) := by
  subst hl hsc
  refine fn3 F sc (fun cdv A outer s H E hr => ?_) hb
  exact ((alls fu).ok c _ _ (G.ctx (X := cxOf (L2.CX P w) P w K mg base c.N qual c.sc f cdv A outer s H E) rfl rfl rfl rfl rfl hr rfl sc.nd rfl sc.kind (fun _ _ _ => .inl rfl) rfl (takes_of rfl rfl rfl rfl) (passes_of rfl) (fun _ => ⟨rfl, rfl⟩) he)).Ss body m hc
/-- the law's own def -/
theorem def3L (F : FunD K x qual params body scope dvs kws f fd) (sc : FnScope c.N ps scope) (hsc : c.sc = scope) (he : c.exc = none) (hl : ps.length = n) (hc : (comp fu c).Ss body = some m) (hb : BodyOk c.N n S m) (G : Glob c P w K mg base k) :
    FnOk P w K mg base CX0 (k + 1) f fd ps (fun vs H Q E => vs.length = ps.length ∧ ∃ H0 O ds P, Iss K H0 vs ds ∧ Sta K H0 O H ∧ S ds O (fun _ _ _ => False) P ∧ LinkV K H0 P Q) := by
  subst hl hsc
  refine fn3L F sc (fun cdv A outer s H E hr => ?_) hb
  exact ((alls fu).ok c _ _ (G.ctx (X := (cxOf CX0 P w K mg base c.N qual c.sc f cdv A outer s H E).nox) rfl rfl rfl rfl rfl hr rfl sc.nd rfl sc.kind (fun _ _ _ => .inl rfl) rfl takes0 PassesOwn.never (fun _ => ⟨rfl, rfl⟩) he)).Ss body m hc
end

/-! ## the head's facts, with one Bool more -/
def obsX (fa : List He.Fa) (fn : List He5.DefA) (p : PySem.W.Frag → Bool) (K : PySem.W.Frag) : He.AlD := ((fa.all fun f => f.ok K) && ((fn.all fun d => d.ok K) && p K), fn.map fun d => He5.fnA K (d.at_ K))
def SaysX (fa : List He.Fa) (fn : List He5.DefA) (p : PySem.W.Frag → Bool) (K : PySem.W.Frag) : Prop := obsX fa fn p K = He5.valA fn
def obsXG (n : Nat) (fa : List He.Fa) (fn : List He5.DefA) (p : PySem.W.Frag → Bool) (g : Addr → Option Obj) : He.AlD := obsX fa fn p (He.frG g (He5.asA g n))
def hookX (n : Nat) (fa : List He.Fa) (fn : List He5.DefA) (p : PySem.W.Frag → Bool) : PySem.W.Hook where
  α := He.AlD
  obs := fun s => obsXG n fa fn p s.heap.get?
  val := fun _ => He5.valA fn
  says := fun _ h => ∃ K : PySem.W.Frag, K.In h ∧ SaysX fa fn p K
  of := fun _ _ e => ⟨_, He.frG_in, e⟩
  keeps := fun _ _ _ ⟨K, hK, c⟩ k => ⟨K, PySem.W.Frag.In.keeps hK k, c⟩
theorem obsXG_eq {n : Nat} {fa : List He.Fa} {fn : List He5.DefA} {p : PySem.W.Frag → Bool} {g : Addr → Option Obj} {s : Shared} (h : ∀ a, g a = s.heap.get? a) : obsXG n fa fn p g = (hookX n fa fn p).obs s := by
  have e : g = s.heap.get? := funext h
  rw [e] <;> rfl
section
variable {fa : List He.Fa} {fn : List He5.DefA} {p : PySem.W.Frag → Bool} {K : PySem.W.Frag}
theorem SaysX.b (c : SaysX fa fn p K) : ((fa.all fun f => f.ok K) && ((fn.all fun d => d.ok K) && p K)) = true := congrArg (fun z : He.AlD => z.1) c
theorem SaysX.all (c : SaysX fa fn p K) : ∀ f ∈ fa, f.ok K = true := List.all_eq_true.mp (He.ba c.b).1
theorem SaysX.fact (c : SaysX fa fn p K) (i : Nat) {f : He.Fa} (h : fa[i]? = some f := by rfl) : f.ok K = true := c.all f (List.mem_of_getElem? h)
theorem SaysX.more (c : SaysX fa fn p K) : p K = true := (He.ba (He.ba c.b).2).2
theorem SaysX.def_ (c : SaysX fa fn p K) (i : Nat) {d : He5.DefA} (h : fn[i]? = some d := by rfl) : ∃ fd, FunD K d.name d.qual d.params d.body d.scope (d.dvs K) (d.kws K) (d.at_ K) fd := by
  have c2 := (He.ba (He.ba c.b).2).1
  have e : fn.map (fun d => He5.fnA K (d.at_ K)) = fn.map He5.DefA.val := congrArg (fun z : He.AlD => z.2) c
  have e2 : (fn.map fun d => He5.fnA K (d.at_ K))[i]? = (fn.map He5.DefA.val)[i]? := by rw [e]
  rw [List.getElem?_map, List.getElem?_map, h] at e2
  exact He5.DefA.funD (Option.some.inj e2) (List.all_eq_true.mp c2 d (List.mem_of_getElem? h))
end
/-- isinstance facts of own classes, as a Bool -/
def oclB (K : PySem.W.Frag) (x : Str) : Bool :=
  decide (PySem.W.findIn K (.ref (He.ga K x)) "__class__" = some (some (.builtin "object.__class__"))) && (decide (PySem.W.mroIn K (He.ga K x) (.type "object") = some true) &&
    ((["int", "bool", "str", "tuple", "list", "NoneType"].all fun T => decide (PySem.W.kitOne K (.type T) (.ref (He.ga K x)) = some false)) && (["int", "bool", "str", "tuple", "list", "NoneType"].all fun T => PySem.W.notFirst K (He.ga K x) (.type T))))
def objB (K : PySem.W.Frag) : Bool := decide (PySem.W.specialIn K (.builtin "object.__class__") "__get__" = some (some (.builtin "getset_descriptor.__get__"))) && decide (PySem.W.takesIn K (.builtin "object.__class__") = some true)
theorem ocl_ok {K : PySem.W.Frag} {x : Str} (c : Cls K (He.ga K x)) (h : oclB K x = true) (h0 : objB K = true) : OEq K (He.ga K x) := by
  obtain ⟨h1, h⟩ := He.ba h
  obtain ⟨h2, h⟩ := He.ba h
  obtain ⟨h3, h4⟩ := He.ba h
  obtain ⟨h5, h6⟩ := He.ba h0
  exact ⟨⟨c, of_decide_eq_true h1, of_decide_eq_true h5, of_decide_eq_true h6, of_decide_eq_true h2, fun T hT => of_decide_eq_true (List.all_eq_true.mp h3 T hT)⟩, fun T hT => List.all_eq_true.mp h4 T hT⟩
/-- the same of the errors -/
def excB (K : PySem.W.Frag) (D : Str) : Bool :=
  decide (PySem.W.findIn K (.ref (He.ga K D)) "__getattribute__" = some (some (.builtin "BaseException.__getattribute__"))) && (decide (PySem.W.findIn K (.ref (He.ga K D)) "__getattr__" = some none) &&
    (decide (PySem.W.subIn K (.ref (He.ga K D)) (.type "BaseException") = some true) && (PySem.W.hasDictIn K (He.ga K D) && (decide (PySem.W.findIn K (.ref (He.ga K D)) "__class__" = some (some (.builtin "object.__class__"))) && decide (PySem.W.mroIn K (He.ga K D) (.type "object") = some true)))))
def xctB (K : PySem.W.Frag) (cs : List Str) : Bool :=
  (cs.all fun C => excB K C) && ((cs.all fun C => cs.all fun c => decide (PySem.W.kitOne K (.ref (He.ga K C)) (.ref (He.ga K c)) = some (decide (C = c)))) && (cs.all fun C => decide (PySem.W.kitOne K (.ref (He.ga K C)) (.type "ValueError") = some true)))
theorem xct_ok {K : PySem.W.Frag} {cs : List Str} (h : xctB K cs = true) (h0 : objB K = true) : XcT K cs := by
  obtain ⟨h1, h⟩ := He.ba h
  obtain ⟨h2, h3⟩ := He.ba h
  obtain ⟨h5, h6⟩ := He.ba h0
  refine ⟨fun C hC => ?_, fun C hC c hc => of_decide_eq_true (List.all_eq_true.mp (List.all_eq_true.mp h2 C hC) c hc), fun C hC => of_decide_eq_true (List.all_eq_true.mp h3 C hC)⟩
  obtain ⟨a1, a⟩ := He.ba (List.all_eq_true.mp h1 C hC)
  obtain ⟨a2, a⟩ := He.ba a
  obtain ⟨a3, a⟩ := He.ba a
  obtain ⟨a4, a⟩ := He.ba a
  obtain ⟨a5, a6⟩ := He.ba a
  exact ⟨of_decide_eq_true a1, of_decide_eq_true a2, of_decide_eq_true a3, a4, of_decide_eq_true a5, of_decide_eq_true h5, of_decide_eq_true h6, of_decide_eq_true a6⟩
theorem xca_ok {K : PySem.W.Frag} {mg : Str → Option Value} {C : Str} (h : (He.Fa.exc C).ok K = true) (g : mg C = some (.ref (He.ga K C))) : XcAt K mg C := by
  obtain ⟨a, b, c, d⟩ := He.exc_ok h
  exact ⟨a, b, c, d, g⟩
/-- gcd stands for math's -/
def gcdB (K : PySem.W.Frag) (x : Str) (id : String) : Bool := decide (PySem.W.nsIn K mainGlobals x = some (some (.builtin id)))
/-- a property's facts, as a Bool -/
def prB (K : PySem.W.Frag) (C m : Str) : Bool :=
  decide (PySem.W.findIn K (.ref (He.ga K C)) m = some (some (.ref (He.ma K (He.ga K C) m)))) && (decide (PySem.W.specialIn K (.ref (He.ma K (He.ga K C) m)) "__get__" = some (some (.builtin "property.__get__"))) &&
    (decide (PySem.W.takesIn K (.ref (He.ma K (He.ga K C) m)) = some true) && (match PySem.W.recIn K (He.ma K (He.ga K C) m) "property" with
    | some (.ref _ :: _) => true
    | _ => false)))
theorem pr_ok {K : PySem.W.Frag} {C m : Str} (h : prB K C m = true) : PropOf K (He.ga K C) m (He.ma K (He.ga K C) m) (He5.wf K (He.ga K C) "property" m) := by
  obtain ⟨h1, h⟩ := He.ba h
  obtain ⟨h2, h⟩ := He.ba h
  obtain ⟨h3, h4⟩ := He.ba h
  refine ⟨of_decide_eq_true h1, of_decide_eq_true h2, of_decide_eq_true h3, ?_⟩
  unfold He5.wf
  split at h4
  · rename_i f r e
    exact ⟨r, by rw [e]⟩
  · cases h4
/-- a staticmethod's facts, as a Bool -/
def smB (K : PySem.W.Frag) (C m : Str) : Bool :=
  He5.wrapB K (He.ga K C) "staticmethod" "staticmethod.__get__" m && (PySem.W.readsIn K (He.ga K C) (.type "type") && (PySem.W.keepIn K (.ref (He5.wf K (He.ga K C) "staticmethod" m)) && (PySem.W.plainGet K (He.ga K C) m && (PySem.W.isClsIn K (He.ga K C) &&
    (decide (PySem.W.findIn K (.ref (He.ga K C)) m = some (some (.ref (He.ma K (He.ga K C) m)))) && (decide (PySem.W.typeIn K (.ref (He.ma K (He.ga K C) m)) = some (.type "staticmethod")) &&
      (decide (PySem.W.specialIn K (.ref (He.ma K (He.ga K C) m)) "__get__" = some (some (.builtin "staticmethod.__get__"))) && (decide (PySem.W.takesIn K (.ref (He.ma K (He.ga K C) m)) = some false) && !PySem.W.copiedNames.contains m))))))))
theorem sm_ok {K : PySem.W.Frag} {C m : Str} (h : smB K C m = true) : SmC K (He.ga K C) m (He.ma K (He.ga K C) m) (He5.wf K (He.ga K C) "staticmethod" m) ∧ SmI K (He.ga K C) m (He.ma K (He.ga K C) m) (He5.wf K (He.ga K C) "staticmethod" m) := by
  obtain ⟨h1, h⟩ := He.ba h
  obtain ⟨h2, h⟩ := He.ba h
  obtain ⟨h3, h⟩ := He.ba h
  obtain ⟨h4, h⟩ := He.ba h
  obtain ⟨h5, h⟩ := He.ba h
  obtain ⟨h6, h⟩ := He.ba h
  obtain ⟨h7, h⟩ := He.ba h
  obtain ⟨h8, h⟩ := He.ba h
  obtain ⟨h9, h10⟩ := He.ba h
  obtain ⟨w1, w2⟩ := He5.wrapB_ok h1
  have rd : ClX.CRead K (He.ga K C) (.type "type") := by
    refine ⟨h2, ?_⟩
    unfold PySem.W.readsIn at h2
    obtain ⟨a, _⟩ := He.ba h2
    obtain ⟨a, _⟩ := He.ba a
    obtain ⟨a, a3⟩ := He.ba a
    obtain ⟨_, a⟩ := He.ba a
    unfold PySem.W.specialIn
    rw [beq_iff_eq.mp a, Option.bind_some]
    exact beq_iff_eq.mp a3
  exact ⟨⟨rd, w1, w2, h3⟩, ⟨h4, h5, of_decide_eq_true h6, of_decide_eq_true h7, of_decide_eq_true h8, of_decide_eq_true h9, by simpa using h10, w2, h3⟩⟩
end L3

namespace L3
open PySem PySem.Spec PyProof.Rows L2

/-! ## steps of the readings, one lemma each (for walks by hand) -/
def kIf (A B : Sto → Prop) : Bool → Sto → Prop := fun k O => if k = true then A O else B O
def onBl (Q : Bool → Sto → Prop) : PV := fun x O => match x with
  | .bl b => Q b O
  | _ => False
def onTru (Q : Bool → Sto → Prop) : PV := fun x O => match truD O x with
  | some b => Q b O
  | none => False
section
variable {Z : PX} {Γ : Gm} {O : Sto} {Q : PV} {QB : Bool → Sto → Prop} {QA : List D → Sto → Prop} {A B : Sto → Prop} {d e : D} {i : Nat} {m ma mb : ME} {ms : MA} {t ta tb : MT} {f : F2} {f1 : F1} {fa : FA} {S : FSpec} {n : Nat} {k : Bool}
theorem w_kT (h : A O) : kIf A B true O := h
theorem w_kF (h : B O) : kIf A B false O := h
theorem w_kT' (e : k = true) (h : A O) : kIf A B k O := by rw [e]; exact h
theorem w_kF' (e : k = false) (h : B O) : kIf A B k O := by rw [e]; exact h
theorem w_k (h1 : k = true → A O) (h2 : k = false → B O) : kIf A B k O := by
  cases k with
  | true => exact h1 rfl
  | false => exact h2 rfl
theorem w_onBl (h : QB k O) : onBl QB (.bl k) O := h
theorem w_onTru (e : truD O d = some k) (h : QB k O) : onTru QB d O := by unfold onTru; rw [e]; exact h
theorem w_onTruB (h : QB k O) : onTru QB (.bl k) O := h
theorem w_var (h : Γ[i]? = some (some d)) (q : Q d O) : mVar i Z Γ O Q := by unfold mVar; rw [h]; exact q
theorem w_c (h : Q d O) : mC d Z Γ O Q := h
theorem w_op (h : ma Z Γ O fun x O1 => mb Z Γ O1 fun y O2 => f x y O2 Q) : mOp f ma mb Z Γ O Q := h
theorem w_un (h : ma Z Γ O fun x O1 => f1 x O1 Q) : mUn f1 ma Z Γ O Q := h
theorem w_B (h : m Z Γ O (onBl QB)) : mB m Z Γ O QB := h
theorem w_tru (h : m Z Γ O (onTru QB)) : mTru m Z Γ O QB := h
theorem w_and (h : ta Z Γ O (kIf (fun O1 => tb Z Γ O1 QB) fun O1 => QB false O1)) : mAnd ta tb Z Γ O QB := h
theorem w_or (h : ta Z Γ O (kIf (fun O1 => QB true O1) fun O1 => tb Z Γ O1 QB)) : mOr ta tb Z Γ O QB := h
theorem w_not (h : ta Z Γ O fun k O1 => QB (!k) O1) : mNot ta Z Γ O QB := h
theorem w_andV (h : ma Z Γ O (onBl (kIf (fun O1 => mb Z Γ O1 Q) fun O1 => Q (.bl false) O1))) : mAndV ma mb Z Γ O Q := by
  have e : (onBl (kIf (fun O1 => mb Z Γ O1 Q) fun O1 => Q (.bl false) O1)) = fun x O1 => match x with
    | .bl true => mb Z Γ O1 Q
    | .bl false => Q (.bl false) O1
    | _ => False := by
    funext x O1
    cases x with
    | bl b => cases b <;> rfl
    | _ => rfl
  rw [e] at h
  exact h
theorem w_orV (h : ma Z Γ O (onBl (kIf (fun O1 => Q (.bl true) O1) fun O1 => mb Z Γ O1 Q))) : mOrV ma mb Z Γ O Q := by
  have e : (onBl (kIf (fun O1 => Q (.bl true) O1) fun O1 => mb Z Γ O1 Q)) = fun x O1 => match x with
    | .bl true => Q (.bl true) O1
    | .bl false => mb Z Γ O1 Q
    | _ => False := by
    funext x O1
    cases x with
    | bl b => cases b <;> rfl
    | _ => rfl
  rw [e] at h
  exact h
theorem w_notV (h : ma Z Γ O (onBl fun k O1 => Q (.bl (!k)) O1)) : mNotV ma Z Γ O Q := h
theorem w_ifE (h : t Z Γ O (kIf (fun O1 => ma Z Γ O1 Q) fun O1 => mb Z Γ O1 Q)) : mIfE t ma mb Z Γ O Q := h
theorem w_nil (h : QA [] O) : mNil Z Γ O QA := h
theorem w_cons (h : ma Z Γ O fun x O1 => ms Z Γ O1 fun xs O2 => QA (x :: xs) O2) : mCons ma ms Z Γ O QA := h
theorem w_tup (h : ms Z Γ O fun ds O1 => ds.length ≤ sizeLine ∧ Q (.tup ds) O1) : mTup ms Z Γ O Q := h
theorem w_lst (h : ms Z Γ O fun ds O1 => ds.length ≤ sizeLine ∧ ∀ p, O1 p = none → orFz Q (.cell p) (put O1 p (.lst ds))) : mLst ms Z Γ O Q := h
theorem w_cb (h : ms Z Γ O fun ds O1 => fa ds O1 Q) : mCB fa ms Z Γ O Q := h
theorem w_call (h : ms Z Γ O fun ds O1 => ds.length = n ∧ S ds O1 Z Q) : mCall S n ms Z Γ O Q := h
theorem w_isT {ty : T3} (h : m Z Γ O fun d O1 => ∃ b, isT O1 d ty = some b ∧ Q (.bl b) O1) : mIsT ty m Z Γ O Q := by
  have e : (fun d O1 => ∃ b, isT O1 d ty = some b ∧ Q (.bl b) O1) = fun d O1 => match isT O1 d ty with
    | some b => Q (.bl b) O1
    | none => False := by
    funext d O1
    cases q : isT O1 d ty with
    | none => simp
    | some b => simp
  rw [e] at h
  exact h
theorem w_isO {c : Str} (h : m Z Γ O fun d O1 => ∃ b, isO c O1 d = some b ∧ Q (.bl b) O1) : mIsO c m Z Γ O Q := by
  have e : (fun d O1 => ∃ b, isO c O1 d = some b ∧ Q (.bl b) O1) = fun d O1 => match isO c O1 d with
    | some b => Q (.bl b) O1
    | none => False := by
    funext d O1
    cases q : isO c O1 d with
    | none => simp
    | some b => simp
  rw [e] at h
  exact h
theorem w_fld {tab : List (Str × Str)} {x : Str} (h : m Z Γ O fun d O1 => ∃ e, fldD tab x O1 d = some e ∧ Q e O1) : mFld tab x m Z Γ O Q := by
  have e : (fun d O1 => ∃ e, fldD tab x O1 d = some e ∧ Q e O1) = fun d O1 => match fldD tab x O1 d with
    | some e => Q e O1
    | none => False := by
    funext d O1
    cases q : fldD tab x O1 d with
    | none => simp
    | some b => simp
  rw [e] at h
  exact h
theorem w_make {C : Str} {ex : List D} (h : ms Z Γ O fun ds O1 => ds.length = n ∧ ∀ p, O1 p = none → S (.cell p :: (ds ++ ex)) (put O1 p (.ins C [])) Z fun d O2 => d = .non ∧ orFz Q (.cell p) O2) : mMake C S n ex ms Z Γ O Q := h
theorem w_makeK {C : Str} {mk : MA} (h : ms Z Γ O fun ds O1 => mk Z Γ O1 fun es O2 => ds.length = n ∧ es.length = 1 ∧ ∀ p, O2 p = none → S (.cell p :: (ds ++ es)) (put O2 p (.ins C [])) Z fun d O3 => d = .non ∧ orFz Q (.cell p) O3) : mMakeK C S n ms mk Z Γ O Q := h
theorem w_isE {a : Addr} {b : Bool} (h1 : Γ[i]? = some (some (.cell a))) (h : Q (.bl b) O) : mIsE i a b Z Γ O Q := ⟨h1, h⟩
/-- slices -/
def slD (x : D) (lo hi : Option Int) (O : Sto) (Q : PV) : Prop := match x with
  | .str z => z.length ≤ sizeLine ∧ Q (.str (cutS z lo hi)) O
  | .tup ds => Q (.tup (cut ds lo hi)) O
  | x => match lstOf O x with
    | some ds => ∀ p, O p = none → orFz Q (.cell p) (put O p (.lst (cut ds lo hi)))
    | none => False
theorem w_slice {ml mh : MO3} (h : ma Z Γ O fun x O1 => ml Z Γ O1 fun lo O2 => mh Z Γ O2 fun hi O3 => slD x lo hi O3 Q) : mSlice ma ml mh Z Γ O Q := h
theorem w_slLst {ds : List D} {lo hi : Option Int} (h : Q (.lst (cut ds lo hi)) O) : slD (.lst ds) lo hi O Q := fun p hp => ⟨_, _, .lst put_same, by rw [del_put hp]; exact h⟩
theorem w_oNone {QO : Option Int → Sto → Prop} (h : QO none O) : mNone Z Γ O QO := h
theorem w_oSome {QO : Option Int → Sto → Prop} (h : m Z Γ O fun d O1 => ∃ i, d = .int i ∧ QO (some i) O1) : mSome m Z Γ O QO := by
  have e : (fun (d : D) (O1 : Sto) => ∃ i, d = D.int i ∧ QO (some i) O1) = fun (d : D) (O1 : Sto) => match d with
    | .int i => QO (some i) O1
    | _ => False := by
    funext d O1
    cases d <;> simp
  rw [e] at h
  exact h
/-! texts -/
theorem w_sm {f : FM} (h : m Z Γ O fun o O1 => isStrD o ∧ ms Z Γ O1 fun ds O2 => f o ds O2 Q) : mSM f m ms Z Γ O Q := h
theorem w_sm0 {f : FM} (h : m Z Γ O fun o O1 => isStrD o ∧ f o [] O1 Q) : mSM0 f m Z Γ O Q := h
section
variable {z y : Str} {x : Int}
theorem w_isStr {A : Prop} (h : A) : isStrD (.str z) ∧ A := ⟨trivial, h⟩
theorem w_find (h : Q (.int (Txt.find z y)) O) : fFind (.str z) [.str y] O Q := ⟨trivial, h⟩
theorem w_starts (h : Q (.bl (Txt.startswith z y)) O) : fStarts (.str z) [.str y] O Q := ⟨trivial, h⟩
theorem w_remPre (h1 : z.length ≤ sizeLine) (h : Q (.str (Txt.removeprefix z y)) O) : fRemPre (.str z) [.str y] O Q := ⟨h1, h⟩
theorem w_isascii (h : Q (.bl (Txt.isascii z)) O) : fIsascii (.str z) [] O Q := ⟨trivial, h⟩
theorem w_isdigit (h : Q (.bl (Txt.isdigit z)) O) : fIsdigit (.str z) [] O Q := ⟨trivial, h⟩
theorem w_parti (h1 : (y.length == 0) = false) (h2 : z.length ≤ sizeLine) (h : Q (.tup [.str (Txt.partition z y).1, .str (Txt.partition z y).2.1, .str (Txt.partition z y).2.2]) O) : fParti (.str z) [.str y] O Q := ⟨h1, h2, h⟩
theorem w_str1I (h1 : x.natAbs.log2 < 1920) (h : Q (.str (toString x)) O) : fStr1 [.int x] O Q := ⟨h1, h⟩
theorem w_str1S (h : Q (.str z) O) : fStr1 [.str z] O Q := h
theorem w_strOI {C : Str} {S : FSpec} (h1 : x.natAbs.log2 < 1920) (h : Q (.str (toString x)) O) : fStrO C S [.int x] O Q := ⟨h1, h⟩
theorem w_strO {C : Str} {S : FSpec} {fs : List (Str × D)} (h : S [.obj C fs] O noX fun d O' => isStrD d ∧ Q d O') : fStrO C S [.obj C fs] O Q := ⟨rfl, h⟩
theorem w_fmt (h : m Z Γ O fun d O1 => fmtD d O1 Q) : mFmt m Z Γ O Q := h
theorem w_fmtI (h1 : x.natAbs.log2 < 1920) (h : Q (.str (toString x)) O) : fmtD (.int x) O Q := ⟨h1, h⟩
theorem w_fmtS (h1 : z.length ≤ sizeLine) (h : Q (.str z) O) : fmtD (.str z) O Q := ⟨h1, h⟩
theorem w_join {ml : List ME} (h : jsL ml Str.empty Z Γ O fun out O1 => Q (.str out) O1) : mJoin ml Z Γ O Q := h
theorem w_jsNil {K : Str → Sto → Prop} (h : K z O) : jsL [] z Z Γ O K := h
theorem w_jsCons {K : Str → Sto → Prop} {ml : List ME} (h : m Z Γ O fun d O1 => ∃ y, d = .str y ∧ (z ++ y).length ≤ sizeLine ∧ jsL ml (z ++ y) Z Γ O1 K) : jsL (m :: ml) z Z Γ O K := h
theorem w_inS (h : Q (.bl (occS z y)) O) : fIn false (.str z) (.str y) O Q := h
theorem w_notInS (h : Q (.bl (!occS z y)) O) : fIn true (.str z) (.str y) O Q := h
theorem w_fIntS {n : Int} (h1 : PySem.intText? z = some n) (h2 : z.length ≤ 640) (h : Q (.int n) O) : fInt1 [.str z] O Q := ⟨n, h1, h2, h⟩
theorem w_fMulS (h1 : -(2 ^ 63) ≤ x ∧ x < 2 ^ 63 ∧ z.length * x.toNat ≤ sizeLine) (h : Q (.str (repS z x)) O) : fMul (.str z) (.int x) O Q := ⟨h1, h⟩
theorem w_fAddS (h1 : z.length + y.length ≤ sizeLine) (h : Q (.str (z ++ y)) O) : fAdd (.str z) (.str y) O Q := ⟨h1, h⟩
theorem w_fLenS (h1 : z.length ≤ sizeLine) (h : Q (.int z.length) O) : fLen [.str z] O Q := ⟨h1, h⟩
theorem w_fIxS {c : Nat} (h1 : z.length ≤ sizeLine) (h2 : atI z.cps.toList x = some c) (h : Q (.str ⟨#[c]⟩) O) : fIx (.str z) (.int x) O Q := by
  show z.length ≤ sizeLine ∧ match atI z.cps.toList x with
    | some c => Q (.str ⟨#[c]⟩) O
    | none => False
  rw [h2]
  exact ⟨h1, h⟩
theorem w_slStr {lo hi : Option Int} (h1 : z.length ≤ sizeLine) (h : Q (.str (cutS z lo hi)) O) : slD (.str z) lo hi O Q := ⟨h1, h⟩
theorem w_statI {C w : Str} (h : m Z Γ O fun o O1 => insD C w O1 o ∧ ms Z Γ O1 fun ds O2 => ds.length = n ∧ S ds O2 Z Q) : mStatI C w S n m ms Z Γ O Q := h
end
/-! comprehensions, methods -/
theorem dicOf_lst {p : Addr} {ds : List D} (h0 : O p = some (.lst ds)) : dicOf O (.cell p) = none := by
  unfold dicOf
  simp only [h0]
theorem seqOf_lst {p : Addr} {ds : List D} (h0 : O p = some (.lst ds)) : seqOf O (.cell p) = some ds := by
  show (match O p with
    | some (.lst ds) => some ds
    | _ => none) = _
  rw [h0]
theorem dicOf_cT {p : Addr} {kvs : List (List Key × D)} (h0 : O p = some (.dT kvs)) : dicOf O (.cell p) = some (.inr kvs) := by
  unfold dicOf
  simp only [h0]
theorem dicOf_cK {p : Addr} {kvs : List (Key × D)} (h0 : O p = some (.dK kvs)) : dicOf O (.cell p) = some (.inl kvs) := by
  unfold dicOf
  simp only [h0]
theorem dget_t {o : D} {ds : List D} {ks : List Key} {kvs : List (List Key × D)} (h0 : dicOf O o = some (.inr kvs)) (h1 : keysD ds = some ks) : dget O o (.tup ds) = some (valD kvs ks) := by
  unfold dget
  rw [h0]
  show (keysD ds).map (valD kvs) = _
  rw [h1]
  rfl
theorem dget_k {o k : D} {kk : Key} {kvs : List (Key × D)} (h0 : dicOf O o = some (.inl kvs)) (h1 : keyD k = some kk) : dget O o k = some (valD kvs kk) := by
  unfold dget
  rw [h0]
  show (keyD k).map (valD kvs) = _
  rw [h1]
  rfl
theorem w_comp {mi : MI} {tg : TgN} (h : mi Z Γ O fun chk all O1 => ∀ p, O1 p = none → lcL p chk tg t ma (wipeG Γ tg.vs) (orFz Q (.cell p)) all (put O1 p (.lst []))) : mComp mi tg t ma Z Γ O Q := h
theorem w_yes (h : QB true O) : mYes Z Γ O QB := h
/-! what is walked -/
section
variable {QI : (Sto → Prop) → List D → Sto → Prop} {ds : List D}
theorem w_iSeq (h : m Z Γ O fun d O1 => itQ O1 d QI) : iSeq m Z Γ O QI := h
theorem w_iR1 (h : ms Z Γ O fun ds O1 => rng1 ds fun lo n => QI (fun _ => True) (upto lo n) O1) : iR1 ms Z Γ O QI := h
theorem w_iR2 (h : ms Z Γ O fun ds O1 => rng2 ds fun lo n => QI (fun _ => True) (upto lo n) O1) : iR2 ms Z Γ O QI := h
theorem w_iVals (h : m Z Γ O fun d O1 => valsQ O1 d QI) : iVals3 m Z Γ O QI := h
theorem w_itLst (h : QI (fun O => itemsOf O (.lst ds) = some ds) ds O) : itQ O (.lst ds) QI := h
theorem w_itTup (h : QI (fun O => itemsOf O (.tup ds) = some ds) ds O) : itQ O (.tup ds) QI := h
theorem w_itStr {z : Str} (h : QI (fun O => itemsOf O (.str z) = some (z.cps.toList.map fun c => D.str ⟨#[c]⟩)) (z.cps.toList.map fun c => D.str ⟨#[c]⟩) O) : itQ O (.str z) QI := h
theorem items_cell {p : Addr} (h0 : O p = some (.lst ds)) : itemsOf O (.cell p) = some ds := by
  show seqOf O (.cell p) = _
  unfold seqOf
  simp only [h0]
theorem w_itC {p : Addr} (h0 : O p = some (.lst ds)) (h : QI (fun O => itemsOf O (.cell p) = some ds) ds O) : itQ O (.cell p) QI := by
  unfold itQ
  rw [items_cell h0]
  exact h
theorem w_valsT {kvs : List (List Key × D)} (h : QI (fun _ => True) (kvs.map (·.2)) O) : valsQ O (.dT kvs) QI := h
theorem w_valsK {kvs : List (Key × D)} (h : QI (fun _ => True) (kvs.map (·.2)) O) : valsQ O (.dK kvs) QI := h
end
theorem w_lcNil {tg : TgN} {p : Addr} {chk : Sto → Prop} {KO : Sto → Prop} (h0 : chk O) (h : KO O) : lcL p chk tg t ma Γ KO [] O := ⟨h0, h⟩
theorem w_lcCons {tg : TgN} {p : Addr} {chk : Sto → Prop} {KO : Sto → Prop} {x : D} {r : List D} (h0 : chk O) (h : tg.put x Γ fun Γ1 => t noX Γ1 O (kIf (fun O2 => ma noX Γ1 O2 fun y O3 => ∃ acc, O3 p = some (.lst acc) ∧ acc.length < sizeLine ∧ lcL p chk tg t ma Γ KO r (put O3 p (.lst (acc ++ [y])))) fun O2 => lcL p chk tg t ma Γ KO r O2)) :
    lcL p chk tg t ma Γ KO (x :: r) O := ⟨h0, h⟩
theorem w_put1 {x : D} {QG : Gm → Prop} (h : QG (Γ.set i (some x))) : (TgN.one i).put x Γ QG := h
theorem w_putM {is : List Nat} {ds : List D} {QG : Gm → Prop} (h1 : ds.length = is.length) (h : QG (setNs is ds Γ)) : (TgN.many is).put (.tup ds) Γ QG := ⟨h1, h⟩
/-- a comprehension whose test and part are values of its item alone -/
theorem w_lcF {tg : TgN} {chk : Sto → Prop} {ds : List D} (b : D → Bool) (f : D → D) (hl : ds.length ≤ sizeLine) (hc : ∀ p acc, O p = none → chk (put O p (.lst acc)))
    (h : ∀ x ∈ ds, ∀ p acc, O p = none → ∀ (K1 : PV) (K0 : Sto → Prop), (b x = true → K1 (f x) (put O p (.lst acc))) → (b x = false → K0 (put O p (.lst acc))) → tg.put x Γ fun Γ1 => t noX Γ1 (put O p (.lst acc)) (kIf (fun O2 => ma noX Γ1 O2 K1) K0))
    (hq : ∀ p, O p = none → orFz Q (.cell p) (put O p (.lst ((ds.filter b).map f)))) : ∀ p, O p = none → lcL p chk tg t ma Γ (orFz Q (.cell p)) ds (put O p (.lst [])) := by
  intro p hp
  have main : ∀ (r acc : List D), (∀ x ∈ r, x ∈ ds) → acc.length + r.length ≤ ds.length → acc ++ (r.filter b).map f = (ds.filter b).map f → lcL p chk tg t ma Γ (orFz Q (.cell p)) r (put O p (.lst acc)) := by
    intro r
    induction r with
    | nil =>
      intro acc _ _ e
      simp only [List.filter_nil, List.map_nil, List.append_nil] at e
      subst e
      exact ⟨hc p _ hp, hq p hp⟩
    | cons x r ih =>
      intro acc hm hl' e
      simp only [List.length_cons] at hl'
      refine w_lcCons (hc p _ hp) ?_
      refine h x (hm x List.mem_cons_self) p acc hp _ _ (fun hb => ?_) (fun hb => ?_)
      · refine ⟨acc, put_same, by omega, ?_⟩
        rw [put_put]
        refine ih _ (fun y hy => hm y (List.mem_cons_of_mem _ hy)) (by simp only [List.length_append, List.length_cons, List.length_nil]; omega) ?_
        rw [List.append_assoc, ← e, List.filter_cons, if_pos hb]
        rfl
      · refine ih _ (fun y hy => hm y (List.mem_cons_of_mem _ hy)) (by omega) ?_
        rw [← e, List.filter_cons, if_neg (by rw [hb]; exact Bool.false_ne_true)]
  exact main ds [] (fun _ h => h) (by simp) rfl
/-- .. without a test -/
theorem w_lcM {tg : TgN} {chk : Sto → Prop} {ds : List D} (f : D → D) (hl : ds.length ≤ sizeLine) (hc : ∀ p acc, O p = none → chk (put O p (.lst acc)))
    (h : ∀ x ∈ ds, ∀ p acc, O p = none → ∀ (K1 : PV), K1 (f x) (put O p (.lst acc)) → tg.put x Γ fun Γ1 => ma noX Γ1 (put O p (.lst acc)) K1)
    (hq : ∀ p, O p = none → orFz Q (.cell p) (put O p (.lst (ds.map f)))) : ∀ p, O p = none → lcL p chk tg mYes ma Γ (orFz Q (.cell p)) ds (put O p (.lst [])) := by
  refine w_lcF (fun _ => true) f hl hc (fun x hx p acc hp K1 K0 h1 _ => h x hx p acc hp K1 (h1 rfl)) ?_
  intro p hp
  have e : (ds.filter fun _ => true) = ds := by simp
  rw [e]
  exact hq p hp
theorem w_getQ {o k x : D} {r : Option D} (h0 : dget O o k = some r) (h : Q (r.getD x) O) : getQ O o k x Q := by
  unfold getQ
  rw [h0]
  exact h
theorem w_get2 {mk mx : ME} (h : m Z Γ O fun o O1 => (dicOf O1 o).isSome = true ∧ mk Z Γ O1 fun k O2 => mx Z Γ O2 fun x O3 => getQ O3 o k x Q) : mGet2 m mk mx Z Γ O Q := h
theorem w_get1 {mk : ME} (h : m Z Γ O fun o O1 => (dicOf O1 o).isSome = true ∧ mk Z Γ O1 fun k O2 => getQ O2 o k .non Q) : mGet1 m mk Z Γ O Q := h
theorem w_dict0T (h : ∀ p, O p = none → Q (.cell p) (put O p (.dT []))) : mDict0 Z Γ O Q := .inr h
theorem w_dict0K (h : ∀ p, O p = none → Q (.cell p) (put O p (.dK []))) : mDict0 Z Γ O Q := .inl h
theorem w_prop {C : Str} (h : m Z Γ O fun o O1 => isC C O1 o ∧ S [o] O1 noX Q) : mProp C S m Z Γ O Q := h
theorem w_list1L {ds : List D} (h : ∀ p, O p = none → orFz Q (.cell p) (put O p (.lst ds))) : fList1 [.lst ds] O Q := h
theorem w_list1T {ds : List D} (h : ∀ p, O p = none → orFz Q (.cell p) (put O p (.lst ds))) : fList1 [.tup ds] O Q := h
theorem w_list1C {p : Addr} {ds : List D} (h0 : O p = some (.lst ds)) (h : ∀ p, O p = none → orFz Q (.cell p) (put O p (.lst ds))) : fList1 [.cell p] O Q := by
  unfold fList1
  simp only [seqOf_lst h0]
  exact h
theorem w_tupC {p : Addr} {ds : List D} (h0 : O p = some (.lst ds)) (h : Q (.tup ds) O) : tupD O (.cell p) Q := by
  unfold tupD
  rw [seqOf_lst h0]
  exact h
theorem w_slC {p : Addr} {ds : List D} {lo hi : Option Int} (h0 : O p = some (.lst ds)) (h : ∀ q, O q = none → orFz Q (.cell q) (put O q (.lst (cut ds lo hi)))) : slD (.cell p) lo hi O Q := by
  unfold slD
  have e : lstOf O (.cell p) = some ds := by unfold lstOf; simp only [h0]
  simp only [e]
  exact h
theorem w_max1 {d : D} {ns : List Int} {ds : List D} (h0 : seqOf O d = some ds) (h1 : intsOf ds = some ns) (h2 : 0 < ns.length) (h : ∀ m, m ∈ ns → (∀ y, y ∈ ns → y ≤ m) → Q (.int m) O) : fMax1 [d] O Q := by
  unfold fMax1 seqInts
  simp only [h0, h1]
  exact ⟨h2, h⟩
theorem w_min1 {d : D} {ns : List Int} {ds : List D} (h0 : seqOf O d = some ds) (h1 : intsOf ds = some ns) (h2 : 0 < ns.length) (h : ∀ m, m ∈ ns → (∀ y, y ∈ ns → m ≤ y) → Q (.int m) O) : fMin1 [d] O Q := by
  unfold fMin1 seqInts
  simp only [h0, h1]
  exact ⟨h2, h⟩
theorem w_sum1 {d : D} {ns : List Int} {ds : List D} (h0 : lstOf O d = some ds) (h1 : intsOf ds = some ns) (h : Q (.int ns.sum) O) : fSum1 [d] O Q := by
  unfold fSum1
  simp only [h0, h1]
  exact h
theorem w_meth {C x : Str} (h : m Z Γ O fun o O1 => insD C x O1 o ∧ ms Z Γ O1 fun ds O2 => ds.length = n ∧ S (o :: ds) O2 Z Q) : mMeth C x S n m ms Z Γ O Q := h
theorem w_app (h : m Z Γ O fun o O1 => (∃ xs, lstOf O1 o = some xs) ∧ ms Z Γ O1 fun ds O2 => appD O2 o ds fun O3 => Q .non O3) : mApp m ms Z Γ O Q := h
theorem w_lstC {p : Addr} {xs : List D} (h : O p = some (.lst xs)) : ∃ ys, lstOf O (.cell p) = some ys := ⟨xs, by
  show (match O p with
    | some (.lst ds) => some ds
    | _ => none) = _
  rw [h]⟩
theorem w_appD {p : Addr} {xs : List D} {QS : Sto → Prop} (h0 : O p = some (.lst xs)) (h1 : xs.length < sizeLine) (h : QS (put O p (.lst (xs ++ [d])))) : appD O (.cell p) [d] QS := by
  show match O p with
    | some (.lst xs) => xs.length < sizeLine ∧ QS (put O p (.lst (xs ++ [d])))
    | _ => False
  rw [h0]
  exact ⟨h1, h⟩
theorem w_tupOf (h : m Z Γ O fun d O1 => tupD O1 d Q) : mTupOf m Z Γ O Q := h
theorem w_tupL {ds : List D} (h : Q (.tup ds) O) : tupD O (.lst ds) Q := h
theorem w_tupT {ds : List D} (h : Q (.tup ds) O) : tupD O (.tup ds) Q := h
/-! operations on known kinds -/
variable {x y : Int}
theorem w_fAdd (h : Q (.int (x + y)) O) : fAdd (.int x) (.int y) O Q := h
theorem w_fSub (h : Q (.int (x - y)) O) : fSub (.int x) (.int y) O Q := h
theorem w_fMul (h1 : mulOk x y) (h : Q (.int (x * y)) O) : fMul (.int x) (.int y) O Q := ⟨h1, h⟩
theorem w_fMod (h1 : 0 < y) (h : Q (.int (x % y)) O) : fMod (.int x) (.int y) O Q := ⟨h1, h⟩
theorem w_fDiv (h1 : divOk x y) (h : Q (.int (x / y)) O) : fDiv (.int x) (.int y) O Q := ⟨h1, h⟩
theorem w_fPow (h1 : 0 ≤ y ∧ y ≤ 1000000 ∧ x.natAbs < 2 ^ 64) (h : Q (.int (x ^ y.toNat)) O) : fPow (.int x) (.int y) O Q := ⟨h1, h⟩
theorem w_p10_6 (h : Q (.int 1000000) O) : fPow (.int 10) (.int 6) O Q := w_fPow (by decide) (by rw [show ((10 : Int) ^ Int.toNat 6) = 1000000 by decide +kernel]; exact h)
theorem w_p10_8 (h : Q (.int 100000000) O) : fPow (.int 10) (.int 8) O Q := w_fPow (by decide) (by rw [show ((10 : Int) ^ Int.toNat 8) = 100000000 by decide +kernel]; exact h)
theorem w_p10_18 (h : Q (.int 1000000000000000000) O) : fPow (.int 10) (.int 18) O Q := w_fPow (by decide) (by rw [show ((10 : Int) ^ Int.toNat 18) = 1000000000000000000 by decide +kernel]; exact h)
theorem w_p10_30 (h : Q (.int 1000000000000000000000000000000) O) : fPow (.int 10) (.int 30) O Q := w_fPow (by decide) (by rw [show ((10 : Int) ^ Int.toNat 30) = 1000000000000000000000000000000 by decide +kernel]; exact h)
theorem w_p10_51 (h : Q (.int 1000000000000000000000000000000000000000000000000000) O) : fPow (.int 10) (.int 51) O Q := w_fPow (by decide) (by rw [show ((10 : Int) ^ Int.toNat 51) = 1000000000000000000000000000000000000000000000000000 by decide +kernel]; exact h)
theorem w_p10_59 (h : Q (.int 100000000000000000000000000000000000000000000000000000000000) O) : fPow (.int 10) (.int 59) O Q := w_fPow (by decide) (by rw [show ((10 : Int) ^ Int.toNat 59) = 100000000000000000000000000000000000000000000000000000000000 by decide +kernel]; exact h)
theorem w_p10_60 (h : Q (.int 1000000000000000000000000000000000000000000000000000000000000) O) : fPow (.int 10) (.int 60) O Q := w_fPow (by decide) (by rw [show ((10 : Int) ^ Int.toNat 60) = 1000000000000000000000000000000000000000000000000000000000000 by decide +kernel]; exact h)
theorem w_p2_63 (h : Q (.int 9223372036854775808) O) : fPow (.int 2) (.int 63) O Q := w_fPow (by decide) (by rw [show ((2 : Int) ^ Int.toNat 63) = 9223372036854775808 by decide +kernel]; exact h)
theorem w_p2_64 (h : Q (.int 18446744073709551616) O) : fPow (.int 2) (.int 64) O Q := w_fPow (by decide) (by rw [show ((2 : Int) ^ Int.toNat 64) = 18446744073709551616 by decide +kernel]; exact h)
theorem dv30 {i j : Int} (h : 0 < j) (h2 : j < 1073741824) : divOk i j := ⟨h, .inl h2⟩
theorem w_fNeg (h : Q (.int (-x)) O) : fNeg (.int x) O Q := h
theorem w_fLt (h : Q (.bl (decide (x < y))) O) : fLt (.int x) (.int y) O Q := h
theorem w_fLe (h : Q (.bl (decide (x ≤ y))) O) : fLe (.int x) (.int y) O Q := h
theorem w_fGt (h : Q (.bl (decide (y < x))) O) : fGt (.int x) (.int y) O Q := h
theorem w_fGe (h : Q (.bl (decide (y ≤ x))) O) : fGe (.int x) (.int y) O Q := h
theorem w_fEqI (h : Q (.bl (decide (x = y))) O) : fEq false (.int x) (.int y) O Q := by
  show Q (.bl (decide (x = y) != false)) O
  rw [Bool.bne_false]
  exact h
theorem w_fNeI (h : Q (.bl (!decide (x = y))) O) : fEq true (.int x) (.int y) O Q := by
  show Q (.bl (decide (x = y) != true)) O
  rw [Bool.bne_true]
  exact h
theorem w_fEqB {a b : Bool} (h : Q (.bl (decide (a = b))) O) : fEq false (.bl a) (.bl b) O Q := by
  show Q (.bl (decide (a = b) != false)) O
  rw [Bool.bne_false]
  exact h
theorem w_fEqS {a b : Str} (h : Q (.bl (decide (a = b))) O) : fEq false (.str a) (.str b) O Q := by
  show Q (.bl (decide (a = b) != false)) O
  rw [Bool.bne_false]
  exact h
theorem w_fNeS {a b : Str} (h : Q (.bl (!decide (a = b))) O) : fEq true (.str a) (.str b) O Q := by
  show Q (.bl (decide (a = b) != true)) O
  rw [Bool.bne_true]
  exact h
theorem w_neTup {x y u v : Int} (h : Q (.bl (!decide (x = u ∧ y = v))) O) : fEq true (.tup [.int x, .int y]) (.tup [.int u, .int v]) O Q := by
  refine ⟨.tuple [.int x, .int y], .tuple [.int u, .int v], .tup (.cons (.int _) (.cons (.int _) .nil)), .tup (.cons (.int _) (.cons (.int _) .nil)), rfl, rfl, ?_⟩
  have e : PyData.eqv (.tuple [.int x, .int y]) (.tuple [.int u, .int v]) = decide (x = u ∧ y = v) := by
    simp [PyData.eqv, PyData.eqvAll, Bool.decide_and]
    rw [Bool.eq_iff_iff]
    simp
  rw [e, Bool.bne_true]
  exact h
theorem w_fIxT {ds : List D} (h1 : atI ds x = some d) (h : Q d O) : fIx (.tup ds) (.int x) O Q := by
  show match atI ds x with
    | some d => Q d O
    | none => False
  rw [h1]
  exact h
theorem w_fIxL {ds : List D} (h1 : atI ds x = some d) (h : Q d O) : fIx (.lst ds) (.int x) O Q := by
  show match atI ds x with
    | some d => Q d O
    | none => False
  rw [h1]
  exact h
theorem w_fIxD {o k e : D} (h0 : dget O o k = some (some e)) (h : Q e O) : fIx o k O Q := by
  unfold fIx
  rw [h0]
  exact h
theorem w_fIxC {p : Addr} {ds : List D} (h0 : O p = some (.lst ds)) (h1 : atI ds x = some d) (h : Q d O) : fIx (.cell p) (.int x) O Q := by
  unfold fIx dget
  rw [dicOf_lst h0]
  show match seqOf O (.cell p) with
    | some ds => match atI ds x with
      | some d => Q d O
      | none => False
    | none => False
  rw [seqOf_lst h0]
  show match atI ds x with
    | some d => Q d O
    | none => False
  rw [h1]
  exact h
theorem w_fInt (h : Q (.int x) O) : fInt1 [.int x] O Q := h
theorem w_fIntB {b : Bool} (h : Q (.int (if b then 1 else 0)) O) : fInt1 [.bl b] O Q := h
theorem w_fAbs (h : Q (.int (if x < 0 then -x else x)) O) : fAbs [.int x] O Q := h
theorem w_fMax (h : Q (.int (if y > x then y else x)) O) : fMax1 [.int x, .int y] O Q := h
theorem w_fMin (h : Q (.int (if y < x then y else x)) O) : fMin1 [.int x, .int y] O Q := h
theorem w_fGcd (h : Q (.int (Int.gcd x y)) O) : fGcd [.int x, .int y] O Q := h
theorem w_fLenL {ds : List D} (h : Q (.int ds.length) O) : fLen [.lst ds] O Q := h
theorem w_fLenT {ds : List D} (h : Q (.int ds.length) O) : fLen [.tup ds] O Q := h
theorem w_fLenC {p : Addr} {ds : List D} (h0 : O p = some (.lst ds)) (h : Q (.int ds.length) O) : fLen [.cell p] O Q := by
  have e : seqOf O (.cell p) = some ds := by
    show (match O p with
      | some (.lst ds) => some ds
      | _ => none) = _
    rw [h0]
  show match seqOf O (.cell p) with
    | some xs => Q (.int xs.length) O
    | none => False
  rw [e]
  exact h
theorem w_own {C : Str} {fs gs : List (Str × D)} (h : S [.obj C fs, .obj C gs] O noX Q) : fOwn C S f (.obj C fs) (.obj C gs) O Q := ⟨⟨rfl, rfl⟩, h⟩
theorem w_ownI {C : Str} (h : f (.int x) (.int y) O Q) : fOwn C S f (.int x) (.int y) O Q := h
theorem w_eqOwn {C : Str} {fs : List (Str × D)} (h1 : (isO C O d).isSome = true) (h : S [.obj C fs, d] O noX Q) : fEqOwn C S (.obj C fs) d O Q := ⟨rfl, h1, h⟩
theorem w_eqOwnI {C : Str} (h : fEq false (.int x) d O Q) : fEqOwn C S (.int x) d O Q := h
theorem w_fz (h : Q d O) : orFz Q d O := ⟨_, _, .refl, h⟩
theorem w_fzObj {p : Addr} {C : Str} {fs : List (Str × D)} (h0 : O p = none) (h : Q (.obj C fs) O) : orFz Q (.cell p) (put O p (.ins C fs)) := ⟨_, _, .obj put_same, by rw [del_put h0]; exact h⟩
theorem w_fzLst {p : Addr} {ds : List D} (h0 : O p = none) (h : Q (.lst ds) O) : orFz Q (.cell p) (put O p (.lst ds)) := ⟨_, _, .lst put_same, by rw [del_put h0]; exact h⟩
end
/-! statements -/
section
variable {nx bk ct : Gm → Sto → Prop} {rt : PV} {xp : Str → List (Str × D) → Gm → Sto → Prop} {Γ : Gm} {O : Sto} {a b : MS} {m ma mb mo mi : ME} {ms : MA} {t : MT} {g : MG} {gs : MGs} {d e : D} {i j n : Nat} {Z : PX} {QN : Gm → Sto → Prop} {QS : Sto → Prop}
theorem w_next (h : nx Γ O) : mNext ⟨nx, rt, bk, ct, xp⟩ Γ O := h
theorem w_seq (h : a ⟨b ⟨nx, rt, bk, ct, xp⟩, rt, bk, ct, xp⟩ Γ O) : mSeq a b ⟨nx, rt, bk, ct, xp⟩ Γ O := h
theorem w_brk (h : bk Γ O) : mBrk ⟨nx, rt, bk, ct, xp⟩ Γ O := h
theorem w_cont (h : ct Γ O) : mCont ⟨nx, rt, bk, ct, xp⟩ Γ O := h
theorem w_ret (h : m (fun C fs O => xp C fs Γ O) Γ O (orFz rt)) : mRet m ⟨nx, rt, bk, ct, xp⟩ Γ O := h
theorem w_retN (h : rt .non O) : mRetN ⟨nx, rt, bk, ct, xp⟩ Γ O := h
theorem w_drop (h : m (fun C fs O => xp C fs Γ O) Γ O fun _ O1 => nx Γ O1) : mDrop m ⟨nx, rt, bk, ct, xp⟩ Γ O := h
theorem w_if (h : t (fun C fs O => xp C fs Γ O) Γ O (kIf (a ⟨nx, rt, bk, ct, xp⟩ Γ) (b ⟨nx, rt, bk, ct, xp⟩ Γ))) : mIf t a b ⟨nx, rt, bk, ct, xp⟩ Γ O := h
theorem w_asg (h : m (fun C fs O => xp C fs Γ O) Γ O fun d O1 => g (fun C fs O => xp C fs Γ O) d Γ O1 nx) : mAsg m g ⟨nx, rt, bk, ct, xp⟩ Γ O := h
theorem w_par (h : ms (fun C fs O => xp C fs Γ O) Γ O fun ds O1 => par2 ds fun a b => nx ((Γ.set i (some a)).set j (some b)) O1) : mPar i j ms ⟨nx, rt, bk, ct, xp⟩ Γ O := h
theorem w_par2 {Q : D → D → Prop} (h : Q d e) : par2 [d, e] Q := h
theorem w_setA {tab : List (Str × Str)} {f : Str} (h : m (fun C fs O => xp C fs Γ O) Γ O fun d O1 => mo (fun C fs O => xp C fs Γ O) Γ O1 fun o O2 => setA tab f O2 o d (nx Γ)) : mSetA tab f m mo ⟨nx, rt, bk, ct, xp⟩ Γ O := h
theorem w_setA1 {tab : List (Str × Str)} {f C : Str} {p : Addr} {fs : List (Str × D)} (h0 : O p = some (.ins C fs)) (h1 : (C, f) ∈ tab) (h2 : fs.length < 1000) (h : QS (put O p (.ins C (putA f d fs)))) : setA tab f O (.cell p) d QS := by
  show match O p with
    | some (.ins C fs) => (C, f) ∈ tab ∧ fs.length < 1000 ∧ QS (put O p (.ins C (putA f d fs)))
    | _ => False
  rw [h0]
  exact ⟨h1, h2, h⟩
theorem w_raise {C : Str} (h : xp C [] Γ O) : mRaise C ⟨nx, rt, bk, ct, xp⟩ Γ O := h
theorem w_try {cs : List Str} {su : Str → List (Str × D) → Addr → MS} (h : a ⟨nx, rt, bk, ct, fun C fs Γ1 O1 => C ∈ cs ∧ ∀ a, su C fs a ⟨fun Γ2 O2 => nx (Γ2.set i none) O2, rt, fun Γ2 O2 => bk (Γ2.set i none) O2, fun Γ2 O2 => ct (Γ2.set i none) O2, fun _ _ _ _ => False⟩ (Γ1.set i (some (.cell a))) O1⟩ Γ O) : mTry i cs a su ⟨nx, rt, bk, ct, xp⟩ Γ O := h
theorem w_sui {P : En} (h : a P Γ O) : sui [] (some a) P Γ O := ⟨rfl, h⟩
theorem w_for {mi : MI} (h : mi (fun C fs O => xp C fs Γ O) Γ O fun chk all O1 => forL chk g b ⟨nx, rt, bk, ct, xp⟩ all Γ O1) : mFor mi g b ⟨nx, rt, bk, ct, xp⟩ Γ O := h
theorem w_retL (h : m (fun C fs O => xp C fs Γ O) Γ O fun d O1 => ∃ e O2, FzD O1 d e O2 ∧ rt e O2) : mRetL m ⟨nx, rt, bk, ct, xp⟩ Γ O := h
theorem w_fzdT {p : Addr} {kvs : List (List Key × D)} {R : PV} (h0 : O p = none) (h : R (.dT kvs) O) : ∃ e O2, FzD (put O p (.dT kvs)) (.cell p) e O2 ∧ R e O2 := ⟨_, _, .dT put_same, by rw [del_put h0]; exact h⟩
theorem w_fzdK {p : Addr} {kvs : List (Key × D)} {R : PV} (h0 : O p = none) (h : R (.dK kvs) O) : ∃ e O2, FzD (put O p (.dK kvs)) (.cell p) e O2 ∧ R e O2 := ⟨_, _, .dK put_same, by rw [del_put h0]; exact h⟩
theorem w_rng2 {x y : Int} {Q : Int → Nat → Prop} (h1 : -(2 ^ 62) ≤ x ∧ x < 2 ^ 62 ∧ -(2 ^ 62) ≤ y ∧ y < 2 ^ 62) (h : Q x (y - x).toNat) : rng2 [.int x, .int y] Q := ⟨h1, h⟩
theorem w_rng1 {x : Int} {Q : Int → Nat → Prop} (h1 : -(2 ^ 62) ≤ x ∧ x < 2 ^ 62) (h : Q 0 x.toNat) : rng1 [.int x] Q := ⟨h1, h⟩
theorem w_forNil {chk : Sto → Prop} (h0 : chk O) (h : nx Γ O) : forL chk g b ⟨nx, rt, bk, ct, xp⟩ [] Γ O := ⟨h0, _, _, .refl, h⟩
theorem w_forCons {chk : Sto → Prop} {r : List D} (h0 : chk O) (h : g (fun _ _ _ => False) d Γ O fun Γ1 O1 => b ⟨forL chk g b ⟨nx, rt, bk, ct, xp⟩ r, rt, orFzG nx, forL chk g b ⟨nx, rt, bk, ct, xp⟩ r, xp⟩ Γ1 O1) : forL chk g b ⟨nx, rt, bk, ct, xp⟩ (d :: r) Γ O := ⟨h0, h⟩
/-- a loop by what stays -/
theorem w_forInv {chk : Sto → Prop} (I : Gm → Sto → Prop) (hc : ∀ Γ O, I Γ O → chk O) : ∀ (ds : List D), (∀ x ∈ ds, ∀ K : Gm → Sto → Prop, (∀ Γ O, I Γ O → K Γ O) → ∀ Γ O, I Γ O → g (fun _ _ _ => False) x Γ O fun Γ1 O1 => b ⟨K, rt, orFzG nx, K, xp⟩ Γ1 O1) →
    (∀ Γ O, I Γ O → nx Γ O) → ∀ Γ O, I Γ O → forL chk g b ⟨nx, rt, bk, ct, xp⟩ ds Γ O
  | [], _, fin, Γ, O, i => w_forNil (hc Γ O i) (fin Γ O i)
  | x :: r, st, fin, Γ, O, i => w_forCons (hc Γ O i) (st x List.mem_cons_self _ (fun Γ O i => w_forInv I hc r (fun y hy => st y (List.mem_cons_of_mem _ hy)) fin Γ O i) Γ O i)
/-- a loop over a list's image, by what is left -/
theorem w_forL {α : Type} {chk : Sto → Prop} (f : α → D) (I : List α → Gm → Sto → Prop) (hc : ∀ r Γ O, I r Γ O → chk O) (st : ∀ x r, ∀ K : Gm → Sto → Prop, (∀ Γ O, I r Γ O → K Γ O) → ∀ Γ O, I (x :: r) Γ O → g (fun _ _ _ => False) (f x) Γ O fun Γ1 O1 => b ⟨K, rt, orFzG nx, K, xp⟩ Γ1 O1)
    (fin : ∀ Γ O, I [] Γ O → nx Γ O) : ∀ r Γ O, I r Γ O → forL chk g b ⟨nx, rt, bk, ct, xp⟩ (r.map f) Γ O
  | [], Γ, O, i => w_forNil (hc _ Γ O i) (fin Γ O i)
  | x :: r, Γ, O, i => w_forCons (hc _ Γ O i) (st x r _ (fun Γ O i => w_forL f I hc st fin r Γ O i) Γ O i)
/-- a loop over a range, by how many are left -/
theorem w_forN {chk : Sto → Prop} (I : Nat → Int → Gm → Sto → Prop) (hc : ∀ n lo Γ O, I n lo Γ O → chk O) (st : ∀ n lo, ∀ K : Gm → Sto → Prop, (∀ Γ O, I n (lo + 1) Γ O → K Γ O) → ∀ Γ O, I (n + 1) lo Γ O → g (fun _ _ _ => False) (.int lo) Γ O fun Γ1 O1 => b ⟨K, rt, orFzG nx, K, xp⟩ Γ1 O1)
    (fin : ∀ lo Γ O, I 0 lo Γ O → nx Γ O) : ∀ n lo Γ O, I n lo Γ O → forL chk g b ⟨nx, rt, bk, ct, xp⟩ (upto lo n) Γ O
  | 0, lo, Γ, O, i => w_forNil (hc _ _ Γ O i) (fin lo Γ O i)
  | n + 1, lo, Γ, O, i => w_forCons (hc _ _ Γ O i) (st n lo _ (fun Γ O i => w_forN I hc st fin n (lo + 1) Γ O i) Γ O i)
theorem w_while (W0 : Nat → Gm → Sto → Prop) (n : Nat) (h0 : W0 n Γ O) (h : ∀ n Γ O, W0 n Γ O → t (fun C fs O => xp C fs Γ O) Γ O (kIf (b ⟨fun Γ' O' => ∃ m', m' < n ∧ W0 m' Γ' O', rt, orFzG nx, fun Γ' O' => ∃ m', m' < n ∧ W0 m' Γ' O', xp⟩ Γ) (orFzG nx Γ))) : mWhile t b ⟨nx, rt, bk, ct, xp⟩ Γ O := ⟨W0, ⟨n, h0⟩, h⟩
theorem w_fzG (h : nx Γ O) : orFzG nx Γ O := ⟨_, _, .refl, h⟩
theorem w_tgName (h : QN (Γ.set i (some d)) O) : tgName i Z d Γ O QN := h
theorem w_tgIx (h : mo Z Γ O fun o O1 => mi Z Γ O1 fun i O2 => setL O2 o i d (QN Γ)) : tgIx mo mi Z d Γ O QN := h
theorem w_setL {p : Addr} {ds : List D} {k : Int} (h0 : O p = some (.lst ds)) (h1 : ixN ds.length k = some j) (h : QS (put O p (.lst (ds.set j d)))) : setL O (.cell p) (.int k) d QS := by
  unfold setL
  simp only [h0, h1]
  exact h
theorem w_setT {p : Addr} {ds : List D} {ks : List Key} {kvs : List (List Key × D)} (h0 : O p = some (.dT kvs)) (h1 : keysD ds = some ks) (h2 : kvs.length < sizeLine) (h : QS (put O p (.dT (putD kvs ks d)))) : setL O (.cell p) (.tup ds) d QS := by
  unfold setL
  simp only [h0, h1]
  exact ⟨h2, h⟩
theorem w_setK {p : Addr} {k : D} {kk : Key} {kvs : List (Key × D)} (h0 : O p = some (.dK kvs)) (h1 : keyD k = some kk) (h2 : kvs.length < sizeLine) (h : QS (put O p (.dK (putD kvs kk d)))) : setL O (.cell p) k d QS := by
  unfold setL
  simp only [h0, h1]
  exact ⟨h2, h⟩
theorem w_tgTup {ds : List D} (h1 : ds.length = n) (h : gs (fun _ _ _ => False) ds Γ O QN) : tgTup n gs Z (.tup ds) Γ O QN := ⟨h1, h⟩
theorem w_tgCons {r : List D} (h : g (fun _ _ _ => False) d Γ O fun Γ1 O1 => gs Z r Γ1 O1 QN) : tgCons g gs Z (d :: r) Γ O QN := h
theorem w_tgNil (h : QN Γ O) : tgNil Z [] Γ O QN := h
end
/-! sizes -/
def Bd (n : Nat) (x : Int) : Prop := x.natAbs < 2 ^ n
theorem Bd.mul {n m : Nat} {x y : Int} (a : Bd n x) (b : Bd m y) : Bd (n + m) (x * y) := by
  unfold Bd at *
  rw [Int.natAbs_mul, Nat.pow_add]
  exact Nat.mul_lt_mul'' a b
theorem Bd.mono {n m : Nat} {x : Int} (a : Bd n x) (h : n ≤ m) : Bd m x := Nat.lt_of_lt_of_le a (Nat.pow_le_pow_right (by decide) h)
theorem Bd.add {n : Nat} {x y : Int} (a : Bd n x) (b : Bd n y) : Bd (n + 1) (x + y) := by
  unfold Bd at *
  have := Int.natAbs_add_le x y
  rw [Nat.pow_succ]
  omega
theorem Bd.sub {n : Nat} {x y : Int} (a : Bd n x) (b : Bd n y) : Bd (n + 1) (x - y) := by
  unfold Bd at *
  have := Int.natAbs_sub_le x y
  rw [Nat.pow_succ]
  omega
theorem Bd.neg {n : Nat} {x : Int} (a : Bd n x) : Bd n (-x) := by unfold Bd at *; rwa [Int.natAbs_neg]
theorem Bd.ok {n : Nat} {x y : Int} (h : 0 < n) (h2 : n ≤ 500000) (a : Bd n x) (b : Bd n y) : mulOk x y := .inr ⟨n, h, h2, a, b⟩
theorem Bd.le {n : Nat} {x y : Int} (a : Bd n y) (h : x.natAbs ≤ y.natAbs) : Bd n x := Nat.lt_of_le_of_lt h a
theorem mulL {x y : Int} (h : x.natAbs < 18446744073709551616) : mulOk x y := .inl (.inl (by simpa using h))
theorem mulR {x y : Int} (h : y.natAbs < 18446744073709551616) : mulOk x y := .inl (.inr (by simpa using h))
end L3

namespace L3
open PySem PySem.Spec PyProof.Rows L2

/-! ## plain data: ints, texts, None, tuples and lists of such -/
mutual
def okD : D → Bool
  | .int _ => true
  | .str z => PyData.strOk z
  | .non => true
  | .tup ds => okDs ds
  | .lst ds => okDs ds
  | _ => false
def okDs : List D → Bool
  | [] => true
  | d :: r => okD d && okDs r
end
mutual
def pyD : D → PyData
  | .int i => .int i
  | .str s => .str s
  | .tup ds => .tuple (pyDs ds)
  | .lst ds => .list (pyDs ds)
  | _ => .none
def pyDs : List D → List PyData
  | [] => []
  | d :: r => pyD d :: pyDs r
end
mutual
theorem py_ok {O : Sto} : ∀ {d : D}, okD d = true → Py O d (pyD d)
  | .int i, _ => .int i
  | .str s, _ => .str s
  | .non, _ => .non
  | .tup ds, h => .tup (pys_ok (by simpa [okD] using h))
  | .lst ds, h => .lst (pys_ok (by simpa [okD] using h))
  | .bl _, h => by simp [okD] at h
  | .obj _ _, h => by simp [okD] at h
  | .cell _, h => by simp [okD] at h
  | .ty _, h => by simp [okD] at h
  | .dK _, h => by simp [okD] at h
  | .dT _, h => by simp [okD] at h
theorem pys_ok {O : Sto} : ∀ {ds : List D}, okDs ds = true → Pys O ds (pyDs ds)
  | [], _ => .nil
  | d :: r, h => by
    simp only [okDs, Bool.and_eq_true] at h
    exact .cons (py_ok h.1) (pys_ok h.2)
end
mutual
theorem eqv_iff : ∀ {a b : D}, okD a = true → okD b = true → (PyData.eqv (pyD a) (pyD b) = true ↔ a = b)
  | .int i, b, _, h => by
    cases b <;> simp [okD] at h <;> simp [pyD, PyData.eqv]
  | .str i, b, _, h => by
    cases b <;> simp [okD] at h <;> simp [pyD, PyData.eqv]
  | .non, b, _, h => by
    cases b <;> simp [okD] at h <;> simp [pyD, PyData.eqv]
  | .tup ds, b, h0, h => by
    cases b <;> simp [okD] at h <;> simp [pyD, PyData.eqv]
    rename_i es
    exact eqvs_iff (by simpa [okD] using h0) h
  | .lst ds, b, h0, h => by
    cases b <;> simp [okD] at h <;> simp [pyD, PyData.eqv]
    rename_i es
    exact eqvs_iff (by simpa [okD] using h0) h
  | .bl _, _, h, _ => by simp [okD] at h
  | .obj _ _, _, h, _ => by simp [okD] at h
  | .cell _, _, h, _ => by simp [okD] at h
  | .ty _, _, h, _ => by simp [okD] at h
  | .dK _, _, h, _ => by simp [okD] at h
  | .dT _, _, h, _ => by simp [okD] at h
theorem eqvs_iff : ∀ {as bs : List D}, okDs as = true → okDs bs = true → (PyData.eqvAll (pyDs as) (pyDs bs) = true ↔ as = bs)
  | [], [], _, _ => by simp [pyDs, PyData.eqvAll]
  | [], _ :: _, _, _ => by simp [pyDs, PyData.eqvAll]
  | _ :: _, [], _, _ => by simp [pyDs, PyData.eqvAll]
  | a :: as, b :: bs, h1, h2 => by
    simp only [okDs, Bool.and_eq_true] at h1 h2
    simp only [pyDs, PyData.eqvAll, Bool.and_eq_true, List.cons.injEq]
    rw [eqv_iff h1.1 h2.1, eqvs_iff h1.2 h2.2]
end
mutual
def depD : D → Nat
  | .tup ds => 1 + depDs ds
  | .lst ds => 1 + depDs ds
  | _ => 0
def depDs : List D → Nat
  | [] => 0
  | d :: r => max (depD d) (depDs r)
end
mutual
theorem shp : ∀ {a : D}, okD a = true → (pyD a).canLay0 = true ∧ (pyD a).depth = depD a
  | .int i, _ => by simp [pyD, PyData.canLay0, PyData.depth, depD]
  | .str i, h => by
    have h2 : PyData.strOk i = true := by simpa [okD] using h
    simp [pyD, PyData.canLay0, PyData.depth, depD, h2]
  | .non, _ => by simp [pyD, PyData.canLay0, PyData.depth, depD]
  | .tup ds, h => by
    have := shps (ds := ds) (by simpa [okD] using h)
    simp [pyD, PyData.canLay0, PyData.depth, depD, this.1, this.2]
    try omega
  | .lst ds, h => by
    have := shps (ds := ds) (by simpa [okD] using h)
    simp [pyD, PyData.canLay0, PyData.depth, depD, this.1, this.2]
    try omega
  | .bl _, h => by simp [okD] at h
  | .obj _ _, h => by simp [okD] at h
  | .cell _, h => by simp [okD] at h
  | .ty _, h => by simp [okD] at h
  | .dK _, h => by simp [okD] at h
  | .dT _, h => by simp [okD] at h
theorem shps : ∀ {ds : List D}, okDs ds = true → PyData.canLayAll0 (pyDs ds) = true ∧ PyData.depthAll (pyDs ds) = depDs ds
  | [], _ => by simp [pyDs, PyData.canLayAll0, PyData.depthAll, depDs]
  | d :: r, h => by
    simp only [okDs, Bool.and_eq_true] at h
    have h1 := shp h.1
    have h2 := shps h.2
    simp [pyDs, PyData.canLayAll0, PyData.depthAll, depDs, h1.1, h1.2, h2.1, h2.2]
end
theorem shaped_ok {a : D} (h : okD a = true) (d : depD a ≤ 64) : SeqAt.shaped (pyD a) = true := by
  unfold SeqAt.shaped
  rw [(shp h).1, (shp h).2, decide_eq_true d]
  rfl
theorem okDs_map {α : Type} {f : α → D} {xs : List α} (h : ∀ x, okD (f x) = true) : okDs (xs.map f) = true := by
  induction xs with
  | nil => rfl
  | cons x r ih => simp [okDs, h x, ih]
theorem depDs_map {α : Type} {f : α → D} {xs : List α} {n : Nat} (h : ∀ x, depD (f x) ≤ n) : depDs (xs.map f) ≤ n := by
  induction xs with
  | nil => exact Nat.zero_le _
  | cons x r ih =>
    simp only [List.map_cons, depDs]
    exact Nat.max_le.mpr ⟨h x, ih⟩
theorem depDs_mem {n : Nat} : ∀ {ds : List D}, (∀ d ∈ ds, depD d ≤ n) → depDs ds ≤ n
  | [], _ => Nat.zero_le _
  | d :: r, h => by
    simp only [depDs]
    exact Nat.max_le.mpr ⟨h d List.mem_cons_self, depDs_mem fun x hx => h x (List.mem_cons_of_mem _ hx)⟩
theorem okDs_mem : ∀ {ds : List D}, (∀ d ∈ ds, okD d = true) → okDs ds = true
  | [], _ => rfl
  | d :: r, h => by
    simp only [okDs, h d List.mem_cons_self, okDs_mem fun x hx => h x (List.mem_cons_of_mem _ hx), Bool.and_self]
theorem okDs_get : ∀ {ds : List D}, okDs ds = true → ∀ d ∈ ds, okD d = true
  | d :: r, h, x, hx => by
    simp only [okDs, Bool.and_eq_true] at h
    rcases List.mem_cons.mp hx with rfl | hx
    · exact h.1
    · exact okDs_get h.2 x hx
open Classical in
theorem w_eqD {neg : Bool} {a b : D} {O : Sto} {Q : PV} (ha : okD a = true) (hb : okD b = true) (da : depD a ≤ 64) (db : depD b ≤ 64) (hs : scalD a b = none) (h : Q (.bl (decide (a = b) != neg)) O) : fEq neg a b O Q := by
  unfold fEq
  rw [hs]
  refine ⟨_, _, py_ok ha, py_ok hb, shaped_ok ha da, shaped_ok hb db, ?_⟩
  have e : PyData.eqv (pyD a) (pyD b) = decide (a = b) := by
    rw [Bool.eq_iff_iff, eqv_iff ha hb]
    simp
  rw [e]
  exact h
open Classical in
/-- the same, told by what a = b says -/
theorem w_eqP {a b : D} {O : Sto} {Q : PV} {p : Prop} (ha : okD a = true) (hb : okD b = true) (da : depD a ≤ 64) (db : depD b ≤ 64) (hs : scalD a b = none) (hp : a = b ↔ p) (h : Q (.bl (decide p)) O) : fEq false a b O Q := by
  refine w_eqD ha hb da db hs ?_
  rw [Bool.bne_false, decide_eq_decide.mpr hp]
  exact h
open Classical in
theorem w_neP {a b : D} {O : Sto} {Q : PV} {p : Prop} (ha : okD a = true) (hb : okD b = true) (da : depD a ≤ 64) (db : depD b ≤ 64) (hs : scalD a b = none) (hp : a = b ↔ p) (h : Q (.bl (!decide p)) O) : fEq true a b O Q := by
  refine w_eqD ha hb da db hs ?_
  rw [Bool.bne_true, decide_eq_decide.mpr hp]
  exact h
theorem any_mem {a : D} (ha : okD a = true) : ∀ {ds : List D}, okDs ds = true → (((pyDs ds).any fun z => PyData.eqv z (pyD a)) = true ↔ a ∈ ds)
  | [], _ => by simp [pyDs]
  | d :: r, h => by
    simp only [okDs, Bool.and_eq_true] at h
    simp only [pyDs, List.any_cons, Bool.or_eq_true, List.mem_cons]
    rw [eqv_iff h.1 ha, any_mem ha h.2]
    exact or_congr_left ⟨fun e => e.symm, fun e => e.symm⟩
theorem pys_list {O : Sto} {ds : List D} (h : okDs ds = true) (d : depDs ds ≤ 63) : SeqAt.shaped (.list (pyDs ds)) = true := shaped_ok (a := .lst ds) (by simpa [okD] using h) (by simp only [depD]; omega)
open Classical in
theorem w_inP {neg : Bool} {a b : D} {O : Sto} {Q : PV} {ds : List D} {p : Prop} (hb : seqOf O b = some ds) (hdic : dicOf O b = none) (ha : okD a = true) (hd : okDs ds = true) (da : depD a ≤ 64) (dd : depDs ds ≤ 63) (hstr : ∀ z, b ≠ .str z) (hp : a ∈ ds ↔ p) (h : Q (.bl (if neg then !decide p else decide p)) O) : fIn neg a b O Q := by
  have e0 : dget O b a = none := by unfold dget; rw [hdic]
  have key : fIn0 neg a b O Q := by
    unfold fIn0
    rw [e0]
    refine ⟨_, pyDs ds, py_ok ha, ?_, shaped_ok ha da, pys_list (O := O) hd dd, ?_⟩
    · cases b with
      | lst es => cases hb; exact .inl (.lst (pys_ok hd))
      | tup es => cases hb; exact .inr (.tup (pys_ok hd))
      | cell q =>
        refine .inl (.cell (lstOf_cell hb) (pys_ok hd))
      | _ => cases hb
    · have e : ((pyDs ds).any fun z => PyData.eqv z (pyD a)) = decide p := by
        rw [Bool.eq_iff_iff, any_mem ha hd, hp]
        simp
      rw [e]
      exact h
  unfold fIn
  split
  · rename_i i j
    exact absurd rfl (hstr j)
  · exact key
theorem w_inDic {neg : Bool} {a b : D} {O : Sto} {Q : PV} {r : Option D} (hb : dget O b a = some r) (hstr : ∀ z, b ≠ .str z) (h : Q (.bl (if neg then !r.isSome else r.isSome)) O) : fIn neg a b O Q := by
  unfold fIn
  split
  · rename_i i j
    exact absurd rfl (hstr j)
  · unfold fIn0
    rw [hb]
    exact h
end L3

namespace L3
open PySem PySem.Spec PyProof.Rows L2

/-! ## texts, lists, stores: plain facts for all laws -/
abbrev cs (z : Str) : List Nat := z.cps.toList
def mk (l : List Nat) : Str := ⟨l.toArray⟩
theorem str_ext {x y : Str} (h : cs x = cs y) : x = y := by
  cases x
  cases y
  congr 1
  exact Array.toList_inj.mp h
theorem len_cs (z : Str) : z.length = (cs z).length := by simp [Str.length, cs]
theorem cs_mk (l : List Nat) : cs (mk l) = l := by simp [cs, mk]
theorem mk_cs (z : Str) : mk (cs z) = z := str_ext (cs_mk _)
theorem len_mk (l : List Nat) : (mk l).length = l.length := by rw [len_cs, cs_mk]
theorem app_len (x y : Str) : (x ++ y).length = x.length + y.length := PySem.Str.length_append x y
theorem cs_app (x y : Str) : cs (x ++ y) = cs x ++ cs y := by
  show (x ++ y).cps.toList = x.cps.toList ++ y.cps.toList
  exact (congrArg Array.toList rfl).trans (Array.toList_append ..)
theorem empty_app (x : Str) : Str.empty ++ x = x := str_ext (by rw [cs_app]; rfl)
theorem mk_app (a b : List Nat) : mk a ++ mk b = mk (a ++ b) := str_ext (by rw [cs_app, cs_mk, cs_mk, cs_mk])
theorem big_line : 100000 ≤ sizeLine := Nat.le_of_ble_eq_true rfl
theorem cut_to (z : Str) (k : Nat) : cutS z none (some (k : Int)) = mk ((cs z).take k) := by
  unfold cutS mk
  rw [HT.sIx_none, HT.sIx_nat, len_cs]
  congr 2
  simp only [Nat.sub_zero, List.drop_zero]
  show List.take (min k (cs z).length) (cs z) = List.take k (cs z)
  by_cases h : k ≤ (cs z).length
  · rw [Nat.min_eq_left h]
  · rw [Nat.min_eq_right (by omega), List.take_of_length_le (Nat.le_refl _), List.take_of_length_le (by omega)]
theorem cut_from (z : Str) (k : Nat) : cutS z (some (k : Int)) none = mk ((cs z).drop k) := by
  unfold cutS mk
  rw [HT.sIx_none, HT.sIx_nat, len_cs]
  congr 1
  by_cases h : k ≤ (cs z).length
  · rw [Nat.min_eq_left h]
    rw [List.take_of_length_le (by rw [List.length_drop]; exact Nat.le_refl _)]
  · rw [Nat.min_eq_right (by omega)]
    rw [List.drop_eq_nil_of_le (Nat.le_refl _), List.drop_eq_nil_of_le (by omega)]
    simp
theorem cut_len1 (z : Str) (a b : Option Int) : (cutS z a b).length ≤ z.length := L2.cutS_length z a b
/-- signs below 128 -/
def asc (z : Str) : Bool := (cs z).all (· < 128)
theorem asc_app {x y : Str} (h1 : asc x = true) (h2 : asc y = true) : asc (x ++ y) = true := by
  unfold asc at *
  rw [cs_app, List.all_append, h1, h2]
  rfl
theorem asc_ok {x : Str} (h : asc x = true) : PyData.strOk x = true := by
  unfold PyData.strOk
  unfold asc at h
  rw [← Array.all_toList]
  rw [List.all_eq_true] at h ⊢
  intro c hc
  have := h c hc
  simp only [decide_eq_true_eq] at this ⊢
  omega
theorem strOk_app {x y : Str} (h1 : PyData.strOk x = true) (h2 : PyData.strOk y = true) : PyData.strOk (x ++ y) = true := by
  unfold PyData.strOk at *
  rw [← Array.all_toList] at *
  have e : (x ++ y).cps.toList = x.cps.toList ++ y.cps.toList := cs_app x y
  rw [e, List.all_append, h1, h2]
  rfl
theorem asc_mem {z : Str} (h : asc z = true) {c : Nat} (hc : c ∈ cs z) : asc ⟨#[c]⟩ = true := by
  unfold asc at *
  have := List.all_eq_true.mp h c hc
  simp [cs] at this ⊢
  exact this
theorem cut_mem {z : Str} {a b : Option Int} {c : Nat} (h : c ∈ cs (cutS z a b)) : c ∈ cs z := by
  unfold cutS at h
  have h2 : c ∈ List.take (HT.sIx z.length z.length b - HT.sIx z.length 0 a) (List.drop (HT.sIx z.length 0 a) z.cps.toList) := by simpa [cs] using h
  exact List.mem_of_mem_drop (List.mem_of_mem_take h2)
theorem asc_cut {z : Str} {a b : Option Int} (h : asc z = true) : asc (cutS z a b) = true := by
  unfold asc at *
  rw [List.all_eq_true] at *
  exact fun c hc => h c (cut_mem hc)
theorem atI_ex {α : Type} {l : List α} {i : Int} (h0 : 0 ≤ i) (h1 : i < l.length) : ∃ x, x ∈ l ∧ l[i.toNat]? = some x ∧ atI l i = some x := by
  have hlt : i.toNat < l.length := by omega
  refine ⟨l[i.toNat], List.getElem_mem hlt, List.getElem?_eq_getElem hlt, ?_⟩
  unfold atI
  have e : ixN l.length i = some i.toNat := by
    unfold ixN
    rw [if_pos (by omega), if_pos (by omega)]
  rw [e]
  show l[i.toNat]? = _
  exact List.getElem?_eq_getElem hlt
theorem atI_map2 {α : Type} {f : α → D} {xs : List α} {i : Int} {x : α} (h : atI xs i = some x) : atI (xs.map f) i = some (f x) := by
  unfold atI at *
  rw [List.length_map]
  cases e : ixN xs.length i with
  | none => rw [e] at h; cases h
  | some j =>
    rw [e] at h
    have h2 : xs[j]? = some x := h
    show (xs.map f)[j]? = _
    rw [List.getElem?_map, h2]
    rfl
theorem atI_get {α : Type} {xs : List α} {f : α → D} {i : Int} (h0 : 0 ≤ i) (h1 : i < xs.length) : ∃ x ∈ xs, xs[i.toNat]? = some x ∧ atI (xs.map f) i = some (f x) := by
  obtain ⟨x, a, b, c⟩ := atI_ex h0 h1
  exact ⟨x, a, b, atI_map2 c⟩
theorem w_ixS {z : Str} {x : Int} {O : Sto} {Q : PV} (h1 : z.length ≤ sizeLine) (h0 : 0 ≤ x) (h2 : x < z.length) (h : ∀ c, c ∈ cs z → Q (.str ⟨#[c]⟩) O) : fIx (.str z) (.int x) O Q := by
  obtain ⟨c, a, _, e⟩ := atI_ex (l := z.cps.toList) h0 (by rw [len_cs] at h2; exact h2)
  exact w_fIxS h1 e (h c a)
theorem one_len (c : Nat) : (⟨#[c]⟩ : Str).length = 1 := rfl
/-- a cut in a walk: whatever follows a -/
theorem w_cut {a : MS} {nx bk ct : Gm → Sto → Prop} {rt : PV} {xp : Str → List (Str × D) → Gm → Sto → Prop} {Γ : Gm} {O : Sto} (J : Gm → Sto → Prop) (h1 : ∀ Γ' O', J Γ' O' → nx Γ' O') (h2 : ∀ nx' : Gm → Sto → Prop, (∀ Γ' O', J Γ' O' → nx' Γ' O') → a ⟨nx', rt, bk, ct, xp⟩ Γ O) : a ⟨nx, rt, bk, ct, xp⟩ Γ O := h2 nx h1
/-- cells that stood stand as they were -/
def Ext (O O' : Sto) : Prop := ∀ q u, O q = some u → O' q = some u
theorem Ext.refl {O : Sto} : Ext O O := fun _ _ h => h
theorem Ext.trans {O O1 O2 : Sto} (a : Ext O O1) (b : Ext O1 O2) : Ext O O2 := fun q u h => b q u (a q u h)
theorem Ext.put {O : Sto} {p : Addr} {u : MO} (h : O p = none) : Ext O (put O p u) := fun q w e => by
  rw [put_ne]
  · exact e
  · rintro rfl
    rw [h] at e
    cases e
theorem Ext.fz {O O' : Sto} {p : Addr} {u : MO} (h : O p = none) (e : Ext (L3.put O p u) O') : Ext O O' := (Ext.put h).trans e
/-- .. but what stands at p -/
def ExtB (p : Addr) (O O' : Sto) : Prop := ∀ q u, q ≠ p → O q = some u → O' q = some u
theorem ExtB.ext {p : Addr} {O O' : Sto} {u : MO} (h : O p = none) (e : ExtB p (L3.put O p u) O') : Ext O O' := fun q w hq => by
  have ne : q ≠ p := by rintro rfl; rw [h] at hq; cases hq
  exact e q w ne (by rw [put_ne ne]; exact hq)

theorem cT {p : Prop} {i : Decidable p} (h : @decide p i = true) : p := @of_decide_eq_true p i h
theorem cF {p : Prop} {i : Decidable p} (h : @decide p i = false) : ¬ p := @of_decide_eq_false p i h
theorem dT {p : Prop} {i : Decidable p} (h : p) : @decide p i = true := @decide_eq_true p i h
theorem dF {p : Prop} {i : Decidable p} (h : ¬ p) : @decide p i = false := @decide_eq_false p i h
theorem lstOf_c {O : Sto} {p : Addr} {ds : List D} (h : O p = some (.lst ds)) : lstOf O (.cell p) = some ds := by
  unfold lstOf
  simp only [h]
theorem w_fAddLst {O : Sto} {a b : D} {xs ys : List D} {Q : PV} (ha : lstOf O a = some xs) (hb : lstOf O b = some ys) (hz : xs.length + ys.length ≤ sizeLine) (h : ∀ p, O p = none → orFz Q (.cell p) (put O p (.lst (xs ++ ys)))) : fAdd a b O Q := by
  unfold fAdd
  split
  · cases ha
  · cases ha
  · cases ha
  · simp only [ha, hb]
    exact ⟨hz, h⟩
theorem w_ixAny {O : Sto} {ds : List D} {r : Int} {Q : PV} (h0 : 0 ≤ r) (h1 : r < ds.length) (h : ∀ x ∈ ds, Q x O) : fIx (.lst ds) (.int r) O Q := by
  obtain ⟨x, hx, _, e⟩ := atI_ex h0 h1
  exact w_fIxL e (h x hx)
theorem w_slTup {O : Sto} {ds : List D} {lo hi : Option Int} {Q : PV} (h : Q (.tup (cut ds lo hi)) O) : slD (.tup ds) lo hi O Q := h
/-- a comprehension over a list's image -/
theorem w_lcG {α : Type} {tg : TgN} {chk : Sto → Prop} {t : MT} {ma : ME} {Γ : Gm} {O : Sto} {Q : PV} (g : α → D) (b : α → Bool) (f : α → D) {xs : List α} (hl : xs.length ≤ sizeLine) (hc : ∀ p acc, O p = none → chk (put O p (.lst acc)))
    (h : ∀ x ∈ xs, ∀ p acc, O p = none → ∀ (K1 : PV) (K0 : Sto → Prop), (b x = true → K1 (f x) (put O p (.lst acc))) → (b x = false → K0 (put O p (.lst acc))) → tg.put (g x) Γ fun Γ1 => t noX Γ1 (put O p (.lst acc)) (kIf (fun O2 => ma noX Γ1 O2 K1) K0))
    (hq : ∀ p, O p = none → orFz Q (.cell p) (put O p (.lst ((xs.filter b).map f)))) : ∀ p, O p = none → lcL p chk tg t ma Γ (orFz Q (.cell p)) (xs.map g) (put O p (.lst [])) := by
  intro p hp
  have main : ∀ (r : List α) (acc : List D), (∀ x ∈ r, x ∈ xs) → acc.length + r.length ≤ xs.length → acc ++ (r.filter b).map f = (xs.filter b).map f → lcL p chk tg t ma Γ (orFz Q (.cell p)) (r.map g) (put O p (.lst acc)) := by
    intro r
    induction r with
    | nil =>
      intro acc _ _ e
      simp only [List.filter_nil, List.map_nil, List.append_nil] at e
      subst e
      exact ⟨hc p _ hp, hq p hp⟩
    | cons x r ih =>
      intro acc hm hl' e
      simp only [List.length_cons] at hl'
      refine w_lcCons (hc p _ hp) ?_
      refine h x (hm x List.mem_cons_self) p acc hp _ _ (fun hb => ?_) (fun hb => ?_)
      · refine ⟨acc, put_same, by omega, ?_⟩
        rw [put_put]
        refine ih _ (fun y hy => hm y (List.mem_cons_of_mem _ hy)) (by simp only [List.length_append, List.length_cons, List.length_nil]; omega) ?_
        rw [List.append_assoc, ← e, List.filter_cons, if_pos hb]
        rfl
      · refine ih _ (fun y hy => hm y (List.mem_cons_of_mem _ hy)) (by omega) ?_
        rw [← e, List.filter_cons, if_neg (by rw [hb]; exact Bool.false_ne_true)]
  exact main xs [] (fun _ h => h) (by simp) rfl
/-! ## dicts: what is put in -/
section
variable {κ : Type} [DecidableEq κ] {kvs : List (κ × D)} {k j : κ} {v : D}
theorem valD_cons {a : κ} {d : D} : valD ((a, d) :: kvs) k = if a = k then some d else valD kvs k := by
  unfold valD
  rw [List.find?_cons]
  by_cases h : a = k
  · simp [h]
  · simp [h]
theorem valD_none : valD kvs k = none ↔ ∀ kv ∈ kvs, kv.1 ≠ k := by
  induction kvs with
  | nil => simp [valD]
  | cons a r ih =>
    obtain ⟨a, d⟩ := a
    rw [valD_cons]
    by_cases h : a = k
    · simp [h]
    · simp [h, ih]
theorem valD_mem {d : D} (h : valD kvs k = some d) : (k, d) ∈ kvs := by
  induction kvs with
  | nil => simp [valD] at h
  | cons a r ih =>
    obtain ⟨a, x⟩ := a
    rw [valD_cons] at h
    by_cases e : a = k
    · rw [if_pos e] at h
      cases h
      rw [e]
      exact List.mem_cons_self
    · rw [if_neg e] at h
      exact List.mem_cons_of_mem _ (ih h)
theorem anyK : (kvs.any fun kv => decide (kv.1 = k)) = true ↔ ∃ kv ∈ kvs, kv.1 = k := by simp
theorem mem_putD {x : κ × D} (h : x ∈ putD kvs k v) : x = (k, v) ∨ (x ∈ kvs ∧ x.1 ≠ k) := by
  unfold putD at h
  split at h
  · obtain ⟨y, hy, e⟩ := List.mem_map.mp h
    by_cases q : y.1 = k
    · rw [if_pos q] at e
      rw [← e, q]
      exact .inl rfl
    · rw [if_neg q] at e
      rw [← e]
      exact .inr ⟨hy, q⟩
  · rename_i hn
    rcases List.mem_append.mp h with h | h
    · refine .inr ⟨h, fun e => hn ?_⟩
      exact anyK.mpr ⟨x, h, e⟩
    · simp at h
      exact .inl h
theorem putD_self : (k, v) ∈ putD kvs k v := by
  unfold putD
  split
  · rename_i h
    obtain ⟨y, hy, e⟩ := anyK.mp h
    exact List.mem_map.mpr ⟨y, hy, by rw [if_pos e, e]⟩
  · simp
theorem putD_keep {x : κ × D} (h : x ∈ kvs) (n : x.1 ≠ k) : x ∈ putD kvs k v := by
  unfold putD
  split
  · exact List.mem_map.mpr ⟨x, h, by rw [if_neg n]⟩
  · exact List.mem_append_left _ h
theorem valD_map (k j : κ) (y : D) : ∀ kvs : List (κ × D), valD (kvs.map fun kv => if kv.1 = k then (kv.1, y) else kv) j = (valD kvs j).map fun x => if j = k then y else x
  | [] => rfl
  | (a, d) :: r => by
    rw [List.map_cons]
    by_cases h : a = k
    · simp only [if_pos h]
      rw [valD_cons, valD_cons, valD_map k j y r]
      by_cases q : a = j
      · subst q
        simp [h]
      · simp [q]
    · simp only [if_neg h]
      rw [valD_cons, valD_cons, valD_map k j y r]
      by_cases q : a = j
      · subst q
        simp [h]
      · simp [q]
theorem valD_put : valD (putD kvs k v) j = if j = k then some v else valD kvs j := by
  unfold putD
  split
  · rename_i h
    rw [valD_map]
    by_cases q : j = k
    · subst q
      obtain ⟨y, hy, e⟩ := anyK.mp h
      cases z : valD kvs j with
      | none => exact absurd e (valD_none.mp z y hy)
      | some d => simp
    · simp [q]
  · rename_i h
    have hn : ∀ kv ∈ kvs, kv.1 ≠ k := fun kv hk e => h (anyK.mpr ⟨kv, hk, e⟩)
    clear h
    induction kvs with
    | nil =>
      rw [List.nil_append, valD_cons]
      by_cases q : j = k
      · simp [q]
      · simp [q, Ne.symm q]
    | cons a r ih =>
      obtain ⟨a, d⟩ := a
      rw [List.cons_append, valD_cons, valD_cons, ih (fun kv hk => hn kv (List.mem_cons_of_mem _ hk))]
      by_cases q : a = j
      · subst q
        have := hn (a, d) List.mem_cons_self
        simp [this]
      · simp [q]
theorem putD_len : (putD kvs k v).length ≤ kvs.length + 1 := by
  unfold putD
  split <;> simp
end
/-! ## the draws of the laws -/
def poolD (a b c k : Int) : MO := .lst [.int a, .int b, .int c, .int k]
def Pool (O : Sto) (p : Addr) : Prop := ∃ a b c k, O p = some (poolD a b c k)
/-- a draw's step: the pool's cell changes, what else stood stands -/
structure Upd (p : Addr) (O O' : Sto) : Prop where
  pool : Pool O' p
  ne : ∀ q u, q ≠ p → O q = some u → O' q = some u
theorem Upd.refl {p : Addr} {O : Sto} (h : Pool O p) : Upd p O O := ⟨h, fun _ _ _ h => h⟩
theorem Upd.trans {p : Addr} {O O1 O2 : Sto} (a : Upd p O O1) (b : Upd p O1 O2) : Upd p O O2 := ⟨b.pool, fun q u n h => b.ne q u n (a.ne q u n h)⟩
theorem Upd.put {p : Addr} {O O1 : Sto} {a b c k : Int} (e : ExtB p O O1) : Upd p O (L3.put O1 p (poolD a b c k)) := ⟨⟨_, _, _, _, put_same⟩, fun q u n h => (put_ne n).trans (e q u n h)⟩
theorem Upd.new {p q : Addr} {O O1 : Sto} {u : MO} (a : Upd p O O1) (h : O1 q = none) : Upd p O (L3.put O1 q u) := by
  obtain ⟨x, y, c, k, e⟩ := a.pool
  have ne : p ≠ q := by rintro rfl; rw [e] at h; cases h
  refine ⟨⟨x, y, c, k, by rw [put_ne ne]; exact e⟩, fun r w n hr => ?_⟩
  have h1 := a.ne r w n hr
  have n2 : r ≠ q := by rintro rfl; rw [h1] at h; cases h
  rw [put_ne n2]
  exact h1
/-- a new cell changes again -/
theorem Upd.again {p q : Addr} {O O1 : Sto} {u : MO} (a : Upd p O O1) (h : O q = none) (hq : q ≠ p) : Upd p O (L3.put O1 q u) := by
  obtain ⟨x, y, c, k, e⟩ := a.pool
  refine ⟨⟨x, y, c, k, by rw [put_ne hq.symm]; exact e⟩, fun r w n hr => ?_⟩
  have n2 : r ≠ q := by rintro rfl; rw [hr] at h; cases h
  rw [put_ne n2]
  exact a.ne r w n hr
theorem Upd.none {p q : Addr} {O O1 : Sto} (a : Upd p O O1) (h : O1 q = none) (hq : q ≠ p) : O q = none := by
  cases e : O q with
  | none => rfl
  | some u => rw [a.ne q u hq e] at h; cases h
theorem Pool.not {O : Sto} {p q : Addr} (h : Pool O p) (hq : O q = none) : p ≠ q := by
  rintro rfl
  obtain ⟨a, b, c, k, h⟩ := h
  rw [h] at hq
  cases hq
theorem Pool.put {O : Sto} {p : Addr} {a b c k : Int} : Pool (L3.put O p (poolD a b c k)) p := ⟨_, _, _, _, put_same⟩
theorem atI_ints {ns : List Int} {i : Nat} (h : i < ns.length) : atI (ns.map D.int) (i : Int) = some (.int ns[i]) := by
  unfold atI
  have e : ixN (ns.map D.int).length (i : Int) = some i := by
    unfold ixN
    rw [List.length_map]
    rw [if_pos (by omega), if_pos (by omega)]
    simp
  rw [e]
  simp [h]
def isNonD : D → Bool
  | .non => true
  | _ => false
theorem w_fIsN {neg : Bool} {d : D} {O : Sto} {Q : PV} (h : Q (.bl (isNonD d != neg)) O) : fIsN neg d .non O Q := by
  cases d <;> cases neg <;> exact h
theorem isT_cell {O : Sto} {p : Addr} {ds : List D} {t : T3} (h : O p = some (.lst ds)) : isT O (.cell p) t = some t.isLst := by
  unfold isT
  simp only [h]
theorem w_isTc {O : Sto} {p : Addr} {ds : List D} {t : T3} {Q : PV} (h0 : O p = some (.lst ds)) (h : Q (.bl t.isLst) O) : ∃ b, isT O (.cell p) t = some b ∧ Q (.bl b) O := ⟨_, isT_cell h0, h⟩
theorem w_chain {f g : F2} {ma mb mc : ME} {Z : PX} {Γ : Gm} {O : Sto} {Q : PV} (h : ma Z Γ O fun x O1 => mb Z Γ O1 fun y O2 => f x y O2 (onBl (kIf (fun O3 => mc Z Γ O3 fun z O4 => g y z O4 Q) fun O3 => Q (.bl false) O3))) : mChain f g ma mb mc Z Γ O Q := by
  have e : ∀ y, (onBl (kIf (fun O3 => mc Z Γ O3 fun z O4 => g y z O4 Q) fun O3 => Q (.bl false) O3)) = fun r O3 => match r with
    | .bl true => mc Z Γ O3 fun z O4 => g y z O4 Q
    | .bl false => Q (.bl false) O3
    | _ => False := by
    intro y
    funext x O1
    cases x with
    | bl b => cases b <;> rfl
    | _ => rfl
  simp only [e] at h
  exact h
/-! ### their promises -/
def sp_law_int : FSpec := fun ds O Z P => (∃ i, ds = [.int i] ∧ P (.bl true) O) ∨ (∃ d, ds = [d] ∧ isT O d .int = some false ∧ P (.bl false) O) ∨ ∃ b, ds = [.bl b] ∧ P (.bl false) O
def sp_law_pool : FSpec := fun ds O Z P => ∃ (ns : List Int) (i : Nat), ds = [.lst (ns.map D.int), .int i] ∧ ∀ p a b c k, O p = none → P (.cell p) (L3.put O p (poolD a b c k))
def sp_law_stirred : FSpec := sp_law_pool
def sp_law_draw : FSpec := fun ds O Z P => ∃ p m, ds = [.cell p, .int m] ∧ Pool O p ∧ 1 ≤ m ∧ m ≤ 100000000 ∧ ∀ r O', 0 ≤ r → r < m → Upd p O O' → P (.int r) O'
theorem w_drw {p : Addr} {O0 O : Sto} {m : Int} {Z : PX} {Q : PV} (u : Upd p O0 O) (h1 : 1 ≤ m) (h2 : m ≤ 100000000) (h : ∀ r O', 0 ≤ r → r < m → Upd p O0 O' → Q (.int r) O') : sp_law_draw [.cell p, .int m] O Z Q :=
  ⟨p, m, rfl, u.pool, h1, h2, fun r O' r0 r1 u1 => h r O' r0 r1 (u.trans u1)⟩
/-- .. with what the step leaves -/
theorem w_drw2 {p : Addr} {O : Sto} {m : Int} {Z : PX} {Q : PV} (u : Pool O p) (h1 : 1 ≤ m) (h2 : m ≤ 100000000) (h : ∀ r O', 0 ≤ r → r < m → Upd p O O' → Q (.int r) O') : sp_law_draw [.cell p, .int m] O Z Q :=
  ⟨p, m, rfl, u, h1, h2, h⟩
/-- a list, as it stands -/
def lstS (O : Sto) (t : D) (ts : List D) : Prop := t = .lst ts ∨ ∃ p, t = .cell p ∧ O p = some (.lst ts)
/-- told and due are alike, n levels deep -/
def samD (O : Sto) : Nat → D → D → Prop
  | 0, _, _ => False
  | n + 1, t, u => (t = u ∧ ((∃ i, u = .int i) ∨ (∃ z, u = .str z) ∨ (∃ b, u = .bl b) ∨ u = .non)) ∨
    ∃ ts us, ((t = .tup ts ∧ u = .tup us) ∨ (lstS O t ts ∧ lstS O u us)) ∧ ts.length = us.length ∧ ts.length ≤ 100000 ∧ ∀ (i : Nat) (a b : D), ts[i]? = some a → us[i]? = some b → samD O n a b
theorem samD.int {O : Sto} {n : Nat} {i : Int} : samD O (n + 1) (.int i) (.int i) := .inl ⟨rfl, .inl ⟨_, rfl⟩⟩
theorem samD.str {O : Sto} {n : Nat} {i : Str} : samD O (n + 1) (.str i) (.str i) := .inl ⟨rfl, .inr (.inl ⟨_, rfl⟩)⟩
theorem samD.bl {O : Sto} {n : Nat} {i : Bool} : samD O (n + 1) (.bl i) (.bl i) := .inl ⟨rfl, .inr (.inr (.inl ⟨_, rfl⟩))⟩
theorem samD.non {O : Sto} {n : Nat} : samD O (n + 1) .non .non := .inl ⟨rfl, .inr (.inr (.inr rfl))⟩
/-- the items one by one -/
def samDs (O : Sto) (n : Nat) : List D → List D → Prop
  | [], [] => True
  | a :: as, b :: bs => samD O n a b ∧ samDs O n as bs
  | _, _ => False
theorem samDs.get {O : Sto} {n : Nat} : ∀ {ts us : List D}, samDs O n ts us → ts.length = us.length ∧ ∀ (i : Nat) (a b : D), ts[i]? = some a → us[i]? = some b → samD O n a b
  | [], [], _ => ⟨rfl, fun i a b h => by simp at h⟩
  | a :: as, b :: bs, ⟨h1, h2⟩ => by
    obtain ⟨e, g⟩ := samDs.get h2
    refine ⟨by simp [e], fun i x y hx hy => ?_⟩
    cases i with
    | zero => simp at hx hy; subst hx hy; exact h1
    | succ i => simp at hx hy; exact g i x y hx hy
  | [], _ :: _, h => h.elim
  | _ :: _, [], h => h.elim
theorem samDs.map {O : Sto} {n : Nat} {α : Type} {f g : α → D} (h : ∀ x, samD O n (f x) (g x)) : ∀ xs : List α, samDs O n (xs.map f) (xs.map g)
  | [] => trivial
  | x :: r => ⟨h x, samDs.map h r⟩
theorem samD.tup {O : Sto} {n : Nat} {ts us : List D} (h : samDs O n ts us) (hl : ts.length ≤ 100000) : samD O (n + 1) (.tup ts) (.tup us) := .inr ⟨ts, us, .inl ⟨rfl, rfl⟩, h.get.1, hl, h.get.2⟩
theorem samD.lst {O : Sto} {n : Nat} {ts us : List D} {t u : D} (h1 : lstS O t ts) (h2 : lstS O u us) (h : samDs O n ts us) (hl : ts.length ≤ 100000) : samD O (n + 1) t u := .inr ⟨ts, us, .inr ⟨h1, h2⟩, h.get.1, hl, h.get.2⟩
def sp_law_same (n : Nat) : FSpec := fun ds O Z P => ∃ t u, ds = [t, u] ∧ samD O n t u ∧ P (.bl true) O
theorem none_law_same : ∀ ds O Z P, sp_law_same 0 ds O Z P → False := fun _ _ _ _ ⟨_, _, _, h, _⟩ => h
end L3

namespace L3
open PySem PySem.Spec PyProof.Rows L2

/-! ## what a def leans on, one list at a time -/
section
variable (P : Program) (w : World) (K : PySem.W.Frag) (mg : Str → Option Value) (base : Heap)
/-- a def that may be called -/
def FnG (k : Nat) (q : Str × Nat × FSpec) : Prop := ∃ k' f fd ps, k' ≤ k ∧ FnOk P w K mg base (L2.CX P w) k' f fd ps (spOf K q.2.1 q.2.2) ∧ mg q.1 = some (.ref f) ∧ PySem.W.keepIn K (.ref f) = true ∧ Binds K fd ps []
def MkG (k : Nat) (q : Str × Nat × FSpec × List D) : Prop := ∃ k' f fd ps dvs ds, k' + 1 ≤ k ∧ Mk K (He.ga K q.1) f ∧ FnOk P w K mg base (L2.CX P w) k' f fd ps (spOf K (q.2.1 + 1 + q.2.2.2.length) q.2.2.1) ∧ mg q.1 = some (.ref (He.ga K q.1)) ∧ Binds K fd ps ds ∧ Vals dvs ds ∧ ∀ H, Iss K H dvs q.2.2.2
def MwG (k : Nat) (q : Str × Nat × Str × FSpec) : Prop := ∃ k' f fd ps, k' + 1 ≤ k ∧ Mk K (He.ga K q.1) f ∧ FnOk P w K mg base (L2.CX P w) k' f fd ps (spOf K (q.2.1 + 2) q.2.2.2) ∧ mg q.1 = some (.ref (He.ga K q.1)) ∧ KBn K fd ps (q.2.1 + 1) [q.2.2.1] (fun us ws => us ++ ws) (fun vs zs => vs ++ zs)
/-- a class's own method -/
def MtG (k : Nat) (q : Str × Str × Nat × FSpec) : Prop := ∃ k' f fd ps, k' ≤ k ∧ Cls K (He.ga K q.2.1) ∧ Meth K (He.ga K q.2.1) q.1 f ∧ FnOk P w K mg base (L2.CX P w) k' f fd ps (spOf K (q.2.2.1 + 1) q.2.2.2) ∧ Binds K fd ps []
/-- a staticmethod -/
def SmG (k : Nat) (q : Str × Str × Nat × FSpec) : Prop := ∃ k' p g fd ps, k' ≤ k ∧ SmC K (He.ga K q.2.1) q.1 p g ∧ SmI K (He.ga K q.2.1) q.1 p g ∧ FnOk P w K mg base (L2.CX P w) k' g fd ps (spOf K q.2.2.1 q.2.2.2) ∧ Binds K fd ps [] ∧ mg q.2.1 = some (.ref (He.ga K q.2.1))
/-- a property -/
def PrG (k : Nat) (q : Str × Str × FSpec) : Prop := ∃ k' p g fd ps, k' + 1 ≤ k ∧ Cls K (He.ga K q.2.1) ∧ PropOf K (He.ga K q.2.1) q.1 p g ∧ FnOk P w K mg base (L2.CX P w) k' g fd ps (spOf K 1 q.2.2) ∧ Binds K fd ps []
/-- a class's own text -/
def SoG (k : Nat) (q : Str × FSpec) : Prop := ∃ k' f fd ps, k' + 2 ≤ k ∧ FnOk P w K mg base (L2.CX P w) k' f fd ps (spOf K 1 q.2) ∧ Binds K fd ps [] ∧ PySem.W.findIn K (.ref (He.ga K q.1)) "__str__" = some (some (.ref f)) ∧ PySem.W.isFn K (.ref f) = true
/-- a constant of the module -/
def CsG (q : Str × D) : Prop := ∃ v u, mg q.1 = some u ∧ RelV v u ∧ ∀ H, Is K H v q.2
/-- a class's own operator -/
def OwG (k : Nat) (C : Str) (q : Str × FSpec) : Prop := ∃ k' f fd ps, k' ≤ k ∧ FnOk P w K mg base (L2.CX P w) k' f fd ps (spOf K 2 q.2) ∧ Binds K fd ps [] ∧ PySem.W.selfFirst K (He.ga K C) = true ∧ PySem.W.findIn K (.ref (He.ga K C)) q.1 = some (some (.ref f)) ∧ PySem.W.isFn K (.ref f) = true
end
def All {α : Type} (p : α → Prop) : List α → Prop
  | [] => True
  | a :: r => p a ∧ All p r
theorem All.mem {α : Type} {p : α → Prop} : ∀ {l : List α}, All p l → ∀ x ∈ l, p x
  | _ :: _, h, _, .head _ => h.1
  | _ :: _, h, x, .tail _ m => All.mem h.2 x m
theorem lookup_mem {β : Type} {x : Str} {v : β} : ∀ {l : List (Str × β)}, l.lookup x = some v → (x, v) ∈ l
  | [], h => by cases h
  | (y, u) :: r, h => by
    rw [List.lookup_cons] at h
    cases q : (x == y) with
    | true =>
      rw [q] at h
      cases h
      rw [beq_iff_eq.mp q]
      exact List.mem_cons_self
    | false =>
      rw [q] at h
      exact List.mem_cons_of_mem _ (lookup_mem h)
section
variable {c : CI} {P : Program} {w : World} {K : PySem.W.Frag} {mg : Str → Option Value} {base : Heap} {k : Nat}
theorem FnG.up {q : Str × Nat × FSpec} {k k' : Nat} (h : FnG P w K mg base k q) (e : k ≤ k') : FnG P w K mg base k' q := by
  obtain ⟨a, f, fd, ps, l, r⟩ := h
  exact ⟨a, f, fd, ps, Nat.le_trans l e, r⟩
theorem MkG.up {q : Str × Nat × FSpec × List D} {k k' : Nat} (h : MkG P w K mg base k q) (e : k ≤ k') : MkG P w K mg base k' q := by
  obtain ⟨a, f, fd, ps, dv, ds, l, r⟩ := h
  exact ⟨a, f, fd, ps, dv, ds, Nat.le_trans l e, r⟩
theorem MwG.up {q : Str × Nat × Str × FSpec} {k k' : Nat} (h : MwG P w K mg base k q) (e : k ≤ k') : MwG P w K mg base k' q := by
  obtain ⟨a, f, fd, ps, l, r⟩ := h
  exact ⟨a, f, fd, ps, Nat.le_trans l e, r⟩
theorem MtG.up {q : Str × Str × Nat × FSpec} {k k' : Nat} (h : MtG P w K mg base k q) (e : k ≤ k') : MtG P w K mg base k' q := by
  obtain ⟨a, f, fd, ps, l, r⟩ := h
  exact ⟨a, f, fd, ps, Nat.le_trans l e, r⟩
theorem SmG.up {q : Str × Str × Nat × FSpec} {k k' : Nat} (h : SmG P w K mg base k q) (e : k ≤ k') : SmG P w K mg base k' q := by
  obtain ⟨a, p, g, fd, ps, l, r⟩ := h
  exact ⟨a, p, g, fd, ps, Nat.le_trans l e, r⟩
theorem PrG.up {q : Str × Str × FSpec} {k k' : Nat} (h : PrG P w K mg base k q) (e : k ≤ k') : PrG P w K mg base k' q := by
  obtain ⟨a, p, g, fd, ps, l, r⟩ := h
  exact ⟨a, p, g, fd, ps, Nat.le_trans l e, r⟩
theorem SoG.up {q : Str × FSpec} {k k' : Nat} (h : SoG P w K mg base k q) (e : k ≤ k') : SoG P w K mg base k' q := by
  obtain ⟨a, f, fd, ps, l, r⟩ := h
  exact ⟨a, f, fd, ps, Nat.le_trans l e, r⟩
theorem OwG.up {C : Str} {q : Str × FSpec} {k k' : Nat} (h : OwG P w K mg base k C q) (e : k ≤ k') : OwG P w K mg base k' C q := by
  obtain ⟨a, f, fd, ps, l, r⟩ := h
  exact ⟨a, f, fd, ps, Nat.le_trans l e, r⟩
/-- what all defs of a text share -/
structure GB (tb : List (Str × Str)) (oc es er fr : List Str) (b : Str) (K : PySem.W.Frag) (mg : Str → Option Value) : Prop where
  tab : AtOk K tb
  ocl : ∀ x ∈ oc, OEq K (He.ga K x) ∧ mg x = some (.ref (He.ga K x))
  exs : XcT K es
  exg : ∀ x ∈ es, mg x = some (.ref (He.ga K x))
  exa : ∀ x ∈ er, XcAt K mg x
  exb : es ≠ [] → mg b = some (.ref (He.ga K b)) ∧ ∀ C ∈ es, PySem.W.exmOne K (.ref (He.ga K C)) (.ref (He.ga K b)) = some true
  free : ∀ x ∈ fr, mg x = none
theorem GB.sub {tb tb2 : List (Str × Str)} {oc es er fr : List Str} {b : Str} (B : GB tb oc es er fr b K mg) (h : ∀ q ∈ tb2, q ∈ tb) : GB tb2 oc es er fr b K mg := ⟨fun q hq => B.tab q (h q hq), B.ocl, B.exs, B.exg, B.exa, B.exb, B.free⟩
theorem Glob.of (B : GB c.tab c.ocl c.exs c.exr c.free c.base K mg) (f : All (FnG P w K mg base k) c.fns) (m : All (MkG P w K mg base k) c.mks) (mw : All (MwG P w K mg base k) c.mkw) (mt : All (MtG P w K mg base k) c.mth) (cs : All (CsG K mg) c.cst) (sm : All (SmG P w K mg base k) c.sts) (so : ∀ q, c.stro = some q → SoG P w K mg base k q)
    (o : ∀ o, c.own = some o → All (OwG P w K mg base k o.C) o.ops ∧ OwG P w K mg base k o.C ("__eq__", o.eq) ∧ o.C ∈ c.ocl) (g : c.gcd = true → mg "gcd" = some (.builtin "math.gcd")) (pr : All (PrG P w K mg base k) c.prp) : Glob c P w K mg base k where
  fns := fun x n S h => f.mem (x, n, S) (lookup_mem h)
  mks := fun q h => m.mem q h
  mkw := fun q h => mw.mem q h
  mth := fun m C n S h => mt.mem (m, C, n, S) (lookup_mem h)
  cst := fun x d h => cs.mem (x, d) (lookup_mem h)
  sts := fun m C n S h => sm.mem (m, C, n, S) (lookup_mem h)
  stro := fun C S h => so (C, S) h
  tab := B.tab
  ocl := fun x h => ⟨(B.ocl x h).1.oc, (B.ocl x h).2⟩
  exs := B.exs
  exg := B.exg
  exa := B.exa
  exb := B.exb
  free := B.free
  own := fun q h => ⟨fun op S e => (o q h).1.mem (PySem.dunder op.info.2, S) (lookup_mem e), (o q h).2.1, (B.ocl _ (o q h).2.2).1⟩
  gcd := g
  prp := fun f C S h => pr.mem (f, C, S) (lookup_mem h)
end
/-- a promise that asks what is never so -/
theorem fnNone {P : Program} {w : World} {K : PySem.W.Frag} {mg : Str → Option Value} {base : Heap} {CX : CXT} {k n : Nat} {f : Addr} {fd : FuncData} {ps : List Str} {S : FSpec} (h : ∀ ds O Z P, S ds O Z P → False) : FnOk P w K mg base CX k f fd ps (spOf K n S) :=
  ⟨fun _ _ _ _ ⟨_, _, _, _, _, _, _, _, q, _⟩ => (h _ _ _ _ q).elim, fun _ _ _ _ _ _ _ _ _ _ _ _ _ ⟨_, _, _, _, _, _, _, _, q, _⟩ => (h _ _ _ _ q).elim⟩
/-- the script, as it comes -/
theorem law_start {K : PySem.W.Frag} {S : FSpec} {H : Hp} {a : Addr} (ns : List Int) (hO : Only H) (hS : SqL K H a (ns.map V.int)) (h : ∀ P : PV, (∀ O', P (.bl true) O') → S [.lst (ns.map D.int)] (fun _ => none) (fun _ _ _ => False) P) :
    [V.ref a].length = 1 ∧ ∃ H0 O ds P, Iss K H0 [V.ref a] ds ∧ Sta K H0 O H ∧ S ds O (fun _ _ _ => False) P ∧ LinkV K H0 P (fun v _ => v = .bl true) := by
  have ii : Iss K H (ns.map V.int) (ns.map D.int) := by
    refine ⟨by simp, fun i v d e1 e2 => ?_⟩
    rw [List.getElem?_map] at e1 e2
    cases q : ns[i]? with
    | none => rw [q] at e1; cases e1
    | some n => rw [q] at e1 e2; cases e1; cases e2; exact .int n
  refine ⟨rfl, H, fun _ => none, _, fun d _ => d = .bl true, .cons (.lst hS ii.1 ii.2) .nil, ⟨Same.refl _, fun p o e => by cases e⟩, h _ fun _ => rfl, ?_⟩
  intro H1 v d O' H' s is st e
  subst e
  cases is
  rfl
theorem so_none {p : Str × FSpec → Prop} : ∀ q, (none : Option (Str × FSpec)) = some q → p q := fun _ h => nomatch h
theorem so_some {a : Str × FSpec} {p : Str × FSpec → Prop} (h : p a) : ∀ q, some a = some q → p q := fun _ e => by cases e; exact h
theorem own_none {p : OwnI → Prop} : ∀ o, (none : Option OwnI) = some o → p o := fun _ h => nomatch h
theorem own_some {q : OwnI} {p : OwnI → Prop} (h : p q) : ∀ o, some q = some o → p o := fun _ e => by cases e; exact h
theorem gcd_no {p : Prop} : false = true → p := fun h => nomatch h
theorem cs_int {K : PySem.W.Frag} {h : Heap} {mg : Str → Option Value} (X : K.In h) (G : h.Ns mainGlobals mg) {x : Str} {i : Int} (c : (He.Fa.int x i).ok K = true) : CsG K mg (x, .int i) := by
  obtain ⟨t, e⟩ := He.int_ok X G c
  exact ⟨.int i, _, e, ⟨t, rfl⟩, fun H => .int i⟩
theorem cs_str {K : PySem.W.Frag} {h : Heap} {mg : Str → Option Value} (X : K.In h) (G : h.Ns mainGlobals mg) {x z : Str} (c : (He.Fa.str x z).ok K = true) : CsG K mg (x, .str z) := by
  obtain ⟨t, e⟩ := He.str_ok X G c
  exact ⟨.str z, _, e, ⟨t, rfl⟩, fun H => .str z⟩
end L3

namespace LY
open PySem L2 L3
/-! what the defs that many laws share promise -/
def t_tab : List (Str × Str) := [("PlainBook", "states"), ("PlainBook", "first"), ("PlainBook", "choices"), ("PlainBook", "_options")]
def lowC (c : Nat) : Bool := decide (97 ≤ c ∧ c ≤ 122)
def digC (c : Nat) : Bool := decide (48 ≤ c ∧ c ≤ 57)
/-- a name -/
def nameL (l : List Nat) : Bool := decide (1 ≤ l.length ∧ l.length ≤ 20) && ((match l with
  | c :: _ => lowC c
  | [] => false) && l.all fun c => lowC c || digC c)
def isName (z : Str) : Bool := nameL (cs z)
def sp_is_name : FSpec := fun ds O Z P => ∃ z, ds = [.str z] ∧ z.length ≤ 10000 ∧ P (.bl (isName z)) O
/-- a choice: deed, state, argument, what follows, answer -/
structure Ch where
  n : Str
  s : Int
  a : Int
  x : Int
  w : Int
  deriving DecidableEq
def chF (c : Ch) : List D := [.str c.n, .int c.s, .int c.a, .int c.x, .int c.w]
def chD (c : Ch) : D := .tup (chF c)
def okC (st : Int) (c : Ch) : Bool := isName c.n && (decide (0 ≤ c.s ∧ c.s < st) && (decide (0 ≤ c.x ∧ c.x < st) && (decide (0 ≤ c.a ∧ c.a < 8) && decide (0 ≤ c.w ∧ c.w < 8))))
/-- a choice's text is one that may stand in data -/
structure ChOk (c : Ch) : Prop where
  len : c.n.length ≤ 1000
  ok : PyData.strOk c.n = true
def ChsOk (cs : List Ch) : Prop := cs.length ≤ 10000 ∧ ∀ c ∈ cs, ChOk c
def sp_check_choice : FSpec := fun ds O Z P => ∃ c st, ds = [chD c, .int st] ∧ ChOk c ∧ ((okC st c = true ∧ P .non O) ∨ (okC st c = false ∧ Z "BadBook" [] O))
abbrev K3 := Str × Int × Int
def Ch.key (c : Ch) : K3 := (c.n, c.s, c.a)
def keyL (k : K3) : List Key := [.inr k.1, .inl k.2.1, .inl k.2.2]
def keyT (k : K3) : D := .tup [.str k.1, .int k.2.1, .int k.2.2]
def optD (c : Ch) : D := .tup [.int c.x, .int c.w]
def atK (cs : List Ch) (k : K3) : List Ch := cs.filter fun c => decide (c.key = k)
/-- the options' dict of these choices -/
structure Grp (kvs : List (List Key × D)) (cs : List Ch) : Prop where
  val : ∀ k, valD kvs (keyL k) = if atK cs k = [] then none else some (.tup ((atK cs k).map optD))
  mem : ∀ kv ∈ kvs, ∃ c ∈ cs, kv = (keyL c.key, .tup ((atK cs c.key).map optD))
  all : ∀ c ∈ cs, (keyL c.key, .tup ((atK cs c.key).map optD)) ∈ kvs
/-- no choice twice, no key with more than four -/
def grpOk (cs : List Ch) : Prop := cs.Nodup ∧ ∀ c ∈ cs, (atK cs c.key).length ≤ 4
def sp_grouped_options : FSpec := fun ds O Z P => ∃ cs, ds = [.tup (cs.map chD)] ∧ ChsOk cs ∧ (grpOk cs → ∀ kvs, Grp kvs cs → P (.dT kvs) O) ∧ (¬ grpOk cs → ∀ O', Ext O O' → Z "BadBook" [] O')
structure goodB (st fi : Int) (cs : List Ch) : Prop where
  st1 : 1 ≤ st
  st2 : st ≤ 600
  fi0 : 0 ≤ fi
  fi1 : fi < st
  chs : ∀ c ∈ cs, okC st c = true
  grp : grpOk cs
def bookF (st fi : Int) (cs : List Ch) (kvs : List (List Key × D)) : List (Str × D) := [("states", .int st), ("first", .int fi), ("choices", .tup (cs.map chD)), ("_options", .dT kvs)]
def bookD (st fi : Int) (cs : List Ch) (kvs : List (List Key × D)) : D := .obj "PlainBook" (bookF st fi cs kvs)
/-- choices handed in: any sequence of sequences -/
inductive Rows (O : Sto) : List D → List Ch → Prop where
  | nil : Rows O [] []
  | cons {r : D} {rs : List D} {c : Ch} {cs : List Ch} (h : seqOf O r = some (chF c)) (t : Rows O rs cs) : Rows O (r :: rs) (c :: cs)
def Giv (O : Sto) (g : D) (cs : List Ch) : Prop := ∃ gs, seqOf O g = some gs ∧ (∀ z, g ≠ .str z) ∧ Rows O gs cs
def sp_PlainBook_init : FSpec := fun ds O Z P => ∃ p st fi g cs, ds = [.cell p, .int st, .int fi, g] ∧ O p = some (.ins "PlainBook" []) ∧ Giv O g cs ∧ ChsOk cs ∧
  (goodB st fi cs → ∀ kvs, Grp kvs cs → P .non (put O p (.ins "PlainBook" (bookF st fi cs kvs)))) ∧ (¬ goodB st fi cs → ∀ O', ExtB p O O' → Z "BadBook" [] O')
def sp_PlainBook_options : FSpec := fun ds O Z P => ∃ st fi cs kvs k, ds = [bookD st fi cs kvs, .str k.1, .int k.2.1, .int k.2.2] ∧ Grp kvs cs ∧ ∀ q, O q = none → P (.cell q) (put O q (.lst ((atK cs k).map optD)))
def detB (cs : List Ch) : Bool := cs.all fun c => decide ((atK cs c.key).length ≤ 1)
def sp_PlainBook_deterministic : FSpec := fun ds O Z P => ∃ st fi cs kvs, ds = [bookD st fi cs kvs] ∧ Grp kvs cs ∧ P (.bl (detB cs)) O
end LY

namespace K03
open PySem L2 L3 LY
def t_tab : List (Str × Str) := LY.t_tab
def t_exs : List Str := ["BadShare", "BadText", "BadBook", "BadMove", "BadProgram", "BadPlan", "Unfit", "TooLarge", "BadEdit"]
/-- a drawn name -/
structure Nm (z : Str) : Prop where
  l1 : 1 ≤ z.length
  l2 : z.length ≤ 60
  a : asc z = true
def sp_law_name : FSpec := fun ds O Z P => ∃ p, ds = [.cell p] ∧ Pool O p ∧ ∀ z O', Nm z → z.length ≤ 20 → Upd p O O' → P (.str z) O'
def sp_law_names : FSpec := fun ds O Z P => ∃ p, ds = [.cell p] ∧ Pool O p ∧ ∀ zs O', zs ≠ [] → zs.length ≤ 10 → (∀ z ∈ zs, Nm z) → Upd p O O' → P (.lst (zs.map D.str)) O'
def sp_law_odd_name : FSpec := fun ds O Z P => ∃ p z, ds = [.cell p, .str z] ∧ Pool O p ∧ Nm z ∧ ∀ y O', y.length ≤ 900 → asc y = true → Upd p O O' → P (.str y) O'
def sp_law_is_name : FSpec := fun ds O Z P => ∃ z, ds = [.str z] ∧ z.length ≤ 10000 ∧ P (.bl (isName z)) O
def bkD (st fi : Int) (cs : List Ch) : D := .tup [.int st, .int fi, .lst (cs.map chD)]
def CsN (n : Nat) (cs : List Ch) : Prop := cs.length ≤ n ∧ ∀ c ∈ cs, Nm c.n
def CsW (cs : List Ch) : Prop := cs.length ≤ 100 ∧ ∀ c ∈ cs, ChOk c
def sp_law_book : FSpec := fun ds O Z P => ∃ p, ds = [.cell p] ∧ Pool O p ∧ ∀ st fi cs O', 1 ≤ st → st ≤ 600 → CsN 20 cs → Upd p O O' → P (bkD st fi cs) O'
def sp_law_more_options : FSpec := fun ds O Z P => ∃ p st cs i, ds = [.cell p, .int st, .lst (cs.map chD), .int i] ∧ Pool O p ∧ 0 ≤ i ∧ i < cs.length ∧ CsN 20 cs ∧ ∀ cs' O', CsN 30 cs' → Upd p O O' → P (.lst (cs'.map chD)) O'
def sp_law_bent : FSpec := fun ds O Z P => ∃ p st fi cs, ds = [.cell p, bkD st fi cs] ∧ Pool O p ∧ CsN 20 cs ∧ ∀ st' fi' cs' O', CsW cs' → Upd p O O' → P (bkD st' fi' cs') O'
open Classical in
def sp_law_is_book : FSpec := fun ds O Z P => ∃ st fi cs, ds = [bkD st fi cs] ∧ CsW cs ∧ P (.bl (decide (goodB st fi cs))) O
inductive RowsC (O : Sto) : List Addr → List Ch → Prop where
  | nil : RowsC O [] []
  | cons {r : Addr} {rs : List Addr} {c : Ch} {cs : List Ch} (h : O r = some (.lst (chF c))) (t : RowsC O rs cs) : RowsC O (r :: rs) (c :: cs)
/-- choices as they are handed in -/
def Hd (how : Int) (O : Sto) (g : D) (cs : List Ch) : Prop := (how = 0 ∧ ∃ q rs, g = .cell q ∧ O q = some (.lst (rs.map D.cell)) ∧ RowsC O rs cs) ∨ (how = 1 ∧ ∃ q, g = .cell q ∧ O q = some (.lst (cs.map chD))) ∨
  (how = 2 ∧ ∃ rs, g = .tup (rs.map D.cell) ∧ RowsC O rs cs) ∨ (how = 3 ∧ g = .tup (cs.map chD))
def sp_law_handed : FSpec := fun ds O Z P => ∃ cs how, ds = [.lst (cs.map chD), .int how] ∧ 0 ≤ how ∧ how ≤ 3 ∧ CsW cs ∧ ∀ g O', Hd how O' g cs → Ext O O' → P g O'
def sp_law_spoil : FSpec := fun ds O Z P => ∃ g how cs, ds = [g, .int how] ∧ Hd how O g cs ∧ CsW cs ∧ ∀ O', P .non O'
def sp_law_refused : FSpec := fun ds O Z P => ∃ st fi g cs, ds = [.int st, .int fi, g] ∧ Giv O g cs ∧ CsW cs ∧ ¬ goodB st fi cs ∧ ∀ O', Ext O O' → P (.bl true) O'
def sp_law_options_hold : FSpec := fun ds O Z P => ∃ st fi cs kvs k, ds = [bookD st fi cs kvs, .lst (cs.map chD), keyT k] ∧ Grp kvs cs ∧ CsW cs ∧ PyData.strOk k.1 = true ∧ ∀ O', Ext O O' → P (.bl true) O'
def sp_law_keeps : FSpec := fun ds O Z P => ∃ st fi cs kvs ks, ds = [bookD st fi cs kvs, bkD st fi cs, .lst ((ks : List K3).map keyT)] ∧ Grp kvs cs ∧ CsW cs ∧ (∀ k ∈ ks, PyData.strOk k.1 = true) ∧ ∀ O', Ext O O' → P (.bl true) O'
def sp_law_keys : FSpec := fun ds O Z P => ∃ cs, ds = [.lst (cs.map chD)] ∧ CsW cs ∧ ∀ ks : List K3, (∀ k ∈ ks, PyData.strOk k.1 = true) → P (.lst (ks.map keyT)) O
def sp_law_book_holds : FSpec := fun ds O Z P => ∃ st fi cs how, ds = [bkD st fi cs, .int how] ∧ 0 ≤ how ∧ how ≤ 3 ∧ CsW cs ∧ ∀ O', P (.bl true) O'
def sp_law : FSpec := fun ds O Z P => ∃ ns : List Int, ds = [.lst (ns.map D.int)] ∧ ∀ O', P (.bl true) O'
end K03

namespace K03
open PySem PySem.Spec PyProof.Rows L2 L3 LY
/-! Printed by gen.py: the law's text and its readings. -/
def topS (i : Nat) : Stmt := PySem.Challenge.pw_oddsward_k03_plain_books.main.body.getD i (.Pass ⟨0, 0, 0, 0⟩)
abbrev s_is_name : Stmt := (topS 15)
abbrev s_check_choice : Stmt := (topS 21)
abbrev s_grouped_options : Stmt := (topS 22)
abbrev s_PlainBook_init : Stmt := (inClass (topS 20) 0)
abbrev s_PlainBook_options : Stmt := (inClass (topS 20) 1)
abbrev s_PlainBook_deterministic : Stmt := (inClass (topS 20) 2)
abbrev s_law_int : Stmt := (topS 24)
abbrev s_law_pool : Stmt := (topS 25)
abbrev s_law_stirred : Stmt := (topS 26)
abbrev s_law_draw : Stmt := (topS 27)
abbrev s_law_same : Stmt := (topS 28)
abbrev s_law_name : Stmt := (topS 29)
abbrev s_law_names : Stmt := (topS 30)
abbrev s_law_odd_name : Stmt := (topS 31)
abbrev s_law_is_name : Stmt := (topS 32)
abbrev s_law_book : Stmt := (topS 33)
abbrev s_law_more_options : Stmt := (topS 34)
abbrev s_law_bent : Stmt := (topS 35)
abbrev s_law_is_book : Stmt := (topS 36)
abbrev s_law_handed : Stmt := (topS 37)
abbrev s_law_spoil : Stmt := (topS 38)
abbrev s_law_refused : Stmt := (topS 39)
abbrev s_law_options_hold : Stmt := (topS 40)
abbrev s_law_keeps : Stmt := (topS 41)
abbrev s_law_keys : Stmt := (topS 42)
abbrev s_law_book_holds : Stmt := (topS 43)
abbrev s_law : Stmt := (topS 44)
def d_is_name : He5.DefA := ⟨(fun K => He.fAd K ("is_name", none)), "is_name", "is_name", defArgs s_is_name, defBody s_is_name, defScope s_is_name, [], []⟩
def d_check_choice : He5.DefA := ⟨(fun K => He.fAd K ("check_choice", none)), "check_choice", "check_choice", defArgs s_check_choice, defBody s_check_choice, defScope s_check_choice, [], []⟩
def d_grouped_options : He5.DefA := ⟨(fun K => He.fAd K ("grouped_options", none)), "grouped_options", "grouped_options", defArgs s_grouped_options, defBody s_grouped_options, defScope s_grouped_options, [], []⟩
def d_PlainBook_init : He5.DefA := ⟨(fun K => He.fAd K ("PlainBook", some "__init__")), "__init__", "PlainBook.__init__", defArgs s_PlainBook_init, defBody s_PlainBook_init, defScope s_PlainBook_init, [], []⟩
def d_PlainBook_options : He5.DefA := ⟨(fun K => He.fAd K ("PlainBook", some "options")), "options", "PlainBook.options", defArgs s_PlainBook_options, defBody s_PlainBook_options, defScope s_PlainBook_options, [], []⟩
def d_PlainBook_deterministic : He5.DefA := ⟨(fun K => He5.wf K (He.ga K "PlainBook") "property" "deterministic"), "deterministic", "PlainBook.deterministic", defArgs s_PlainBook_deterministic, defBody s_PlainBook_deterministic, defScope s_PlainBook_deterministic, [], []⟩
def d_law_int : He5.DefA := ⟨(fun K => He.fAd K ("_law_int", none)), "_law_int", "_law_int", defArgs s_law_int, defBody s_law_int, defScope s_law_int, [], []⟩
def d_law_pool : He5.DefA := ⟨(fun K => He.fAd K ("_law_pool", none)), "_law_pool", "_law_pool", defArgs s_law_pool, defBody s_law_pool, defScope s_law_pool, [], []⟩
def d_law_stirred : He5.DefA := ⟨(fun K => He.fAd K ("_law_stirred", none)), "_law_stirred", "_law_stirred", defArgs s_law_stirred, defBody s_law_stirred, defScope s_law_stirred, [], []⟩
def d_law_draw : He5.DefA := ⟨(fun K => He.fAd K ("_law_draw", none)), "_law_draw", "_law_draw", defArgs s_law_draw, defBody s_law_draw, defScope s_law_draw, [], []⟩
def d_law_same : He5.DefA := ⟨(fun K => He.fAd K ("_law_same", none)), "_law_same", "_law_same", defArgs s_law_same, defBody s_law_same, defScope s_law_same, [], []⟩
def d_law_name : He5.DefA := ⟨(fun K => He.fAd K ("_law_name", none)), "_law_name", "_law_name", defArgs s_law_name, defBody s_law_name, defScope s_law_name, [], []⟩
def d_law_names : He5.DefA := ⟨(fun K => He.fAd K ("_law_names", none)), "_law_names", "_law_names", defArgs s_law_names, defBody s_law_names, defScope s_law_names, [], []⟩
def d_law_odd_name : He5.DefA := ⟨(fun K => He.fAd K ("_law_odd_name", none)), "_law_odd_name", "_law_odd_name", defArgs s_law_odd_name, defBody s_law_odd_name, defScope s_law_odd_name, [], []⟩
def d_law_is_name : He5.DefA := ⟨(fun K => He.fAd K ("_law_is_name", none)), "_law_is_name", "_law_is_name", defArgs s_law_is_name, defBody s_law_is_name, defScope s_law_is_name, [], []⟩
def d_law_book : He5.DefA := ⟨(fun K => He.fAd K ("_law_book", none)), "_law_book", "_law_book", defArgs s_law_book, defBody s_law_book, defScope s_law_book, [], []⟩
def d_law_more_options : He5.DefA := ⟨(fun K => He.fAd K ("_law_more_options", none)), "_law_more_options", "_law_more_options", defArgs s_law_more_options, defBody s_law_more_options, defScope s_law_more_options, [], []⟩
def d_law_bent : He5.DefA := ⟨(fun K => He.fAd K ("_law_bent", none)), "_law_bent", "_law_bent", defArgs s_law_bent, defBody s_law_bent, defScope s_law_bent, [], []⟩
def d_law_is_book : He5.DefA := ⟨(fun K => He.fAd K ("_law_is_book", none)), "_law_is_book", "_law_is_book", defArgs s_law_is_book, defBody s_law_is_book, defScope s_law_is_book, [], []⟩
def d_law_handed : He5.DefA := ⟨(fun K => He.fAd K ("_law_handed", none)), "_law_handed", "_law_handed", defArgs s_law_handed, defBody s_law_handed, defScope s_law_handed, [], []⟩
def d_law_spoil : He5.DefA := ⟨(fun K => He.fAd K ("_law_spoil", none)), "_law_spoil", "_law_spoil", defArgs s_law_spoil, defBody s_law_spoil, defScope s_law_spoil, [], []⟩
def d_law_refused : He5.DefA := ⟨(fun K => He.fAd K ("_law_refused", none)), "_law_refused", "_law_refused", defArgs s_law_refused, defBody s_law_refused, defScope s_law_refused, [], []⟩
def d_law_options_hold : He5.DefA := ⟨(fun K => He.fAd K ("_law_options_hold", none)), "_law_options_hold", "_law_options_hold", defArgs s_law_options_hold, defBody s_law_options_hold, defScope s_law_options_hold, [], []⟩
def d_law_keeps : He5.DefA := ⟨(fun K => He.fAd K ("_law_keeps", none)), "_law_keeps", "_law_keeps", defArgs s_law_keeps, defBody s_law_keeps, defScope s_law_keeps, [], []⟩
def d_law_keys : He5.DefA := ⟨(fun K => He.fAd K ("_law_keys", none)), "_law_keys", "_law_keys", defArgs s_law_keys, defBody s_law_keys, defScope s_law_keys, [], []⟩
def d_law_book_holds : He5.DefA := ⟨(fun K => He.fAd K ("_law_book_holds", none)), "_law_book_holds", "_law_book_holds", defArgs s_law_book_holds, defBody s_law_book_holds, defScope s_law_book_holds, [], []⟩
def d_law : He5.DefA := ⟨(fun K => He.fAd K ("law", none)), "law", "law", defArgs s_law, defBody s_law, defScope s_law, [], []⟩
def fn : List He5.DefA := [d_is_name, d_check_choice, d_grouped_options, d_PlainBook_init, d_PlainBook_options, d_PlainBook_deterministic, d_law_int, d_law_pool, d_law_stirred, d_law_draw, d_law_same, d_law_name, d_law_names, d_law_odd_name, d_law_is_name, d_law_book, d_law_more_options, d_law_bent, d_law_is_book, d_law_handed, d_law_spoil, d_law_refused, d_law_options_hold, d_law_keeps, d_law_keys, d_law_book_holds, d_law]
def fa : List He.Fa := [.cls "PlainBook", .glo "PlainBook", .glo "BadShare", .glo "BadText", .glo "BadBook", .glo "BadMove", .glo "BadProgram", .glo "BadPlan", .glo "Unfit", .glo "TooLarge", .glo "BadEdit", .exm "BadShare" "OddsError" true, .exm "BadText" "OddsError" true, .exm "BadBook" "OddsError" true, .exm "BadMove" "OddsError" true, .exm "BadProgram" "OddsError" true, .exm "BadPlan" "OddsError" true, .exm "Unfit" "OddsError" true, .exm "TooLarge" "OddsError" true, .exm "BadEdit" "OddsError" true, .noat "PlainBook" "states", .noat "PlainBook" "first", .noat "PlainBook" "choices", .noat "PlainBook" "_options", .exc "BadBook", .glo "OddsError", .free "ValueError", .free "abs", .free "bool", .free "int", .free "isinstance", .free "len", .free "list", .free "max", .free "min", .free "range", .free "str", .free "tuple", .meth "PlainBook" "options", .glo "law", .mkr "PlainBook", .str "DIGITS" "0123456789", .str "LETTERS" "abcdefghijklmnopqrstuvwxyz", .int "MOST_NAME_CHARACTERS" 20, .int "VALUE_LIMIT" 8, .int "MOST_OPTIONS" 4, .int "MOST_STATES" 600, .glo "is_name", .glo "check_choice", .glo "grouped_options", .glo "_law_int", .glo "_law_pool", .glo "_law_stirred", .glo "_law_draw", .glo "_law_same", .glo "_law_name", .glo "_law_names", .glo "_law_odd_name", .glo "_law_is_name", .glo "_law_book", .glo "_law_more_options", .glo "_law_bent", .glo "_law_is_book", .glo "_law_handed", .glo "_law_spoil", .glo "_law_refused", .glo "_law_options_hold", .glo "_law_keeps", .glo "_law_keys", .glo "_law_book_holds"]
def pB (K : PySem.W.Frag) : Bool := (["PlainBook"] : List Str).all (oclB K) && (objB K && (xctB K t_exs && (prB K "PlainBook" "deterministic" && (true))))
def loose0 : List Str := ["OddsError", "BadShare", "BadText", "BadBook", "BadMove", "BadProgram", "BadPlan", "Unfit", "TooLarge", "BadEdit", "LETTERS", "DIGITS", "MOST_NAME_CHARACTERS", "is_name", "MOST_STATES", "MOST_OPTIONS", "VALUE_LIMIT", "PlainBook", "check_choice", "grouped_options", "_law_int", "_law_pool", "_law_stirred", "_law_draw"]
def loose1 : List Str := ["_law_same", "_law_name", "_law_names", "_law_odd_name", "_law_is_name", "_law_book", "_law_more_options", "_law_bent", "_law_is_book", "_law_handed", "_law_spoil", "_law_refused", "_law_options_hold", "_law_keeps", "_law_keys", "_law_book_holds"]
def loose : List Str := loose0 ++ loose1
def ob (s : PySem.W.SharedT) : He.AlD := obsXG 5 fa fn pB (HandSHeadRun.getT s)
theorem ob_eq (s : PySem.W.SharedT) : ob s = (hookX 5 fa fn pB).obs s.abs := obsXG_eq (HandSHeadRun.getT_eq s)
end K03

namespace K03
open PySem PySem.Spec PyProof.Rows L2 L3
theorem run (w : World) : HandSHeadRun.RunEq (PySem.W.OpenLaw.row PySem.Challenge.rw_oddsward_k03_plain_books) (PySem.W.view (PySem.W.OpenLaw.row PySem.Challenge.rw_oddsward_k03_plain_books).prog [44]) (hookX 5 fa fn pB) ob 6000 loose w := by
  intro os
  kernel_rfl
end K03

namespace LY
open PySem L2 L3
/-! Printed by gen.py: what each def does, by its text. -/
/-- is_name(word); names: 0 word, 1 character -/
def m_is_name : MS :=
    (mSeq (mIf (mOr (mNot (mB (mChain fLe fLe (mC (.int 1)) (mCB fLen (mCons (mVar 0) mNil)) (mC (.int 20))))) (mB (mOp (fIn true) (mOp fIx (mVar 0) (mC (.int 0))) (mC (.str "abcdefghijklmnopqrstuvwxyz"))))) (mRet (mC (.bl false))) mNext)
    (mSeq (mFor (iSeq (mVar 0)) (tgName 1) (mIf (mAnd (mB (mOp (fIn true) (mVar 1) (mC (.str "abcdefghijklmnopqrstuvwxyz")))) (mB (mOp (fIn true) (mVar 1) (mC (.str "0123456789"))))) (mRet (mC (.bl false))) mNext))
    (mRet (mC (.bl true)))))
/-- check_choice(choice, states); names: 0 choice, 1 states, 2 deed, 3 state, 4 argument, 5 following, 6 answer -/
def m_check_choice : MS :=
    (mSeq (mAsg (mVar 0) (tgTup 5 (tgCons (tgName 2) (tgCons (tgName 3) (tgCons (tgName 4) (tgCons (tgName 5) (tgCons (tgName 6) tgNil)))))))
    (mSeq (mIf (mNot (mTru (mCall sp_is_name 1 (mCons (mVar 2) mNil)))) (mRaise "BadBook") mNext)
    (mSeq (mIf (mOr (mNot (mB (mChain fLe fLt (mC (.int 0)) (mVar 3) (mVar 1)))) (mNot (mB (mChain fLe fLt (mC (.int 0)) (mVar 5) (mVar 1))))) (mRaise "BadBook") mNext)
    (mIf (mOr (mNot (mB (mChain fLe fLt (mC (.int 0)) (mVar 4) (mC (.int 8))))) (mNot (mB (mChain fLe fLt (mC (.int 0)) (mVar 6) (mC (.int 8)))))) (mRaise "BadBook") mNext))))
/-- grouped_options(choices); names: 0 choices, 1 grouped, 2 deed, 3 state, 4 argument, 5 following, 6 answer, 7 key, 8 options -/
def m_grouped_options : MS :=
    (mSeq (mAsg mDict0 (tgName 1))
    (mSeq (mFor (iSeq (mVar 0)) (tgTup 5 (tgCons (tgName 2) (tgCons (tgName 3) (tgCons (tgName 4) (tgCons (tgName 5) (tgCons (tgName 6) tgNil)))))) (mSeq (mAsg (mTup (mCons (mVar 2) (mCons (mVar 3) (mCons (mVar 4) mNil)))) (tgName 7))
    (mSeq (mAsg (mGet2 (mVar 1) (mVar 7) (mTup mNil)) (tgName 8))
    (mSeq (mIf (mB (mOp (fIn false) (mTup (mCons (mVar 5) (mCons (mVar 6) mNil))) (mVar 8))) (mRaise "BadBook") mNext)
    (mSeq (mIf (mB (mOp (fEq false) (mCB fLen (mCons (mVar 8) mNil)) (mC (.int 4)))) (mRaise "BadBook") mNext)
    (mAsg (mOp fAdd (mVar 8) (mTup (mCons (mTup (mCons (mVar 5) (mCons (mVar 6) mNil))) mNil))) (tgIx (mVar 1) (mVar 7))))))))
    (mRetL (mVar 1))))
/-- PlainBook.__init__(self, states, first, choices); names: 0 self, 1 states, 2 first, 3 choices, 4 choice -/
def m_PlainBook_init : MS :=
    (mSeq (mSetA t_tab "states" (mVar 1) (mVar 0))
    (mSeq (mSetA t_tab "first" (mVar 2) (mVar 0))
    (mSeq (mSetA t_tab "choices" (mTupOf (mComp (iSeq (mVar 3)) (.one 4) mYes (mTupOf (mVar 4)))) (mVar 0))
    (mSeq (mIf (mNot (mB (mChain fLe fLe (mC (.int 1)) (mVar 1) (mC (.int 600))))) (mRaise "BadBook") mNext)
    (mSeq (mIf (mNot (mB (mChain fLe fLt (mC (.int 0)) (mVar 2) (mVar 1)))) (mRaise "BadBook") mNext)
    (mSeq (mFor (iSeq (mFld t_tab "choices" (mVar 0))) (tgName 4) (mDrop (mCall sp_check_choice 2 (mCons (mVar 4) (mCons (mVar 1) mNil)))))
    (mSetA t_tab "_options" (mCall sp_grouped_options 1 (mCons (mFld t_tab "choices" (mVar 0)) mNil)) (mVar 0))))))))
/-- PlainBook.options(self, deed, state, argument); names: 0 self, 1 deed, 2 state, 3 argument -/
def m_PlainBook_options : MS :=
    (mRet (mCB fList1 (mCons (mGet2 (mFld t_tab "_options" (mVar 0)) (mTup (mCons (mVar 1) (mCons (mVar 2) (mCons (mVar 3) mNil)))) (mTup mNil)) mNil)))
/-- PlainBook.deterministic(self); names: 0 self, 1 options -/
def m_PlainBook_deterministic : MS :=
    (mSeq (mFor (iVals3 (mFld t_tab "_options" (mVar 0))) (tgName 1) (mIf (mB (mOp fGt (mCB fLen (mCons (mVar 1) mNil)) (mC (.int 1)))) (mRet (mC (.bl false))) mNext))
    (mRet (mC (.bl true))))
/-- _law_int(x); names: 0 x -/
def m_law_int : MS :=
    (mRet (mAndV (mIsT .int (mVar 0)) (mNotV (mIsT .bool (mVar 0)))))
/-- _law_pool(script, at); names: 0 script, 1 at, 2 cell, 3 kind -/
def m_law_pool : MS :=
    (mSeq (mAsg (mC (.int 0)) (tgName 2))
    (mSeq (mIf (mB (mOp fLt (mVar 1) (mCB fLen (mCons (mVar 0) mNil)))) (mAsg (mCB fAbs (mCons (mCB fInt1 (mCons (mOp fIx (mVar 0) (mVar 1)) mNil)) mNil)) (tgName 2)) mNext)
    (mSeq (mAsg (mOp fAdd (mCB fInt1 (mCons (mOp fGt (mVar 2) (mC (.int 0))) mNil)) (mCB fInt1 (mCons (mOp fGe (mVar 2) (mOp fPow (mC (.int 10)) (mC (.int 18)))) mNil))) (tgName 3))
    (mRet (mLst (mCons (mVar 2) (mCons (mOp fMod (mCB fInt1 (mCons (mVar 2) mNil)) (mC (.int 2147483629))) (mCons (mC (.int 0)) (mCons (mVar 3) mNil)))))))))
/-- _law_stirred(script, at); names: 0 script, 1 at, 2 pool, 3 cell -/
def m_law_stirred : MS :=
    (mSeq (mAsg (mCall sp_law_pool 2 (mCons (mVar 0) (mCons (mVar 1) mNil))) (tgName 2))
    (mSeq (mFor (iSeq (mSlice (mVar 0) mNone (mSome (mC (.int 6))))) (tgName 3) (mAsg (mOp fMod (mCB fInt1 (mCons (mOp fAdd (mOp fMul (mOp fIx (mVar 2) (mC (.int 1))) (mC (.int 69069))) (mVar 3)) mNil)) (mC (.int 2147483629))) (tgIx (mVar 2) (mC (.int 1)))))
    (mRet (mVar 2))))
/-- _law_draw(pool, many); names: 0 pool, 1 many, 2 got, 3 x -/
def m_law_draw : MS :=
    (mSeq (mAsg (mOp fAdd (mOp fIx (mVar 0) (mC (.int 2))) (mC (.int 1))) (tgIx (mVar 0) (mC (.int 2))))
    (mSeq (mIf (mOr (mB (mOp (fEq false) (mOp fIx (mVar 0) (mC (.int 3))) (mC (.int 0)))) (mB (mOp fLt (mVar 1) (mC (.int 2))))) (mRet (mC (.int 0))) mNext)
    (mSeq (mIf (mAnd (mB (mOp (fEq false) (mOp fIx (mVar 0) (mC (.int 3))) (mC (.int 2)))) (mB (mOp fGt (mOp fIx (mVar 0) (mC (.int 0))) (mC (.int 0))))) (mSeq (mAsg (mOp fMod (mCB fInt1 (mCons (mOp fIx (mVar 0) (mC (.int 0))) mNil)) (mVar 1)) (tgName 2))
    (mSeq (mAsg (mOp fDiv (mOp fIx (mVar 0) (mC (.int 0))) (mVar 1)) (tgIx (mVar 0) (mC (.int 0))))
    (mRet (mVar 2)))) mNext)
    (mSeq (mAsg (mOp fMod (mCB fInt1 (mCons (mOp fAdd (mOp fAdd (mOp fMul (mOp fIx (mVar 0) (mC (.int 1))) (mC (.int 48271))) (mOp fMul (mOp fIx (mVar 0) (mC (.int 2))) (mC (.int 69621)))) (mC (.int 17))) mNil)) (mC (.int 2147483647))) (tgName 3))
    (mSeq (mAsg (mOp fMod (mCB fInt1 (mCons (mOp fAdd (mOp fMul (mVar 3) (mVar 3)) (mOp fIx (mVar 0) (mC (.int 2)))) mNil)) (mC (.int 2147483629))) (tgName 3))
    (mSeq (mAsg (mOp fMod (mCB fInt1 (mCons (mOp fAdd (mOp fMul (mVar 3) (mVar 3)) (mOp fIx (mVar 0) (mC (.int 1)))) mNil)) (mC (.int 2147483587))) (tgName 3))
    (mRet (mOp fMod (mCB fInt1 (mCons (mOp fDiv (mVar 3) (mC (.int 16))) mNil)) (mVar 1)))))))))
/-- _law_same(told, due); names: 0 told, 1 due, 2 k -/
def m_law_same (S : FSpec) : MS :=
    (mSeq (mIf (mB (mOp (fIsN false) (mVar 1) (mC .non))) (mRet (mOp (fIsN false) (mVar 0) (mC .non))) mNext)
    (mSeq (mIf (mTru (mIsT .bool (mVar 1))) (mRet (mAndV (mIsT .bool (mVar 0)) (mOp (fEq false) (mVar 0) (mVar 1)))) mNext)
    (mSeq (mIf (mTru (mIsT .str (mVar 1))) (mRet (mAndV (mIsT .str (mVar 0)) (mOp (fEq false) (mVar 0) (mVar 1)))) mNext)
    (mSeq (mIf (mTru (mIsT .int (mVar 1))) (mRet (mAndV (mCall sp_law_int 1 (mCons (mVar 0) mNil)) (mOp (fEq false) (mVar 0) (mVar 1)))) mNext)
    (mSeq (mIf (mAnd (mTru (mIsT .tup (mVar 1))) (mNot (mTru (mIsT .tup (mVar 0))))) (mRet (mC (.bl false))) mNext)
    (mSeq (mIf (mAnd (mTru (mIsT .lst (mVar 1))) (mNot (mTru (mIsT .lst (mVar 0))))) (mRet (mC (.bl false))) mNext)
    (mSeq (mIf (mB (mOp (fEq true) (mCB fLen (mCons (mVar 0) mNil)) (mCB fLen (mCons (mVar 1) mNil)))) (mRet (mC (.bl false))) mNext)
    (mSeq (mFor (iR1 (mCons (mCB fLen (mCons (mVar 1) mNil)) mNil)) (tgName 2) (mIf (mNot (mTru (mCall S 2 (mCons (mOp fIx (mVar 0) (mVar 2)) (mCons (mOp fIx (mVar 1) (mVar 2)) mNil))))) (mRet (mC (.bl false))) mNext))
    (mRet (mC (.bl true)))))))))))
end LY

namespace LY
open PySem L2 L3
local macro_rules | `(tactic| walk_at "PLYa W0") => `(tactic| (repeat' first | with_reducible refine w_seq ?_ | with_reducible refine w_sui ?_ | with_reducible refine w_next ?_ | with_reducible refine w_brk ?_ | with_reducible refine w_cont ?_ | with_reducible refine w_ret ?_ | with_reducible refine w_retN ?_ | with_reducible refine w_drop ?_ | with_reducible refine w_if ?_ | with_reducible refine w_asg ?_ | with_reducible refine w_par ?_ | with_reducible refine w_setA ?_ | with_reducible refine w_raise ?_ | with_reducible refine w_for ?_ | with_reducible refine w_iSeq ?_ | with_reducible refine w_iR1 ?_ | with_reducible refine w_iR2 ?_ | with_reducible refine w_iVals ?_ | with_reducible refine w_itLst ?_ | with_reducible refine w_itTup ?_ | with_reducible refine w_itStr ?_ | with_reducible refine w_tgName ?_ | with_reducible refine w_tgIx ?_ | with_reducible refine w_tgCons ?_ | with_reducible refine w_tgNil ?_ | with_reducible refine w_un ?_ | with_reducible refine w_op ?_ | with_reducible refine w_B ?_ | with_reducible refine w_tru ?_ | with_reducible refine w_and ?_ | with_reducible refine w_or ?_ | with_reducible refine w_not ?_ | with_reducible refine w_andV ?_ | with_reducible refine w_orV ?_ | with_reducible refine w_notV ?_ | with_reducible refine w_ifE ?_ | with_reducible refine w_nil ?_ | with_reducible refine w_cons ?_ | with_reducible refine w_tup ?_ | with_reducible refine w_lst ?_ | with_reducible refine w_cb ?_ | with_reducible refine w_call ?_ | with_reducible refine w_slice ?_ | with_reducible refine w_oNone ?_ | with_reducible refine w_onBl ?_ | with_reducible refine w_onTruB ?_ | with_reducible refine w_kT ?_ | with_reducible refine w_kF ?_ | with_reducible refine w_fAdd ?_ | with_reducible refine w_fSub ?_ | with_reducible refine w_fNeg ?_ | with_reducible refine w_fLt ?_ | with_reducible refine w_fLe ?_ | with_reducible refine w_fGt ?_ | with_reducible refine w_fGe ?_ | with_reducible refine w_fEqI ?_ | with_reducible refine w_fNeI ?_ | with_reducible refine w_fEqB ?_ | with_reducible refine w_fEqS ?_ | with_reducible refine w_fInt ?_ | with_reducible refine w_fIntB ?_ | with_reducible refine w_fAbs ?_ | with_reducible refine w_fMax ?_ | with_reducible refine w_fMin ?_ | with_reducible refine w_fGcd ?_ | with_reducible refine w_fLenL ?_ | with_reducible refine w_fLenT ?_ | with_reducible refine w_own ?_ | with_reducible refine w_ownI ?_ | with_reducible refine w_eqOwnI ?_ | with_reducible refine w_c ?_ | with_reducible refine w_make ?_ | with_reducible refine w_makeK ?_ | with_reducible refine w_par2 ?_ | with_reducible refine w_slLst ?_ | with_reducible refine w_p10_6 ?_ | with_reducible refine w_p10_8 ?_ | with_reducible refine w_p10_18 ?_ | with_reducible refine w_p10_30 ?_ | with_reducible refine w_p10_51 ?_ | with_reducible refine w_p10_59 ?_ | with_reducible refine w_p10_60 ?_ | with_reducible refine w_p2_63 ?_ | with_reducible refine w_p2_64 ?_ | with_reducible refine w_comp ?_ | with_reducible refine w_meth ?_ | with_reducible refine w_app ?_ | with_reducible refine w_tupOf ?_ | with_reducible refine w_tupL ?_ | with_reducible refine w_tupT ?_ | with_reducible refine w_sm ?_ | with_reducible refine w_sm0 ?_ | with_reducible refine w_isStr ?_ | with_reducible refine w_find ?_ | with_reducible refine w_starts ?_ | with_reducible refine w_isascii ?_ | with_reducible refine w_isdigit ?_ | with_reducible refine w_str1S ?_ | with_reducible refine w_strO ?_ | with_reducible refine w_fmt ?_ | with_reducible refine w_join ?_ | with_reducible refine w_jsNil ?_ | with_reducible refine w_jsCons ?_ | with_reducible refine w_inS ?_ | with_reducible refine w_notInS ?_ | with_reducible refine w_statI ?_ | with_reducible refine w_fNeS ?_ | with_reducible refine w_yes ?_ | with_reducible refine w_get2 ?_ | with_reducible refine w_get1 ?_ | with_reducible refine w_prop ?_ | with_reducible refine w_put1 ?_ | with_reducible refine w_list1L ?_ | with_reducible refine w_list1T ?_ | with_reducible refine w_fIsN ?_ | with_reducible refine w_retL ?_ | with_reducible refine w_valsT ?_ | with_reducible refine w_valsK ?_ | ((with_reducible apply w_var); exact rfl) | ((with_reducible apply w_isE); exact rfl) | ((with_reducible apply w_onTru); exact rfl) | ((with_reducible apply w_tgTup); exact rfl) | ((with_reducible refine w_fPow ?_ ?_); exact ⟨by decide, by decide, by decide⟩) | (with_reducible refine w_fMod (by decide) ?_) | ((with_reducible apply w_fIxT); exact rfl) | ((with_reducible apply w_fIxL); exact rfl) | (with_reducible refine w_oSome ?_) | ((with_reducible apply w_fIxC); (first | with_reducible exact put_same | assumption); exact rfl) | ((with_reducible apply w_fLenC); (first | with_reducible exact put_same | assumption)) | ((with_reducible apply w_setL); (first | with_reducible exact put_same | assumption); exact rfl) | ((with_reducible apply w_itC); (first | with_reducible exact put_same | assumption)) | ((with_reducible apply w_list1C); (first | with_reducible exact put_same | assumption)) | ((with_reducible apply w_tupC); (first | with_reducible exact put_same | assumption)) | ((with_reducible apply w_slC); (first | with_reducible exact put_same | assumption)) | ((with_reducible apply w_isTc); (first | with_reducible exact put_same | assumption)) | ((with_reducible refine And.intro (a := List.length _ ≤ sizeLine) ?_ ?_); exact Nat.le_of_ble_eq_true rfl) | (with_reducible refine And.intro (a := List.length _ = _) rfl ?_) | (with_reducible refine w_fld ?_) | (with_reducible refine w_isT ?_) | (with_reducible refine w_isO ?_) | ((with_reducible refine Exists.intro ?_ (And.intro (a := fldD _ _ _ _ = _) ?_ ?_)); rotate_left; first | exact rfl) | ((with_reducible refine Exists.intro ?_ (And.intro (a := isT _ _ _ = _) ?_ ?_)); rotate_left; exact rfl) | ((with_reducible refine Exists.intro ?_ (And.intro (a := isO _ _ _ = _) ?_ ?_)); rotate_left; exact rfl) | ((with_reducible refine Exists.intro ?_ (And.intro (a := D.int _ = D.int _) ?_ ?_)); rotate_left; exact rfl) | ((with_reducible refine w_kT' (k := T3.isInt _) ?_ ?_); exact rfl) | ((with_reducible refine w_kT' (k := !T3.isInt _) ?_ ?_); exact rfl) | ((with_reducible refine w_kF' (k := T3.isInt _) ?_ ?_); exact rfl) | ((with_reducible refine w_kF' (k := !T3.isInt _) ?_ ?_); exact rfl) | ((with_reducible refine w_kT' (k := T3.isBl _) ?_ ?_); exact rfl) | ((with_reducible refine w_kT' (k := !T3.isBl _) ?_ ?_); exact rfl) | ((with_reducible refine w_kF' (k := T3.isBl _) ?_ ?_); exact rfl) | ((with_reducible refine w_kF' (k := !T3.isBl _) ?_ ?_); exact rfl) | ((with_reducible refine w_kT' (k := T3.isStr _) ?_ ?_); exact rfl) | ((with_reducible refine w_kT' (k := !T3.isStr _) ?_ ?_); exact rfl) | ((with_reducible refine w_kF' (k := T3.isStr _) ?_ ?_); exact rfl) | ((with_reducible refine w_kF' (k := !T3.isStr _) ?_ ?_); exact rfl) | ((with_reducible refine w_kT' (k := T3.isTup _) ?_ ?_); exact rfl) | ((with_reducible refine w_kT' (k := !T3.isTup _) ?_ ?_); exact rfl) | ((with_reducible refine w_kF' (k := T3.isTup _) ?_ ?_); exact rfl) | ((with_reducible refine w_kF' (k := !T3.isTup _) ?_ ?_); exact rfl) | ((with_reducible refine w_kT' (k := T3.isLst _) ?_ ?_); exact rfl) | ((with_reducible refine w_kT' (k := !T3.isLst _) ?_ ?_); exact rfl) | ((with_reducible refine w_kF' (k := T3.isLst _) ?_ ?_); exact rfl) | ((with_reducible refine w_kF' (k := !T3.isLst _) ?_ ?_); exact rfl) | ((with_reducible refine And.intro (a := insD _ _ _ _) ?_ ?_); (first | exact ⟨rfl, rfl⟩)) | ((with_reducible refine w_kT' (k := isNonD _ != _) ?_ ?_); exact rfl) | ((with_reducible refine w_kF' (k := isNonD _ != _) ?_ ?_); exact rfl) | (with_reducible refine w_kF' (k := !true) rfl ?_) | (with_reducible refine w_kT' (k := !false) rfl ?_) | ((with_reducible refine w_kT' (k := decide _) ?_ ?_); decide +kernel) | ((with_reducible refine w_kF' (k := decide _) ?_ ?_); decide +kernel)))
theorem b_law_int : BodyOk ["x"] 1 sp_law_int m_law_int := by
  rintro ds O Z P hl (⟨i, rfl, hq⟩ | ⟨d, rfl, ht, hq⟩ | ⟨b, rfl, hq⟩)
  · show m_law_int (En.mk _ _ _ _ _) [some (.int i)] O
    unfold m_law_int
    walk_at "PLYa W0"
    exact w_fz hq
  · show m_law_int (En.mk _ _ _ _ _) [some d] O
    unfold m_law_int
    walk_at "PLYa W0"
    refine ⟨_, ht, ?_⟩
    walk_at "PLYa W0"
    exact w_fz hq
  · show m_law_int (En.mk _ _ _ _ _) [some (.bl b)] O
    unfold m_law_int
    walk_at "PLYa W0"
    exact w_fz hq
theorem b_law_pool : BodyOk ["script", "at", "cell", "kind"] 2 sp_law_pool m_law_pool := by
  rintro ds O Z P hl ⟨ns, i, rfl, hq⟩
  show m_law_pool (En.mk _ _ _ _ _) [some (.lst (ns.map D.int)), some (.int i), none, none] O
  unfold m_law_pool
  walk_at "PLYa W0"
  refine w_k (fun h => ?_) fun h => ?_
  · have h2 : i < ns.length := by
      have := of_decide_eq_true h
      rw [List.length_map] at this
      omega
    walk_at "PLYa W0"
    refine w_fIxL (atI_ints h2) ?_
    walk_at "PLYa W0"
    exact fun p hp => w_fz (w_fz (hq p _ _ _ _ hp))
  · walk_at "PLYa W0"
    exact fun p hp => w_fz (w_fz (hq p _ _ _ _ hp))
local macro_rules | `(tactic| walk_at "PLYa U1") => `(tactic| (repeat' first | with_reducible refine w_seq ?_ | with_reducible refine w_sui ?_ | with_reducible refine w_next ?_ | with_reducible refine w_brk ?_ | with_reducible refine w_cont ?_ | with_reducible refine w_ret ?_ | with_reducible refine w_retN ?_ | with_reducible refine w_drop ?_ | with_reducible refine w_if ?_ | with_reducible refine w_asg ?_ | with_reducible refine w_par ?_ | with_reducible refine w_setA ?_ | with_reducible refine w_raise ?_ | with_reducible refine w_for ?_ | with_reducible refine w_iSeq ?_ | with_reducible refine w_iR1 ?_ | with_reducible refine w_iR2 ?_ | with_reducible refine w_iVals ?_ | with_reducible refine w_itLst ?_ | with_reducible refine w_itTup ?_ | with_reducible refine w_itStr ?_ | with_reducible refine w_tgName ?_ | with_reducible refine w_tgIx ?_ | with_reducible refine w_tgCons ?_ | with_reducible refine w_tgNil ?_ | with_reducible refine w_un ?_ | with_reducible refine w_op ?_ | with_reducible refine w_B ?_ | with_reducible refine w_tru ?_ | with_reducible refine w_and ?_ | with_reducible refine w_or ?_ | with_reducible refine w_not ?_ | with_reducible refine w_andV ?_ | with_reducible refine w_orV ?_ | with_reducible refine w_notV ?_ | with_reducible refine w_ifE ?_ | with_reducible refine w_nil ?_ | with_reducible refine w_cons ?_ | with_reducible refine w_tup ?_ | with_reducible refine w_lst ?_ | with_reducible refine w_cb ?_ | with_reducible refine w_call ?_ | with_reducible refine w_slice ?_ | with_reducible refine w_oNone ?_ | with_reducible refine w_onBl ?_ | with_reducible refine w_onTruB ?_ | with_reducible refine w_kT ?_ | with_reducible refine w_kF ?_ | with_reducible refine w_fAdd ?_ | with_reducible refine w_fSub ?_ | with_reducible refine w_fNeg ?_ | with_reducible refine w_fLt ?_ | with_reducible refine w_fLe ?_ | with_reducible refine w_fGt ?_ | with_reducible refine w_fGe ?_ | with_reducible refine w_fEqI ?_ | with_reducible refine w_fNeI ?_ | with_reducible refine w_fEqB ?_ | with_reducible refine w_fEqS ?_ | with_reducible refine w_fInt ?_ | with_reducible refine w_fIntB ?_ | with_reducible refine w_fAbs ?_ | with_reducible refine w_fMax ?_ | with_reducible refine w_fMin ?_ | with_reducible refine w_fGcd ?_ | with_reducible refine w_fLenL ?_ | with_reducible refine w_fLenT ?_ | with_reducible refine w_own ?_ | with_reducible refine w_ownI ?_ | with_reducible refine w_eqOwnI ?_ | with_reducible refine w_c ?_ | with_reducible refine w_make ?_ | with_reducible refine w_makeK ?_ | with_reducible refine w_par2 ?_ | with_reducible refine w_slLst ?_ | with_reducible refine w_p10_6 ?_ | with_reducible refine w_p10_8 ?_ | with_reducible refine w_p10_18 ?_ | with_reducible refine w_p10_30 ?_ | with_reducible refine w_p10_51 ?_ | with_reducible refine w_p10_59 ?_ | with_reducible refine w_p10_60 ?_ | with_reducible refine w_p2_63 ?_ | with_reducible refine w_p2_64 ?_ | with_reducible refine w_comp ?_ | with_reducible refine w_meth ?_ | with_reducible refine w_app ?_ | with_reducible refine w_tupOf ?_ | with_reducible refine w_tupL ?_ | with_reducible refine w_tupT ?_ | with_reducible refine w_sm ?_ | with_reducible refine w_sm0 ?_ | with_reducible refine w_isStr ?_ | with_reducible refine w_find ?_ | with_reducible refine w_starts ?_ | with_reducible refine w_isascii ?_ | with_reducible refine w_isdigit ?_ | with_reducible refine w_str1S ?_ | with_reducible refine w_strO ?_ | with_reducible refine w_fmt ?_ | with_reducible refine w_join ?_ | with_reducible refine w_jsNil ?_ | with_reducible refine w_jsCons ?_ | with_reducible refine w_inS ?_ | with_reducible refine w_notInS ?_ | with_reducible refine w_statI ?_ | with_reducible refine w_fNeS ?_ | with_reducible refine w_yes ?_ | with_reducible refine w_get2 ?_ | with_reducible refine w_get1 ?_ | with_reducible refine w_prop ?_ | with_reducible refine w_put1 ?_ | with_reducible refine w_list1L ?_ | with_reducible refine w_list1T ?_ | with_reducible refine w_fIsN ?_ | with_reducible refine w_retL ?_ | with_reducible refine w_valsT ?_ | with_reducible refine w_valsK ?_ | ((with_reducible apply w_var); exact rfl) | ((with_reducible apply w_isE); exact rfl) | ((with_reducible apply w_onTru); exact rfl) | ((with_reducible apply w_tgTup); exact rfl) | ((with_reducible refine w_fPow ?_ ?_); exact ⟨by decide, by decide, by decide⟩) | (with_reducible refine w_fMod (by decide) ?_) | ((with_reducible apply w_fIxT); exact rfl) | ((with_reducible apply w_fIxL); exact rfl) | (with_reducible refine w_oSome ?_) | ((with_reducible apply w_fIxC); (first | with_reducible exact put_same | assumption); exact rfl) | ((with_reducible apply w_fLenC); (first | with_reducible exact put_same | assumption)) | ((with_reducible apply w_setL); (first | with_reducible exact put_same | assumption); exact rfl) | (with_reducible refine w_fLenS (by omega) ?_) | (with_reducible refine w_slStr (by omega) ?_) | (with_reducible refine w_fAddS (by omega) ?_) | (with_reducible refine w_remPre (by omega) ?_) | (with_reducible refine w_fmtS (by omega) ?_) | ((with_reducible apply w_itC); (first | with_reducible exact put_same | assumption)) | ((with_reducible apply w_list1C); (first | with_reducible exact put_same | assumption)) | ((with_reducible apply w_tupC); (first | with_reducible exact put_same | assumption)) | ((with_reducible apply w_slC); (first | with_reducible exact put_same | assumption)) | ((with_reducible apply w_isTc); (first | with_reducible exact put_same | assumption)) | (with_reducible refine w_fMul (mulR (by decide)) ?_) | (with_reducible refine w_fMul (mulL (by omega)) ?_) | (with_reducible refine w_fMul (mulR (by omega)) ?_) | (with_reducible refine w_fDiv (dv30 (by omega) (by omega)) ?_) | (with_reducible refine w_fMod (by omega) ?_) | (with_reducible refine w_k (fun _ => ?_) fun _ => ?_) | ((with_reducible refine And.intro (a := List.length _ ≤ sizeLine) ?_ ?_); exact Nat.le_of_ble_eq_true rfl) | (with_reducible refine And.intro (a := List.length _ = _) rfl ?_) | (with_reducible refine w_fld ?_) | (with_reducible refine w_isT ?_) | (with_reducible refine w_isO ?_) | ((with_reducible refine Exists.intro ?_ (And.intro (a := fldD _ _ _ _ = _) ?_ ?_)); rotate_left; first | exact rfl) | ((with_reducible refine Exists.intro ?_ (And.intro (a := isT _ _ _ = _) ?_ ?_)); rotate_left; exact rfl) | ((with_reducible refine Exists.intro ?_ (And.intro (a := isO _ _ _ = _) ?_ ?_)); rotate_left; exact rfl) | ((with_reducible refine Exists.intro ?_ (And.intro (a := D.int _ = D.int _) ?_ ?_)); rotate_left; exact rfl) | ((with_reducible refine w_kT' (k := T3.isInt _) ?_ ?_); exact rfl) | ((with_reducible refine w_kT' (k := !T3.isInt _) ?_ ?_); exact rfl) | ((with_reducible refine w_kF' (k := T3.isInt _) ?_ ?_); exact rfl) | ((with_reducible refine w_kF' (k := !T3.isInt _) ?_ ?_); exact rfl) | ((with_reducible refine w_kT' (k := T3.isBl _) ?_ ?_); exact rfl) | ((with_reducible refine w_kT' (k := !T3.isBl _) ?_ ?_); exact rfl) | ((with_reducible refine w_kF' (k := T3.isBl _) ?_ ?_); exact rfl) | ((with_reducible refine w_kF' (k := !T3.isBl _) ?_ ?_); exact rfl) | ((with_reducible refine w_kT' (k := T3.isStr _) ?_ ?_); exact rfl) | ((with_reducible refine w_kT' (k := !T3.isStr _) ?_ ?_); exact rfl) | ((with_reducible refine w_kF' (k := T3.isStr _) ?_ ?_); exact rfl) | ((with_reducible refine w_kF' (k := !T3.isStr _) ?_ ?_); exact rfl) | ((with_reducible refine w_kT' (k := T3.isTup _) ?_ ?_); exact rfl) | ((with_reducible refine w_kT' (k := !T3.isTup _) ?_ ?_); exact rfl) | ((with_reducible refine w_kF' (k := T3.isTup _) ?_ ?_); exact rfl) | ((with_reducible refine w_kF' (k := !T3.isTup _) ?_ ?_); exact rfl) | ((with_reducible refine w_kT' (k := T3.isLst _) ?_ ?_); exact rfl) | ((with_reducible refine w_kT' (k := !T3.isLst _) ?_ ?_); exact rfl) | ((with_reducible refine w_kF' (k := T3.isLst _) ?_ ?_); exact rfl) | ((with_reducible refine w_kF' (k := !T3.isLst _) ?_ ?_); exact rfl) | ((with_reducible refine And.intro (a := insD _ _ _ _) ?_ ?_); (first | exact ⟨rfl, rfl⟩)) | ((with_reducible refine w_kT' (k := isNonD _ != _) ?_ ?_); exact rfl) | ((with_reducible refine w_kF' (k := isNonD _ != _) ?_ ?_); exact rfl) | (with_reducible refine w_kF' (k := !true) rfl ?_) | (with_reducible refine w_kT' (k := !false) rfl ?_) | ((with_reducible refine w_kT' (k := decide _) ?_ ?_); decide +kernel) | ((with_reducible refine w_kF' (k := decide _) ?_ ?_); decide +kernel)))
theorem b_law_draw : BodyOk ["pool", "many", "got", "x"] 2 sp_law_draw m_law_draw := by
  rintro ds O Z P hl ⟨p, m, rfl, ⟨a, b, c, k, hO⟩, h1, h2, hq⟩
  show m_law_draw (En.mk _ _ _ _ _) [some (.cell p), some (.int m), none, none] O
  unfold m_law_draw
  unfold poolD at hO
  have e0 : ExtB p O O := fun _ _ _ h => h
  have e1 : ∀ {u}, ExtB p O (L3.put O p u) := fun q u n h => (put_ne n).trans h
  walk_at "PLYa U1"
  · exact w_fz (hq 0 _ (by omega) (by omega) (Upd.put e0))
  · exact w_fz (hq 0 _ (by omega) (by omega) (Upd.put e0))
  · exact w_fz (hq _ _ (Int.emod_nonneg _ (by omega)) (Int.emod_lt_of_pos _ (by omega)) (Upd.put e1))
  · exact w_fz (hq _ _ (Int.emod_nonneg _ (by omega)) (Int.emod_lt_of_pos _ (by omega)) (Upd.put e0))
  · exact w_fz (hq _ _ (Int.emod_nonneg _ (by omega)) (Int.emod_lt_of_pos _ (by omega)) (Upd.put e0))
local macro_rules | `(tactic| walk_at "PLYa V2") => `(tactic| (repeat' first | with_reducible refine w_seq ?_ | with_reducible refine w_sui ?_ | with_reducible refine w_next ?_ | with_reducible refine w_brk ?_ | with_reducible refine w_cont ?_ | with_reducible refine w_ret ?_ | with_reducible refine w_retN ?_ | with_reducible refine w_drop ?_ | with_reducible refine w_if ?_ | with_reducible refine w_asg ?_ | with_reducible refine w_par ?_ | with_reducible refine w_setA ?_ | with_reducible refine w_raise ?_ | with_reducible refine w_for ?_ | with_reducible refine w_iSeq ?_ | with_reducible refine w_iR1 ?_ | with_reducible refine w_iR2 ?_ | with_reducible refine w_iVals ?_ | with_reducible refine w_itLst ?_ | with_reducible refine w_itTup ?_ | with_reducible refine w_itStr ?_ | with_reducible refine w_tgName ?_ | with_reducible refine w_tgIx ?_ | with_reducible refine w_tgCons ?_ | with_reducible refine w_tgNil ?_ | with_reducible refine w_un ?_ | with_reducible refine w_op ?_ | with_reducible refine w_B ?_ | with_reducible refine w_tru ?_ | with_reducible refine w_and ?_ | with_reducible refine w_or ?_ | with_reducible refine w_not ?_ | with_reducible refine w_andV ?_ | with_reducible refine w_orV ?_ | with_reducible refine w_notV ?_ | with_reducible refine w_ifE ?_ | with_reducible refine w_nil ?_ | with_reducible refine w_cons ?_ | with_reducible refine w_tup ?_ | with_reducible refine w_lst ?_ | with_reducible refine w_cb ?_ | with_reducible refine w_call ?_ | with_reducible refine w_slice ?_ | with_reducible refine w_oNone ?_ | with_reducible refine w_onBl ?_ | with_reducible refine w_onTruB ?_ | with_reducible refine w_kT ?_ | with_reducible refine w_kF ?_ | with_reducible refine w_fAdd ?_ | with_reducible refine w_fSub ?_ | with_reducible refine w_fNeg ?_ | with_reducible refine w_fLt ?_ | with_reducible refine w_fLe ?_ | with_reducible refine w_fGt ?_ | with_reducible refine w_fGe ?_ | with_reducible refine w_fEqI ?_ | with_reducible refine w_fNeI ?_ | with_reducible refine w_fEqB ?_ | with_reducible refine w_fEqS ?_ | with_reducible refine w_fInt ?_ | with_reducible refine w_fIntB ?_ | with_reducible refine w_fAbs ?_ | with_reducible refine w_fMax ?_ | with_reducible refine w_fMin ?_ | with_reducible refine w_fGcd ?_ | with_reducible refine w_fLenL ?_ | with_reducible refine w_fLenT ?_ | with_reducible refine w_own ?_ | with_reducible refine w_ownI ?_ | with_reducible refine w_eqOwnI ?_ | with_reducible refine w_c ?_ | with_reducible refine w_make ?_ | with_reducible refine w_makeK ?_ | with_reducible refine w_par2 ?_ | with_reducible refine w_slLst ?_ | with_reducible refine w_p10_6 ?_ | with_reducible refine w_p10_8 ?_ | with_reducible refine w_p10_18 ?_ | with_reducible refine w_p10_30 ?_ | with_reducible refine w_p10_51 ?_ | with_reducible refine w_p10_59 ?_ | with_reducible refine w_p10_60 ?_ | with_reducible refine w_p2_63 ?_ | with_reducible refine w_p2_64 ?_ | with_reducible refine w_comp ?_ | with_reducible refine w_meth ?_ | with_reducible refine w_app ?_ | with_reducible refine w_tupOf ?_ | with_reducible refine w_tupL ?_ | with_reducible refine w_tupT ?_ | with_reducible refine w_sm ?_ | with_reducible refine w_sm0 ?_ | with_reducible refine w_isStr ?_ | with_reducible refine w_find ?_ | with_reducible refine w_starts ?_ | with_reducible refine w_isascii ?_ | with_reducible refine w_isdigit ?_ | with_reducible refine w_str1S ?_ | with_reducible refine w_strO ?_ | with_reducible refine w_fmt ?_ | with_reducible refine w_join ?_ | with_reducible refine w_jsNil ?_ | with_reducible refine w_jsCons ?_ | with_reducible refine w_inS ?_ | with_reducible refine w_notInS ?_ | with_reducible refine w_statI ?_ | with_reducible refine w_fNeS ?_ | with_reducible refine w_yes ?_ | with_reducible refine w_get2 ?_ | with_reducible refine w_get1 ?_ | with_reducible refine w_prop ?_ | with_reducible refine w_put1 ?_ | with_reducible refine w_list1L ?_ | with_reducible refine w_list1T ?_ | with_reducible refine w_fIsN ?_ | with_reducible refine w_retL ?_ | with_reducible refine w_valsT ?_ | with_reducible refine w_valsK ?_ | ((with_reducible apply w_var); exact rfl) | ((with_reducible apply w_isE); exact rfl) | ((with_reducible apply w_onTru); exact rfl) | ((with_reducible apply w_tgTup); exact rfl) | ((with_reducible refine w_fPow ?_ ?_); exact ⟨by decide, by decide, by decide⟩) | (with_reducible refine w_fMod (by decide) ?_) | ((with_reducible apply w_fIxT); exact rfl) | ((with_reducible apply w_fIxL); exact rfl) | (with_reducible refine w_oSome ?_) | ((with_reducible apply w_fIxC); (first | with_reducible exact put_same | assumption); exact rfl) | ((with_reducible apply w_fLenC); (first | with_reducible exact put_same | assumption)) | ((with_reducible apply w_setL); (first | with_reducible exact put_same | assumption); exact rfl) | (with_reducible refine w_fLenS (by omega) ?_) | (with_reducible refine w_slStr (by omega) ?_) | (with_reducible refine w_fAddS (by omega) ?_) | (with_reducible refine w_remPre (by omega) ?_) | (with_reducible refine w_fmtS (by omega) ?_) | ((with_reducible apply w_itC); (first | with_reducible exact put_same | assumption)) | ((with_reducible apply w_list1C); (first | with_reducible exact put_same | assumption)) | ((with_reducible apply w_tupC); (first | with_reducible exact put_same | assumption)) | ((with_reducible apply w_slC); (first | with_reducible exact put_same | assumption)) | ((with_reducible apply w_isTc); (first | with_reducible exact put_same | assumption)) | (with_reducible refine w_fMul (mulR (by decide)) ?_) | (with_reducible refine w_fMul (mulL (by omega)) ?_) | (with_reducible refine w_fMul (mulR (by omega)) ?_) | (with_reducible refine w_fDiv (dv30 (by omega) (by omega)) ?_) | (with_reducible refine w_fMod (by omega) ?_) | ((with_reducible refine And.intro (a := List.length _ ≤ sizeLine) ?_ ?_); exact Nat.le_of_ble_eq_true rfl) | (with_reducible refine And.intro (a := List.length _ = _) rfl ?_) | (with_reducible refine w_fld ?_) | (with_reducible refine w_isT ?_) | (with_reducible refine w_isO ?_) | ((with_reducible refine Exists.intro ?_ (And.intro (a := fldD _ _ _ _ = _) ?_ ?_)); rotate_left; first | exact rfl) | ((with_reducible refine Exists.intro ?_ (And.intro (a := isT _ _ _ = _) ?_ ?_)); rotate_left; exact rfl) | ((with_reducible refine Exists.intro ?_ (And.intro (a := isO _ _ _ = _) ?_ ?_)); rotate_left; exact rfl) | ((with_reducible refine Exists.intro ?_ (And.intro (a := D.int _ = D.int _) ?_ ?_)); rotate_left; exact rfl) | ((with_reducible refine w_kT' (k := T3.isInt _) ?_ ?_); exact rfl) | ((with_reducible refine w_kT' (k := !T3.isInt _) ?_ ?_); exact rfl) | ((with_reducible refine w_kF' (k := T3.isInt _) ?_ ?_); exact rfl) | ((with_reducible refine w_kF' (k := !T3.isInt _) ?_ ?_); exact rfl) | ((with_reducible refine w_kT' (k := T3.isBl _) ?_ ?_); exact rfl) | ((with_reducible refine w_kT' (k := !T3.isBl _) ?_ ?_); exact rfl) | ((with_reducible refine w_kF' (k := T3.isBl _) ?_ ?_); exact rfl) | ((with_reducible refine w_kF' (k := !T3.isBl _) ?_ ?_); exact rfl) | ((with_reducible refine w_kT' (k := T3.isStr _) ?_ ?_); exact rfl) | ((with_reducible refine w_kT' (k := !T3.isStr _) ?_ ?_); exact rfl) | ((with_reducible refine w_kF' (k := T3.isStr _) ?_ ?_); exact rfl) | ((with_reducible refine w_kF' (k := !T3.isStr _) ?_ ?_); exact rfl) | ((with_reducible refine w_kT' (k := T3.isTup _) ?_ ?_); exact rfl) | ((with_reducible refine w_kT' (k := !T3.isTup _) ?_ ?_); exact rfl) | ((with_reducible refine w_kF' (k := T3.isTup _) ?_ ?_); exact rfl) | ((with_reducible refine w_kF' (k := !T3.isTup _) ?_ ?_); exact rfl) | ((with_reducible refine w_kT' (k := T3.isLst _) ?_ ?_); exact rfl) | ((with_reducible refine w_kT' (k := !T3.isLst _) ?_ ?_); exact rfl) | ((with_reducible refine w_kF' (k := T3.isLst _) ?_ ?_); exact rfl) | ((with_reducible refine w_kF' (k := !T3.isLst _) ?_ ?_); exact rfl) | ((with_reducible refine And.intro (a := insD _ _ _ _) ?_ ?_); (first | exact ⟨rfl, rfl⟩)) | ((with_reducible refine w_kT' (k := isNonD _ != _) ?_ ?_); exact rfl) | ((with_reducible refine w_kF' (k := isNonD _ != _) ?_ ?_); exact rfl) | (with_reducible refine w_kF' (k := !true) rfl ?_) | (with_reducible refine w_kT' (k := !false) rfl ?_) | ((with_reducible refine w_kT' (k := decide _) ?_ ?_); decide +kernel) | ((with_reducible refine w_kF' (k := decide _) ?_ ?_); decide +kernel)))
theorem b_law_stirred : BodyOk ["script", "at", "pool", "cell"] 2 sp_law_stirred m_law_stirred := by
  rintro ds O Z P hl ⟨ns, i, rfl, hq⟩
  show m_law_stirred (En.mk _ _ _ _ _) [some (.lst (ns.map D.int)), some (.int i), none, none] O
  unfold m_law_stirred
  walk_at "PLYa W0"
  refine ⟨ns, i, rfl, fun p a b c k hp => ?_⟩
  walk_at "PLYa W0"
  refine w_forInv (fun Γ O' => ∃ a b c k z, Γ = [some (.lst (ns.map D.int)), some (.int i), some (.cell p), z] ∧ O' = put O p (poolD a b c k)) (fun _ _ _ => rfl) _ ?_ ?_ _ _ ⟨a, b, c, k, none, rfl, rfl⟩
  · rintro x hx K hK Γ O' ⟨a, b, c, k, z, rfl, rfl⟩
    obtain ⟨y, rfl⟩ : ∃ y, x = .int y := by
      have := List.mem_of_mem_drop (List.mem_of_mem_take hx)
      obtain ⟨y, _, e⟩ := List.mem_map.mp this
      exact ⟨y, e.symm⟩
    unfold poolD
    walk_at "PLYa V2"
    exact hK _ _ ⟨_, _, _, _, _, rfl, put_put⟩
  · rintro Γ O' ⟨a, b, c, k, z, rfl, rfl⟩
    walk_at "PLYa W0"
    exact w_fz (hq p a b c k hp)
theorem b_law_same (n : Nat) : BodyOk ["told", "due", "k"] 2 (sp_law_same (n + 1)) (m_law_same (sp_law_same n)) := by
  rintro ds O Z P hl ⟨t, u, rfl, hs, hq⟩
  show m_law_same (sp_law_same n) (En.mk _ _ _ _ _) [some t, some u, none] O
  unfold m_law_same
  have big := big_line
  rcases hs with ⟨rfl, ⟨i, rfl⟩ | ⟨z, rfl⟩ | ⟨b, rfl⟩ | rfl⟩ | ⟨ts, us, hk, hlen, hmax, hit⟩
  · walk_at "PLYa W0"
    refine .inl ⟨i, rfl, ?_⟩
    walk_at "PLYa W0"
    have e : decide (i = i) = true := by simp
    rw [e]
    exact w_fz hq
  · walk_at "PLYa W0"
    have e : decide (z = z) = true := by simp
    rw [e]
    exact w_fz hq
  · walk_at "PLYa W0"
    have e : decide (b = b) = true := by simp
    rw [e]
    exact w_fz hq
  · walk_at "PLYa W0"
    exact w_fz hq
  · have ixs : ∀ (ds : List D) (i : Nat), i < ds.length → ∃ d, ds[i]? = some d ∧ atI ds (i : Int) = some d := by
      intro ds i hi
      obtain ⟨x, _, a, b⟩ := atI_ex (l := ds) (i := (i : Int)) (by omega) (by omega)
      exact ⟨x, by simpa using a, b⟩
    have eb : (!decide ((ts.length : Int) = (us.length : Int))) = false := by rw [hlen]; simp
    rcases hk with ⟨rfl, rfl⟩ | ⟨ht, hu⟩
    · walk_at "PLYa W0"
      refine w_kF' eb ?_
      walk_at "PLYa W0"
      refine w_rng1 (by omega) ?_
      rw [Int.toNat_natCast]
      refine w_forN (fun m lo Γ O' => ∃ (i : Nat) (k : Option D), lo = (i : Int) ∧ i + m = us.length ∧ Γ = [some (.tup ts), some (.tup us), k] ∧ O' = O) (fun _ _ _ _ _ => trivial) ?_ ?_ _ _ _ _ ⟨0, none, rfl, by omega, rfl, rfl⟩
      · rintro m lo K hK Γ O' ⟨i, k, rfl, hi, rfl, rfl⟩
        obtain ⟨a, a1, a2⟩ := ixs ts i (by omega)
        obtain ⟨b, b1, b2⟩ := ixs us i (by omega)
        walk_at "PLYa W0"
        refine w_fIxT a2 ?_
        walk_at "PLYa W0"
        refine w_fIxT b2 ?_
        walk_at "PLYa W0"
        refine ⟨a, b, rfl, hit i a b a1 b1, ?_⟩
        walk_at "PLYa W0"
        exact hK _ _ ⟨i + 1, _, by omega, by omega, rfl, rfl⟩
      · rintro lo Γ O' ⟨i, k, rfl, hi, rfl, rfl⟩
        walk_at "PLYa W0"
        exact w_fz hq
    · rcases ht with rfl | ⟨p, rfl, hp⟩ <;> rcases hu with rfl | ⟨q, rfl, hq'⟩
      all_goals
        walk_at "PLYa W0"
        refine w_kF' eb ?_
        walk_at "PLYa W0"
        refine w_rng1 (by omega) ?_
        rw [Int.toNat_natCast]
      · refine w_forN (fun m lo Γ O' => ∃ (i : Nat) (k : Option D), lo = (i : Int) ∧ i + m = us.length ∧ Γ = [some (.lst ts), some (.lst us), k] ∧ O' = O) (fun _ _ _ _ _ => trivial) ?_ ?_ _ _ _ _ ⟨0, none, rfl, by omega, rfl, rfl⟩
        · rintro m lo K hK Γ O' ⟨i, k, rfl, hi, rfl, rfl⟩
          obtain ⟨a, a1, a2⟩ := ixs ts i (by omega)
          obtain ⟨b, b1, b2⟩ := ixs us i (by omega)
          walk_at "PLYa W0"
          refine w_fIxL a2 ?_
          walk_at "PLYa W0"
          refine w_fIxL b2 ?_
          walk_at "PLYa W0"
          refine ⟨a, b, rfl, hit i a b a1 b1, ?_⟩
          walk_at "PLYa W0"
          exact hK _ _ ⟨i + 1, _, by omega, by omega, rfl, rfl⟩
        · rintro lo Γ O' ⟨i, k, rfl, hi, rfl, rfl⟩
          walk_at "PLYa W0"
          exact w_fz hq
      · refine w_forN (fun m lo Γ O' => ∃ (i : Nat) (k : Option D), lo = (i : Int) ∧ i + m = us.length ∧ Γ = [some (.lst ts), some (.cell q), k] ∧ O' = O) (fun _ _ _ _ _ => trivial) ?_ ?_ _ _ _ _ ⟨0, none, rfl, by omega, rfl, rfl⟩
        · rintro m lo K hK Γ O' ⟨i, k, rfl, hi, rfl, rfl⟩
          obtain ⟨a, a1, a2⟩ := ixs ts i (by omega)
          obtain ⟨b, b1, b2⟩ := ixs us i (by omega)
          walk_at "PLYa W0"
          refine w_fIxL a2 ?_
          walk_at "PLYa W0"
          refine w_fIxC hq' b2 ?_
          walk_at "PLYa W0"
          refine ⟨a, b, rfl, hit i a b a1 b1, ?_⟩
          walk_at "PLYa W0"
          exact hK _ _ ⟨i + 1, _, by omega, by omega, rfl, rfl⟩
        · rintro lo Γ O' ⟨i, k, rfl, hi, rfl, rfl⟩
          walk_at "PLYa W0"
          exact w_fz hq
      · refine w_forN (fun m lo Γ O' => ∃ (i : Nat) (k : Option D), lo = (i : Int) ∧ i + m = us.length ∧ Γ = [some (.cell p), some (.lst us), k] ∧ O' = O) (fun _ _ _ _ _ => trivial) ?_ ?_ _ _ _ _ ⟨0, none, rfl, by omega, rfl, rfl⟩
        · rintro m lo K hK Γ O' ⟨i, k, rfl, hi, rfl, rfl⟩
          obtain ⟨a, a1, a2⟩ := ixs ts i (by omega)
          obtain ⟨b, b1, b2⟩ := ixs us i (by omega)
          walk_at "PLYa W0"
          refine w_fIxC hp a2 ?_
          walk_at "PLYa W0"
          refine w_fIxL b2 ?_
          walk_at "PLYa W0"
          refine ⟨a, b, rfl, hit i a b a1 b1, ?_⟩
          walk_at "PLYa W0"
          exact hK _ _ ⟨i + 1, _, by omega, by omega, rfl, rfl⟩
        · rintro lo Γ O' ⟨i, k, rfl, hi, rfl, rfl⟩
          walk_at "PLYa W0"
          exact w_fz hq
      · refine w_forN (fun m lo Γ O' => ∃ (i : Nat) (k : Option D), lo = (i : Int) ∧ i + m = us.length ∧ Γ = [some (.cell p), some (.cell q), k] ∧ O' = O) (fun _ _ _ _ _ => trivial) ?_ ?_ _ _ _ _ ⟨0, none, rfl, by omega, rfl, rfl⟩
        · rintro m lo K hK Γ O' ⟨i, k, rfl, hi, rfl, rfl⟩
          obtain ⟨a, a1, a2⟩ := ixs ts i (by omega)
          obtain ⟨b, b1, b2⟩ := ixs us i (by omega)
          walk_at "PLYa W0"
          refine w_fIxC hp a2 ?_
          walk_at "PLYa W0"
          refine w_fIxC hq' b2 ?_
          walk_at "PLYa W0"
          refine ⟨a, b, rfl, hit i a b a1 b1, ?_⟩
          walk_at "PLYa W0"
          exact hK _ _ ⟨i + 1, _, by omega, by omega, rfl, rfl⟩
        · rintro lo Γ O' ⟨i, k, rfl, hi, rfl, rfl⟩
          walk_at "PLYa W0"
          exact w_fz hq
end LY

namespace LY
open PySem L2 L3
theorem in_low (c : Nat) : decide (c ∈ cs ("abcdefghijklmnopqrstuvwxyz" : Str)) = lowC c := by
  unfold lowC
  apply decide_eq_decide.mpr
  have e : cs ("abcdefghijklmnopqrstuvwxyz" : Str) = (List.range 26).map (· + 97) := by decide +kernel
  rw [e]
  simp only [List.mem_map, List.mem_range]
  constructor
  · rintro ⟨a, h, rfl⟩; omega
  · intro h; exact ⟨c - 97, by omega, by omega⟩
theorem in_dig (c : Nat) : decide (c ∈ cs ("0123456789" : Str)) = digC c := by
  unfold digC
  apply decide_eq_decide.mpr
  have e : cs ("0123456789" : Str) = (List.range 10).map (· + 48) := by decide +kernel
  rw [e]
  simp only [List.mem_map, List.mem_range]
  constructor
  · rintro ⟨a, h, rfl⟩; omega
  · intro h; exact ⟨c - 48, by omega, by omega⟩
theorem occ_low (c : Nat) : occS ⟨#[c]⟩ "abcdefghijklmnopqrstuvwxyz" = lowC c := by rw [occ_sign]; exact in_low c
theorem occ_dig (c : Nat) : occS ⟨#[c]⟩ "0123456789" = digC c := by rw [occ_sign]; exact in_dig c
/-- a walk over the signs -/
theorem atI_zero {α : Type} {c : α} {r : List α} : atI (c :: r) 0 = some c := by
  unfold atI
  have e : ixN (c :: r).length 0 = some 0 := by
    unfold ixN
    rw [if_pos (by omega), if_pos (by simp)]
    rfl
  rw [e]
  rfl
local macro_rules | `(tactic| walk_at "PLYb V0") => `(tactic| (repeat' first | with_reducible refine w_seq ?_ | with_reducible refine w_sui ?_ | with_reducible refine w_next ?_ | with_reducible refine w_brk ?_ | with_reducible refine w_cont ?_ | with_reducible refine w_ret ?_ | with_reducible refine w_retN ?_ | with_reducible refine w_drop ?_ | with_reducible refine w_if ?_ | with_reducible refine w_asg ?_ | with_reducible refine w_par ?_ | with_reducible refine w_setA ?_ | with_reducible refine w_raise ?_ | with_reducible refine w_for ?_ | with_reducible refine w_iSeq ?_ | with_reducible refine w_iR1 ?_ | with_reducible refine w_iR2 ?_ | with_reducible refine w_iVals ?_ | with_reducible refine w_itLst ?_ | with_reducible refine w_itTup ?_ | with_reducible refine w_itStr ?_ | with_reducible refine w_tgName ?_ | with_reducible refine w_tgIx ?_ | with_reducible refine w_tgCons ?_ | with_reducible refine w_tgNil ?_ | with_reducible refine w_un ?_ | with_reducible refine w_op ?_ | with_reducible refine w_B ?_ | with_reducible refine w_tru ?_ | with_reducible refine w_and ?_ | with_reducible refine w_or ?_ | with_reducible refine w_not ?_ | with_reducible refine w_andV ?_ | with_reducible refine w_orV ?_ | with_reducible refine w_notV ?_ | with_reducible refine w_ifE ?_ | with_reducible refine w_nil ?_ | with_reducible refine w_cons ?_ | with_reducible refine w_tup ?_ | with_reducible refine w_lst ?_ | with_reducible refine w_cb ?_ | with_reducible refine w_call ?_ | with_reducible refine w_slice ?_ | with_reducible refine w_oNone ?_ | with_reducible refine w_onBl ?_ | with_reducible refine w_onTruB ?_ | with_reducible refine w_kT ?_ | with_reducible refine w_kF ?_ | with_reducible refine w_fAdd ?_ | with_reducible refine w_fSub ?_ | with_reducible refine w_fNeg ?_ | with_reducible refine w_fLt ?_ | with_reducible refine w_fLe ?_ | with_reducible refine w_fGt ?_ | with_reducible refine w_fGe ?_ | with_reducible refine w_fEqI ?_ | with_reducible refine w_fNeI ?_ | with_reducible refine w_fEqB ?_ | with_reducible refine w_fEqS ?_ | with_reducible refine w_fInt ?_ | with_reducible refine w_fIntB ?_ | with_reducible refine w_fAbs ?_ | with_reducible refine w_fMax ?_ | with_reducible refine w_fMin ?_ | with_reducible refine w_fGcd ?_ | with_reducible refine w_fLenL ?_ | with_reducible refine w_fLenT ?_ | with_reducible refine w_own ?_ | with_reducible refine w_ownI ?_ | with_reducible refine w_eqOwnI ?_ | with_reducible refine w_c ?_ | with_reducible refine w_make ?_ | with_reducible refine w_makeK ?_ | with_reducible refine w_par2 ?_ | with_reducible refine w_slLst ?_ | with_reducible refine w_p10_6 ?_ | with_reducible refine w_p10_8 ?_ | with_reducible refine w_p10_18 ?_ | with_reducible refine w_p10_30 ?_ | with_reducible refine w_p10_51 ?_ | with_reducible refine w_p10_59 ?_ | with_reducible refine w_p10_60 ?_ | with_reducible refine w_p2_63 ?_ | with_reducible refine w_p2_64 ?_ | with_reducible refine w_comp ?_ | with_reducible refine w_meth ?_ | with_reducible refine w_app ?_ | with_reducible refine w_tupOf ?_ | with_reducible refine w_tupL ?_ | with_reducible refine w_tupT ?_ | with_reducible refine w_sm ?_ | with_reducible refine w_sm0 ?_ | with_reducible refine w_isStr ?_ | with_reducible refine w_find ?_ | with_reducible refine w_starts ?_ | with_reducible refine w_isascii ?_ | with_reducible refine w_isdigit ?_ | with_reducible refine w_str1S ?_ | with_reducible refine w_strO ?_ | with_reducible refine w_fmt ?_ | with_reducible refine w_join ?_ | with_reducible refine w_jsNil ?_ | with_reducible refine w_jsCons ?_ | with_reducible refine w_inS ?_ | with_reducible refine w_notInS ?_ | with_reducible refine w_statI ?_ | with_reducible refine w_fNeS ?_ | with_reducible refine w_yes ?_ | with_reducible refine w_get2 ?_ | with_reducible refine w_get1 ?_ | with_reducible refine w_prop ?_ | with_reducible refine w_put1 ?_ | with_reducible refine w_list1L ?_ | with_reducible refine w_list1T ?_ | with_reducible refine w_fIsN ?_ | with_reducible refine w_retL ?_ | with_reducible refine w_valsT ?_ | with_reducible refine w_valsK ?_ | with_reducible refine w_chain ?_ | ((with_reducible apply w_var); exact rfl) | ((with_reducible apply w_isE); exact rfl) | ((with_reducible apply w_onTru); exact rfl) | ((with_reducible apply w_tgTup); exact rfl) | ((with_reducible refine w_fPow ?_ ?_); exact ⟨by decide, by decide, by decide⟩) | (with_reducible refine w_fMod (by decide) ?_) | ((with_reducible apply w_fIxT); exact rfl) | ((with_reducible apply w_fIxL); exact rfl) | (with_reducible refine w_oSome ?_) | ((with_reducible apply w_fIxC); (first | with_reducible exact put_same | assumption); exact rfl) | ((with_reducible apply w_fLenC); (first | with_reducible exact put_same | assumption)) | ((with_reducible apply w_setL); (first | with_reducible exact put_same | assumption); exact rfl) | (with_reducible refine w_fLenS (by omega) ?_) | (with_reducible refine w_slStr (by omega) ?_) | (with_reducible refine w_fAddS (by omega) ?_) | (with_reducible refine w_remPre (by omega) ?_) | (with_reducible refine w_fmtS (by omega) ?_) | ((with_reducible apply w_itC); (first | with_reducible exact put_same | assumption)) | ((with_reducible apply w_list1C); (first | with_reducible exact put_same | assumption)) | ((with_reducible apply w_tupC); (first | with_reducible exact put_same | assumption)) | ((with_reducible apply w_slC); (first | with_reducible exact put_same | assumption)) | ((with_reducible apply w_isTc); (first | with_reducible exact put_same | assumption)) | (with_reducible refine w_fMul (mulR (by decide)) ?_) | (with_reducible refine w_fMul (mulL (by omega)) ?_) | (with_reducible refine w_fMul (mulR (by omega)) ?_) | (with_reducible refine w_fDiv (dv30 (by omega) (by omega)) ?_) | (with_reducible refine w_fMod (by omega) ?_) | ((with_reducible refine And.intro (a := List.length _ ≤ sizeLine) ?_ ?_); exact Nat.le_of_ble_eq_true rfl) | (with_reducible refine And.intro (a := List.length _ = _) rfl ?_) | (with_reducible refine w_fld ?_) | (with_reducible refine w_isT ?_) | (with_reducible refine w_isO ?_) | ((with_reducible refine Exists.intro ?_ (And.intro (a := fldD _ _ _ _ = _) ?_ ?_)); rotate_left; first | exact rfl) | ((with_reducible refine Exists.intro ?_ (And.intro (a := isT _ _ _ = _) ?_ ?_)); rotate_left; exact rfl) | ((with_reducible refine Exists.intro ?_ (And.intro (a := isO _ _ _ = _) ?_ ?_)); rotate_left; exact rfl) | ((with_reducible refine Exists.intro ?_ (And.intro (a := D.int _ = D.int _) ?_ ?_)); rotate_left; exact rfl) | ((with_reducible refine w_kT' (k := T3.isInt _) ?_ ?_); exact rfl) | ((with_reducible refine w_kT' (k := !T3.isInt _) ?_ ?_); exact rfl) | ((with_reducible refine w_kF' (k := T3.isInt _) ?_ ?_); exact rfl) | ((with_reducible refine w_kF' (k := !T3.isInt _) ?_ ?_); exact rfl) | ((with_reducible refine w_kT' (k := T3.isBl _) ?_ ?_); exact rfl) | ((with_reducible refine w_kT' (k := !T3.isBl _) ?_ ?_); exact rfl) | ((with_reducible refine w_kF' (k := T3.isBl _) ?_ ?_); exact rfl) | ((with_reducible refine w_kF' (k := !T3.isBl _) ?_ ?_); exact rfl) | ((with_reducible refine w_kT' (k := T3.isStr _) ?_ ?_); exact rfl) | ((with_reducible refine w_kT' (k := !T3.isStr _) ?_ ?_); exact rfl) | ((with_reducible refine w_kF' (k := T3.isStr _) ?_ ?_); exact rfl) | ((with_reducible refine w_kF' (k := !T3.isStr _) ?_ ?_); exact rfl) | ((with_reducible refine w_kT' (k := T3.isTup _) ?_ ?_); exact rfl) | ((with_reducible refine w_kT' (k := !T3.isTup _) ?_ ?_); exact rfl) | ((with_reducible refine w_kF' (k := T3.isTup _) ?_ ?_); exact rfl) | ((with_reducible refine w_kF' (k := !T3.isTup _) ?_ ?_); exact rfl) | ((with_reducible refine w_kT' (k := T3.isLst _) ?_ ?_); exact rfl) | ((with_reducible refine w_kT' (k := !T3.isLst _) ?_ ?_); exact rfl) | ((with_reducible refine w_kF' (k := T3.isLst _) ?_ ?_); exact rfl) | ((with_reducible refine w_kF' (k := !T3.isLst _) ?_ ?_); exact rfl) | ((with_reducible refine And.intro (a := insD _ _ _ _) ?_ ?_); (first | exact ⟨rfl, rfl⟩)) | ((with_reducible refine w_kT' (k := isNonD _ != _) ?_ ?_); exact rfl) | ((with_reducible refine w_kF' (k := isNonD _ != _) ?_ ?_); exact rfl) | (with_reducible refine w_kF' (k := !true) rfl ?_) | (with_reducible refine w_kT' (k := !false) rfl ?_) | ((with_reducible refine w_kT' (k := decide _) ?_ ?_); decide +kernel) | ((with_reducible refine w_kF' (k := decide _) ?_ ?_); decide +kernel)))
local macro_rules | `(tactic| walk_at "PLYb W1") => `(tactic| (repeat' first | with_reducible refine w_seq ?_ | with_reducible refine w_sui ?_ | with_reducible refine w_next ?_ | with_reducible refine w_brk ?_ | with_reducible refine w_cont ?_ | with_reducible refine w_ret ?_ | with_reducible refine w_retN ?_ | with_reducible refine w_drop ?_ | with_reducible refine w_if ?_ | with_reducible refine w_asg ?_ | with_reducible refine w_par ?_ | with_reducible refine w_setA ?_ | with_reducible refine w_raise ?_ | with_reducible refine w_for ?_ | with_reducible refine w_iSeq ?_ | with_reducible refine w_iR1 ?_ | with_reducible refine w_iR2 ?_ | with_reducible refine w_iVals ?_ | with_reducible refine w_itLst ?_ | with_reducible refine w_itTup ?_ | with_reducible refine w_itStr ?_ | with_reducible refine w_tgName ?_ | with_reducible refine w_tgIx ?_ | with_reducible refine w_tgCons ?_ | with_reducible refine w_tgNil ?_ | with_reducible refine w_un ?_ | with_reducible refine w_op ?_ | with_reducible refine w_B ?_ | with_reducible refine w_tru ?_ | with_reducible refine w_and ?_ | with_reducible refine w_or ?_ | with_reducible refine w_not ?_ | with_reducible refine w_andV ?_ | with_reducible refine w_orV ?_ | with_reducible refine w_notV ?_ | with_reducible refine w_ifE ?_ | with_reducible refine w_nil ?_ | with_reducible refine w_cons ?_ | with_reducible refine w_tup ?_ | with_reducible refine w_lst ?_ | with_reducible refine w_cb ?_ | with_reducible refine w_call ?_ | with_reducible refine w_slice ?_ | with_reducible refine w_oNone ?_ | with_reducible refine w_onBl ?_ | with_reducible refine w_onTruB ?_ | with_reducible refine w_kT ?_ | with_reducible refine w_kF ?_ | with_reducible refine w_fAdd ?_ | with_reducible refine w_fSub ?_ | with_reducible refine w_fNeg ?_ | with_reducible refine w_fLt ?_ | with_reducible refine w_fLe ?_ | with_reducible refine w_fGt ?_ | with_reducible refine w_fGe ?_ | with_reducible refine w_fEqI ?_ | with_reducible refine w_fNeI ?_ | with_reducible refine w_fEqB ?_ | with_reducible refine w_fEqS ?_ | with_reducible refine w_fInt ?_ | with_reducible refine w_fIntB ?_ | with_reducible refine w_fAbs ?_ | with_reducible refine w_fMax ?_ | with_reducible refine w_fMin ?_ | with_reducible refine w_fGcd ?_ | with_reducible refine w_fLenL ?_ | with_reducible refine w_fLenT ?_ | with_reducible refine w_own ?_ | with_reducible refine w_ownI ?_ | with_reducible refine w_eqOwnI ?_ | with_reducible refine w_c ?_ | with_reducible refine w_make ?_ | with_reducible refine w_makeK ?_ | with_reducible refine w_par2 ?_ | with_reducible refine w_slLst ?_ | with_reducible refine w_p10_6 ?_ | with_reducible refine w_p10_8 ?_ | with_reducible refine w_p10_18 ?_ | with_reducible refine w_p10_30 ?_ | with_reducible refine w_p10_51 ?_ | with_reducible refine w_p10_59 ?_ | with_reducible refine w_p10_60 ?_ | with_reducible refine w_p2_63 ?_ | with_reducible refine w_p2_64 ?_ | with_reducible refine w_comp ?_ | with_reducible refine w_meth ?_ | with_reducible refine w_app ?_ | with_reducible refine w_tupOf ?_ | with_reducible refine w_tupL ?_ | with_reducible refine w_tupT ?_ | with_reducible refine w_sm ?_ | with_reducible refine w_sm0 ?_ | with_reducible refine w_isStr ?_ | with_reducible refine w_find ?_ | with_reducible refine w_starts ?_ | with_reducible refine w_isascii ?_ | with_reducible refine w_isdigit ?_ | with_reducible refine w_str1S ?_ | with_reducible refine w_strO ?_ | with_reducible refine w_fmt ?_ | with_reducible refine w_join ?_ | with_reducible refine w_jsNil ?_ | with_reducible refine w_jsCons ?_ | with_reducible refine w_inS ?_ | with_reducible refine w_notInS ?_ | with_reducible refine w_statI ?_ | with_reducible refine w_fNeS ?_ | with_reducible refine w_yes ?_ | with_reducible refine w_get2 ?_ | with_reducible refine w_get1 ?_ | with_reducible refine w_prop ?_ | with_reducible refine w_put1 ?_ | with_reducible refine w_list1L ?_ | with_reducible refine w_list1T ?_ | with_reducible refine w_fIsN ?_ | with_reducible refine w_retL ?_ | with_reducible refine w_valsT ?_ | with_reducible refine w_valsK ?_ | with_reducible refine w_chain ?_ | ((with_reducible apply w_var); exact rfl) | ((with_reducible apply w_isE); exact rfl) | ((with_reducible apply w_onTru); exact rfl) | ((with_reducible apply w_tgTup); exact rfl) | ((with_reducible refine w_fPow ?_ ?_); exact ⟨by decide, by decide, by decide⟩) | (with_reducible refine w_fMod (by decide) ?_) | ((with_reducible apply w_fIxT); exact rfl) | ((with_reducible apply w_fIxL); exact rfl) | (with_reducible refine w_oSome ?_) | ((with_reducible apply w_fIxC); (first | with_reducible exact put_same | assumption); exact rfl) | ((with_reducible apply w_fLenC); (first | with_reducible exact put_same | assumption)) | ((with_reducible apply w_setL); (first | with_reducible exact put_same | assumption); exact rfl) | ((with_reducible apply w_itC); (first | with_reducible exact put_same | assumption)) | ((with_reducible apply w_list1C); (first | with_reducible exact put_same | assumption)) | ((with_reducible apply w_tupC); (first | with_reducible exact put_same | assumption)) | ((with_reducible apply w_slC); (first | with_reducible exact put_same | assumption)) | ((with_reducible apply w_isTc); (first | with_reducible exact put_same | assumption)) | ((with_reducible refine And.intro (a := List.length _ ≤ sizeLine) ?_ ?_); exact Nat.le_of_ble_eq_true rfl) | (with_reducible refine And.intro (a := List.length _ = _) rfl ?_) | (with_reducible refine w_fld ?_) | (with_reducible refine w_isT ?_) | (with_reducible refine w_isO ?_) | ((with_reducible refine Exists.intro ?_ (And.intro (a := fldD _ _ _ _ = _) ?_ ?_)); rotate_left; first | exact rfl) | ((with_reducible refine Exists.intro ?_ (And.intro (a := isT _ _ _ = _) ?_ ?_)); rotate_left; exact rfl) | ((with_reducible refine Exists.intro ?_ (And.intro (a := isO _ _ _ = _) ?_ ?_)); rotate_left; exact rfl) | ((with_reducible refine Exists.intro ?_ (And.intro (a := D.int _ = D.int _) ?_ ?_)); rotate_left; exact rfl) | ((with_reducible refine w_kT' (k := T3.isInt _) ?_ ?_); exact rfl) | ((with_reducible refine w_kT' (k := !T3.isInt _) ?_ ?_); exact rfl) | ((with_reducible refine w_kF' (k := T3.isInt _) ?_ ?_); exact rfl) | ((with_reducible refine w_kF' (k := !T3.isInt _) ?_ ?_); exact rfl) | ((with_reducible refine w_kT' (k := T3.isBl _) ?_ ?_); exact rfl) | ((with_reducible refine w_kT' (k := !T3.isBl _) ?_ ?_); exact rfl) | ((with_reducible refine w_kF' (k := T3.isBl _) ?_ ?_); exact rfl) | ((with_reducible refine w_kF' (k := !T3.isBl _) ?_ ?_); exact rfl) | ((with_reducible refine w_kT' (k := T3.isStr _) ?_ ?_); exact rfl) | ((with_reducible refine w_kT' (k := !T3.isStr _) ?_ ?_); exact rfl) | ((with_reducible refine w_kF' (k := T3.isStr _) ?_ ?_); exact rfl) | ((with_reducible refine w_kF' (k := !T3.isStr _) ?_ ?_); exact rfl) | ((with_reducible refine w_kT' (k := T3.isTup _) ?_ ?_); exact rfl) | ((with_reducible refine w_kT' (k := !T3.isTup _) ?_ ?_); exact rfl) | ((with_reducible refine w_kF' (k := T3.isTup _) ?_ ?_); exact rfl) | ((with_reducible refine w_kF' (k := !T3.isTup _) ?_ ?_); exact rfl) | ((with_reducible refine w_kT' (k := T3.isLst _) ?_ ?_); exact rfl) | ((with_reducible refine w_kT' (k := !T3.isLst _) ?_ ?_); exact rfl) | ((with_reducible refine w_kF' (k := T3.isLst _) ?_ ?_); exact rfl) | ((with_reducible refine w_kF' (k := !T3.isLst _) ?_ ?_); exact rfl) | ((with_reducible refine And.intro (a := insD _ _ _ _) ?_ ?_); (first | exact ⟨rfl, rfl⟩)) | ((with_reducible refine w_kT' (k := isNonD _ != _) ?_ ?_); exact rfl) | ((with_reducible refine w_kF' (k := isNonD _ != _) ?_ ?_); exact rfl) | (with_reducible refine w_kF' (k := !true) rfl ?_) | (with_reducible refine w_kT' (k := !false) rfl ?_) | ((with_reducible refine w_kT' (k := decide _) ?_ ?_); decide +kernel) | ((with_reducible refine w_kF' (k := decide _) ?_ ?_); decide +kernel)))
theorem b_is_name : BodyOk ["word", "character"] 1 sp_is_name m_is_name := by
  rintro ds O Z P hl ⟨z, rfl, hz, hq⟩
  show m_is_name (En.mk _ _ _ _ _) [some (.str z), none] O
  unfold m_is_name
  have big := big_line
  have hlen := len_cs z
  have no : isName z = false → orFz P (.bl false) O := fun h => by rw [h] at hq; exact w_fz hq
  walk_at "PLYb V0"
  have part2 : 1 ≤ z.length → z.length ≤ 20 → (∀ c r, cs z = c :: r → lowC c = true) → (mSeq (mFor (iSeq (mVar 0)) (tgName 1) (mIf (mAnd (mB (mOp (fIn true) (mVar 1) (mC (.str "abcdefghijklmnopqrstuvwxyz")))) (mB (mOp (fIn true) (mVar 1) (mC (.str "0123456789"))))) (mRet (mC (.bl false))) mNext))
    (mRet (mC (.bl true)))) ⟨fun x O' => orFz P D.non O', P, fun x x_1 => False, fun x x_1 => False, fun C fs x O' => Z C fs O'⟩ [some (.str z), none] O := by
    intro h1 h2 h3
    walk_at "PLYb W1"
    refine w_forL (fun c => D.str ⟨#[c]⟩) (fun r Γ O' => ∃ k pre, cs z = pre ++ r ∧ (∀ c ∈ pre, (lowC c || digC c) = true) ∧ Γ = [some (.str z), k] ∧ O' = O) ?_ ?_ ?_ _ _ _ ⟨none, [], rfl, fun c h => (List.not_mem_nil h).elim, rfl, rfl⟩
    · rintro r Γ O' ⟨k, pre, e, hp, rfl, rfl⟩
      rfl
    · rintro c r K hK Γ O' ⟨k, pre, e, hp, rfl, rfl⟩
      walk_at "PLYb W1"
      rw [occ_low]
      refine w_k (fun h => ?_) fun h => ?_
      · walk_at "PLYb W1"
        rw [occ_dig]
        refine w_k (fun h' => ?_) fun h' => ?_
        · walk_at "PLYb W1"
          refine no ?_
          unfold isName nameL
          have : ((cs z).all fun c => lowC c || digC c) = false := by
            rw [e, List.all_append, List.all_cons]
            simp at h h'
            simp [h, h']
          rw [this]
          simp
        · walk_at "PLYb W1"
          refine hK _ _ ⟨_, pre ++ [c], by rw [e]; simp, ?_, rfl, rfl⟩
          intro d hd
          rcases List.mem_append.mp hd with hd | hd
          · exact hp d hd
          · simp at hd h'
            subst hd
            simp [h']
      · walk_at "PLYb W1"
        refine hK _ _ ⟨_, pre ++ [c], by rw [e]; simp, ?_, rfl, rfl⟩
        intro d hd
        rcases List.mem_append.mp hd with hd | hd
        · exact hp d hd
        · simp at hd h
          subst hd
          simp [h]
    · rintro Γ O' ⟨k, pre, e, hp, rfl, rfl⟩
      walk_at "PLYb W1"
      refine w_fz ?_
      have : isName z = true := by
        unfold isName nameL
        rw [List.append_nil] at e
        have h4 : ((cs z).all fun c => lowC c || digC c) = true := by
          rw [e]
          exact List.all_eq_true.mpr hp
        rw [h4, decide_eq_true (by omega : 1 ≤ (cs z).length ∧ (cs z).length ≤ 20)]
        cases hc : cs z with
        | nil => rw [hc] at hlen; simp at hlen; omega
        | cons c r => simp [h3 c r hc]
      rw [this] at hq
      exact hq
  refine w_k (fun h => ?_) fun h => ?_
  · have h1 := of_decide_eq_true h
    walk_at "PLYb V0"
    refine w_k (fun h' => ?_) fun h' => ?_
    · have h2 : ¬ ((z.length : Int) ≤ 20) := by simpa using h'
      walk_at "PLYb W1"
      refine no ?_
      unfold isName nameL
      rw [decide_eq_false (by omega : ¬ (1 ≤ (cs z).length ∧ (cs z).length ≤ 20))]
      rfl
    · have h2 : (z.length : Int) ≤ 20 := by simpa using h'
      walk_at "PLYb W1"
      cases hc : cs z with
      | nil => rw [hc] at hlen; simp at hlen; omega
      | cons c r =>
        refine w_fIxS (c := c) (by omega) ?_ ?_
        · show atI (cs z) 0 = some c
          rw [hc]
          exact atI_zero
        walk_at "PLYb W1"
        rw [occ_low]
        refine w_k (fun h3 => ?_) fun h3 => ?_
        · walk_at "PLYb W1"
          refine no ?_
          unfold isName nameL
          rw [hc]
          simp at h3
          simp [h3]
        · refine part2 (by omega) (by omega) fun c' r' e => ?_
          rw [hc] at e
          cases e
          simpa using h3
  · have h1 := of_decide_eq_false h
    walk_at "PLYb W1"
    refine no ?_
    unfold isName nameL
    rw [decide_eq_false (by omega : ¬ (1 ≤ (cs z).length ∧ (cs z).length ≤ 20))]
    rfl
local macro_rules | `(tactic| walk_at "PLYb U2") => `(tactic| (repeat' first | with_reducible refine w_seq ?_ | with_reducible refine w_sui ?_ | with_reducible refine w_next ?_ | with_reducible refine w_brk ?_ | with_reducible refine w_cont ?_ | with_reducible refine w_ret ?_ | with_reducible refine w_retN ?_ | with_reducible refine w_drop ?_ | with_reducible refine w_if ?_ | with_reducible refine w_asg ?_ | with_reducible refine w_par ?_ | with_reducible refine w_setA ?_ | with_reducible refine w_raise ?_ | with_reducible refine w_for ?_ | with_reducible refine w_iSeq ?_ | with_reducible refine w_iR1 ?_ | with_reducible refine w_iR2 ?_ | with_reducible refine w_iVals ?_ | with_reducible refine w_itLst ?_ | with_reducible refine w_itTup ?_ | with_reducible refine w_itStr ?_ | with_reducible refine w_tgName ?_ | with_reducible refine w_tgIx ?_ | with_reducible refine w_tgCons ?_ | with_reducible refine w_tgNil ?_ | with_reducible refine w_un ?_ | with_reducible refine w_op ?_ | with_reducible refine w_B ?_ | with_reducible refine w_tru ?_ | with_reducible refine w_and ?_ | with_reducible refine w_or ?_ | with_reducible refine w_not ?_ | with_reducible refine w_andV ?_ | with_reducible refine w_orV ?_ | with_reducible refine w_notV ?_ | with_reducible refine w_ifE ?_ | with_reducible refine w_nil ?_ | with_reducible refine w_cons ?_ | with_reducible refine w_tup ?_ | with_reducible refine w_lst ?_ | with_reducible refine w_cb ?_ | with_reducible refine w_call ?_ | with_reducible refine w_slice ?_ | with_reducible refine w_oNone ?_ | with_reducible refine w_onBl ?_ | with_reducible refine w_onTruB ?_ | with_reducible refine w_kT ?_ | with_reducible refine w_kF ?_ | with_reducible refine w_fAdd ?_ | with_reducible refine w_fSub ?_ | with_reducible refine w_fNeg ?_ | with_reducible refine w_fLt ?_ | with_reducible refine w_fLe ?_ | with_reducible refine w_fGt ?_ | with_reducible refine w_fGe ?_ | with_reducible refine w_fEqI ?_ | with_reducible refine w_fNeI ?_ | with_reducible refine w_fEqB ?_ | with_reducible refine w_fEqS ?_ | with_reducible refine w_fInt ?_ | with_reducible refine w_fIntB ?_ | with_reducible refine w_fAbs ?_ | with_reducible refine w_fMax ?_ | with_reducible refine w_fMin ?_ | with_reducible refine w_fGcd ?_ | with_reducible refine w_fLenL ?_ | with_reducible refine w_fLenT ?_ | with_reducible refine w_own ?_ | with_reducible refine w_ownI ?_ | with_reducible refine w_eqOwnI ?_ | with_reducible refine w_c ?_ | with_reducible refine w_make ?_ | with_reducible refine w_makeK ?_ | with_reducible refine w_par2 ?_ | with_reducible refine w_slLst ?_ | with_reducible refine w_p10_6 ?_ | with_reducible refine w_p10_8 ?_ | with_reducible refine w_p10_18 ?_ | with_reducible refine w_p10_30 ?_ | with_reducible refine w_p10_51 ?_ | with_reducible refine w_p10_59 ?_ | with_reducible refine w_p10_60 ?_ | with_reducible refine w_p2_63 ?_ | with_reducible refine w_p2_64 ?_ | with_reducible refine w_comp ?_ | with_reducible refine w_meth ?_ | with_reducible refine w_app ?_ | with_reducible refine w_tupOf ?_ | with_reducible refine w_tupL ?_ | with_reducible refine w_tupT ?_ | with_reducible refine w_sm ?_ | with_reducible refine w_sm0 ?_ | with_reducible refine w_isStr ?_ | with_reducible refine w_find ?_ | with_reducible refine w_starts ?_ | with_reducible refine w_isascii ?_ | with_reducible refine w_isdigit ?_ | with_reducible refine w_str1S ?_ | with_reducible refine w_strO ?_ | with_reducible refine w_fmt ?_ | with_reducible refine w_join ?_ | with_reducible refine w_jsNil ?_ | with_reducible refine w_jsCons ?_ | with_reducible refine w_inS ?_ | with_reducible refine w_notInS ?_ | with_reducible refine w_statI ?_ | with_reducible refine w_fNeS ?_ | with_reducible refine w_yes ?_ | with_reducible refine w_get2 ?_ | with_reducible refine w_get1 ?_ | with_reducible refine w_prop ?_ | with_reducible refine w_put1 ?_ | with_reducible refine w_list1L ?_ | with_reducible refine w_list1T ?_ | with_reducible refine w_fIsN ?_ | with_reducible refine w_retL ?_ | with_reducible refine w_valsT ?_ | with_reducible refine w_valsK ?_ | with_reducible refine w_chain ?_ | ((with_reducible apply w_var); exact rfl) | ((with_reducible apply w_isE); exact rfl) | ((with_reducible apply w_onTru); exact rfl) | ((with_reducible apply w_tgTup); exact rfl) | ((with_reducible refine w_fPow ?_ ?_); exact ⟨by decide, by decide, by decide⟩) | (with_reducible refine w_fMod (by decide) ?_) | ((with_reducible apply w_fIxT); exact rfl) | ((with_reducible apply w_fIxL); exact rfl) | (with_reducible refine w_oSome ?_) | ((with_reducible apply w_fIxC); (first | with_reducible exact put_same | assumption); exact rfl) | ((with_reducible apply w_fLenC); (first | with_reducible exact put_same | assumption)) | ((with_reducible apply w_setL); (first | with_reducible exact put_same | assumption); exact rfl) | (with_reducible refine w_fLenS (by omega) ?_) | (with_reducible refine w_slStr (by omega) ?_) | (with_reducible refine w_fAddS (by omega) ?_) | (with_reducible refine w_remPre (by omega) ?_) | (with_reducible refine w_fmtS (by omega) ?_) | ((with_reducible apply w_itC); (first | with_reducible exact put_same | assumption)) | ((with_reducible apply w_list1C); (first | with_reducible exact put_same | assumption)) | ((with_reducible apply w_tupC); (first | with_reducible exact put_same | assumption)) | ((with_reducible apply w_slC); (first | with_reducible exact put_same | assumption)) | ((with_reducible apply w_isTc); (first | with_reducible exact put_same | assumption)) | (with_reducible refine w_fMul (mulR (by decide)) ?_) | (with_reducible refine w_fMul (mulL (by omega)) ?_) | (with_reducible refine w_fMul (mulR (by omega)) ?_) | (with_reducible refine w_fDiv (dv30 (by omega) (by omega)) ?_) | (with_reducible refine w_fMod (by omega) ?_) | ((with_reducible refine And.intro (a := List.length _ ≤ sizeLine) ?_ ?_); exact Nat.le_of_ble_eq_true rfl) | (with_reducible refine And.intro (a := List.length _ = _) rfl ?_) | (with_reducible refine w_fld ?_) | (with_reducible refine w_isT ?_) | (with_reducible refine w_isO ?_) | ((with_reducible refine Exists.intro ?_ (And.intro (a := fldD _ _ _ _ = _) ?_ ?_)); rotate_left; first | exact rfl) | ((with_reducible refine Exists.intro ?_ (And.intro (a := isT _ _ _ = _) ?_ ?_)); rotate_left; exact rfl) | ((with_reducible refine Exists.intro ?_ (And.intro (a := isO _ _ _ = _) ?_ ?_)); rotate_left; exact rfl) | ((with_reducible refine Exists.intro ?_ (And.intro (a := D.int _ = D.int _) ?_ ?_)); rotate_left; exact rfl) | ((with_reducible refine w_kT' (k := T3.isInt _) ?_ ?_); exact rfl) | ((with_reducible refine w_kT' (k := !T3.isInt _) ?_ ?_); exact rfl) | ((with_reducible refine w_kF' (k := T3.isInt _) ?_ ?_); exact rfl) | ((with_reducible refine w_kF' (k := !T3.isInt _) ?_ ?_); exact rfl) | ((with_reducible refine w_kT' (k := T3.isBl _) ?_ ?_); exact rfl) | ((with_reducible refine w_kT' (k := !T3.isBl _) ?_ ?_); exact rfl) | ((with_reducible refine w_kF' (k := T3.isBl _) ?_ ?_); exact rfl) | ((with_reducible refine w_kF' (k := !T3.isBl _) ?_ ?_); exact rfl) | ((with_reducible refine w_kT' (k := T3.isStr _) ?_ ?_); exact rfl) | ((with_reducible refine w_kT' (k := !T3.isStr _) ?_ ?_); exact rfl) | ((with_reducible refine w_kF' (k := T3.isStr _) ?_ ?_); exact rfl) | ((with_reducible refine w_kF' (k := !T3.isStr _) ?_ ?_); exact rfl) | ((with_reducible refine w_kT' (k := T3.isTup _) ?_ ?_); exact rfl) | ((with_reducible refine w_kT' (k := !T3.isTup _) ?_ ?_); exact rfl) | ((with_reducible refine w_kF' (k := T3.isTup _) ?_ ?_); exact rfl) | ((with_reducible refine w_kF' (k := !T3.isTup _) ?_ ?_); exact rfl) | ((with_reducible refine w_kT' (k := T3.isLst _) ?_ ?_); exact rfl) | ((with_reducible refine w_kT' (k := !T3.isLst _) ?_ ?_); exact rfl) | ((with_reducible refine w_kF' (k := T3.isLst _) ?_ ?_); exact rfl) | ((with_reducible refine w_kF' (k := !T3.isLst _) ?_ ?_); exact rfl) | ((with_reducible refine And.intro (a := insD _ _ _ _) ?_ ?_); (first | exact ⟨rfl, rfl⟩)) | ((with_reducible refine w_kT' (k := isNonD _ != _) ?_ ?_); exact rfl) | ((with_reducible refine w_kF' (k := isNonD _ != _) ?_ ?_); exact rfl) | (with_reducible refine w_kF' (k := !true) rfl ?_) | (with_reducible refine w_kT' (k := !false) rfl ?_) | ((with_reducible refine w_kT' (k := decide _) ?_ ?_); decide +kernel) | ((with_reducible refine w_kF' (k := decide _) ?_ ?_); decide +kernel) | (with_reducible refine w_k (fun _ => ?_) fun _ => ?_)))
theorem b_check_choice : BodyOk ["choice", "states", "deed", "state", "argument", "following", "answer"] 2 sp_check_choice m_check_choice := by
  rintro ds O Z P hl ⟨c, st, rfl, hc, hq⟩
  show m_check_choice (En.mk _ _ _ _ _) [some (.tup [.str c.n, .int c.s, .int c.a, .int c.x, .int c.w]), some (.int st), none, none, none, none, none] O
  unfold m_check_choice
  have no : okC st c = false → Z "BadBook" [] O := fun h => by
    rcases hq with ⟨h1, _⟩ | ⟨_, h⟩
    · rw [h] at h1; cases h1
    · exact h
  have yes : okC st c = true → P .non O := fun h => by
    rcases hq with ⟨_, h⟩ | ⟨h1, _⟩
    · exact h
    · rw [h] at h1; cases h1
  walk_at "PLYb W1"
  refine ⟨c.n, rfl, Nat.le_trans hc.len (by decide), ?_⟩
  walk_at "PLYb W1"
  refine w_k (fun h => ?_) fun h => ?_
  · simp at h
    walk_at "PLYb W1"
    refine no ?_
    unfold okC
    rw [h]
    rfl
  · have h0 : isName c.n = true := by simpa using h
    clear h
    walk_at "PLYb W1"
    unfold okC at no yes
    rw [h0] at no yes
    simp only [Bool.true_and, Bool.and_eq_true, Bool.and_eq_false_iff, decide_eq_true_eq, decide_eq_false_iff_not] at no yes
    walk_at "PLYb U2"
    all_goals simp only [Bool.not_eq_true', Bool.not_eq_false', decide_eq_true_eq, decide_eq_false_iff_not] at *
    all_goals first
      | exact no (by omega)
      | exact w_fz (yes (by omega))
end LY

namespace LY
open PySem L2 L3
theorem keyL_inj {k k' : K3} (h : keyL k = keyL k') : k = k' := by
  obtain ⟨a, b, c⟩ := k
  obtain ⟨a', b', c'⟩ := k'
  simp [keyL] at h
  obtain ⟨h1, h2, h3⟩ := h
  rw [h1, h2, h3]
theorem atK_snoc {pre : List Ch} {c : Ch} {k : K3} : atK (pre ++ [c]) k = if c.key = k then atK pre k ++ [c] else atK pre k := by
  unfold atK
  rw [List.filter_append]
  by_cases h : c.key = k
  · simp [h]
  · simp [h]
theorem Grp.nil : Grp [] [] := ⟨fun k => by simp [valD, atK], fun _ h => (List.not_mem_nil h).elim, fun _ h => (List.not_mem_nil h).elim⟩
theorem Grp.snoc {kvs : List (List Key × D)} {pre : List Ch} (g : Grp kvs pre) (c : Ch) : Grp (putD kvs (keyL c.key) (.tup ((atK pre c.key).map optD ++ [optD c]))) (pre ++ [c]) := by
  have own : (atK (pre ++ [c]) c.key).map optD = (atK pre c.key).map optD ++ [optD c] := by rw [atK_snoc, if_pos rfl, List.map_append]; rfl
  have other : ∀ k, k ≠ c.key → atK (pre ++ [c]) k = atK pre k := fun k h => by rw [atK_snoc, if_neg (Ne.symm h)]
  refine ⟨fun k => ?_, fun kv h => ?_, fun c' h => ?_⟩
  · rw [valD_put]
    by_cases h : k = c.key
    · subst h
      rw [if_pos rfl, own, if_neg]
      rw [atK_snoc, if_pos rfl]
      simp
    · rw [if_neg (fun e => h (keyL_inj e)), other k h]
      exact g.val k
  · rcases mem_putD h with rfl | ⟨h1, h2⟩
    · exact ⟨c, by simp, by rw [own]⟩
    · obtain ⟨c', hc, rfl⟩ := g.mem kv h1
      have : c'.key ≠ c.key := fun e => h2 (congrArg keyL e)
      exact ⟨c', by simp [hc], by rw [other _ this]⟩
  · by_cases e : c'.key = c.key
    · rw [e, own]
      exact putD_self
    · rw [other _ e]
      have hc : c' ∈ pre := by
        rcases List.mem_append.mp h with h | h
        · exact h
        · simp at h; subst h; exact absurd rfl e
      exact putD_keep (g.all c' hc) (fun q => e (keyL_inj q))
theorem atK_mem {cs : List Ch} {k : K3} {c : Ch} : c ∈ atK cs k ↔ c ∈ cs ∧ c.key = k := by simp [atK]
theorem opt_key {c c' : Ch} (h : c'.key = c.key) (e : optD c' = optD c) : c' = c := by
  obtain ⟨a, b, d, x, w⟩ := c
  obtain ⟨a', b', d', x', w'⟩ := c'
  simp [Ch.key] at h
  simp [optD] at e
  obtain ⟨h1, h2, h3⟩ := h
  obtain ⟨h4, h5⟩ := e
  subst h1 h2 h3 h4 h5
  rfl
theorem in_opts {pre : List Ch} {c : Ch} : optD c ∈ (atK pre c.key).map optD ↔ c ∈ pre := by
  constructor
  · intro h
    obtain ⟨c', h1, h2⟩ := List.mem_map.mp h
    obtain ⟨h3, h4⟩ := atK_mem.mp h1
    rw [← opt_key h4 h2]
    exact h3
  · intro h
    exact List.mem_map_of_mem (atK_mem.mpr ⟨h, rfl⟩)
theorem grpOk_nil : grpOk [] := ⟨List.nodup_nil, fun _ h => (List.not_mem_nil h).elim⟩
theorem grpOk_snoc {pre : List Ch} {c : Ch} : grpOk (pre ++ [c]) ↔ grpOk pre ∧ c ∉ pre ∧ (atK pre c.key).length < 4 := by
  unfold grpOk
  rw [List.nodup_append]
  constructor
  · rintro ⟨⟨h1, h2, h3⟩, h4⟩
    refine ⟨⟨h1, fun d hd => ?_⟩, fun hc => h3 c hc c (by simp) rfl, ?_⟩
    · have := h4 d (by simp [hd])
      rw [atK_snoc] at this
      split at this
      · simp at this; omega
      · exact this
    · have := h4 c (by simp)
      rw [atK_snoc, if_pos rfl] at this
      simp at this
      omega
  · rintro ⟨⟨h1, h4⟩, h2, h3⟩
    refine ⟨⟨h1, by simp, fun a ha b hb e => ?_⟩, fun d hd => ?_⟩
    · simp at hb
      subst hb e
      exact h2 ha
    · rw [atK_snoc]
      rcases List.mem_append.mp hd with hd | hd
      · by_cases e : c.key = d.key
        · rw [if_pos e, ← e]
          simp
          omega
        · rw [if_neg e]
          exact h4 d hd
      · simp at hd
        subst hd
        rw [if_pos rfl]
        simp
        omega
theorem grpOk_pre {pre r : List Ch} (h : grpOk (pre ++ r)) : grpOk pre := by
  refine ⟨(List.nodup_append.mp h.1).1, fun c hc => ?_⟩
  have := h.2 c (by simp [hc])
  unfold atK at this ⊢
  rw [List.filter_append, List.length_append] at this
  omega
theorem ok_opts (l : List Ch) : okDs (l.map optD) = true := okDs_map fun _ => rfl
theorem dep_opts (l : List Ch) : depDs (l.map optD) ≤ 63 := depDs_map fun _ => by simp [optD, depD, depDs]
theorem keysD3 {c : Ch} : keysD [D.str c.n, D.int c.s, D.int c.a] = some (keyL c.key) := rfl
theorem fld_st {O : Sto} {a b c d : D} : fldD t_tab "states" O (.obj "PlainBook" [("states", a), ("first", b), ("choices", c), ("_options", d)]) = some a := by rfl
theorem fld_fi {O : Sto} {a b c d : D} : fldD t_tab "first" O (.obj "PlainBook" [("states", a), ("first", b), ("choices", c), ("_options", d)]) = some b := by rfl
theorem fld_ch {O : Sto} {a b c d : D} : fldD t_tab "choices" O (.obj "PlainBook" [("states", a), ("first", b), ("choices", c), ("_options", d)]) = some c := by rfl
theorem fld_op {O : Sto} {a b c d : D} : fldD t_tab "_options" O (.obj "PlainBook" [("states", a), ("first", b), ("choices", c), ("_options", d)]) = some d := by rfl
open Classical in
local macro_rules | `(tactic| walk_at "PLYc W0") => `(tactic| (repeat' first | with_reducible refine w_seq ?_ | with_reducible refine w_sui ?_ | with_reducible refine w_next ?_ | with_reducible refine w_brk ?_ | with_reducible refine w_cont ?_ | with_reducible refine w_ret ?_ | with_reducible refine w_retN ?_ | with_reducible refine w_drop ?_ | with_reducible refine w_if ?_ | with_reducible refine w_asg ?_ | with_reducible refine w_par ?_ | with_reducible refine w_setA ?_ | with_reducible refine w_raise ?_ | with_reducible refine w_for ?_ | with_reducible refine w_iSeq ?_ | with_reducible refine w_iR1 ?_ | with_reducible refine w_iR2 ?_ | with_reducible refine w_iVals ?_ | with_reducible refine w_itLst ?_ | with_reducible refine w_itTup ?_ | with_reducible refine w_itStr ?_ | with_reducible refine w_tgName ?_ | with_reducible refine w_tgIx ?_ | with_reducible refine w_tgCons ?_ | with_reducible refine w_tgNil ?_ | with_reducible refine w_un ?_ | with_reducible refine w_op ?_ | with_reducible refine w_B ?_ | with_reducible refine w_tru ?_ | with_reducible refine w_and ?_ | with_reducible refine w_or ?_ | with_reducible refine w_not ?_ | with_reducible refine w_andV ?_ | with_reducible refine w_orV ?_ | with_reducible refine w_notV ?_ | with_reducible refine w_ifE ?_ | with_reducible refine w_nil ?_ | with_reducible refine w_cons ?_ | with_reducible refine w_tup ?_ | with_reducible refine w_lst ?_ | with_reducible refine w_cb ?_ | with_reducible refine w_call ?_ | with_reducible refine w_slice ?_ | with_reducible refine w_oNone ?_ | with_reducible refine w_onBl ?_ | with_reducible refine w_onTruB ?_ | with_reducible refine w_kT ?_ | with_reducible refine w_kF ?_ | with_reducible refine w_fAdd ?_ | with_reducible refine w_fSub ?_ | with_reducible refine w_fNeg ?_ | with_reducible refine w_fLt ?_ | with_reducible refine w_fLe ?_ | with_reducible refine w_fGt ?_ | with_reducible refine w_fGe ?_ | with_reducible refine w_fEqI ?_ | with_reducible refine w_fNeI ?_ | with_reducible refine w_fEqB ?_ | with_reducible refine w_fEqS ?_ | with_reducible refine w_fInt ?_ | with_reducible refine w_fIntB ?_ | with_reducible refine w_fAbs ?_ | with_reducible refine w_fMax ?_ | with_reducible refine w_fMin ?_ | with_reducible refine w_fGcd ?_ | with_reducible refine w_fLenL ?_ | with_reducible refine w_fLenT ?_ | with_reducible refine w_own ?_ | with_reducible refine w_ownI ?_ | with_reducible refine w_eqOwnI ?_ | with_reducible refine w_c ?_ | with_reducible refine w_make ?_ | with_reducible refine w_makeK ?_ | with_reducible refine w_par2 ?_ | with_reducible refine w_slLst ?_ | with_reducible refine w_p10_6 ?_ | with_reducible refine w_p10_8 ?_ | with_reducible refine w_p10_18 ?_ | with_reducible refine w_p10_30 ?_ | with_reducible refine w_p10_51 ?_ | with_reducible refine w_p10_59 ?_ | with_reducible refine w_p10_60 ?_ | with_reducible refine w_p2_63 ?_ | with_reducible refine w_p2_64 ?_ | with_reducible refine w_comp ?_ | with_reducible refine w_meth ?_ | with_reducible refine w_app ?_ | with_reducible refine w_tupOf ?_ | with_reducible refine w_tupL ?_ | with_reducible refine w_tupT ?_ | with_reducible refine w_sm ?_ | with_reducible refine w_sm0 ?_ | with_reducible refine w_isStr ?_ | with_reducible refine w_find ?_ | with_reducible refine w_starts ?_ | with_reducible refine w_isascii ?_ | with_reducible refine w_isdigit ?_ | with_reducible refine w_str1S ?_ | with_reducible refine w_strO ?_ | with_reducible refine w_fmt ?_ | with_reducible refine w_join ?_ | with_reducible refine w_jsNil ?_ | with_reducible refine w_jsCons ?_ | with_reducible refine w_inS ?_ | with_reducible refine w_notInS ?_ | with_reducible refine w_statI ?_ | with_reducible refine w_fNeS ?_ | with_reducible refine w_yes ?_ | with_reducible refine w_get2 ?_ | with_reducible refine w_get1 ?_ | with_reducible refine w_prop ?_ | with_reducible refine w_put1 ?_ | with_reducible refine w_list1L ?_ | with_reducible refine w_list1T ?_ | with_reducible refine w_fIsN ?_ | with_reducible refine w_retL ?_ | with_reducible refine w_valsT ?_ | with_reducible refine w_valsK ?_ | with_reducible refine w_chain ?_ | ((with_reducible apply w_var); exact rfl) | ((with_reducible apply w_isE); exact rfl) | ((with_reducible apply w_onTru); exact rfl) | ((with_reducible apply w_tgTup); exact rfl) | ((with_reducible refine w_fPow ?_ ?_); exact ⟨by decide, by decide, by decide⟩) | (with_reducible refine w_fMod (by decide) ?_) | ((with_reducible apply w_fIxT); exact rfl) | ((with_reducible apply w_fIxL); exact rfl) | (with_reducible refine w_oSome ?_) | ((with_reducible apply w_fIxC); (first | with_reducible exact put_same | assumption); exact rfl) | ((with_reducible apply w_fLenC); (first | with_reducible exact put_same | assumption)) | ((with_reducible apply w_setL); (first | with_reducible exact put_same | assumption); exact rfl) | ((with_reducible apply w_itC); (first | with_reducible exact put_same | assumption)) | ((with_reducible apply w_list1C); (first | with_reducible exact put_same | assumption)) | ((with_reducible apply w_tupC); (first | with_reducible exact put_same | assumption)) | ((with_reducible apply w_slC); (first | with_reducible exact put_same | assumption)) | ((with_reducible apply w_isTc); (first | with_reducible exact put_same | assumption)) | ((with_reducible refine And.intro (a := List.length _ ≤ sizeLine) ?_ ?_); exact Nat.le_of_ble_eq_true rfl) | (with_reducible refine And.intro (a := List.length _ = _) rfl ?_) | (with_reducible refine w_fld ?_) | (with_reducible refine w_isT ?_) | (with_reducible refine w_isO ?_) | ((with_reducible refine Exists.intro ?_ (And.intro (a := fldD _ _ _ _ = _) ?_ ?_)); rotate_left; first | with_reducible exact fld_st | with_reducible exact fld_fi | with_reducible exact fld_ch | with_reducible exact fld_op | exact rfl) | ((with_reducible refine Exists.intro ?_ (And.intro (a := isT _ _ _ = _) ?_ ?_)); rotate_left; exact rfl) | ((with_reducible refine Exists.intro ?_ (And.intro (a := isO _ _ _ = _) ?_ ?_)); rotate_left; exact rfl) | ((with_reducible refine Exists.intro ?_ (And.intro (a := D.int _ = D.int _) ?_ ?_)); rotate_left; exact rfl) | ((with_reducible refine w_kT' (k := T3.isInt _) ?_ ?_); exact rfl) | ((with_reducible refine w_kT' (k := !T3.isInt _) ?_ ?_); exact rfl) | ((with_reducible refine w_kF' (k := T3.isInt _) ?_ ?_); exact rfl) | ((with_reducible refine w_kF' (k := !T3.isInt _) ?_ ?_); exact rfl) | ((with_reducible refine w_kT' (k := T3.isBl _) ?_ ?_); exact rfl) | ((with_reducible refine w_kT' (k := !T3.isBl _) ?_ ?_); exact rfl) | ((with_reducible refine w_kF' (k := T3.isBl _) ?_ ?_); exact rfl) | ((with_reducible refine w_kF' (k := !T3.isBl _) ?_ ?_); exact rfl) | ((with_reducible refine w_kT' (k := T3.isStr _) ?_ ?_); exact rfl) | ((with_reducible refine w_kT' (k := !T3.isStr _) ?_ ?_); exact rfl) | ((with_reducible refine w_kF' (k := T3.isStr _) ?_ ?_); exact rfl) | ((with_reducible refine w_kF' (k := !T3.isStr _) ?_ ?_); exact rfl) | ((with_reducible refine w_kT' (k := T3.isTup _) ?_ ?_); exact rfl) | ((with_reducible refine w_kT' (k := !T3.isTup _) ?_ ?_); exact rfl) | ((with_reducible refine w_kF' (k := T3.isTup _) ?_ ?_); exact rfl) | ((with_reducible refine w_kF' (k := !T3.isTup _) ?_ ?_); exact rfl) | ((with_reducible refine w_kT' (k := T3.isLst _) ?_ ?_); exact rfl) | ((with_reducible refine w_kT' (k := !T3.isLst _) ?_ ?_); exact rfl) | ((with_reducible refine w_kF' (k := T3.isLst _) ?_ ?_); exact rfl) | ((with_reducible refine w_kF' (k := !T3.isLst _) ?_ ?_); exact rfl) | ((with_reducible refine And.intro (a := insD _ _ _ _) ?_ ?_); (first | exact ⟨rfl, rfl⟩)) | ((with_reducible refine w_kT' (k := isNonD _ != _) ?_ ?_); exact rfl) | ((with_reducible refine w_kF' (k := isNonD _ != _) ?_ ?_); exact rfl) | (with_reducible refine w_kF' (k := !true) rfl ?_) | (with_reducible refine w_kT' (k := !false) rfl ?_) | ((with_reducible refine w_kT' (k := decide _) ?_ ?_); decide +kernel) | ((with_reducible refine w_kF' (k := decide _) ?_ ?_); decide +kernel)))
theorem b_grouped_options : BodyOk ["choices", "grouped", "deed", "state", "argument", "following", "answer", "key", "options"] 1 sp_grouped_options m_grouped_options := by
  rintro ds O Z P hl ⟨cs, rfl, hc, hq, hz⟩
  show m_grouped_options (En.mk _ _ _ _ _) [some (.tup (cs.map chD)), none, none, none, none, none, none, none, none] O
  unfold m_grouped_options
  have big := big_line
  have hn := hc.1
  walk_at "PLYc W0"
  refine w_dict0T fun p hp => ?_
  walk_at "PLYc W0"
  refine w_forL chD (fun r Γ O' => ∃ pre kvs x2 x3 x4 x5 x6 x7 x8, cs = pre ++ r ∧ Grp kvs pre ∧ grpOk pre ∧ kvs.length ≤ pre.length ∧ Γ = [some (.tup (cs.map chD)), some (.cell p), x2, x3, x4, x5, x6, x7, x8] ∧ O' = put O p (.dT kvs)) ?_ ?_ ?_ _ _ _ ⟨[], [], none, none, none, none, none, none, none, rfl, Grp.nil, grpOk_nil, Nat.le_refl _, rfl, rfl⟩
  · rintro r Γ O' ⟨pre, kvs, x2, x3, x4, x5, x6, x7, x8, e, g, gk, gl, rfl, rfl⟩
    rfl
  · rintro c r K hK Γ O' ⟨pre, kvs, x2, x3, x4, x5, x6, x7, x8, e, g, gk, gl, rfl, rfl⟩
    have hlen : pre.length + (r.length + 1) = cs.length := by rw [e]; simp
    show tgTup 5 _ _ (.tup [.str c.n, .int c.s, .int c.a, .int c.x, .int c.w]) _ _ _
    have bad : ¬ grpOk (pre ++ [c]) → Z "BadBook" [] (put O p (.dT kvs)) := fun h => hz (fun h' => h (grpOk_pre (r := r) (by rw [e] at h'; simpa using h'))) _ (Ext.put hp)
    have hdic : dicOf (put O p (.dT kvs)) (.cell p) = some (.inr kvs) := dicOf_cT put_same
    walk_at "PLYc W0"
    refine And.intro (by rw [hdic]; rfl) ?_
    walk_at "PLYc W0"
    refine w_getQ (dget_t hdic keysD3) ?_
    have er : (valD kvs (keyL c.key)).getD (.tup []) = .tup ((atK pre c.key).map optD) := by
      rw [g.val]
      split
      · rename_i h; rw [h]; rfl
      · rfl
    rw [er]
    walk_at "PLYc W0"
    refine w_inP (ds := (atK pre c.key).map optD) (p := c ∈ pre) rfl rfl rfl (ok_opts _) (by simp [depD, depDs]) (dep_opts _) (fun _ h => nomatch h) in_opts ?_
    simp only [Bool.false_eq_true, if_false]
    walk_at "PLYc W0"
    refine w_k (fun h => ?_) fun h => ?_
    · have h := cT h
      walk_at "PLYc W0"
      exact bad fun q => (grpOk_snoc.mp q).2.1 h
    · have h1 := cF h
      walk_at "PLYc W0"
      rw [List.length_map]
      refine w_k (fun h => ?_) fun h => ?_
      · have h := of_decide_eq_true h
        walk_at "PLYc W0"
        exact bad fun q => by have := (grpOk_snoc.mp q).2.2; omega
      · have h2 := of_decide_eq_false h
        have h3 : (atK pre c.key).length < 4 := by
          have : (atK pre c.key).length ≤ 4 := by
            by_cases z : ∃ d ∈ pre, d.key = c.key
            · obtain ⟨d, hd, e⟩ := z
              rw [← e]
              exact gk.2 d hd
            · have : atK pre c.key = [] := by
                unfold atK
                rw [List.filter_eq_nil_iff]
                intro d hd q
                exact z ⟨d, hd, by simpa using q⟩
              rw [this]
              simp
          omega
        walk_at "PLYc W0"
        refine And.intro (by rw [List.length_map]; simp; omega) ?_
        walk_at "PLYc W0"
        refine w_setT put_same keysD3 (by omega) ?_
        rw [put_put]
        refine hK _ _ ⟨pre ++ [c], _, _, _, _, _, _, _, _, by rw [e]; simp, g.snoc c, grpOk_snoc.mpr ⟨gk, h1, h3⟩, ?_, rfl, rfl⟩
        have := putD_len (kvs := kvs) (k := keyL c.key) (v := .tup ((atK pre c.key).map optD ++ [optD c]))
        simp only [List.length_append, List.length_cons, List.length_nil]
        omega
  · rintro Γ O' ⟨pre, kvs, x2, x3, x4, x5, x6, x7, x8, e, g, gk, gl, rfl, rfl⟩
    rw [List.append_nil] at e
    subst e
    walk_at "PLYc W0"
    exact w_fzdT hp (hq gk _ g)
theorem b_PlainBook_options : BodyOk ["self", "deed", "state", "argument"] 4 sp_PlainBook_options m_PlainBook_options := by
  rintro ds O Z P hl ⟨st, fi, cs, kvs, k, rfl, g, hq⟩
  show m_PlainBook_options (En.mk _ _ _ _ _) [some (.obj "PlainBook" [("states", .int st), ("first", .int fi), ("choices", .tup (cs.map chD)), ("_options", .dT kvs)]), some (.str k.1), some (.int k.2.1), some (.int k.2.2)] O
  unfold m_PlainBook_options
  walk_at "PLYc W0"
  refine And.intro rfl ?_
  walk_at "PLYc W0"
  refine w_getQ (r := valD kvs (keyL k)) (dget_t rfl rfl) ?_
  have er : (valD kvs (keyL k)).getD (.tup []) = .tup ((atK cs k).map optD) := by
    rw [g.val]
    split
    · rename_i h; rw [h]; rfl
    · rfl
  rw [er]
  walk_at "PLYc W0"
  exact fun q hq' => w_fz (w_fz (hq q hq'))
theorem b_PlainBook_deterministic : BodyOk ["self", "options"] 1 sp_PlainBook_deterministic m_PlainBook_deterministic := by
  rintro ds O Z P hl ⟨st, fi, cs, kvs, rfl, g, hq⟩
  show m_PlainBook_deterministic (En.mk _ _ _ _ _) [some (.obj "PlainBook" [("states", .int st), ("first", .int fi), ("choices", .tup (cs.map chD)), ("_options", .dT kvs)]), none] O
  unfold m_PlainBook_deterministic
  walk_at "PLYc W0"
  refine w_forL (fun kv : List Key × D => kv.2) (fun r Γ O' => ∃ pre k, kvs = pre ++ r ∧ (∀ kv ∈ pre, ∀ ds, kv.2 = .tup ds → ds.length ≤ 1) ∧ Γ = [some (.obj "PlainBook" [("states", .int st), ("first", .int fi), ("choices", .tup (cs.map chD)), ("_options", .dT kvs)]), k] ∧ O' = O) (fun _ _ _ _ => trivial) ?_ ?_ _ _ _ ⟨[], none, rfl, fun _ h => (List.not_mem_nil h).elim, rfl, rfl⟩
  · rintro kv r K hK Γ O' ⟨pre, k, e, hp, rfl, rfl⟩
    obtain ⟨c, hc, e2⟩ := g.mem kv (by rw [e]; simp)
    have e3 : kv.2 = .tup ((atK cs c.key).map optD) := by rw [e2]
    show tgName 1 _ kv.2 _ _ _
    rw [e3]
    walk_at "PLYc W0"
    rw [List.length_map]
    refine w_k (fun h => ?_) fun h => ?_
    · have h := of_decide_eq_true h
      walk_at "PLYc W0"
      refine w_fz ?_
      have : detB cs = false := by
        unfold detB
        rw [List.all_eq_false]
        exact ⟨c, hc, by simp; omega⟩
      rw [this] at hq
      exact hq
    · have h := of_decide_eq_false h
      walk_at "PLYc W0"
      refine hK _ _ ⟨pre ++ [kv], _, by rw [e]; simp, ?_, rfl, rfl⟩
      intro kv' h' ds' e'
      rcases List.mem_append.mp h' with h' | h'
      · exact hp kv' h' ds' e'
      · simp at h'
        subst h'
        rw [e3] at e'
        cases e'
        rw [List.length_map]
        omega
  · rintro Γ O' ⟨pre, k, e, hp, rfl, rfl⟩
    rw [List.append_nil] at e
    subst e
    walk_at "PLYc W0"
    refine w_fz ?_
    have : detB cs = true := by
      unfold detB
      rw [List.all_eq_true]
      intro c hc
      have := hp _ (g.all c hc) _ rfl
      rw [List.length_map] at this
      simpa using this
    rw [this] at hq
    exact hq
end LY

namespace LY
open PySem L2 L3
theorem seq_put {O : Sto} {q : Addr} {u : MO} {d : D} {ds : List D} (h : seqOf O d = some ds) (hq : O q = none) : seqOf (put O q u) d = some ds := by
  cases d with
  | cell p =>
    have e := lstOf_cell h
    have ne : p ≠ q := by rintro rfl; rw [e] at hq; cases hq
    unfold seqOf
    simp only [put_ne ne, e]
  | _ => exact h
theorem seq_put2 {O : Sto} {q : Addr} {u : MO} {C : Str} {fs : List (Str × D)} {d : D} {ds : List D} (h : seqOf O d = some ds) (hq : O q = some (.ins C fs)) : seqOf (put O q u) d = some ds := by
  cases d with
  | cell p =>
    have e := lstOf_cell h
    have ne : p ≠ q := by rintro rfl; rw [e] at hq; cases hq
    unfold seqOf
    simp only [put_ne ne, e]
  | _ => exact h
theorem items_seq {O : Sto} {g : D} (h : ∀ z, g ≠ .str z) : itemsOf O g = seqOf O g := by
  cases g with
  | str z => exact absurd rfl (h z)
  | _ => rfl
theorem Rows.get {O : Sto} : ∀ {rs : List D} {cs : List Ch}, Rows O rs cs → ∀ r ∈ rs, ∃ c ∈ cs, seqOf O r = some (chF c)
  | _, _, .cons h t, r, hr => by
    rcases List.mem_cons.mp hr with rfl | hr
    · exact ⟨_, List.mem_cons_self, h⟩
    · obtain ⟨c, h1, h2⟩ := t.get r hr
      exact ⟨c, List.mem_cons_of_mem _ h1, h2⟩
theorem Rows.imp {O O' : Sto} (hh : ∀ d ds, seqOf O d = some ds → seqOf O' d = some ds) : ∀ {rs : List D} {cs : List Ch}, Rows O rs cs → Rows O' rs cs
  | _, _, .nil => .nil
  | _, _, .cons h t => .cons (hh _ _ h) (t.imp hh)
def tupS (O : Sto) (r : D) : D := match seqOf O r with
  | some ds => .tup ds
  | none => .non
theorem Rows.tups {O : Sto} : ∀ {rs : List D} {cs : List Ch}, Rows O rs cs → rs.map (tupS O) = cs.map chD
  | _, _, .nil => rfl
  | _, _, .cons h t => by
    rw [List.map_cons, List.map_cons, t.tups]
    congr 1
    unfold tupS
    rw [h]
    rfl
theorem Rows.len {O : Sto} : ∀ {rs : List D} {cs : List Ch}, Rows O rs cs → rs.length = cs.length
  | _, _, .nil => rfl
  | _, _, .cons h t => by simp [t.len]
theorem w_itI {O : Sto} {d : D} {ds : List D} {QI : (Sto → Prop) → List D → Sto → Prop} (h0 : itemsOf O d = some ds) (h : QI (fun O => itemsOf O d = some ds) ds O) : itQ O d QI := by
  unfold itQ
  rw [h0]
  exact h
theorem w_tupS {O : Sto} {d : D} {ds : List D} {Q : PV} (h0 : seqOf O d = some ds) (h : Q (.tup ds) O) : tupD O d Q := by
  unfold tupD
  rw [h0]
  exact h
theorem fldC {tab : List (Str × Str)} {O : Sto} {p : Addr} {C x : Str} {fs : List (Str × D)} {d : D} (h : O p = some (.ins C fs)) (ht : (C, x) ∈ tab) (hl : fs.lookup x = some d) : fldD tab x O (.cell p) = some d := by
  unfold fldD
  simp only [h, ht, hl, if_true]
theorem ExtB.put {O : Sto} {p : Addr} {u : MO} : ExtB p O (L3.put O p u) := fun q w n h => (put_ne n).trans h
local macro_rules | `(tactic| walk_at "PLYd W0") => `(tactic| (repeat' first | with_reducible refine w_seq ?_ | with_reducible refine w_sui ?_ | with_reducible refine w_next ?_ | with_reducible refine w_brk ?_ | with_reducible refine w_cont ?_ | with_reducible refine w_ret ?_ | with_reducible refine w_retN ?_ | with_reducible refine w_drop ?_ | with_reducible refine w_if ?_ | with_reducible refine w_asg ?_ | with_reducible refine w_par ?_ | with_reducible refine w_setA ?_ | with_reducible refine w_raise ?_ | with_reducible refine w_for ?_ | with_reducible refine w_iSeq ?_ | with_reducible refine w_iR1 ?_ | with_reducible refine w_iR2 ?_ | with_reducible refine w_iVals ?_ | with_reducible refine w_itLst ?_ | with_reducible refine w_itTup ?_ | with_reducible refine w_itStr ?_ | with_reducible refine w_tgName ?_ | with_reducible refine w_tgIx ?_ | with_reducible refine w_tgCons ?_ | with_reducible refine w_tgNil ?_ | with_reducible refine w_un ?_ | with_reducible refine w_op ?_ | with_reducible refine w_B ?_ | with_reducible refine w_tru ?_ | with_reducible refine w_and ?_ | with_reducible refine w_or ?_ | with_reducible refine w_not ?_ | with_reducible refine w_andV ?_ | with_reducible refine w_orV ?_ | with_reducible refine w_notV ?_ | with_reducible refine w_ifE ?_ | with_reducible refine w_nil ?_ | with_reducible refine w_cons ?_ | with_reducible refine w_tup ?_ | with_reducible refine w_lst ?_ | with_reducible refine w_cb ?_ | with_reducible refine w_call ?_ | with_reducible refine w_slice ?_ | with_reducible refine w_oNone ?_ | with_reducible refine w_onBl ?_ | with_reducible refine w_onTruB ?_ | with_reducible refine w_kT ?_ | with_reducible refine w_kF ?_ | with_reducible refine w_fAdd ?_ | with_reducible refine w_fSub ?_ | with_reducible refine w_fNeg ?_ | with_reducible refine w_fLt ?_ | with_reducible refine w_fLe ?_ | with_reducible refine w_fGt ?_ | with_reducible refine w_fGe ?_ | with_reducible refine w_fEqI ?_ | with_reducible refine w_fNeI ?_ | with_reducible refine w_fEqB ?_ | with_reducible refine w_fEqS ?_ | with_reducible refine w_fInt ?_ | with_reducible refine w_fIntB ?_ | with_reducible refine w_fAbs ?_ | with_reducible refine w_fMax ?_ | with_reducible refine w_fMin ?_ | with_reducible refine w_fGcd ?_ | with_reducible refine w_fLenL ?_ | with_reducible refine w_fLenT ?_ | with_reducible refine w_own ?_ | with_reducible refine w_ownI ?_ | with_reducible refine w_eqOwnI ?_ | with_reducible refine w_c ?_ | with_reducible refine w_make ?_ | with_reducible refine w_makeK ?_ | with_reducible refine w_par2 ?_ | with_reducible refine w_slLst ?_ | with_reducible refine w_p10_6 ?_ | with_reducible refine w_p10_8 ?_ | with_reducible refine w_p10_18 ?_ | with_reducible refine w_p10_30 ?_ | with_reducible refine w_p10_51 ?_ | with_reducible refine w_p10_59 ?_ | with_reducible refine w_p10_60 ?_ | with_reducible refine w_p2_63 ?_ | with_reducible refine w_p2_64 ?_ | with_reducible refine w_comp ?_ | with_reducible refine w_meth ?_ | with_reducible refine w_app ?_ | with_reducible refine w_tupOf ?_ | with_reducible refine w_tupL ?_ | with_reducible refine w_tupT ?_ | with_reducible refine w_sm ?_ | with_reducible refine w_sm0 ?_ | with_reducible refine w_isStr ?_ | with_reducible refine w_find ?_ | with_reducible refine w_starts ?_ | with_reducible refine w_isascii ?_ | with_reducible refine w_isdigit ?_ | with_reducible refine w_str1S ?_ | with_reducible refine w_strO ?_ | with_reducible refine w_fmt ?_ | with_reducible refine w_join ?_ | with_reducible refine w_jsNil ?_ | with_reducible refine w_jsCons ?_ | with_reducible refine w_inS ?_ | with_reducible refine w_notInS ?_ | with_reducible refine w_statI ?_ | with_reducible refine w_fNeS ?_ | with_reducible refine w_yes ?_ | with_reducible refine w_get2 ?_ | with_reducible refine w_get1 ?_ | with_reducible refine w_prop ?_ | with_reducible refine w_put1 ?_ | with_reducible refine w_list1L ?_ | with_reducible refine w_list1T ?_ | with_reducible refine w_fIsN ?_ | with_reducible refine w_retL ?_ | with_reducible refine w_valsT ?_ | with_reducible refine w_valsK ?_ | with_reducible refine w_chain ?_ | ((with_reducible apply w_var); exact rfl) | ((with_reducible apply w_isE); exact rfl) | ((with_reducible apply w_onTru); exact rfl) | ((with_reducible apply w_tgTup); exact rfl) | ((with_reducible refine w_fPow ?_ ?_); exact ⟨by decide, by decide, by decide⟩) | (with_reducible refine w_fMod (by decide) ?_) | ((with_reducible apply w_fIxT); exact rfl) | ((with_reducible apply w_fIxL); exact rfl) | (with_reducible refine w_oSome ?_) | ((with_reducible apply w_fIxC); (first | with_reducible exact put_same | assumption); exact rfl) | ((with_reducible apply w_fLenC); (first | with_reducible exact put_same | assumption)) | ((with_reducible apply w_setL); (first | with_reducible exact put_same | assumption); exact rfl) | ((with_reducible apply w_itC); (first | with_reducible exact put_same | assumption)) | ((with_reducible apply w_list1C); (first | with_reducible exact put_same | assumption)) | ((with_reducible apply w_tupC); (first | with_reducible exact put_same | assumption)) | ((with_reducible apply w_slC); (first | with_reducible exact put_same | assumption)) | ((with_reducible apply w_isTc); (first | with_reducible exact put_same | assumption)) | ((with_reducible refine And.intro (a := List.length _ ≤ sizeLine) ?_ ?_); exact Nat.le_of_ble_eq_true rfl) | (with_reducible refine And.intro (a := List.length _ = _) rfl ?_) | (with_reducible refine w_fld ?_) | (with_reducible refine w_isT ?_) | (with_reducible refine w_isO ?_) | ((with_reducible refine Exists.intro ?_ (And.intro (a := fldD _ _ _ _ = _) ?_ ?_)); rotate_left; first | with_reducible exact fld_st | with_reducible exact fld_fi | with_reducible exact fld_ch | with_reducible exact fld_op | exact rfl) | ((with_reducible refine Exists.intro ?_ (And.intro (a := isT _ _ _ = _) ?_ ?_)); rotate_left; exact rfl) | ((with_reducible refine Exists.intro ?_ (And.intro (a := isO _ _ _ = _) ?_ ?_)); rotate_left; exact rfl) | ((with_reducible refine Exists.intro ?_ (And.intro (a := D.int _ = D.int _) ?_ ?_)); rotate_left; exact rfl) | ((with_reducible refine w_kT' (k := T3.isInt _) ?_ ?_); exact rfl) | ((with_reducible refine w_kT' (k := !T3.isInt _) ?_ ?_); exact rfl) | ((with_reducible refine w_kF' (k := T3.isInt _) ?_ ?_); exact rfl) | ((with_reducible refine w_kF' (k := !T3.isInt _) ?_ ?_); exact rfl) | ((with_reducible refine w_kT' (k := T3.isBl _) ?_ ?_); exact rfl) | ((with_reducible refine w_kT' (k := !T3.isBl _) ?_ ?_); exact rfl) | ((with_reducible refine w_kF' (k := T3.isBl _) ?_ ?_); exact rfl) | ((with_reducible refine w_kF' (k := !T3.isBl _) ?_ ?_); exact rfl) | ((with_reducible refine w_kT' (k := T3.isStr _) ?_ ?_); exact rfl) | ((with_reducible refine w_kT' (k := !T3.isStr _) ?_ ?_); exact rfl) | ((with_reducible refine w_kF' (k := T3.isStr _) ?_ ?_); exact rfl) | ((with_reducible refine w_kF' (k := !T3.isStr _) ?_ ?_); exact rfl) | ((with_reducible refine w_kT' (k := T3.isTup _) ?_ ?_); exact rfl) | ((with_reducible refine w_kT' (k := !T3.isTup _) ?_ ?_); exact rfl) | ((with_reducible refine w_kF' (k := T3.isTup _) ?_ ?_); exact rfl) | ((with_reducible refine w_kF' (k := !T3.isTup _) ?_ ?_); exact rfl) | ((with_reducible refine w_kT' (k := T3.isLst _) ?_ ?_); exact rfl) | ((with_reducible refine w_kT' (k := !T3.isLst _) ?_ ?_); exact rfl) | ((with_reducible refine w_kF' (k := T3.isLst _) ?_ ?_); exact rfl) | ((with_reducible refine w_kF' (k := !T3.isLst _) ?_ ?_); exact rfl) | ((with_reducible refine And.intro (a := insD _ _ _ _) ?_ ?_); (first | exact ⟨rfl, rfl⟩)) | ((with_reducible refine w_kT' (k := isNonD _ != _) ?_ ?_); exact rfl) | ((with_reducible refine w_kF' (k := isNonD _ != _) ?_ ?_); exact rfl) | (with_reducible refine w_kF' (k := !true) rfl ?_) | (with_reducible refine w_kT' (k := !false) rfl ?_) | ((with_reducible refine w_kT' (k := decide _) ?_ ?_); decide +kernel) | ((with_reducible refine w_kF' (k := decide _) ?_ ?_); decide +kernel)))
theorem b_PlainBook_init : BodyOk ["self", "states", "first", "choices", "choice"] 4 sp_PlainBook_init m_PlainBook_init := by
  rintro ds O Z P hl ⟨p, st, fi, g, cs, rfl, hO, ⟨gs, hg, hs, hr⟩, hc, hq, hz⟩
  show m_PlainBook_init (En.mk _ _ _ _ _) [some (.cell p), some (.int st), some (.int fi), some g, none] O
  unfold m_PlainBook_init
  have big := big_line
  walk_at "PLYd W0"
  refine w_setA1 hO (by decide) (by decide) ?_
  walk_at "PLYd W0"
  refine w_setA1 put_same (by decide) (Nat.lt_of_sub_eq_succ rfl) ?_
  rw [put_put]
  walk_at "PLYd W0"
  have hg2 : seqOf (put O p (.ins "PlainBook" (putA "first" (.int fi) (putA "states" (.int st) [])))) g = some gs := seq_put2 hg hO
  have hr2 := hr.imp (O' := put O p (.ins "PlainBook" (putA "first" (.int fi) (putA "states" (.int st) [])))) fun d ds h => seq_put2 h hO
  have hp2 : (put O p (.ins "PlainBook" (putA "first" (.int fi) (putA "states" (.int st) [])))) p = some (.ins "PlainBook" [("states", .int st), ("first", .int fi)]) := put_same
  have he2 : ExtB p O (put O p (.ins "PlainBook" (putA "first" (.int fi) (putA "states" (.int st) [])))) := ExtB.put
  have hput : ∀ u, put (put O p (.ins "PlainBook" (putA "first" (.int fi) (putA "states" (.int st) [])))) p u = put O p u := fun u => put_put
  generalize put O p (.ins "PlainBook" (putA "first" (.int fi) (putA "states" (.int st) []))) = O2 at *
  refine w_itI (ds := gs) ((items_seq hs).trans hg2) ?_
  have hlen := hr.len
  refine w_lcM (tupS O2) (by have := hc.1; omega) (fun q acc hq' => (items_seq hs).trans (seq_put hg2 hq')) (fun x hx q acc hq' K1 hK => ?_) fun q hq' => ?_
  · obtain ⟨c, _, hx2⟩ := hr2.get x hx
    walk_at "PLYd W0"
    refine w_tupS (seq_put hx2 hq') ?_
    have e : tupS O2 x = .tup (chF c) := by unfold tupS; rw [hx2]
    rw [← e]
    exact hK
  rw [hr2.tups]
  refine w_fzLst hq' ?_
  walk_at "PLYd W0"
  refine w_setA1 hp2 (by decide) (Nat.lt_of_sub_eq_succ rfl) ?_
  rw [hput]
  have bad : ∀ u, ¬ goodB st fi cs → Z "BadBook" [] (put O p u) := fun u h => hz h _ ExtB.put
  walk_at "PLYd W0"
  have chs : 1 ≤ st → st ≤ 600 → 0 ≤ fi → fi < st → mSeq (mFor (iSeq (mFld t_tab "choices" (mVar 0))) (tgName 4) (mDrop (mCall sp_check_choice 2 (mCons (mVar 4) (mCons (mVar 1) mNil)))))
    (mSetA t_tab "_options" (mCall sp_grouped_options 1 (mCons (mFld t_tab "choices" (mVar 0)) mNil)) (mVar 0)) ⟨fun x O' => orFz P D.non O', P, fun x x_1 => False, fun x x_1 => False, fun C fs x O' => Z C fs O'⟩ [some (.cell p), some (.int st), some (.int fi), some g, none] (put O p (.ins "PlainBook" [("states", .int st), ("first", .int fi), ("choices", .tup (cs.map chD))])) := by
    intro s1 s2 f0 f1
    walk_at "PLYd W0"
    refine ⟨_, fldC put_same (by decide) rfl, ?_⟩
    walk_at "PLYd W0"
    refine w_forL chD (fun r Γ O' => ∃ pre k, cs = pre ++ r ∧ (∀ c ∈ pre, okC st c = true) ∧ Γ = [some (.cell p), some (.int st), some (.int fi), some g, k] ∧ O' = put O p (.ins "PlainBook" [("states", .int st), ("first", .int fi), ("choices", .tup (cs.map chD))])) (fun _ _ _ _ => rfl) ?_ ?_ _ _ _ ⟨[], none, rfl, fun _ h => (List.not_mem_nil h).elim, rfl, rfl⟩
    · rintro c r K hK Γ O' ⟨pre, k, e, hp, rfl, rfl⟩
      walk_at "PLYd W0"
      refine ⟨c, st, rfl, hc.2 c (by rw [e]; simp), ?_⟩
      cases h : okC st c with
      | true =>
        refine .inl ⟨rfl, ?_⟩
        refine hK _ _ ⟨pre ++ [c], _, by rw [e]; simp, ?_, rfl, rfl⟩
        intro d hd
        rcases List.mem_append.mp hd with hd | hd
        · exact hp d hd
        · simp at hd; subst hd; exact h
      | false =>
        refine .inr ⟨rfl, bad _ fun q => ?_⟩
        have := q.chs c (by rw [e]; simp)
        rw [h] at this
        cases this
    · rintro Γ O' ⟨pre, k, e, hp, rfl, rfl⟩
      rw [List.append_nil] at e
      subst e
      walk_at "PLYd W0"
      refine ⟨_, fldC put_same (by decide) rfl, ?_⟩
      walk_at "PLYd W0"
      refine ⟨cs, rfl, hc, fun gk kvs gg => ?_, fun gk O' he => ?_⟩
      · walk_at "PLYd W0"
        refine w_setA1 put_same (by decide) (Nat.lt_of_sub_eq_succ rfl) ?_
        rw [put_put]
        exact w_fz (hq ⟨s1, s2, f0, f1, hp, gk⟩ kvs gg)
      · exact hz (fun q => gk q.grp) O' fun q u n h => he q u ((put_ne n).trans h)
  have bad' : ∀ u, ¬ (1 ≤ st ∧ st ≤ 600 ∧ 0 ≤ fi ∧ fi < st) → Z "BadBook" [] (put O p u) := fun u h => bad u fun q => h ⟨q.st1, q.st2, q.fi0, q.fi1⟩
  refine w_k (fun h1 => ?_) fun h1 => ?_
  · have h1 := of_decide_eq_true h1
    walk_at "PLYd W0"
    refine w_k (fun h2 => ?_) fun h2 => ?_
    · have h2 : ¬ st ≤ 600 := by simpa using h2
      walk_at "PLYd W0"
      exact bad' _ (by omega)
    · have h2 : st ≤ 600 := by simpa using h2
      refine w_next ?_
      refine w_seq ?_
      refine w_if ?_
      walk_at "PLYd W0"
      refine w_k (fun h3 => ?_) fun h3 => ?_
      · have h3 := of_decide_eq_true h3
        walk_at "PLYd W0"
        refine w_k (fun h4 => ?_) fun h4 => ?_
        · have h4 : ¬ fi < st := by simpa using h4
          walk_at "PLYd W0"
          exact bad' _ (by omega)
        · have h4 : fi < st := by simpa using h4
          exact chs h1 h2 h3 h4
      · have h3 := of_decide_eq_false h3
        walk_at "PLYd W0"
        exact bad' _ (by omega)
  · have h1 := of_decide_eq_false h1
    walk_at "PLYd W0"
    exact bad' _ (by omega)
end LY

namespace K03
open PySem L2 L3 LY
/-! Printed by gen.py: what each def does, by its text. -/
/-- _law_name(pool); names: 0 pool, 1 signs, 2 size, 3 name, 4 k -/
def m_law_name : MS :=
    (mSeq (mAsg (mC (.str "abcdefghijklmnopqrstuvwxyz0123456789")) (tgName 1))
    (mSeq (mAsg (mOp fAdd (mC (.int 1)) (mCall sp_law_draw 2 (mCons (mVar 0) (mCons (mC (.int 3)) mNil)))) (tgName 2))
    (mSeq (mIf (mB (mOp (fEq false) (mCall sp_law_draw 2 (mCons (mVar 0) (mCons (mC (.int 5)) mNil))) (mC (.int 1)))) (mAsg (mOp fAdd (mC (.int 1)) (mCall sp_law_draw 2 (mCons (mVar 0) (mCons (mC (.int 20)) mNil)))) (tgName 2)) mNext)
    (mSeq (mAsg (mOp fIx (mVar 1) (mCall sp_law_draw 2 (mCons (mVar 0) (mCons (mC (.int 26)) mNil)))) (tgName 3))
    (mSeq (mFor (iR1 (mCons (mOp fSub (mVar 2) (mC (.int 1))) mNil)) (tgName 4) (mAsg (mOp fAdd (mVar 3) (mOp fIx (mVar 1) (mCall sp_law_draw 2 (mCons (mVar 0) (mCons (mC (.int 36)) mNil))))) (tgName 3)))
    (mRet (mVar 3)))))))
/-- _law_names(pool); names: 0 pool, 1 names, 2 k, 3 name, 4 at -/
def m_law_names : MS :=
    (mSeq (mAsg (mLst (mCons (mCall sp_law_name 1 (mCons (mVar 0) mNil)) mNil)) (tgName 1))
    (mSeq (mFor (iR1 (mCons (mCall sp_law_draw 2 (mCons (mVar 0) (mCons (mC (.int 3)) mNil))) mNil)) (tgName 2) (mSeq (mAsg (mCall sp_law_name 1 (mCons (mVar 0) mNil)) (tgName 3))
    (mSeq (mIf (mB (mOp (fEq false) (mCall sp_law_draw 2 (mCons (mVar 0) (mCons (mC (.int 3)) mNil))) (mC (.int 1)))) (mSeq (mAsg (mCall sp_law_draw 2 (mCons (mVar 0) (mCons (mCB fLen (mCons (mOp fIx (mVar 1) (mC (.int 0))) mNil)) mNil))) (tgName 4))
    (mAsg (mOp fAdd (mOp fAdd (mSlice (mOp fIx (mVar 1) (mC (.int 0))) mNone (mSome (mVar 4))) (mSlice (mVar 3) mNone (mSome (mC (.int 1))))) (mSlice (mOp fIx (mVar 1) (mC (.int 0))) (mSome (mOp fAdd (mVar 4) (mC (.int 1)))) mNone)) (tgName 3))) mNext)
    (mDrop (mApp (mVar 1) (mCons (mVar 3) mNil))))))
    (mRet (mVar 1))))
/-- _law_odd_name(pool, name); names: 0 pool, 1 name, 2 at, 3 signs, 4 sign, 5 size, 6 odd -/
def m_law_odd_name : MS :=
    (mSeq (mAsg (mCall sp_law_draw 2 (mCons (mVar 0) (mCons (mOp fAdd (mCB fLen (mCons (mVar 1) mNil)) (mC (.int 1))) mNil))) (tgName 2))
    (mSeq (mAsg (mC (.str " !\"#$&'()*+,-./0123456789:;<=>?@ABCDEFGHIJKLMNOPQRSTUVWXYZ[\\]^_`")) (tgName 3))
    (mSeq (mAsg (mOp fAdd (mVar 3) (mC (.str "abcdefghijklmnopqrstuvwxyz{|}~\n\t"))) (tgName 3))
    (mSeq (mAsg (mOp fIx (mVar 3) (mCall sp_law_draw 2 (mCons (mVar 0) (mCons (mC (.int 96)) mNil)))) (tgName 4))
    (mSeq (mAsg (mOp fAdd (mC (.int 20)) (mCB fMin1 (mCons (mC (.int 1)) (mCons (mCall sp_law_draw 2 (mCons (mVar 0) (mCons (mC (.int 3)) mNil))) mNil)))) (tgName 5))
    (mSeq (mAsg (mLst (mCons (mC (.str "")) (mCons (mSlice (mOp fAdd (mVar 1) (mOp fMul (mC (.str "a")) (mC (.int 20)))) mNone (mSome (mVar 5))) (mCons (mSlice (mOp fAdd (mVar 1) (mOp fMul (mC (.str "z9")) (mC (.int 10)))) mNone (mSome (mVar 5))) (mCons (mOp fAdd (mC (.str "7")) (mVar 1)) (mCons (mOp fAdd (mVar 1) (mC (.str "_"))) mNil)))))) (tgName 6))
    (mSeq (mAsg (mOp fAdd (mVar 6) (mLst (mCons (mOp fAdd (mSlice (mVar 1) mNone (mSome (mVar 2))) (mSM0 fUpper (mSlice (mVar 1) (mSome (mVar 2)) mNone))) (mCons (mOp fAdd (mOp fAdd (mSlice (mVar 1) mNone (mSome (mVar 2))) (mVar 4)) (mSlice (mVar 1) (mSome (mVar 2)) mNone)) mNil)))) (tgName 6))
    (mSeq (mDrop (mApp (mVar 6) (mCons (mOp fAdd (mOp fAdd (mSlice (mVar 1) mNone (mSome (mVar 2))) (mVar 4)) (mSlice (mVar 1) (mSome (mOp fAdd (mVar 2) (mC (.int 1)))) mNone)) mNil)))
    (mRet (mOp fIx (mVar 6) (mCall sp_law_draw 2 (mCons (mVar 0) (mCons (mC (.int 8)) mNil)))))))))))))
/-- _law_is_name(word); names: 0 word, 1 sign -/
def m_law_is_name : MS :=
    (mSeq (mIf (mOr (mB (mOp fLt (mCB fLen (mCons (mVar 0) mNil)) (mC (.int 1)))) (mOr (mB (mOp fGt (mCB fLen (mCons (mVar 0) mNil)) (mC (.int 20)))) (mB (mOp (fIn true) (mOp fIx (mVar 0) (mC (.int 0))) (mC (.str "abcdefghijklmnopqrstuvwxyz")))))) (mRet (mC (.bl false))) mNext)
    (mSeq (mFor (iSeq (mVar 0)) (tgName 1) (mIf (mB (mOp (fIn true) (mVar 1) (mC (.str "abcdefghijklmnopqrstuvwxyz0123456789")))) (mRet (mC (.bl false))) mNext))
    (mRet (mC (.bl true)))))
/-- _law_book(pool); names: 0 pool, 1 names, 2 states, 3 spread, 4 near, 5 tame, 6 first, 7 choices, 8 k, 9 home, 10 name, 11 choice, 12 alike, 13 c -/
def m_law_book : MS :=
    (mSeq (mAsg (mCall sp_law_names 1 (mCons (mVar 0) mNil)) (tgName 1))
    (mSeq (mAsg (mOp fAdd (mC (.int 1)) (mCall sp_law_draw 2 (mCons (mVar 0) (mCons (mC (.int 5)) mNil)))) (tgName 2))
    (mSeq (mIf (mB (mOp (fEq false) (mCall sp_law_draw 2 (mCons (mVar 0) (mCons (mC (.int 8)) mNil))) (mC (.int 1)))) (mAsg (mOp fIx (mLst (mCons (mC (.int 600)) (mCons (mC (.int 599)) (mCons (mC (.int 128)) mNil)))) (mCall sp_law_draw 2 (mCons (mVar 0) (mCons (mC (.int 3)) mNil)))) (tgName 2)) mNext)
    (mSeq (mAsg (mOp fIx (mLst (mCons (mC (.int 1)) (mCons (mC (.int 2)) (mCons (mC (.int 8)) mNil)))) (mCall sp_law_draw 2 (mCons (mVar 0) (mCons (mC (.int 3)) mNil)))) (tgName 3))
    (mSeq (mAsg (mOp fIx (mLst (mCons (mC (.int 1)) (mCons (mC (.int 2)) (mCons (mVar 2) mNil)))) (mCall sp_law_draw 2 (mCons (mVar 0) (mCons (mC (.int 3)) mNil)))) (tgName 4))
    (mSeq (mAsg (mOp fGt (mCall sp_law_draw 2 (mCons (mVar 0) (mCons (mC (.int 4)) mNil))) (mC (.int 0))) (tgName 5))
    (mSeq (mAsg (mCall sp_law_draw 2 (mCons (mVar 0) (mCons (mVar 2) mNil))) (tgName 6))
    (mSeq (mAsg (mLst mNil) (tgName 7))
    (mSeq (mFor (iR1 (mCons (mCall sp_law_draw 2 (mCons (mVar 0) (mCons (mC (.int 13)) mNil))) mNil)) (tgName 8) (mSeq (mAsg (mOp fSub (mOp fSub (mVar 2) (mC (.int 1))) (mCall sp_law_draw 2 (mCons (mVar 0) (mCons (mCB fMin1 (mCons (mVar 4) (mCons (mVar 2) mNil))) mNil)))) (tgName 9))
    (mSeq (mAsg (mOp fIx (mVar 1) (mCall sp_law_draw 2 (mCons (mVar 0) (mCons (mCB fLen (mCons (mVar 1) mNil)) mNil)))) (tgName 10))
    (mSeq (mAsg (mTup (mCons (mVar 10) (mCons (mVar 9) (mCons (mOp fSub (mC (.int 7)) (mCall sp_law_draw 2 (mCons (mVar 0) (mCons (mVar 3) mNil)))) (mCons (mCall sp_law_draw 2 (mCons (mVar 0) (mCons (mVar 2) mNil))) (mCons (mCall sp_law_draw 2 (mCons (mVar 0) (mCons (mC (.int 8)) mNil))) mNil)))))) (tgName 11))
    (mSeq (mAsg (mComp (iSeq (mVar 7)) (.one 13) (mB (mOp (fEq false) (mSlice (mVar 13) mNone (mSome (mC (.int 3)))) (mSlice (mVar 11) mNone (mSome (mC (.int 3)))))) (mVar 13)) (tgName 12))
    (mIf (mOr (mNot (mTru (mVar 5))) (mAnd (mB (mOp (fIn true) (mVar 11) (mVar 7))) (mB (mOp fLt (mCB fLen (mCons (mVar 12) mNil)) (mC (.int 4)))))) (mDrop (mApp (mVar 7) (mCons (mVar 11) mNil))) mNext))))))
    (mRet (mTup (mCons (mVar 2) (mCons (mVar 6) (mCons (mVar 7) mNil))))))))))))))
/-- _law_more_options(pool, states, choices, at); names: 0 pool, 1 states, 2 choices, 3 at, 4 key, 5 many, 6 k, 7 choice, 8 alike, 9 c -/
def m_law_more_options : MS :=
    (mSeq (mAsg (mSlice (mOp fIx (mVar 2) (mVar 3)) mNone (mSome (mC (.int 3)))) (tgName 4))
    (mSeq (mAsg (mOp fAdd (mC (.int 4)) (mCall sp_law_draw 2 (mCons (mVar 0) (mCons (mC (.int 2)) mNil)))) (tgName 5))
    (mSeq (mFor (iR1 (mCons (mC (.int 8)) mNil)) (tgName 6) (mSeq (mAsg (mOp fAdd (mVar 4) (mTup (mCons (mOp fMul (mOp fSub (mVar 1) (mC (.int 1))) (mCB fInt1 (mCons (mOp (fEq false) (mOp fMod (mCB fInt1 (mCons (mVar 6) mNil)) (mC (.int 2))) (mC (.int 1))) mNil))) (mCons (mCB fInt1 (mCons (mVar 6) mNil)) mNil)))) (tgName 7))
    (mSeq (mAsg (mComp (iSeq (mVar 2)) (.one 9) (mB (mOp (fEq false) (mSlice (mVar 9) mNone (mSome (mC (.int 3)))) (mVar 4))) (mVar 9)) (tgName 8))
    (mIf (mAnd (mB (mOp (fIn true) (mVar 7) (mVar 2))) (mB (mOp fLt (mCB fLen (mCons (mVar 8) mNil)) (mVar 5)))) (mAsg (mOp fAdd (mVar 2) (mLst (mCons (mVar 7) mNil))) (tgName 2)) mNext))))
    (mRet (mVar 2)))))
/-- _law_bent(pool, book); names: 0 pool, 1 book, 2 states, 3 first, 4 choices, 5 way, 6 far, 7 at, 8 choice, 9 place, 10 bound, 11 value, 12 to -/
def m_law_bent : MS :=
    (mSeq (mAsg (mVar 1) (tgTup 3 (tgCons (tgName 2) (tgCons (tgName 3) (tgCons (tgName 4) tgNil)))))
    (mSeq (mAsg (mCall sp_law_draw 2 (mCons (mVar 0) (mCons (mC (.int 9)) mNil))) (tgName 5))
    (mSeq (mAsg (mOp fIx (mLst (mCons (mOp fPow (mC (.int 10)) (mC (.int 9))) (mCons (mOp fPow (mC (.int 10)) (mC (.int 30))) mNil))) (mCall sp_law_draw 2 (mCons (mVar 0) (mCons (mC (.int 2)) mNil)))) (tgName 6))
    (mSeq (mIf (mB (mOp (fEq false) (mVar 5) (mC (.int 2)))) (mRet (mTup (mCons (mOp fIx (mLst (mCons (mC (.int 0)) (mCons (mC (.int 601)) (mCons (mUn fNeg (mC (.int 1))) (mCons (mC (.int 600)) (mCons (mC (.int 1)) (mCons (mVar 6) mNil))))))) (mCall sp_law_draw 2 (mCons (mVar 0) (mCons (mC (.int 6)) mNil)))) (mCons (mVar 3) (mCons (mVar 4) mNil))))) mNext)
    (mSeq (mIf (mB (mOp (fEq false) (mVar 5) (mC (.int 3)))) (mRet (mTup (mCons (mVar 2) (mCons (mOp fIx (mLst (mCons (mUn fNeg (mC (.int 1))) (mCons (mVar 2) (mCons (mOp fSub (mVar 2) (mC (.int 1))) (mCons (mVar 6) (mCons (mUn fNeg (mVar 6)) mNil)))))) (mCall sp_law_draw 2 (mCons (mVar 0) (mCons (mC (.int 5)) mNil)))) (mCons (mVar 4) mNil))))) mNext)
    (mSeq (mIf (mOr (mB (mOp fLt (mVar 5) (mC (.int 2)))) (mB (mOp (fEq false) (mCB fLen (mCons (mVar 4) mNil)) (mC (.int 0))))) (mRet (mVar 1)) mNext)
    (mSeq (mAsg (mCall sp_law_draw 2 (mCons (mVar 0) (mCons (mCB fLen (mCons (mVar 4) mNil)) mNil))) (tgName 7))
    (mSeq (mAsg (mOp fIx (mVar 4) (mVar 7)) (tgName 8))
    (mSeq (mIf (mOr (mB (mOp (fEq false) (mVar 5) (mC (.int 4)))) (mB (mOp (fEq false) (mVar 5) (mC (.int 5))))) (mSeq (mAsg (mOp fAdd (mC (.int 1)) (mCall sp_law_draw 2 (mCons (mVar 0) (mCons (mC (.int 4)) mNil)))) (tgName 9))
    (mSeq (mAsg (mOp fIx (mLst (mCons (mVar 2) (mCons (mC (.int 8)) mNil))) (mCB fInt1 (mCons (mOp (fEq false) (mOp fMod (mCB fInt1 (mCons (mVar 9) mNil)) (mC (.int 2))) (mC (.int 0))) mNil))) (tgName 10))
    (mSeq (mAsg (mOp fIx (mLst (mCons (mUn fNeg (mC (.int 1))) (mCons (mVar 10) (mCons (mVar 10) (mCons (mOp fSub (mVar 10) (mC (.int 1))) (mCons (mVar 6) (mCons (mUn fNeg (mVar 6)) mNil))))))) (mCall sp_law_draw 2 (mCons (mVar 0) (mCons (mC (.int 6)) mNil)))) (tgName 11))
    (mAsg (mOp fAdd (mOp fAdd (mSlice (mVar 4) mNone (mSome (mVar 7))) (mLst (mCons (mOp fAdd (mOp fAdd (mSlice (mVar 8) mNone (mSome (mVar 9))) (mTup (mCons (mVar 11) mNil))) (mSlice (mVar 8) (mSome (mOp fAdd (mVar 9) (mC (.int 1)))) mNone)) mNil))) (mSlice (mVar 4) (mSome (mOp fAdd (mVar 7) (mC (.int 1)))) mNone)) (tgName 4))))) (mIf (mB (mOp (fEq false) (mVar 5) (mC (.int 6)))) (mAsg (mOp fAdd (mOp fAdd (mSlice (mVar 4) mNone (mSome (mVar 7))) (mLst (mCons (mOp fAdd (mTup (mCons (mCall sp_law_odd_name 2 (mCons (mVar 0) (mCons (mOp fIx (mVar 8) (mC (.int 0))) mNil))) mNil)) (mSlice (mVar 8) (mSome (mC (.int 1))) mNone)) mNil))) (mSlice (mVar 4) (mSome (mOp fAdd (mVar 7) (mC (.int 1)))) mNone)) (tgName 4)) (mIf (mB (mOp (fEq false) (mVar 5) (mC (.int 7)))) (mSeq (mAsg (mCall sp_law_draw 2 (mCons (mVar 0) (mCons (mOp fAdd (mCB fLen (mCons (mVar 4) mNil)) (mC (.int 1))) mNil))) (tgName 12))
    (mAsg (mOp fAdd (mOp fAdd (mSlice (mVar 4) mNone (mSome (mVar 12))) (mLst (mCons (mVar 8) mNil))) (mSlice (mVar 4) (mSome (mVar 12)) mNone)) (tgName 4))) (mAsg (mCall sp_law_more_options 4 (mCons (mVar 0) (mCons (mVar 2) (mCons (mVar 4) (mCons (mVar 7) mNil))))) (tgName 4)))))
    (mRet (mTup (mCons (mVar 2) (mCons (mVar 3) (mCons (mVar 4) mNil))))))))))))))
/-- _law_is_book(book); names: 0 book, 1 states, 2 first, 3 choices, 4 c, 5 d -/
def m_law_is_book : MS :=
    (mSeq (mAsg (mVar 0) (tgTup 3 (tgCons (tgName 1) (tgCons (tgName 2) (tgCons (tgName 3) tgNil)))))
    (mSeq (mIf (mOr (mB (mOp fLt (mVar 1) (mC (.int 1)))) (mOr (mB (mOp fGt (mVar 1) (mC (.int 600)))) (mOr (mB (mOp fLt (mVar 2) (mC (.int 0)))) (mB (mOp fGe (mVar 2) (mVar 1)))))) (mRet (mC (.bl false))) mNext)
    (mSeq (mFor (iSeq (mVar 3)) (tgName 4) (mSeq (mIf (mOr (mNot (mTru (mCall sp_law_is_name 1 (mCons (mOp fIx (mVar 4) (mC (.int 0))) mNil)))) (mOr (mB (mOp fLt (mCB fMin1 (mCons (mSlice (mVar 4) (mSome (mC (.int 1))) mNone) mNil)) (mC (.int 0)))) (mOr (mB (mOp fGe (mCB fMax1 (mCons (mOp fIx (mVar 4) (mC (.int 1))) (mCons (mOp fIx (mVar 4) (mC (.int 3))) mNil))) (mVar 1))) (mB (mOp fGt (mCB fMax1 (mCons (mOp fIx (mVar 4) (mC (.int 2))) (mCons (mOp fIx (mVar 4) (mC (.int 4))) mNil))) (mC (.int 7))))))) (mRet (mC (.bl false))) mNext)
    (mIf (mOr (mB (mOp fGt (mCB fLen (mCons (mComp (iSeq (mVar 3)) (.one 5) (mB (mOp (fEq false) (mVar 5) (mVar 4))) (mVar 5)) mNil)) (mC (.int 1)))) (mB (mOp fGt (mCB fLen (mCons (mComp (iSeq (mVar 3)) (.one 5) (mB (mOp (fEq false) (mSlice (mVar 5) mNone (mSome (mC (.int 3)))) (mSlice (mVar 4) mNone (mSome (mC (.int 3)))))) (mVar 5)) mNil)) (mC (.int 4))))) (mRet (mC (.bl false))) mNext)))
    (mRet (mC (.bl true))))))
/-- _law_handed(choices, how); names: 0 choices, 1 how, 2 choice -/
def m_law_handed : MS :=
    (mSeq (mIf (mB (mOp (fEq false) (mVar 1) (mC (.int 0)))) (mRet (mComp (iSeq (mVar 0)) (.one 2) mYes (mCB fList1 (mCons (mVar 2) mNil)))) mNext)
    (mSeq (mIf (mB (mOp (fEq false) (mVar 1) (mC (.int 1)))) (mRet (mCB fList1 (mCons (mVar 0) mNil))) mNext)
    (mSeq (mIf (mB (mOp (fEq false) (mVar 1) (mC (.int 2)))) (mRet (mTupOf (mComp (iSeq (mVar 0)) (.one 2) mYes (mCB fList1 (mCons (mVar 2) mNil))))) mNext)
    (mRet (mTupOf (mVar 0))))))
/-- _law_spoil(given, how); names: 0 given, 1 how, 2 k, 3 row -/
def m_law_spoil : MS :=
    (mSeq (mIf (mOr (mB (mOp (fEq false) (mVar 1) (mC (.int 0)))) (mB (mOp (fEq false) (mVar 1) (mC (.int 2))))) (mFor (iR1 (mCons (mCB fLen (mCons (mVar 0) mNil)) mNil)) (tgName 2) (mSeq (mAsg (mOp fIx (mVar 0) (mVar 2)) (tgName 3))
    (mSeq (mAsg (mC (.str "zz")) (tgIx (mVar 3) (mC (.int 0))))
    (mSeq (mAsg (mC (.int 0)) (tgIx (mVar 3) (mC (.int 3))))
    (mDrop (mApp (mVar 3) (mCons (mC (.int 1)) mNil))))))) mNext)
    (mIf (mB (mOp fLt (mVar 1) (mC (.int 2)))) (mDrop (mApp (mVar 0) (mCons (mTup (mCons (mC (.str "zz")) (mCons (mC (.int 0)) (mCons (mC (.int 0)) (mCons (mC (.int 0)) (mCons (mC (.int 0)) mNil)))))) mNil))) mNext))
/-- _law_refused(states, first, given); names: 0 states, 1 first, 2 given, 3 good, 4 e -/
def m_law_refused : MS :=
    (mSeq (mAsg (mC (.bl false)) (tgName 3))
    (mSeq (mTry 4 t_exs (mDrop (mMake "PlainBook" sp_PlainBook_init 3 [] (mCons (mVar 0) (mCons (mVar 1) (mCons (mVar 2) mNil))))) fun C fs a => sui fs (some (mSeq (mAsg (mAndV (mIsE 4 a (decide (C = "BadBook"))) (mIsE 4 a true)) (tgName 3))
    (mIf (mTru (mIsE 4 a (decide (C ∈ (["BadShare", "BadText", "BadMove", "BadProgram", "BadPlan", "Unfit", "TooLarge", "BadEdit"] : List Str))))) (mAsg (mC (.bl false)) (tgName 3)) mNext))))
    (mRet (mVar 3))))
/-- _law_options_hold(told, choices, key); names: 0 told, 1 choices, 2 key, 3 due, 4 c, 5 got -/
def m_law_options_hold : MS :=
    (mSeq (mAsg (mComp (iSeq (mVar 1)) (.one 4) (mB (mOp (fEq false) (mSlice (mVar 4) mNone (mSome (mC (.int 3)))) (mVar 2))) (mTup (mCons (mOp fIx (mVar 4) (mC (.int 3))) (mCons (mOp fIx (mVar 4) (mC (.int 4))) mNil)))) (tgName 3))
    (mSeq (mAsg (mMeth "PlainBook" "options" sp_PlainBook_options 3 (mVar 0) (mCons (mOp fIx (mVar 2) (mC (.int 0))) (mCons (mOp fIx (mVar 2) (mC (.int 1))) (mCons (mOp fIx (mVar 2) (mC (.int 2))) mNil)))) (tgName 5))
    (mSeq (mIf (mNot (mTru (mCall (sp_law_same 4) 2 (mCons (mVar 5) (mCons (mVar 3) mNil))))) (mRet (mC (.bl false))) mNext)
    (mSeq (mDrop (mApp (mVar 5) (mCons (mTup (mCons (mC (.int 0)) (mCons (mC (.int 0)) mNil))) mNil)))
    (mRet (mCall (sp_law_same 4) 2 (mCons (mMeth "PlainBook" "options" sp_PlainBook_options 3 (mVar 0) (mCons (mOp fIx (mVar 2) (mC (.int 0))) (mCons (mOp fIx (mVar 2) (mC (.int 1))) (mCons (mOp fIx (mVar 2) (mC (.int 2))) mNil)))) (mCons (mVar 3) mNil))))))))
/-- _law_keeps(told, book, keys); names: 0 told, 1 book, 2 keys, 3 states, 4 first, 5 choices, 6 single, 7 c, 8 d, 9 key -/
def m_law_keeps : MS :=
    (mSeq (mAsg (mVar 1) (tgTup 3 (tgCons (tgName 3) (tgCons (tgName 4) (tgCons (tgName 5) tgNil)))))
    (mSeq (mIf (mNot (mTru (mCall (sp_law_same 4) 2 (mCons (mTup (mCons (mFld t_tab "states" (mVar 0)) (mCons (mFld t_tab "first" (mVar 0)) (mCons (mFld t_tab "choices" (mVar 0)) mNil)))) (mCons (mTup (mCons (mVar 3) (mCons (mVar 4) (mCons (mTupOf (mVar 5)) mNil)))) mNil))))) (mRet (mC (.bl false))) mNext)
    (mSeq (mAsg (mC (.bl true)) (tgName 6))
    (mSeq (mFor (iSeq (mVar 5)) (tgName 7) (mAsg (mAndV (mVar 6) (mOp (fEq false) (mCB fLen (mCons (mComp (iSeq (mVar 5)) (.one 8) (mB (mOp (fEq false) (mSlice (mVar 8) mNone (mSome (mC (.int 3)))) (mSlice (mVar 7) mNone (mSome (mC (.int 3)))))) (mVar 8)) mNil)) (mC (.int 1)))) (tgName 6)))
    (mSeq (mIf (mNot (mTru (mCall (sp_law_same 4) 2 (mCons (mProp "PlainBook" sp_PlainBook_deterministic (mVar 0)) (mCons (mVar 6) mNil))))) (mRet (mC (.bl false))) mNext)
    (mSeq (mFor (iSeq (mVar 2)) (tgName 9) (mIf (mNot (mTru (mCall sp_law_options_hold 3 (mCons (mVar 0) (mCons (mVar 5) (mCons (mVar 9) mNil)))))) (mRet (mC (.bl false))) mNext))
    (mRet (mC (.bl true)))))))))
/-- _law_keys(choices); names: 0 choices, 1 strange, 2 c, 3 keys -/
def m_law_keys : MS :=
    (mSeq (mAsg (mC (.str "a")) (tgName 1))
    (mSeq (mFor (iSeq (mVar 0)) (tgName 2) (mIf (mB (mOp fGe (mCB fLen (mCons (mOp fIx (mVar 2) (mC (.int 0))) mNil)) (mCB fLen (mCons (mVar 1) mNil)))) (mAsg (mOp fAdd (mOp fIx (mVar 2) (mC (.int 0))) (mC (.str "a"))) (tgName 1)) mNext))
    (mSeq (mAsg (mLst (mCons (mTup (mCons (mVar 1) (mCons (mC (.int 0)) (mCons (mC (.int 0)) mNil)))) mNil)) (tgName 3))
    (mSeq (mFor (iSeq (mVar 0)) (tgName 2) (mAsg (mOp fAdd (mVar 3) (mLst (mCons (mSlice (mVar 2) mNone (mSome (mC (.int 3)))) (mCons (mTup (mCons (mOp fIx (mVar 2) (mC (.int 0))) (mCons (mOp fAdd (mOp fIx (mVar 2) (mC (.int 1))) (mC (.int 1))) (mCons (mOp fIx (mVar 2) (mC (.int 2))) mNil)))) (mCons (mTup (mCons (mOp fIx (mVar 2) (mC (.int 0))) (mCons (mOp fIx (mVar 2) (mC (.int 1))) (mCons (mOp fAdd (mOp fIx (mVar 2) (mC (.int 2))) (mC (.int 1))) mNil)))) (mCons (mTup (mCons (mOp fIx (mVar 2) (mC (.int 0))) (mCons (mUn fNeg (mC (.int 1))) (mCons (mOp fIx (mVar 2) (mC (.int 2))) mNil)))) (mCons (mTup (mCons (mVar 1) (mCons (mOp fIx (mVar 2) (mC (.int 1))) (mCons (mOp fIx (mVar 2) (mC (.int 2))) mNil)))) mNil))))))) (tgName 3)))
    (mRet (mVar 3))))))
/-- _law_book_holds(book, how); names: 0 book, 1 how, 2 states, 3 first, 4 choices, 5 given, 6 told, 7 c -/
def m_law_book_holds : MS :=
    (mSeq (mAsg (mVar 0) (tgTup 3 (tgCons (tgName 2) (tgCons (tgName 3) (tgCons (tgName 4) tgNil)))))
    (mSeq (mAsg (mCall sp_law_handed 2 (mCons (mVar 4) (mCons (mVar 1) mNil))) (tgName 5))
    (mSeq (mIf (mNot (mTru (mCall sp_law_is_book 1 (mCons (mVar 0) mNil)))) (mRet (mAndV (mCall sp_law_refused 3 (mCons (mVar 2) (mCons (mVar 3) (mCons (mVar 5) mNil)))) (mOp (fEq false) (mVar 5) (mCall sp_law_handed 2 (mCons (mVar 4) (mCons (mVar 1) mNil)))))) mNext)
    (mSeq (mAsg (mMake "PlainBook" sp_PlainBook_init 3 [] (mCons (mVar 2) (mCons (mVar 3) (mCons (mVar 5) mNil)))) (tgName 6))
    (mSeq (mIf (mOr (mB (mOp (fEq true) (mVar 5) (mCall sp_law_handed 2 (mCons (mVar 4) (mCons (mVar 1) mNil))))) (mNot (mTru (mCall sp_law_keeps 3 (mCons (mVar 6) (mCons (mVar 0) (mCons (mCall sp_law_keys 1 (mCons (mVar 4) mNil)) mNil))))))) (mRet (mC (.bl false))) mNext)
    (mSeq (mDrop (mCall sp_law_spoil 2 (mCons (mVar 5) (mCons (mVar 1) mNil))))
    (mRet (mCall sp_law_keeps 3 (mCons (mVar 6) (mCons (mVar 0) (mCons (mComp (iSeq (mVar 4)) (.one 7) mYes (mSlice (mVar 7) mNone (mSome (mC (.int 3))))) mNil)))))))))))
/-- law(script); names: 0 script, 1 book, 2 pool, 3 bent, 4 how -/
def m_law : MS :=
    (mSeq (mAsg (mCall sp_law_book 1 (mCons (mCall sp_law_stirred 2 (mCons (mVar 0) (mCons (mC (.int 0)) mNil))) mNil)) (tgName 1))
    (mSeq (mAsg (mCall sp_law_stirred 2 (mCons (mVar 0) (mCons (mC (.int 1)) mNil))) (tgName 2))
    (mSeq (mAsg (mCall sp_law_bent 2 (mCons (mVar 2) (mCons (mVar 1) mNil))) (tgName 3))
    (mSeq (mAsg (mCall sp_law_draw 2 (mCons (mVar 2) (mCons (mC (.int 4)) mNil))) (tgName 4))
    (mSeq (mIf (mOr (mNot (mTru (mCall sp_law_book_holds 2 (mCons (mVar 3) (mCons (mVar 4) mNil))))) (mNot (mTru (mCall sp_law_book_holds 2 (mCons (mVar 1) (mCons (mOp fSub (mC (.int 3)) (mVar 4)) mNil)))))) (mRet (mC (.bl false))) mNext)
    (mRet (mOrV (mCall sp_law_is_book 1 (mCons (mVar 3) mNil)) (mCall sp_law_book_holds 2 (mCons (mVar 3) (mCons (mOp fMod (mCB fInt1 (mCons (mOp fAdd (mVar 4) (mC (.int 1))) mNil)) (mC (.int 4))) mNil))))))))))
end K03

namespace K03
open PySem L2 L3 LY
theorem sg36 : ("abcdefghijklmnopqrstuvwxyz0123456789" : Str).length = 36 := by decide +kernel
theorem as36 : asc ("abcdefghijklmnopqrstuvwxyz0123456789" : Str) = true := by decide +kernel
theorem asc_upper {x : Str} (h : asc x = true) : asc (Txt.upper x) = true := by
  unfold asc at *
  rw [List.all_eq_true] at *
  intro c hc
  have e : cs (Txt.upper x) = (cs x).flatMap Unicode.upperOf := by
    unfold Txt.upper PySem.placed cs
    have e1 : (x.cps.mapIdx fun i c => (Unicode.upperOf c).toArray) = x.cps.map fun c => (Unicode.upperOf c).toArray := by
      apply Array.ext
      · simp
      · intro i h1 h2; simp
    rw [e1]
    simp [List.flatMap, Function.comp_def]
  rw [e] at hc
  obtain ⟨d, hd, hc⟩ := List.mem_flatMap.mp hc
  have hd2 : d < 128 := by simpa using h d hd
  rw [PyProof.Rows.upperOf_ascii d hd2] at hc
  simp at hc
  subst hc
  have : ∀ c, c < 128 → PyProof.Rows.up1 c < 128 := by decide +kernel
  simpa using this d hd2
local macro_rules | `(tactic| walk_at "PA03 S0") => `(tactic| (repeat' first | with_reducible refine w_seq ?_ | with_reducible refine w_sui ?_ | with_reducible refine w_next ?_ | with_reducible refine w_brk ?_ | with_reducible refine w_cont ?_ | with_reducible refine w_ret ?_ | with_reducible refine w_retN ?_ | with_reducible refine w_drop ?_ | with_reducible refine w_asg ?_ | with_reducible refine w_par ?_ | with_reducible refine w_setA ?_ | with_reducible refine w_raise ?_ | with_reducible refine w_for ?_ | with_reducible refine w_iSeq ?_ | with_reducible refine w_iR1 ?_ | with_reducible refine w_iR2 ?_ | with_reducible refine w_iVals ?_ | with_reducible refine w_itLst ?_ | with_reducible refine w_itTup ?_ | with_reducible refine w_itStr ?_ | with_reducible refine w_tgName ?_ | with_reducible refine w_tgIx ?_ | with_reducible refine w_tgCons ?_ | with_reducible refine w_tgNil ?_ | with_reducible refine w_un ?_ | with_reducible refine w_op ?_ | with_reducible refine w_B ?_ | with_reducible refine w_tru ?_ | with_reducible refine w_and ?_ | with_reducible refine w_or ?_ | with_reducible refine w_not ?_ | with_reducible refine w_andV ?_ | with_reducible refine w_orV ?_ | with_reducible refine w_notV ?_ | with_reducible refine w_ifE ?_ | with_reducible refine w_nil ?_ | with_reducible refine w_cons ?_ | with_reducible refine w_tup ?_ | with_reducible refine w_lst ?_ | with_reducible refine w_cb ?_ | with_reducible refine w_call ?_ | with_reducible refine w_slice ?_ | with_reducible refine w_oNone ?_ | with_reducible refine w_onBl ?_ | with_reducible refine w_onTruB ?_ | with_reducible refine w_kT ?_ | with_reducible refine w_kF ?_ | with_reducible refine w_fAdd ?_ | with_reducible refine w_fSub ?_ | with_reducible refine w_fNeg ?_ | with_reducible refine w_fLt ?_ | with_reducible refine w_fLe ?_ | with_reducible refine w_fGt ?_ | with_reducible refine w_fGe ?_ | with_reducible refine w_fEqI ?_ | with_reducible refine w_fNeI ?_ | with_reducible refine w_fEqB ?_ | with_reducible refine w_fEqS ?_ | with_reducible refine w_fInt ?_ | with_reducible refine w_fIntB ?_ | with_reducible refine w_fAbs ?_ | with_reducible refine w_fMax ?_ | with_reducible refine w_fMin ?_ | with_reducible refine w_fGcd ?_ | with_reducible refine w_fLenL ?_ | with_reducible refine w_fLenT ?_ | with_reducible refine w_own ?_ | with_reducible refine w_ownI ?_ | with_reducible refine w_eqOwnI ?_ | with_reducible refine w_c ?_ | with_reducible refine w_make ?_ | with_reducible refine w_makeK ?_ | with_reducible refine w_par2 ?_ | with_reducible refine w_slLst ?_ | with_reducible refine w_p10_6 ?_ | with_reducible refine w_p10_8 ?_ | with_reducible refine w_p10_18 ?_ | with_reducible refine w_p10_30 ?_ | with_reducible refine w_p10_51 ?_ | with_reducible refine w_p10_59 ?_ | with_reducible refine w_p10_60 ?_ | with_reducible refine w_p2_63 ?_ | with_reducible refine w_p2_64 ?_ | with_reducible refine w_comp ?_ | with_reducible refine w_meth ?_ | with_reducible refine w_app ?_ | with_reducible refine w_tupOf ?_ | with_reducible refine w_tupL ?_ | with_reducible refine w_tupT ?_ | with_reducible refine w_sm ?_ | with_reducible refine w_sm0 ?_ | with_reducible refine w_isStr ?_ | with_reducible refine w_find ?_ | with_reducible refine w_starts ?_ | with_reducible refine w_isascii ?_ | with_reducible refine w_isdigit ?_ | with_reducible refine w_str1S ?_ | with_reducible refine w_strO ?_ | with_reducible refine w_fmt ?_ | with_reducible refine w_join ?_ | with_reducible refine w_jsNil ?_ | with_reducible refine w_jsCons ?_ | with_reducible refine w_inS ?_ | with_reducible refine w_notInS ?_ | with_reducible refine w_statI ?_ | with_reducible refine w_fNeS ?_ | with_reducible refine w_yes ?_ | with_reducible refine w_get2 ?_ | with_reducible refine w_get1 ?_ | with_reducible refine w_prop ?_ | with_reducible refine w_put1 ?_ | with_reducible refine w_list1L ?_ | with_reducible refine w_list1T ?_ | with_reducible refine w_fIsN ?_ | with_reducible refine w_retL ?_ | with_reducible refine w_valsT ?_ | with_reducible refine w_valsK ?_ | with_reducible refine w_chain ?_ | ((with_reducible apply w_var); exact rfl) | ((with_reducible apply w_isE); exact rfl) | ((with_reducible apply w_onTru); exact rfl) | ((with_reducible apply w_tgTup); exact rfl) | ((with_reducible refine w_fPow ?_ ?_); exact ⟨by decide, by decide, by decide⟩) | (with_reducible refine w_fMod (by decide) ?_) | ((with_reducible apply w_fIxT); exact rfl) | ((with_reducible apply w_fIxL); exact rfl) | (with_reducible refine w_oSome ?_) | ((with_reducible apply w_fIxC); (first | with_reducible exact put_same | assumption); exact rfl) | ((with_reducible apply w_fLenC); (first | with_reducible exact put_same | assumption)) | ((with_reducible apply w_setL); (first | with_reducible exact put_same | assumption); exact rfl) | (with_reducible refine w_fLenS (by omega) ?_) | (with_reducible refine w_slStr (by omega) ?_) | (with_reducible refine w_fAddS (by omega) ?_) | (with_reducible refine w_remPre (by omega) ?_) | (with_reducible refine w_fmtS (by omega) ?_) | ((with_reducible apply w_itC); (first | with_reducible exact put_same | assumption)) | ((with_reducible apply w_list1C); (first | with_reducible exact put_same | assumption)) | ((with_reducible apply w_tupC); (first | with_reducible exact put_same | assumption)) | ((with_reducible apply w_slC); (first | with_reducible exact put_same | assumption)) | ((with_reducible apply w_isTc); (first | with_reducible exact put_same | assumption)) | (with_reducible refine w_drw (by assumption) (by omega) (by omega) (fun _ _ _ _ _ => ?_)) | (with_reducible refine w_fMul (mulR (by decide)) ?_) | (with_reducible refine w_fMul (mulL (by omega)) ?_) | (with_reducible refine w_fMul (mulR (by omega)) ?_) | (with_reducible refine w_fDiv (dv30 (by omega) (by omega)) ?_) | (with_reducible refine w_fMod (by omega) ?_) | ((with_reducible refine And.intro (a := List.length _ ≤ sizeLine) ?_ ?_); exact Nat.le_of_ble_eq_true rfl) | (with_reducible refine And.intro (a := List.length _ = _) rfl ?_) | (with_reducible refine w_fld ?_) | (with_reducible refine w_isT ?_) | (with_reducible refine w_isO ?_) | ((with_reducible refine Exists.intro ?_ (And.intro (a := fldD _ _ _ _ = _) ?_ ?_)); rotate_left; first | exact rfl) | ((with_reducible refine Exists.intro ?_ (And.intro (a := isT _ _ _ = _) ?_ ?_)); rotate_left; exact rfl) | ((with_reducible refine Exists.intro ?_ (And.intro (a := isO _ _ _ = _) ?_ ?_)); rotate_left; exact rfl) | ((with_reducible refine Exists.intro ?_ (And.intro (a := D.int _ = D.int _) ?_ ?_)); rotate_left; exact rfl) | ((with_reducible refine w_kT' (k := T3.isInt _) ?_ ?_); exact rfl) | ((with_reducible refine w_kT' (k := !T3.isInt _) ?_ ?_); exact rfl) | ((with_reducible refine w_kF' (k := T3.isInt _) ?_ ?_); exact rfl) | ((with_reducible refine w_kF' (k := !T3.isInt _) ?_ ?_); exact rfl) | ((with_reducible refine w_kT' (k := T3.isBl _) ?_ ?_); exact rfl) | ((with_reducible refine w_kT' (k := !T3.isBl _) ?_ ?_); exact rfl) | ((with_reducible refine w_kF' (k := T3.isBl _) ?_ ?_); exact rfl) | ((with_reducible refine w_kF' (k := !T3.isBl _) ?_ ?_); exact rfl) | ((with_reducible refine w_kT' (k := T3.isStr _) ?_ ?_); exact rfl) | ((with_reducible refine w_kT' (k := !T3.isStr _) ?_ ?_); exact rfl) | ((with_reducible refine w_kF' (k := T3.isStr _) ?_ ?_); exact rfl) | ((with_reducible refine w_kF' (k := !T3.isStr _) ?_ ?_); exact rfl) | ((with_reducible refine w_kT' (k := T3.isTup _) ?_ ?_); exact rfl) | ((with_reducible refine w_kT' (k := !T3.isTup _) ?_ ?_); exact rfl) | ((with_reducible refine w_kF' (k := T3.isTup _) ?_ ?_); exact rfl) | ((with_reducible refine w_kF' (k := !T3.isTup _) ?_ ?_); exact rfl) | ((with_reducible refine w_kT' (k := T3.isLst _) ?_ ?_); exact rfl) | ((with_reducible refine w_kT' (k := !T3.isLst _) ?_ ?_); exact rfl) | ((with_reducible refine w_kF' (k := T3.isLst _) ?_ ?_); exact rfl) | ((with_reducible refine w_kF' (k := !T3.isLst _) ?_ ?_); exact rfl) | ((with_reducible refine And.intro (a := insD _ _ _ _) ?_ ?_); (first | exact ⟨rfl, rfl⟩)) | ((with_reducible refine w_kT' (k := isNonD _ != _) ?_ ?_); exact rfl) | ((with_reducible refine w_kF' (k := isNonD _ != _) ?_ ?_); exact rfl) | (with_reducible refine w_kF' (k := !true) rfl ?_) | (with_reducible refine w_kT' (k := !false) rfl ?_) | ((with_reducible refine w_kT' (k := decide _) ?_ ?_); decide +kernel) | ((with_reducible refine w_kF' (k := decide _) ?_ ?_); decide +kernel)))
local macro_rules | `(tactic| walk_at "PA03 D1") => `(tactic| (repeat' first | with_reducible refine w_seq ?_ | with_reducible refine w_sui ?_ | with_reducible refine w_next ?_ | with_reducible refine w_brk ?_ | with_reducible refine w_cont ?_ | with_reducible refine w_ret ?_ | with_reducible refine w_retN ?_ | with_reducible refine w_drop ?_ | with_reducible refine w_if ?_ | with_reducible refine w_asg ?_ | with_reducible refine w_par ?_ | with_reducible refine w_setA ?_ | with_reducible refine w_raise ?_ | with_reducible refine w_for ?_ | with_reducible refine w_iSeq ?_ | with_reducible refine w_iR1 ?_ | with_reducible refine w_iR2 ?_ | with_reducible refine w_iVals ?_ | with_reducible refine w_itLst ?_ | with_reducible refine w_itTup ?_ | with_reducible refine w_itStr ?_ | with_reducible refine w_tgName ?_ | with_reducible refine w_tgIx ?_ | with_reducible refine w_tgCons ?_ | with_reducible refine w_tgNil ?_ | with_reducible refine w_un ?_ | with_reducible refine w_op ?_ | with_reducible refine w_B ?_ | with_reducible refine w_tru ?_ | with_reducible refine w_and ?_ | with_reducible refine w_or ?_ | with_reducible refine w_not ?_ | with_reducible refine w_andV ?_ | with_reducible refine w_orV ?_ | with_reducible refine w_notV ?_ | with_reducible refine w_ifE ?_ | with_reducible refine w_nil ?_ | with_reducible refine w_cons ?_ | with_reducible refine w_tup ?_ | with_reducible refine w_lst ?_ | with_reducible refine w_cb ?_ | with_reducible refine w_call ?_ | with_reducible refine w_slice ?_ | with_reducible refine w_oNone ?_ | with_reducible refine w_onBl ?_ | with_reducible refine w_onTruB ?_ | with_reducible refine w_kT ?_ | with_reducible refine w_kF ?_ | with_reducible refine w_fAdd ?_ | with_reducible refine w_fSub ?_ | with_reducible refine w_fNeg ?_ | with_reducible refine w_fLt ?_ | with_reducible refine w_fLe ?_ | with_reducible refine w_fGt ?_ | with_reducible refine w_fGe ?_ | with_reducible refine w_fEqI ?_ | with_reducible refine w_fNeI ?_ | with_reducible refine w_fEqB ?_ | with_reducible refine w_fEqS ?_ | with_reducible refine w_fInt ?_ | with_reducible refine w_fIntB ?_ | with_reducible refine w_fAbs ?_ | with_reducible refine w_fMax ?_ | with_reducible refine w_fMin ?_ | with_reducible refine w_fGcd ?_ | with_reducible refine w_fLenL ?_ | with_reducible refine w_fLenT ?_ | with_reducible refine w_own ?_ | with_reducible refine w_ownI ?_ | with_reducible refine w_eqOwnI ?_ | with_reducible refine w_c ?_ | with_reducible refine w_make ?_ | with_reducible refine w_makeK ?_ | with_reducible refine w_par2 ?_ | with_reducible refine w_slLst ?_ | with_reducible refine w_p10_6 ?_ | with_reducible refine w_p10_8 ?_ | with_reducible refine w_p10_18 ?_ | with_reducible refine w_p10_30 ?_ | with_reducible refine w_p10_51 ?_ | with_reducible refine w_p10_59 ?_ | with_reducible refine w_p10_60 ?_ | with_reducible refine w_p2_63 ?_ | with_reducible refine w_p2_64 ?_ | with_reducible refine w_comp ?_ | with_reducible refine w_meth ?_ | with_reducible refine w_app ?_ | with_reducible refine w_tupOf ?_ | with_reducible refine w_tupL ?_ | with_reducible refine w_tupT ?_ | with_reducible refine w_sm ?_ | with_reducible refine w_sm0 ?_ | with_reducible refine w_isStr ?_ | with_reducible refine w_find ?_ | with_reducible refine w_starts ?_ | with_reducible refine w_isascii ?_ | with_reducible refine w_isdigit ?_ | with_reducible refine w_str1S ?_ | with_reducible refine w_strO ?_ | with_reducible refine w_fmt ?_ | with_reducible refine w_join ?_ | with_reducible refine w_jsNil ?_ | with_reducible refine w_jsCons ?_ | with_reducible refine w_inS ?_ | with_reducible refine w_notInS ?_ | with_reducible refine w_statI ?_ | with_reducible refine w_fNeS ?_ | with_reducible refine w_yes ?_ | with_reducible refine w_get2 ?_ | with_reducible refine w_get1 ?_ | with_reducible refine w_prop ?_ | with_reducible refine w_put1 ?_ | with_reducible refine w_list1L ?_ | with_reducible refine w_list1T ?_ | with_reducible refine w_fIsN ?_ | with_reducible refine w_retL ?_ | with_reducible refine w_valsT ?_ | with_reducible refine w_valsK ?_ | with_reducible refine w_chain ?_ | ((with_reducible apply w_var); exact rfl) | ((with_reducible apply w_isE); exact rfl) | ((with_reducible apply w_onTru); exact rfl) | ((with_reducible apply w_tgTup); exact rfl) | ((with_reducible refine w_fPow ?_ ?_); exact ⟨by decide, by decide, by decide⟩) | (with_reducible refine w_fMod (by decide) ?_) | ((with_reducible apply w_fIxT); exact rfl) | ((with_reducible apply w_fIxL); exact rfl) | (with_reducible refine w_oSome ?_) | ((with_reducible apply w_fIxC); (first | with_reducible exact put_same | assumption); exact rfl) | ((with_reducible apply w_fLenC); (first | with_reducible exact put_same | assumption)) | ((with_reducible apply w_setL); (first | with_reducible exact put_same | assumption); exact rfl) | (with_reducible refine w_fLenS (by omega) ?_) | (with_reducible refine w_slStr (by omega) ?_) | (with_reducible refine w_fAddS (by omega) ?_) | (with_reducible refine w_remPre (by omega) ?_) | (with_reducible refine w_fmtS (by omega) ?_) | ((with_reducible apply w_itC); (first | with_reducible exact put_same | assumption)) | ((with_reducible apply w_list1C); (first | with_reducible exact put_same | assumption)) | ((with_reducible apply w_tupC); (first | with_reducible exact put_same | assumption)) | ((with_reducible apply w_slC); (first | with_reducible exact put_same | assumption)) | ((with_reducible apply w_isTc); (first | with_reducible exact put_same | assumption)) | (with_reducible refine w_drw (by assumption) (by omega) (by omega) (fun _ _ _ _ _ => ?_)) | (with_reducible refine w_fMul (mulR (by decide)) ?_) | (with_reducible refine w_fMul (mulL (by omega)) ?_) | (with_reducible refine w_fMul (mulR (by omega)) ?_) | (with_reducible refine w_fDiv (dv30 (by omega) (by omega)) ?_) | (with_reducible refine w_fMod (by omega) ?_) | ((with_reducible refine And.intro (a := List.length _ ≤ sizeLine) ?_ ?_); exact Nat.le_of_ble_eq_true rfl) | (with_reducible refine And.intro (a := List.length _ = _) rfl ?_) | (with_reducible refine w_fld ?_) | (with_reducible refine w_isT ?_) | (with_reducible refine w_isO ?_) | ((with_reducible refine Exists.intro ?_ (And.intro (a := fldD _ _ _ _ = _) ?_ ?_)); rotate_left; first | exact rfl) | ((with_reducible refine Exists.intro ?_ (And.intro (a := isT _ _ _ = _) ?_ ?_)); rotate_left; exact rfl) | ((with_reducible refine Exists.intro ?_ (And.intro (a := isO _ _ _ = _) ?_ ?_)); rotate_left; exact rfl) | ((with_reducible refine Exists.intro ?_ (And.intro (a := D.int _ = D.int _) ?_ ?_)); rotate_left; exact rfl) | ((with_reducible refine w_kT' (k := T3.isInt _) ?_ ?_); exact rfl) | ((with_reducible refine w_kT' (k := !T3.isInt _) ?_ ?_); exact rfl) | ((with_reducible refine w_kF' (k := T3.isInt _) ?_ ?_); exact rfl) | ((with_reducible refine w_kF' (k := !T3.isInt _) ?_ ?_); exact rfl) | ((with_reducible refine w_kT' (k := T3.isBl _) ?_ ?_); exact rfl) | ((with_reducible refine w_kT' (k := !T3.isBl _) ?_ ?_); exact rfl) | ((with_reducible refine w_kF' (k := T3.isBl _) ?_ ?_); exact rfl) | ((with_reducible refine w_kF' (k := !T3.isBl _) ?_ ?_); exact rfl) | ((with_reducible refine w_kT' (k := T3.isStr _) ?_ ?_); exact rfl) | ((with_reducible refine w_kT' (k := !T3.isStr _) ?_ ?_); exact rfl) | ((with_reducible refine w_kF' (k := T3.isStr _) ?_ ?_); exact rfl) | ((with_reducible refine w_kF' (k := !T3.isStr _) ?_ ?_); exact rfl) | ((with_reducible refine w_kT' (k := T3.isTup _) ?_ ?_); exact rfl) | ((with_reducible refine w_kT' (k := !T3.isTup _) ?_ ?_); exact rfl) | ((with_reducible refine w_kF' (k := T3.isTup _) ?_ ?_); exact rfl) | ((with_reducible refine w_kF' (k := !T3.isTup _) ?_ ?_); exact rfl) | ((with_reducible refine w_kT' (k := T3.isLst _) ?_ ?_); exact rfl) | ((with_reducible refine w_kT' (k := !T3.isLst _) ?_ ?_); exact rfl) | ((with_reducible refine w_kF' (k := T3.isLst _) ?_ ?_); exact rfl) | ((with_reducible refine w_kF' (k := !T3.isLst _) ?_ ?_); exact rfl) | ((with_reducible refine And.intro (a := insD _ _ _ _) ?_ ?_); (first | exact ⟨rfl, rfl⟩)) | ((with_reducible refine w_kT' (k := isNonD _ != _) ?_ ?_); exact rfl) | ((with_reducible refine w_kF' (k := isNonD _ != _) ?_ ?_); exact rfl) | (with_reducible refine w_kF' (k := !true) rfl ?_) | (with_reducible refine w_kT' (k := !false) rfl ?_) | ((with_reducible refine w_kT' (k := decide _) ?_ ?_); decide +kernel) | ((with_reducible refine w_kF' (k := decide _) ?_ ?_); decide +kernel)))
local macro_rules | `(tactic| walk_at "PA03 E2") => `(tactic| (repeat' first | with_reducible refine w_seq ?_ | with_reducible refine w_sui ?_ | with_reducible refine w_next ?_ | with_reducible refine w_brk ?_ | with_reducible refine w_cont ?_ | with_reducible refine w_ret ?_ | with_reducible refine w_retN ?_ | with_reducible refine w_drop ?_ | with_reducible refine w_if ?_ | with_reducible refine w_asg ?_ | with_reducible refine w_par ?_ | with_reducible refine w_setA ?_ | with_reducible refine w_raise ?_ | with_reducible refine w_for ?_ | with_reducible refine w_iSeq ?_ | with_reducible refine w_iR1 ?_ | with_reducible refine w_iR2 ?_ | with_reducible refine w_iVals ?_ | with_reducible refine w_itLst ?_ | with_reducible refine w_itTup ?_ | with_reducible refine w_itStr ?_ | with_reducible refine w_tgName ?_ | with_reducible refine w_tgIx ?_ | with_reducible refine w_tgCons ?_ | with_reducible refine w_tgNil ?_ | with_reducible refine w_un ?_ | with_reducible refine w_op ?_ | with_reducible refine w_B ?_ | with_reducible refine w_tru ?_ | with_reducible refine w_and ?_ | with_reducible refine w_or ?_ | with_reducible refine w_not ?_ | with_reducible refine w_andV ?_ | with_reducible refine w_orV ?_ | with_reducible refine w_notV ?_ | with_reducible refine w_ifE ?_ | with_reducible refine w_nil ?_ | with_reducible refine w_cons ?_ | with_reducible refine w_tup ?_ | with_reducible refine w_lst ?_ | with_reducible refine w_cb ?_ | with_reducible refine w_call ?_ | with_reducible refine w_slice ?_ | with_reducible refine w_oNone ?_ | with_reducible refine w_onBl ?_ | with_reducible refine w_onTruB ?_ | with_reducible refine w_kT ?_ | with_reducible refine w_kF ?_ | with_reducible refine w_fAdd ?_ | with_reducible refine w_fSub ?_ | with_reducible refine w_fNeg ?_ | with_reducible refine w_fLt ?_ | with_reducible refine w_fLe ?_ | with_reducible refine w_fGt ?_ | with_reducible refine w_fGe ?_ | with_reducible refine w_fEqI ?_ | with_reducible refine w_fNeI ?_ | with_reducible refine w_fEqB ?_ | with_reducible refine w_fEqS ?_ | with_reducible refine w_fInt ?_ | with_reducible refine w_fIntB ?_ | with_reducible refine w_fAbs ?_ | with_reducible refine w_fMax ?_ | with_reducible refine w_fMin ?_ | with_reducible refine w_fGcd ?_ | with_reducible refine w_fLenL ?_ | with_reducible refine w_fLenT ?_ | with_reducible refine w_own ?_ | with_reducible refine w_ownI ?_ | with_reducible refine w_eqOwnI ?_ | with_reducible refine w_c ?_ | with_reducible refine w_make ?_ | with_reducible refine w_makeK ?_ | with_reducible refine w_par2 ?_ | with_reducible refine w_slLst ?_ | with_reducible refine w_p10_6 ?_ | with_reducible refine w_p10_8 ?_ | with_reducible refine w_p10_18 ?_ | with_reducible refine w_p10_30 ?_ | with_reducible refine w_p10_51 ?_ | with_reducible refine w_p10_59 ?_ | with_reducible refine w_p10_60 ?_ | with_reducible refine w_p2_63 ?_ | with_reducible refine w_p2_64 ?_ | with_reducible refine w_comp ?_ | with_reducible refine w_meth ?_ | with_reducible refine w_app ?_ | with_reducible refine w_tupOf ?_ | with_reducible refine w_tupL ?_ | with_reducible refine w_tupT ?_ | with_reducible refine w_sm ?_ | with_reducible refine w_sm0 ?_ | with_reducible refine w_isStr ?_ | with_reducible refine w_find ?_ | with_reducible refine w_starts ?_ | with_reducible refine w_isascii ?_ | with_reducible refine w_isdigit ?_ | with_reducible refine w_str1S ?_ | with_reducible refine w_strO ?_ | with_reducible refine w_fmt ?_ | with_reducible refine w_join ?_ | with_reducible refine w_jsNil ?_ | with_reducible refine w_jsCons ?_ | with_reducible refine w_inS ?_ | with_reducible refine w_notInS ?_ | with_reducible refine w_statI ?_ | with_reducible refine w_fNeS ?_ | with_reducible refine w_yes ?_ | with_reducible refine w_get2 ?_ | with_reducible refine w_get1 ?_ | with_reducible refine w_prop ?_ | with_reducible refine w_put1 ?_ | with_reducible refine w_list1L ?_ | with_reducible refine w_list1T ?_ | with_reducible refine w_fIsN ?_ | with_reducible refine w_retL ?_ | with_reducible refine w_valsT ?_ | with_reducible refine w_valsK ?_ | with_reducible refine w_chain ?_ | ((with_reducible apply w_var); exact rfl) | ((with_reducible apply w_isE); exact rfl) | ((with_reducible apply w_onTru); exact rfl) | ((with_reducible apply w_tgTup); exact rfl) | ((with_reducible refine w_fPow ?_ ?_); exact ⟨by decide, by decide, by decide⟩) | (with_reducible refine w_fMod (by decide) ?_) | ((with_reducible apply w_fIxT); exact rfl) | ((with_reducible apply w_fIxL); exact rfl) | (with_reducible refine w_oSome ?_) | ((with_reducible apply w_fIxC); (first | with_reducible exact put_same | assumption); exact rfl) | ((with_reducible apply w_fLenC); (first | with_reducible exact put_same | assumption)) | ((with_reducible apply w_setL); (first | with_reducible exact put_same | assumption); exact rfl) | (with_reducible refine w_fLenS (by omega) ?_) | (with_reducible refine w_slStr (by omega) ?_) | (with_reducible refine w_fAddS (by omega) ?_) | (with_reducible refine w_remPre (by omega) ?_) | (with_reducible refine w_fmtS (by omega) ?_) | ((with_reducible apply w_itC); (first | with_reducible exact put_same | assumption)) | ((with_reducible apply w_list1C); (first | with_reducible exact put_same | assumption)) | ((with_reducible apply w_tupC); (first | with_reducible exact put_same | assumption)) | ((with_reducible apply w_slC); (first | with_reducible exact put_same | assumption)) | ((with_reducible apply w_isTc); (first | with_reducible exact put_same | assumption)) | (with_reducible refine w_drw (by assumption) (by omega) (by omega) (fun _ _ _ _ _ => ?_)) | (with_reducible refine w_fMul (mulR (by decide)) ?_) | (with_reducible refine w_fMul (mulL (by omega)) ?_) | (with_reducible refine w_fMul (mulR (by omega)) ?_) | (with_reducible refine w_fDiv (dv30 (by omega) (by omega)) ?_) | (with_reducible refine w_fMod (by omega) ?_) | ((with_reducible refine And.intro (a := List.length _ ≤ sizeLine) ?_ ?_); exact Nat.le_of_ble_eq_true rfl) | (with_reducible refine And.intro (a := List.length _ = _) rfl ?_) | (with_reducible refine w_fld ?_) | (with_reducible refine w_isT ?_) | (with_reducible refine w_isO ?_) | ((with_reducible refine Exists.intro ?_ (And.intro (a := fldD _ _ _ _ = _) ?_ ?_)); rotate_left; first | exact rfl) | ((with_reducible refine Exists.intro ?_ (And.intro (a := isT _ _ _ = _) ?_ ?_)); rotate_left; exact rfl) | ((with_reducible refine Exists.intro ?_ (And.intro (a := isO _ _ _ = _) ?_ ?_)); rotate_left; exact rfl) | ((with_reducible refine Exists.intro ?_ (And.intro (a := D.int _ = D.int _) ?_ ?_)); rotate_left; exact rfl) | ((with_reducible refine w_kT' (k := T3.isInt _) ?_ ?_); exact rfl) | ((with_reducible refine w_kT' (k := !T3.isInt _) ?_ ?_); exact rfl) | ((with_reducible refine w_kF' (k := T3.isInt _) ?_ ?_); exact rfl) | ((with_reducible refine w_kF' (k := !T3.isInt _) ?_ ?_); exact rfl) | ((with_reducible refine w_kT' (k := T3.isBl _) ?_ ?_); exact rfl) | ((with_reducible refine w_kT' (k := !T3.isBl _) ?_ ?_); exact rfl) | ((with_reducible refine w_kF' (k := T3.isBl _) ?_ ?_); exact rfl) | ((with_reducible refine w_kF' (k := !T3.isBl _) ?_ ?_); exact rfl) | ((with_reducible refine w_kT' (k := T3.isStr _) ?_ ?_); exact rfl) | ((with_reducible refine w_kT' (k := !T3.isStr _) ?_ ?_); exact rfl) | ((with_reducible refine w_kF' (k := T3.isStr _) ?_ ?_); exact rfl) | ((with_reducible refine w_kF' (k := !T3.isStr _) ?_ ?_); exact rfl) | ((with_reducible refine w_kT' (k := T3.isTup _) ?_ ?_); exact rfl) | ((with_reducible refine w_kT' (k := !T3.isTup _) ?_ ?_); exact rfl) | ((with_reducible refine w_kF' (k := T3.isTup _) ?_ ?_); exact rfl) | ((with_reducible refine w_kF' (k := !T3.isTup _) ?_ ?_); exact rfl) | ((with_reducible refine w_kT' (k := T3.isLst _) ?_ ?_); exact rfl) | ((with_reducible refine w_kT' (k := !T3.isLst _) ?_ ?_); exact rfl) | ((with_reducible refine w_kF' (k := T3.isLst _) ?_ ?_); exact rfl) | ((with_reducible refine w_kF' (k := !T3.isLst _) ?_ ?_); exact rfl) | ((with_reducible refine And.intro (a := insD _ _ _ _) ?_ ?_); (first | exact ⟨rfl, rfl⟩)) | ((with_reducible refine w_kT' (k := isNonD _ != _) ?_ ?_); exact rfl) | ((with_reducible refine w_kF' (k := isNonD _ != _) ?_ ?_); exact rfl) | (with_reducible refine w_kF' (k := !true) rfl ?_) | (with_reducible refine w_kT' (k := !false) rfl ?_) | ((with_reducible refine w_kT' (k := decide _) ?_ ?_); decide +kernel) | ((with_reducible refine w_kF' (k := decide _) ?_ ?_); decide +kernel) | (with_reducible refine w_k (fun _ => ?_) fun _ => ?_)))
theorem b_law_name : BodyOk ["pool", "signs", "size", "name", "k"] 1 sp_law_name m_law_name := by
  rintro ds O Z P hl ⟨p, rfl, hp, hq⟩
  show m_law_name (En.mk _ _ _ _ _) [some (.cell p), none, none, none, none] O
  unfold m_law_name
  have big := big_line
  have l36 := sg36
  have u0 := Upd.refl hp
  walk_at "PA03 S0"
  refine w_cut (fun Γ' O' => ∃ s : Int, 1 ≤ s ∧ s ≤ 20 ∧ Upd p O O' ∧ Γ' = [some (.cell p), some (.str "abcdefghijklmnopqrstuvwxyz0123456789"), some (.int s), none, none]) ?_ ?_
  · rintro Γ O1 ⟨s, s1, s2, u1, rfl⟩
    walk_at "PA03 D1"
    refine w_ixS (by omega) (by omega) (by omega) fun c hc => ?_
    walk_at "PA03 D1"
    refine w_rng1 (by omega) ?_
    refine w_forN (fun n lo Γ O4 => ∃ (z : Str) (k : Option D), z.length + n = s.toNat ∧ 1 ≤ z.length ∧ asc z = true ∧ Upd p O O4 ∧ Γ = [some (.cell p), some (.str "abcdefghijklmnopqrstuvwxyz0123456789"), some (.int s), some (.str z), k]) (fun _ _ _ _ _ => trivial) ?_ ?_ _ _ _ _ ⟨⟨#[c]⟩, none, by rw [one_len]; omega, by rw [one_len]; omega, asc_mem as36 hc, by assumption, rfl⟩
    · rintro n lo K hK Γ O4 ⟨z, k, z1, z2, z3, u4, rfl⟩
      walk_at "PA03 D1"
      refine w_ixS (by omega) (by omega) (by omega) fun c' hc' => ?_
      refine w_fAddS (by rw [one_len]; omega) ?_
      walk_at "PA03 D1"
      exact hK _ _ ⟨z ++ ⟨#[c']⟩, _, by rw [app_len, one_len]; omega, by rw [app_len]; omega, asc_app z3 (asc_mem as36 hc'), by assumption, rfl⟩
    · rintro lo Γ O4 ⟨z, k, z1, z2, z3, u4, rfl⟩
      walk_at "PA03 D1"
      exact w_fz (hq _ _ ⟨z2, by omega, z3⟩ (by omega) u4)
  · intro nx' hJ
    walk_at "PA03 E2"
    · exact hJ _ _ ⟨_, by omega, by omega, by assumption, rfl⟩
    · exact hJ _ _ ⟨_, by omega, by omega, by assumption, rfl⟩
local macro_rules | `(tactic| walk_at "PA03 W3") => `(tactic| (repeat' first | with_reducible refine w_seq ?_ | with_reducible refine w_sui ?_ | with_reducible refine w_next ?_ | with_reducible refine w_brk ?_ | with_reducible refine w_cont ?_ | with_reducible refine w_ret ?_ | with_reducible refine w_retN ?_ | with_reducible refine w_drop ?_ | with_reducible refine w_if ?_ | with_reducible refine w_asg ?_ | with_reducible refine w_par ?_ | with_reducible refine w_setA ?_ | with_reducible refine w_raise ?_ | with_reducible refine w_for ?_ | with_reducible refine w_iSeq ?_ | with_reducible refine w_iR1 ?_ | with_reducible refine w_iR2 ?_ | with_reducible refine w_iVals ?_ | with_reducible refine w_itLst ?_ | with_reducible refine w_itTup ?_ | with_reducible refine w_itStr ?_ | with_reducible refine w_tgName ?_ | with_reducible refine w_tgIx ?_ | with_reducible refine w_tgCons ?_ | with_reducible refine w_tgNil ?_ | with_reducible refine w_un ?_ | with_reducible refine w_op ?_ | with_reducible refine w_B ?_ | with_reducible refine w_tru ?_ | with_reducible refine w_and ?_ | with_reducible refine w_or ?_ | with_reducible refine w_not ?_ | with_reducible refine w_andV ?_ | with_reducible refine w_orV ?_ | with_reducible refine w_notV ?_ | with_reducible refine w_ifE ?_ | with_reducible refine w_nil ?_ | with_reducible refine w_cons ?_ | with_reducible refine w_tup ?_ | with_reducible refine w_lst ?_ | with_reducible refine w_cb ?_ | with_reducible refine w_call ?_ | with_reducible refine w_slice ?_ | with_reducible refine w_oNone ?_ | with_reducible refine w_onBl ?_ | with_reducible refine w_onTruB ?_ | with_reducible refine w_kT ?_ | with_reducible refine w_kF ?_ | with_reducible refine w_fAdd ?_ | with_reducible refine w_fSub ?_ | with_reducible refine w_fNeg ?_ | with_reducible refine w_fLt ?_ | with_reducible refine w_fLe ?_ | with_reducible refine w_fGt ?_ | with_reducible refine w_fGe ?_ | with_reducible refine w_fEqI ?_ | with_reducible refine w_fNeI ?_ | with_reducible refine w_fEqB ?_ | with_reducible refine w_fEqS ?_ | with_reducible refine w_fInt ?_ | with_reducible refine w_fIntB ?_ | with_reducible refine w_fAbs ?_ | with_reducible refine w_fMax ?_ | with_reducible refine w_fMin ?_ | with_reducible refine w_fGcd ?_ | with_reducible refine w_fLenL ?_ | with_reducible refine w_fLenT ?_ | with_reducible refine w_own ?_ | with_reducible refine w_ownI ?_ | with_reducible refine w_eqOwnI ?_ | with_reducible refine w_c ?_ | with_reducible refine w_make ?_ | with_reducible refine w_makeK ?_ | with_reducible refine w_par2 ?_ | with_reducible refine w_slLst ?_ | with_reducible refine w_p10_6 ?_ | with_reducible refine w_p10_8 ?_ | with_reducible refine w_p10_18 ?_ | with_reducible refine w_p10_30 ?_ | with_reducible refine w_p10_51 ?_ | with_reducible refine w_p10_59 ?_ | with_reducible refine w_p10_60 ?_ | with_reducible refine w_p2_63 ?_ | with_reducible refine w_p2_64 ?_ | with_reducible refine w_comp ?_ | with_reducible refine w_meth ?_ | with_reducible refine w_app ?_ | with_reducible refine w_tupOf ?_ | with_reducible refine w_tupL ?_ | with_reducible refine w_tupT ?_ | with_reducible refine w_sm ?_ | with_reducible refine w_sm0 ?_ | with_reducible refine w_isStr ?_ | with_reducible refine w_find ?_ | with_reducible refine w_starts ?_ | with_reducible refine w_isascii ?_ | with_reducible refine w_isdigit ?_ | with_reducible refine w_str1S ?_ | with_reducible refine w_strO ?_ | with_reducible refine w_fmt ?_ | with_reducible refine w_join ?_ | with_reducible refine w_jsNil ?_ | with_reducible refine w_jsCons ?_ | with_reducible refine w_inS ?_ | with_reducible refine w_notInS ?_ | with_reducible refine w_statI ?_ | with_reducible refine w_fNeS ?_ | with_reducible refine w_yes ?_ | with_reducible refine w_get2 ?_ | with_reducible refine w_get1 ?_ | with_reducible refine w_prop ?_ | with_reducible refine w_put1 ?_ | with_reducible refine w_list1L ?_ | with_reducible refine w_list1T ?_ | with_reducible refine w_fIsN ?_ | with_reducible refine w_retL ?_ | with_reducible refine w_valsT ?_ | with_reducible refine w_valsK ?_ | with_reducible refine w_chain ?_ | ((with_reducible apply w_var); exact rfl) | ((with_reducible apply w_isE); exact rfl) | ((with_reducible apply w_onTru); exact rfl) | ((with_reducible apply w_tgTup); exact rfl) | ((with_reducible refine w_fPow ?_ ?_); exact ⟨by decide, by decide, by decide⟩) | (with_reducible refine w_fMod (by decide) ?_) | ((with_reducible apply w_fIxT); exact rfl) | ((with_reducible apply w_fIxL); exact rfl) | (with_reducible refine w_oSome ?_) | ((with_reducible apply w_fIxC); (first | with_reducible exact put_same | assumption); exact rfl) | ((with_reducible apply w_fLenC); (first | with_reducible exact put_same | assumption)) | ((with_reducible apply w_setL); (first | with_reducible exact put_same | assumption); exact rfl) | ((with_reducible apply w_itC); (first | with_reducible exact put_same | assumption)) | ((with_reducible apply w_list1C); (first | with_reducible exact put_same | assumption)) | ((with_reducible apply w_tupC); (first | with_reducible exact put_same | assumption)) | ((with_reducible apply w_slC); (first | with_reducible exact put_same | assumption)) | ((with_reducible apply w_isTc); (first | with_reducible exact put_same | assumption)) | ((with_reducible refine And.intro (a := List.length _ ≤ sizeLine) ?_ ?_); exact Nat.le_of_ble_eq_true rfl) | (with_reducible refine And.intro (a := List.length _ = _) rfl ?_) | (with_reducible refine w_fld ?_) | (with_reducible refine w_isT ?_) | (with_reducible refine w_isO ?_) | ((with_reducible refine Exists.intro ?_ (And.intro (a := fldD _ _ _ _ = _) ?_ ?_)); rotate_left; first | exact rfl) | ((with_reducible refine Exists.intro ?_ (And.intro (a := isT _ _ _ = _) ?_ ?_)); rotate_left; exact rfl) | ((with_reducible refine Exists.intro ?_ (And.intro (a := isO _ _ _ = _) ?_ ?_)); rotate_left; exact rfl) | ((with_reducible refine Exists.intro ?_ (And.intro (a := D.int _ = D.int _) ?_ ?_)); rotate_left; exact rfl) | ((with_reducible refine w_kT' (k := T3.isInt _) ?_ ?_); exact rfl) | ((with_reducible refine w_kT' (k := !T3.isInt _) ?_ ?_); exact rfl) | ((with_reducible refine w_kF' (k := T3.isInt _) ?_ ?_); exact rfl) | ((with_reducible refine w_kF' (k := !T3.isInt _) ?_ ?_); exact rfl) | ((with_reducible refine w_kT' (k := T3.isBl _) ?_ ?_); exact rfl) | ((with_reducible refine w_kT' (k := !T3.isBl _) ?_ ?_); exact rfl) | ((with_reducible refine w_kF' (k := T3.isBl _) ?_ ?_); exact rfl) | ((with_reducible refine w_kF' (k := !T3.isBl _) ?_ ?_); exact rfl) | ((with_reducible refine w_kT' (k := T3.isStr _) ?_ ?_); exact rfl) | ((with_reducible refine w_kT' (k := !T3.isStr _) ?_ ?_); exact rfl) | ((with_reducible refine w_kF' (k := T3.isStr _) ?_ ?_); exact rfl) | ((with_reducible refine w_kF' (k := !T3.isStr _) ?_ ?_); exact rfl) | ((with_reducible refine w_kT' (k := T3.isTup _) ?_ ?_); exact rfl) | ((with_reducible refine w_kT' (k := !T3.isTup _) ?_ ?_); exact rfl) | ((with_reducible refine w_kF' (k := T3.isTup _) ?_ ?_); exact rfl) | ((with_reducible refine w_kF' (k := !T3.isTup _) ?_ ?_); exact rfl) | ((with_reducible refine w_kT' (k := T3.isLst _) ?_ ?_); exact rfl) | ((with_reducible refine w_kT' (k := !T3.isLst _) ?_ ?_); exact rfl) | ((with_reducible refine w_kF' (k := T3.isLst _) ?_ ?_); exact rfl) | ((with_reducible refine w_kF' (k := !T3.isLst _) ?_ ?_); exact rfl) | ((with_reducible refine And.intro (a := insD _ _ _ _) ?_ ?_); (first | exact ⟨rfl, rfl⟩)) | ((with_reducible refine w_kT' (k := isNonD _ != _) ?_ ?_); exact rfl) | ((with_reducible refine w_kF' (k := isNonD _ != _) ?_ ?_); exact rfl) | (with_reducible refine w_kF' (k := !true) rfl ?_) | (with_reducible refine w_kT' (k := !false) rfl ?_) | ((with_reducible refine w_kT' (k := decide _) ?_ ?_); decide +kernel) | ((with_reducible refine w_kF' (k := decide _) ?_ ?_); decide +kernel)))
local macro_rules | `(tactic| walk_at "PA03 V4") => `(tactic| (repeat' first | with_reducible refine w_seq ?_ | with_reducible refine w_sui ?_ | with_reducible refine w_next ?_ | with_reducible refine w_brk ?_ | with_reducible refine w_cont ?_ | with_reducible refine w_ret ?_ | with_reducible refine w_retN ?_ | with_reducible refine w_drop ?_ | with_reducible refine w_if ?_ | with_reducible refine w_asg ?_ | with_reducible refine w_par ?_ | with_reducible refine w_setA ?_ | with_reducible refine w_raise ?_ | with_reducible refine w_for ?_ | with_reducible refine w_iSeq ?_ | with_reducible refine w_iR1 ?_ | with_reducible refine w_iR2 ?_ | with_reducible refine w_iVals ?_ | with_reducible refine w_itLst ?_ | with_reducible refine w_itTup ?_ | with_reducible refine w_itStr ?_ | with_reducible refine w_tgName ?_ | with_reducible refine w_tgIx ?_ | with_reducible refine w_tgCons ?_ | with_reducible refine w_tgNil ?_ | with_reducible refine w_un ?_ | with_reducible refine w_op ?_ | with_reducible refine w_B ?_ | with_reducible refine w_tru ?_ | with_reducible refine w_and ?_ | with_reducible refine w_or ?_ | with_reducible refine w_not ?_ | with_reducible refine w_andV ?_ | with_reducible refine w_orV ?_ | with_reducible refine w_notV ?_ | with_reducible refine w_ifE ?_ | with_reducible refine w_nil ?_ | with_reducible refine w_cons ?_ | with_reducible refine w_tup ?_ | with_reducible refine w_lst ?_ | with_reducible refine w_cb ?_ | with_reducible refine w_call ?_ | with_reducible refine w_slice ?_ | with_reducible refine w_oNone ?_ | with_reducible refine w_onBl ?_ | with_reducible refine w_onTruB ?_ | with_reducible refine w_kT ?_ | with_reducible refine w_kF ?_ | with_reducible refine w_fAdd ?_ | with_reducible refine w_fSub ?_ | with_reducible refine w_fNeg ?_ | with_reducible refine w_fLt ?_ | with_reducible refine w_fLe ?_ | with_reducible refine w_fGt ?_ | with_reducible refine w_fGe ?_ | with_reducible refine w_fEqI ?_ | with_reducible refine w_fNeI ?_ | with_reducible refine w_fEqB ?_ | with_reducible refine w_fEqS ?_ | with_reducible refine w_fInt ?_ | with_reducible refine w_fIntB ?_ | with_reducible refine w_fAbs ?_ | with_reducible refine w_fMax ?_ | with_reducible refine w_fMin ?_ | with_reducible refine w_fGcd ?_ | with_reducible refine w_fLenL ?_ | with_reducible refine w_fLenT ?_ | with_reducible refine w_own ?_ | with_reducible refine w_ownI ?_ | with_reducible refine w_eqOwnI ?_ | with_reducible refine w_c ?_ | with_reducible refine w_make ?_ | with_reducible refine w_makeK ?_ | with_reducible refine w_par2 ?_ | with_reducible refine w_slLst ?_ | with_reducible refine w_p10_6 ?_ | with_reducible refine w_p10_8 ?_ | with_reducible refine w_p10_18 ?_ | with_reducible refine w_p10_30 ?_ | with_reducible refine w_p10_51 ?_ | with_reducible refine w_p10_59 ?_ | with_reducible refine w_p10_60 ?_ | with_reducible refine w_p2_63 ?_ | with_reducible refine w_p2_64 ?_ | with_reducible refine w_comp ?_ | with_reducible refine w_meth ?_ | with_reducible refine w_app ?_ | with_reducible refine w_tupOf ?_ | with_reducible refine w_tupL ?_ | with_reducible refine w_tupT ?_ | with_reducible refine w_sm ?_ | with_reducible refine w_sm0 ?_ | with_reducible refine w_isStr ?_ | with_reducible refine w_find ?_ | with_reducible refine w_starts ?_ | with_reducible refine w_isascii ?_ | with_reducible refine w_isdigit ?_ | with_reducible refine w_str1S ?_ | with_reducible refine w_strO ?_ | with_reducible refine w_fmt ?_ | with_reducible refine w_join ?_ | with_reducible refine w_jsNil ?_ | with_reducible refine w_jsCons ?_ | with_reducible refine w_inS ?_ | with_reducible refine w_notInS ?_ | with_reducible refine w_statI ?_ | with_reducible refine w_fNeS ?_ | with_reducible refine w_yes ?_ | with_reducible refine w_get2 ?_ | with_reducible refine w_get1 ?_ | with_reducible refine w_prop ?_ | with_reducible refine w_put1 ?_ | with_reducible refine w_list1L ?_ | with_reducible refine w_list1T ?_ | with_reducible refine w_fIsN ?_ | with_reducible refine w_retL ?_ | with_reducible refine w_valsT ?_ | with_reducible refine w_valsK ?_ | with_reducible refine w_chain ?_ | ((with_reducible apply w_var); exact rfl) | ((with_reducible apply w_isE); exact rfl) | ((with_reducible apply w_onTru); exact rfl) | ((with_reducible apply w_tgTup); exact rfl) | ((with_reducible refine w_fPow ?_ ?_); exact ⟨by decide, by decide, by decide⟩) | (with_reducible refine w_fMod (by decide) ?_) | ((with_reducible apply w_fIxT); exact rfl) | ((with_reducible apply w_fIxL); exact rfl) | (with_reducible refine w_oSome ?_) | ((with_reducible apply w_fIxC); (first | with_reducible exact put_same | assumption); exact rfl) | ((with_reducible apply w_fLenC); (first | with_reducible exact put_same | assumption)) | ((with_reducible apply w_setL); (first | with_reducible exact put_same | assumption); exact rfl) | (with_reducible refine w_fLenS (by omega) ?_) | (with_reducible refine w_slStr (by omega) ?_) | (with_reducible refine w_fAddS (by omega) ?_) | (with_reducible refine w_remPre (by omega) ?_) | (with_reducible refine w_fmtS (by omega) ?_) | ((with_reducible apply w_itC); (first | with_reducible exact put_same | assumption)) | ((with_reducible apply w_list1C); (first | with_reducible exact put_same | assumption)) | ((with_reducible apply w_tupC); (first | with_reducible exact put_same | assumption)) | ((with_reducible apply w_slC); (first | with_reducible exact put_same | assumption)) | ((with_reducible apply w_isTc); (first | with_reducible exact put_same | assumption)) | (with_reducible refine w_fMul (mulR (by decide)) ?_) | (with_reducible refine w_fMul (mulL (by omega)) ?_) | (with_reducible refine w_fMul (mulR (by omega)) ?_) | (with_reducible refine w_fDiv (dv30 (by omega) (by omega)) ?_) | (with_reducible refine w_fMod (by omega) ?_) | ((with_reducible refine And.intro (a := List.length _ ≤ sizeLine) ?_ ?_); exact Nat.le_of_ble_eq_true rfl) | (with_reducible refine And.intro (a := List.length _ = _) rfl ?_) | (with_reducible refine w_fld ?_) | (with_reducible refine w_isT ?_) | (with_reducible refine w_isO ?_) | ((with_reducible refine Exists.intro ?_ (And.intro (a := fldD _ _ _ _ = _) ?_ ?_)); rotate_left; first | exact rfl) | ((with_reducible refine Exists.intro ?_ (And.intro (a := isT _ _ _ = _) ?_ ?_)); rotate_left; exact rfl) | ((with_reducible refine Exists.intro ?_ (And.intro (a := isO _ _ _ = _) ?_ ?_)); rotate_left; exact rfl) | ((with_reducible refine Exists.intro ?_ (And.intro (a := D.int _ = D.int _) ?_ ?_)); rotate_left; exact rfl) | ((with_reducible refine w_kT' (k := T3.isInt _) ?_ ?_); exact rfl) | ((with_reducible refine w_kT' (k := !T3.isInt _) ?_ ?_); exact rfl) | ((with_reducible refine w_kF' (k := T3.isInt _) ?_ ?_); exact rfl) | ((with_reducible refine w_kF' (k := !T3.isInt _) ?_ ?_); exact rfl) | ((with_reducible refine w_kT' (k := T3.isBl _) ?_ ?_); exact rfl) | ((with_reducible refine w_kT' (k := !T3.isBl _) ?_ ?_); exact rfl) | ((with_reducible refine w_kF' (k := T3.isBl _) ?_ ?_); exact rfl) | ((with_reducible refine w_kF' (k := !T3.isBl _) ?_ ?_); exact rfl) | ((with_reducible refine w_kT' (k := T3.isStr _) ?_ ?_); exact rfl) | ((with_reducible refine w_kT' (k := !T3.isStr _) ?_ ?_); exact rfl) | ((with_reducible refine w_kF' (k := T3.isStr _) ?_ ?_); exact rfl) | ((with_reducible refine w_kF' (k := !T3.isStr _) ?_ ?_); exact rfl) | ((with_reducible refine w_kT' (k := T3.isTup _) ?_ ?_); exact rfl) | ((with_reducible refine w_kT' (k := !T3.isTup _) ?_ ?_); exact rfl) | ((with_reducible refine w_kF' (k := T3.isTup _) ?_ ?_); exact rfl) | ((with_reducible refine w_kF' (k := !T3.isTup _) ?_ ?_); exact rfl) | ((with_reducible refine w_kT' (k := T3.isLst _) ?_ ?_); exact rfl) | ((with_reducible refine w_kT' (k := !T3.isLst _) ?_ ?_); exact rfl) | ((with_reducible refine w_kF' (k := T3.isLst _) ?_ ?_); exact rfl) | ((with_reducible refine w_kF' (k := !T3.isLst _) ?_ ?_); exact rfl) | ((with_reducible refine And.intro (a := insD _ _ _ _) ?_ ?_); (first | exact ⟨rfl, rfl⟩)) | ((with_reducible refine w_kT' (k := isNonD _ != _) ?_ ?_); exact rfl) | ((with_reducible refine w_kF' (k := isNonD _ != _) ?_ ?_); exact rfl) | (with_reducible refine w_kF' (k := !true) rfl ?_) | (with_reducible refine w_kT' (k := !false) rfl ?_) | ((with_reducible refine w_kT' (k := decide _) ?_ ?_); decide +kernel) | ((with_reducible refine w_kF' (k := decide _) ?_ ?_); decide +kernel)))
theorem b_law_names : BodyOk ["pool", "names", "k", "name", "at"] 1 sp_law_names m_law_names := by
  rintro ds O Z P hl ⟨p, rfl, hp, hq⟩
  show m_law_names (En.mk _ _ _ _ _) [some (.cell p), none, none, none, none] O
  unfold m_law_names
  have big := big_line
  walk_at "PA03 D1"
  refine ⟨p, rfl, hp, fun z0 O1 n0 _ u1 => ?_⟩
  walk_at "PA03 D1"
  intro q hq'
  have hqp := (u1.pool.not hq').symm
  have hqO := u1.none hq' hqp
  refine w_fz ?_
  have u2 := u1.new (u := .lst [.str z0]) hq'
  walk_at "PA03 W3"
  refine w_drw2 u2.pool (by omega) (by omega) fun r O3 r0 r1 u3 => ?_
  have e3 : O3 q = some (.lst [.str z0]) := u3.ne q _ hqp put_same
  have u03 := u2.trans u3
  walk_at "PA03 W3"
  refine w_rng1 (by omega) ?_
  refine w_forN (fun n lo Γ O4 => ∃ (zs : List Str) (k x y : Option D), zs.length + n ≤ 4 ∧ (∀ z ∈ z0 :: zs, Nm z) ∧ Upd p O O4 ∧ O4 q = some (.lst ((z0 :: zs).map D.str)) ∧ Γ = [some (.cell p), some (.cell q), k, x, y]) (fun _ _ _ _ _ => trivial) ?_ ?_ _ _ _ _ ⟨[], none, none, none, by simp; omega, by simpa using n0, u03, e3, rfl⟩
  · rintro n lo K hK Γ O4 ⟨zs, k, x, y, hz, hn, u4, e4, rfl⟩
    have l0 := n0.l1
    have l0' := n0.l2
    walk_at "PA03 W3"
    refine ⟨p, rfl, u4.pool, fun z O5 nz nz20 u5 => ?_⟩
    have nl := nz.l1
    have nl' := nz.l2
    have e5 : O5 q = _ := u5.ne q _ hqp e4
    have u05 := u4.trans u5
    walk_at "PA03 S0"
    refine w_cut (fun Γ' O' => ∃ (w : Str) (y : Option D), Nm w ∧ Upd p O O' ∧ O' q = some (.lst ((z0 :: zs).map D.str)) ∧ Γ' = [some (.cell p), some (.cell q), some (.int lo), some (.str w), y]) ?_ ?_
    · rintro Γ O6 ⟨w, y, nw, u6, e6, rfl⟩
      walk_at "PA03 W3"
      refine And.intro (w_lstC e6) ?_
      walk_at "PA03 W3"
      refine w_appD e6 (by simp; omega) ?_
      refine hK _ _ ⟨zs ++ [w], _, _, _, by simp; omega, ?_, u6.again hqO hqp, by rw [put_same]; simp, rfl⟩
      intro v hv
      simp at hv
      rcases hv with rfl | hv | rfl
      · exact n0
      · exact hn v (by simp [hv])
      · exact nw
    · intro nx' hJ
      walk_at "PA03 W3"
      refine w_drw2 u05.pool (by omega) (by omega) fun r O6 r0 r1 u6 => ?_
      have e6 : O6 q = _ := u6.ne q _ hqp e5
      have u06 := u05.trans u6
      walk_at "PA03 W3"
      refine w_k (fun h => ?_) fun h => ?_
      · walk_at "PA03 V4"
        refine w_fIxC e6 (show _ = some (D.str z0) from atI_zero) ?_
        walk_at "PA03 V4"
        refine w_drw2 u06.pool (by omega) (by omega) fun r O7 r0 r1 u7 => ?_
        have e7 : O7 q = _ := u7.ne q _ hqp e6
        have u07 := u06.trans u7
        walk_at "PA03 V4"
        refine w_fIxC e7 (show _ = some (D.str z0) from atI_zero) ?_
        walk_at "PA03 V4"
        have c1 := cut_len1 z0 none (some r)
        have c2 := cut_len1 z none (some 1)
        have c3 := cut_len1 z0 (some (r + 1)) none
        walk_at "PA03 V4"
        refine w_fIxC e7 (show _ = some (D.str z0) from atI_zero) ?_
        walk_at "PA03 V4"
        refine w_fAddS (by rw [app_len]; omega) ?_
        walk_at "PA03 V4"
        have er : (r.toNat : Int) = r := by omega
        have er1 : ((r + 1).toNat : Int) = r + 1 := by omega
        have k1 := cut_to z0 r.toNat
        have k2 := cut_to z 1
        have k3 := cut_from z0 (r + 1).toNat
        rw [er] at k1
        rw [er1] at k3
        refine hJ _ _ ⟨_, _, ⟨?_, ?_, asc_app (asc_app (asc_cut n0.a) (asc_cut nz.a)) (asc_cut n0.a)⟩, u07, e7, rfl⟩
        · rw [app_len, app_len]
          have : (cutS z none (some 1)).length = 1 := by
            have e : cutS z none (some 1) = mk ((cs z).take 1) := k2
            rw [e, len_mk, List.length_take, ← len_cs]
            omega
          omega
        · rw [app_len, app_len]
          have : (cutS z none (some 1)).length = 1 := by
            have e : cutS z none (some 1) = mk ((cs z).take 1) := k2
            rw [e, len_mk, List.length_take, ← len_cs]
            omega
          have a1 : (cutS z0 none (some r)).length = r.toNat := by
            rw [k1, len_mk, List.length_take, ← len_cs]
            omega
          have a2 : (cutS z0 (some (r + 1)) none).length = z0.length - (r + 1).toNat := by
            rw [k3, len_mk, List.length_drop, ← len_cs]
          omega
      · walk_at "PA03 V4"
        exact hJ _ _ ⟨_, _, nz, u06, e6, rfl⟩
  · rintro lo Γ O4 ⟨zs, k, x, y, hz, hn, u4, e4, rfl⟩
    walk_at "PA03 W3"
    refine ⟨_, _, .lst e4, hq _ _ (by simp) (by simp; omega) hn ⟨?_, fun r w n hr => ?_⟩⟩
    · obtain ⟨a, b, c, k, e⟩ := u4.pool
      exact ⟨a, b, c, k, by rw [del_ne hqp.symm]; exact e⟩
    · have n2 : r ≠ q := by rintro rfl; rw [hqO] at hr; cases hr
      rw [del_ne n2]
      exact u4.ne r w n hr
end K03

namespace K03
open PySem L2 L3 LY
def sgA : Str := " !\"#$&'()*+,-./0123456789:;<=>?@ABCDEFGHIJKLMNOPQRSTUVWXYZ[\\]^_`"
def sgB : Str := "abcdefghijklmnopqrstuvwxyz{|}~\n\t"
theorem sgAB : (sgA ++ sgB).length = 96 := by decide +kernel
theorem asAB : asc (sgA ++ sgB) = true := by decide +kernel
theorem repA : repS "a" 20 = ("aaaaaaaaaaaaaaaaaaaa" : Str) := by decide +kernel
theorem repZ : repS "z9" 10 = ("z9z9z9z9z9z9z9z9z9z9" : Str) := by decide +kernel
/-- what the odd names are -/
def OddS (d : D) : Prop := ∃ y : Str, d = .str y ∧ y.length ≤ 900 ∧ asc y = true
local macro_rules | `(tactic| walk_at "PB03 W0") => `(tactic| (repeat' first | with_reducible refine w_seq ?_ | with_reducible refine w_sui ?_ | with_reducible refine w_next ?_ | with_reducible refine w_brk ?_ | with_reducible refine w_cont ?_ | with_reducible refine w_ret ?_ | with_reducible refine w_retN ?_ | with_reducible refine w_drop ?_ | with_reducible refine w_if ?_ | with_reducible refine w_asg ?_ | with_reducible refine w_par ?_ | with_reducible refine w_setA ?_ | with_reducible refine w_raise ?_ | with_reducible refine w_for ?_ | with_reducible refine w_iSeq ?_ | with_reducible refine w_iR1 ?_ | with_reducible refine w_iR2 ?_ | with_reducible refine w_iVals ?_ | with_reducible refine w_itLst ?_ | with_reducible refine w_itTup ?_ | with_reducible refine w_itStr ?_ | with_reducible refine w_tgName ?_ | with_reducible refine w_tgIx ?_ | with_reducible refine w_tgCons ?_ | with_reducible refine w_tgNil ?_ | with_reducible refine w_un ?_ | with_reducible refine w_op ?_ | with_reducible refine w_B ?_ | with_reducible refine w_tru ?_ | with_reducible refine w_and ?_ | with_reducible refine w_or ?_ | with_reducible refine w_not ?_ | with_reducible refine w_andV ?_ | with_reducible refine w_orV ?_ | with_reducible refine w_notV ?_ | with_reducible refine w_ifE ?_ | with_reducible refine w_nil ?_ | with_reducible refine w_cons ?_ | with_reducible refine w_tup ?_ | with_reducible refine w_lst ?_ | with_reducible refine w_cb ?_ | with_reducible refine w_call ?_ | with_reducible refine w_slice ?_ | with_reducible refine w_oNone ?_ | with_reducible refine w_onBl ?_ | with_reducible refine w_onTruB ?_ | with_reducible refine w_kT ?_ | with_reducible refine w_kF ?_ | with_reducible refine w_fAdd ?_ | with_reducible refine w_fSub ?_ | with_reducible refine w_fNeg ?_ | with_reducible refine w_fLt ?_ | with_reducible refine w_fLe ?_ | with_reducible refine w_fGt ?_ | with_reducible refine w_fGe ?_ | with_reducible refine w_fEqI ?_ | with_reducible refine w_fNeI ?_ | with_reducible refine w_fEqB ?_ | with_reducible refine w_fEqS ?_ | with_reducible refine w_fInt ?_ | with_reducible refine w_fIntB ?_ | with_reducible refine w_fAbs ?_ | with_reducible refine w_fMax ?_ | with_reducible refine w_fMin ?_ | with_reducible refine w_fGcd ?_ | with_reducible refine w_fLenL ?_ | with_reducible refine w_fLenT ?_ | with_reducible refine w_own ?_ | with_reducible refine w_ownI ?_ | with_reducible refine w_eqOwnI ?_ | with_reducible refine w_c ?_ | with_reducible refine w_make ?_ | with_reducible refine w_makeK ?_ | with_reducible refine w_par2 ?_ | with_reducible refine w_slLst ?_ | with_reducible refine w_p10_6 ?_ | with_reducible refine w_p10_8 ?_ | with_reducible refine w_p10_18 ?_ | with_reducible refine w_p10_30 ?_ | with_reducible refine w_p10_51 ?_ | with_reducible refine w_p10_59 ?_ | with_reducible refine w_p10_60 ?_ | with_reducible refine w_p2_63 ?_ | with_reducible refine w_p2_64 ?_ | with_reducible refine w_comp ?_ | with_reducible refine w_meth ?_ | with_reducible refine w_app ?_ | with_reducible refine w_tupOf ?_ | with_reducible refine w_tupL ?_ | with_reducible refine w_tupT ?_ | with_reducible refine w_sm ?_ | with_reducible refine w_sm0 ?_ | with_reducible refine w_isStr ?_ | with_reducible refine w_find ?_ | with_reducible refine w_starts ?_ | with_reducible refine w_isascii ?_ | with_reducible refine w_isdigit ?_ | with_reducible refine w_str1S ?_ | with_reducible refine w_strO ?_ | with_reducible refine w_fmt ?_ | with_reducible refine w_join ?_ | with_reducible refine w_jsNil ?_ | with_reducible refine w_jsCons ?_ | with_reducible refine w_inS ?_ | with_reducible refine w_notInS ?_ | with_reducible refine w_statI ?_ | with_reducible refine w_fNeS ?_ | with_reducible refine w_yes ?_ | with_reducible refine w_get2 ?_ | with_reducible refine w_get1 ?_ | with_reducible refine w_prop ?_ | with_reducible refine w_put1 ?_ | with_reducible refine w_list1L ?_ | with_reducible refine w_list1T ?_ | with_reducible refine w_fIsN ?_ | with_reducible refine w_retL ?_ | with_reducible refine w_valsT ?_ | with_reducible refine w_valsK ?_ | with_reducible refine w_chain ?_ | with_reducible refine w_slTup ?_ | ((with_reducible apply w_var); exact rfl) | ((with_reducible apply w_isE); exact rfl) | ((with_reducible apply w_onTru); exact rfl) | ((with_reducible apply w_tgTup); exact rfl) | ((with_reducible refine w_fPow ?_ ?_); exact ⟨by decide, by decide, by decide⟩) | (with_reducible refine w_fMod (by decide) ?_) | ((with_reducible apply w_fIxT); exact rfl) | ((with_reducible apply w_fIxL); exact rfl) | (with_reducible refine w_oSome ?_) | ((with_reducible apply w_fIxC); (first | with_reducible exact put_same | assumption); exact rfl) | ((with_reducible apply w_fLenC); (first | with_reducible exact put_same | assumption)) | ((with_reducible apply w_setL); (first | with_reducible exact put_same | assumption); exact rfl) | ((with_reducible apply w_itC); (first | with_reducible exact put_same | assumption)) | ((with_reducible apply w_list1C); (first | with_reducible exact put_same | assumption)) | ((with_reducible apply w_tupC); (first | with_reducible exact put_same | assumption)) | ((with_reducible apply w_slC); (first | with_reducible exact put_same | assumption)) | ((with_reducible apply w_isTc); (first | with_reducible exact put_same | assumption)) | ((with_reducible refine And.intro (a := List.length _ ≤ sizeLine) ?_ ?_); exact Nat.le_of_ble_eq_true rfl) | (with_reducible refine And.intro (a := List.length _ = _) rfl ?_) | (with_reducible refine w_fld ?_) | (with_reducible refine w_isT ?_) | (with_reducible refine w_isO ?_) | ((with_reducible refine Exists.intro ?_ (And.intro (a := fldD _ _ _ _ = _) ?_ ?_)); rotate_left; first | exact rfl) | ((with_reducible refine Exists.intro ?_ (And.intro (a := isT _ _ _ = _) ?_ ?_)); rotate_left; exact rfl) | ((with_reducible refine Exists.intro ?_ (And.intro (a := isO _ _ _ = _) ?_ ?_)); rotate_left; exact rfl) | ((with_reducible refine Exists.intro ?_ (And.intro (a := D.int _ = D.int _) ?_ ?_)); rotate_left; exact rfl) | ((with_reducible refine w_kT' (k := T3.isInt _) ?_ ?_); exact rfl) | ((with_reducible refine w_kT' (k := !T3.isInt _) ?_ ?_); exact rfl) | ((with_reducible refine w_kF' (k := T3.isInt _) ?_ ?_); exact rfl) | ((with_reducible refine w_kF' (k := !T3.isInt _) ?_ ?_); exact rfl) | ((with_reducible refine w_kT' (k := T3.isBl _) ?_ ?_); exact rfl) | ((with_reducible refine w_kT' (k := !T3.isBl _) ?_ ?_); exact rfl) | ((with_reducible refine w_kF' (k := T3.isBl _) ?_ ?_); exact rfl) | ((with_reducible refine w_kF' (k := !T3.isBl _) ?_ ?_); exact rfl) | ((with_reducible refine w_kT' (k := T3.isStr _) ?_ ?_); exact rfl) | ((with_reducible refine w_kT' (k := !T3.isStr _) ?_ ?_); exact rfl) | ((with_reducible refine w_kF' (k := T3.isStr _) ?_ ?_); exact rfl) | ((with_reducible refine w_kF' (k := !T3.isStr _) ?_ ?_); exact rfl) | ((with_reducible refine w_kT' (k := T3.isTup _) ?_ ?_); exact rfl) | ((with_reducible refine w_kT' (k := !T3.isTup _) ?_ ?_); exact rfl) | ((with_reducible refine w_kF' (k := T3.isTup _) ?_ ?_); exact rfl) | ((with_reducible refine w_kF' (k := !T3.isTup _) ?_ ?_); exact rfl) | ((with_reducible refine w_kT' (k := T3.isLst _) ?_ ?_); exact rfl) | ((with_reducible refine w_kT' (k := !T3.isLst _) ?_ ?_); exact rfl) | ((with_reducible refine w_kF' (k := T3.isLst _) ?_ ?_); exact rfl) | ((with_reducible refine w_kF' (k := !T3.isLst _) ?_ ?_); exact rfl) | ((with_reducible refine And.intro (a := insD _ _ _ _) ?_ ?_); (first | exact ⟨rfl, rfl⟩)) | ((with_reducible refine w_kT' (k := isNonD _ != _) ?_ ?_); exact rfl) | ((with_reducible refine w_kF' (k := isNonD _ != _) ?_ ?_); exact rfl) | (with_reducible refine w_kF' (k := !true) rfl ?_) | (with_reducible refine w_kT' (k := !false) rfl ?_) | ((with_reducible refine w_kT' (k := decide _) ?_ ?_); decide +kernel) | ((with_reducible refine w_kF' (k := decide _) ?_ ?_); decide +kernel)))
local macro_rules | `(tactic| walk_at "PB03 V1") => `(tactic| (repeat' first | with_reducible refine w_seq ?_ | with_reducible refine w_sui ?_ | with_reducible refine w_next ?_ | with_reducible refine w_brk ?_ | with_reducible refine w_cont ?_ | with_reducible refine w_ret ?_ | with_reducible refine w_retN ?_ | with_reducible refine w_drop ?_ | with_reducible refine w_if ?_ | with_reducible refine w_asg ?_ | with_reducible refine w_par ?_ | with_reducible refine w_setA ?_ | with_reducible refine w_raise ?_ | with_reducible refine w_for ?_ | with_reducible refine w_iSeq ?_ | with_reducible refine w_iR1 ?_ | with_reducible refine w_iR2 ?_ | with_reducible refine w_iVals ?_ | with_reducible refine w_itLst ?_ | with_reducible refine w_itTup ?_ | with_reducible refine w_itStr ?_ | with_reducible refine w_tgName ?_ | with_reducible refine w_tgIx ?_ | with_reducible refine w_tgCons ?_ | with_reducible refine w_tgNil ?_ | with_reducible refine w_un ?_ | with_reducible refine w_op ?_ | with_reducible refine w_B ?_ | with_reducible refine w_tru ?_ | with_reducible refine w_and ?_ | with_reducible refine w_or ?_ | with_reducible refine w_not ?_ | with_reducible refine w_andV ?_ | with_reducible refine w_orV ?_ | with_reducible refine w_notV ?_ | with_reducible refine w_ifE ?_ | with_reducible refine w_nil ?_ | with_reducible refine w_cons ?_ | with_reducible refine w_tup ?_ | with_reducible refine w_lst ?_ | with_reducible refine w_cb ?_ | with_reducible refine w_call ?_ | with_reducible refine w_slice ?_ | with_reducible refine w_oNone ?_ | with_reducible refine w_onBl ?_ | with_reducible refine w_onTruB ?_ | with_reducible refine w_kT ?_ | with_reducible refine w_kF ?_ | with_reducible refine w_fAdd ?_ | with_reducible refine w_fSub ?_ | with_reducible refine w_fNeg ?_ | with_reducible refine w_fLt ?_ | with_reducible refine w_fLe ?_ | with_reducible refine w_fGt ?_ | with_reducible refine w_fGe ?_ | with_reducible refine w_fEqI ?_ | with_reducible refine w_fNeI ?_ | with_reducible refine w_fEqB ?_ | with_reducible refine w_fEqS ?_ | with_reducible refine w_fInt ?_ | with_reducible refine w_fIntB ?_ | with_reducible refine w_fAbs ?_ | with_reducible refine w_fMax ?_ | with_reducible refine w_fMin ?_ | with_reducible refine w_fGcd ?_ | with_reducible refine w_fLenL ?_ | with_reducible refine w_fLenT ?_ | with_reducible refine w_own ?_ | with_reducible refine w_ownI ?_ | with_reducible refine w_eqOwnI ?_ | with_reducible refine w_c ?_ | with_reducible refine w_make ?_ | with_reducible refine w_makeK ?_ | with_reducible refine w_par2 ?_ | with_reducible refine w_slLst ?_ | with_reducible refine w_p10_6 ?_ | with_reducible refine w_p10_8 ?_ | with_reducible refine w_p10_18 ?_ | with_reducible refine w_p10_30 ?_ | with_reducible refine w_p10_51 ?_ | with_reducible refine w_p10_59 ?_ | with_reducible refine w_p10_60 ?_ | with_reducible refine w_p2_63 ?_ | with_reducible refine w_p2_64 ?_ | with_reducible refine w_comp ?_ | with_reducible refine w_meth ?_ | with_reducible refine w_app ?_ | with_reducible refine w_tupOf ?_ | with_reducible refine w_tupL ?_ | with_reducible refine w_tupT ?_ | with_reducible refine w_sm ?_ | with_reducible refine w_sm0 ?_ | with_reducible refine w_isStr ?_ | with_reducible refine w_find ?_ | with_reducible refine w_starts ?_ | with_reducible refine w_isascii ?_ | with_reducible refine w_isdigit ?_ | with_reducible refine w_str1S ?_ | with_reducible refine w_strO ?_ | with_reducible refine w_fmt ?_ | with_reducible refine w_join ?_ | with_reducible refine w_jsNil ?_ | with_reducible refine w_jsCons ?_ | with_reducible refine w_inS ?_ | with_reducible refine w_notInS ?_ | with_reducible refine w_statI ?_ | with_reducible refine w_fNeS ?_ | with_reducible refine w_yes ?_ | with_reducible refine w_get2 ?_ | with_reducible refine w_get1 ?_ | with_reducible refine w_prop ?_ | with_reducible refine w_put1 ?_ | with_reducible refine w_list1L ?_ | with_reducible refine w_list1T ?_ | with_reducible refine w_fIsN ?_ | with_reducible refine w_retL ?_ | with_reducible refine w_valsT ?_ | with_reducible refine w_valsK ?_ | with_reducible refine w_chain ?_ | with_reducible refine w_slTup ?_ | ((with_reducible apply w_var); exact rfl) | ((with_reducible apply w_isE); exact rfl) | ((with_reducible apply w_onTru); exact rfl) | ((with_reducible apply w_tgTup); exact rfl) | ((with_reducible refine w_fPow ?_ ?_); exact ⟨by decide, by decide, by decide⟩) | (with_reducible refine w_fMod (by decide) ?_) | ((with_reducible apply w_fIxT); exact rfl) | ((with_reducible apply w_fIxL); exact rfl) | (with_reducible refine w_oSome ?_) | ((with_reducible apply w_fIxC); (first | with_reducible exact put_same | assumption); exact rfl) | ((with_reducible apply w_fLenC); (first | with_reducible exact put_same | assumption)) | ((with_reducible apply w_setL); (first | with_reducible exact put_same | assumption); exact rfl) | (with_reducible refine w_fLenS (by omega) ?_) | (with_reducible refine w_slStr (by omega) ?_) | (with_reducible refine w_fAddS (by omega) ?_) | (with_reducible refine w_remPre (by omega) ?_) | (with_reducible refine w_fmtS (by omega) ?_) | ((with_reducible apply w_itC); (first | with_reducible exact put_same | assumption)) | ((with_reducible apply w_list1C); (first | with_reducible exact put_same | assumption)) | ((with_reducible apply w_tupC); (first | with_reducible exact put_same | assumption)) | ((with_reducible apply w_slC); (first | with_reducible exact put_same | assumption)) | ((with_reducible apply w_isTc); (first | with_reducible exact put_same | assumption)) | (with_reducible refine w_fMul (mulR (by decide)) ?_) | (with_reducible refine w_fMul (mulL (by omega)) ?_) | (with_reducible refine w_fMul (mulR (by omega)) ?_) | (with_reducible refine w_fDiv (dv30 (by omega) (by omega)) ?_) | (with_reducible refine w_fMod (by omega) ?_) | ((with_reducible refine And.intro (a := List.length _ ≤ sizeLine) ?_ ?_); exact Nat.le_of_ble_eq_true rfl) | (with_reducible refine And.intro (a := List.length _ = _) rfl ?_) | (with_reducible refine w_fld ?_) | (with_reducible refine w_isT ?_) | (with_reducible refine w_isO ?_) | ((with_reducible refine Exists.intro ?_ (And.intro (a := fldD _ _ _ _ = _) ?_ ?_)); rotate_left; first | exact rfl) | ((with_reducible refine Exists.intro ?_ (And.intro (a := isT _ _ _ = _) ?_ ?_)); rotate_left; exact rfl) | ((with_reducible refine Exists.intro ?_ (And.intro (a := isO _ _ _ = _) ?_ ?_)); rotate_left; exact rfl) | ((with_reducible refine Exists.intro ?_ (And.intro (a := D.int _ = D.int _) ?_ ?_)); rotate_left; exact rfl) | ((with_reducible refine w_kT' (k := T3.isInt _) ?_ ?_); exact rfl) | ((with_reducible refine w_kT' (k := !T3.isInt _) ?_ ?_); exact rfl) | ((with_reducible refine w_kF' (k := T3.isInt _) ?_ ?_); exact rfl) | ((with_reducible refine w_kF' (k := !T3.isInt _) ?_ ?_); exact rfl) | ((with_reducible refine w_kT' (k := T3.isBl _) ?_ ?_); exact rfl) | ((with_reducible refine w_kT' (k := !T3.isBl _) ?_ ?_); exact rfl) | ((with_reducible refine w_kF' (k := T3.isBl _) ?_ ?_); exact rfl) | ((with_reducible refine w_kF' (k := !T3.isBl _) ?_ ?_); exact rfl) | ((with_reducible refine w_kT' (k := T3.isStr _) ?_ ?_); exact rfl) | ((with_reducible refine w_kT' (k := !T3.isStr _) ?_ ?_); exact rfl) | ((with_reducible refine w_kF' (k := T3.isStr _) ?_ ?_); exact rfl) | ((with_reducible refine w_kF' (k := !T3.isStr _) ?_ ?_); exact rfl) | ((with_reducible refine w_kT' (k := T3.isTup _) ?_ ?_); exact rfl) | ((with_reducible refine w_kT' (k := !T3.isTup _) ?_ ?_); exact rfl) | ((with_reducible refine w_kF' (k := T3.isTup _) ?_ ?_); exact rfl) | ((with_reducible refine w_kF' (k := !T3.isTup _) ?_ ?_); exact rfl) | ((with_reducible refine w_kT' (k := T3.isLst _) ?_ ?_); exact rfl) | ((with_reducible refine w_kT' (k := !T3.isLst _) ?_ ?_); exact rfl) | ((with_reducible refine w_kF' (k := T3.isLst _) ?_ ?_); exact rfl) | ((with_reducible refine w_kF' (k := !T3.isLst _) ?_ ?_); exact rfl) | ((with_reducible refine And.intro (a := insD _ _ _ _) ?_ ?_); (first | exact ⟨rfl, rfl⟩)) | ((with_reducible refine w_kT' (k := isNonD _ != _) ?_ ?_); exact rfl) | ((with_reducible refine w_kF' (k := isNonD _ != _) ?_ ?_); exact rfl) | (with_reducible refine w_kF' (k := !true) rfl ?_) | (with_reducible refine w_kT' (k := !false) rfl ?_) | ((with_reducible refine w_kT' (k := decide _) ?_ ?_); decide +kernel) | ((with_reducible refine w_kF' (k := decide _) ?_ ?_); decide +kernel)))
theorem b_law_odd_name : BodyOk ["pool", "name", "at", "signs", "sign", "size", "odd"] 2 sp_law_odd_name m_law_odd_name := by
  rintro ds O Z P hl ⟨p, z, rfl, hp, nz, hq⟩
  show m_law_odd_name (En.mk _ _ _ _ _) [some (.cell p), some (.str z), none, none, none, none, none] O
  unfold m_law_odd_name
  have big := big_line
  have z1 := nz.l1
  have z2 := nz.l2
  have za := nz.a
  have u0 := Upd.refl hp
  walk_at "PB03 W0"
  refine w_fLenS (by omega) ?_
  walk_at "PB03 W0"
  refine w_drw u0 (by omega) (by omega) fun at_ O1 a0 a1 u1 => ?_
  walk_at "PB03 W0"
  refine w_fAddS (z := sgA) (y := sgB) (by decide +kernel) ?_
  have lAB := sgAB
  have aAB := asAB
  generalize sgA ++ sgB = sg at *
  walk_at "PB03 W0"
  refine w_drw u1 (by omega) (by omega) fun r O2 r0 r1 u2 => ?_
  walk_at "PB03 W0"
  refine w_ixS (by omega) (by omega) (by omega) fun c hc => ?_
  have ca := asc_mem aAB hc
  have cl := one_len c
  generalize (⟨#[c]⟩ : Str) = sign at *
  walk_at "PB03 W0"
  refine w_drw u2 (by omega) (by omega) fun r O3 r0 r1 u3 => ?_
  walk_at "PB03 W0"
  have hsz : ∃ s : Int, 20 + (if r < 1 then r else 1) = s := ⟨_, rfl⟩
  obtain ⟨s, es⟩ := hsz
  rw [es]
  refine w_fMulS (by decide +kernel) ?_
  rw [repA]
  refine w_fAddS (by have : ("aaaaaaaaaaaaaaaaaaaa" : Str).length = 20 := by decide +kernel
                     omega) ?_
  have e1 : (z ++ ("aaaaaaaaaaaaaaaaaaaa" : Str)).length = z.length + 20 := by rw [app_len]; rfl
  have e2 : (z ++ ("z9z9z9z9z9z9z9z9z9z9" : Str)).length = z.length + 20 := by rw [app_len]; rfl
  have a1' : asc (z ++ ("aaaaaaaaaaaaaaaaaaaa" : Str)) = true := asc_app za (by decide +kernel)
  have a2' : asc (z ++ ("z9z9z9z9z9z9z9z9z9z9" : Str)) = true := asc_app za (by decide +kernel)
  walk_at "PB03 V1"
  refine w_fMulS (by decide +kernel) ?_
  rw [repZ]
  refine w_fAddS (by have : ("z9z9z9z9z9z9z9z9z9z9" : Str).length = 20 := by decide +kernel
                     omega) ?_
  walk_at "PB03 V1"
  refine w_fAddS (by have : ("7" : Str).length = 1 := by decide +kernel
                     omega) ?_
  walk_at "PB03 V1"
  refine w_fAddS (by have : ("_" : Str).length = 1 := by decide +kernel
                     omega) ?_
  walk_at "PB03 V1"
  intro q hq'
  refine w_fzLst hq' ?_
  have c1 := cut_len1 z none (some at_)
  have c2 := cut_len1 z (some at_) none
  have c3 := cut_len1 z (some (at_ + 1)) none
  have c4 := cut_len1 (z ++ ("aaaaaaaaaaaaaaaaaaaa" : Str)) none (some s)
  have c5 := cut_len1 (z ++ ("z9z9z9z9z9z9z9z9z9z9" : Str)) none (some s)
  have l7 : (("7" : Str) ++ z).length = 1 + z.length := by rw [app_len]; rfl
  have l_ : (z ++ ("_" : Str)).length = z.length + 1 := by rw [app_len]; rfl
  have u1l := PyProof.Rows.len_upper (cutS z (some at_) none)
  walk_at "PB03 V1"
  refine ⟨by omega, ?_⟩
  refine w_fAddS (by omega) ?_
  walk_at "PB03 V1"
  refine w_fAddS (by rw [app_len]; omega) ?_
  walk_at "PB03 V1"
  intro q2 hq2
  refine w_fzLst hq2 ?_
  refine w_fAddLst rfl rfl (by show 5 + 2 ≤ sizeLine; omega) fun q3 hq3 => ?_
  refine w_fz ?_
  have hqp := (u3.pool.not hq3).symm
  have hqO := u3.none hq3 hqp
  walk_at "PB03 V1"
  refine And.intro (w_lstC put_same) ?_
  walk_at "PB03 V1"
  refine w_fAddS (by rw [app_len]; omega) ?_
  walk_at "PB03 V1"
  refine w_appD put_same (by show 7 < sizeLine; omega) ?_
  rw [put_put]
  have u4 := u3.new (u := .lst ([D.str "", D.str (cutS (z ++ ("aaaaaaaaaaaaaaaaaaaa" : Str)) none (some s)), D.str (cutS (z ++ ("z9z9z9z9z9z9z9z9z9z9" : Str)) none (some s)), D.str (("7" : Str) ++ z), D.str (z ++ ("_" : Str))] ++ [D.str (cutS z none (some at_) ++ Txt.upper (cutS z (some at_) none)), D.str (cutS z none (some at_) ++ sign ++ cutS z (some at_) none)] ++ [D.str (cutS z none (some at_) ++ sign ++ cutS z (some (at_ + 1)) none)])) hq3
  walk_at "PB03 W0"
  refine w_drw2 u4.pool (by omega) (by omega) fun r O5 r0 r1 u5 => ?_
  have e5 := u5.ne q3 _ hqp put_same
  obtain ⟨x, hx, _, ex⟩ := atI_ex (l := [D.str "", D.str (cutS (z ++ ("aaaaaaaaaaaaaaaaaaaa" : Str)) none (some s)), D.str (cutS (z ++ ("z9z9z9z9z9z9z9z9z9z9" : Str)) none (some s)), D.str (("7" : Str) ++ z), D.str (z ++ ("_" : Str))] ++ [D.str (cutS z none (some at_) ++ Txt.upper (cutS z (some at_) none)), D.str (cutS z none (some at_) ++ sign ++ cutS z (some at_) none)] ++ [D.str (cutS z none (some at_) ++ sign ++ cutS z (some (at_ + 1)) none)]) r0 r1
  refine w_fIxC e5 ex ?_
  have : OddS x := by
    simp only [List.cons_append, List.nil_append, List.mem_cons, List.not_mem_nil, or_false] at hx
    rcases hx with rfl | rfl | rfl | rfl | rfl | rfl | rfl | rfl
    · exact ⟨_, rfl, by decide +kernel, by decide +kernel⟩
    · exact ⟨_, rfl, by omega, asc_cut a1'⟩
    · exact ⟨_, rfl, by omega, asc_cut a2'⟩
    · exact ⟨_, rfl, by omega, asc_app (by decide +kernel) za⟩
    · exact ⟨_, rfl, by omega, asc_app za (by decide +kernel)⟩
    · exact ⟨_, rfl, by rw [app_len]; omega, asc_app (asc_cut za) (asc_upper (asc_cut za))⟩
    · exact ⟨_, rfl, by rw [app_len, app_len]; omega, asc_app (asc_app (asc_cut za) ca) (asc_cut za)⟩
    · exact ⟨_, rfl, by rw [app_len, app_len]; omega, asc_app (asc_app (asc_cut za) ca) (asc_cut za)⟩
  obtain ⟨y, rfl, y1, y2⟩ := this
  exact w_fz (hq _ _ y1 y2 (u4.trans u5))
theorem in_36 (c : Nat) : occS ⟨#[c]⟩ "abcdefghijklmnopqrstuvwxyz0123456789" = (lowC c || digC c) := by
  rw [occ_sign]
  have e : ("abcdefghijklmnopqrstuvwxyz0123456789" : Str).cps.toList = cs ("abcdefghijklmnopqrstuvwxyz" : Str) ++ cs ("0123456789" : Str) := by decide +kernel
  rw [e, ← in_low, ← in_dig, ← Bool.decide_or]
  exact decide_eq_decide.mpr List.mem_append
theorem b_law_is_name : BodyOk ["word", "sign"] 1 sp_law_is_name m_law_is_name := by
  rintro ds O Z P hl ⟨z, rfl, hz, hq⟩
  show m_law_is_name (En.mk _ _ _ _ _) [some (.str z), none] O
  unfold m_law_is_name
  have big := big_line
  have hlen := len_cs z
  have no : isName z = false → orFz P (.bl false) O := fun h => by rw [h] at hq; exact w_fz hq
  walk_at "PB03 V1"
  refine w_k (fun h => ?_) fun h => ?_
  · have h1 := of_decide_eq_true h
    walk_at "PB03 W0"
    refine no ?_
    unfold isName nameL
    rw [decide_eq_false (by omega : ¬ (1 ≤ (cs z).length ∧ (cs z).length ≤ 20))]
    rfl
  · have h1 := of_decide_eq_false h
    walk_at "PB03 V1"
    refine w_k (fun h => ?_) fun h => ?_
    · have h2 := of_decide_eq_true h
      walk_at "PB03 W0"
      refine no ?_
      unfold isName nameL
      rw [decide_eq_false (by omega : ¬ (1 ≤ (cs z).length ∧ (cs z).length ≤ 20))]
      rfl
    · have h2 := of_decide_eq_false h
      walk_at "PB03 W0"
      cases hc : cs z with
      | nil => rw [hc] at hlen; simp at hlen; omega
      | cons c r =>
        refine w_fIxS (c := c) (by omega) ?_ ?_
        · show atI (cs z) 0 = some c
          rw [hc]
          exact atI_zero
        walk_at "PB03 W0"
        rw [occ_low]
        refine w_k (fun h3 => ?_) fun h3 => ?_
        · walk_at "PB03 W0"
          refine no ?_
          unfold isName nameL
          rw [hc]
          simp at h3
          simp [h3]
        · have h3 : lowC c = true := by simpa using h3
          walk_at "PB03 W0"
          refine w_forL (fun c => D.str ⟨#[c]⟩) (fun r Γ O' => ∃ k pre, cs z = pre ++ r ∧ (∀ c ∈ pre, (lowC c || digC c) = true) ∧ Γ = [some (.str z), k] ∧ O' = O) ?_ ?_ ?_ _ _ _ ⟨none, [], rfl, fun c h => (List.not_mem_nil h).elim, rfl, rfl⟩
          · rintro r Γ O' ⟨k, pre, e, hp, rfl, rfl⟩
            rfl
          · rintro c' r' K hK Γ O' ⟨k, pre, e, hp, rfl, rfl⟩
            walk_at "PB03 W0"
            rw [in_36]
            refine w_k (fun h => ?_) fun h => ?_
            · have h : (lowC c' || digC c') = false := by simpa using h
              walk_at "PB03 W0"
              refine no ?_
              unfold isName nameL
              have : ((cs z).all fun c => lowC c || digC c) = false := by
                rw [e, List.all_append, List.all_cons, h]
                simp
              rw [this]
              simp
            · have h : (lowC c' || digC c') = true := by rw [Bool.not_eq_false'] at h; exact h
              walk_at "PB03 W0"
              refine hK _ _ ⟨_, pre ++ [c'], by rw [e]; simp, ?_, rfl, rfl⟩
              intro d hd
              rcases List.mem_append.mp hd with hd | hd
              · exact hp d hd
              · simp at hd
                subst hd
                exact h
          · rintro Γ O' ⟨k, pre, e, hp, rfl, rfl⟩
            walk_at "PB03 W0"
            refine w_fz ?_
            have : isName z = true := by
              unfold isName nameL
              rw [List.append_nil] at e
              have h4 : ((cs z).all fun c => lowC c || digC c) = true := by
                rw [e]
                exact List.all_eq_true.mpr hp
              rw [h4, decide_eq_true (by omega : 1 ≤ (cs z).length ∧ (cs z).length ≤ 20), hc]
              simp [h3]
            rw [this] at hq
            exact hq
end K03

namespace K03
open PySem L2 L3 LY
theorem cut3 (c : Ch) : cut [D.str c.n, D.int c.s, D.int c.a, D.int c.x, D.int c.w] none (some 3) = [.str c.n, .int c.s, .int c.a] := rfl
theorem Nm.ok {z : Str} (h : Nm z) : PyData.strOk z = true := asc_ok h.a
theorem key_iff {c d : Ch} : D.tup [.str c.n, .int c.s, .int c.a] = .tup [.str d.n, .int d.s, .int d.a] ↔ c.key = d.key := by
  simp [Ch.key]
theorem ch_iff {c d : Ch} : D.tup [.str c.n, .int c.s, .int c.a, .int c.x, .int c.w] = .tup [.str d.n, .int d.s, .int d.a, .int d.x, .int d.w] ↔ c = d := by
  cases c; cases d; simp
theorem chD_iff {c d : Ch} : chD c = chD d ↔ c = d := ch_iff
theorem ok3 {n : Str} {s a : Int} (h : PyData.strOk n = true) : okD (.tup [.str n, .int s, .int a]) = true := by simp [okD, okDs, h]
theorem ok5 {n : Str} {s a x w : Int} (h : PyData.strOk n = true) : okD (.tup [.str n, .int s, .int a, .int x, .int w]) = true := by simp [okD, okDs, h]
theorem dep3 {n : Str} {s a : Int} : depD (.tup [.str n, .int s, .int a]) ≤ 64 := by simp [depD, depDs]
theorem dep5 {n : Str} {s a x w : Int} : depD (.tup [.str n, .int s, .int a, .int x, .int w]) ≤ 64 := by simp [depD, depDs]
theorem dep_ch (c : Ch) : depD (chD c) ≤ 63 := by simp [chD, chF, depD, depDs]
theorem ok_chs {cs : List Ch} (h : ∀ c ∈ cs, PyData.strOk c.n = true) : okDs (cs.map chD) = true := okDs_mem fun d hd => by
  obtain ⟨c, hc, rfl⟩ := List.mem_map.mp hd
  exact ok5 (h c hc)
theorem dep_chs (cs : List Ch) : depDs (cs.map chD) ≤ 63 := depDs_map dep_ch
theorem in_chs {cs : List Ch} {c : Ch} : D.tup [.str c.n, .int c.s, .int c.a, .int c.x, .int c.w] ∈ cs.map chD ↔ c ∈ cs := by
  constructor
  · intro h
    obtain ⟨d, hd, e⟩ := List.mem_map.mp h
    rw [← chD_iff.mp (show chD d = chD c from e)]
    exact hd
  · intro h
    exact List.mem_map.mpr ⟨c, h, rfl⟩
/-- [c for c in choices if c[:3] == choice[:3]] -/
theorem comp_key {chk : Sto → Prop} {i j : Nat} {cs : List Ch} {d : Ch} {Γ : Gm} {O : Sto} {Q : PV} (hl : cs.length ≤ sizeLine) (hn : ∀ c ∈ cs, PyData.strOk c.n = true) (hd : PyData.strOk d.n = true) (hc : ∀ p acc, O p = none → chk (put O p (.lst acc)))
    (hi : i < Γ.length) (hij : i ≠ j) (hj : Γ[j]? = some (some (chD d)))
    (hq : ∀ p, O p = none → orFz Q (.cell p) (put O p (.lst ((atK cs d.key).map chD)))) :
    ∀ p, O p = none → lcL p chk (.one i) (mB (mOp (fEq false) (mSlice (mVar i) mNone (mSome (mC (.int 3)))) (mSlice (mVar j) mNone (mSome (mC (.int 3)))))) (mVar i) Γ (orFz Q (.cell p)) (cs.map chD) (put O p (.lst [])) := by
  refine w_lcG chD (fun c => decide (c.key = d.key)) chD hl hc (fun c hcm p acc hp K1 K0 h1 h0 => ?_) hq
  refine w_put1 ?_
  have e1 : (Γ.set i (some (chD c)))[i]? = some (some (.tup [.str c.n, .int c.s, .int c.a, .int c.x, .int c.w])) := by rw [List.getElem?_set_self hi]; rfl
  have e2 : (Γ.set i (some (chD c)))[j]? = some (some (.tup [.str d.n, .int d.s, .int d.a, .int d.x, .int d.w])) := by rw [List.getElem?_set_ne hij, hj]; rfl
  refine w_B ?_
  refine w_op ?_
  refine w_slice ?_
  refine w_var e1 ?_
  refine w_oNone ?_
  refine w_oSome ?_
  refine w_c ⟨3, rfl, ?_⟩
  refine w_slTup ?_
  refine w_slice ?_
  refine w_var e2 ?_
  refine w_oNone ?_
  refine w_oSome ?_
  refine w_c ⟨3, rfl, ?_⟩
  refine w_slTup ?_
  rw [cut3, cut3]
  refine w_eqP (ok3 (hn c hcm)) (ok3 hd) dep3 dep3 rfl key_iff ?_
  refine w_onBl ?_
  refine w_k (fun h => ?_) fun h => ?_
  · refine w_var e1 ?_
    exact h1 (decide_eq_true (cT h))
  · exact h0 (decide_eq_false (cF h))
theorem CsN.ok {n : Nat} {cs : List Ch} (h : CsN n cs) : ∀ c ∈ cs, PyData.strOk c.n = true := fun c hc => (h.2 c hc).ok
open Classical in
local macro_rules | `(tactic| walk_at "PC03 S0") => `(tactic| (repeat' first | with_reducible refine w_seq ?_ | with_reducible refine w_sui ?_ | with_reducible refine w_next ?_ | with_reducible refine w_brk ?_ | with_reducible refine w_cont ?_ | with_reducible refine w_ret ?_ | with_reducible refine w_retN ?_ | with_reducible refine w_drop ?_ | with_reducible refine w_asg ?_ | with_reducible refine w_par ?_ | with_reducible refine w_setA ?_ | with_reducible refine w_raise ?_ | with_reducible refine w_for ?_ | with_reducible refine w_iSeq ?_ | with_reducible refine w_iR1 ?_ | with_reducible refine w_iR2 ?_ | with_reducible refine w_iVals ?_ | with_reducible refine w_itLst ?_ | with_reducible refine w_itTup ?_ | with_reducible refine w_itStr ?_ | with_reducible refine w_tgName ?_ | with_reducible refine w_tgIx ?_ | with_reducible refine w_tgCons ?_ | with_reducible refine w_tgNil ?_ | with_reducible refine w_un ?_ | with_reducible refine w_op ?_ | with_reducible refine w_B ?_ | with_reducible refine w_tru ?_ | with_reducible refine w_and ?_ | with_reducible refine w_or ?_ | with_reducible refine w_not ?_ | with_reducible refine w_andV ?_ | with_reducible refine w_orV ?_ | with_reducible refine w_notV ?_ | with_reducible refine w_ifE ?_ | with_reducible refine w_nil ?_ | with_reducible refine w_cons ?_ | with_reducible refine w_tup ?_ | with_reducible refine w_lst ?_ | with_reducible refine w_cb ?_ | with_reducible refine w_call ?_ | with_reducible refine w_slice ?_ | with_reducible refine w_oNone ?_ | with_reducible refine w_onBl ?_ | with_reducible refine w_onTruB ?_ | with_reducible refine w_kT ?_ | with_reducible refine w_kF ?_ | with_reducible refine w_fAdd ?_ | with_reducible refine w_fSub ?_ | with_reducible refine w_fNeg ?_ | with_reducible refine w_fLt ?_ | with_reducible refine w_fLe ?_ | with_reducible refine w_fGt ?_ | with_reducible refine w_fGe ?_ | with_reducible refine w_fEqI ?_ | with_reducible refine w_fNeI ?_ | with_reducible refine w_fEqB ?_ | with_reducible refine w_fEqS ?_ | with_reducible refine w_fInt ?_ | with_reducible refine w_fIntB ?_ | with_reducible refine w_fAbs ?_ | with_reducible refine w_fMax ?_ | with_reducible refine w_fMin ?_ | with_reducible refine w_fGcd ?_ | with_reducible refine w_fLenL ?_ | with_reducible refine w_fLenT ?_ | with_reducible refine w_own ?_ | with_reducible refine w_ownI ?_ | with_reducible refine w_eqOwnI ?_ | with_reducible refine w_c ?_ | with_reducible refine w_make ?_ | with_reducible refine w_makeK ?_ | with_reducible refine w_par2 ?_ | with_reducible refine w_slLst ?_ | with_reducible refine w_p10_6 ?_ | with_reducible refine w_p10_8 ?_ | with_reducible refine w_p10_18 ?_ | with_reducible refine w_p10_30 ?_ | with_reducible refine w_p10_51 ?_ | with_reducible refine w_p10_59 ?_ | with_reducible refine w_p10_60 ?_ | with_reducible refine w_p2_63 ?_ | with_reducible refine w_p2_64 ?_ | with_reducible refine w_comp ?_ | with_reducible refine w_meth ?_ | with_reducible refine w_app ?_ | with_reducible refine w_tupOf ?_ | with_reducible refine w_tupL ?_ | with_reducible refine w_tupT ?_ | with_reducible refine w_sm ?_ | with_reducible refine w_sm0 ?_ | with_reducible refine w_isStr ?_ | with_reducible refine w_find ?_ | with_reducible refine w_starts ?_ | with_reducible refine w_isascii ?_ | with_reducible refine w_isdigit ?_ | with_reducible refine w_str1S ?_ | with_reducible refine w_strO ?_ | with_reducible refine w_fmt ?_ | with_reducible refine w_join ?_ | with_reducible refine w_jsNil ?_ | with_reducible refine w_jsCons ?_ | with_reducible refine w_inS ?_ | with_reducible refine w_notInS ?_ | with_reducible refine w_statI ?_ | with_reducible refine w_fNeS ?_ | with_reducible refine w_yes ?_ | with_reducible refine w_get2 ?_ | with_reducible refine w_get1 ?_ | with_reducible refine w_prop ?_ | with_reducible refine w_put1 ?_ | with_reducible refine w_list1L ?_ | with_reducible refine w_list1T ?_ | with_reducible refine w_fIsN ?_ | with_reducible refine w_retL ?_ | with_reducible refine w_valsT ?_ | with_reducible refine w_valsK ?_ | with_reducible refine w_chain ?_ | with_reducible refine w_slTup ?_ | ((with_reducible apply w_var); exact rfl) | ((with_reducible apply w_isE); exact rfl) | ((with_reducible apply w_onTru); exact rfl) | ((with_reducible apply w_tgTup); exact rfl) | ((with_reducible refine w_fPow ?_ ?_); exact ⟨by decide, by decide, by decide⟩) | (with_reducible refine w_fMod (by decide) ?_) | ((with_reducible apply w_fIxT); exact rfl) | ((with_reducible apply w_fIxL); exact rfl) | (with_reducible refine w_oSome ?_) | ((with_reducible apply w_fIxC); (first | with_reducible exact put_same | assumption); exact rfl) | ((with_reducible apply w_fLenC); (first | with_reducible exact put_same | assumption)) | ((with_reducible apply w_setL); (first | with_reducible exact put_same | assumption); exact rfl) | (with_reducible refine w_fLenS (by omega) ?_) | (with_reducible refine w_slStr (by omega) ?_) | (with_reducible refine w_fAddS (by omega) ?_) | (with_reducible refine w_remPre (by omega) ?_) | (with_reducible refine w_fmtS (by omega) ?_) | ((with_reducible apply w_itC); (first | with_reducible exact put_same | assumption)) | ((with_reducible apply w_list1C); (first | with_reducible exact put_same | assumption)) | ((with_reducible apply w_tupC); (first | with_reducible exact put_same | assumption)) | ((with_reducible apply w_slC); (first | with_reducible exact put_same | assumption)) | ((with_reducible apply w_isTc); (first | with_reducible exact put_same | assumption)) | (with_reducible refine w_drw (by assumption) (by omega) (by omega) (fun _ _ _ _ _ => ?_)) | (with_reducible refine w_fMul (mulR (by decide)) ?_) | (with_reducible refine w_fMul (mulL (by omega)) ?_) | (with_reducible refine w_fMul (mulR (by omega)) ?_) | (with_reducible refine w_fDiv (dv30 (by omega) (by omega)) ?_) | (with_reducible refine w_fMod (by omega) ?_) | ((with_reducible refine And.intro (a := List.length _ ≤ sizeLine) ?_ ?_); exact Nat.le_of_ble_eq_true rfl) | (with_reducible refine And.intro (a := List.length _ = _) rfl ?_) | (with_reducible refine w_fld ?_) | (with_reducible refine w_isT ?_) | (with_reducible refine w_isO ?_) | ((with_reducible refine Exists.intro ?_ (And.intro (a := fldD _ _ _ _ = _) ?_ ?_)); rotate_left; first | exact rfl) | ((with_reducible refine Exists.intro ?_ (And.intro (a := isT _ _ _ = _) ?_ ?_)); rotate_left; exact rfl) | ((with_reducible refine Exists.intro ?_ (And.intro (a := isO _ _ _ = _) ?_ ?_)); rotate_left; exact rfl) | ((with_reducible refine Exists.intro ?_ (And.intro (a := D.int _ = D.int _) ?_ ?_)); rotate_left; exact rfl) | ((with_reducible refine w_kT' (k := T3.isInt _) ?_ ?_); exact rfl) | ((with_reducible refine w_kT' (k := !T3.isInt _) ?_ ?_); exact rfl) | ((with_reducible refine w_kF' (k := T3.isInt _) ?_ ?_); exact rfl) | ((with_reducible refine w_kF' (k := !T3.isInt _) ?_ ?_); exact rfl) | ((with_reducible refine w_kT' (k := T3.isBl _) ?_ ?_); exact rfl) | ((with_reducible refine w_kT' (k := !T3.isBl _) ?_ ?_); exact rfl) | ((with_reducible refine w_kF' (k := T3.isBl _) ?_ ?_); exact rfl) | ((with_reducible refine w_kF' (k := !T3.isBl _) ?_ ?_); exact rfl) | ((with_reducible refine w_kT' (k := T3.isStr _) ?_ ?_); exact rfl) | ((with_reducible refine w_kT' (k := !T3.isStr _) ?_ ?_); exact rfl) | ((with_reducible refine w_kF' (k := T3.isStr _) ?_ ?_); exact rfl) | ((with_reducible refine w_kF' (k := !T3.isStr _) ?_ ?_); exact rfl) | ((with_reducible refine w_kT' (k := T3.isTup _) ?_ ?_); exact rfl) | ((with_reducible refine w_kT' (k := !T3.isTup _) ?_ ?_); exact rfl) | ((with_reducible refine w_kF' (k := T3.isTup _) ?_ ?_); exact rfl) | ((with_reducible refine w_kF' (k := !T3.isTup _) ?_ ?_); exact rfl) | ((with_reducible refine w_kT' (k := T3.isLst _) ?_ ?_); exact rfl) | ((with_reducible refine w_kT' (k := !T3.isLst _) ?_ ?_); exact rfl) | ((with_reducible refine w_kF' (k := T3.isLst _) ?_ ?_); exact rfl) | ((with_reducible refine w_kF' (k := !T3.isLst _) ?_ ?_); exact rfl) | ((with_reducible refine And.intro (a := insD _ _ _ _) ?_ ?_); (first | exact ⟨rfl, rfl⟩)) | ((with_reducible refine w_kT' (k := isNonD _ != _) ?_ ?_); exact rfl) | ((with_reducible refine w_kF' (k := isNonD _ != _) ?_ ?_); exact rfl) | (with_reducible refine w_kF' (k := !true) rfl ?_) | (with_reducible refine w_kT' (k := !false) rfl ?_) | ((with_reducible refine w_kT' (k := decide _) ?_ ?_); decide +kernel) | ((with_reducible refine w_kF' (k := decide _) ?_ ?_); decide +kernel)))
local macro_rules | `(tactic| walk_at "PC03 D1") => `(tactic| (repeat' first | with_reducible refine w_seq ?_ | with_reducible refine w_sui ?_ | with_reducible refine w_next ?_ | with_reducible refine w_brk ?_ | with_reducible refine w_cont ?_ | with_reducible refine w_ret ?_ | with_reducible refine w_retN ?_ | with_reducible refine w_drop ?_ | with_reducible refine w_if ?_ | with_reducible refine w_asg ?_ | with_reducible refine w_par ?_ | with_reducible refine w_setA ?_ | with_reducible refine w_raise ?_ | with_reducible refine w_for ?_ | with_reducible refine w_iSeq ?_ | with_reducible refine w_iR1 ?_ | with_reducible refine w_iR2 ?_ | with_reducible refine w_iVals ?_ | with_reducible refine w_itLst ?_ | with_reducible refine w_itTup ?_ | with_reducible refine w_itStr ?_ | with_reducible refine w_tgName ?_ | with_reducible refine w_tgIx ?_ | with_reducible refine w_tgCons ?_ | with_reducible refine w_tgNil ?_ | with_reducible refine w_un ?_ | with_reducible refine w_op ?_ | with_reducible refine w_B ?_ | with_reducible refine w_tru ?_ | with_reducible refine w_and ?_ | with_reducible refine w_or ?_ | with_reducible refine w_not ?_ | with_reducible refine w_andV ?_ | with_reducible refine w_orV ?_ | with_reducible refine w_notV ?_ | with_reducible refine w_ifE ?_ | with_reducible refine w_nil ?_ | with_reducible refine w_cons ?_ | with_reducible refine w_tup ?_ | with_reducible refine w_lst ?_ | with_reducible refine w_cb ?_ | with_reducible refine w_call ?_ | with_reducible refine w_slice ?_ | with_reducible refine w_oNone ?_ | with_reducible refine w_onBl ?_ | with_reducible refine w_onTruB ?_ | with_reducible refine w_kT ?_ | with_reducible refine w_kF ?_ | with_reducible refine w_fAdd ?_ | with_reducible refine w_fSub ?_ | with_reducible refine w_fNeg ?_ | with_reducible refine w_fLt ?_ | with_reducible refine w_fLe ?_ | with_reducible refine w_fGt ?_ | with_reducible refine w_fGe ?_ | with_reducible refine w_fEqI ?_ | with_reducible refine w_fNeI ?_ | with_reducible refine w_fEqB ?_ | with_reducible refine w_fEqS ?_ | with_reducible refine w_fInt ?_ | with_reducible refine w_fIntB ?_ | with_reducible refine w_fAbs ?_ | with_reducible refine w_fMax ?_ | with_reducible refine w_fMin ?_ | with_reducible refine w_fGcd ?_ | with_reducible refine w_fLenL ?_ | with_reducible refine w_fLenT ?_ | with_reducible refine w_own ?_ | with_reducible refine w_ownI ?_ | with_reducible refine w_eqOwnI ?_ | with_reducible refine w_c ?_ | with_reducible refine w_make ?_ | with_reducible refine w_makeK ?_ | with_reducible refine w_par2 ?_ | with_reducible refine w_slLst ?_ | with_reducible refine w_p10_6 ?_ | with_reducible refine w_p10_8 ?_ | with_reducible refine w_p10_18 ?_ | with_reducible refine w_p10_30 ?_ | with_reducible refine w_p10_51 ?_ | with_reducible refine w_p10_59 ?_ | with_reducible refine w_p10_60 ?_ | with_reducible refine w_p2_63 ?_ | with_reducible refine w_p2_64 ?_ | with_reducible refine w_comp ?_ | with_reducible refine w_meth ?_ | with_reducible refine w_app ?_ | with_reducible refine w_tupOf ?_ | with_reducible refine w_tupL ?_ | with_reducible refine w_tupT ?_ | with_reducible refine w_sm ?_ | with_reducible refine w_sm0 ?_ | with_reducible refine w_isStr ?_ | with_reducible refine w_find ?_ | with_reducible refine w_starts ?_ | with_reducible refine w_isascii ?_ | with_reducible refine w_isdigit ?_ | with_reducible refine w_str1S ?_ | with_reducible refine w_strO ?_ | with_reducible refine w_fmt ?_ | with_reducible refine w_join ?_ | with_reducible refine w_jsNil ?_ | with_reducible refine w_jsCons ?_ | with_reducible refine w_inS ?_ | with_reducible refine w_notInS ?_ | with_reducible refine w_statI ?_ | with_reducible refine w_fNeS ?_ | with_reducible refine w_yes ?_ | with_reducible refine w_get2 ?_ | with_reducible refine w_get1 ?_ | with_reducible refine w_prop ?_ | with_reducible refine w_put1 ?_ | with_reducible refine w_list1L ?_ | with_reducible refine w_list1T ?_ | with_reducible refine w_fIsN ?_ | with_reducible refine w_retL ?_ | with_reducible refine w_valsT ?_ | with_reducible refine w_valsK ?_ | with_reducible refine w_chain ?_ | with_reducible refine w_slTup ?_ | ((with_reducible apply w_var); exact rfl) | ((with_reducible apply w_isE); exact rfl) | ((with_reducible apply w_onTru); exact rfl) | ((with_reducible apply w_tgTup); exact rfl) | ((with_reducible refine w_fPow ?_ ?_); exact ⟨by decide, by decide, by decide⟩) | (with_reducible refine w_fMod (by decide) ?_) | ((with_reducible apply w_fIxT); exact rfl) | ((with_reducible apply w_fIxL); exact rfl) | (with_reducible refine w_oSome ?_) | ((with_reducible apply w_fIxC); (first | with_reducible exact put_same | assumption); exact rfl) | ((with_reducible apply w_fLenC); (first | with_reducible exact put_same | assumption)) | ((with_reducible apply w_setL); (first | with_reducible exact put_same | assumption); exact rfl) | (with_reducible refine w_fLenS (by omega) ?_) | (with_reducible refine w_slStr (by omega) ?_) | (with_reducible refine w_fAddS (by omega) ?_) | (with_reducible refine w_remPre (by omega) ?_) | (with_reducible refine w_fmtS (by omega) ?_) | ((with_reducible apply w_itC); (first | with_reducible exact put_same | assumption)) | ((with_reducible apply w_list1C); (first | with_reducible exact put_same | assumption)) | ((with_reducible apply w_tupC); (first | with_reducible exact put_same | assumption)) | ((with_reducible apply w_slC); (first | with_reducible exact put_same | assumption)) | ((with_reducible apply w_isTc); (first | with_reducible exact put_same | assumption)) | (with_reducible refine w_drw (by assumption) (by omega) (by omega) (fun _ _ _ _ _ => ?_)) | (with_reducible refine w_fMul (mulR (by decide)) ?_) | (with_reducible refine w_fMul (mulL (by omega)) ?_) | (with_reducible refine w_fMul (mulR (by omega)) ?_) | (with_reducible refine w_fDiv (dv30 (by omega) (by omega)) ?_) | (with_reducible refine w_fMod (by omega) ?_) | ((with_reducible refine And.intro (a := List.length _ ≤ sizeLine) ?_ ?_); exact Nat.le_of_ble_eq_true rfl) | (with_reducible refine And.intro (a := List.length _ = _) rfl ?_) | (with_reducible refine w_fld ?_) | (with_reducible refine w_isT ?_) | (with_reducible refine w_isO ?_) | ((with_reducible refine Exists.intro ?_ (And.intro (a := fldD _ _ _ _ = _) ?_ ?_)); rotate_left; first | exact rfl) | ((with_reducible refine Exists.intro ?_ (And.intro (a := isT _ _ _ = _) ?_ ?_)); rotate_left; exact rfl) | ((with_reducible refine Exists.intro ?_ (And.intro (a := isO _ _ _ = _) ?_ ?_)); rotate_left; exact rfl) | ((with_reducible refine Exists.intro ?_ (And.intro (a := D.int _ = D.int _) ?_ ?_)); rotate_left; exact rfl) | ((with_reducible refine w_kT' (k := T3.isInt _) ?_ ?_); exact rfl) | ((with_reducible refine w_kT' (k := !T3.isInt _) ?_ ?_); exact rfl) | ((with_reducible refine w_kF' (k := T3.isInt _) ?_ ?_); exact rfl) | ((with_reducible refine w_kF' (k := !T3.isInt _) ?_ ?_); exact rfl) | ((with_reducible refine w_kT' (k := T3.isBl _) ?_ ?_); exact rfl) | ((with_reducible refine w_kT' (k := !T3.isBl _) ?_ ?_); exact rfl) | ((with_reducible refine w_kF' (k := T3.isBl _) ?_ ?_); exact rfl) | ((with_reducible refine w_kF' (k := !T3.isBl _) ?_ ?_); exact rfl) | ((with_reducible refine w_kT' (k := T3.isStr _) ?_ ?_); exact rfl) | ((with_reducible refine w_kT' (k := !T3.isStr _) ?_ ?_); exact rfl) | ((with_reducible refine w_kF' (k := T3.isStr _) ?_ ?_); exact rfl) | ((with_reducible refine w_kF' (k := !T3.isStr _) ?_ ?_); exact rfl) | ((with_reducible refine w_kT' (k := T3.isTup _) ?_ ?_); exact rfl) | ((with_reducible refine w_kT' (k := !T3.isTup _) ?_ ?_); exact rfl) | ((with_reducible refine w_kF' (k := T3.isTup _) ?_ ?_); exact rfl) | ((with_reducible refine w_kF' (k := !T3.isTup _) ?_ ?_); exact rfl) | ((with_reducible refine w_kT' (k := T3.isLst _) ?_ ?_); exact rfl) | ((with_reducible refine w_kT' (k := !T3.isLst _) ?_ ?_); exact rfl) | ((with_reducible refine w_kF' (k := T3.isLst _) ?_ ?_); exact rfl) | ((with_reducible refine w_kF' (k := !T3.isLst _) ?_ ?_); exact rfl) | ((with_reducible refine And.intro (a := insD _ _ _ _) ?_ ?_); (first | exact ⟨rfl, rfl⟩)) | ((with_reducible refine w_kT' (k := isNonD _ != _) ?_ ?_); exact rfl) | ((with_reducible refine w_kF' (k := isNonD _ != _) ?_ ?_); exact rfl) | (with_reducible refine w_kF' (k := !true) rfl ?_) | (with_reducible refine w_kT' (k := !false) rfl ?_) | ((with_reducible refine w_kT' (k := decide _) ?_ ?_); decide +kernel) | ((with_reducible refine w_kF' (k := decide _) ?_ ?_); decide +kernel)))
local macro_rules | `(tactic| walk_at "PC03 W2") => `(tactic| (repeat' first | with_reducible refine w_seq ?_ | with_reducible refine w_sui ?_ | with_reducible refine w_next ?_ | with_reducible refine w_brk ?_ | with_reducible refine w_cont ?_ | with_reducible refine w_ret ?_ | with_reducible refine w_retN ?_ | with_reducible refine w_drop ?_ | with_reducible refine w_if ?_ | with_reducible refine w_asg ?_ | with_reducible refine w_par ?_ | with_reducible refine w_setA ?_ | with_reducible refine w_raise ?_ | with_reducible refine w_for ?_ | with_reducible refine w_iSeq ?_ | with_reducible refine w_iR1 ?_ | with_reducible refine w_iR2 ?_ | with_reducible refine w_iVals ?_ | with_reducible refine w_itLst ?_ | with_reducible refine w_itTup ?_ | with_reducible refine w_itStr ?_ | with_reducible refine w_tgName ?_ | with_reducible refine w_tgIx ?_ | with_reducible refine w_tgCons ?_ | with_reducible refine w_tgNil ?_ | with_reducible refine w_un ?_ | with_reducible refine w_op ?_ | with_reducible refine w_B ?_ | with_reducible refine w_tru ?_ | with_reducible refine w_and ?_ | with_reducible refine w_or ?_ | with_reducible refine w_not ?_ | with_reducible refine w_andV ?_ | with_reducible refine w_orV ?_ | with_reducible refine w_notV ?_ | with_reducible refine w_ifE ?_ | with_reducible refine w_nil ?_ | with_reducible refine w_cons ?_ | with_reducible refine w_tup ?_ | with_reducible refine w_lst ?_ | with_reducible refine w_cb ?_ | with_reducible refine w_call ?_ | with_reducible refine w_slice ?_ | with_reducible refine w_oNone ?_ | with_reducible refine w_onBl ?_ | with_reducible refine w_onTruB ?_ | with_reducible refine w_kT ?_ | with_reducible refine w_kF ?_ | with_reducible refine w_fAdd ?_ | with_reducible refine w_fSub ?_ | with_reducible refine w_fNeg ?_ | with_reducible refine w_fLt ?_ | with_reducible refine w_fLe ?_ | with_reducible refine w_fGt ?_ | with_reducible refine w_fGe ?_ | with_reducible refine w_fEqI ?_ | with_reducible refine w_fNeI ?_ | with_reducible refine w_fEqB ?_ | with_reducible refine w_fEqS ?_ | with_reducible refine w_fInt ?_ | with_reducible refine w_fIntB ?_ | with_reducible refine w_fAbs ?_ | with_reducible refine w_fMax ?_ | with_reducible refine w_fMin ?_ | with_reducible refine w_fGcd ?_ | with_reducible refine w_fLenL ?_ | with_reducible refine w_fLenT ?_ | with_reducible refine w_own ?_ | with_reducible refine w_ownI ?_ | with_reducible refine w_eqOwnI ?_ | with_reducible refine w_c ?_ | with_reducible refine w_make ?_ | with_reducible refine w_makeK ?_ | with_reducible refine w_par2 ?_ | with_reducible refine w_slLst ?_ | with_reducible refine w_p10_6 ?_ | with_reducible refine w_p10_8 ?_ | with_reducible refine w_p10_18 ?_ | with_reducible refine w_p10_30 ?_ | with_reducible refine w_p10_51 ?_ | with_reducible refine w_p10_59 ?_ | with_reducible refine w_p10_60 ?_ | with_reducible refine w_p2_63 ?_ | with_reducible refine w_p2_64 ?_ | with_reducible refine w_comp ?_ | with_reducible refine w_meth ?_ | with_reducible refine w_app ?_ | with_reducible refine w_tupOf ?_ | with_reducible refine w_tupL ?_ | with_reducible refine w_tupT ?_ | with_reducible refine w_sm ?_ | with_reducible refine w_sm0 ?_ | with_reducible refine w_isStr ?_ | with_reducible refine w_find ?_ | with_reducible refine w_starts ?_ | with_reducible refine w_isascii ?_ | with_reducible refine w_isdigit ?_ | with_reducible refine w_str1S ?_ | with_reducible refine w_strO ?_ | with_reducible refine w_fmt ?_ | with_reducible refine w_join ?_ | with_reducible refine w_jsNil ?_ | with_reducible refine w_jsCons ?_ | with_reducible refine w_inS ?_ | with_reducible refine w_notInS ?_ | with_reducible refine w_statI ?_ | with_reducible refine w_fNeS ?_ | with_reducible refine w_yes ?_ | with_reducible refine w_get2 ?_ | with_reducible refine w_get1 ?_ | with_reducible refine w_prop ?_ | with_reducible refine w_put1 ?_ | with_reducible refine w_list1L ?_ | with_reducible refine w_list1T ?_ | with_reducible refine w_fIsN ?_ | with_reducible refine w_retL ?_ | with_reducible refine w_valsT ?_ | with_reducible refine w_valsK ?_ | with_reducible refine w_chain ?_ | with_reducible refine w_slTup ?_ | ((with_reducible apply w_var); exact rfl) | ((with_reducible apply w_isE); exact rfl) | ((with_reducible apply w_onTru); exact rfl) | ((with_reducible apply w_tgTup); exact rfl) | ((with_reducible refine w_fPow ?_ ?_); exact ⟨by decide, by decide, by decide⟩) | (with_reducible refine w_fMod (by decide) ?_) | ((with_reducible apply w_fIxT); exact rfl) | ((with_reducible apply w_fIxL); exact rfl) | (with_reducible refine w_oSome ?_) | ((with_reducible apply w_fIxC); (first | with_reducible exact put_same | assumption); exact rfl) | ((with_reducible apply w_fLenC); (first | with_reducible exact put_same | assumption)) | ((with_reducible apply w_setL); (first | with_reducible exact put_same | assumption); exact rfl) | ((with_reducible apply w_itC); (first | with_reducible exact put_same | assumption)) | ((with_reducible apply w_list1C); (first | with_reducible exact put_same | assumption)) | ((with_reducible apply w_tupC); (first | with_reducible exact put_same | assumption)) | ((with_reducible apply w_slC); (first | with_reducible exact put_same | assumption)) | ((with_reducible apply w_isTc); (first | with_reducible exact put_same | assumption)) | ((with_reducible refine And.intro (a := List.length _ ≤ sizeLine) ?_ ?_); exact Nat.le_of_ble_eq_true rfl) | (with_reducible refine And.intro (a := List.length _ = _) rfl ?_) | (with_reducible refine w_fld ?_) | (with_reducible refine w_isT ?_) | (with_reducible refine w_isO ?_) | ((with_reducible refine Exists.intro ?_ (And.intro (a := fldD _ _ _ _ = _) ?_ ?_)); rotate_left; first | exact rfl) | ((with_reducible refine Exists.intro ?_ (And.intro (a := isT _ _ _ = _) ?_ ?_)); rotate_left; exact rfl) | ((with_reducible refine Exists.intro ?_ (And.intro (a := isO _ _ _ = _) ?_ ?_)); rotate_left; exact rfl) | ((with_reducible refine Exists.intro ?_ (And.intro (a := D.int _ = D.int _) ?_ ?_)); rotate_left; exact rfl) | ((with_reducible refine w_kT' (k := T3.isInt _) ?_ ?_); exact rfl) | ((with_reducible refine w_kT' (k := !T3.isInt _) ?_ ?_); exact rfl) | ((with_reducible refine w_kF' (k := T3.isInt _) ?_ ?_); exact rfl) | ((with_reducible refine w_kF' (k := !T3.isInt _) ?_ ?_); exact rfl) | ((with_reducible refine w_kT' (k := T3.isBl _) ?_ ?_); exact rfl) | ((with_reducible refine w_kT' (k := !T3.isBl _) ?_ ?_); exact rfl) | ((with_reducible refine w_kF' (k := T3.isBl _) ?_ ?_); exact rfl) | ((with_reducible refine w_kF' (k := !T3.isBl _) ?_ ?_); exact rfl) | ((with_reducible refine w_kT' (k := T3.isStr _) ?_ ?_); exact rfl) | ((with_reducible refine w_kT' (k := !T3.isStr _) ?_ ?_); exact rfl) | ((with_reducible refine w_kF' (k := T3.isStr _) ?_ ?_); exact rfl) | ((with_reducible refine w_kF' (k := !T3.isStr _) ?_ ?_); exact rfl) | ((with_reducible refine w_kT' (k := T3.isTup _) ?_ ?_); exact rfl) | ((with_reducible refine w_kT' (k := !T3.isTup _) ?_ ?_); exact rfl) | ((with_reducible refine w_kF' (k := T3.isTup _) ?_ ?_); exact rfl) | ((with_reducible refine w_kF' (k := !T3.isTup _) ?_ ?_); exact rfl) | ((with_reducible refine w_kT' (k := T3.isLst _) ?_ ?_); exact rfl) | ((with_reducible refine w_kT' (k := !T3.isLst _) ?_ ?_); exact rfl) | ((with_reducible refine w_kF' (k := T3.isLst _) ?_ ?_); exact rfl) | ((with_reducible refine w_kF' (k := !T3.isLst _) ?_ ?_); exact rfl) | ((with_reducible refine And.intro (a := insD _ _ _ _) ?_ ?_); (first | exact ⟨rfl, rfl⟩)) | ((with_reducible refine w_kT' (k := isNonD _ != _) ?_ ?_); exact rfl) | ((with_reducible refine w_kF' (k := isNonD _ != _) ?_ ?_); exact rfl) | (with_reducible refine w_kF' (k := !true) rfl ?_) | (with_reducible refine w_kT' (k := !false) rfl ?_) | ((with_reducible refine w_kT' (k := decide _) ?_ ?_); decide +kernel) | ((with_reducible refine w_kF' (k := decide _) ?_ ?_); decide +kernel)))
theorem b_law_book : BodyOk ["pool", "names", "states", "spread", "near", "tame", "first", "choices", "k", "home", "name", "choice", "alike", "c"] 1 sp_law_book m_law_book := by
  rintro ds O Z P hl ⟨p, rfl, hp, hq⟩
  show m_law_book (En.mk _ _ _ _ _) [some (.cell p), none, none, none, none, none, none, none, none, none, none, none, none, none] O
  unfold m_law_book
  have big := big_line
  walk_at "PC03 S0"
  refine ⟨p, rfl, hp, fun zs O1 zne zl zn u1 => ?_⟩
  walk_at "PC03 S0"
  refine w_cut (fun Γ' O' => ∃ s : Int, 1 ≤ s ∧ s ≤ 600 ∧ Upd p O O' ∧ Γ' = [some (.cell p), some (.lst (zs.map D.str)), some (.int s), none, none, none, none, none, none, none, none, none, none, none]) ?_ ?_
  · rintro Γ O1 ⟨s, s1, s2, u1, rfl⟩
    walk_at "PC03 D1"
    intro q hq'
    refine w_fzLst hq' ?_
    walk_at "PC03 D1"
    refine w_ixAny (by omega) (by simp; omega) fun x hx => ?_
    have : ∃ i, x = .int i ∧ 1 ≤ i ∧ i ≤ 600 := by
      simp only [List.mem_cons, List.not_mem_nil, or_false] at hx
      rcases hx with rfl | rfl | rfl <;> exact ⟨_, rfl, by omega, by omega⟩
    obtain ⟨sp, rfl, sp1, sp2⟩ := this
    walk_at "PC03 D1"
    intro q hq'
    refine w_fzLst hq' ?_
    walk_at "PC03 D1"
    refine w_ixAny (by omega) (by simp; omega) fun x hx => ?_
    have : ∃ i, x = .int i ∧ 1 ≤ i ∧ i ≤ 600 := by
      simp only [List.mem_cons, List.not_mem_nil, or_false] at hx
      rcases hx with rfl | rfl | rfl <;> exact ⟨_, rfl, by omega, by omega⟩
    obtain ⟨nr, rfl, nr1, nr2⟩ := this
    walk_at "PC03 D1"
    rename_i r4 O4 _ _ u4 r5 O5 f0 f1 u5
    generalize decide (0 < r4) = tame
    intro q hq'
    refine w_fz ?_
    have hqp := (u5.pool.not hq').symm
    have hqO := u5.none hq' hqp
    have u6 := u5.new (u := .lst []) hq'
    walk_at "PC03 W2"
    refine w_drw2 u6.pool (by omega) (by omega) fun r6 O6 r60 r61 u7 => ?_
    have e6 : O6 q = some (.lst []) := u7.ne q _ hqp put_same
    have u06 := u6.trans u7
    walk_at "PC03 W2"
    refine w_rng1 (by omega) ?_
    refine w_forN (fun n lo Γ O' => ∃ (cs : List Ch) (x8 x9 x10 x11 x12 x13 : Option D), cs.length + n ≤ 12 ∧ CsN 20 cs ∧ Upd p O O' ∧ O' q = some (.lst (cs.map chD)) ∧ Γ = [some (.cell p), some (.lst (zs.map D.str)), some (.int s), some (.int sp), some (.int nr), some (.bl tame), some (.int r5), some (.cell q), x8, x9, x10, x11, x12, x13]) (fun _ _ _ _ _ => trivial) ?_ ?_ _ _ _ _ ⟨[], none, none, none, none, none, none, by simp; omega, ⟨by simp, by simp⟩, u06, e6, rfl⟩
    · rintro n lo K hK Γ O7 ⟨cs, x8, x9, x10, x11, x12, x13, hlen, hcs, u, e, rfl⟩
      have mn : ∃ m, (if s < nr then s else nr) = m ∧ 1 ≤ m ∧ m ≤ 600 := by
        refine ⟨_, rfl, ?_, ?_⟩ <;> split <;> omega
      obtain ⟨mn, emn, mn1, mn2⟩ := mn
      walk_at "PC03 W2"
      rw [emn]
      refine w_drw2 u.pool (by omega) (by omega) fun h O8 h0 h1 u8 => ?_
      have e8 : O8 q = _ := u8.ne q _ hqp e
      have u08 := u.trans u8
      walk_at "PC03 W2"
      have zl2 : 1 ≤ zs.length := by
        cases zs with
        | nil => exact absurd rfl zne
        | cons => simp
      refine w_drw2 u08.pool (by simp; omega) (by simp; omega) fun i9 O9 i0 i1 u9 => ?_
      rw [List.length_map] at i1
      have e9 : O9 q = _ := u9.ne q _ hqp e8
      have u09 := u08.trans u9
      obtain ⟨z, hz, _, ez⟩ := atI_get (f := D.str) i0 i1
      refine w_fIxL ez ?_
      walk_at "PC03 W2"
      refine w_drw2 u09.pool (by omega) (by omega) fun ra Oa _ _ ua => ?_
      have ea : Oa q = _ := ua.ne q _ hqp e9
      have u0a := u09.trans ua
      walk_at "PC03 W2"
      refine w_drw2 u0a.pool (by omega) (by omega) fun rb Ob _ _ ub => ?_
      have eb : Ob q = _ := ub.ne q _ hqp ea
      have u0b := u0a.trans ub
      walk_at "PC03 W2"
      refine w_drw2 u0b.pool (by omega) (by omega) fun rc Oc _ _ uc => ?_
      have ec : Oc q = _ := uc.ne q _ hqp eb
      have u0c := u0b.trans uc
      obtain ⟨d, hd⟩ : ∃ d : Ch, d = ⟨z, s - 1 - h, 7 - ra, rb, rc⟩ := ⟨_, rfl⟩
      have nz := zn z hz
      have hdn : Nm d.n := by rw [hd]; exact nz
      have ed : D.tup [D.str z, D.int (s - 1 - h), D.int (7 - ra), D.int rb, D.int rc] = chD d := by rw [hd]; rfl
      walk_at "PC03 W2"
      rw [ed]
      refine comp_key (i := 13) (j := 11) (by have := hcs.1; omega) hcs.ok hdn.ok (fun p' acc hp' => ?_) (Nat.le_of_ble_eq_true rfl) (by decide) rfl fun q' hq'' => ?_
      · refine items_cell ?_
        rw [put_ne]
        · exact ec
        · rintro rfl; rw [ec] at hp'; cases hp'
      refine w_fzLst hq'' ?_
      walk_at "PC03 W2"
      have fin : ∀ O', Upd p O O' → O' q = some (.lst (cs.map chD)) → CsN 20 (cs ++ [d]) := fun O' _ _ => ⟨by simp; have := hcs.1; omega, fun c hc => by
        rcases List.mem_append.mp hc with hc | hc
        · exact hcs.2 c hc
        · simp at hc; subst hc; exact hdn⟩
      have app : CsN 20 (cs ++ [d]) := fin Oc u0c ec
      have dF : chD d = .tup [.str d.n, .int d.s, .int d.a, .int d.x, .int d.w] := rfl
      cases tame with
      | false =>
        walk_at "PC03 W2"
        refine And.intro (w_lstC ec) ?_
        walk_at "PC03 W2"
        refine w_appD ec (by simp; omega) ?_
        exact hK _ _ ⟨cs ++ [d], _, _, _, _, _, _, by simp; omega, app, u0c.again hqO hqp, by rw [put_same]; simp, rfl⟩
      | true =>
        walk_at "PC03 W2"
        refine w_inP (ds := cs.map chD) (p := d ∈ cs) (seqOf_lst ec) (dicOf_lst ec) (ok5 hdn.ok) (ok_chs hcs.ok) dep5 (dep_chs _) (fun _ h => nomatch h) in_chs ?_
        simp only [if_true]
        walk_at "PC03 W2"
        refine w_k (fun h => ?_) fun h => ?_
        · walk_at "PC03 W2"
          refine w_k (fun h => ?_) fun h => ?_
          · walk_at "PC03 W2"
            refine And.intro (w_lstC ec) ?_
            walk_at "PC03 W2"
            refine w_appD ec (by simp; omega) ?_
            exact hK _ _ ⟨cs ++ [d], _, _, _, _, _, _, by simp; omega, app, u0c.again hqO hqp, by rw [put_same]; simp, rfl⟩
          · walk_at "PC03 W2"
            exact hK _ _ ⟨cs, _, _, _, _, _, _, by omega, hcs, u0c, ec, rfl⟩
        · walk_at "PC03 W2"
          exact hK _ _ ⟨cs, _, _, _, _, _, _, by omega, hcs, u0c, ec, rfl⟩
    · rintro lo Γ O7 ⟨cs, x8, x9, x10, x11, x12, x13, hlen, hcs, u, e, rfl⟩
      walk_at "PC03 W2"
      refine ⟨_, _, .tup (i := 2) (.lst e) rfl rfl, ?_⟩
      refine hq _ _ _ _ s1 s2 hcs ⟨?_, fun r w n hr => ?_⟩
      · obtain ⟨a, b, c, k, e⟩ := u.pool
        exact ⟨a, b, c, k, by rw [del_ne hqp.symm]; exact e⟩
      · have n2 : r ≠ q := by rintro rfl; rw [hqO] at hr; cases hr
        rw [del_ne n2]
        exact u.ne r w n hr
  · intro nx' hJ
    walk_at "PC03 D1"
    refine w_k (fun h => ?_) fun h => ?_
    · walk_at "PC03 D1"
      intro q hq'
      refine w_fzLst hq' ?_
      walk_at "PC03 D1"
      refine w_ixAny (by omega) (by simp; omega) fun x hx => ?_
      have : ∃ i, x = .int i ∧ 1 ≤ i ∧ i ≤ 600 := by
        simp only [List.mem_cons, List.not_mem_nil, or_false] at hx
        rcases hx with rfl | rfl | rfl <;> exact ⟨_, rfl, by omega, by omega⟩
      obtain ⟨s, rfl, s1, s2⟩ := this
      walk_at "PC03 D1"
      exact hJ _ _ ⟨_, s1, s2, by assumption, rfl⟩
    · walk_at "PC03 D1"
      exact hJ _ _ ⟨_, by omega, by omega, by assumption, rfl⟩
end K03

namespace K03
open PySem L2 L3 LY
theorem keyT_iff {c : Ch} {k : K3} : D.tup [.str c.n, .int c.s, .int c.a] = keyT k ↔ c.key = k := by
  obtain ⟨a, b, d⟩ := k
  simp [keyT, Ch.key]
theorem okT {k : K3} (h : PyData.strOk k.1 = true) : okD (keyT k) = true := ok3 h
/-- [e for c in choices if c[:3] == key] -/
theorem comp_keyT {ma : ME} {f : Ch → D} {chk : Sto → Prop} {i j : Nat} {cs : List Ch} {k : K3} {Γ : Gm} {O : Sto} {Q : PV} (hl : cs.length ≤ sizeLine) (hn : ∀ c ∈ cs, PyData.strOk c.n = true) (hd : PyData.strOk k.1 = true) (hc : ∀ p acc, O p = none → chk (put O p (.lst acc)))
    (hi : i < Γ.length) (hij : i ≠ j) (hj : Γ[j]? = some (some (keyT k))) (hm : ∀ c O' (K1 : PV), K1 (f c) O' → ma noX (Γ.set i (some (.tup [.str c.n, .int c.s, .int c.a, .int c.x, .int c.w]))) O' K1)
    (hq : ∀ p, O p = none → orFz Q (.cell p) (put O p (.lst ((atK cs k).map f)))) :
    ∀ p, O p = none → lcL p chk (.one i) (mB (mOp (fEq false) (mSlice (mVar i) mNone (mSome (mC (.int 3)))) (mVar j))) ma Γ (orFz Q (.cell p)) (cs.map chD) (put O p (.lst [])) := by
  refine w_lcG chD (fun c => decide (c.key = k)) f hl hc (fun c hcm p acc hp K1 K0 h1 h0 => ?_) hq
  refine w_put1 ?_
  have e1 : (Γ.set i (some (chD c)))[i]? = some (some (.tup [.str c.n, .int c.s, .int c.a, .int c.x, .int c.w])) := by rw [List.getElem?_set_self hi]; rfl
  have e2 : (Γ.set i (some (chD c)))[j]? = some (some (keyT k)) := by rw [List.getElem?_set_ne hij, hj]
  refine w_B ?_
  refine w_op ?_
  refine w_slice ?_
  refine w_var e1 ?_
  refine w_oNone ?_
  refine w_oSome ?_
  refine w_c ⟨3, rfl, ?_⟩
  refine w_slTup ?_
  refine w_var e2 ?_
  rw [cut3]
  refine w_eqP (ok3 (hn c hcm)) (okT hd) dep3 (by simp [keyT, depD, depDs]) rfl keyT_iff ?_
  refine w_onBl ?_
  refine w_k (fun h => ?_) fun h => ?_
  · exact hm _ _ _ (h1 (decide_eq_true (cT h)))
  · exact h0 (decide_eq_false (cF h))
local macro_rules | `(tactic| walk_at "PD03 W0") => `(tactic| (repeat' first | with_reducible refine w_seq ?_ | with_reducible refine w_sui ?_ | with_reducible refine w_next ?_ | with_reducible refine w_brk ?_ | with_reducible refine w_cont ?_ | with_reducible refine w_ret ?_ | with_reducible refine w_retN ?_ | with_reducible refine w_drop ?_ | with_reducible refine w_if ?_ | with_reducible refine w_asg ?_ | with_reducible refine w_par ?_ | with_reducible refine w_setA ?_ | with_reducible refine w_raise ?_ | with_reducible refine w_for ?_ | with_reducible refine w_iSeq ?_ | with_reducible refine w_iR1 ?_ | with_reducible refine w_iR2 ?_ | with_reducible refine w_iVals ?_ | with_reducible refine w_itLst ?_ | with_reducible refine w_itTup ?_ | with_reducible refine w_itStr ?_ | with_reducible refine w_tgName ?_ | with_reducible refine w_tgIx ?_ | with_reducible refine w_tgCons ?_ | with_reducible refine w_tgNil ?_ | with_reducible refine w_un ?_ | with_reducible refine w_op ?_ | with_reducible refine w_B ?_ | with_reducible refine w_tru ?_ | with_reducible refine w_and ?_ | with_reducible refine w_or ?_ | with_reducible refine w_not ?_ | with_reducible refine w_andV ?_ | with_reducible refine w_orV ?_ | with_reducible refine w_notV ?_ | with_reducible refine w_ifE ?_ | with_reducible refine w_nil ?_ | with_reducible refine w_cons ?_ | with_reducible refine w_tup ?_ | with_reducible refine w_lst ?_ | with_reducible refine w_cb ?_ | with_reducible refine w_call ?_ | with_reducible refine w_slice ?_ | with_reducible refine w_oNone ?_ | with_reducible refine w_onBl ?_ | with_reducible refine w_onTruB ?_ | with_reducible refine w_kT ?_ | with_reducible refine w_kF ?_ | with_reducible refine w_fAdd ?_ | with_reducible refine w_fSub ?_ | with_reducible refine w_fNeg ?_ | with_reducible refine w_fLt ?_ | with_reducible refine w_fLe ?_ | with_reducible refine w_fGt ?_ | with_reducible refine w_fGe ?_ | with_reducible refine w_fEqI ?_ | with_reducible refine w_fNeI ?_ | with_reducible refine w_fEqB ?_ | with_reducible refine w_fEqS ?_ | with_reducible refine w_fInt ?_ | with_reducible refine w_fIntB ?_ | with_reducible refine w_fAbs ?_ | with_reducible refine w_fMax ?_ | with_reducible refine w_fMin ?_ | with_reducible refine w_fGcd ?_ | with_reducible refine w_fLenL ?_ | with_reducible refine w_fLenT ?_ | with_reducible refine w_own ?_ | with_reducible refine w_ownI ?_ | with_reducible refine w_eqOwnI ?_ | with_reducible refine w_c ?_ | with_reducible refine w_make ?_ | with_reducible refine w_makeK ?_ | with_reducible refine w_par2 ?_ | with_reducible refine w_slLst ?_ | with_reducible refine w_p10_6 ?_ | with_reducible refine w_p10_8 ?_ | with_reducible refine w_p10_18 ?_ | with_reducible refine w_p10_30 ?_ | with_reducible refine w_p10_51 ?_ | with_reducible refine w_p10_59 ?_ | with_reducible refine w_p10_60 ?_ | with_reducible refine w_p2_63 ?_ | with_reducible refine w_p2_64 ?_ | with_reducible refine w_comp ?_ | with_reducible refine w_meth ?_ | with_reducible refine w_app ?_ | with_reducible refine w_tupOf ?_ | with_reducible refine w_tupL ?_ | with_reducible refine w_tupT ?_ | with_reducible refine w_sm ?_ | with_reducible refine w_sm0 ?_ | with_reducible refine w_isStr ?_ | with_reducible refine w_find ?_ | with_reducible refine w_starts ?_ | with_reducible refine w_isascii ?_ | with_reducible refine w_isdigit ?_ | with_reducible refine w_str1S ?_ | with_reducible refine w_strO ?_ | with_reducible refine w_fmt ?_ | with_reducible refine w_join ?_ | with_reducible refine w_jsNil ?_ | with_reducible refine w_jsCons ?_ | with_reducible refine w_inS ?_ | with_reducible refine w_notInS ?_ | with_reducible refine w_statI ?_ | with_reducible refine w_fNeS ?_ | with_reducible refine w_yes ?_ | with_reducible refine w_get2 ?_ | with_reducible refine w_get1 ?_ | with_reducible refine w_prop ?_ | with_reducible refine w_put1 ?_ | with_reducible refine w_list1L ?_ | with_reducible refine w_list1T ?_ | with_reducible refine w_fIsN ?_ | with_reducible refine w_retL ?_ | with_reducible refine w_valsT ?_ | with_reducible refine w_valsK ?_ | with_reducible refine w_chain ?_ | with_reducible refine w_slTup ?_ | ((with_reducible apply w_var); exact rfl) | ((with_reducible apply w_isE); exact rfl) | ((with_reducible apply w_onTru); exact rfl) | ((with_reducible apply w_tgTup); exact rfl) | ((with_reducible refine w_fPow ?_ ?_); exact ⟨by decide, by decide, by decide⟩) | (with_reducible refine w_fMod (by decide) ?_) | ((with_reducible apply w_fIxT); exact rfl) | ((with_reducible apply w_fIxL); exact rfl) | (with_reducible refine w_oSome ?_) | ((with_reducible apply w_fIxC); (first | with_reducible exact put_same | assumption); exact rfl) | ((with_reducible apply w_fLenC); (first | with_reducible exact put_same | assumption)) | ((with_reducible apply w_setL); (first | with_reducible exact put_same | assumption); exact rfl) | ((with_reducible apply w_itC); (first | with_reducible exact put_same | assumption)) | ((with_reducible apply w_list1C); (first | with_reducible exact put_same | assumption)) | ((with_reducible apply w_tupC); (first | with_reducible exact put_same | assumption)) | ((with_reducible apply w_slC); (first | with_reducible exact put_same | assumption)) | ((with_reducible apply w_isTc); (first | with_reducible exact put_same | assumption)) | ((with_reducible refine And.intro (a := List.length _ ≤ sizeLine) ?_ ?_); exact Nat.le_of_ble_eq_true rfl) | (with_reducible refine And.intro (a := List.length _ = _) rfl ?_) | (with_reducible refine w_fld ?_) | (with_reducible refine w_isT ?_) | (with_reducible refine w_isO ?_) | ((with_reducible refine Exists.intro ?_ (And.intro (a := fldD _ _ _ _ = _) ?_ ?_)); rotate_left; first | exact rfl) | ((with_reducible refine Exists.intro ?_ (And.intro (a := isT _ _ _ = _) ?_ ?_)); rotate_left; exact rfl) | ((with_reducible refine Exists.intro ?_ (And.intro (a := isO _ _ _ = _) ?_ ?_)); rotate_left; exact rfl) | ((with_reducible refine Exists.intro ?_ (And.intro (a := D.int _ = D.int _) ?_ ?_)); rotate_left; exact rfl) | ((with_reducible refine w_kT' (k := T3.isInt _) ?_ ?_); exact rfl) | ((with_reducible refine w_kT' (k := !T3.isInt _) ?_ ?_); exact rfl) | ((with_reducible refine w_kF' (k := T3.isInt _) ?_ ?_); exact rfl) | ((with_reducible refine w_kF' (k := !T3.isInt _) ?_ ?_); exact rfl) | ((with_reducible refine w_kT' (k := T3.isBl _) ?_ ?_); exact rfl) | ((with_reducible refine w_kT' (k := !T3.isBl _) ?_ ?_); exact rfl) | ((with_reducible refine w_kF' (k := T3.isBl _) ?_ ?_); exact rfl) | ((with_reducible refine w_kF' (k := !T3.isBl _) ?_ ?_); exact rfl) | ((with_reducible refine w_kT' (k := T3.isStr _) ?_ ?_); exact rfl) | ((with_reducible refine w_kT' (k := !T3.isStr _) ?_ ?_); exact rfl) | ((with_reducible refine w_kF' (k := T3.isStr _) ?_ ?_); exact rfl) | ((with_reducible refine w_kF' (k := !T3.isStr _) ?_ ?_); exact rfl) | ((with_reducible refine w_kT' (k := T3.isTup _) ?_ ?_); exact rfl) | ((with_reducible refine w_kT' (k := !T3.isTup _) ?_ ?_); exact rfl) | ((with_reducible refine w_kF' (k := T3.isTup _) ?_ ?_); exact rfl) | ((with_reducible refine w_kF' (k := !T3.isTup _) ?_ ?_); exact rfl) | ((with_reducible refine w_kT' (k := T3.isLst _) ?_ ?_); exact rfl) | ((with_reducible refine w_kT' (k := !T3.isLst _) ?_ ?_); exact rfl) | ((with_reducible refine w_kF' (k := T3.isLst _) ?_ ?_); exact rfl) | ((with_reducible refine w_kF' (k := !T3.isLst _) ?_ ?_); exact rfl) | ((with_reducible refine And.intro (a := insD _ _ _ _) ?_ ?_); (first | exact ⟨rfl, rfl⟩)) | ((with_reducible refine w_kT' (k := isNonD _ != _) ?_ ?_); exact rfl) | ((with_reducible refine w_kF' (k := isNonD _ != _) ?_ ?_); exact rfl) | (with_reducible refine w_kF' (k := !true) rfl ?_) | (with_reducible refine w_kT' (k := !false) rfl ?_) | ((with_reducible refine w_kT' (k := decide _) ?_ ?_); decide +kernel) | ((with_reducible refine w_kF' (k := decide _) ?_ ?_); decide +kernel)))
theorem b_law_more_options : BodyOk ["pool", "states", "choices", "at", "key", "many", "k", "choice", "alike", "c"] 4 sp_law_more_options m_law_more_options := by
  rintro ds O Z P hl ⟨p, st, cs0, i, rfl, hp, i0, i1, hcs0, hq⟩
  show m_law_more_options (En.mk _ _ _ _ _) [some (.cell p), some (.int st), some (.lst (cs0.map chD)), some (.int i), none, none, none, none, none, none] O
  unfold m_law_more_options
  have big := big_line
  obtain ⟨d, hd, _, ed⟩ := atI_get (f := chD) i0 i1
  have dn := hcs0.2 d hd
  walk_at "PD03 W0"
  have eD : chD d = .tup [.str d.n, .int d.s, .int d.a, .int d.x, .int d.w] := rfl
  refine w_fIxL (ed.trans (congrArg some eD)) ?_
  walk_at "PD03 W0"
  rw [cut3]
  walk_at "PD03 W0"
  refine w_drw2 hp (by omega) (by omega) fun r O1 r0 r1 u1 => ?_
  have ek : D.tup [D.str d.n, D.int d.s, D.int d.a] = keyT d.key := rfl
  walk_at "PD03 W0"
  rw [ek]
  refine w_rng1 (by omega) ?_
  refine w_forN (fun n lo Γ O' => ∃ (cs : List Ch) (x6 x7 x8 x9 : Option D), cs.length + n ≤ 28 ∧ 0 ≤ lo ∧ lo + n ≤ 8 ∧ CsN 30 cs ∧ O' = O1 ∧ Γ = [some (.cell p), some (.int st), some (.lst (cs.map chD)), some (.int i), some (keyT d.key), some (.int (4 + r)), x6, x7, x8, x9]) (fun _ _ _ _ _ => trivial) ?_ ?_ _ _ _ _ ⟨cs0, none, none, none, none, by have := hcs0.1; simp; omega, by omega, by decide, ⟨by have := hcs0.1; omega, hcs0.2⟩, rfl, rfl⟩
  · rintro n lo K hK Γ O' ⟨cs, x6, x7, x8, x9, hlen, l0, l8, hcs, rfl, rfl⟩
    walk_at "PD03 W0"
    obtain ⟨x, hx⟩ : ∃ x, (st - 1) * (if decide (lo % 2 = 1) = true then (1 : Int) else 0) = x := ⟨_, rfl⟩
    refine w_fMul (mulR (by split <;> decide)) ?_
    rw [hx]
    walk_at "PD03 W0"
    unfold keyT
    refine And.intro (by simp; omega) ?_
    obtain ⟨c, hc⟩ : ∃ c : Ch, c = ⟨d.n, d.s, d.a, x, lo⟩ := ⟨_, rfl⟩
    have ec : D.tup ([D.str d.key.1, D.int d.key.2.1, D.int d.key.2.2] ++ [D.int x, D.int lo]) = .tup [.str c.n, .int c.s, .int c.a, .int c.x, .int c.w] := by rw [hc]; rfl
    have cn : Nm c.n := by rw [hc]; exact dn
    rw [ec]
    walk_at "PD03 W0"
    refine comp_keyT (f := chD) (k := d.key) (i := 9) (j := 4) (by have := hcs.1; omega) hcs.ok dn.ok (fun p' acc hp' => rfl) (Nat.le_of_ble_eq_true rfl) (by decide) rfl (fun c O' K1 h => ?_) fun q' hq'' => ?_
    · refine w_var ?_ h
      rw [List.getElem?_set_self (Nat.le_of_ble_eq_true rfl)]
      rfl
    refine w_fzLst hq'' ?_
    walk_at "PD03 W0"
    refine w_inP (ds := cs.map chD) (p := c ∈ cs) rfl rfl (ok5 cn.ok) (ok_chs hcs.ok) dep5 (dep_chs _) (fun _ h => nomatch h) in_chs ?_
    simp only [if_true]
    walk_at "PD03 W0"
    refine w_k (fun h => ?_) fun h => ?_
    · walk_at "PD03 W0"
      refine w_k (fun h => ?_) fun h => ?_
      · walk_at "PD03 W0"
        intro q hq'
        refine w_fzLst hq' ?_
        refine w_fAddLst rfl rfl (by simp; omega) fun q hq' => ?_
        refine w_fzLst hq' ?_
        walk_at "PD03 W0"
        refine hK _ _ ⟨cs ++ [c], _, _, _, _, by simp; omega, by omega, by omega, ⟨by simp; omega, fun c' hc' => ?_⟩, rfl, by rw [List.map_append]; rfl⟩
        rcases List.mem_append.mp hc' with h | h
        · exact hcs.2 c' h
        · simp at h; subst h; exact cn
      · walk_at "PD03 W0"
        exact hK _ _ ⟨cs, _, _, _, _, by omega, by omega, by omega, hcs, rfl, rfl⟩
    · walk_at "PD03 W0"
      exact hK _ _ ⟨cs, _, _, _, _, by omega, by omega, by omega, hcs, rfl, rfl⟩
  · rintro lo Γ O' ⟨cs, x6, x7, x8, x9, hlen, l0, l8, hcs, rfl, rfl⟩
    walk_at "PD03 W0"
    exact w_fz (hq _ _ hcs u1)
theorem Nm.ch {c : Ch} (h : Nm c.n) : ChOk c := ⟨by have := h.l2; omega, h.ok⟩
theorem CsN.w {n : Nat} {cs : List Ch} (h : CsN n cs) (hn : n ≤ 100) : CsW cs := ⟨by have := h.1; omega, fun c hc => (h.2 c hc).ch⟩
theorem CsW.put {cs cs' : List Ch} {c : Ch} (h : CsW cs) (hc : ChOk c) (hl : cs.length ≤ 90) (hl2 : cs'.length ≤ cs.length + 1) (hm : ∀ d ∈ cs', d ∈ cs ∨ d = c) : CsW cs' := ⟨by omega, fun d hd => by
  rcases hm d hd with h' | rfl
  · exact h.2 d h'
  · exact hc⟩
theorem cutL_to {α : Type} (l : List α) (k : Int) (h : 0 ≤ k) : cut l none (some k) = l.take k.toNat := by
  obtain ⟨n, rfl⟩ : ∃ n : Nat, k = n := ⟨k.toNat, by omega⟩
  unfold cut
  rw [HT.sIx_none, HT.sIx_nat, Int.toNat_natCast]
  simp only [Nat.sub_zero, List.drop_zero]
  by_cases q : n ≤ l.length
  · rw [Nat.min_eq_left q]
  · rw [Nat.min_eq_right (by omega), List.take_of_length_le (Nat.le_refl _), List.take_of_length_le (by omega)]
theorem cutL_from {α : Type} (l : List α) (k : Int) (h : 0 ≤ k) : cut l (some k) none = l.drop k.toNat := by
  obtain ⟨n, rfl⟩ : ∃ n : Nat, k = n := ⟨k.toNat, by omega⟩
  unfold cut
  rw [HT.sIx_none, HT.sIx_nat, Int.toNat_natCast]
  by_cases q : n ≤ l.length
  · rw [Nat.min_eq_left q, List.take_of_length_le (by rw [List.length_drop]; exact Nat.le_refl _)]
  · rw [Nat.min_eq_right (by omega), List.drop_eq_nil_of_le (Nat.le_refl _), List.drop_eq_nil_of_le (by omega)]
    simp
/-- choices with one changed -/
def chg (cs : List Ch) (i j : Int) (c : Ch) : List Ch := cs.take i.toNat ++ [c] ++ cs.drop j.toNat
theorem chg_ok {cs : List Ch} {i j : Int} {c : Ch} (h : CsN 20 cs) (hc : ChOk c) (hij : i ≤ j) (h0 : 0 ≤ i) (hj : j ≤ cs.length) : CsW (chg cs i j c) := by
  unfold chg
  refine CsW.put (cs := cs) (h.w (by omega)) hc (by have := h.1; omega) ?_ ?_
  · simp only [List.length_append, List.length_take, List.length_drop, List.length_cons, List.length_nil]
    omega
  · intro d hd
    simp only [List.mem_append, List.mem_singleton] at hd
    rcases hd with (hd | hd) | hd
    · exact .inl (List.mem_of_mem_take hd)
    · exact .inr hd
    · exact .inl (List.mem_of_mem_drop hd)
theorem chg_map {cs : List Ch} {i j : Int} {c : Ch} (h0 : 0 ≤ i) (hj : 0 ≤ j) : cut (cs.map chD) none (some i) ++ [chD c] ++ cut (cs.map chD) (some j) none = (chg cs i j c).map chD := by
  unfold chg
  rw [cutL_to _ _ h0, cutL_from _ _ hj]
  simp [List.map_append, List.map_take, List.map_drop]
end K03

namespace K03
open PySem L2 L3 LY
theorem ints_mem {l : List D} {x : D} (h : l.all (fun d => match d with | .int _ => true | _ => false) = true) (hx : x ∈ l) : ∃ i, x = .int i := by
  have := List.all_eq_true.mp h x hx
  cases x with
  | int i => exact ⟨i, rfl⟩
  | _ => cases this
theorem cutL_len {α : Type} (l : List α) (a b : Option Int) : (cut l a b).length ≤ l.length := by
  unfold cut
  simp only [List.length_take, List.length_drop]
  omega
local macro_rules | `(tactic| walk_at "PE03 D0") => `(tactic| (repeat' first | with_reducible refine w_seq ?_ | with_reducible refine w_sui ?_ | with_reducible refine w_next ?_ | with_reducible refine w_brk ?_ | with_reducible refine w_cont ?_ | with_reducible refine w_ret ?_ | with_reducible refine w_retN ?_ | with_reducible refine w_drop ?_ | with_reducible refine w_if ?_ | with_reducible refine w_asg ?_ | with_reducible refine w_par ?_ | with_reducible refine w_setA ?_ | with_reducible refine w_raise ?_ | with_reducible refine w_for ?_ | with_reducible refine w_iSeq ?_ | with_reducible refine w_iR1 ?_ | with_reducible refine w_iR2 ?_ | with_reducible refine w_iVals ?_ | with_reducible refine w_itLst ?_ | with_reducible refine w_itTup ?_ | with_reducible refine w_itStr ?_ | with_reducible refine w_tgName ?_ | with_reducible refine w_tgIx ?_ | with_reducible refine w_tgCons ?_ | with_reducible refine w_tgNil ?_ | with_reducible refine w_un ?_ | with_reducible refine w_op ?_ | with_reducible refine w_B ?_ | with_reducible refine w_tru ?_ | with_reducible refine w_and ?_ | with_reducible refine w_or ?_ | with_reducible refine w_not ?_ | with_reducible refine w_andV ?_ | with_reducible refine w_orV ?_ | with_reducible refine w_notV ?_ | with_reducible refine w_ifE ?_ | with_reducible refine w_nil ?_ | with_reducible refine w_cons ?_ | with_reducible refine w_tup ?_ | with_reducible refine w_lst ?_ | with_reducible refine w_cb ?_ | with_reducible refine w_call ?_ | with_reducible refine w_slice ?_ | with_reducible refine w_oNone ?_ | with_reducible refine w_onBl ?_ | with_reducible refine w_onTruB ?_ | with_reducible refine w_kT ?_ | with_reducible refine w_kF ?_ | with_reducible refine w_fAdd ?_ | with_reducible refine w_fSub ?_ | with_reducible refine w_fNeg ?_ | with_reducible refine w_fLt ?_ | with_reducible refine w_fLe ?_ | with_reducible refine w_fGt ?_ | with_reducible refine w_fGe ?_ | with_reducible refine w_fEqI ?_ | with_reducible refine w_fNeI ?_ | with_reducible refine w_fEqB ?_ | with_reducible refine w_fEqS ?_ | with_reducible refine w_fInt ?_ | with_reducible refine w_fIntB ?_ | with_reducible refine w_fAbs ?_ | with_reducible refine w_fMax ?_ | with_reducible refine w_fMin ?_ | with_reducible refine w_fGcd ?_ | with_reducible refine w_fLenL ?_ | with_reducible refine w_fLenT ?_ | with_reducible refine w_own ?_ | with_reducible refine w_ownI ?_ | with_reducible refine w_eqOwnI ?_ | with_reducible refine w_c ?_ | with_reducible refine w_make ?_ | with_reducible refine w_makeK ?_ | with_reducible refine w_par2 ?_ | with_reducible refine w_slLst ?_ | with_reducible refine w_p10_6 ?_ | with_reducible refine w_p10_8 ?_ | with_reducible refine w_p10_18 ?_ | with_reducible refine w_p10_30 ?_ | with_reducible refine w_p10_51 ?_ | with_reducible refine w_p10_59 ?_ | with_reducible refine w_p10_60 ?_ | with_reducible refine w_p2_63 ?_ | with_reducible refine w_p2_64 ?_ | with_reducible refine w_comp ?_ | with_reducible refine w_meth ?_ | with_reducible refine w_app ?_ | with_reducible refine w_tupOf ?_ | with_reducible refine w_tupL ?_ | with_reducible refine w_tupT ?_ | with_reducible refine w_sm ?_ | with_reducible refine w_sm0 ?_ | with_reducible refine w_isStr ?_ | with_reducible refine w_find ?_ | with_reducible refine w_starts ?_ | with_reducible refine w_isascii ?_ | with_reducible refine w_isdigit ?_ | with_reducible refine w_str1S ?_ | with_reducible refine w_strO ?_ | with_reducible refine w_fmt ?_ | with_reducible refine w_join ?_ | with_reducible refine w_jsNil ?_ | with_reducible refine w_jsCons ?_ | with_reducible refine w_inS ?_ | with_reducible refine w_notInS ?_ | with_reducible refine w_statI ?_ | with_reducible refine w_fNeS ?_ | with_reducible refine w_yes ?_ | with_reducible refine w_get2 ?_ | with_reducible refine w_get1 ?_ | with_reducible refine w_prop ?_ | with_reducible refine w_put1 ?_ | with_reducible refine w_list1L ?_ | with_reducible refine w_list1T ?_ | with_reducible refine w_fIsN ?_ | with_reducible refine w_retL ?_ | with_reducible refine w_valsT ?_ | with_reducible refine w_valsK ?_ | with_reducible refine w_chain ?_ | with_reducible refine w_slTup ?_ | ((with_reducible apply w_var); exact rfl) | ((with_reducible apply w_isE); exact rfl) | ((with_reducible apply w_onTru); exact rfl) | ((with_reducible apply w_tgTup); exact rfl) | ((with_reducible refine w_fPow ?_ ?_); exact ⟨by decide, by decide, by decide⟩) | (with_reducible refine w_fMod (by decide) ?_) | ((with_reducible apply w_fIxT); exact rfl) | ((with_reducible apply w_fIxL); exact rfl) | (with_reducible refine w_oSome ?_) | ((with_reducible apply w_fIxC); (first | with_reducible exact put_same | assumption); exact rfl) | ((with_reducible apply w_fLenC); (first | with_reducible exact put_same | assumption)) | ((with_reducible apply w_setL); (first | with_reducible exact put_same | assumption); exact rfl) | (with_reducible refine w_fLenS (by omega) ?_) | (with_reducible refine w_slStr (by omega) ?_) | (with_reducible refine w_fAddS (by omega) ?_) | (with_reducible refine w_remPre (by omega) ?_) | (with_reducible refine w_fmtS (by omega) ?_) | ((with_reducible apply w_itC); (first | with_reducible exact put_same | assumption)) | ((with_reducible apply w_list1C); (first | with_reducible exact put_same | assumption)) | ((with_reducible apply w_tupC); (first | with_reducible exact put_same | assumption)) | ((with_reducible apply w_slC); (first | with_reducible exact put_same | assumption)) | ((with_reducible apply w_isTc); (first | with_reducible exact put_same | assumption)) | (with_reducible refine w_drw (by assumption) (by omega) (by omega) (fun _ _ _ _ _ => ?_)) | (with_reducible refine w_fMul (mulR (by decide)) ?_) | (with_reducible refine w_fMul (mulL (by omega)) ?_) | (with_reducible refine w_fMul (mulR (by omega)) ?_) | (with_reducible refine w_fDiv (dv30 (by omega) (by omega)) ?_) | (with_reducible refine w_fMod (by omega) ?_) | ((with_reducible refine And.intro (a := List.length _ ≤ sizeLine) ?_ ?_); exact Nat.le_of_ble_eq_true rfl) | (with_reducible refine And.intro (a := List.length _ = _) rfl ?_) | (with_reducible refine w_fld ?_) | (with_reducible refine w_isT ?_) | (with_reducible refine w_isO ?_) | ((with_reducible refine Exists.intro ?_ (And.intro (a := fldD _ _ _ _ = _) ?_ ?_)); rotate_left; first | exact rfl) | ((with_reducible refine Exists.intro ?_ (And.intro (a := isT _ _ _ = _) ?_ ?_)); rotate_left; exact rfl) | ((with_reducible refine Exists.intro ?_ (And.intro (a := isO _ _ _ = _) ?_ ?_)); rotate_left; exact rfl) | ((with_reducible refine Exists.intro ?_ (And.intro (a := D.int _ = D.int _) ?_ ?_)); rotate_left; exact rfl) | ((with_reducible refine w_kT' (k := T3.isInt _) ?_ ?_); exact rfl) | ((with_reducible refine w_kT' (k := !T3.isInt _) ?_ ?_); exact rfl) | ((with_reducible refine w_kF' (k := T3.isInt _) ?_ ?_); exact rfl) | ((with_reducible refine w_kF' (k := !T3.isInt _) ?_ ?_); exact rfl) | ((with_reducible refine w_kT' (k := T3.isBl _) ?_ ?_); exact rfl) | ((with_reducible refine w_kT' (k := !T3.isBl _) ?_ ?_); exact rfl) | ((with_reducible refine w_kF' (k := T3.isBl _) ?_ ?_); exact rfl) | ((with_reducible refine w_kF' (k := !T3.isBl _) ?_ ?_); exact rfl) | ((with_reducible refine w_kT' (k := T3.isStr _) ?_ ?_); exact rfl) | ((with_reducible refine w_kT' (k := !T3.isStr _) ?_ ?_); exact rfl) | ((with_reducible refine w_kF' (k := T3.isStr _) ?_ ?_); exact rfl) | ((with_reducible refine w_kF' (k := !T3.isStr _) ?_ ?_); exact rfl) | ((with_reducible refine w_kT' (k := T3.isTup _) ?_ ?_); exact rfl) | ((with_reducible refine w_kT' (k := !T3.isTup _) ?_ ?_); exact rfl) | ((with_reducible refine w_kF' (k := T3.isTup _) ?_ ?_); exact rfl) | ((with_reducible refine w_kF' (k := !T3.isTup _) ?_ ?_); exact rfl) | ((with_reducible refine w_kT' (k := T3.isLst _) ?_ ?_); exact rfl) | ((with_reducible refine w_kT' (k := !T3.isLst _) ?_ ?_); exact rfl) | ((with_reducible refine w_kF' (k := T3.isLst _) ?_ ?_); exact rfl) | ((with_reducible refine w_kF' (k := !T3.isLst _) ?_ ?_); exact rfl) | ((with_reducible refine And.intro (a := insD _ _ _ _) ?_ ?_); (first | exact ⟨rfl, rfl⟩)) | ((with_reducible refine w_kT' (k := isNonD _ != _) ?_ ?_); exact rfl) | ((with_reducible refine w_kF' (k := isNonD _ != _) ?_ ?_); exact rfl) | (with_reducible refine w_kF' (k := !true) rfl ?_) | (with_reducible refine w_kT' (k := !false) rfl ?_) | ((with_reducible refine w_kT' (k := decide _) ?_ ?_); decide +kernel) | ((with_reducible refine w_kF' (k := decide _) ?_ ?_); decide +kernel)))
local macro_rules | `(tactic| walk_at "PE03 S1") => `(tactic| (repeat' first | with_reducible refine w_seq ?_ | with_reducible refine w_sui ?_ | with_reducible refine w_next ?_ | with_reducible refine w_brk ?_ | with_reducible refine w_cont ?_ | with_reducible refine w_ret ?_ | with_reducible refine w_retN ?_ | with_reducible refine w_drop ?_ | with_reducible refine w_asg ?_ | with_reducible refine w_par ?_ | with_reducible refine w_setA ?_ | with_reducible refine w_raise ?_ | with_reducible refine w_for ?_ | with_reducible refine w_iSeq ?_ | with_reducible refine w_iR1 ?_ | with_reducible refine w_iR2 ?_ | with_reducible refine w_iVals ?_ | with_reducible refine w_itLst ?_ | with_reducible refine w_itTup ?_ | with_reducible refine w_itStr ?_ | with_reducible refine w_tgName ?_ | with_reducible refine w_tgIx ?_ | with_reducible refine w_tgCons ?_ | with_reducible refine w_tgNil ?_ | with_reducible refine w_un ?_ | with_reducible refine w_op ?_ | with_reducible refine w_B ?_ | with_reducible refine w_tru ?_ | with_reducible refine w_and ?_ | with_reducible refine w_or ?_ | with_reducible refine w_not ?_ | with_reducible refine w_andV ?_ | with_reducible refine w_orV ?_ | with_reducible refine w_notV ?_ | with_reducible refine w_ifE ?_ | with_reducible refine w_nil ?_ | with_reducible refine w_cons ?_ | with_reducible refine w_tup ?_ | with_reducible refine w_lst ?_ | with_reducible refine w_cb ?_ | with_reducible refine w_call ?_ | with_reducible refine w_slice ?_ | with_reducible refine w_oNone ?_ | with_reducible refine w_onBl ?_ | with_reducible refine w_onTruB ?_ | with_reducible refine w_kT ?_ | with_reducible refine w_kF ?_ | with_reducible refine w_fAdd ?_ | with_reducible refine w_fSub ?_ | with_reducible refine w_fNeg ?_ | with_reducible refine w_fLt ?_ | with_reducible refine w_fLe ?_ | with_reducible refine w_fGt ?_ | with_reducible refine w_fGe ?_ | with_reducible refine w_fEqI ?_ | with_reducible refine w_fNeI ?_ | with_reducible refine w_fEqB ?_ | with_reducible refine w_fEqS ?_ | with_reducible refine w_fInt ?_ | with_reducible refine w_fIntB ?_ | with_reducible refine w_fAbs ?_ | with_reducible refine w_fMax ?_ | with_reducible refine w_fMin ?_ | with_reducible refine w_fGcd ?_ | with_reducible refine w_fLenL ?_ | with_reducible refine w_fLenT ?_ | with_reducible refine w_own ?_ | with_reducible refine w_ownI ?_ | with_reducible refine w_eqOwnI ?_ | with_reducible refine w_c ?_ | with_reducible refine w_make ?_ | with_reducible refine w_makeK ?_ | with_reducible refine w_par2 ?_ | with_reducible refine w_slLst ?_ | with_reducible refine w_p10_6 ?_ | with_reducible refine w_p10_8 ?_ | with_reducible refine w_p10_18 ?_ | with_reducible refine w_p10_30 ?_ | with_reducible refine w_p10_51 ?_ | with_reducible refine w_p10_59 ?_ | with_reducible refine w_p10_60 ?_ | with_reducible refine w_p2_63 ?_ | with_reducible refine w_p2_64 ?_ | with_reducible refine w_comp ?_ | with_reducible refine w_meth ?_ | with_reducible refine w_app ?_ | with_reducible refine w_tupOf ?_ | with_reducible refine w_tupL ?_ | with_reducible refine w_tupT ?_ | with_reducible refine w_sm ?_ | with_reducible refine w_sm0 ?_ | with_reducible refine w_isStr ?_ | with_reducible refine w_find ?_ | with_reducible refine w_starts ?_ | with_reducible refine w_isascii ?_ | with_reducible refine w_isdigit ?_ | with_reducible refine w_str1S ?_ | with_reducible refine w_strO ?_ | with_reducible refine w_fmt ?_ | with_reducible refine w_join ?_ | with_reducible refine w_jsNil ?_ | with_reducible refine w_jsCons ?_ | with_reducible refine w_inS ?_ | with_reducible refine w_notInS ?_ | with_reducible refine w_statI ?_ | with_reducible refine w_fNeS ?_ | with_reducible refine w_yes ?_ | with_reducible refine w_get2 ?_ | with_reducible refine w_get1 ?_ | with_reducible refine w_prop ?_ | with_reducible refine w_put1 ?_ | with_reducible refine w_list1L ?_ | with_reducible refine w_list1T ?_ | with_reducible refine w_fIsN ?_ | with_reducible refine w_retL ?_ | with_reducible refine w_valsT ?_ | with_reducible refine w_valsK ?_ | with_reducible refine w_chain ?_ | with_reducible refine w_slTup ?_ | ((with_reducible apply w_var); exact rfl) | ((with_reducible apply w_isE); exact rfl) | ((with_reducible apply w_onTru); exact rfl) | ((with_reducible apply w_tgTup); exact rfl) | ((with_reducible refine w_fPow ?_ ?_); exact ⟨by decide, by decide, by decide⟩) | (with_reducible refine w_fMod (by decide) ?_) | ((with_reducible apply w_fIxT); exact rfl) | ((with_reducible apply w_fIxL); exact rfl) | (with_reducible refine w_oSome ?_) | ((with_reducible apply w_fIxC); (first | with_reducible exact put_same | assumption); exact rfl) | ((with_reducible apply w_fLenC); (first | with_reducible exact put_same | assumption)) | ((with_reducible apply w_setL); (first | with_reducible exact put_same | assumption); exact rfl) | (with_reducible refine w_fLenS (by omega) ?_) | (with_reducible refine w_slStr (by omega) ?_) | (with_reducible refine w_fAddS (by omega) ?_) | (with_reducible refine w_remPre (by omega) ?_) | (with_reducible refine w_fmtS (by omega) ?_) | ((with_reducible apply w_itC); (first | with_reducible exact put_same | assumption)) | ((with_reducible apply w_list1C); (first | with_reducible exact put_same | assumption)) | ((with_reducible apply w_tupC); (first | with_reducible exact put_same | assumption)) | ((with_reducible apply w_slC); (first | with_reducible exact put_same | assumption)) | ((with_reducible apply w_isTc); (first | with_reducible exact put_same | assumption)) | (with_reducible refine w_drw (by assumption) (by omega) (by omega) (fun _ _ _ _ _ => ?_)) | (with_reducible refine w_fMul (mulR (by decide)) ?_) | (with_reducible refine w_fMul (mulL (by omega)) ?_) | (with_reducible refine w_fMul (mulR (by omega)) ?_) | (with_reducible refine w_fDiv (dv30 (by omega) (by omega)) ?_) | (with_reducible refine w_fMod (by omega) ?_) | ((with_reducible refine And.intro (a := List.length _ ≤ sizeLine) ?_ ?_); exact Nat.le_of_ble_eq_true rfl) | (with_reducible refine And.intro (a := List.length _ = _) rfl ?_) | (with_reducible refine w_fld ?_) | (with_reducible refine w_isT ?_) | (with_reducible refine w_isO ?_) | ((with_reducible refine Exists.intro ?_ (And.intro (a := fldD _ _ _ _ = _) ?_ ?_)); rotate_left; first | exact rfl) | ((with_reducible refine Exists.intro ?_ (And.intro (a := isT _ _ _ = _) ?_ ?_)); rotate_left; exact rfl) | ((with_reducible refine Exists.intro ?_ (And.intro (a := isO _ _ _ = _) ?_ ?_)); rotate_left; exact rfl) | ((with_reducible refine Exists.intro ?_ (And.intro (a := D.int _ = D.int _) ?_ ?_)); rotate_left; exact rfl) | ((with_reducible refine w_kT' (k := T3.isInt _) ?_ ?_); exact rfl) | ((with_reducible refine w_kT' (k := !T3.isInt _) ?_ ?_); exact rfl) | ((with_reducible refine w_kF' (k := T3.isInt _) ?_ ?_); exact rfl) | ((with_reducible refine w_kF' (k := !T3.isInt _) ?_ ?_); exact rfl) | ((with_reducible refine w_kT' (k := T3.isBl _) ?_ ?_); exact rfl) | ((with_reducible refine w_kT' (k := !T3.isBl _) ?_ ?_); exact rfl) | ((with_reducible refine w_kF' (k := T3.isBl _) ?_ ?_); exact rfl) | ((with_reducible refine w_kF' (k := !T3.isBl _) ?_ ?_); exact rfl) | ((with_reducible refine w_kT' (k := T3.isStr _) ?_ ?_); exact rfl) | ((with_reducible refine w_kT' (k := !T3.isStr _) ?_ ?_); exact rfl) | ((with_reducible refine w_kF' (k := T3.isStr _) ?_ ?_); exact rfl) | ((with_reducible refine w_kF' (k := !T3.isStr _) ?_ ?_); exact rfl) | ((with_reducible refine w_kT' (k := T3.isTup _) ?_ ?_); exact rfl) | ((with_reducible refine w_kT' (k := !T3.isTup _) ?_ ?_); exact rfl) | ((with_reducible refine w_kF' (k := T3.isTup _) ?_ ?_); exact rfl) | ((with_reducible refine w_kF' (k := !T3.isTup _) ?_ ?_); exact rfl) | ((with_reducible refine w_kT' (k := T3.isLst _) ?_ ?_); exact rfl) | ((with_reducible refine w_kT' (k := !T3.isLst _) ?_ ?_); exact rfl) | ((with_reducible refine w_kF' (k := T3.isLst _) ?_ ?_); exact rfl) | ((with_reducible refine w_kF' (k := !T3.isLst _) ?_ ?_); exact rfl) | ((with_reducible refine And.intro (a := insD _ _ _ _) ?_ ?_); (first | exact ⟨rfl, rfl⟩)) | ((with_reducible refine w_kT' (k := isNonD _ != _) ?_ ?_); exact rfl) | ((with_reducible refine w_kF' (k := isNonD _ != _) ?_ ?_); exact rfl) | (with_reducible refine w_kF' (k := !true) rfl ?_) | (with_reducible refine w_kT' (k := !false) rfl ?_) | ((with_reducible refine w_kT' (k := decide _) ?_ ?_); decide +kernel) | ((with_reducible refine w_kF' (k := decide _) ?_ ?_); decide +kernel)))
local macro_rules | `(tactic| walk_at "PE03 W2") => `(tactic| (repeat' first | with_reducible refine w_seq ?_ | with_reducible refine w_sui ?_ | with_reducible refine w_next ?_ | with_reducible refine w_brk ?_ | with_reducible refine w_cont ?_ | with_reducible refine w_ret ?_ | with_reducible refine w_retN ?_ | with_reducible refine w_drop ?_ | with_reducible refine w_if ?_ | with_reducible refine w_asg ?_ | with_reducible refine w_par ?_ | with_reducible refine w_setA ?_ | with_reducible refine w_raise ?_ | with_reducible refine w_for ?_ | with_reducible refine w_iSeq ?_ | with_reducible refine w_iR1 ?_ | with_reducible refine w_iR2 ?_ | with_reducible refine w_iVals ?_ | with_reducible refine w_itLst ?_ | with_reducible refine w_itTup ?_ | with_reducible refine w_itStr ?_ | with_reducible refine w_tgName ?_ | with_reducible refine w_tgIx ?_ | with_reducible refine w_tgCons ?_ | with_reducible refine w_tgNil ?_ | with_reducible refine w_un ?_ | with_reducible refine w_op ?_ | with_reducible refine w_B ?_ | with_reducible refine w_tru ?_ | with_reducible refine w_and ?_ | with_reducible refine w_or ?_ | with_reducible refine w_not ?_ | with_reducible refine w_andV ?_ | with_reducible refine w_orV ?_ | with_reducible refine w_notV ?_ | with_reducible refine w_ifE ?_ | with_reducible refine w_nil ?_ | with_reducible refine w_cons ?_ | with_reducible refine w_tup ?_ | with_reducible refine w_lst ?_ | with_reducible refine w_cb ?_ | with_reducible refine w_call ?_ | with_reducible refine w_slice ?_ | with_reducible refine w_oNone ?_ | with_reducible refine w_onBl ?_ | with_reducible refine w_onTruB ?_ | with_reducible refine w_kT ?_ | with_reducible refine w_kF ?_ | with_reducible refine w_fAdd ?_ | with_reducible refine w_fSub ?_ | with_reducible refine w_fNeg ?_ | with_reducible refine w_fLt ?_ | with_reducible refine w_fLe ?_ | with_reducible refine w_fGt ?_ | with_reducible refine w_fGe ?_ | with_reducible refine w_fEqI ?_ | with_reducible refine w_fNeI ?_ | with_reducible refine w_fEqB ?_ | with_reducible refine w_fEqS ?_ | with_reducible refine w_fInt ?_ | with_reducible refine w_fIntB ?_ | with_reducible refine w_fAbs ?_ | with_reducible refine w_fMax ?_ | with_reducible refine w_fMin ?_ | with_reducible refine w_fGcd ?_ | with_reducible refine w_fLenL ?_ | with_reducible refine w_fLenT ?_ | with_reducible refine w_own ?_ | with_reducible refine w_ownI ?_ | with_reducible refine w_eqOwnI ?_ | with_reducible refine w_c ?_ | with_reducible refine w_make ?_ | with_reducible refine w_makeK ?_ | with_reducible refine w_par2 ?_ | with_reducible refine w_slLst ?_ | with_reducible refine w_p10_6 ?_ | with_reducible refine w_p10_8 ?_ | with_reducible refine w_p10_18 ?_ | with_reducible refine w_p10_30 ?_ | with_reducible refine w_p10_51 ?_ | with_reducible refine w_p10_59 ?_ | with_reducible refine w_p10_60 ?_ | with_reducible refine w_p2_63 ?_ | with_reducible refine w_p2_64 ?_ | with_reducible refine w_comp ?_ | with_reducible refine w_meth ?_ | with_reducible refine w_app ?_ | with_reducible refine w_tupOf ?_ | with_reducible refine w_tupL ?_ | with_reducible refine w_tupT ?_ | with_reducible refine w_sm ?_ | with_reducible refine w_sm0 ?_ | with_reducible refine w_isStr ?_ | with_reducible refine w_find ?_ | with_reducible refine w_starts ?_ | with_reducible refine w_isascii ?_ | with_reducible refine w_isdigit ?_ | with_reducible refine w_str1S ?_ | with_reducible refine w_strO ?_ | with_reducible refine w_fmt ?_ | with_reducible refine w_join ?_ | with_reducible refine w_jsNil ?_ | with_reducible refine w_jsCons ?_ | with_reducible refine w_inS ?_ | with_reducible refine w_notInS ?_ | with_reducible refine w_statI ?_ | with_reducible refine w_fNeS ?_ | with_reducible refine w_yes ?_ | with_reducible refine w_get2 ?_ | with_reducible refine w_get1 ?_ | with_reducible refine w_prop ?_ | with_reducible refine w_put1 ?_ | with_reducible refine w_list1L ?_ | with_reducible refine w_list1T ?_ | with_reducible refine w_fIsN ?_ | with_reducible refine w_retL ?_ | with_reducible refine w_valsT ?_ | with_reducible refine w_valsK ?_ | with_reducible refine w_chain ?_ | with_reducible refine w_slTup ?_ | ((with_reducible apply w_var); exact rfl) | ((with_reducible apply w_isE); exact rfl) | ((with_reducible apply w_onTru); exact rfl) | ((with_reducible apply w_tgTup); exact rfl) | ((with_reducible refine w_fPow ?_ ?_); exact ⟨by decide, by decide, by decide⟩) | (with_reducible refine w_fMod (by decide) ?_) | ((with_reducible apply w_fIxT); exact rfl) | ((with_reducible apply w_fIxL); exact rfl) | (with_reducible refine w_oSome ?_) | ((with_reducible apply w_fIxC); (first | with_reducible exact put_same | assumption); exact rfl) | ((with_reducible apply w_fLenC); (first | with_reducible exact put_same | assumption)) | ((with_reducible apply w_setL); (first | with_reducible exact put_same | assumption); exact rfl) | ((with_reducible apply w_itC); (first | with_reducible exact put_same | assumption)) | ((with_reducible apply w_list1C); (first | with_reducible exact put_same | assumption)) | ((with_reducible apply w_tupC); (first | with_reducible exact put_same | assumption)) | ((with_reducible apply w_slC); (first | with_reducible exact put_same | assumption)) | ((with_reducible apply w_isTc); (first | with_reducible exact put_same | assumption)) | ((with_reducible refine And.intro (a := List.length _ ≤ sizeLine) ?_ ?_); exact Nat.le_of_ble_eq_true rfl) | (with_reducible refine And.intro (a := List.length _ = _) rfl ?_) | (with_reducible refine w_fld ?_) | (with_reducible refine w_isT ?_) | (with_reducible refine w_isO ?_) | ((with_reducible refine Exists.intro ?_ (And.intro (a := fldD _ _ _ _ = _) ?_ ?_)); rotate_left; first | exact rfl) | ((with_reducible refine Exists.intro ?_ (And.intro (a := isT _ _ _ = _) ?_ ?_)); rotate_left; exact rfl) | ((with_reducible refine Exists.intro ?_ (And.intro (a := isO _ _ _ = _) ?_ ?_)); rotate_left; exact rfl) | ((with_reducible refine Exists.intro ?_ (And.intro (a := D.int _ = D.int _) ?_ ?_)); rotate_left; exact rfl) | ((with_reducible refine w_kT' (k := T3.isInt _) ?_ ?_); exact rfl) | ((with_reducible refine w_kT' (k := !T3.isInt _) ?_ ?_); exact rfl) | ((with_reducible refine w_kF' (k := T3.isInt _) ?_ ?_); exact rfl) | ((with_reducible refine w_kF' (k := !T3.isInt _) ?_ ?_); exact rfl) | ((with_reducible refine w_kT' (k := T3.isBl _) ?_ ?_); exact rfl) | ((with_reducible refine w_kT' (k := !T3.isBl _) ?_ ?_); exact rfl) | ((with_reducible refine w_kF' (k := T3.isBl _) ?_ ?_); exact rfl) | ((with_reducible refine w_kF' (k := !T3.isBl _) ?_ ?_); exact rfl) | ((with_reducible refine w_kT' (k := T3.isStr _) ?_ ?_); exact rfl) | ((with_reducible refine w_kT' (k := !T3.isStr _) ?_ ?_); exact rfl) | ((with_reducible refine w_kF' (k := T3.isStr _) ?_ ?_); exact rfl) | ((with_reducible refine w_kF' (k := !T3.isStr _) ?_ ?_); exact rfl) | ((with_reducible refine w_kT' (k := T3.isTup _) ?_ ?_); exact rfl) | ((with_reducible refine w_kT' (k := !T3.isTup _) ?_ ?_); exact rfl) | ((with_reducible refine w_kF' (k := T3.isTup _) ?_ ?_); exact rfl) | ((with_reducible refine w_kF' (k := !T3.isTup _) ?_ ?_); exact rfl) | ((with_reducible refine w_kT' (k := T3.isLst _) ?_ ?_); exact rfl) | ((with_reducible refine w_kT' (k := !T3.isLst _) ?_ ?_); exact rfl) | ((with_reducible refine w_kF' (k := T3.isLst _) ?_ ?_); exact rfl) | ((with_reducible refine w_kF' (k := !T3.isLst _) ?_ ?_); exact rfl) | ((with_reducible refine And.intro (a := insD _ _ _ _) ?_ ?_); (first | exact ⟨rfl, rfl⟩)) | ((with_reducible refine w_kT' (k := isNonD _ != _) ?_ ?_); exact rfl) | ((with_reducible refine w_kF' (k := isNonD _ != _) ?_ ?_); exact rfl) | (with_reducible refine w_kF' (k := !true) rfl ?_) | (with_reducible refine w_kT' (k := !false) rfl ?_) | ((with_reducible refine w_kT' (k := decide _) ?_ ?_); decide +kernel) | ((with_reducible refine w_kF' (k := decide _) ?_ ?_); decide +kernel)))
theorem b_law_bent : BodyOk ["pool", "book", "states", "first", "choices", "way", "far", "at", "choice", "place", "bound", "value", "to"] 2 sp_law_bent m_law_bent := by
  rintro ds O Z P hl ⟨p, st, fi, cs, rfl, hp, hcs, hq⟩
  show m_law_bent (En.mk _ _ _ _ _) [some (.cell p), some (.tup [.int st, .int fi, .lst (cs.map chD)]), none, none, none, none, none, none, none, none, none, none, none] O
  unfold m_law_bent
  have big := big_line
  have u0 := Upd.refl hp
  have ret : ∀ st' fi' cs' O', CsW cs' → Upd p O O' → orFz P (.tup [.int st', .int fi', .lst (cs'.map chD)]) O' := fun a b c O' h u => w_fz (hq a b c O' h u)
  have cw : CsW cs := hcs.w (by decide)
  have cl := hcs.1
  have lm : (cs.map chD).length = cs.length := List.length_map ..
  walk_at "PE03 D0"
  rename_i way O1 w0 w1 u1
  intro q hq'
  refine w_fzLst hq' ?_
  walk_at "PE03 D0"
  refine w_ixAny (by omega) (by simp; omega) fun x hx => ?_
  obtain ⟨far, rfl⟩ := ints_mem rfl hx
  walk_at "PE03 D0"
  rename_i r2 O2 _ _ u2
  refine w_k (fun h => ?_) fun h => ?_
  · walk_at "PE03 D0"
    intro q hq'
    refine w_fzLst hq' ?_
    walk_at "PE03 D0"
    refine w_ixAny (by omega) (by simp; omega) fun x hx => ?_
    obtain ⟨x, rfl⟩ := ints_mem rfl hx
    walk_at "PE03 D0"
    exact ret _ _ _ _ cw (by assumption)
  walk_at "PE03 D0"
  refine w_k (fun h => ?_) fun h => ?_
  · walk_at "PE03 D0"
    intro q hq'
    refine w_fzLst hq' ?_
    walk_at "PE03 D0"
    refine w_ixAny (by omega) (by simp; omega) fun x hx => ?_
    obtain ⟨x, rfl⟩ := ints_mem rfl hx
    walk_at "PE03 D0"
    exact ret _ _ _ _ cw (by assumption)
  walk_at "PE03 D0"
  refine w_k (fun h => ?_) fun h => ?_
  · walk_at "PE03 D0"
    exact ret _ _ _ _ cw u2
  walk_at "PE03 D0"
  refine w_k (fun h => ?_) fun h => ?_
  · walk_at "PE03 D0"
    exact ret _ _ _ _ cw u2
  have c1 : 1 ≤ cs.length := by
    have := of_decide_eq_false h
    omega
  walk_at "PE03 D0"
  rename_i at_ O3 a0 a1 u3
  obtain ⟨c, hc, _, ec⟩ := atI_get (xs := cs) (f := chD) a0 (by omega)
  have a2 : at_ < cs.length := by omega
  have cn := hcs.2 c hc
  have eD : chD c = .tup [.str c.n, .int c.s, .int c.a, .int c.x, .int c.w] := rfl
  refine w_fIxL (ec.trans (congrArg some eD)) ?_
  walk_at "PE03 S1"
  refine w_cut (fun Γ' O' => ∃ (cs' : List Ch) (x7 x8 x9 x10 x11 x12 : Option D), CsW cs' ∧ Upd p O O' ∧ Γ' = [some (.cell p), some (.tup [.int st, .int fi, .lst (cs.map chD)]), some (.int st), some (.int fi), some (.lst (cs'.map chD)), some (.int way), some (.int far), x7, x8, x9, x10, x11, x12]) ?_ ?_
  · rintro Γ O1 ⟨cs', x7, x8, x9, x10, x11, x12, h1, h2, rfl⟩
    walk_at "PE03 D0"
    exact ret _ _ _ _ h1 h2
  intro nx' hJ
  have k1 := cutL_len (cs.map chD) none (some at_)
  have k2 := cutL_len (cs.map chD) (some (at_ + 1)) none
  rw [List.length_map] at k1 k2
  have fin : ∀ (d : Ch) (O' : Sto) (x9 x10 x11 x12 : Option D), ChOk d → Upd p O O' → ∀ q, O' q = none → orFz (fun y O2 => fAdd (.lst (cut (cs.map chD) none (some at_))) y O2 fun x O1 => mSlice (mVar 4) (mSome (mOp fAdd (mVar 7) (mC (.int 1)))) mNone (fun C fs O => Z C fs O)
      [some (.cell p), some (.tup [.int st, .int fi, .lst (cs.map chD)]), some (.int st), some (.int fi), some (.lst (cs.map chD)), some (.int way), some (.int far), some (.int at_), some (.tup [.str c.n, .int c.s, .int c.a, .int c.x, .int c.w]), x9, x10, x11, x12] O1 fun y O2 => fAdd x y O2 fun d O1 => tgName 4 (fun C fs O => Z C fs O) d
      [some (.cell p), some (.tup [.int st, .int fi, .lst (cs.map chD)]), some (.int st), some (.int fi), some (.lst (cs.map chD)), some (.int way), some (.int far), some (.int at_), some (.tup [.str c.n, .int c.s, .int c.a, .int c.x, .int c.w]), x9, x10, x11, x12] O1 nx') (.cell q) (put O' q (.lst [chD d])) := by
    intro d O' x9 x10 x11 x12 hd u q hq'
    refine w_fzLst hq' ?_
    refine w_fAddLst rfl rfl (by simp only [List.length_cons, List.length_nil]; omega) fun q hq' => ?_
    refine w_fzLst hq' ?_
    walk_at "PE03 W2"
    refine w_fAddLst rfl rfl (by simp only [List.length_append, List.length_cons, List.length_nil]; omega) fun q hq' => ?_
    refine w_fzLst hq' ?_
    rw [chg_map a0 (by omega)]
    walk_at "PE03 W2"
    exact hJ _ _ ⟨_, _, _, _, _, _, _, chg_ok hcs hd (by omega) a0 (by omega), u, rfl⟩
  have pl : ∀ x O', CsW x → Upd p O O' → ∀ x8 x9 x10 x11 x12, nx' [some (.cell p), some (.tup [.int st, .int fi, .lst (cs.map chD)]), some (.int st), some (.int fi), some (.lst (x.map chD)), some (.int way), some (.int far), some (.int at_), x8, x9, x10, x11, x12] O' := fun x O' h u x8 x9 x10 x11 x12 => hJ _ _ ⟨x, _, _, _, _, _, _, h, u, rfl⟩
  -- a number of the choice
  have num : ∀ (d : Ch) (v pl : Int), d.n = c.n → True := fun _ _ _ _ => trivial
  have way4 : (mSeq (mAsg (mOp fAdd (mC (.int 1)) (mCall sp_law_draw 2 (mCons (mVar 0) (mCons (mC (.int 4)) mNil)))) (tgName 9))
    (mSeq (mAsg (mOp fIx (mLst (mCons (mVar 2) (mCons (mC (.int 8)) mNil))) (mCB fInt1 (mCons (mOp (fEq false) (mOp fMod (mCB fInt1 (mCons (mVar 9) mNil)) (mC (.int 2))) (mC (.int 0))) mNil))) (tgName 10))
    (mSeq (mAsg (mOp fIx (mLst (mCons (mUn fNeg (mC (.int 1))) (mCons (mVar 10) (mCons (mVar 10) (mCons (mOp fSub (mVar 10) (mC (.int 1))) (mCons (mVar 6) (mCons (mUn fNeg (mVar 6)) mNil))))))) (mCall sp_law_draw 2 (mCons (mVar 0) (mCons (mC (.int 6)) mNil)))) (tgName 11))
    (mAsg (mOp fAdd (mOp fAdd (mSlice (mVar 4) mNone (mSome (mVar 7))) (mLst (mCons (mOp fAdd (mOp fAdd (mSlice (mVar 8) mNone (mSome (mVar 9))) (mTup (mCons (mVar 11) mNil))) (mSlice (mVar 8) (mSome (mOp fAdd (mVar 9) (mC (.int 1)))) mNone)) mNil))) (mSlice (mVar 4) (mSome (mOp fAdd (mVar 7) (mC (.int 1)))) mNone)) (tgName 4)))))
    ⟨nx', P, fun x x_1 => False, fun x x_1 => False, fun C fs x O' => Z C fs O'⟩ [some (.cell p), some (.tup [.int st, .int fi, .lst (cs.map chD)]), some (.int st), some (.int fi), some (.lst (cs.map chD)), some (.int way), some (.int far), some (.int at_), some (.tup [.str c.n, .int c.s, .int c.a, .int c.x, .int c.w]), none, none, none, none] O3 := by
    walk_at "PE03 D0"
    rename_i pc O4 p0 p1 u4
    intro q hq'
    refine w_fzLst hq' ?_
    walk_at "PE03 D0"
    refine w_ixAny (by split <;> omega) (by split <;> simp) fun x hx => ?_
    obtain ⟨bd, rfl⟩ := ints_mem rfl hx
    walk_at "PE03 D0"
    intro q hq'
    refine w_fzLst hq' ?_
    walk_at "PE03 D0"
    refine w_ixAny (by omega) (by simp; omega) fun x hx => ?_
    obtain ⟨v, rfl⟩ := ints_mem rfl hx
    walk_at "PE03 W2"
    have hpc : pc = 0 ∨ pc = 1 ∨ pc = 2 ∨ pc = 3 := by omega
    rcases hpc with rfl | rfl | rfl | rfl
    · refine And.intro (Nat.le_of_ble_eq_true rfl) ?_
      walk_at "PE03 W2"
      refine And.intro (Nat.le_of_ble_eq_true rfl) ?_
      walk_at "PE03 W2"
      exact fin ⟨c.n, v, c.a, c.x, c.w⟩ _ _ _ _ _ ⟨cn.ch.len, cn.ok⟩ (by assumption)
    · refine And.intro (Nat.le_of_ble_eq_true rfl) ?_
      walk_at "PE03 W2"
      refine And.intro (Nat.le_of_ble_eq_true rfl) ?_
      walk_at "PE03 W2"
      exact fin ⟨c.n, c.s, v, c.x, c.w⟩ _ _ _ _ _ ⟨cn.ch.len, cn.ok⟩ (by assumption)
    · refine And.intro (Nat.le_of_ble_eq_true rfl) ?_
      walk_at "PE03 W2"
      refine And.intro (Nat.le_of_ble_eq_true rfl) ?_
      walk_at "PE03 W2"
      exact fin ⟨c.n, c.s, c.a, v, c.w⟩ _ _ _ _ _ ⟨cn.ch.len, cn.ok⟩ (by assumption)
    · refine And.intro (Nat.le_of_ble_eq_true rfl) ?_
      walk_at "PE03 W2"
      refine And.intro (Nat.le_of_ble_eq_true rfl) ?_
      walk_at "PE03 W2"
      exact fin ⟨c.n, c.s, c.a, c.x, v⟩ _ _ _ _ _ ⟨cn.ch.len, cn.ok⟩ (by assumption)
  refine w_if ?_
  refine w_or ?_
  walk_at "PE03 W2"
  refine w_k (fun h => ?_) fun h => ?_
  · exact way4
  · walk_at "PE03 W2"
    refine w_k (fun h => ?_) fun h => ?_
    · exact way4
    · walk_at "PE03 W2"
      refine w_k (fun h => ?_) fun h => ?_
      · -- another name
        walk_at "PE03 D0"
        refine ⟨p, c.n, rfl, u3.pool, cn, fun y O4 y1 y2 u4 => ?_⟩
        walk_at "PE03 D0"
        refine And.intro (Nat.le_trans (by decide : 5 ≤ 100000) big) ?_
        walk_at "PE03 D0"
        exact fin ⟨y, c.s, c.a, c.x, c.w⟩ _ _ _ _ _ ⟨by show y.length ≤ 1000; omega, asc_ok y2⟩ (u3.trans u4)
      · walk_at "PE03 W2"
        refine w_k (fun h => ?_) fun h => ?_
        · -- a choice once more
          walk_at "PE03 D0"
          rename_i to O4 t0 t1 u4
          have k3 := cutL_len (cs.map chD) none (some to)
          have k4 := cutL_len (cs.map chD) (some to) none
          rw [List.length_map] at k3 k4
          intro q hq'
          refine w_fzLst hq' ?_
          refine w_fAddLst rfl rfl (by simp only [List.length_cons, List.length_nil]; omega) fun q hq' => ?_
          refine w_fzLst hq' ?_
          walk_at "PE03 W2"
          refine w_fAddLst rfl rfl (by simp only [List.length_append, List.length_cons, List.length_nil]; omega) fun q hq' => ?_
          refine w_fzLst hq' ?_
          rw [← eD, chg_map t0 t0]
          walk_at "PE03 W2"
          exact hJ _ _ ⟨_, _, _, _, _, _, _, chg_ok hcs cn.ch (by omega) t0 (by omega), u4, rfl⟩
        · walk_at "PE03 W2"
          refine ⟨p, st, cs, at_, rfl, u3.pool, a0, by omega, hcs, fun cs' O4 h4 u4 => ?_⟩
          walk_at "PE03 W2"
          exact hJ _ _ ⟨cs', _, _, _, _, _, _, h4.w (by decide), u3.trans u4, rfl⟩
end K03

namespace K03
open PySem L2 L3 LY
theorem CsW.ok {cs : List Ch} (h : CsW cs) : ∀ c ∈ cs, PyData.strOk c.n = true := fun c hc => (h.2 c hc).ok
theorem CsW.chs {cs : List Ch} (h : CsW cs) : ChsOk cs := ⟨by have := h.1; omega, h.2⟩
theorem count_nodup {cs : List Ch} : (∀ c ∈ cs, (cs.filter fun d => decide (d = c)).length ≤ 1) ↔ cs.Nodup := by
  rw [List.nodup_iff_count]
  constructor
  · intro h c
    by_cases hc : c ∈ cs
    · have := h c hc
      rw [← List.countP_eq_length_filter] at this
      refine Nat.le_trans (Nat.le_of_eq ?_) this
      unfold List.count
      congr 1
    · rw [List.count_eq_zero_of_not_mem hc]
      omega
  · intro h c hc
    have := h c
    rw [← List.countP_eq_length_filter]
    refine Nat.le_trans (Nat.le_of_eq ?_) this
    unfold List.count
    congr 1
open Classical in
local macro_rules | `(tactic| walk_at "PF03 W0") => `(tactic| (repeat' first | with_reducible refine w_seq ?_ | with_reducible refine w_sui ?_ | with_reducible refine w_next ?_ | with_reducible refine w_brk ?_ | with_reducible refine w_cont ?_ | with_reducible refine w_ret ?_ | with_reducible refine w_retN ?_ | with_reducible refine w_drop ?_ | with_reducible refine w_if ?_ | with_reducible refine w_asg ?_ | with_reducible refine w_par ?_ | with_reducible refine w_setA ?_ | with_reducible refine w_raise ?_ | with_reducible refine w_for ?_ | with_reducible refine w_iSeq ?_ | with_reducible refine w_iR1 ?_ | with_reducible refine w_iR2 ?_ | with_reducible refine w_iVals ?_ | with_reducible refine w_itLst ?_ | with_reducible refine w_itTup ?_ | with_reducible refine w_itStr ?_ | with_reducible refine w_tgName ?_ | with_reducible refine w_tgIx ?_ | with_reducible refine w_tgCons ?_ | with_reducible refine w_tgNil ?_ | with_reducible refine w_un ?_ | with_reducible refine w_op ?_ | with_reducible refine w_B ?_ | with_reducible refine w_tru ?_ | with_reducible refine w_and ?_ | with_reducible refine w_or ?_ | with_reducible refine w_not ?_ | with_reducible refine w_andV ?_ | with_reducible refine w_orV ?_ | with_reducible refine w_notV ?_ | with_reducible refine w_ifE ?_ | with_reducible refine w_nil ?_ | with_reducible refine w_cons ?_ | with_reducible refine w_tup ?_ | with_reducible refine w_lst ?_ | with_reducible refine w_cb ?_ | with_reducible refine w_call ?_ | with_reducible refine w_slice ?_ | with_reducible refine w_oNone ?_ | with_reducible refine w_onBl ?_ | with_reducible refine w_onTruB ?_ | with_reducible refine w_kT ?_ | with_reducible refine w_kF ?_ | with_reducible refine w_fAdd ?_ | with_reducible refine w_fSub ?_ | with_reducible refine w_fNeg ?_ | with_reducible refine w_fLt ?_ | with_reducible refine w_fLe ?_ | with_reducible refine w_fGt ?_ | with_reducible refine w_fGe ?_ | with_reducible refine w_fEqI ?_ | with_reducible refine w_fNeI ?_ | with_reducible refine w_fEqB ?_ | with_reducible refine w_fEqS ?_ | with_reducible refine w_fInt ?_ | with_reducible refine w_fIntB ?_ | with_reducible refine w_fAbs ?_ | with_reducible refine w_fMax ?_ | with_reducible refine w_fMin ?_ | with_reducible refine w_fGcd ?_ | with_reducible refine w_fLenL ?_ | with_reducible refine w_fLenT ?_ | with_reducible refine w_own ?_ | with_reducible refine w_ownI ?_ | with_reducible refine w_eqOwnI ?_ | with_reducible refine w_c ?_ | with_reducible refine w_make ?_ | with_reducible refine w_makeK ?_ | with_reducible refine w_par2 ?_ | with_reducible refine w_slLst ?_ | with_reducible refine w_p10_6 ?_ | with_reducible refine w_p10_8 ?_ | with_reducible refine w_p10_18 ?_ | with_reducible refine w_p10_30 ?_ | with_reducible refine w_p10_51 ?_ | with_reducible refine w_p10_59 ?_ | with_reducible refine w_p10_60 ?_ | with_reducible refine w_p2_63 ?_ | with_reducible refine w_p2_64 ?_ | with_reducible refine w_comp ?_ | with_reducible refine w_meth ?_ | with_reducible refine w_app ?_ | with_reducible refine w_tupOf ?_ | with_reducible refine w_tupL ?_ | with_reducible refine w_tupT ?_ | with_reducible refine w_sm ?_ | with_reducible refine w_sm0 ?_ | with_reducible refine w_isStr ?_ | with_reducible refine w_find ?_ | with_reducible refine w_starts ?_ | with_reducible refine w_isascii ?_ | with_reducible refine w_isdigit ?_ | with_reducible refine w_str1S ?_ | with_reducible refine w_strO ?_ | with_reducible refine w_fmt ?_ | with_reducible refine w_join ?_ | with_reducible refine w_jsNil ?_ | with_reducible refine w_jsCons ?_ | with_reducible refine w_inS ?_ | with_reducible refine w_notInS ?_ | with_reducible refine w_statI ?_ | with_reducible refine w_fNeS ?_ | with_reducible refine w_yes ?_ | with_reducible refine w_get2 ?_ | with_reducible refine w_get1 ?_ | with_reducible refine w_prop ?_ | with_reducible refine w_put1 ?_ | with_reducible refine w_list1L ?_ | with_reducible refine w_list1T ?_ | with_reducible refine w_fIsN ?_ | with_reducible refine w_retL ?_ | with_reducible refine w_valsT ?_ | with_reducible refine w_valsK ?_ | with_reducible refine w_chain ?_ | with_reducible refine w_slTup ?_ | ((with_reducible apply w_var); exact rfl) | ((with_reducible apply w_isE); exact rfl) | ((with_reducible apply w_onTru); exact rfl) | ((with_reducible apply w_tgTup); exact rfl) | ((with_reducible refine w_fPow ?_ ?_); exact ⟨by decide, by decide, by decide⟩) | (with_reducible refine w_fMod (by decide) ?_) | ((with_reducible apply w_fIxT); exact rfl) | ((with_reducible apply w_fIxL); exact rfl) | (with_reducible refine w_oSome ?_) | ((with_reducible apply w_fIxC); (first | with_reducible exact put_same | assumption); exact rfl) | ((with_reducible apply w_fLenC); (first | with_reducible exact put_same | assumption)) | ((with_reducible apply w_setL); (first | with_reducible exact put_same | assumption); exact rfl) | ((with_reducible apply w_itC); (first | with_reducible exact put_same | assumption)) | ((with_reducible apply w_list1C); (first | with_reducible exact put_same | assumption)) | ((with_reducible apply w_tupC); (first | with_reducible exact put_same | assumption)) | ((with_reducible apply w_slC); (first | with_reducible exact put_same | assumption)) | ((with_reducible apply w_isTc); (first | with_reducible exact put_same | assumption)) | ((with_reducible refine And.intro (a := List.length _ ≤ sizeLine) ?_ ?_); exact Nat.le_of_ble_eq_true rfl) | (with_reducible refine And.intro (a := List.length _ = _) rfl ?_) | (with_reducible refine w_fld ?_) | (with_reducible refine w_isT ?_) | (with_reducible refine w_isO ?_) | ((with_reducible refine Exists.intro ?_ (And.intro (a := fldD _ _ _ _ = _) ?_ ?_)); rotate_left; first | exact rfl) | ((with_reducible refine Exists.intro ?_ (And.intro (a := isT _ _ _ = _) ?_ ?_)); rotate_left; exact rfl) | ((with_reducible refine Exists.intro ?_ (And.intro (a := isO _ _ _ = _) ?_ ?_)); rotate_left; exact rfl) | ((with_reducible refine Exists.intro ?_ (And.intro (a := D.int _ = D.int _) ?_ ?_)); rotate_left; exact rfl) | ((with_reducible refine w_kT' (k := T3.isInt _) ?_ ?_); exact rfl) | ((with_reducible refine w_kT' (k := !T3.isInt _) ?_ ?_); exact rfl) | ((with_reducible refine w_kF' (k := T3.isInt _) ?_ ?_); exact rfl) | ((with_reducible refine w_kF' (k := !T3.isInt _) ?_ ?_); exact rfl) | ((with_reducible refine w_kT' (k := T3.isBl _) ?_ ?_); exact rfl) | ((with_reducible refine w_kT' (k := !T3.isBl _) ?_ ?_); exact rfl) | ((with_reducible refine w_kF' (k := T3.isBl _) ?_ ?_); exact rfl) | ((with_reducible refine w_kF' (k := !T3.isBl _) ?_ ?_); exact rfl) | ((with_reducible refine w_kT' (k := T3.isStr _) ?_ ?_); exact rfl) | ((with_reducible refine w_kT' (k := !T3.isStr _) ?_ ?_); exact rfl) | ((with_reducible refine w_kF' (k := T3.isStr _) ?_ ?_); exact rfl) | ((with_reducible refine w_kF' (k := !T3.isStr _) ?_ ?_); exact rfl) | ((with_reducible refine w_kT' (k := T3.isTup _) ?_ ?_); exact rfl) | ((with_reducible refine w_kT' (k := !T3.isTup _) ?_ ?_); exact rfl) | ((with_reducible refine w_kF' (k := T3.isTup _) ?_ ?_); exact rfl) | ((with_reducible refine w_kF' (k := !T3.isTup _) ?_ ?_); exact rfl) | ((with_reducible refine w_kT' (k := T3.isLst _) ?_ ?_); exact rfl) | ((with_reducible refine w_kT' (k := !T3.isLst _) ?_ ?_); exact rfl) | ((with_reducible refine w_kF' (k := T3.isLst _) ?_ ?_); exact rfl) | ((with_reducible refine w_kF' (k := !T3.isLst _) ?_ ?_); exact rfl) | ((with_reducible refine And.intro (a := insD _ _ _ _) ?_ ?_); (first | exact ⟨rfl, rfl⟩)) | ((with_reducible refine w_kT' (k := isNonD _ != _) ?_ ?_); exact rfl) | ((with_reducible refine w_kF' (k := isNonD _ != _) ?_ ?_); exact rfl) | (with_reducible refine w_kF' (k := !true) rfl ?_) | (with_reducible refine w_kT' (k := !false) rfl ?_) | ((with_reducible refine w_kT' (k := decide _) ?_ ?_); decide +kernel) | ((with_reducible refine w_kF' (k := decide _) ?_ ?_); decide +kernel)))
theorem b_law_is_book : BodyOk ["book", "states", "first", "choices", "c", "d"] 1 sp_law_is_book m_law_is_book := by
  rintro ds O Z P hl ⟨st, fi, cs, rfl, hcs, hq⟩
  show m_law_is_book (En.mk _ _ _ _ _) [some (.tup [.int st, .int fi, .lst (cs.map chD)]), none, none, none, none, none] O
  unfold m_law_is_book
  have big := big_line
  have cl := hcs.1
  have no : ¬ goodB st fi cs → orFz P (.bl false) O := fun h => by rw [dF h] at hq; exact w_fz hq
  have no4 : ¬ (1 ≤ st ∧ st ≤ 600 ∧ 0 ≤ fi ∧ fi < st) → orFz P (.bl false) O := fun h => no fun q => h ⟨q.st1, q.st2, q.fi0, q.fi1⟩
  walk_at "PF03 W0"
  refine w_k (fun h => ?_) fun h => ?_
  · have h := of_decide_eq_true h
    walk_at "PF03 W0"
    exact no4 (by omega)
  have h1 := of_decide_eq_false h
  walk_at "PF03 W0"
  refine w_k (fun h => ?_) fun h => ?_
  · have h := of_decide_eq_true h
    walk_at "PF03 W0"
    exact no4 (by omega)
  have h2 := of_decide_eq_false h
  walk_at "PF03 W0"
  refine w_k (fun h => ?_) fun h => ?_
  · have h := of_decide_eq_true h
    walk_at "PF03 W0"
    exact no4 (by omega)
  have h3 := of_decide_eq_false h
  walk_at "PF03 W0"
  refine w_k (fun h => ?_) fun h => ?_
  · have h := of_decide_eq_true h
    walk_at "PF03 W0"
    exact no4 (by omega)
  have h4 := of_decide_eq_false h
  walk_at "PF03 W0"
  refine w_forL chD (fun r Γ O' => ∃ pre x y, cs = pre ++ r ∧ (∀ c ∈ pre, okC st c = true ∧ (cs.filter fun d => decide (d = c)).length ≤ 1 ∧ (atK cs c.key).length ≤ 4) ∧ O' = O ∧ Γ = [some (.tup [.int st, .int fi, .lst (cs.map chD)]), some (.int st), some (.int fi), some (.lst (cs.map chD)), x, y]) (fun r Γ O' ⟨_, _, _, _, _, e, _⟩ => rfl) ?_ ?_ _ _ _ ⟨[], none, none, rfl, fun _ h => (List.not_mem_nil h).elim, rfl, rfl⟩
  · rintro c r K hK Γ O' ⟨pre, x, y, e, hp, rfl, rfl⟩
    have hc : c ∈ cs := by rw [e]; simp
    have cok := hcs.2 c hc
    have eD : chD c = .tup [.str c.n, .int c.s, .int c.a, .int c.x, .int c.w] := rfl
    rw [eD]
    have nok : okC st c = false → orFz P (.bl false) O' := fun h => no fun q => by have := q.chs c hc; rw [h] at this; cases this
    walk_at "PF03 W0"
    refine ⟨c.n, rfl, Nat.le_trans cok.len (by decide), ?_⟩
    walk_at "PF03 W0"
    refine w_k (fun h => ?_) fun h => ?_
    · walk_at "PF03 W0"
      refine nok ?_
      rw [Bool.not_eq_true'] at h
      unfold okC
      rw [h]
      rfl
    have hn : isName c.n = true := by rw [Bool.not_eq_false'] at h; exact h
    walk_at "PF03 W0"
    refine w_min1 (ns := [c.s, c.a, c.x, c.w]) rfl rfl (Nat.le_of_ble_eq_true rfl) fun m hm hle => ?_
    have m1 := hle c.s (by simp)
    have m2 := hle c.a (by simp)
    have m3 := hle c.x (by simp)
    have m4 := hle c.w (by simp)
    have m5 : m = c.s ∨ m = c.a ∨ m = c.x ∨ m = c.w := by simpa using hm
    unfold okC at nok
    rw [hn] at nok
    simp only [Bool.true_and, Bool.and_eq_false_iff, decide_eq_false_iff_not] at nok
    walk_at "PF03 W0"
    refine w_k (fun h => ?_) fun h => ?_
    · have h := of_decide_eq_true h
      walk_at "PF03 W0"
      exact nok (by omega)
    have h5 := of_decide_eq_false h
    have mx : ∀ a b : Int, (if b > a then b else a) = a ∨ (if b > a then b else a) = b := fun a b => by split <;> simp
    have mx1 : ∀ a b : Int, a ≤ (if b > a then b else a) ∧ b ≤ (if b > a then b else a) := fun a b => by split <;> omega
    walk_at "PF03 W0"
    refine w_k (fun h => ?_) fun h => ?_
    · have h := of_decide_eq_true h
      have := mx c.s c.x
      walk_at "PF03 W0"
      exact nok (by omega)
    have h6 := of_decide_eq_false h
    walk_at "PF03 W0"
    refine w_k (fun h => ?_) fun h => ?_
    · have h := of_decide_eq_true h
      have := mx c.a c.w
      walk_at "PF03 W0"
      exact nok (by omega)
    have h7 := of_decide_eq_false h
    have hok : okC st c = true := by
      have := mx1 c.s c.x
      have := mx1 c.a c.w
      unfold okC
      rw [hn, decide_eq_true (by omega : 0 ≤ c.s ∧ c.s < st), decide_eq_true (by omega : 0 ≤ c.x ∧ c.x < st), decide_eq_true (by omega : 0 ≤ c.a ∧ c.a < 8), decide_eq_true (by omega : 0 ≤ c.w ∧ c.w < 8)]
      rfl
    walk_at "PF03 W0"
    refine w_lcG chD (fun d => decide (d = c)) chD (by omega) (fun p acc hp => rfl) (fun d hd p acc hp K1 K0 k1 k0 => ?_) fun q hq' => ?_
    · refine w_put1 ?_
      show mB _ _ [_, _, _, _, some (.tup [.str c.n, .int c.s, .int c.a, .int c.x, .int c.w]), some (.tup [.str d.n, .int d.s, .int d.a, .int d.x, .int d.w])] _ _
      walk_at "PF03 W0"
      refine w_eqP (ok5 (hcs.ok d hd)) (ok5 cok.ok) dep5 dep5 rfl ch_iff ?_
      walk_at "PF03 W0"
      refine w_k (fun h => ?_) fun h => ?_
      · walk_at "PF03 W0"
        exact k1 (decide_eq_true (cT h))
      · exact k0 (decide_eq_false (cF h))
    refine w_fzLst hq' ?_
    walk_at "PF03 W0"
    rw [List.length_map]
    refine w_k (fun h => ?_) fun h => ?_
    · have h := of_decide_eq_true h
      walk_at "PF03 W0"
      refine no fun q => ?_
      have := count_nodup.mpr q.grp.1 c hc
      omega
    have h8 := of_decide_eq_false h
    walk_at "PF03 W0"
    rw [← eD]
    refine comp_key (i := 5) (j := 4) (by omega) hcs.ok cok.ok (fun _ _ _ => rfl) (Nat.le_of_ble_eq_true rfl) (by decide) rfl fun q' hq'' => ?_
    refine w_fzLst hq'' ?_
    walk_at "PF03 W0"
    rw [List.length_map]
    refine w_k (fun h => ?_) fun h => ?_
    · have h := of_decide_eq_true h
      walk_at "PF03 W0"
      refine no fun q => ?_
      have := q.grp.2 c hc
      omega
    have h9 := of_decide_eq_false h
    walk_at "PF03 W0"
    refine hK _ _ ⟨pre ++ [c], _, _, by rw [e]; simp, fun d hd => ?_, rfl, rfl⟩
    rcases List.mem_append.mp hd with hd | hd
    · exact hp d hd
    · simp at hd
      subst hd
      exact ⟨hok, by omega, by omega⟩
  · rintro Γ O' ⟨pre, x, y, e, hp, rfl, rfl⟩
    rw [List.append_nil] at e
    subst e
    walk_at "PF03 W0"
    refine w_fz ?_
    have : goodB st fi cs := ⟨by omega, by omega, by omega, by omega, fun c hc => (hp c hc).1, count_nodup.mp fun c hc => (hp c hc).2.1, fun c hc => (hp c hc).2.2⟩
    rw [dT this] at hq
    exact hq
local macro_rules | `(tactic| walk_at "PF03 V1") => `(tactic| (repeat' first | with_reducible refine w_seq ?_ | with_reducible refine w_sui ?_ | with_reducible refine w_next ?_ | with_reducible refine w_brk ?_ | with_reducible refine w_cont ?_ | with_reducible refine w_ret ?_ | with_reducible refine w_retN ?_ | with_reducible refine w_drop ?_ | with_reducible refine w_if ?_ | with_reducible refine w_asg ?_ | with_reducible refine w_par ?_ | with_reducible refine w_setA ?_ | with_reducible refine w_raise ?_ | with_reducible refine w_for ?_ | with_reducible refine w_iSeq ?_ | with_reducible refine w_iR1 ?_ | with_reducible refine w_iR2 ?_ | with_reducible refine w_iVals ?_ | with_reducible refine w_itLst ?_ | with_reducible refine w_itTup ?_ | with_reducible refine w_itStr ?_ | with_reducible refine w_tgName ?_ | with_reducible refine w_tgIx ?_ | with_reducible refine w_tgCons ?_ | with_reducible refine w_tgNil ?_ | with_reducible refine w_un ?_ | with_reducible refine w_op ?_ | with_reducible refine w_B ?_ | with_reducible refine w_tru ?_ | with_reducible refine w_and ?_ | with_reducible refine w_or ?_ | with_reducible refine w_not ?_ | with_reducible refine w_andV ?_ | with_reducible refine w_orV ?_ | with_reducible refine w_notV ?_ | with_reducible refine w_ifE ?_ | with_reducible refine w_nil ?_ | with_reducible refine w_cons ?_ | with_reducible refine w_tup ?_ | with_reducible refine w_lst ?_ | with_reducible refine w_cb ?_ | with_reducible refine w_call ?_ | with_reducible refine w_slice ?_ | with_reducible refine w_oNone ?_ | with_reducible refine w_onBl ?_ | with_reducible refine w_onTruB ?_ | with_reducible refine w_kT ?_ | with_reducible refine w_kF ?_ | with_reducible refine w_fAdd ?_ | with_reducible refine w_fSub ?_ | with_reducible refine w_fNeg ?_ | with_reducible refine w_fLt ?_ | with_reducible refine w_fLe ?_ | with_reducible refine w_fGt ?_ | with_reducible refine w_fGe ?_ | with_reducible refine w_fEqI ?_ | with_reducible refine w_fNeI ?_ | with_reducible refine w_fEqB ?_ | with_reducible refine w_fEqS ?_ | with_reducible refine w_fInt ?_ | with_reducible refine w_fIntB ?_ | with_reducible refine w_fAbs ?_ | with_reducible refine w_fMax ?_ | with_reducible refine w_fMin ?_ | with_reducible refine w_fGcd ?_ | with_reducible refine w_fLenL ?_ | with_reducible refine w_fLenT ?_ | with_reducible refine w_own ?_ | with_reducible refine w_ownI ?_ | with_reducible refine w_eqOwnI ?_ | with_reducible refine w_c ?_ | with_reducible refine w_make ?_ | with_reducible refine w_makeK ?_ | with_reducible refine w_par2 ?_ | with_reducible refine w_slLst ?_ | with_reducible refine w_p10_6 ?_ | with_reducible refine w_p10_8 ?_ | with_reducible refine w_p10_18 ?_ | with_reducible refine w_p10_30 ?_ | with_reducible refine w_p10_51 ?_ | with_reducible refine w_p10_59 ?_ | with_reducible refine w_p10_60 ?_ | with_reducible refine w_p2_63 ?_ | with_reducible refine w_p2_64 ?_ | with_reducible refine w_comp ?_ | with_reducible refine w_meth ?_ | with_reducible refine w_app ?_ | with_reducible refine w_tupOf ?_ | with_reducible refine w_tupL ?_ | with_reducible refine w_tupT ?_ | with_reducible refine w_sm ?_ | with_reducible refine w_sm0 ?_ | with_reducible refine w_isStr ?_ | with_reducible refine w_find ?_ | with_reducible refine w_starts ?_ | with_reducible refine w_isascii ?_ | with_reducible refine w_isdigit ?_ | with_reducible refine w_str1S ?_ | with_reducible refine w_strO ?_ | with_reducible refine w_fmt ?_ | with_reducible refine w_join ?_ | with_reducible refine w_jsNil ?_ | with_reducible refine w_jsCons ?_ | with_reducible refine w_inS ?_ | with_reducible refine w_notInS ?_ | with_reducible refine w_statI ?_ | with_reducible refine w_fNeS ?_ | with_reducible refine w_yes ?_ | with_reducible refine w_get2 ?_ | with_reducible refine w_get1 ?_ | with_reducible refine w_prop ?_ | with_reducible refine w_put1 ?_ | with_reducible refine w_list1L ?_ | with_reducible refine w_list1T ?_ | with_reducible refine w_fIsN ?_ | with_reducible refine w_retL ?_ | with_reducible refine w_valsT ?_ | with_reducible refine w_valsK ?_ | with_reducible refine w_chain ?_ | with_reducible refine w_slTup ?_ | ((with_reducible apply w_var); exact rfl) | ((with_reducible apply w_isE); exact rfl) | ((with_reducible apply w_onTru); exact rfl) | ((with_reducible apply w_tgTup); exact rfl) | ((with_reducible refine w_fPow ?_ ?_); exact ⟨by decide, by decide, by decide⟩) | (with_reducible refine w_fMod (by decide) ?_) | ((with_reducible apply w_fIxT); exact rfl) | ((with_reducible apply w_fIxL); exact rfl) | (with_reducible refine w_oSome ?_) | ((with_reducible apply w_fIxC); (first | with_reducible exact put_same | assumption); exact rfl) | ((with_reducible apply w_fLenC); (first | with_reducible exact put_same | assumption)) | ((with_reducible apply w_setL); (first | with_reducible exact put_same | assumption); exact rfl) | (with_reducible refine w_fLenS (by omega) ?_) | (with_reducible refine w_slStr (by omega) ?_) | (with_reducible refine w_fAddS (by omega) ?_) | (with_reducible refine w_remPre (by omega) ?_) | (with_reducible refine w_fmtS (by omega) ?_) | ((with_reducible apply w_itC); (first | with_reducible exact put_same | assumption)) | ((with_reducible apply w_list1C); (first | with_reducible exact put_same | assumption)) | ((with_reducible apply w_tupC); (first | with_reducible exact put_same | assumption)) | ((with_reducible apply w_slC); (first | with_reducible exact put_same | assumption)) | ((with_reducible apply w_isTc); (first | with_reducible exact put_same | assumption)) | (with_reducible refine w_fMul (mulR (by decide)) ?_) | (with_reducible refine w_fMul (mulL (by omega)) ?_) | (with_reducible refine w_fMul (mulR (by omega)) ?_) | (with_reducible refine w_fDiv (dv30 (by omega) (by omega)) ?_) | (with_reducible refine w_fMod (by omega) ?_) | ((with_reducible refine And.intro (a := List.length _ ≤ sizeLine) ?_ ?_); exact Nat.le_of_ble_eq_true rfl) | (with_reducible refine And.intro (a := List.length _ = _) rfl ?_) | (with_reducible refine w_fld ?_) | (with_reducible refine w_isT ?_) | (with_reducible refine w_isO ?_) | ((with_reducible refine Exists.intro ?_ (And.intro (a := fldD _ _ _ _ = _) ?_ ?_)); rotate_left; first | exact rfl) | ((with_reducible refine Exists.intro ?_ (And.intro (a := isT _ _ _ = _) ?_ ?_)); rotate_left; exact rfl) | ((with_reducible refine Exists.intro ?_ (And.intro (a := isO _ _ _ = _) ?_ ?_)); rotate_left; exact rfl) | ((with_reducible refine Exists.intro ?_ (And.intro (a := D.int _ = D.int _) ?_ ?_)); rotate_left; exact rfl) | ((with_reducible refine w_kT' (k := T3.isInt _) ?_ ?_); exact rfl) | ((with_reducible refine w_kT' (k := !T3.isInt _) ?_ ?_); exact rfl) | ((with_reducible refine w_kF' (k := T3.isInt _) ?_ ?_); exact rfl) | ((with_reducible refine w_kF' (k := !T3.isInt _) ?_ ?_); exact rfl) | ((with_reducible refine w_kT' (k := T3.isBl _) ?_ ?_); exact rfl) | ((with_reducible refine w_kT' (k := !T3.isBl _) ?_ ?_); exact rfl) | ((with_reducible refine w_kF' (k := T3.isBl _) ?_ ?_); exact rfl) | ((with_reducible refine w_kF' (k := !T3.isBl _) ?_ ?_); exact rfl) | ((with_reducible refine w_kT' (k := T3.isStr _) ?_ ?_); exact rfl) | ((with_reducible refine w_kT' (k := !T3.isStr _) ?_ ?_); exact rfl) | ((with_reducible refine w_kF' (k := T3.isStr _) ?_ ?_); exact rfl) | ((with_reducible refine w_kF' (k := !T3.isStr _) ?_ ?_); exact rfl) | ((with_reducible refine w_kT' (k := T3.isTup _) ?_ ?_); exact rfl) | ((with_reducible refine w_kT' (k := !T3.isTup _) ?_ ?_); exact rfl) | ((with_reducible refine w_kF' (k := T3.isTup _) ?_ ?_); exact rfl) | ((with_reducible refine w_kF' (k := !T3.isTup _) ?_ ?_); exact rfl) | ((with_reducible refine w_kT' (k := T3.isLst _) ?_ ?_); exact rfl) | ((with_reducible refine w_kT' (k := !T3.isLst _) ?_ ?_); exact rfl) | ((with_reducible refine w_kF' (k := T3.isLst _) ?_ ?_); exact rfl) | ((with_reducible refine w_kF' (k := !T3.isLst _) ?_ ?_); exact rfl) | ((with_reducible refine And.intro (a := insD _ _ _ _) ?_ ?_); (first | exact ⟨rfl, rfl⟩)) | ((with_reducible refine w_kT' (k := isNonD _ != _) ?_ ?_); exact rfl) | ((with_reducible refine w_kF' (k := isNonD _ != _) ?_ ?_); exact rfl) | (with_reducible refine w_kF' (k := !true) rfl ?_) | (with_reducible refine w_kT' (k := !false) rfl ?_) | ((with_reducible refine w_kT' (k := decide _) ?_ ?_); decide +kernel) | ((with_reducible refine w_kF' (k := decide _) ?_ ?_); decide +kernel)))
theorem b_law_keys : BodyOk ["choices", "strange", "c", "keys"] 1 sp_law_keys m_law_keys := by
  rintro ds O Z P hl ⟨cs, rfl, hcs, hq⟩
  show m_law_keys (En.mk _ _ _ _ _) [some (.lst (cs.map chD)), none, none, none] O
  unfold m_law_keys
  have big := big_line
  have cl := hcs.1
  walk_at "PF03 W0"
  refine w_forL chD (fun r Γ O' => ∃ (s : Str) (x : Option D), (∀ c ∈ r, c ∈ cs) ∧ s.length ≤ 1001 ∧ PyData.strOk s = true ∧ O' = O ∧ Γ = [some (.lst (cs.map chD)), some (.str s), x, none]) (fun _ _ _ _ => rfl) ?_ ?_ _ _ _ ⟨"a", none, fun _ h => h, by decide +kernel, by decide +kernel, rfl, rfl⟩
  · rintro c r K hK Γ O' ⟨s, x, hr, s1, s2, rfl, rfl⟩
    have hc := hr c List.mem_cons_self
    have cok := hcs.2 c hc
    have c1 := cok.len
    show tgName 2 _ (.tup [.str c.n, .int c.s, .int c.a, .int c.x, .int c.w]) _ _ _
    walk_at "PF03 V1"
    refine w_k (fun h => ?_) fun h => ?_
    · walk_at "PF03 V1"
      have a1 : ("a" : Str).length = 1 := by decide +kernel
      refine w_fAddS (by omega) ?_
      walk_at "PF03 V1"
      exact hK _ _ ⟨c.n ++ "a", _, fun d hd => hr d (List.mem_cons_of_mem _ hd), by rw [app_len]; omega, strOk_app cok.ok (by decide +kernel), rfl, rfl⟩
    · walk_at "PF03 V1"
      exact hK _ _ ⟨s, _, fun d hd => hr d (List.mem_cons_of_mem _ hd), s1, s2, rfl, rfl⟩
  · rintro Γ O' ⟨s, x, _, s1, s2, rfl, rfl⟩
    walk_at "PF03 W0"
    intro q hq'
    refine w_fzLst hq' ?_
    walk_at "PF03 W0"
    refine w_forL chD (fun r Γ O'' => ∃ (ks : List K3) (x : Option D), (∀ c ∈ r, c ∈ cs) ∧ ks.length + 5 * r.length ≤ 1000 ∧ (∀ k ∈ ks, PyData.strOk k.1 = true) ∧ O'' = O' ∧ Γ = [some (.lst (cs.map chD)), some (.str s), x, some (.lst (ks.map keyT))]) (fun _ _ _ _ => rfl) ?_ ?_ _ _ _ ⟨[(s, 0, 0)], _, fun _ h => h, by simp; omega, by simpa using s2, rfl, rfl⟩
    · rintro c r K hK Γ O'' ⟨ks, x, hr, kl, kok, rfl, rfl⟩
      have hc := hr c List.mem_cons_self
      have cok := hcs.2 c hc
      show tgName 2 _ (.tup [.str c.n, .int c.s, .int c.a, .int c.x, .int c.w]) _ _ _
      walk_at "PF03 W0"
      rw [cut3]
      walk_at "PF03 W0"
      intro q hq'
      refine w_fzLst hq' ?_
      simp only [List.length_cons] at kl
      refine w_fAddLst rfl rfl (by simp; omega) fun q hq' => ?_
      refine w_fzLst hq' ?_
      walk_at "PF03 W0"
      refine hK _ _ ⟨ks ++ [(c.n, c.s, c.a), (c.n, c.s + 1, c.a), (c.n, c.s, c.a + 1), (c.n, -1, c.a), (s, c.s, c.a)], _, fun d hd => hr d (List.mem_cons_of_mem _ hd), by simp; omega, fun k hk => ?_, rfl, by rw [List.map_append]; rfl⟩
      rcases List.mem_append.mp hk with hk | hk
      · exact kok k hk
      · simp at hk
        rcases hk with rfl | rfl | rfl | rfl | rfl
        · exact cok.ok
        · exact cok.ok
        · exact cok.ok
        · exact cok.ok
        · exact s2
    · rintro Γ O'' ⟨ks, x, _, kl, kok, rfl, rfl⟩
      walk_at "PF03 W0"
      exact w_fz (hq ks kok)
end K03

namespace K03
open PySem L2 L3 LY
theorem RowsC.ext {O O' : Sto} (e : Ext O O') : ∀ {rs : List Addr} {cs : List Ch}, RowsC O rs cs → RowsC O' rs cs
  | _, _, .nil => .nil
  | _, _, .cons h t => .cons (e _ _ h) (t.ext e)
theorem RowsC.len {O : Sto} : ∀ {rs : List Addr} {cs : List Ch}, RowsC O rs cs → rs.length = cs.length
  | _, _, .nil => rfl
  | _, _, .cons h t => by simp [t.len]
theorem RowsC.snoc {O : Sto} {r : Addr} {c : Ch} : ∀ {rs : List Addr} {cs : List Ch}, RowsC O rs cs → O r = some (.lst (chF c)) → RowsC O (rs ++ [r]) (cs ++ [c])
  | _, _, .nil, h => .cons h .nil
  | _, _, .cons h t, h' => .cons h (t.snoc h')
theorem Hd.ext {how : Int} {O O' : Sto} {g : D} {cs : List Ch} (e : Ext O O') (h : Hd how O g cs) : Hd how O' g cs := by
  rcases h with ⟨h, q, rs, rfl, h1, h2⟩ | ⟨h, q, rfl, h1⟩ | ⟨h, rs, rfl, h2⟩ | ⟨h, rfl⟩
  · exact .inl ⟨h, q, rs, rfl, e _ _ h1, h2.ext e⟩
  · exact .inr (.inl ⟨h, q, rfl, e _ _ h1⟩)
  · exact .inr (.inr (.inl ⟨h, rs, rfl, h2.ext e⟩))
  · exact .inr (.inr (.inr ⟨h, rfl⟩))
theorem RowsC.rows {O : Sto} : ∀ {rs : List Addr} {cs : List Ch}, RowsC O rs cs → Rows O (rs.map D.cell) cs
  | _, _, .nil => .nil
  | _, _, .cons h t => .cons (seqOf_lst h) t.rows
theorem rows_tup {O : Sto} : ∀ {cs : List Ch}, Rows O (cs.map chD) cs
  | [] => .nil
  | c :: cs => .cons rfl rows_tup
theorem Hd.giv {how : Int} {O : Sto} {g : D} {cs : List Ch} (h : Hd how O g cs) : Giv O g cs := by
  rcases h with ⟨h, q, rs, rfl, h1, h2⟩ | ⟨h, q, rfl, h1⟩ | ⟨h, rs, rfl, h2⟩ | ⟨h, rfl⟩
  · exact ⟨_, seqOf_lst h1, (by intro z h; cases h), h2.rows⟩
  · exact ⟨_, seqOf_lst h1, (by intro z h; cases h), rows_tup⟩
  · exact ⟨_, rfl, (by intro z h; cases h), h2.rows⟩
  · exact ⟨_, rfl, (by intro z h; cases h), rows_tup⟩
/-- the data of what was handed in -/
def hdP (how : Int) (cs : List Ch) : PyData :=
  if how = 0 then .list (cs.map fun c => .list (pyDs (chF c))) else if how = 1 then .list (cs.map fun c => pyD (chD c)) else if how = 2 then .tuple (cs.map fun c => .list (pyDs (chF c))) else .tuple (cs.map fun c => pyD (chD c))
theorem okF {c : Ch} (h : PyData.strOk c.n = true) : okDs (chF c) = true := by simp [chF, okDs, okD, h]
theorem RowsC.pys {O : Sto} : ∀ {rs : List Addr} {cs : List Ch}, RowsC O rs cs → (∀ c ∈ cs, PyData.strOk c.n = true) → Pys O (rs.map D.cell) (cs.map fun c => .list (pyDs (chF c)))
  | _, _, .nil, _ => .nil
  | _, _, .cons h t, hn => .cons (.cell h (pys_ok (okF (hn _ List.mem_cons_self)))) (t.pys fun c hc => hn c (List.mem_cons_of_mem _ hc))
theorem chs_pys {O : Sto} : ∀ {cs : List Ch}, (∀ c ∈ cs, PyData.strOk c.n = true) → Pys O (cs.map chD) (cs.map fun c => pyD (chD c))
  | [], _ => .nil
  | c :: cs, hn => .cons (py_ok (ok5 (hn c List.mem_cons_self))) (chs_pys fun c hc => hn c (List.mem_cons_of_mem _ hc))
theorem Hd.py {how : Int} {O : Sto} {g : D} {cs : List Ch} (h : Hd how O g cs) (hn : ∀ c ∈ cs, PyData.strOk c.n = true) : Py O g (hdP how cs) := by
  rcases h with ⟨rfl, q, rs, rfl, h1, h2⟩ | ⟨rfl, q, rfl, h1⟩ | ⟨rfl, rs, rfl, h2⟩ | ⟨rfl, rfl⟩
  · exact .cell h1 (h2.pys hn)
  · exact .cell h1 (chs_pys hn)
  · exact .tup (h2.pys hn)
  · exact .tup (chs_pys hn)
theorem lay_map {α : Type} {f : α → PyData} {n : Nat} : ∀ {xs : List α}, (∀ x ∈ xs, (f x).canLay0 = true ∧ (f x).depth ≤ n) → PyData.canLayAll0 (xs.map f) = true ∧ PyData.depthAll (xs.map f) ≤ n
  | [], _ => by simp [PyData.canLayAll0, PyData.depthAll]
  | x :: r, h => by
    have h1 := h x List.mem_cons_self
    have h2 := lay_map (f := f) (n := n) (xs := r) fun y hy => h y (List.mem_cons_of_mem _ hy)
    simp only [List.map_cons, PyData.canLayAll0, PyData.depthAll, h1.1, h2.1, Bool.and_self, true_and]
    exact Nat.max_le.mpr ⟨h1.2, h2.2⟩
theorem hdP_shaped {how : Int} {cs : List Ch} (hn : ∀ c ∈ cs, PyData.strOk c.n = true) : SeqAt.shaped (hdP how cs) = true := by
  have l1 : ∀ c ∈ cs, (pyD (.lst (chF c))).canLay0 = true ∧ (pyD (.lst (chF c))).depth ≤ 2 := fun c hc => by
    have := shp (a := .lst (chF c)) (by simpa [okD] using okF (hn c hc))
    refine ⟨this.1, ?_⟩
    rw [this.2]
    simp [chF, depD, depDs]
  have l2 : ∀ c ∈ cs, (pyD (chD c)).canLay0 = true ∧ (pyD (chD c)).depth ≤ 2 := fun c hc => by
    have := shp (a := chD c) (ok5 (hn c hc))
    refine ⟨this.1, ?_⟩
    rw [this.2]
    simp [chD, chF, depD, depDs]
  have k1 := lay_map (f := fun c => pyD (.lst (chF c))) l1
  have k2 := lay_map (f := fun c => pyD (chD c)) l2
  have e : (fun c => pyD (.lst (chF c))) = fun c => PyData.list (pyDs (chF c)) := by funext c; simp [pyD]
  rw [e] at k1
  have d1 := k1.2
  have d2 := k2.2
  unfold SeqAt.shaped hdP
  split
  · have d : (PyData.list (cs.map fun c => PyData.list (pyDs (chF c)))).depth ≤ 64 := by simp only [PyData.depth]; omega
    rw [decide_eq_true d]
    simp only [PyData.canLay0, k1.1, Bool.and_self]
  · split
    · have d : (PyData.list (cs.map fun c => pyD (chD c))).depth ≤ 64 := by simp only [PyData.depth]; omega
      rw [decide_eq_true d]
      simp only [PyData.canLay0, k2.1, Bool.and_self]
    · split
      · have d : (PyData.tuple (cs.map fun c => PyData.list (pyDs (chF c)))).depth ≤ 64 := by simp only [PyData.depth]; omega
        rw [decide_eq_true d]
        simp only [PyData.canLay0, k1.1, Bool.and_self]
      · have d : (PyData.tuple (cs.map fun c => pyD (chD c))).depth ≤ 64 := by simp only [PyData.depth]; omega
        rw [decide_eq_true d]
        simp only [PyData.canLay0, k2.1, Bool.and_self]
/-- two that were handed in alike -/
theorem w_eqHd {neg : Bool} {how : Int} {O : Sto} {g g' : D} {cs : List Ch} {Q : PV} (h : Hd how O g cs) (h' : Hd how O g' cs) (hn : ∀ c ∈ cs, PyData.strOk c.n = true) (hq : Q (.bl (true != neg)) O) : fEq neg g g' O Q := by
  unfold fEq
  have sc : scalD g g' = none := by
    rcases h with ⟨h, q, rs, rfl, h1, h2⟩ | ⟨h, q, rfl, h1⟩ | ⟨h, rs, rfl, h2⟩ | ⟨h, rfl⟩ <;> cases g' <;> rfl
  rw [sc]
  have sh := hdP_shaped (how := how) hn
  refine ⟨_, _, h.py hn, h'.py hn, sh, sh, ?_⟩
  rw [SeqAt.eqv_refl _ (SeqAt.canLay_of_shaped sh)]
  exact hq
theorem RowsC.put {O : Sto} {p : Addr} {u : MO} : ∀ {rs : List Addr} {cs : List Ch}, RowsC O rs cs → (∀ a ∈ rs, a ≠ p) → RowsC (put O p u) rs cs
  | _, _, .nil, _ => .nil
  | _, _, .cons h t, n => .cons (by rw [put_ne (n _ List.mem_cons_self)]; exact h) (t.put fun a ha => n a (List.mem_cons_of_mem _ ha))
theorem Ext.again {O O1 : Sto} {p : Addr} {u : MO} (e : Ext O O1) (h : O p = none) : Ext O (put O1 p u) := fun q w hq => by
  have : q ≠ p := by rintro rfl; rw [h] at hq; cases hq
  rw [put_ne this]
  exact e q w hq
theorem w_neHd {how : Int} {O : Sto} {g g' : D} {cs : List Ch} {Q : PV} (h : Hd how O g cs) (h' : Hd how O g' cs) (hn : ∀ c ∈ cs, PyData.strOk c.n = true) (hq : Q (.bl false) O) : fEq true g g' O Q := w_eqHd h h' hn hq
/-- [list(choice) for choice in choices], made cell by cell -/
theorem lists_made {chk : Sto → Prop} {Γ : Gm} {p : Addr} {KO : Sto → Prop} (O0 : Sto) (hp0 : O0 p = none) (hi : 2 < Γ.length) (big : 100000 ≤ sizeLine) (hc : ∀ O, chk O) : ∀ (r done : List Ch) (rs : List Addr) (O : Sto), done.length + r.length ≤ 1000 → Ext O0 O → O p = some (.lst (rs.map D.cell)) → (∀ a ∈ rs, a ≠ p) → RowsC O rs done →
    (∀ O' rs', Ext O0 O' → O' p = some (.lst (rs'.map D.cell)) → (∀ a ∈ rs', a ≠ p) → RowsC O' rs' (done ++ r) → KO O') → lcL p chk (.one 2) mYes (mCB fList1 (mCons (mVar 2) mNil)) Γ KO (r.map chD) O := by
  intro r
  induction r with
  | nil =>
    intro done rs O hlen e hO hn hr hk
    exact ⟨hc O, hk O rs e hO hn (by simpa using hr)⟩
  | cons c r ih =>
    intro done rs O hlen e hO hn hr hk
    simp only [List.length_cons] at hlen
    refine w_lcCons (hc O) ?_
    refine w_put1 ?_
    refine w_yes ?_
    refine w_kT ?_
    refine w_cb ?_
    refine w_cons ?_
    refine w_var (d := chD c) (List.getElem?_set_self hi) ?_
    refine w_nil ?_
    refine w_list1T (ds := chF c) fun q hq => ?_
    have hqp : q ≠ p := by rintro rfl; rw [hO] at hq; cases hq
    have e1 : Ext O (L3.put O q (.lst (chF c))) := Ext.put hq
    refine w_fz ⟨rs.map D.cell, e1 _ _ hO, by have := hr.len; simp; omega, ?_⟩
    have hn2 : ∀ a ∈ rs ++ [q], a ≠ p := fun a ha => by
      rcases List.mem_append.mp ha with h | h
      · exact hn a h
      · simp at h; subst h; exact hqp
    refine ih (done ++ [c]) (rs ++ [q]) _ (by simp; omega) (Ext.again (e.trans e1) hp0) (by rw [put_same]; simp) hn2 (((hr.ext e1).snoc put_same).put hn2) fun O' rs' h1 h2 h3 h4 => ?_
    exact hk O' rs' h1 h2 h3 (by simpa using h4)
local macro_rules | `(tactic| walk_at "PG03 W0") => `(tactic| (repeat' first | with_reducible refine w_seq ?_ | with_reducible refine w_sui ?_ | with_reducible refine w_next ?_ | with_reducible refine w_brk ?_ | with_reducible refine w_cont ?_ | with_reducible refine w_ret ?_ | with_reducible refine w_retN ?_ | with_reducible refine w_drop ?_ | with_reducible refine w_if ?_ | with_reducible refine w_asg ?_ | with_reducible refine w_par ?_ | with_reducible refine w_setA ?_ | with_reducible refine w_raise ?_ | with_reducible refine w_for ?_ | with_reducible refine w_iSeq ?_ | with_reducible refine w_iR1 ?_ | with_reducible refine w_iR2 ?_ | with_reducible refine w_iVals ?_ | with_reducible refine w_itLst ?_ | with_reducible refine w_itTup ?_ | with_reducible refine w_itStr ?_ | with_reducible refine w_tgName ?_ | with_reducible refine w_tgIx ?_ | with_reducible refine w_tgCons ?_ | with_reducible refine w_tgNil ?_ | with_reducible refine w_un ?_ | with_reducible refine w_op ?_ | with_reducible refine w_B ?_ | with_reducible refine w_tru ?_ | with_reducible refine w_and ?_ | with_reducible refine w_or ?_ | with_reducible refine w_not ?_ | with_reducible refine w_andV ?_ | with_reducible refine w_orV ?_ | with_reducible refine w_notV ?_ | with_reducible refine w_ifE ?_ | with_reducible refine w_nil ?_ | with_reducible refine w_cons ?_ | with_reducible refine w_tup ?_ | with_reducible refine w_lst ?_ | with_reducible refine w_cb ?_ | with_reducible refine w_call ?_ | with_reducible refine w_slice ?_ | with_reducible refine w_oNone ?_ | with_reducible refine w_onBl ?_ | with_reducible refine w_onTruB ?_ | with_reducible refine w_kT ?_ | with_reducible refine w_kF ?_ | with_reducible refine w_fAdd ?_ | with_reducible refine w_fSub ?_ | with_reducible refine w_fNeg ?_ | with_reducible refine w_fLt ?_ | with_reducible refine w_fLe ?_ | with_reducible refine w_fGt ?_ | with_reducible refine w_fGe ?_ | with_reducible refine w_fEqI ?_ | with_reducible refine w_fNeI ?_ | with_reducible refine w_fEqB ?_ | with_reducible refine w_fEqS ?_ | with_reducible refine w_fInt ?_ | with_reducible refine w_fIntB ?_ | with_reducible refine w_fAbs ?_ | with_reducible refine w_fMax ?_ | with_reducible refine w_fMin ?_ | with_reducible refine w_fGcd ?_ | with_reducible refine w_fLenL ?_ | with_reducible refine w_fLenT ?_ | with_reducible refine w_own ?_ | with_reducible refine w_ownI ?_ | with_reducible refine w_eqOwnI ?_ | with_reducible refine w_c ?_ | with_reducible refine w_make ?_ | with_reducible refine w_makeK ?_ | with_reducible refine w_par2 ?_ | with_reducible refine w_slLst ?_ | with_reducible refine w_p10_6 ?_ | with_reducible refine w_p10_8 ?_ | with_reducible refine w_p10_18 ?_ | with_reducible refine w_p10_30 ?_ | with_reducible refine w_p10_51 ?_ | with_reducible refine w_p10_59 ?_ | with_reducible refine w_p10_60 ?_ | with_reducible refine w_p2_63 ?_ | with_reducible refine w_p2_64 ?_ | with_reducible refine w_comp ?_ | with_reducible refine w_meth ?_ | with_reducible refine w_app ?_ | with_reducible refine w_tupOf ?_ | with_reducible refine w_tupL ?_ | with_reducible refine w_tupT ?_ | with_reducible refine w_sm ?_ | with_reducible refine w_sm0 ?_ | with_reducible refine w_isStr ?_ | with_reducible refine w_find ?_ | with_reducible refine w_starts ?_ | with_reducible refine w_isascii ?_ | with_reducible refine w_isdigit ?_ | with_reducible refine w_str1S ?_ | with_reducible refine w_strO ?_ | with_reducible refine w_fmt ?_ | with_reducible refine w_join ?_ | with_reducible refine w_jsNil ?_ | with_reducible refine w_jsCons ?_ | with_reducible refine w_inS ?_ | with_reducible refine w_notInS ?_ | with_reducible refine w_statI ?_ | with_reducible refine w_fNeS ?_ | with_reducible refine w_yes ?_ | with_reducible refine w_get2 ?_ | with_reducible refine w_get1 ?_ | with_reducible refine w_prop ?_ | with_reducible refine w_put1 ?_ | with_reducible refine w_list1L ?_ | with_reducible refine w_list1T ?_ | with_reducible refine w_fIsN ?_ | with_reducible refine w_retL ?_ | with_reducible refine w_valsT ?_ | with_reducible refine w_valsK ?_ | with_reducible refine w_chain ?_ | with_reducible refine w_slTup ?_ | ((with_reducible apply w_var); exact rfl) | ((with_reducible apply w_isE); exact rfl) | ((with_reducible apply w_onTru); exact rfl) | ((with_reducible apply w_tgTup); exact rfl) | ((with_reducible refine w_fPow ?_ ?_); exact ⟨by decide, by decide, by decide⟩) | (with_reducible refine w_fMod (by decide) ?_) | ((with_reducible apply w_fIxT); exact rfl) | ((with_reducible apply w_fIxL); exact rfl) | (with_reducible refine w_oSome ?_) | ((with_reducible apply w_fIxC); (first | with_reducible exact put_same | assumption); exact rfl) | ((with_reducible apply w_fLenC); (first | with_reducible exact put_same | assumption)) | ((with_reducible apply w_setL); (first | with_reducible exact put_same | assumption); exact rfl) | ((with_reducible apply w_itC); (first | with_reducible exact put_same | assumption)) | ((with_reducible apply w_list1C); (first | with_reducible exact put_same | assumption)) | ((with_reducible apply w_tupC); (first | with_reducible exact put_same | assumption)) | ((with_reducible apply w_slC); (first | with_reducible exact put_same | assumption)) | ((with_reducible apply w_isTc); (first | with_reducible exact put_same | assumption)) | ((with_reducible refine And.intro (a := List.length _ ≤ sizeLine) ?_ ?_); exact Nat.le_of_ble_eq_true rfl) | (with_reducible refine And.intro (a := List.length _ = _) rfl ?_) | (with_reducible refine w_fld ?_) | (with_reducible refine w_isT ?_) | (with_reducible refine w_isO ?_) | ((with_reducible refine Exists.intro ?_ (And.intro (a := fldD _ _ _ _ = _) ?_ ?_)); rotate_left; first | exact rfl) | ((with_reducible refine Exists.intro ?_ (And.intro (a := isT _ _ _ = _) ?_ ?_)); rotate_left; exact rfl) | ((with_reducible refine Exists.intro ?_ (And.intro (a := isO _ _ _ = _) ?_ ?_)); rotate_left; exact rfl) | ((with_reducible refine Exists.intro ?_ (And.intro (a := D.int _ = D.int _) ?_ ?_)); rotate_left; exact rfl) | ((with_reducible refine w_kT' (k := T3.isInt _) ?_ ?_); exact rfl) | ((with_reducible refine w_kT' (k := !T3.isInt _) ?_ ?_); exact rfl) | ((with_reducible refine w_kF' (k := T3.isInt _) ?_ ?_); exact rfl) | ((with_reducible refine w_kF' (k := !T3.isInt _) ?_ ?_); exact rfl) | ((with_reducible refine w_kT' (k := T3.isBl _) ?_ ?_); exact rfl) | ((with_reducible refine w_kT' (k := !T3.isBl _) ?_ ?_); exact rfl) | ((with_reducible refine w_kF' (k := T3.isBl _) ?_ ?_); exact rfl) | ((with_reducible refine w_kF' (k := !T3.isBl _) ?_ ?_); exact rfl) | ((with_reducible refine w_kT' (k := T3.isStr _) ?_ ?_); exact rfl) | ((with_reducible refine w_kT' (k := !T3.isStr _) ?_ ?_); exact rfl) | ((with_reducible refine w_kF' (k := T3.isStr _) ?_ ?_); exact rfl) | ((with_reducible refine w_kF' (k := !T3.isStr _) ?_ ?_); exact rfl) | ((with_reducible refine w_kT' (k := T3.isTup _) ?_ ?_); exact rfl) | ((with_reducible refine w_kT' (k := !T3.isTup _) ?_ ?_); exact rfl) | ((with_reducible refine w_kF' (k := T3.isTup _) ?_ ?_); exact rfl) | ((with_reducible refine w_kF' (k := !T3.isTup _) ?_ ?_); exact rfl) | ((with_reducible refine w_kT' (k := T3.isLst _) ?_ ?_); exact rfl) | ((with_reducible refine w_kT' (k := !T3.isLst _) ?_ ?_); exact rfl) | ((with_reducible refine w_kF' (k := T3.isLst _) ?_ ?_); exact rfl) | ((with_reducible refine w_kF' (k := !T3.isLst _) ?_ ?_); exact rfl) | ((with_reducible refine And.intro (a := insD _ _ _ _) ?_ ?_); (first | exact ⟨rfl, rfl⟩)) | ((with_reducible refine w_kT' (k := isNonD _ != _) ?_ ?_); exact rfl) | ((with_reducible refine w_kF' (k := isNonD _ != _) ?_ ?_); exact rfl) | (with_reducible refine w_kF' (k := !true) rfl ?_) | (with_reducible refine w_kT' (k := !false) rfl ?_) | ((with_reducible refine w_kT' (k := decide _) ?_ ?_); decide +kernel) | ((with_reducible refine w_kF' (k := decide _) ?_ ?_); decide +kernel)))
theorem b_law_handed : BodyOk ["choices", "how", "choice"] 2 sp_law_handed m_law_handed := by
  rintro ds O Z P hl ⟨cs, how, rfl, h0, h3, hcs, hq⟩
  show m_law_handed (En.mk _ _ _ _ _) [some (.lst (cs.map chD)), some (.int how), none] O
  unfold m_law_handed
  have big := big_line
  have cl := hcs.1
  walk_at "PG03 W0"
  refine w_k (fun h => ?_) fun h => ?_
  · have h := of_decide_eq_true h
    walk_at "PG03 W0"
    intro p hp
    refine lists_made O hp (Nat.le_of_ble_eq_true rfl) big (fun _ => rfl) cs [] [] _ (by simp; omega) (Ext.put hp) put_same (fun _ h => (List.not_mem_nil h).elim) .nil fun O' rs e hO hn hr => ?_
    exact w_fz (w_fz (hq _ O' (.inl ⟨h, p, rs, rfl, hO, hr⟩) e))
  have g0 := of_decide_eq_false h
  walk_at "PG03 W0"
  refine w_k (fun h => ?_) fun h => ?_
  · have h := of_decide_eq_true h
    walk_at "PG03 W0"
    intro p hp
    exact w_fz (w_fz (hq _ _ (.inr (.inl ⟨h, p, rfl, put_same⟩)) (Ext.put hp)))
  have g1 := of_decide_eq_false h
  walk_at "PG03 W0"
  refine w_k (fun h => ?_) fun h => ?_
  · have h := of_decide_eq_true h
    walk_at "PG03 W0"
    intro p hp
    refine lists_made O hp (Nat.le_of_ble_eq_true rfl) big (fun _ => rfl) cs [] [] _ (by simp; omega) (Ext.put hp) put_same (fun _ h => (List.not_mem_nil h).elim) .nil fun O' rs e hO hn hr => ?_
    refine w_fz ?_
    refine w_tupC hO ?_
    exact w_fz (hq _ O' (.inr (.inr (.inl ⟨h, rs, rfl, hr⟩))) e)
  have g2 := of_decide_eq_false h
  walk_at "PG03 W0"
  exact w_fz (hq _ O (.inr (.inr (.inr ⟨by omega, rfl⟩))) Ext.refl)
/-- lists of four items and more -/
def Long (O : Sto) (rs : List Addr) (n : Nat) : Prop := ∀ r ∈ rs, ∃ l, O r = some (.lst l) ∧ 4 ≤ l.length ∧ l.length ≤ n
theorem RowsC.long {O : Sto} : ∀ {rs : List Addr} {cs : List Ch}, RowsC O rs cs → Long O rs 5
  | _, _, .nil, r, hr => (List.not_mem_nil hr).elim
  | _, _, .cons h t, r, hr => by
    rcases List.mem_cons.mp hr with rfl | hr
    · exact ⟨_, h, by simp [chF], by simp [chF]⟩
    · exact t.long r hr
/-- the rows spoilt -/
theorem spoil_rows {nx : Gm → Sto → Prop} {P : PV} {xp : Str → List (Str × D) → Gm → Sto → Prop} {rs : List Addr} {how : Int} {g : D} (hg : ∀ O Q x i, (hi : i < rs.length) → (∀ r, rs[i]? = some r → Q (.cell r) O) → Long O rs x → fIx g (.int i) O Q) (big : 100000 ≤ sizeLine) (hl : rs.length ≤ 1000) (h : ∀ O Γ, (∃ x y, Γ = [some g, some (.int how), x, y]) → nx Γ O) :
    ∀ (n : Nat) (i : Nat) (O : Sto) (x y : Option D) (m : Nat), i + n = rs.length → Long O rs m → m + n ≤ 2000 → forL (fun _ => True) (tgName 2) (mSeq (mAsg (mOp fIx (mVar 0) (mVar 2)) (tgName 3))
    (mSeq (mAsg (mC (.str "zz")) (tgIx (mVar 3) (mC (.int 0))))
    (mSeq (mAsg (mC (.int 0)) (tgIx (mVar 3) (mC (.int 3))))
    (mDrop (mApp (mVar 3) (mCons (mC (.int 1)) mNil)))))) ⟨nx, P, fun _ _ => False, fun _ _ => False, xp⟩ (upto i n) [some g, some (.int how), x, y] O := by
  intro n
  induction n with
  | zero =>
    intro i O x y m hi hL hm
    exact w_forNil trivial (h _ _ ⟨x, y, rfl⟩)
  | succ n ih =>
    intro i O x y m hi hL hm
    refine w_forCons trivial ?_
    walk_at "PG03 W0"
    refine hg _ _ m i (by omega) (fun r hr => ?_) hL
    have hmem : r ∈ rs := List.mem_of_getElem? hr
    obtain ⟨l, e, l4, lm⟩ := hL r hmem
    walk_at "PG03 W0"
    refine w_setL e (j := 0) (by unfold ixN; rw [if_pos (by omega), if_pos (by omega)]; rfl) ?_
    walk_at "PG03 W0"
    refine w_setL put_same (j := 3) (by unfold ixN; rw [if_pos (by omega), if_pos (by simp; omega)]; rfl) ?_
    rw [put_put]
    walk_at "PG03 W0"
    refine And.intro (w_lstC put_same) ?_
    walk_at "PG03 W0"
    refine w_appD put_same (by simp; omega) ?_
    rw [put_put]
    refine ih (i + 1) _ _ _ (m + 1) (by omega) (fun r' hr' => ?_) (by omega)
    by_cases q : r' = r
    · subst q
      exact ⟨_, put_same, by simp; omega, by simp; omega⟩
    · obtain ⟨l', e', a, b⟩ := hL r' hr'
      exact ⟨l', by rw [put_ne q]; exact e', a, by omega⟩
end K03

namespace K03
open PySem L2 L3 LY
local macro_rules | `(tactic| walk_at "PH03 W0") => `(tactic| (repeat' first | with_reducible refine w_seq ?_ | with_reducible refine w_sui ?_ | with_reducible refine w_next ?_ | with_reducible refine w_brk ?_ | with_reducible refine w_cont ?_ | with_reducible refine w_ret ?_ | with_reducible refine w_retN ?_ | with_reducible refine w_drop ?_ | with_reducible refine w_if ?_ | with_reducible refine w_asg ?_ | with_reducible refine w_par ?_ | with_reducible refine w_setA ?_ | with_reducible refine w_raise ?_ | with_reducible refine w_for ?_ | with_reducible refine w_iSeq ?_ | with_reducible refine w_iR1 ?_ | with_reducible refine w_iR2 ?_ | with_reducible refine w_iVals ?_ | with_reducible refine w_itLst ?_ | with_reducible refine w_itTup ?_ | with_reducible refine w_itStr ?_ | with_reducible refine w_tgName ?_ | with_reducible refine w_tgIx ?_ | with_reducible refine w_tgCons ?_ | with_reducible refine w_tgNil ?_ | with_reducible refine w_un ?_ | with_reducible refine w_op ?_ | with_reducible refine w_B ?_ | with_reducible refine w_tru ?_ | with_reducible refine w_and ?_ | with_reducible refine w_or ?_ | with_reducible refine w_not ?_ | with_reducible refine w_andV ?_ | with_reducible refine w_orV ?_ | with_reducible refine w_notV ?_ | with_reducible refine w_ifE ?_ | with_reducible refine w_nil ?_ | with_reducible refine w_cons ?_ | with_reducible refine w_tup ?_ | with_reducible refine w_lst ?_ | with_reducible refine w_cb ?_ | with_reducible refine w_call ?_ | with_reducible refine w_slice ?_ | with_reducible refine w_oNone ?_ | with_reducible refine w_onBl ?_ | with_reducible refine w_onTruB ?_ | with_reducible refine w_kT ?_ | with_reducible refine w_kF ?_ | with_reducible refine w_fAdd ?_ | with_reducible refine w_fSub ?_ | with_reducible refine w_fNeg ?_ | with_reducible refine w_fLt ?_ | with_reducible refine w_fLe ?_ | with_reducible refine w_fGt ?_ | with_reducible refine w_fGe ?_ | with_reducible refine w_fEqI ?_ | with_reducible refine w_fNeI ?_ | with_reducible refine w_fEqB ?_ | with_reducible refine w_fEqS ?_ | with_reducible refine w_fInt ?_ | with_reducible refine w_fIntB ?_ | with_reducible refine w_fAbs ?_ | with_reducible refine w_fMax ?_ | with_reducible refine w_fMin ?_ | with_reducible refine w_fGcd ?_ | with_reducible refine w_fLenL ?_ | with_reducible refine w_fLenT ?_ | with_reducible refine w_own ?_ | with_reducible refine w_ownI ?_ | with_reducible refine w_eqOwnI ?_ | with_reducible refine w_c ?_ | with_reducible refine w_make ?_ | with_reducible refine w_makeK ?_ | with_reducible refine w_par2 ?_ | with_reducible refine w_slLst ?_ | with_reducible refine w_p10_6 ?_ | with_reducible refine w_p10_8 ?_ | with_reducible refine w_p10_18 ?_ | with_reducible refine w_p10_30 ?_ | with_reducible refine w_p10_51 ?_ | with_reducible refine w_p10_59 ?_ | with_reducible refine w_p10_60 ?_ | with_reducible refine w_p2_63 ?_ | with_reducible refine w_p2_64 ?_ | with_reducible refine w_comp ?_ | with_reducible refine w_meth ?_ | with_reducible refine w_app ?_ | with_reducible refine w_tupOf ?_ | with_reducible refine w_tupL ?_ | with_reducible refine w_tupT ?_ | with_reducible refine w_sm ?_ | with_reducible refine w_sm0 ?_ | with_reducible refine w_isStr ?_ | with_reducible refine w_find ?_ | with_reducible refine w_starts ?_ | with_reducible refine w_isascii ?_ | with_reducible refine w_isdigit ?_ | with_reducible refine w_str1S ?_ | with_reducible refine w_strO ?_ | with_reducible refine w_fmt ?_ | with_reducible refine w_join ?_ | with_reducible refine w_jsNil ?_ | with_reducible refine w_jsCons ?_ | with_reducible refine w_inS ?_ | with_reducible refine w_notInS ?_ | with_reducible refine w_statI ?_ | with_reducible refine w_fNeS ?_ | with_reducible refine w_yes ?_ | with_reducible refine w_get2 ?_ | with_reducible refine w_get1 ?_ | with_reducible refine w_prop ?_ | with_reducible refine w_put1 ?_ | with_reducible refine w_list1L ?_ | with_reducible refine w_list1T ?_ | with_reducible refine w_fIsN ?_ | with_reducible refine w_retL ?_ | with_reducible refine w_valsT ?_ | with_reducible refine w_valsK ?_ | with_reducible refine w_chain ?_ | with_reducible refine w_slTup ?_ | ((with_reducible apply w_var); exact rfl) | ((with_reducible apply w_isE); exact rfl) | ((with_reducible apply w_onTru); exact rfl) | ((with_reducible apply w_tgTup); exact rfl) | ((with_reducible refine w_fPow ?_ ?_); exact ⟨by decide, by decide, by decide⟩) | (with_reducible refine w_fMod (by decide) ?_) | ((with_reducible apply w_fIxT); exact rfl) | ((with_reducible apply w_fIxL); exact rfl) | (with_reducible refine w_oSome ?_) | ((with_reducible apply w_fIxC); (first | with_reducible exact put_same | assumption); exact rfl) | ((with_reducible apply w_fLenC); (first | with_reducible exact put_same | assumption)) | ((with_reducible apply w_setL); (first | with_reducible exact put_same | assumption); exact rfl) | ((with_reducible apply w_itC); (first | with_reducible exact put_same | assumption)) | ((with_reducible apply w_list1C); (first | with_reducible exact put_same | assumption)) | ((with_reducible apply w_tupC); (first | with_reducible exact put_same | assumption)) | ((with_reducible apply w_slC); (first | with_reducible exact put_same | assumption)) | ((with_reducible apply w_isTc); (first | with_reducible exact put_same | assumption)) | ((with_reducible refine And.intro (a := List.length _ ≤ sizeLine) ?_ ?_); exact Nat.le_of_ble_eq_true rfl) | (with_reducible refine And.intro (a := List.length _ = _) rfl ?_) | (with_reducible refine w_fld ?_) | (with_reducible refine w_isT ?_) | (with_reducible refine w_isO ?_) | ((with_reducible refine Exists.intro ?_ (And.intro (a := fldD _ _ _ _ = _) ?_ ?_)); rotate_left; first | with_reducible exact fld_st | with_reducible exact fld_fi | with_reducible exact fld_ch | with_reducible exact fld_op | exact rfl) | ((with_reducible refine Exists.intro ?_ (And.intro (a := isT _ _ _ = _) ?_ ?_)); rotate_left; exact rfl) | ((with_reducible refine Exists.intro ?_ (And.intro (a := isO _ _ _ = _) ?_ ?_)); rotate_left; exact rfl) | ((with_reducible refine Exists.intro ?_ (And.intro (a := D.int _ = D.int _) ?_ ?_)); rotate_left; exact rfl) | ((with_reducible refine w_kT' (k := T3.isInt _) ?_ ?_); exact rfl) | ((with_reducible refine w_kT' (k := !T3.isInt _) ?_ ?_); exact rfl) | ((with_reducible refine w_kF' (k := T3.isInt _) ?_ ?_); exact rfl) | ((with_reducible refine w_kF' (k := !T3.isInt _) ?_ ?_); exact rfl) | ((with_reducible refine w_kT' (k := T3.isBl _) ?_ ?_); exact rfl) | ((with_reducible refine w_kT' (k := !T3.isBl _) ?_ ?_); exact rfl) | ((with_reducible refine w_kF' (k := T3.isBl _) ?_ ?_); exact rfl) | ((with_reducible refine w_kF' (k := !T3.isBl _) ?_ ?_); exact rfl) | ((with_reducible refine w_kT' (k := T3.isStr _) ?_ ?_); exact rfl) | ((with_reducible refine w_kT' (k := !T3.isStr _) ?_ ?_); exact rfl) | ((with_reducible refine w_kF' (k := T3.isStr _) ?_ ?_); exact rfl) | ((with_reducible refine w_kF' (k := !T3.isStr _) ?_ ?_); exact rfl) | ((with_reducible refine w_kT' (k := T3.isTup _) ?_ ?_); exact rfl) | ((with_reducible refine w_kT' (k := !T3.isTup _) ?_ ?_); exact rfl) | ((with_reducible refine w_kF' (k := T3.isTup _) ?_ ?_); exact rfl) | ((with_reducible refine w_kF' (k := !T3.isTup _) ?_ ?_); exact rfl) | ((with_reducible refine w_kT' (k := T3.isLst _) ?_ ?_); exact rfl) | ((with_reducible refine w_kT' (k := !T3.isLst _) ?_ ?_); exact rfl) | ((with_reducible refine w_kF' (k := T3.isLst _) ?_ ?_); exact rfl) | ((with_reducible refine w_kF' (k := !T3.isLst _) ?_ ?_); exact rfl) | ((with_reducible refine And.intro (a := insD _ _ _ _) ?_ ?_); (first | exact ⟨rfl, rfl⟩)) | ((with_reducible refine w_kT' (k := isNonD _ != _) ?_ ?_); exact rfl) | ((with_reducible refine w_kF' (k := isNonD _ != _) ?_ ?_); exact rfl) | (with_reducible refine w_kF' (k := !true) rfl ?_) | (with_reducible refine w_kT' (k := !false) rfl ?_) | ((with_reducible refine w_kT' (k := decide _) ?_ ?_); decide +kernel) | ((with_reducible refine w_kF' (k := decide _) ?_ ?_); decide +kernel)))
theorem b_law_spoil : BodyOk ["given", "how", "k", "row"] 2 sp_law_spoil m_law_spoil := by
  rintro ds O Z P hl ⟨g, how, cs, rfl, hd, hcs, hq⟩
  show m_law_spoil (En.mk _ _ _ _ _) [some g, some (.int how), none, none] O
  unfold m_law_spoil
  have big := big_line
  have cl := hcs.1
  rcases hd with ⟨rfl, q, rs, rfl, h1, h2⟩ | ⟨rfl, q, rfl, h1⟩ | ⟨rfl, rs, rfl, h2⟩ | ⟨rfl, rfl⟩
  · have rl := h2.len
    walk_at "PH03 W0"
    refine w_rng1 (by simp; omega) ?_
    rw [List.length_map, Int.toNat_natCast]
    -- the list itself stays as it is while its rows change
    have hn : ∀ a ∈ rs, a ≠ q := by
      intro a ha e
      subst e
      have := h2.long a ha
      obtain ⟨l, e1, l4, _⟩ := this
      rw [h1] at e1
      cases e1
      clear hq
      -- a row's first item is a text, the list's items are cells
      have : ∀ {rs' : List Addr} {cs' : List Ch}, RowsC O rs' cs' → a ∈ rs' → ∃ c, O a = some (.lst (chF c)) := by
        intro rs' cs' hr
        induction hr with
        | nil => intro h; exact (List.not_mem_nil h).elim
        | @cons r rs c cs h t ih =>
          intro hm
          rcases List.mem_cons.mp hm with rfl | hm
          · exact ⟨c, h⟩
          · exact ih hm
      obtain ⟨c, e2⟩ := this h2 ha
      rw [h1] at e2
      cases rs with
      | nil => cases ha
      | cons r rs => simp [chF] at e2
    have main : ∀ (n : Nat) (i : Nat) (O : Sto) (x y : Option D) (m : Nat), i + n = rs.length → O q = some (.lst (rs.map D.cell)) → Long O rs m → m + n ≤ 2000 → forL (fun _ => True) (tgName 2) (mSeq (mAsg (mOp fIx (mVar 0) (mVar 2)) (tgName 3))
      (mSeq (mAsg (mC (.str "zz")) (tgIx (mVar 3) (mC (.int 0))))
      (mSeq (mAsg (mC (.int 0)) (tgIx (mVar 3) (mC (.int 3))))
      (mDrop (mApp (mVar 3) (mCons (mC (.int 1)) mNil)))))) ⟨mIf (mB (mOp fLt (mVar 1) (mC (.int 2)))) (mDrop (mApp (mVar 0) (mCons (mTup (mCons (mC (.str "zz")) (mCons (mC (.int 0)) (mCons (mC (.int 0)) (mCons (mC (.int 0)) (mCons (mC (.int 0)) mNil)))))) mNil))) mNext ⟨fun x O' => orFz P D.non O', P, fun x x_1 => False, fun x x_1 => False, fun C fs x O' => Z C fs O'⟩, P, fun _ _ => False, fun _ _ => False, fun C fs x O' => Z C fs O'⟩ (upto i n) [some (.cell q), some (.int 0), x, y] O := by
      intro n
      induction n with
      | zero =>
        intro i O x y m hi hO hL hm
        refine w_forNil trivial ?_
        walk_at "PH03 W0"
        refine And.intro (w_lstC hO) ?_
        walk_at "PH03 W0"
        refine w_appD hO (by simp; omega) ?_
        exact w_fz (hq _)
      | succ n ih =>
        intro i O x y m hi hO hL hm
        refine w_forCons trivial ?_
        have hlt : i < rs.length := by omega
        have hr : rs[i]? = some rs[i] := List.getElem?_eq_getElem hlt
        have hmem : rs[i] ∈ rs := List.getElem_mem hlt
        generalize rs[i] = r at hr hmem
        walk_at "PH03 W0"
        refine w_fIxC hO (atI_map2 (f := D.cell) (x := r) ?_) ?_
        · obtain ⟨z, _, a, b⟩ := atI_ex (l := rs) (i := (i : Int)) (by omega) (by omega)
          rw [Int.toNat_natCast, hr] at a
          rw [b, a]
        obtain ⟨l, e, l4, lm⟩ := hL r hmem
        have nr := hn r hmem
        walk_at "PH03 W0"
        refine w_setL e (j := 0) (by unfold ixN; rw [if_pos (by omega), if_pos (by omega)]; rfl) ?_
        walk_at "PH03 W0"
        refine w_setL put_same (j := 3) (by unfold ixN; rw [if_pos (by omega), if_pos (by simp; omega)]; rfl) ?_
        rw [put_put]
        walk_at "PH03 W0"
        refine And.intro (w_lstC put_same) ?_
        walk_at "PH03 W0"
        refine w_appD put_same (by simp; omega) ?_
        rw [put_put]
        refine ih (i + 1) _ _ _ (m + 1) (by omega) (by rw [put_ne nr.symm]; exact hO) (fun r' hr' => ?_) (by omega)
        by_cases qq : r' = r
        · subst qq
          exact ⟨_, put_same, by simp; omega, by simp; omega⟩
        · obtain ⟨l', e', a, b⟩ := hL r' hr'
          exact ⟨l', by rw [put_ne qq]; exact e', a, by omega⟩
    exact main rs.length 0 O none none 5 (by omega) h1 h2.long (by omega)
  · walk_at "PH03 W0"
    refine And.intro (w_lstC h1) ?_
    walk_at "PH03 W0"
    refine w_appD h1 (by simp; omega) ?_
    exact w_fz (hq _)
  · have rl := h2.len
    walk_at "PH03 W0"
    refine w_rng1 (by simp; omega) ?_
    rw [List.length_map, Int.toNat_natCast]
    refine spoil_rows (rs := rs) (fun O Q x i hi h _ => ?_) big (by omega) (fun O Γ ⟨x, y, e⟩ => ?_) rs.length 0 O none none 5 (by omega) h2.long (by omega)
    · have hr : rs[i]? = some rs[i] := List.getElem?_eq_getElem hi
      refine w_fIxT (atI_map2 (f := D.cell) (x := rs[i]) ?_) (h _ hr)
      obtain ⟨z, _, a, b⟩ := atI_ex (l := rs) (i := (i : Int)) (by omega) (by omega)
      rw [Int.toNat_natCast, hr] at a
      rw [b, a]
    · subst e
      walk_at "PH03 W0"
      exact w_fz (hq _)
  · walk_at "PH03 W0"
    exact w_fz (hq _)
theorem b_law_refused : BodyOk ["states", "first", "given", "good", "e"] 3 sp_law_refused m_law_refused := by
  rintro ds O Z P hl ⟨st, fi, g, cs, rfl, hg, hcs, hb, hq⟩
  show m_law_refused (En.mk _ _ _ _ _) [some (.int st), some (.int fi), some g, none, none] O
  unfold m_law_refused
  walk_at "PH03 W0"
  refine w_try ?_
  walk_at "PH03 W0"
  intro p hp
  have hg2 : Giv (put O p (.ins "PlainBook" [])) g cs := by
    obtain ⟨gs, h1, h2, h3⟩ := hg
    exact ⟨gs, seq_put h1 hp, h2, h3.imp fun d ds h => seq_put h hp⟩
  refine ⟨p, st, fi, g, cs, rfl, put_same, hg2, hcs.chs, fun h => absurd h hb, fun _ O' e => ?_⟩
  have e2 : Ext O O' := ExtB.ext hp e
  refine ⟨by decide, fun a => ?_⟩
  refine w_sui ?_
  walk_at "PH03 W0"
  exact w_fz (hq O' e2)
theorem sam_opt {O : Sto} {n : Nat} (c : Ch) : samD O (n + 2) (optD c) (optD c) := samD.tup (ts := [.int c.x, .int c.w]) (us := [.int c.x, .int c.w]) ⟨samD.int, samD.int, trivial⟩ (by simp)
theorem sam_ch {O : Sto} {n : Nat} (c : Ch) : samD O (n + 2) (chD c) (chD c) := samD.tup (ts := chF c) (us := chF c) ⟨samD.str, samD.int, samD.int, samD.int, samD.int, trivial⟩ (by simp [chF])
theorem sam_opts {O : Sto} {n : Nat} (l : List Ch) : samDs O (n + 2) (l.map optD) (l.map optD) := samDs.map (fun c => sam_opt c) l
theorem atK_len {cs : List Ch} {k : K3} : (atK cs k).length ≤ cs.length := List.length_filter_le _ _
theorem b_law_options_hold : BodyOk ["told", "choices", "key", "due", "c", "got"] 3 sp_law_options_hold m_law_options_hold := by
  rintro ds O Z P hl ⟨st, fi, cs, kvs, k, rfl, gr, hcs, hk, hq⟩
  show m_law_options_hold (En.mk _ _ _ _ _) [some (bookD st fi cs kvs), some (.lst (cs.map chD)), some (keyT k), none, none, none] O
  unfold m_law_options_hold
  have big := big_line
  have cl := hcs.1
  have al := atK_len (cs := cs) (k := k)
  walk_at "PH03 W0"
  refine comp_keyT (f := optD) (k := k) (i := 4) (j := 2) (by omega) hcs.ok hk (fun p' acc hp' => rfl) (Nat.le_of_ble_eq_true rfl) (by decide) rfl (fun c O' K1 h => ?_) fun q' hq' => ?_
  · show mTup _ _ [_, _, _, _, some (.tup [.str c.n, .int c.s, .int c.a, .int c.x, .int c.w]), _] _ _
    walk_at "PH03 W0"
    exact h
  refine w_fzLst hq' ?_
  have ek : keyT k = .tup [.str k.1, .int k.2.1, .int k.2.2] := rfl
  have eb : bookD st fi cs kvs = .obj "PlainBook" [("states", .int st), ("first", .int fi), ("choices", .tup (cs.map chD)), ("_options", .dT kvs)] := rfl
  rw [ek]
  walk_at "PH03 W0"
  walk_at "PH03 W0"
  refine ⟨st, fi, cs, kvs, k, rfl, gr, fun q hq2 => ?_⟩
  walk_at "PH03 W0"
  refine ⟨_, _, rfl, samD.lst (.inr ⟨q, rfl, put_same⟩) (.inl rfl) (sam_opts (n := 1) _) (by simp; omega), ?_⟩
  walk_at "PH03 W0"
  refine And.intro (w_lstC put_same) ?_
  walk_at "PH03 W0"
  refine w_appD put_same (by simp; omega) ?_
  walk_at "PH03 W0"
  walk_at "PH03 W0"
  refine ⟨st, fi, cs, kvs, k, rfl, gr, fun q3 hq3 => ?_⟩
  walk_at "PH03 W0"
  refine ⟨_, _, rfl, samD.lst (.inr ⟨q3, rfl, put_same⟩) (.inl rfl) (sam_opts (n := 1) _) (by simp; omega), ?_⟩
  exact w_fz (hq _ ((Ext.again (Ext.put hq2) hq2).trans (Ext.put hq3)))
theorem b_law_keeps : BodyOk ["told", "book", "keys", "states", "first", "choices", "single", "c", "d", "key"] 3 sp_law_keeps m_law_keeps := by
  rintro ds O Z P hl ⟨st, fi, cs, kvs, ks, rfl, gr, hcs, hk, hq⟩
  show m_law_keeps (En.mk _ _ _ _ _) [some (.obj "PlainBook" [("states", .int st), ("first", .int fi), ("choices", .tup (cs.map chD)), ("_options", .dT kvs)]), some (.tup [.int st, .int fi, .lst (cs.map chD)]), some (.lst (ks.map keyT)), none, none, none, none, none, none, none] O
  unfold m_law_keeps
  have big := big_line
  have cl := hcs.1
  have eb : bookD st fi cs kvs = .obj "PlainBook" [("states", .int st), ("first", .int fi), ("choices", .tup (cs.map chD)), ("_options", .dT kvs)] := rfl
  walk_at "PH03 W0"
  refine ⟨_, _, rfl, samD.tup (ts := [.int st, .int fi, .tup (cs.map chD)]) (us := [.int st, .int fi, .tup (cs.map chD)]) ⟨samD.int, samD.int, samD.tup (samDs.map (fun c => sam_ch c) cs) (by simp; omega), trivial⟩ (by simp), ?_⟩
  walk_at "PH03 W0"
  refine w_forL chD (fun r Γ O' => ∃ pre x7 x8 x9, cs = pre ++ r ∧ O' = O ∧ Γ = [some (.obj "PlainBook" [("states", .int st), ("first", .int fi), ("choices", .tup (cs.map chD)), ("_options", .dT kvs)]), some (.tup [.int st, .int fi, .lst (cs.map chD)]), some (.lst (ks.map keyT)), some (.int st), some (.int fi), some (.lst (cs.map chD)), some (.bl (pre.all fun c => decide ((atK cs c.key).length ≤ 1))), x7, x8, x9]) (fun _ _ _ ⟨_, _, _, _, _, _, _⟩ => rfl) ?_ ?_ _ _ _ ⟨[], none, none, none, rfl, rfl, rfl⟩
  · rintro c r K hK Γ O' ⟨pre, x7, x8, x9, e, rfl, rfl⟩
    have hc : c ∈ cs := by rw [e]; simp
    have cok := hcs.2 c hc
    have ge : 1 ≤ (atK cs c.key).length := List.length_pos_of_mem (atK_mem.mpr ⟨hc, rfl⟩)
    have er : ((pre ++ [c]).all fun c => decide ((atK cs c.key).length ≤ 1)) = ((pre.all fun c => decide ((atK cs c.key).length ≤ 1)) && decide (((atK cs c.key).length : Int) = 1)) := by
      rw [List.all_append]
      congr 1
      simp only [List.all_cons, List.all_nil, Bool.and_true]
      exact decide_eq_decide.mpr (by omega)
    have nx := hK [some (.obj "PlainBook" [("states", .int st), ("first", .int fi), ("choices", .tup (cs.map chD)), ("_options", .dT kvs)]), some (.tup [.int st, .int fi, .lst (cs.map chD)]), some (.lst (ks.map keyT)), some (.int st), some (.int fi), some (.lst (cs.map chD)), some (.bl ((pre.all fun c => decide ((atK cs c.key).length ≤ 1)) && decide (((atK cs c.key).length : Int) = 1))), some (chD c), x8, x9] O' ⟨pre ++ [c], _, _, _, by rw [e]; simp, rfl, by rw [er]⟩
    generalize (pre.all fun c => decide ((atK cs c.key).length ≤ 1)) = sg at *
    walk_at "PH03 W0"
    refine w_k (fun h => ?_) fun h => ?_
    · subst h
      walk_at "PH03 W0"
      refine comp_key (i := 8) (j := 7) (by omega) hcs.ok cok.ok (fun _ _ _ => rfl) (Nat.le_of_ble_eq_true rfl) (by decide) rfl fun q' hq'' => ?_
      refine w_fzLst hq'' ?_
      walk_at "PH03 W0"
      rw [List.length_map]
      exact nx
    · subst h
      exact nx
  · rintro Γ O' ⟨pre, x7, x8, x9, e, rfl, rfl⟩
    rw [List.append_nil] at e
    subst e
    walk_at "PH03 W0"
    refine And.intro rfl ?_
    refine ⟨st, fi, cs, kvs, by rw [eb], gr, ?_⟩
    walk_at "PH03 W0"
    refine ⟨_, _, rfl, samD.bl, ?_⟩
    walk_at "PH03 W0"
    refine w_forL keyT (fun r Γ O2 => ∃ x9, (∀ k ∈ r, k ∈ ks) ∧ Ext O' O2 ∧ Γ = [some (.obj "PlainBook" [("states", .int st), ("first", .int fi), ("choices", .tup (cs.map chD)), ("_options", .dT kvs)]), some (.tup [.int st, .int fi, .lst (cs.map chD)]), some (.lst (ks.map keyT)), some (.int st), some (.int fi), some (.lst (cs.map chD)), some (.bl (detB cs)), x7, x8, x9]) (fun _ _ _ _ => rfl) ?_ ?_ _ _ _ ⟨_, fun _ h => h, Ext.refl, rfl⟩
    · rintro k r K hK Γ O2 ⟨x9, hr, e2, rfl⟩
      walk_at "PH03 W0"
      refine ⟨st, fi, cs, kvs, k, by rw [eb], gr, hcs, hk k (hr k List.mem_cons_self), fun O3 e3 => ?_⟩
      walk_at "PH03 W0"
      exact hK _ _ ⟨_, fun k' h' => hr k' (List.mem_cons_of_mem _ h'), e2.trans e3, rfl⟩
    · rintro Γ O2 ⟨x9, _, e2, rfl⟩
      walk_at "PH03 W0"
      exact w_fz (hq _ e2)
end K03

namespace K03
open PySem L2 L3 LY
theorem exists_grp (cs : List Ch) : ∃ kvs, Grp kvs cs := by
  have main : ∀ (r pre : List Ch) kvs, Grp kvs pre → ∃ kvs, Grp kvs (pre ++ r) := by
    intro r
    induction r with
    | nil => intro pre kvs g; exact ⟨kvs, by simpa using g⟩
    | cons c r ih => intro pre kvs g; simpa using ih (pre ++ [c]) _ (g.snoc c)
  exact main cs [] [] Grp.nil
open Classical in
local macro_rules | `(tactic| walk_at "PZ03 W0") => `(tactic| (repeat' first | with_reducible refine w_seq ?_ | with_reducible refine w_sui ?_ | with_reducible refine w_next ?_ | with_reducible refine w_brk ?_ | with_reducible refine w_cont ?_ | with_reducible refine w_ret ?_ | with_reducible refine w_retN ?_ | with_reducible refine w_drop ?_ | with_reducible refine w_if ?_ | with_reducible refine w_asg ?_ | with_reducible refine w_par ?_ | with_reducible refine w_setA ?_ | with_reducible refine w_raise ?_ | with_reducible refine w_for ?_ | with_reducible refine w_iSeq ?_ | with_reducible refine w_iR1 ?_ | with_reducible refine w_iR2 ?_ | with_reducible refine w_iVals ?_ | with_reducible refine w_itLst ?_ | with_reducible refine w_itTup ?_ | with_reducible refine w_itStr ?_ | with_reducible refine w_tgName ?_ | with_reducible refine w_tgIx ?_ | with_reducible refine w_tgCons ?_ | with_reducible refine w_tgNil ?_ | with_reducible refine w_un ?_ | with_reducible refine w_op ?_ | with_reducible refine w_B ?_ | with_reducible refine w_tru ?_ | with_reducible refine w_and ?_ | with_reducible refine w_or ?_ | with_reducible refine w_not ?_ | with_reducible refine w_andV ?_ | with_reducible refine w_orV ?_ | with_reducible refine w_notV ?_ | with_reducible refine w_ifE ?_ | with_reducible refine w_nil ?_ | with_reducible refine w_cons ?_ | with_reducible refine w_tup ?_ | with_reducible refine w_lst ?_ | with_reducible refine w_cb ?_ | with_reducible refine w_call ?_ | with_reducible refine w_slice ?_ | with_reducible refine w_oNone ?_ | with_reducible refine w_onBl ?_ | with_reducible refine w_onTruB ?_ | with_reducible refine w_kT ?_ | with_reducible refine w_kF ?_ | with_reducible refine w_fAdd ?_ | with_reducible refine w_fSub ?_ | with_reducible refine w_fNeg ?_ | with_reducible refine w_fLt ?_ | with_reducible refine w_fLe ?_ | with_reducible refine w_fGt ?_ | with_reducible refine w_fGe ?_ | with_reducible refine w_fEqI ?_ | with_reducible refine w_fNeI ?_ | with_reducible refine w_fEqB ?_ | with_reducible refine w_fEqS ?_ | with_reducible refine w_fInt ?_ | with_reducible refine w_fIntB ?_ | with_reducible refine w_fAbs ?_ | with_reducible refine w_fMax ?_ | with_reducible refine w_fMin ?_ | with_reducible refine w_fGcd ?_ | with_reducible refine w_fLenL ?_ | with_reducible refine w_fLenT ?_ | with_reducible refine w_own ?_ | with_reducible refine w_ownI ?_ | with_reducible refine w_eqOwnI ?_ | with_reducible refine w_c ?_ | with_reducible refine w_make ?_ | with_reducible refine w_makeK ?_ | with_reducible refine w_par2 ?_ | with_reducible refine w_slLst ?_ | with_reducible refine w_p10_6 ?_ | with_reducible refine w_p10_8 ?_ | with_reducible refine w_p10_18 ?_ | with_reducible refine w_p10_30 ?_ | with_reducible refine w_p10_51 ?_ | with_reducible refine w_p10_59 ?_ | with_reducible refine w_p10_60 ?_ | with_reducible refine w_p2_63 ?_ | with_reducible refine w_p2_64 ?_ | with_reducible refine w_comp ?_ | with_reducible refine w_meth ?_ | with_reducible refine w_app ?_ | with_reducible refine w_tupOf ?_ | with_reducible refine w_tupL ?_ | with_reducible refine w_tupT ?_ | with_reducible refine w_sm ?_ | with_reducible refine w_sm0 ?_ | with_reducible refine w_isStr ?_ | with_reducible refine w_find ?_ | with_reducible refine w_starts ?_ | with_reducible refine w_isascii ?_ | with_reducible refine w_isdigit ?_ | with_reducible refine w_str1S ?_ | with_reducible refine w_strO ?_ | with_reducible refine w_fmt ?_ | with_reducible refine w_join ?_ | with_reducible refine w_jsNil ?_ | with_reducible refine w_jsCons ?_ | with_reducible refine w_inS ?_ | with_reducible refine w_notInS ?_ | with_reducible refine w_statI ?_ | with_reducible refine w_fNeS ?_ | with_reducible refine w_yes ?_ | with_reducible refine w_get2 ?_ | with_reducible refine w_get1 ?_ | with_reducible refine w_prop ?_ | with_reducible refine w_put1 ?_ | with_reducible refine w_list1L ?_ | with_reducible refine w_list1T ?_ | with_reducible refine w_fIsN ?_ | with_reducible refine w_retL ?_ | with_reducible refine w_valsT ?_ | with_reducible refine w_valsK ?_ | with_reducible refine w_chain ?_ | with_reducible refine w_slTup ?_ | ((with_reducible apply w_var); exact rfl) | ((with_reducible apply w_isE); exact rfl) | ((with_reducible apply w_onTru); exact rfl) | ((with_reducible apply w_tgTup); exact rfl) | ((with_reducible refine w_fPow ?_ ?_); exact ⟨by decide, by decide, by decide⟩) | (with_reducible refine w_fMod (by decide) ?_) | ((with_reducible apply w_fIxT); exact rfl) | ((with_reducible apply w_fIxL); exact rfl) | (with_reducible refine w_oSome ?_) | ((with_reducible apply w_fIxC); (first | with_reducible exact put_same | assumption); exact rfl) | ((with_reducible apply w_fLenC); (first | with_reducible exact put_same | assumption)) | ((with_reducible apply w_setL); (first | with_reducible exact put_same | assumption); exact rfl) | ((with_reducible apply w_itC); (first | with_reducible exact put_same | assumption)) | ((with_reducible apply w_list1C); (first | with_reducible exact put_same | assumption)) | ((with_reducible apply w_tupC); (first | with_reducible exact put_same | assumption)) | ((with_reducible apply w_slC); (first | with_reducible exact put_same | assumption)) | ((with_reducible apply w_isTc); (first | with_reducible exact put_same | assumption)) | ((with_reducible refine And.intro (a := List.length _ ≤ sizeLine) ?_ ?_); exact Nat.le_of_ble_eq_true rfl) | (with_reducible refine And.intro (a := List.length _ = _) rfl ?_) | (with_reducible refine w_fld ?_) | (with_reducible refine w_isT ?_) | (with_reducible refine w_isO ?_) | ((with_reducible refine Exists.intro ?_ (And.intro (a := fldD _ _ _ _ = _) ?_ ?_)); rotate_left; first | exact rfl) | ((with_reducible refine Exists.intro ?_ (And.intro (a := isT _ _ _ = _) ?_ ?_)); rotate_left; exact rfl) | ((with_reducible refine Exists.intro ?_ (And.intro (a := isO _ _ _ = _) ?_ ?_)); rotate_left; exact rfl) | ((with_reducible refine Exists.intro ?_ (And.intro (a := D.int _ = D.int _) ?_ ?_)); rotate_left; exact rfl) | ((with_reducible refine w_kT' (k := T3.isInt _) ?_ ?_); exact rfl) | ((with_reducible refine w_kT' (k := !T3.isInt _) ?_ ?_); exact rfl) | ((with_reducible refine w_kF' (k := T3.isInt _) ?_ ?_); exact rfl) | ((with_reducible refine w_kF' (k := !T3.isInt _) ?_ ?_); exact rfl) | ((with_reducible refine w_kT' (k := T3.isBl _) ?_ ?_); exact rfl) | ((with_reducible refine w_kT' (k := !T3.isBl _) ?_ ?_); exact rfl) | ((with_reducible refine w_kF' (k := T3.isBl _) ?_ ?_); exact rfl) | ((with_reducible refine w_kF' (k := !T3.isBl _) ?_ ?_); exact rfl) | ((with_reducible refine w_kT' (k := T3.isStr _) ?_ ?_); exact rfl) | ((with_reducible refine w_kT' (k := !T3.isStr _) ?_ ?_); exact rfl) | ((with_reducible refine w_kF' (k := T3.isStr _) ?_ ?_); exact rfl) | ((with_reducible refine w_kF' (k := !T3.isStr _) ?_ ?_); exact rfl) | ((with_reducible refine w_kT' (k := T3.isTup _) ?_ ?_); exact rfl) | ((with_reducible refine w_kT' (k := !T3.isTup _) ?_ ?_); exact rfl) | ((with_reducible refine w_kF' (k := T3.isTup _) ?_ ?_); exact rfl) | ((with_reducible refine w_kF' (k := !T3.isTup _) ?_ ?_); exact rfl) | ((with_reducible refine w_kT' (k := T3.isLst _) ?_ ?_); exact rfl) | ((with_reducible refine w_kT' (k := !T3.isLst _) ?_ ?_); exact rfl) | ((with_reducible refine w_kF' (k := T3.isLst _) ?_ ?_); exact rfl) | ((with_reducible refine w_kF' (k := !T3.isLst _) ?_ ?_); exact rfl) | ((with_reducible refine And.intro (a := insD _ _ _ _) ?_ ?_); (first | exact ⟨rfl, rfl⟩)) | ((with_reducible refine w_kT' (k := isNonD _ != _) ?_ ?_); exact rfl) | ((with_reducible refine w_kF' (k := isNonD _ != _) ?_ ?_); exact rfl) | (with_reducible refine w_kF' (k := !true) rfl ?_) | (with_reducible refine w_kT' (k := !false) rfl ?_) | ((with_reducible refine w_kT' (k := decide _) ?_ ?_); decide +kernel) | ((with_reducible refine w_kF' (k := decide _) ?_ ?_); decide +kernel)))
theorem b_law_book_holds : BodyOk ["book", "how", "states", "first", "choices", "given", "told", "c"] 2 sp_law_book_holds m_law_book_holds := by
  rintro ds O Z P hl ⟨st, fi, cs, how, rfl, h0, h3, hcs, hq⟩
  show m_law_book_holds (En.mk _ _ _ _ _) [some (.tup [.int st, .int fi, .lst (cs.map chD)]), some (.int how), none, none, none, none, none, none] O
  unfold m_law_book_holds
  have big := big_line
  have cl := hcs.1
  walk_at "PZ03 W0"
  refine ⟨cs, how, rfl, h0, h3, hcs, fun g O1 hd1 e1 => ?_⟩
  walk_at "PZ03 W0"
  refine ⟨st, fi, cs, rfl, hcs, ?_⟩
  by_cases hb : goodB st fi cs
  · rw [dT hb]
    walk_at "PZ03 W0"
    intro p hp
    have hg2 : Giv (put O1 p (.ins "PlainBook" [])) g cs := by
      obtain ⟨gs, h1, h2, h3⟩ := hd1.giv
      exact ⟨gs, seq_put h1 hp, h2, h3.imp fun d ds h => seq_put h hp⟩
    refine ⟨p, st, fi, g, cs, rfl, put_same, hg2, hcs.chs, fun _ kvs gr => ?_, fun h => absurd hb h⟩
    refine And.intro rfl ?_
    rw [put_put]
    refine w_fzObj hp ?_
    walk_at "PZ03 W0"
    refine ⟨cs, how, rfl, h0, h3, hcs, fun g2 O2 hd2 e2 => ?_⟩
    walk_at "PZ03 W0"
    refine w_neHd (hd1.ext e2) hd2 hcs.ok ?_
    walk_at "PZ03 W0"
    refine ⟨cs, rfl, hcs, fun ks hks => ?_⟩
    walk_at "PZ03 W0"
    refine ⟨st, fi, cs, kvs, ks, rfl, gr, hcs, hks, fun O3 e3 => ?_⟩
    walk_at "PZ03 W0"
    refine ⟨g, how, cs, rfl, hd1.ext (e2.trans e3), hcs, fun O4 => ?_⟩
    walk_at "PZ03 W0"
    refine w_lcG chD (fun _ => true) (fun c => keyT c.key) (by omega) (fun p acc hp => rfl) (fun c hc p acc hp K1 K0 k1 _ => ?_) fun q hq' => ?_
    · refine w_put1 ?_
      show mYes _ [_, _, _, _, _, _, _, some (.tup [.str c.n, .int c.s, .int c.a, .int c.x, .int c.w])] _ _
      walk_at "PZ03 W0"
      refine w_slTup ?_
      exact k1 rfl
    have ef : (cs.filter fun _ => true).map (fun c => keyT c.key) = (cs.map Ch.key).map keyT := by
      have : (cs.filter fun _ => true) = cs := by simp
      rw [this]
      simp [Function.comp_def]
    rw [ef]
    refine w_fzLst hq' ?_
    walk_at "PZ03 W0"
    refine ⟨st, fi, cs, kvs, _, rfl, gr, hcs, fun k hk => ?_, fun O5 e5 => ?_⟩
    · obtain ⟨c, hc, rfl⟩ := List.mem_map.mp hk
      exact hcs.ok c hc
    · exact w_fz (hq _)
  · rw [dF hb]
    walk_at "PZ03 W0"
    refine ⟨st, fi, g, cs, rfl, hd1.giv, hcs, hb, fun O2 e2 => ?_⟩
    walk_at "PZ03 W0"
    refine ⟨cs, how, rfl, h0, h3, hcs, fun g2 O3 hd3 e3 => ?_⟩
    walk_at "PZ03 W0"
    refine w_eqHd (hd1.ext (e2.trans e3)) hd3 hcs.ok ?_
    exact w_fz (hq _)
theorem b_law : BodyOk ["script", "book", "pool", "bent", "how"] 1 sp_law m_law := by
  rintro ds O Z P hl ⟨ns, rfl, hq⟩
  show m_law (En.mk _ _ _ _ _) [some (.lst (ns.map D.int)), none, none, none, none] O
  unfold m_law
  walk_at "PZ03 W0"
  refine ⟨ns, 0, rfl, fun p1 _ _ _ _ hp1 => ?_⟩
  walk_at "PZ03 W0"
  refine ⟨p1, rfl, ⟨_, _, _, _, put_same⟩, fun st fi cs O1 s1 s2 hcs u1 => ?_⟩
  walk_at "PZ03 W0"
  refine ⟨ns, 1, rfl, fun p2 _ _ _ _ hp2 => ?_⟩
  walk_at "PZ03 W0"
  refine ⟨p2, st, fi, cs, rfl, ⟨_, _, _, _, put_same⟩, hcs, fun st' fi' cs' O2 hw u2 => ?_⟩
  walk_at "PZ03 W0"
  refine w_drw2 u2.pool (by omega) (by omega) fun how O3 h0 h1 u3 => ?_
  walk_at "PZ03 W0"
  refine ⟨st', fi', cs', how, rfl, by omega, by omega, hw, fun O4 => ?_⟩
  walk_at "PZ03 W0"
  refine ⟨st, fi, cs, 3 - how, rfl, by omega, by omega, hcs.w (by decide), fun O5 => ?_⟩
  walk_at "PZ03 W0"
  refine ⟨st', fi', cs', rfl, hw, ?_⟩
  walk_at "PZ03 W0"
  refine w_k (fun h => ?_) fun h => ?_
  · exact w_fz (hq _)
  · walk_at "PZ03 W0"
    refine ⟨st', fi', cs', _, rfl, by omega, by omega, hw, fun O6 => ?_⟩
    exact w_fz (hq _)
end K03

namespace K03
open PySem PySem.Spec PyProof.Rows L2 L3 LY
def freeN : List Str := ["ValueError", "abs", "bool", "int", "isinstance", "len", "list", "max", "min", "range", "str", "tuple"]
def ci_is_name : CI := { N := ["word", "character"], sc := defScope s_is_name, tab := LY.t_tab, ocl := ["PlainBook"], exs := t_exs, exr := ["BadBook"], free := freeN, cst := [("DIGITS", (.str "0123456789")), ("LETTERS", (.str "abcdefghijklmnopqrstuvwxyz")), ("MOST_NAME_CHARACTERS", (.int 20))] }
theorem sc_is_name : FnScope ci_is_name.N ["word"] (defScope s_is_name) := ⟨rfl, rfl, rfl, by decide +kernel, rfl, by decide +kernel, by decide +kernel⟩
theorem c_is_name : (comp 80 ci_is_name).Ss (defBody s_is_name) = some m_is_name := by kernel_rfl
def ci_check_choice : CI := { N := ["choice", "states", "deed", "state", "argument", "following", "answer"], sc := defScope s_check_choice, tab := LY.t_tab, ocl := ["PlainBook"], exs := t_exs, exr := ["BadBook"], free := freeN, fns := [("is_name", 1, sp_is_name)], cst := [("VALUE_LIMIT", (.int 8))] }
theorem sc_check_choice : FnScope ci_check_choice.N ["choice", "states"] (defScope s_check_choice) := ⟨rfl, rfl, rfl, by decide +kernel, rfl, by decide +kernel, by decide +kernel⟩
theorem c_check_choice : (comp 80 ci_check_choice).Ss (defBody s_check_choice) = some m_check_choice := by kernel_rfl
def ci_grouped_options : CI := { N := ["choices", "grouped", "deed", "state", "argument", "following", "answer", "key", "options"], sc := defScope s_grouped_options, tab := LY.t_tab, ocl := ["PlainBook"], exs := t_exs, exr := ["BadBook"], free := freeN, cst := [("MOST_OPTIONS", (.int 4))], lk := true }
theorem sc_grouped_options : FnScope ci_grouped_options.N ["choices"] (defScope s_grouped_options) := ⟨rfl, rfl, rfl, by decide +kernel, rfl, by decide +kernel, by decide +kernel⟩
theorem c_grouped_options : (comp 80 ci_grouped_options).Ss (defBody s_grouped_options) = some m_grouped_options := by kernel_rfl
def ci_PlainBook_init : CI := { N := ["self", "states", "first", "choices", "choice"], sc := defScope s_PlainBook_init, tab := LY.t_tab, ocl := ["PlainBook"], exs := t_exs, exr := ["BadBook"], free := freeN, fns := [("grouped_options", 1, sp_grouped_options), ("check_choice", 2, sp_check_choice)], cst := [("MOST_STATES", (.int 600))] }
theorem sc_PlainBook_init : FnScope ci_PlainBook_init.N ["self", "states", "first", "choices"] (defScope s_PlainBook_init) := ⟨rfl, rfl, rfl, by decide +kernel, rfl, by decide +kernel, by decide +kernel⟩
theorem c_PlainBook_init : (comp 80 ci_PlainBook_init).Ss (defBody s_PlainBook_init) = some m_PlainBook_init := by kernel_rfl
def ci_PlainBook_options : CI := { N := ["self", "deed", "state", "argument"], sc := defScope s_PlainBook_options, tab := LY.t_tab, ocl := ["PlainBook"], exs := t_exs, exr := ["BadBook"], free := freeN }
theorem sc_PlainBook_options : FnScope ci_PlainBook_options.N ["self", "deed", "state", "argument"] (defScope s_PlainBook_options) := ⟨rfl, rfl, rfl, by decide +kernel, rfl, by decide +kernel, by decide +kernel⟩
theorem c_PlainBook_options : (comp 80 ci_PlainBook_options).Ss (defBody s_PlainBook_options) = some m_PlainBook_options := by kernel_rfl
def ci_PlainBook_deterministic : CI := { N := ["self", "options"], sc := defScope s_PlainBook_deterministic, tab := LY.t_tab, ocl := ["PlainBook"], exs := t_exs, exr := ["BadBook"], free := freeN }
theorem sc_PlainBook_deterministic : FnScope ci_PlainBook_deterministic.N ["self"] (defScope s_PlainBook_deterministic) := ⟨rfl, rfl, rfl, by decide +kernel, rfl, by decide +kernel, by decide +kernel⟩
theorem c_PlainBook_deterministic : (comp 80 ci_PlainBook_deterministic).Ss (defBody s_PlainBook_deterministic) = some m_PlainBook_deterministic := by kernel_rfl
def ci_law_int : CI := { N := ["x"], sc := defScope s_law_int, tab := LY.t_tab, ocl := ["PlainBook"], exs := t_exs, exr := ["BadBook"], free := freeN }
theorem sc_law_int : FnScope ci_law_int.N ["x"] (defScope s_law_int) := ⟨rfl, rfl, rfl, by decide +kernel, rfl, by decide +kernel, by decide +kernel⟩
theorem c_law_int : (comp 80 ci_law_int).Ss (defBody s_law_int) = some m_law_int := by kernel_rfl
def ci_law_pool : CI := { N := ["script", "at", "cell", "kind"], sc := defScope s_law_pool, tab := LY.t_tab, ocl := ["PlainBook"], exs := t_exs, exr := ["BadBook"], free := freeN }
theorem sc_law_pool : FnScope ci_law_pool.N ["script", "at"] (defScope s_law_pool) := ⟨rfl, rfl, rfl, by decide +kernel, rfl, by decide +kernel, by decide +kernel⟩
theorem c_law_pool : (comp 80 ci_law_pool).Ss (defBody s_law_pool) = some m_law_pool := by kernel_rfl
def ci_law_stirred : CI := { N := ["script", "at", "pool", "cell"], sc := defScope s_law_stirred, tab := LY.t_tab, ocl := ["PlainBook"], exs := t_exs, exr := ["BadBook"], free := freeN, fns := [("_law_pool", 2, sp_law_pool)] }
theorem sc_law_stirred : FnScope ci_law_stirred.N ["script", "at"] (defScope s_law_stirred) := ⟨rfl, rfl, rfl, by decide +kernel, rfl, by decide +kernel, by decide +kernel⟩
theorem c_law_stirred : (comp 80 ci_law_stirred).Ss (defBody s_law_stirred) = some m_law_stirred := by kernel_rfl
def ci_law_draw : CI := { N := ["pool", "many", "got", "x"], sc := defScope s_law_draw, tab := LY.t_tab, ocl := ["PlainBook"], exs := t_exs, exr := ["BadBook"], free := freeN }
theorem sc_law_draw : FnScope ci_law_draw.N ["pool", "many"] (defScope s_law_draw) := ⟨rfl, rfl, rfl, by decide +kernel, rfl, by decide +kernel, by decide +kernel⟩
theorem c_law_draw : (comp 80 ci_law_draw).Ss (defBody s_law_draw) = some m_law_draw := by kernel_rfl
def ci_law_same (S : FSpec) : CI := { N := ["told", "due", "k"], sc := defScope s_law_same, tab := LY.t_tab, ocl := ["PlainBook"], exs := t_exs, exr := ["BadBook"], free := freeN, fns := [("_law_same", 2, S), ("_law_int", 1, sp_law_int)] }
theorem sc_law_same : FnScope ["told", "due", "k"] ["told", "due"] (defScope s_law_same) := ⟨rfl, rfl, rfl, by decide +kernel, rfl, by decide +kernel, by decide +kernel⟩
theorem c_law_same (S : FSpec) : (comp 80 (ci_law_same S)).Ss (defBody s_law_same) = some (m_law_same S) := by kernel_rfl
def ci_law_name : CI := { N := ["pool", "signs", "size", "name", "k"], sc := defScope s_law_name, tab := t_tab, ocl := ["PlainBook"], exs := t_exs, exr := ["BadBook"], free := freeN, fns := [("_law_draw", 2, sp_law_draw)] }
theorem sc_law_name : FnScope ci_law_name.N ["pool"] (defScope s_law_name) := ⟨rfl, rfl, rfl, by decide +kernel, rfl, by decide +kernel, by decide +kernel⟩
theorem c_law_name : (comp 80 ci_law_name).Ss (defBody s_law_name) = some m_law_name := by kernel_rfl
def ci_law_names : CI := { N := ["pool", "names", "k", "name", "at"], sc := defScope s_law_names, tab := t_tab, ocl := ["PlainBook"], exs := t_exs, exr := ["BadBook"], free := freeN, fns := [("_law_draw", 2, sp_law_draw), ("_law_name", 1, sp_law_name)] }
theorem sc_law_names : FnScope ci_law_names.N ["pool"] (defScope s_law_names) := ⟨rfl, rfl, rfl, by decide +kernel, rfl, by decide +kernel, by decide +kernel⟩
theorem c_law_names : (comp 80 ci_law_names).Ss (defBody s_law_names) = some m_law_names := by kernel_rfl
def ci_law_odd_name : CI := { N := ["pool", "name", "at", "signs", "sign", "size", "odd"], sc := defScope s_law_odd_name, tab := t_tab, ocl := ["PlainBook"], exs := t_exs, exr := ["BadBook"], free := freeN, fns := [("_law_draw", 2, sp_law_draw)] }
theorem sc_law_odd_name : FnScope ci_law_odd_name.N ["pool", "name"] (defScope s_law_odd_name) := ⟨rfl, rfl, rfl, by decide +kernel, rfl, by decide +kernel, by decide +kernel⟩
theorem c_law_odd_name : (comp 80 ci_law_odd_name).Ss (defBody s_law_odd_name) = some m_law_odd_name := by kernel_rfl
def ci_law_is_name : CI := { N := ["word", "sign"], sc := defScope s_law_is_name, tab := t_tab, ocl := ["PlainBook"], exs := t_exs, exr := ["BadBook"], free := freeN }
theorem sc_law_is_name : FnScope ci_law_is_name.N ["word"] (defScope s_law_is_name) := ⟨rfl, rfl, rfl, by decide +kernel, rfl, by decide +kernel, by decide +kernel⟩
theorem c_law_is_name : (comp 80 ci_law_is_name).Ss (defBody s_law_is_name) = some m_law_is_name := by kernel_rfl
def ci_law_book : CI := { N := ["pool", "names", "states", "spread", "near", "tame", "first", "choices", "k", "home", "name", "choice", "alike", "c"], sc := defScope s_law_book, tab := t_tab, ocl := ["PlainBook"], exs := t_exs, exr := ["BadBook"], free := freeN, fns := [("_law_draw", 2, sp_law_draw), ("_law_names", 1, sp_law_names)] }
theorem sc_law_book : FnScope ci_law_book.N ["pool"] (defScope s_law_book) := ⟨rfl, rfl, rfl, by decide +kernel, rfl, by decide +kernel, by decide +kernel⟩
theorem c_law_book : (comp 80 ci_law_book).Ss (defBody s_law_book) = some m_law_book := by kernel_rfl
def ci_law_more_options : CI := { N := ["pool", "states", "choices", "at", "key", "many", "k", "choice", "alike", "c"], sc := defScope s_law_more_options, tab := t_tab, ocl := ["PlainBook"], exs := t_exs, exr := ["BadBook"], free := freeN, fns := [("_law_draw", 2, sp_law_draw)] }
theorem sc_law_more_options : FnScope ci_law_more_options.N ["pool", "states", "choices", "at"] (defScope s_law_more_options) := ⟨rfl, rfl, rfl, by decide +kernel, rfl, by decide +kernel, by decide +kernel⟩
theorem c_law_more_options : (comp 80 ci_law_more_options).Ss (defBody s_law_more_options) = some m_law_more_options := by kernel_rfl
def ci_law_bent : CI := { N := ["pool", "book", "states", "first", "choices", "way", "far", "at", "choice", "place", "bound", "value", "to"], sc := defScope s_law_bent, tab := t_tab, ocl := ["PlainBook"], exs := t_exs, exr := ["BadBook"], free := freeN, fns := [("_law_draw", 2, sp_law_draw), ("_law_odd_name", 2, sp_law_odd_name), ("_law_more_options", 4, sp_law_more_options)] }
theorem sc_law_bent : FnScope ci_law_bent.N ["pool", "book"] (defScope s_law_bent) := ⟨rfl, rfl, rfl, by decide +kernel, rfl, by decide +kernel, by decide +kernel⟩
theorem c_law_bent : (comp 80 ci_law_bent).Ss (defBody s_law_bent) = some m_law_bent := by kernel_rfl
def ci_law_is_book : CI := { N := ["book", "states", "first", "choices", "c", "d"], sc := defScope s_law_is_book, tab := t_tab, ocl := ["PlainBook"], exs := t_exs, exr := ["BadBook"], free := freeN, fns := [("_law_is_name", 1, sp_law_is_name)] }
theorem sc_law_is_book : FnScope ci_law_is_book.N ["book"] (defScope s_law_is_book) := ⟨rfl, rfl, rfl, by decide +kernel, rfl, by decide +kernel, by decide +kernel⟩
theorem c_law_is_book : (comp 80 ci_law_is_book).Ss (defBody s_law_is_book) = some m_law_is_book := by kernel_rfl
def ci_law_handed : CI := { N := ["choices", "how", "choice"], sc := defScope s_law_handed, tab := t_tab, ocl := ["PlainBook"], exs := t_exs, exr := ["BadBook"], free := freeN }
theorem sc_law_handed : FnScope ci_law_handed.N ["choices", "how"] (defScope s_law_handed) := ⟨rfl, rfl, rfl, by decide +kernel, rfl, by decide +kernel, by decide +kernel⟩
theorem c_law_handed : (comp 80 ci_law_handed).Ss (defBody s_law_handed) = some m_law_handed := by kernel_rfl
def ci_law_spoil : CI := { N := ["given", "how", "k", "row"], sc := defScope s_law_spoil, tab := t_tab, ocl := ["PlainBook"], exs := t_exs, exr := ["BadBook"], free := freeN }
theorem sc_law_spoil : FnScope ci_law_spoil.N ["given", "how"] (defScope s_law_spoil) := ⟨rfl, rfl, rfl, by decide +kernel, rfl, by decide +kernel, by decide +kernel⟩
theorem c_law_spoil : (comp 80 ci_law_spoil).Ss (defBody s_law_spoil) = some m_law_spoil := by kernel_rfl
def ci_law_refused : CI := { N := ["states", "first", "given", "good", "e"], sc := defScope s_law_refused, tab := t_tab, ocl := ["PlainBook"], exs := t_exs, exr := ["BadBook"], free := freeN, mks := [("PlainBook", 3, sp_PlainBook_init, [])] }
theorem sc_law_refused : FnScope ci_law_refused.N ["states", "first", "given"] (defScope s_law_refused) := ⟨rfl, rfl, rfl, by decide +kernel, rfl, by decide +kernel, by decide +kernel⟩
theorem c_law_refused : (comp 80 ci_law_refused).Ss (defBody s_law_refused) = some m_law_refused := by kernel_rfl
def ci_law_options_hold : CI := { N := ["told", "choices", "key", "due", "c", "got"], sc := defScope s_law_options_hold, tab := t_tab, ocl := ["PlainBook"], exs := t_exs, exr := ["BadBook"], free := freeN, fns := [("_law_same", 2, (sp_law_same 4))], mth := [("options", "PlainBook", 3, sp_PlainBook_options)] }
theorem sc_law_options_hold : FnScope ci_law_options_hold.N ["told", "choices", "key"] (defScope s_law_options_hold) := ⟨rfl, rfl, rfl, by decide +kernel, rfl, by decide +kernel, by decide +kernel⟩
theorem c_law_options_hold : (comp 80 ci_law_options_hold).Ss (defBody s_law_options_hold) = some m_law_options_hold := by kernel_rfl
def ci_law_keeps : CI := { N := ["told", "book", "keys", "states", "first", "choices", "single", "c", "d", "key"], sc := defScope s_law_keeps, tab := t_tab, ocl := ["PlainBook"], exs := t_exs, exr := ["BadBook"], free := freeN, fns := [("_law_options_hold", 3, sp_law_options_hold), ("_law_same", 2, (sp_law_same 4))], prp := [("deterministic", "PlainBook", sp_PlainBook_deterministic)] }
theorem sc_law_keeps : FnScope ci_law_keeps.N ["told", "book", "keys"] (defScope s_law_keeps) := ⟨rfl, rfl, rfl, by decide +kernel, rfl, by decide +kernel, by decide +kernel⟩
theorem c_law_keeps : (comp 80 ci_law_keeps).Ss (defBody s_law_keeps) = some m_law_keeps := by kernel_rfl
def ci_law_keys : CI := { N := ["choices", "strange", "c", "keys"], sc := defScope s_law_keys, tab := t_tab, ocl := ["PlainBook"], exs := t_exs, exr := ["BadBook"], free := freeN }
theorem sc_law_keys : FnScope ci_law_keys.N ["choices"] (defScope s_law_keys) := ⟨rfl, rfl, rfl, by decide +kernel, rfl, by decide +kernel, by decide +kernel⟩
theorem c_law_keys : (comp 80 ci_law_keys).Ss (defBody s_law_keys) = some m_law_keys := by kernel_rfl
def ci_law_book_holds : CI := { N := ["book", "how", "states", "first", "choices", "given", "told", "c"], sc := defScope s_law_book_holds, tab := t_tab, ocl := ["PlainBook"], exs := t_exs, exr := ["BadBook"], free := freeN, fns := [("_law_keeps", 3, sp_law_keeps), ("_law_spoil", 2, sp_law_spoil), ("_law_keys", 1, sp_law_keys), ("_law_handed", 2, sp_law_handed), ("_law_is_book", 1, sp_law_is_book), ("_law_refused", 3, sp_law_refused)], mks := [("PlainBook", 3, sp_PlainBook_init, [])] }
theorem sc_law_book_holds : FnScope ci_law_book_holds.N ["book", "how"] (defScope s_law_book_holds) := ⟨rfl, rfl, rfl, by decide +kernel, rfl, by decide +kernel, by decide +kernel⟩
theorem c_law_book_holds : (comp 80 ci_law_book_holds).Ss (defBody s_law_book_holds) = some m_law_book_holds := by kernel_rfl
def ci_law : CI := { N := ["script", "book", "pool", "bent", "how"], sc := defScope s_law, tab := t_tab, ocl := ["PlainBook"], exs := t_exs, exr := ["BadBook"], free := freeN, fns := [("_law_book_holds", 2, sp_law_book_holds), ("_law_is_book", 1, sp_law_is_book), ("_law_draw", 2, sp_law_draw), ("_law_bent", 2, sp_law_bent), ("_law_stirred", 2, sp_law_stirred), ("_law_book", 1, sp_law_book)] }
theorem sc_law : FnScope ci_law.N ["script"] (defScope s_law) := ⟨rfl, rfl, rfl, by decide +kernel, rfl, by decide +kernel, by decide +kernel⟩
theorem c_law : (comp 80 ci_law).Ss (defBody s_law) = some m_law := by kernel_rfl
theorem gb {K : PySem.W.Frag} {h : Heap} {mg : Str → Option Value} (X : K.In h) (G : h.Ns mainGlobals mg) (c : SaysX fa fn pB K) : GB t_tab ["PlainBook"] t_exs ["BadBook"] freeN "OddsError" K mg := by
  obtain ⟨hb1, hb⟩ := He.ba c.more
  obtain ⟨hb2, hb⟩ := He.ba hb
  have ho : ∀ x ∈ (["PlainBook"] : List Str), Cls K (He.ga K x) := All.mem (p := fun x => Cls K (He.ga K x)) (l := ["PlainBook"]) ⟨He.cls_ok (c.fact 0 (f := .cls "PlainBook") rfl), trivial⟩
  have hg : ∀ x ∈ (["PlainBook"] : List Str), mg x = some (.ref (He.ga K x)) := All.mem (p := fun x => mg x = some (.ref (He.ga K x))) (l := ["PlainBook"]) ⟨(He.glo_ok X G (c.fact 1 (f := .glo "PlainBook") rfl)), trivial⟩
  have hxg : ∀ x ∈ t_exs, mg x = some (.ref (He.ga K x)) := All.mem (p := fun x => mg x = some (.ref (He.ga K x))) (l := t_exs) ⟨(He.glo_ok X G (c.fact 2 (f := .glo "BadShare") rfl)), (He.glo_ok X G (c.fact 3 (f := .glo "BadText") rfl)), (He.glo_ok X G (c.fact 4 (f := .glo "BadBook") rfl)), (He.glo_ok X G (c.fact 5 (f := .glo "BadMove") rfl)), (He.glo_ok X G (c.fact 6 (f := .glo "BadProgram") rfl)), (He.glo_ok X G (c.fact 7 (f := .glo "BadPlan") rfl)), (He.glo_ok X G (c.fact 8 (f := .glo "Unfit") rfl)), (He.glo_ok X G (c.fact 9 (f := .glo "TooLarge") rfl)), (He.glo_ok X G (c.fact 10 (f := .glo "BadEdit") rfl)), trivial⟩
  have hxm : ∀ x ∈ t_exs, PySem.W.exmOne K (.ref (He.ga K x)) (.ref (He.ga K "OddsError")) = some true := All.mem (p := fun x => PySem.W.exmOne K (.ref (He.ga K x)) (.ref (He.ga K "OddsError")) = some true) (l := t_exs) ⟨He.exm_ok (c.fact 11 (f := .exm "BadShare" "OddsError" true) rfl), He.exm_ok (c.fact 12 (f := .exm "BadText" "OddsError" true) rfl), He.exm_ok (c.fact 13 (f := .exm "BadBook" "OddsError" true) rfl), He.exm_ok (c.fact 14 (f := .exm "BadMove" "OddsError" true) rfl), He.exm_ok (c.fact 15 (f := .exm "BadProgram" "OddsError" true) rfl), He.exm_ok (c.fact 16 (f := .exm "BadPlan" "OddsError" true) rfl), He.exm_ok (c.fact 17 (f := .exm "Unfit" "OddsError" true) rfl), He.exm_ok (c.fact 18 (f := .exm "TooLarge" "OddsError" true) rfl), He.exm_ok (c.fact 19 (f := .exm "BadEdit" "OddsError" true) rfl), trivial⟩
  refine ⟨All.mem (p := fun (q : Str × Str) => Cls K (He.ga K q.1) ∧ NoAttr K (He.ga K q.1) q.2) (l := t_tab) ⟨⟨He.cls_ok (c.fact 0 (f := .cls "PlainBook") rfl), He.noat_ok (c.fact 20 (f := .noat "PlainBook" "states") rfl)⟩, ⟨He.cls_ok (c.fact 0 (f := .cls "PlainBook") rfl), He.noat_ok (c.fact 21 (f := .noat "PlainBook" "first") rfl)⟩, ⟨He.cls_ok (c.fact 0 (f := .cls "PlainBook") rfl), He.noat_ok (c.fact 22 (f := .noat "PlainBook" "choices") rfl)⟩, ⟨He.cls_ok (c.fact 0 (f := .cls "PlainBook") rfl), He.noat_ok (c.fact 23 (f := .noat "PlainBook" "_options") rfl)⟩, trivial⟩, fun x hx => ⟨ocl_ok (ho x hx) (List.all_eq_true.mp hb1 x hx) hb2, hg x hx⟩, xct_ok (He.ba hb).1 hb2, hxg, All.mem (p := fun x => XcAt K mg x) (l := ["BadBook"]) ⟨xca_ok (c.fact 24 (f := .exc "BadBook") rfl) (He.glo_ok X G (c.fact 4 (f := .glo "BadBook") rfl)), trivial⟩, fun _ => ⟨(He.glo_ok X G (c.fact 25 (f := .glo "OddsError") rfl)), hxm⟩, All.mem (p := fun x => mg x = none) (l := freeN) ⟨He.free_ok X G (c.fact 26 (f := .free "ValueError") rfl), He.free_ok X G (c.fact 27 (f := .free "abs") rfl), He.free_ok X G (c.fact 28 (f := .free "bool") rfl), He.free_ok X G (c.fact 29 (f := .free "int") rfl), He.free_ok X G (c.fact 30 (f := .free "isinstance") rfl), He.free_ok X G (c.fact 31 (f := .free "len") rfl), He.free_ok X G (c.fact 32 (f := .free "list") rfl), He.free_ok X G (c.fact 33 (f := .free "max") rfl), He.free_ok X G (c.fact 34 (f := .free "min") rfl), He.free_ok X G (c.fact 35 (f := .free "range") rfl), He.free_ok X G (c.fact 36 (f := .free "str") rfl), He.free_ok X G (c.fact 37 (f := .free "tuple") rfl), trivial⟩⟩
/-- the law's promise, of the script alone -/
def spL (K : PySem.W.Frag) : Sp := fun vs H Q _ => vs.length = 1 ∧ ∃ H0 O ds P, Iss K H0 vs ds ∧ Sta K H0 O H ∧ sp_law ds O (fun _ _ _ => False) P ∧ LinkV K H0 P Q
theorem facts {P : Program} {w : World} {K : PySem.W.Frag} {h : Heap} {mg : Str → Option Value} {f : Addr} (X : K.In h) (G : h.Ns mainGlobals mg) (hfa : mg ("law" : Str) = some (.ref f)) (c : SaysX fa fn pB K) :
    ∃ fd : FuncData, (∀ (s : Shared) (v : Value), BindsTo s fd ⟨[v], []⟩ [("script", v)]) ∧ ∀ b : Heap, K.In b → b.Ns mainGlobals mg → FnOk P w K mg b CX0 10 f fd ["script"] (spL K) := by
  have B := gb X G c
  have B_LY := B.sub (tb2 := LY.t_tab) (by decide)
  obtain ⟨fd_is_name, F_is_name⟩ := c.def_ 0 (d := d_is_name) rfl
  have n_is_name : Binds K fd_is_name ["word"] [] := FunD.bindsN (ps := ["word"]) F_is_name fun _ _ _ _ _ _ us hl => match us, hl with | [_], _ => rfl
  obtain ⟨fd_check_choice, F_check_choice⟩ := c.def_ 1 (d := d_check_choice) rfl
  have n_check_choice : Binds K fd_check_choice ["choice", "states"] [] := FunD.bindsN (ps := ["choice", "states"]) F_check_choice fun _ _ _ _ _ _ us hl => match us, hl with | [_, _], _ => rfl
  obtain ⟨fd_grouped_options, F_grouped_options⟩ := c.def_ 2 (d := d_grouped_options) rfl
  have n_grouped_options : Binds K fd_grouped_options ["choices"] [] := FunD.bindsN (ps := ["choices"]) F_grouped_options fun _ _ _ _ _ _ us hl => match us, hl with | [_], _ => rfl
  obtain ⟨fd_PlainBook_init, F_PlainBook_init⟩ := c.def_ 3 (d := d_PlainBook_init) rfl
  have n_PlainBook_init : Binds K fd_PlainBook_init ["self", "states", "first", "choices"] [] := FunD.bindsN (ps := ["self", "states", "first", "choices"]) F_PlainBook_init fun _ _ _ _ _ _ us hl => match us, hl with | [_, _, _, _], _ => rfl
  obtain ⟨fd_PlainBook_options, F_PlainBook_options⟩ := c.def_ 4 (d := d_PlainBook_options) rfl
  have n_PlainBook_options : Binds K fd_PlainBook_options ["self", "deed", "state", "argument"] [] := FunD.bindsN (ps := ["self", "deed", "state", "argument"]) F_PlainBook_options fun _ _ _ _ _ _ us hl => match us, hl with | [_, _, _, _], _ => rfl
  have m_PlainBook_options := He.meth_ok (c.fact 38 (f := .meth "PlainBook" "options") rfl)
  obtain ⟨fd_PlainBook_deterministic, F_PlainBook_deterministic⟩ := c.def_ 5 (d := d_PlainBook_deterministic) rfl
  have n_PlainBook_deterministic : Binds K fd_PlainBook_deterministic ["self"] [] := FunD.bindsN (ps := ["self"]) F_PlainBook_deterministic fun _ _ _ _ _ _ us hl => match us, hl with | [_], _ => rfl
  obtain ⟨fd_law_int, F_law_int⟩ := c.def_ 6 (d := d_law_int) rfl
  have n_law_int : Binds K fd_law_int ["x"] [] := FunD.bindsN (ps := ["x"]) F_law_int fun _ _ _ _ _ _ us hl => match us, hl with | [_], _ => rfl
  obtain ⟨fd_law_pool, F_law_pool⟩ := c.def_ 7 (d := d_law_pool) rfl
  have n_law_pool : Binds K fd_law_pool ["script", "at"] [] := FunD.bindsN (ps := ["script", "at"]) F_law_pool fun _ _ _ _ _ _ us hl => match us, hl with | [_, _], _ => rfl
  obtain ⟨fd_law_stirred, F_law_stirred⟩ := c.def_ 8 (d := d_law_stirred) rfl
  have n_law_stirred : Binds K fd_law_stirred ["script", "at"] [] := FunD.bindsN (ps := ["script", "at"]) F_law_stirred fun _ _ _ _ _ _ us hl => match us, hl with | [_, _], _ => rfl
  obtain ⟨fd_law_draw, F_law_draw⟩ := c.def_ 9 (d := d_law_draw) rfl
  have n_law_draw : Binds K fd_law_draw ["pool", "many"] [] := FunD.bindsN (ps := ["pool", "many"]) F_law_draw fun _ _ _ _ _ _ us hl => match us, hl with | [_, _], _ => rfl
  obtain ⟨fd_law_same, F_law_same⟩ := c.def_ 10 (d := d_law_same) rfl
  have n_law_same : Binds K fd_law_same ["told", "due"] [] := FunD.bindsN (ps := ["told", "due"]) F_law_same fun _ _ _ _ _ _ us hl => match us, hl with | [_, _], _ => rfl
  obtain ⟨fd_law_name, F_law_name⟩ := c.def_ 11 (d := d_law_name) rfl
  have n_law_name : Binds K fd_law_name ["pool"] [] := FunD.bindsN (ps := ["pool"]) F_law_name fun _ _ _ _ _ _ us hl => match us, hl with | [_], _ => rfl
  obtain ⟨fd_law_names, F_law_names⟩ := c.def_ 12 (d := d_law_names) rfl
  have n_law_names : Binds K fd_law_names ["pool"] [] := FunD.bindsN (ps := ["pool"]) F_law_names fun _ _ _ _ _ _ us hl => match us, hl with | [_], _ => rfl
  obtain ⟨fd_law_odd_name, F_law_odd_name⟩ := c.def_ 13 (d := d_law_odd_name) rfl
  have n_law_odd_name : Binds K fd_law_odd_name ["pool", "name"] [] := FunD.bindsN (ps := ["pool", "name"]) F_law_odd_name fun _ _ _ _ _ _ us hl => match us, hl with | [_, _], _ => rfl
  obtain ⟨fd_law_is_name, F_law_is_name⟩ := c.def_ 14 (d := d_law_is_name) rfl
  have n_law_is_name : Binds K fd_law_is_name ["word"] [] := FunD.bindsN (ps := ["word"]) F_law_is_name fun _ _ _ _ _ _ us hl => match us, hl with | [_], _ => rfl
  obtain ⟨fd_law_book, F_law_book⟩ := c.def_ 15 (d := d_law_book) rfl
  have n_law_book : Binds K fd_law_book ["pool"] [] := FunD.bindsN (ps := ["pool"]) F_law_book fun _ _ _ _ _ _ us hl => match us, hl with | [_], _ => rfl
  obtain ⟨fd_law_more_options, F_law_more_options⟩ := c.def_ 16 (d := d_law_more_options) rfl
  have n_law_more_options : Binds K fd_law_more_options ["pool", "states", "choices", "at"] [] := FunD.bindsN (ps := ["pool", "states", "choices", "at"]) F_law_more_options fun _ _ _ _ _ _ us hl => match us, hl with | [_, _, _, _], _ => rfl
  obtain ⟨fd_law_bent, F_law_bent⟩ := c.def_ 17 (d := d_law_bent) rfl
  have n_law_bent : Binds K fd_law_bent ["pool", "book"] [] := FunD.bindsN (ps := ["pool", "book"]) F_law_bent fun _ _ _ _ _ _ us hl => match us, hl with | [_, _], _ => rfl
  obtain ⟨fd_law_is_book, F_law_is_book⟩ := c.def_ 18 (d := d_law_is_book) rfl
  have n_law_is_book : Binds K fd_law_is_book ["book"] [] := FunD.bindsN (ps := ["book"]) F_law_is_book fun _ _ _ _ _ _ us hl => match us, hl with | [_], _ => rfl
  obtain ⟨fd_law_handed, F_law_handed⟩ := c.def_ 19 (d := d_law_handed) rfl
  have n_law_handed : Binds K fd_law_handed ["choices", "how"] [] := FunD.bindsN (ps := ["choices", "how"]) F_law_handed fun _ _ _ _ _ _ us hl => match us, hl with | [_, _], _ => rfl
  obtain ⟨fd_law_spoil, F_law_spoil⟩ := c.def_ 20 (d := d_law_spoil) rfl
  have n_law_spoil : Binds K fd_law_spoil ["given", "how"] [] := FunD.bindsN (ps := ["given", "how"]) F_law_spoil fun _ _ _ _ _ _ us hl => match us, hl with | [_, _], _ => rfl
  obtain ⟨fd_law_refused, F_law_refused⟩ := c.def_ 21 (d := d_law_refused) rfl
  have n_law_refused : Binds K fd_law_refused ["states", "first", "given"] [] := FunD.bindsN (ps := ["states", "first", "given"]) F_law_refused fun _ _ _ _ _ _ us hl => match us, hl with | [_, _, _], _ => rfl
  obtain ⟨fd_law_options_hold, F_law_options_hold⟩ := c.def_ 22 (d := d_law_options_hold) rfl
  have n_law_options_hold : Binds K fd_law_options_hold ["told", "choices", "key"] [] := FunD.bindsN (ps := ["told", "choices", "key"]) F_law_options_hold fun _ _ _ _ _ _ us hl => match us, hl with | [_, _, _], _ => rfl
  obtain ⟨fd_law_keeps, F_law_keeps⟩ := c.def_ 23 (d := d_law_keeps) rfl
  have n_law_keeps : Binds K fd_law_keeps ["told", "book", "keys"] [] := FunD.bindsN (ps := ["told", "book", "keys"]) F_law_keeps fun _ _ _ _ _ _ us hl => match us, hl with | [_, _, _], _ => rfl
  obtain ⟨fd_law_keys, F_law_keys⟩ := c.def_ 24 (d := d_law_keys) rfl
  have n_law_keys : Binds K fd_law_keys ["choices"] [] := FunD.bindsN (ps := ["choices"]) F_law_keys fun _ _ _ _ _ _ us hl => match us, hl with | [_], _ => rfl
  obtain ⟨fd_law_book_holds, F_law_book_holds⟩ := c.def_ 25 (d := d_law_book_holds) rfl
  have n_law_book_holds : Binds K fd_law_book_holds ["book", "how"] [] := FunD.bindsN (ps := ["book", "how"]) F_law_book_holds fun _ _ _ _ _ _ us hl => match us, hl with | [_, _], _ => rfl
  obtain ⟨fd_law, F_law⟩ := c.def_ 26 (d := d_law) rfl
  have e := hfa.symm.trans (He.glo_ok X G (c.fact 39 (f := .glo "law") rfl))
  cases e
  have bL := FunD.bindsA (ps := ["script"]) F_law fun _ _ _ _ _ _ us hl => match us, hl with | [_], _ => rfl
  have mk_PlainBook := He.mkr_ok (c.fact 40 (f := .mkr "PlainBook") rfl)
  have c_DIGITS_ : CsG K mg ("DIGITS", (.str "0123456789")) := cs_str X G (c.fact 41 (f := .str "DIGITS" "0123456789") rfl)
  have c_LETTERS_ : CsG K mg ("LETTERS", (.str "abcdefghijklmnopqrstuvwxyz")) := cs_str X G (c.fact 42 (f := .str "LETTERS" "abcdefghijklmnopqrstuvwxyz") rfl)
  have c_MOST_NAME_CHARACTERS_ : CsG K mg ("MOST_NAME_CHARACTERS", (.int 20)) := cs_int X G (c.fact 43 (f := .int "MOST_NAME_CHARACTERS" 20) rfl)
  have c_VALUE_LIMIT_ : CsG K mg ("VALUE_LIMIT", (.int 8)) := cs_int X G (c.fact 44 (f := .int "VALUE_LIMIT" 8) rfl)
  have c_MOST_OPTIONS_ : CsG K mg ("MOST_OPTIONS", (.int 4)) := cs_int X G (c.fact 45 (f := .int "MOST_OPTIONS" 4) rfl)
  have c_MOST_STATES_ : CsG K mg ("MOST_STATES", (.int 600)) := cs_int X G (c.fact 46 (f := .int "MOST_STATES" 600) rfl)
  have pr_PlainBook_deterministic : prB K "PlainBook" "deterministic" = true := (He.ba (He.ba (He.ba (He.ba c.more).2).2).2).1
  refine ⟨fd_law, fun s v => bL s [v] rfl, fun b hb hG => ?_⟩
  have R_is_name : FnOk P w K mg b (L2.CX P w) 1 _ fd_is_name ["word"] (spOf K 1 sp_is_name) := def3 (c := ci_is_name) (k := 0) F_is_name sc_is_name rfl rfl rfl c_is_name b_is_name (Glob.of B_LY trivial trivial trivial trivial ⟨c_DIGITS_, c_LETTERS_, c_MOST_NAME_CHARACTERS_, trivial⟩ trivial so_none own_none gcd_no trivial)
  have G_is_name : FnG P w K mg b 1 ("is_name", 1, sp_is_name) := ⟨_, _, _, _, Nat.le_refl _, R_is_name, (He.glo_ok X G (c.fact 47 (f := .glo "is_name") rfl)), F_is_name.kp, n_is_name⟩
  have R_check_choice : FnOk P w K mg b (L2.CX P w) 2 _ fd_check_choice ["choice", "states"] (spOf K 2 sp_check_choice) := def3 (c := ci_check_choice) (k := 1) F_check_choice sc_check_choice rfl rfl rfl c_check_choice b_check_choice (Glob.of B_LY ⟨G_is_name.up (by decide), trivial⟩ trivial trivial trivial ⟨c_VALUE_LIMIT_, trivial⟩ trivial so_none own_none gcd_no trivial)
  have G_check_choice : FnG P w K mg b 2 ("check_choice", 2, sp_check_choice) := ⟨_, _, _, _, Nat.le_refl _, R_check_choice, (He.glo_ok X G (c.fact 48 (f := .glo "check_choice") rfl)), F_check_choice.kp, n_check_choice⟩
  have R_grouped_options : FnOk P w K mg b (L2.CX P w) 1 _ fd_grouped_options ["choices"] (spOf K 1 sp_grouped_options) := def3 (c := ci_grouped_options) (k := 0) F_grouped_options sc_grouped_options rfl rfl rfl c_grouped_options b_grouped_options (Glob.of B_LY trivial trivial trivial trivial ⟨c_MOST_OPTIONS_, trivial⟩ trivial so_none own_none gcd_no trivial)
  have G_grouped_options : FnG P w K mg b 1 ("grouped_options", 1, sp_grouped_options) := ⟨_, _, _, _, Nat.le_refl _, R_grouped_options, (He.glo_ok X G (c.fact 49 (f := .glo "grouped_options") rfl)), F_grouped_options.kp, n_grouped_options⟩
  have R_PlainBook_init : FnOk P w K mg b (L2.CX P w) 3 _ fd_PlainBook_init ["self", "states", "first", "choices"] (spOf K 4 sp_PlainBook_init) := def3 (c := ci_PlainBook_init) (k := 2) F_PlainBook_init sc_PlainBook_init rfl rfl rfl c_PlainBook_init b_PlainBook_init (Glob.of B_LY ⟨G_grouped_options.up (by decide), G_check_choice.up (by decide), trivial⟩ trivial trivial trivial ⟨c_MOST_STATES_, trivial⟩ trivial so_none own_none gcd_no trivial)
  have M_PlainBook3 : MkG P w K mg b 4 ("PlainBook", 3, sp_PlainBook_init, []) := ⟨_, _, _, _, [], [], Nat.le_refl _, mk_PlainBook, R_PlainBook_init, (He.glo_ok X G (c.fact 1 (f := .glo "PlainBook") rfl)), n_PlainBook_init, .nil, fun _ => .nil⟩
  have R_PlainBook_options : FnOk P w K mg b (L2.CX P w) 1 _ fd_PlainBook_options ["self", "deed", "state", "argument"] (spOf K 4 sp_PlainBook_options) := def3 (c := ci_PlainBook_options) (k := 0) F_PlainBook_options sc_PlainBook_options rfl rfl rfl c_PlainBook_options b_PlainBook_options (Glob.of B_LY trivial trivial trivial trivial trivial trivial so_none own_none gcd_no trivial)
  have T_PlainBook_options : MtG P w K mg b 1 ("options", "PlainBook", 3, sp_PlainBook_options) := ⟨_, _, _, _, Nat.le_refl _, He.cls_ok (c.fact 0 (f := .cls "PlainBook") rfl), m_PlainBook_options, R_PlainBook_options, n_PlainBook_options⟩
  have R_PlainBook_deterministic : FnOk P w K mg b (L2.CX P w) 1 _ fd_PlainBook_deterministic ["self"] (spOf K 1 sp_PlainBook_deterministic) := def3 (c := ci_PlainBook_deterministic) (k := 0) F_PlainBook_deterministic sc_PlainBook_deterministic rfl rfl rfl c_PlainBook_deterministic b_PlainBook_deterministic (Glob.of B_LY trivial trivial trivial trivial trivial trivial so_none own_none gcd_no trivial)
  have P_PlainBook_deterministic : PrG P w K mg b 2 ("deterministic", "PlainBook", sp_PlainBook_deterministic) := ⟨_, _, _, _, _, Nat.le_refl _, He.cls_ok (c.fact 0 (f := .cls "PlainBook") rfl), pr_ok pr_PlainBook_deterministic, R_PlainBook_deterministic, n_PlainBook_deterministic⟩
  have R_law_int : FnOk P w K mg b (L2.CX P w) 1 _ fd_law_int ["x"] (spOf K 1 sp_law_int) := def3 (c := ci_law_int) (k := 0) F_law_int sc_law_int rfl rfl rfl c_law_int b_law_int (Glob.of B_LY trivial trivial trivial trivial trivial trivial so_none own_none gcd_no trivial)
  have G_law_int : FnG P w K mg b 1 ("_law_int", 1, sp_law_int) := ⟨_, _, _, _, Nat.le_refl _, R_law_int, (He.glo_ok X G (c.fact 50 (f := .glo "_law_int") rfl)), F_law_int.kp, n_law_int⟩
  have R_law_pool : FnOk P w K mg b (L2.CX P w) 1 _ fd_law_pool ["script", "at"] (spOf K 2 sp_law_pool) := def3 (c := ci_law_pool) (k := 0) F_law_pool sc_law_pool rfl rfl rfl c_law_pool b_law_pool (Glob.of B_LY trivial trivial trivial trivial trivial trivial so_none own_none gcd_no trivial)
  have G_law_pool : FnG P w K mg b 1 ("_law_pool", 2, sp_law_pool) := ⟨_, _, _, _, Nat.le_refl _, R_law_pool, (He.glo_ok X G (c.fact 51 (f := .glo "_law_pool") rfl)), F_law_pool.kp, n_law_pool⟩
  have R_law_stirred : FnOk P w K mg b (L2.CX P w) 2 _ fd_law_stirred ["script", "at"] (spOf K 2 sp_law_stirred) := def3 (c := ci_law_stirred) (k := 1) F_law_stirred sc_law_stirred rfl rfl rfl c_law_stirred b_law_stirred (Glob.of B_LY ⟨G_law_pool.up (by decide), trivial⟩ trivial trivial trivial trivial trivial so_none own_none gcd_no trivial)
  have G_law_stirred : FnG P w K mg b 2 ("_law_stirred", 2, sp_law_stirred) := ⟨_, _, _, _, Nat.le_refl _, R_law_stirred, (He.glo_ok X G (c.fact 52 (f := .glo "_law_stirred") rfl)), F_law_stirred.kp, n_law_stirred⟩
  have R_law_draw : FnOk P w K mg b (L2.CX P w) 1 _ fd_law_draw ["pool", "many"] (spOf K 2 sp_law_draw) := def3 (c := ci_law_draw) (k := 0) F_law_draw sc_law_draw rfl rfl rfl c_law_draw b_law_draw (Glob.of B_LY trivial trivial trivial trivial trivial trivial so_none own_none gcd_no trivial)
  have G_law_draw : FnG P w K mg b 1 ("_law_draw", 2, sp_law_draw) := ⟨_, _, _, _, Nat.le_refl _, R_law_draw, (He.glo_ok X G (c.fact 53 (f := .glo "_law_draw") rfl)), F_law_draw.kp, n_law_draw⟩
  have G_law_same0 : FnG P w K mg b 2 ("_law_same", 2, sp_law_same 0) := ⟨_, _, _, _, Nat.le_refl _, (fnNone none_law_same : FnOk P w K mg b (L2.CX P w) 2 _ fd_law_same ["told", "due"] (spOf K 2 (sp_law_same 0))), (He.glo_ok X G (c.fact 54 (f := .glo "_law_same") rfl)), F_law_same.kp, n_law_same⟩
  have R_law_same1 : FnOk P w K mg b (L2.CX P w) 3 _ fd_law_same ["told", "due"] (spOf K 2 (sp_law_same 1)) := def3 (c := ci_law_same (sp_law_same 0)) (k := 2) F_law_same sc_law_same rfl rfl rfl (c_law_same _) (b_law_same 0) (Glob.of B_LY ⟨G_law_same0.up (by decide), G_law_int.up (by decide), trivial⟩ trivial trivial trivial trivial trivial so_none own_none gcd_no trivial)
  have G_law_same1 : FnG P w K mg b 3 ("_law_same", 2, sp_law_same 1) := ⟨_, _, _, _, Nat.le_refl _, R_law_same1, (He.glo_ok X G (c.fact 54 (f := .glo "_law_same") rfl)), F_law_same.kp, n_law_same⟩
  have R_law_same2 : FnOk P w K mg b (L2.CX P w) 4 _ fd_law_same ["told", "due"] (spOf K 2 (sp_law_same 2)) := def3 (c := ci_law_same (sp_law_same 1)) (k := 3) F_law_same sc_law_same rfl rfl rfl (c_law_same _) (b_law_same 1) (Glob.of B_LY ⟨G_law_same1.up (by decide), G_law_int.up (by decide), trivial⟩ trivial trivial trivial trivial trivial so_none own_none gcd_no trivial)
  have G_law_same2 : FnG P w K mg b 4 ("_law_same", 2, sp_law_same 2) := ⟨_, _, _, _, Nat.le_refl _, R_law_same2, (He.glo_ok X G (c.fact 54 (f := .glo "_law_same") rfl)), F_law_same.kp, n_law_same⟩
  have R_law_same3 : FnOk P w K mg b (L2.CX P w) 5 _ fd_law_same ["told", "due"] (spOf K 2 (sp_law_same 3)) := def3 (c := ci_law_same (sp_law_same 2)) (k := 4) F_law_same sc_law_same rfl rfl rfl (c_law_same _) (b_law_same 2) (Glob.of B_LY ⟨G_law_same2.up (by decide), G_law_int.up (by decide), trivial⟩ trivial trivial trivial trivial trivial so_none own_none gcd_no trivial)
  have G_law_same3 : FnG P w K mg b 5 ("_law_same", 2, sp_law_same 3) := ⟨_, _, _, _, Nat.le_refl _, R_law_same3, (He.glo_ok X G (c.fact 54 (f := .glo "_law_same") rfl)), F_law_same.kp, n_law_same⟩
  have R_law_same4 : FnOk P w K mg b (L2.CX P w) 6 _ fd_law_same ["told", "due"] (spOf K 2 (sp_law_same 4)) := def3 (c := ci_law_same (sp_law_same 3)) (k := 5) F_law_same sc_law_same rfl rfl rfl (c_law_same _) (b_law_same 3) (Glob.of B_LY ⟨G_law_same3.up (by decide), G_law_int.up (by decide), trivial⟩ trivial trivial trivial trivial trivial so_none own_none gcd_no trivial)
  have G_law_same4 : FnG P w K mg b 6 ("_law_same", 2, sp_law_same 4) := ⟨_, _, _, _, Nat.le_refl _, R_law_same4, (He.glo_ok X G (c.fact 54 (f := .glo "_law_same") rfl)), F_law_same.kp, n_law_same⟩
  have G_law_same := G_law_same4
  have R_law_name : FnOk P w K mg b (L2.CX P w) 2 _ fd_law_name ["pool"] (spOf K 1 sp_law_name) := def3 (c := ci_law_name) (k := 1) F_law_name sc_law_name rfl rfl rfl c_law_name b_law_name (Glob.of B ⟨G_law_draw.up (by decide), trivial⟩ trivial trivial trivial trivial trivial so_none own_none gcd_no trivial)
  have G_law_name : FnG P w K mg b 2 ("_law_name", 1, sp_law_name) := ⟨_, _, _, _, Nat.le_refl _, R_law_name, (He.glo_ok X G (c.fact 55 (f := .glo "_law_name") rfl)), F_law_name.kp, n_law_name⟩
  have R_law_names : FnOk P w K mg b (L2.CX P w) 3 _ fd_law_names ["pool"] (spOf K 1 sp_law_names) := def3 (c := ci_law_names) (k := 2) F_law_names sc_law_names rfl rfl rfl c_law_names b_law_names (Glob.of B ⟨G_law_draw.up (by decide), G_law_name.up (by decide), trivial⟩ trivial trivial trivial trivial trivial so_none own_none gcd_no trivial)
  have G_law_names : FnG P w K mg b 3 ("_law_names", 1, sp_law_names) := ⟨_, _, _, _, Nat.le_refl _, R_law_names, (He.glo_ok X G (c.fact 56 (f := .glo "_law_names") rfl)), F_law_names.kp, n_law_names⟩
  have R_law_odd_name : FnOk P w K mg b (L2.CX P w) 2 _ fd_law_odd_name ["pool", "name"] (spOf K 2 sp_law_odd_name) := def3 (c := ci_law_odd_name) (k := 1) F_law_odd_name sc_law_odd_name rfl rfl rfl c_law_odd_name b_law_odd_name (Glob.of B ⟨G_law_draw.up (by decide), trivial⟩ trivial trivial trivial trivial trivial so_none own_none gcd_no trivial)
  have G_law_odd_name : FnG P w K mg b 2 ("_law_odd_name", 2, sp_law_odd_name) := ⟨_, _, _, _, Nat.le_refl _, R_law_odd_name, (He.glo_ok X G (c.fact 57 (f := .glo "_law_odd_name") rfl)), F_law_odd_name.kp, n_law_odd_name⟩
  have R_law_is_name : FnOk P w K mg b (L2.CX P w) 1 _ fd_law_is_name ["word"] (spOf K 1 sp_law_is_name) := def3 (c := ci_law_is_name) (k := 0) F_law_is_name sc_law_is_name rfl rfl rfl c_law_is_name b_law_is_name (Glob.of B trivial trivial trivial trivial trivial trivial so_none own_none gcd_no trivial)
  have G_law_is_name : FnG P w K mg b 1 ("_law_is_name", 1, sp_law_is_name) := ⟨_, _, _, _, Nat.le_refl _, R_law_is_name, (He.glo_ok X G (c.fact 58 (f := .glo "_law_is_name") rfl)), F_law_is_name.kp, n_law_is_name⟩
  have R_law_book : FnOk P w K mg b (L2.CX P w) 4 _ fd_law_book ["pool"] (spOf K 1 sp_law_book) := def3 (c := ci_law_book) (k := 3) F_law_book sc_law_book rfl rfl rfl c_law_book b_law_book (Glob.of B ⟨G_law_draw.up (by decide), G_law_names.up (by decide), trivial⟩ trivial trivial trivial trivial trivial so_none own_none gcd_no trivial)
  have G_law_book : FnG P w K mg b 4 ("_law_book", 1, sp_law_book) := ⟨_, _, _, _, Nat.le_refl _, R_law_book, (He.glo_ok X G (c.fact 59 (f := .glo "_law_book") rfl)), F_law_book.kp, n_law_book⟩
  have R_law_more_options : FnOk P w K mg b (L2.CX P w) 2 _ fd_law_more_options ["pool", "states", "choices", "at"] (spOf K 4 sp_law_more_options) := def3 (c := ci_law_more_options) (k := 1) F_law_more_options sc_law_more_options rfl rfl rfl c_law_more_options b_law_more_options (Glob.of B ⟨G_law_draw.up (by decide), trivial⟩ trivial trivial trivial trivial trivial so_none own_none gcd_no trivial)
  have G_law_more_options : FnG P w K mg b 2 ("_law_more_options", 4, sp_law_more_options) := ⟨_, _, _, _, Nat.le_refl _, R_law_more_options, (He.glo_ok X G (c.fact 60 (f := .glo "_law_more_options") rfl)), F_law_more_options.kp, n_law_more_options⟩
  have R_law_bent : FnOk P w K mg b (L2.CX P w) 3 _ fd_law_bent ["pool", "book"] (spOf K 2 sp_law_bent) := def3 (c := ci_law_bent) (k := 2) F_law_bent sc_law_bent rfl rfl rfl c_law_bent b_law_bent (Glob.of B ⟨G_law_draw.up (by decide), G_law_odd_name.up (by decide), G_law_more_options.up (by decide), trivial⟩ trivial trivial trivial trivial trivial so_none own_none gcd_no trivial)
  have G_law_bent : FnG P w K mg b 3 ("_law_bent", 2, sp_law_bent) := ⟨_, _, _, _, Nat.le_refl _, R_law_bent, (He.glo_ok X G (c.fact 61 (f := .glo "_law_bent") rfl)), F_law_bent.kp, n_law_bent⟩
  have R_law_is_book : FnOk P w K mg b (L2.CX P w) 2 _ fd_law_is_book ["book"] (spOf K 1 sp_law_is_book) := def3 (c := ci_law_is_book) (k := 1) F_law_is_book sc_law_is_book rfl rfl rfl c_law_is_book b_law_is_book (Glob.of B ⟨G_law_is_name.up (by decide), trivial⟩ trivial trivial trivial trivial trivial so_none own_none gcd_no trivial)
  have G_law_is_book : FnG P w K mg b 2 ("_law_is_book", 1, sp_law_is_book) := ⟨_, _, _, _, Nat.le_refl _, R_law_is_book, (He.glo_ok X G (c.fact 62 (f := .glo "_law_is_book") rfl)), F_law_is_book.kp, n_law_is_book⟩
  have R_law_handed : FnOk P w K mg b (L2.CX P w) 1 _ fd_law_handed ["choices", "how"] (spOf K 2 sp_law_handed) := def3 (c := ci_law_handed) (k := 0) F_law_handed sc_law_handed rfl rfl rfl c_law_handed b_law_handed (Glob.of B trivial trivial trivial trivial trivial trivial so_none own_none gcd_no trivial)
  have G_law_handed : FnG P w K mg b 1 ("_law_handed", 2, sp_law_handed) := ⟨_, _, _, _, Nat.le_refl _, R_law_handed, (He.glo_ok X G (c.fact 63 (f := .glo "_law_handed") rfl)), F_law_handed.kp, n_law_handed⟩
  have R_law_spoil : FnOk P w K mg b (L2.CX P w) 1 _ fd_law_spoil ["given", "how"] (spOf K 2 sp_law_spoil) := def3 (c := ci_law_spoil) (k := 0) F_law_spoil sc_law_spoil rfl rfl rfl c_law_spoil b_law_spoil (Glob.of B trivial trivial trivial trivial trivial trivial so_none own_none gcd_no trivial)
  have G_law_spoil : FnG P w K mg b 1 ("_law_spoil", 2, sp_law_spoil) := ⟨_, _, _, _, Nat.le_refl _, R_law_spoil, (He.glo_ok X G (c.fact 64 (f := .glo "_law_spoil") rfl)), F_law_spoil.kp, n_law_spoil⟩
  have R_law_refused : FnOk P w K mg b (L2.CX P w) 5 _ fd_law_refused ["states", "first", "given"] (spOf K 3 sp_law_refused) := def3 (c := ci_law_refused) (k := 4) F_law_refused sc_law_refused rfl rfl rfl c_law_refused b_law_refused (Glob.of B trivial ⟨M_PlainBook3.up (by decide), trivial⟩ trivial trivial trivial trivial so_none own_none gcd_no trivial)
  have G_law_refused : FnG P w K mg b 5 ("_law_refused", 3, sp_law_refused) := ⟨_, _, _, _, Nat.le_refl _, R_law_refused, (He.glo_ok X G (c.fact 65 (f := .glo "_law_refused") rfl)), F_law_refused.kp, n_law_refused⟩
  have R_law_options_hold : FnOk P w K mg b (L2.CX P w) 7 _ fd_law_options_hold ["told", "choices", "key"] (spOf K 3 sp_law_options_hold) := def3 (c := ci_law_options_hold) (k := 6) F_law_options_hold sc_law_options_hold rfl rfl rfl c_law_options_hold b_law_options_hold (Glob.of B ⟨G_law_same.up (by decide), trivial⟩ trivial trivial ⟨T_PlainBook_options.up (by decide), trivial⟩ trivial trivial so_none own_none gcd_no trivial)
  have G_law_options_hold : FnG P w K mg b 7 ("_law_options_hold", 3, sp_law_options_hold) := ⟨_, _, _, _, Nat.le_refl _, R_law_options_hold, (He.glo_ok X G (c.fact 66 (f := .glo "_law_options_hold") rfl)), F_law_options_hold.kp, n_law_options_hold⟩
  have R_law_keeps : FnOk P w K mg b (L2.CX P w) 8 _ fd_law_keeps ["told", "book", "keys"] (spOf K 3 sp_law_keeps) := def3 (c := ci_law_keeps) (k := 7) F_law_keeps sc_law_keeps rfl rfl rfl c_law_keeps b_law_keeps (Glob.of B ⟨G_law_options_hold.up (by decide), G_law_same.up (by decide), trivial⟩ trivial trivial trivial trivial trivial so_none own_none gcd_no ⟨P_PlainBook_deterministic.up (by decide), trivial⟩)
  have G_law_keeps : FnG P w K mg b 8 ("_law_keeps", 3, sp_law_keeps) := ⟨_, _, _, _, Nat.le_refl _, R_law_keeps, (He.glo_ok X G (c.fact 67 (f := .glo "_law_keeps") rfl)), F_law_keeps.kp, n_law_keeps⟩
  have R_law_keys : FnOk P w K mg b (L2.CX P w) 1 _ fd_law_keys ["choices"] (spOf K 1 sp_law_keys) := def3 (c := ci_law_keys) (k := 0) F_law_keys sc_law_keys rfl rfl rfl c_law_keys b_law_keys (Glob.of B trivial trivial trivial trivial trivial trivial so_none own_none gcd_no trivial)
  have G_law_keys : FnG P w K mg b 1 ("_law_keys", 1, sp_law_keys) := ⟨_, _, _, _, Nat.le_refl _, R_law_keys, (He.glo_ok X G (c.fact 68 (f := .glo "_law_keys") rfl)), F_law_keys.kp, n_law_keys⟩
  have R_law_book_holds : FnOk P w K mg b (L2.CX P w) 9 _ fd_law_book_holds ["book", "how"] (spOf K 2 sp_law_book_holds) := def3 (c := ci_law_book_holds) (k := 8) F_law_book_holds sc_law_book_holds rfl rfl rfl c_law_book_holds b_law_book_holds (Glob.of B ⟨G_law_keeps.up (by decide), G_law_spoil.up (by decide), G_law_keys.up (by decide), G_law_handed.up (by decide), G_law_is_book.up (by decide), G_law_refused.up (by decide), trivial⟩ ⟨M_PlainBook3.up (by decide), trivial⟩ trivial trivial trivial trivial so_none own_none gcd_no trivial)
  have G_law_book_holds : FnG P w K mg b 9 ("_law_book_holds", 2, sp_law_book_holds) := ⟨_, _, _, _, Nat.le_refl _, R_law_book_holds, (He.glo_ok X G (c.fact 69 (f := .glo "_law_book_holds") rfl)), F_law_book_holds.kp, n_law_book_holds⟩
  have R_law := def3L (c := ci_law) (P := P) (w := w) (base := b) (k := 9) F_law sc_law rfl rfl rfl c_law b_law (Glob.of B ⟨G_law_book_holds.up (by decide), G_law_is_book.up (by decide), G_law_draw.up (by decide), G_law_bent.up (by decide), G_law_stirred.up (by decide), G_law_book.up (by decide), trivial⟩ trivial trivial trivial trivial trivial so_none own_none gcd_no trivial)
  exact R_law
end K03

open PySem PySem.W PySem.Calls PyProof.Rows
theorem PySem.Challenge.cw_oddsward_k03_plain_books_holds : PySem.Challenge.rw_oddsward_k03_plain_books.Holds := by
  w_on; o_law
  refine HandSHeadRun.head_any (r := OpenLaw.row PySem.Challenge.rw_oddsward_k03_plain_books) (q := view (OpenLaw.row PySem.Challenge.rw_oddsward_k03_plain_books).prog [44]) (H := L3.hookX 5 K03.fa K03.fn K03.pB) (ob := K03.ob) (M := 6000) (loose := K03.loose) (d := HandSHeadRun.topDef (OpenLaw.row PySem.Challenge.rw_oddsward_k03_plain_books).prog 44) (kwd := []) K03.ob_eq
    (by kernel_rfl) (fun s => by kernel_rfl) K03.run (by kernel_rfl) (by kernel_rfl) (by kernel_rfl) (by rfl) (by first | assumption | decide +kernel) (by decide +kernel) ⟨rfl, rfl, rfl, rfl, rfl, by decide +kernel⟩ ?hw ?hc
  case hw => w_witness2
  case hc =>
    refine L2.walk_ofE (l := PySem.Challenge.rw_oddsward_k03_plain_books) (n := 63) (k := 10) (x := "script") (CX := L2.CX0) rfl (by decide) (by kernel_rfl) ⟨rfl, by decide, by decide⟩ ?F (fun _ _ _ _ z => z)
    intro w mg fa h Y G hmg0
    obtain ⟨K, KX, c⟩ := Y
    have hmg : mg ("law" : PySem.Str) = some (.ref fa) := by
      have e : (HandSHeadRun.topDef (OpenLaw.row PySem.Challenge.rw_oddsward_k03_plain_books).prog 44).name = ("law" : PySem.Str) := by kernel_rfl
      rw [← e]
      exact hmg0
    obtain ⟨fd, hb, hF⟩ := K03.facts (P := (PySem.Challenge.rw_oddsward_k03_plain_books).prog) (w := w) KX G hmg c
    refine ⟨K, fd, K03.spL K, KX, hb, fun H a ns hl hO hS => ?_, hF⟩
    exact L3.law_start ns hO hS fun P hP => ⟨ns, rfl, fun O' => hP O'⟩
