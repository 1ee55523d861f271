import PyProof.Rows.All
import Wide.All
import OpenK.AllK
import Wide.FinOn
import HandS.ForMost
import HandS.ForExc
import HandS.CallSlots
import HandS.IsInst
import HandS.Gcd
import HandS.Wide
import HandS.MakeKw
import HandS.TupAny
import HandS.Defaults
import HandS.Deep
import HandS.HeadEnd
import HandS.HeadHook1
import HandS.HeadHook2
import HandS.ExcIs
import HandS.Comp
import HandS.Conv
import HandS.Text
import HandS.StrMore
import HandS.FStr
import HandS.ClsMeth
import HandS.SlotsOwn
import KE.KCallOwn
import HandS.RaiseMore
import HandS.HeadNt
import KE.IntTextText
import KE.KIntText
import PyProof.Rows.ReprOcc
import PyProof.Rows.StrFirst
import PyProof.StrLawsIn
import PyProof.StrLawsAffix
import PyProof.Rows.RegStrFacts
import PySem.Challenge.RW_oddsward_k02_share_texts
import HandS.Head0
import HandS.Head1
import HandS.Head2
import HandS.Head3
set_option Elab.async false
set_option linter.all false
set_option maxRecDepth 100000
set_option maxHeartbeats 4000000
set_option exponentiation.threshold 256
namespace L3
open PySem PySem.Spec PyProof.Rows L2

/-! ## values with their contents; the store of what may change -/
inductive D where
  | non | bl (b : Bool) | int (i : Int) | str (x : Str)
  | tup (ds : List D) | lst (ds : List D)
  | obj (C : Str) (fs : List (Str × D))
  | cell (p : Addr)
  | ty (n : String)
inductive MO where
  | lst (ds : List D)
  | dK (kvs : List (Key × D))
  | dT (kvs : List (List Key × D))
  | ins (C : Str) (fs : List (Str × D))
abbrev Sto := Addr → Option MO
abbrev Gm := List (Option D)
def put (O : Sto) (p : Addr) (o : MO) : Sto := fun q => if q = p then some o else O q
def del (O : Sto) (p : Addr) : Sto := fun q => if q = p then none else O q
theorem put_same {O : Sto} {p : Addr} {o : MO} : put O p o p = some o := by unfold put; rw [if_pos rfl]
theorem put_ne {O : Sto} {p q : Addr} {o : MO} (h : q ≠ p) : put O p o q = O q := by unfold put; rw [if_neg h]
theorem del_same {O : Sto} {p : Addr} : del O p p = none := by unfold del; rw [if_pos rfl]
theorem del_ne {O : Sto} {p q : Addr} (h : q ≠ p) : del O p q = O q := by unfold del; rw [if_neg h]
theorem put_put {O : Sto} {p : Addr} {o u : MO} : put (put O p o) p u = put O p u := by
  funext q; unfold put; split <;> rfl
theorem del_put {O : Sto} {p : Addr} {o : MO} (h : O p = none) : del (put O p o) p = O := by
  funext q; unfold del put; split
  · rename_i e; subst e; exact h.symm
  · rfl

inductive Is (K : PySem.W.Frag) (H : Hp) : V → D → Prop where
  | non : Is K H .non .non
  | bl (b : Bool) : Is K H (.bl b) (.bl b)
  | int (i : Int) : Is K H (.int i) (.int i)
  | str (x : Str) : Is K H (.str x) (.str x)
  | ty (n : String) : Is K H (.ty n) (.ty n)
  | cell (p : Addr) : Is K H (.ref p) (.cell p)
  | tup {a : Addr} {vs : List V} {ds : List D} (h : SqT K H a vs) (l : vs.length = ds.length) (c : ∀ (i : Nat) (v : V) (d : D), vs[i]? = some v → ds[i]? = some d → Is K H v d) : Is K H (.ref a) (.tup ds)
  | lst {a : Addr} {vs : List V} {ds : List D} (h : SqL K H a vs) (l : vs.length = ds.length) (c : ∀ (i : Nat) (v : V) (d : D), vs[i]? = some v → ds[i]? = some d → Is K H v d) : Is K H (.ref a) (.lst ds)
  | obj {a dx : Addr} {C : Str} {vs : List (Str × V)} {ds : List (Str × D)} (h : H a = some (.ins (He.ga K C) dx vs)) (l : vs.map (·.1) = ds.map (·.1))
      (c : ∀ (i : Nat) (v : V) (d : D), (vs.map (·.2))[i]? = some v → (ds.map (·.2))[i]? = some d → Is K H v d) : Is K H (.ref a) (.obj C ds)
/-- lists, value by value -/
def Iss (K : PySem.W.Frag) (H : Hp) (vs : List V) (ds : List D) : Prop := vs.length = ds.length ∧ ∀ (i : Nat) (v : V) (d : D), vs[i]? = some v → ds[i]? = some d → Is K H v d
def RO (K : PySem.W.Frag) (H0 H : Hp) (p : Addr) : MO → Prop
  | .lst ds => ∃ vs, H p = some (.lst vs) ∧ Iss K H0 vs ds
  | .dK kvs => ∃ ws, H p = some (.dK ws) ∧ ws.map (·.1) = kvs.map (·.1) ∧ Iss K H0 (ws.map (·.2)) (kvs.map (·.2))
  | .dT kvs => ∃ ws, H p = some (.dT ws) ∧ ws.map (·.1) = kvs.map (·.1) ∧ Iss K H0 (ws.map (·.2)) (kvs.map (·.2))
  | .ins C fs => ∃ dx ws, H p = some (.ins (He.ga K C) dx ws) ∧ ws.map (·.1) = fs.map (·.1) ∧ Iss K H0 (ws.map (·.2)) (fs.map (·.2))
/-- H0: the part that stays for good; O: what is known of what may change -/
structure Sta (K : PySem.W.Frag) (H0 : Hp) (O : Sto) (H : Hp) : Prop where
  same : Same H0 H
  cell : ∀ p o, O p = some o → H0 p = none ∧ RO K H0 H p o
def EnvR (K : PySem.W.Frag) (H0 : Hp) (Γ : Gm) (σ : L2.St) : Prop := Γ.length = σ.length ∧ ∀ (i : Nat) (d : D), Γ[i]? = some (some d) → ∃ v, σ[i]? = some (some v) ∧ Is K H0 v d

section
variable {K : PySem.W.Frag} {H H' H0 H1 : Hp} {O : Sto} {v : V} {d : D} {vs : List V} {ds : List D} {p : Addr} {Γ : Gm} {σ : L2.St}
theorem same_rd {a : Addr} {u : HO} (e : Same H H') (h : Rd H a u) : Rd H' a u := by
  rcases h with h | ⟨o, h⟩
  · exact Or.inl (e a _ h)
  · exact Or.inr ⟨o, e a _ h⟩
theorem same_l {a : Addr} {xs : List V} (e : Same H H') (h : SqL K H a xs) : SqL K H' a xs := by
  rcases h with h | h
  · exact Or.inl (same_rd e h)
  · exact Or.inr h
theorem same_t {a : Addr} {xs : List V} (e : Same H H') (h : SqT K H a xs) : SqT K H' a xs := by
  rcases h with h | h
  · exact Or.inl (same_rd e h)
  · exact Or.inr h
theorem Is.mono (e : Same H H') (h : Is K H v d) : Is K H' v d := by
  induction h with
  | non => exact .non
  | bl b => exact .bl b
  | int i => exact .int i
  | str x => exact .str x
  | ty n => exact .ty n
  | cell p => exact .cell p
  | tup h l c ih => exact .tup (same_t e h) l ih
  | lst h l c ih => exact .lst (same_l e h) l ih
  | obj h l c ih => exact .obj (e _ _ h) l ih
theorem Iss.mono (e : Same H H') (h : Iss K H vs ds) : Iss K H' vs ds := ⟨h.1, fun i v d a b => (h.2 i v d a b).mono e⟩
theorem EnvR.mono (e : Same H H') (h : EnvR K H Γ σ) : EnvR K H' Γ σ := ⟨h.1, fun i d a => let ⟨v, q, r⟩ := h.2 i d a; ⟨v, q, r.mono e⟩⟩
theorem RO.mono {o : MO} (e : Same H0 H1) (h : RO K H0 H p o) : RO K H1 H p o := by
  cases o with
  | lst ds => obtain ⟨vs, a, b⟩ := h; exact ⟨vs, a, b.mono e⟩
  | dK kvs => obtain ⟨vs, a, k, b⟩ := h; exact ⟨vs, a, k, b.mono e⟩
  | dT kvs => obtain ⟨vs, a, k, b⟩ := h; exact ⟨vs, a, k, b.mono e⟩
  | ins C fs => obtain ⟨dx, vs, a, k, b⟩ := h; exact ⟨dx, vs, a, k, b.mono e⟩
theorem RO.some {o : MO} (h : RO K H0 H p o) : ∃ u, H p = Option.some u := by
  cases o with
  | lst ds => obtain ⟨vs, a, b⟩ := h; exact ⟨_, a⟩
  | dK kvs => obtain ⟨vs, a, b⟩ := h; exact ⟨_, a⟩
  | dT kvs => obtain ⟨vs, a, b⟩ := h; exact ⟨_, a⟩
  | ins C fs => obtain ⟨dx, vs, a, b⟩ := h; exact ⟨_, a⟩
theorem RO.at {o : MO} (e : H' p = H p) (h : RO K H0 H p o) : RO K H0 H' p o := by
  cases o with
  | lst ds => obtain ⟨vs, a, b⟩ := h; exact ⟨vs, e.trans a, b⟩
  | dK kvs => obtain ⟨vs, a, b⟩ := h; exact ⟨vs, e.trans a, b⟩
  | dT kvs => obtain ⟨vs, a, b⟩ := h; exact ⟨vs, e.trans a, b⟩
  | ins C fs => obtain ⟨dx, vs, a, b⟩ := h; exact ⟨dx, vs, e.trans a, b⟩
theorem Sta.free (s : Sta K H0 O H) (h : H p = none) : O p = none ∧ H0 p = none := by
  constructor
  · cases e : O p with
    | none => rfl
    | some o =>
      obtain ⟨_, r⟩ := s.cell p o e
      obtain ⟨u, q⟩ := r.some
      rw [h] at q; cases q
  · exact s.same.free h
theorem same_upd {o : HO} (h : H p = none) : Same H (upd H p o) := fun b u e => by rw [upd_ne (ne_of_none e h)]; exact e
theorem upd_mono {o : HO} (e : Same H H') : Same (upd H p o) (upd H' p o) := fun b u q => by
  by_cases hb : b = p
  · subst hb; rw [upd_same] at q ⊢; exact q
  · rw [upd_ne hb] at q ⊢; exact e b u q
/-- a new object that stays for good -/
theorem Sta.new0 {o : HO} (s : Sta K H0 O H) (h : H p = none) : Sta K (upd H0 p o) O (upd H p o) := by
  obtain ⟨ho, h0⟩ := s.free h
  refine ⟨upd_mono s.same, fun q u e => ?_⟩
  have ne : q ≠ p := by rintro rfl; rw [ho] at e; cases e
  obtain ⟨a, b⟩ := s.cell q u e
  exact ⟨by rw [upd_ne ne]; exact a, (b.mono (same_upd h0)).at (upd_ne ne)⟩
/-- a new object that may change -/
theorem Sta.newC {o : HO} {u : MO} (s : Sta K H0 O H) (h : H p = none) (r : RO K H0 (upd H p o) p u) : Sta K H0 (put O p u) (upd H p o) := by
  obtain ⟨ho, h0⟩ := s.free h
  refine ⟨s.same.trans (same_upd h), fun q w e => ?_⟩
  by_cases ne : q = p
  · subst ne; rw [put_same] at e; cases e; exact ⟨h0, r⟩
  · rw [put_ne ne] at e
    obtain ⟨a, b⟩ := s.cell q w e
    exact ⟨a, b.at (upd_ne ne)⟩
/-- an object changes -/
theorem Sta.set {o : HO} {u w : MO} (s : Sta K H0 O H) (h : O p = some w) (r : RO K H0 (upd H p o) p u) : Sta K H0 (put O p u) (upd H p o) := by
  obtain ⟨h0, _⟩ := s.cell p w h
  refine ⟨fun b x e => ?_, fun q x e => ?_⟩
  · have ne : b ≠ p := by rintro rfl; rw [h0] at e; cases e
    rw [upd_ne ne]; exact s.same b x e
  · by_cases ne : q = p
    · subst ne; rw [put_same] at e; cases e; exact ⟨h0, r⟩
    · rw [put_ne ne] at e
      obtain ⟨a, b⟩ := s.cell q x e
      exact ⟨a, b.at (upd_ne ne)⟩
/-- a new object that nobody speaks of -/
theorem Sta.more {o : HO} (s : Sta K H0 O H) (h : H p = none) : Sta K H0 O (upd H p o) := by
  obtain ⟨ho, h0⟩ := s.free h
  refine ⟨s.same.trans (same_upd h), fun q w e => ?_⟩
  have ne : q ≠ p := by rintro rfl; rw [ho] at e; cases e
  obtain ⟨a, b⟩ := s.cell q w e
  exact ⟨a, b.at (upd_ne ne)⟩
theorem Sta.forget {O' : Sto} (s : Sta K H0 O H) (h : ∀ p o, O' p = some o → O p = some o) : Sta K H0 O' H := ⟨s.same, fun p o e => s.cell p o (h p o e)⟩
theorem Iss.nil : Iss K H [] [] := ⟨rfl, fun i v d a _ => by simp at a⟩
theorem Iss.cons (a : Is K H v d) (b : Iss K H vs ds) : Iss K H (v :: vs) (d :: ds) := by
  refine ⟨by simp [b.1], fun i w e h1 h2 => ?_⟩
  cases i with
  | zero => simp at h1 h2; subst h1 h2; exact a
  | succ i => simp at h1 h2; exact b.2 i w e h1 h2
theorem Iss.get {i : Nat} (h : Iss K H vs ds) (e : ds[i]? = some d) : ∃ v, vs[i]? = some v ∧ Is K H v d := by
  have hi : i < vs.length := by rw [h.1]; exact (List.getElem?_eq_some_iff.mp e).1
  exact ⟨vs[i], List.getElem?_eq_getElem hi, h.2 i _ _ (List.getElem?_eq_getElem hi) e⟩
theorem Iss.uncons {w : List V} (h : Iss K H w (d :: ds)) : ∃ v vs, w = v :: vs ∧ Is K H v d ∧ Iss K H vs ds := by
  cases w with
  | nil => have := h.1; simp at this
  | cons v vs =>
    refine ⟨v, vs, rfl, h.2 0 v d rfl rfl, by have := h.1; simpa using this, fun i a b p q => h.2 (i + 1) a b (by simpa using p) (by simpa using q)⟩
theorem Iss.unnil {w : List V} (h : Iss K H w []) : w = [] := by
  have := h.1; simp at this; exact this
theorem Iss.append {us : List V} {es : List D} (a : Iss K H vs ds) (b : Iss K H us es) : Iss K H (vs ++ us) (ds ++ es) := by
  refine ⟨by simp [a.1, b.1], fun i v d h1 h2 => ?_⟩
  by_cases hi : i < vs.length
  · rw [List.getElem?_append_left hi] at h1
    rw [List.getElem?_append_left (by rw [← a.1]; exact hi)] at h2
    exact a.2 i v d h1 h2
  · have hi : vs.length ≤ i := Nat.le_of_not_lt hi
    rw [List.getElem?_append_right hi] at h1
    rw [List.getElem?_append_right (by rw [← a.1]; exact hi)] at h2
    rw [a.1] at h1
    exact b.2 _ v d h1 h2
theorem Iss.set {i : Nat} (a : Iss K H vs ds) (b : Is K H v d) : Iss K H (vs.set i v) (ds.set i d) := by
  refine ⟨by simp [a.1], fun j w e h1 h2 => ?_⟩
  by_cases hj : i = j
  · subst hj
    by_cases hl : i < vs.length
    · rw [List.getElem?_set_self hl] at h1
      rw [List.getElem?_set_self (by rw [← a.1]; exact hl)] at h2
      cases h1; cases h2; exact b
    · rw [List.getElem?_eq_none (by simpa using Nat.le_of_not_lt hl)] at h1; cases h1
  · rw [List.getElem?_set_ne hj] at h1 h2
    exact a.2 j w e h1 h2
theorem Iss.take {n : Nat} (a : Iss K H vs ds) : Iss K H (vs.take n) (ds.take n) := by
  refine ⟨by simp [a.1], fun i v d h1 h2 => ?_⟩
  rw [List.getElem?_take] at h1 h2
  split at h1
  · rename_i q; rw [if_pos q] at h2; exact a.2 i v d h1 h2
  · cases h1
theorem Iss.drop {n : Nat} (a : Iss K H vs ds) : Iss K H (vs.drop n) (ds.drop n) := by
  refine ⟨by simp [a.1], fun i v d h1 h2 => ?_⟩
  rw [List.getElem?_drop] at h1 h2
  exact a.2 _ v d h1 h2
theorem EnvR.get {i : Nat} (h : EnvR K H Γ σ) (e : Γ[i]? = some (some d)) : ∃ v, σ[i]? = some (some v) ∧ Is K H v d := h.2 i d e
theorem EnvR.set {i : Nat} (h : EnvR K H Γ σ) (r : Is K H v d) : EnvR K H (Γ.set i (some d)) (σ.set i (some v)) := by
  refine ⟨by simp [h.1], fun j e q => ?_⟩
  by_cases hj : i = j
  · subst hj
    have hl : i < Γ.length := by
      have := (List.getElem?_eq_some_iff.mp q).1
      simpa using this
    rw [List.getElem?_set_self hl] at q
    cases q
    exact ⟨v, List.getElem?_set_self (by rw [← h.1]; exact hl), r⟩
  · rw [List.getElem?_set_ne hj] at q
    obtain ⟨w, a, b⟩ := h.2 j e q
    exact ⟨w, by rw [List.getElem?_set_ne hj]; exact a, b⟩
theorem EnvR.unset {i : Nat} {o : Option V} (h : EnvR K H Γ σ) : EnvR K H (Γ.set i none) (σ.set i o) := by
  refine ⟨by simp [h.1], fun j e q => ?_⟩
  by_cases hj : i = j
  · subst hj
    by_cases hl : i < Γ.length
    · rw [List.getElem?_set_self hl] at q; cases q
    · rw [List.getElem?_eq_none (by simpa using Nat.le_of_not_lt hl)] at q; cases q
  · rw [List.getElem?_set_ne hj] at q
    obtain ⟨w, a, b⟩ := h.2 j e q
    exact ⟨w, by rw [List.getElem?_set_ne hj]; exact a, b⟩
theorem Is.notup {a : Addr} (h : Is K H (.ref a) d) : (∃ ds, d = .tup ds) ∨ (∃ ds, d = .lst ds) ∨ (∃ C fs, d = .obj C fs) ∨ d = .cell a := by
  cases h with
  | cell => exact .inr (.inr (.inr rfl))
  | tup => exact .inl ⟨_, rfl⟩
  | lst => exact .inr (.inl ⟨_, rfl⟩)
  | obj => exact .inr (.inr (.inl ⟨_, _, rfl⟩))
end
end L3

namespace L3
open PySem PySem.Spec PyProof.Rows L2

/-! ## readings by contents -/
abbrev PX := Str → List (Str × D) → Sto → Prop
abbrev PV := D → Sto → Prop
abbrev ME := PX → Gm → Sto → PV → Prop
abbrev MT := PX → Gm → Sto → (Bool → Sto → Prop) → Prop
abbrev MA := PX → Gm → Sto → (List D → Sto → Prop) → Prop
/-- an error's own dict -/
def XOk (K : PySem.W.Frag) (H0 H : Hp) (oe : Option Addr) (fs : List (Str × D)) : Prop :=
  (fs = [] ∧ oe = none) ∨ fs ≠ [] ∧ ∃ d ws, oe = some d ∧ H d = some (.xd ws) ∧ ws.map (·.1) = fs.map (·.1) ∧ Iss K H0 (ws.map (·.2)) (fs.map (·.2))
def LinkX (K : PySem.W.Frag) (W : WX) (H0 : Hp) (σ : L2.St) (X : PX) : Prop := ∀ (H1 : Hp) (C : Str) (fs : List (Str × D)) (O : Sto) (oe : Option Addr) (H : Hp), Same H0 H1 → Sta K H1 O H → XOk K H1 H oe fs → X C fs O → W (.ref (He.ga K C)) oe σ H
def LinkV (K : PySem.W.Frag) (H0 : Hp) (P : PV) (Q : VK) : Prop := ∀ (H1 : Hp) (v : V) (d : D) (O : Sto) (H : Hp), Same H0 H1 → Is K H1 v d → Sta K H1 O H → P d O → Q v H
def LinkB (K : PySem.W.Frag) (H0 : Hp) (P : Bool → Sto → Prop) (Q : Bool → Hp → Prop) : Prop := ∀ (H1 : Hp) (b : Bool) (O : Sto) (H : Hp), Same H0 H1 → Sta K H1 O H → P b O → Q b H
def LinkA (K : PySem.W.Frag) (H0 : Hp) (P : List D → Sto → Prop) (Q : List V → Hp → Prop) : Prop := ∀ (H1 : Hp) (vs : List V) (ds : List D) (O : Sto) (H : Hp), Same H0 H1 → Iss K H1 vs ds → Sta K H1 O H → P ds O → Q vs H
theorem LinkX.mono {K : PySem.W.Frag} {W : WX} {H0 H1 : Hp} {σ : L2.St} {X : PX} (e : Same H0 H1) (l : LinkX K W H0 σ X) : LinkX K W H1 σ X := fun H2 C fs O oe H s a b c => l H2 C fs O oe H (e.trans s) a b c
def r3E (K : PySem.W.Frag) (W : WX) (m : ME) : TE := fun σ H Q => ∃ Γ O H0 X P, EnvR K H0 Γ σ ∧ Sta K H0 O H ∧ m X Γ O P ∧ LinkX K W H0 σ X ∧ LinkV K H0 P Q
def r3T (K : PySem.W.Frag) (W : WX) (m : MT) : TT := fun σ H Q => ∃ Γ O H0 X P, EnvR K H0 Γ σ ∧ Sta K H0 O H ∧ m X Γ O P ∧ LinkX K W H0 σ X ∧ LinkB K H0 P Q
def r3A (K : PySem.W.Frag) (W : WX) (m : MA) : TA := fun σ H Q => ∃ Γ O H0 X P, EnvR K H0 Γ σ ∧ Sta K H0 O H ∧ m X Γ O P ∧ LinkX K W H0 σ X ∧ LinkA K H0 P Q
theorem peW {X : Cx} {e : Expr} {t t' : TE} (h : PE X e t) (w : ∀ σ H Q, t' σ H Q → t σ H Q) : PE X e t' := ⟨fun pins s σ H Q I q => h.run pins s σ H Q I (w σ H Q q)⟩
theorem ptW {X : Cx} {e : Expr} {t t' : TT} (h : PT X e t) (w : ∀ σ H Q, t' σ H Q → t σ H Q) : PT X e t' := ⟨fun pins s σ H Q I q => h.run pins s σ H Q I (w σ H Q q)⟩
theorem pwW {X : Cx} {e : Expr} {t t' : TT} (h : PW X e t) (w : ∀ σ H Q, t' σ H Q → t σ H Q) : PW X e t' := ⟨fun wh pins s σ H Q I q => h.run wh pins s σ H Q I (w σ H Q q)⟩
theorem paW {X : Cx} {e : List Expr} {t t' : TA} (h : PA X e t) (w : ∀ σ H Q, t' σ H Q → t σ H Q) : PA X e t' := ⟨fun p pins s σ H Q I q => h.run p pins s σ H Q I (w σ H Q q)⟩
theorem psW {X : Cx} {e : Stmt} {t t' : TS} (h : PS X e t) (w : ∀ D σ H, t' D σ H → t D σ H) : PS X e t' := ⟨fun pins s σ H D I q => h.run pins s σ H D I (w D σ H q)⟩
theorem pssW {X : Cx} {e : List Stmt} {t t' : TS} (h : PSs X e t) (w : ∀ D σ H, t' D σ H → t D σ H) : PSs X e t' := ⟨fun pins s σ H D I q => h.run pins s σ H D I (w D σ H q)⟩

/-! ### what a part leaves: the same context, further on -/
section
variable {X : Cx} {W : WX} {pos : Pos}

/-! ### names, constants -/
def mVar (i : Nat) : ME := fun _ Γ O Q => match Γ[i]? with
  | some (some d) => Q d O
  | _ => False
def mC (d : D) : ME := fun _ _ O Q => Q d O
theorem pe3_var {i : Nat} {x : Str} (h : PE X (.Name x pos) (tVar i)) : PE X (.Name x pos) (r3E X.K W (mVar i)) := by
  refine peW h fun σ H Q ⟨Γ, O, H0, Z, P, env, st, hm, lx, lv⟩ => ?_
  unfold mVar at hm
  cases e : Γ[i]? with
  | none => rw [e] at hm; exact hm.elim
  | some o =>
    cases o with
    | none => rw [e] at hm; exact hm.elim
    | some d =>
      rw [e] at hm
      obtain ⟨v, e1, is⟩ := env.get e
      exact ⟨v, e1, lv H0 v d O H (Same.refl _) is st hm⟩
theorem pe3_c {e : Expr} {v : V} {d : D} (h : PE X e (tC v)) (is : ∀ H, Is X.K H v d) : PE X e (r3E X.K W (mC d)) :=
  peW h fun σ H Q ⟨Γ, O, H0, Z, P, env, st, hm, lx, lv⟩ => lv H0 v d O H (Same.refl _) (is _) st hm

/-! ### two parts, an operation by contents -/
abbrev F2 := D → D → Sto → PV → Prop
abbrev F1 := D → Sto → PV → Prop
def mOp (f : F2) (ma mb : ME) : ME := fun X Γ O Q => ma X Γ O fun x O1 => mb X Γ O1 fun y O2 => f x y O2 Q
def mUn (f : F1) (ma : ME) : ME := fun X Γ O Q => ma X Γ O fun x O1 => f x O1 Q
def Rep2 (K : PySem.W.Frag) (r : R2) (f : F2) : Prop := ∀ (H0 : Hp) (O : Sto) (H : Hp) (x y : V) (a b : D) (P : PV) (Q : VK), Sta K H0 O H → Is K H0 x a → Is K H0 y b → f a b O P → LinkV K H0 P Q → r x y H Q
def Rep1 (K : PySem.W.Frag) (r : V → Hp → VK → Prop) (f : F1) : Prop := ∀ (H0 : Hp) (O : Sto) (H : Hp) (x : V) (a : D) (P : PV) (Q : VK), Sta K H0 O H → Is K H0 x a → f a O P → LinkV K H0 P Q → r x H Q
theorem two {K : PySem.W.Frag} {f : F2} {ma mb : ME} {r : R2} (R : Rep2 K r f) {σ : L2.St} {H : Hp} {Q : VK} (h : r3E K W (mOp f ma mb) σ H Q) : r3E K W ma σ H fun x H1 => r3E K W mb σ H1 fun y H2 => r x y H2 Q := by
  obtain ⟨Γ, O, H0, Z, P, env, st, hm, lx, lv⟩ := h
  refine ⟨Γ, O, H0, Z, _, env, st, hm, lx, fun H1 v d O1 H' s1 is1 st1 hm1 => ?_⟩
  refine ⟨Γ, O1, H1, Z, _, env.mono s1, st1, hm1, lx.mono s1, fun H2 w e O2 H'' s2 is2 st2 hm2 => ?_⟩
  exact R H2 O2 H'' v w d e P Q st2 (is1.mono s2) is2 hm2 fun H3 u c O3 H3' s3 is3 st3 hp => lv H3 u c O3 H3' ((s1.trans s2).trans s3) is3 st3 hp
theorem one {K : PySem.W.Frag} {f : F1} {ma : ME} {r : V → Hp → VK → Prop} (R : Rep1 K r f) {σ : L2.St} {H : Hp} {Q : VK} (h : r3E K W (mUn f ma) σ H Q) : r3E K W ma σ H fun x H1 => r x H1 Q := by
  obtain ⟨Γ, O, H0, Z, P, env, st, hm, lx, lv⟩ := h
  refine ⟨Γ, O, H0, Z, _, env, st, hm, lx, fun H1 v d O1 H' s1 is1 st1 hm1 => ?_⟩
  exact R H1 O1 H' v d P Q st1 is1 hm1 fun H3 u c O3 H3' s3 is3 st3 hp => lv H3 u c O3 H3' (s1.trans s3) is3 st3 hp
theorem pe3_op {a b : Expr} {op : Operator} {r : R2} {f : F2} {ma mb : ME} (ho : OpR X (binaryOp op) r) (R : Rep2 X.K r f) (ha : PE X a (r3E X.K W ma)) (hb : PE X b (r3E X.K W mb)) : PE X (.BinOp a op b pos) (r3E X.K W (mOp f ma mb)) :=
  peW (pe_op ho ha hb) fun σ H Q h => two R h
theorem pe3_un {a : Expr} {op : UnaryOp} {r : V → Hp → VK → Prop} {f : F1} {ma : ME} (ho : UnR X (unaryOp op) r) (R : Rep1 X.K r f) (ha : PE X a (r3E X.K W ma)) : PE X (.UnaryOp op a pos) (r3E X.K W (mUn f ma)) :=
  peW (pe_un ho ha) fun σ H Q h => one R h
theorem pe3_cmp {a b : Expr} {op : CmpOp} {r : R2} {f : F2} {ma mb : ME} (ho : OpR X (compareOp op) r) (R : Rep2 X.K r f) (ha : PE X a (r3E X.K W ma)) (hb : PE X b (r3E X.K W mb)) (hm : behindInMarks op b = false) : PE X (.Compare a [op] [b] pos) (r3E X.K W (mOp f ma mb)) :=
  peW (pe_cmpR ho ha hb hm) fun σ H Q h => two R h
/-- a value that is True or False, as a test -/
def mB (m : ME) : MT := fun X Γ O Q => m X Γ O fun x O1 => match x with
  | .bl b => Q b O1
  | _ => False
theorem pt3_B {e : Expr} {t : TE} {m : ME} (h : PT X e (tTest t)) (w : ∀ σ H Q, r3E X.K W m σ H Q → t σ H Q) : PT X e (r3T X.K W (mB m)) := by
  refine ptW h fun σ H Q ⟨Γ, O, H0, Z, P, env, st, hm, lx, lv⟩ => w σ H _ ?_
  refine ⟨Γ, O, H0, Z, _, env, st, hm, lx, fun H1 v d O1 H' s1 is1 st1 hm1 => ?_⟩
  cases is1 with
  | bl b => exact ⟨b, rfl, lv H1 b O1 H' s1 st1 hm1⟩
  | _ => exact hm1.elim
theorem pt3_cmp {a b : Expr} {op : CmpOp} {r : R2} {f : F2} {ma mb : ME} (ho : OpR X (compareOp op) r) (R : Rep2 X.K r f) (ha : PE X a (r3E X.K W ma)) (hb : PE X b (r3E X.K W mb)) (hm : behindInMarks op b = false) : PT X (.Compare a [op] [b] pos) (r3T X.K W (mB (mOp f ma mb))) :=
  pt3_B (pt_cmpR ho ha hb hm) fun σ H Q h => two R h
/-- two comparisons in a row -/
def mChain (f g : F2) (ma mb mc : ME) : ME := fun X Γ O Q => ma X Γ O fun x O1 => mb X Γ O1 fun y O2 => f x y O2 fun k O3 => match k with
  | .bl true => mc X Γ O3 fun z O4 => g y z O4 Q
  | .bl false => Q (.bl false) O3
  | _ => False
theorem three {K : PySem.W.Frag} {f g : F2} {ma mb mc : ME} {r r' : R2} (R : Rep2 K r f) (R' : Rep2 K r' g) {σ : L2.St} {H : Hp} {Q : VK} (h : r3E K W (mChain f g ma mb mc) σ H Q) : tChain r r' (r3E K W ma) (r3E K W mb) (r3E K W mc) σ H Q := by
  obtain ⟨Γ, O, H0, Z, P, env, st, hm, lx, lv⟩ := h
  refine ⟨Γ, O, H0, Z, _, env, st, hm, lx, fun H1 v d O1 H' s1 is1 st1 hm1 => ?_⟩
  refine ⟨Γ, O1, H1, Z, _, env.mono s1, st1, hm1, lx.mono s1, fun H2 w e O2 H'' s2 is2 st2 hm2 => ?_⟩
  refine R H2 O2 H'' v w d e _ _ st2 (is1.mono s2) is2 hm2 fun H3 u c O3 H3' s3 is3 st3 hp => ?_
  have s13 := (s1.trans s2).trans s3
  cases is3 with
  | bl k =>
    refine ⟨k, rfl, ?_⟩
    cases k with
    | true =>
      rw [if_pos rfl]
      refine ⟨Γ, O3, H3, Z, _, env.mono s13, st3, hp, lx.mono s13, fun H4 z e4 O4 H4' s4 is4 st4 hm4 => ?_⟩
      exact R' H4 O4 H4' w z e e4 P Q st4 (is2.mono (s3.trans s4)) is4 hm4 fun H5 u c O5 H5' s5 is5 st5 hp => lv H5 u c O5 H5' ((s13.trans s4).trans s5) is5 st5 hp
    | false =>
      rw [if_neg Bool.false_ne_true]
      exact lv H3 _ _ O3 H3' s13 (.bl false) st3 hp
  | _ => exact hp.elim
theorem pe3_chain {a b c : Expr} {op op' : CmpOp} {r r' : R2} {f g : F2} {ma mb mc : ME} (h : PE X (.Compare a [op, op'] [b, c] pos) (tChain r r' (r3E X.K W ma) (r3E X.K W mb) (r3E X.K W mc))) (R : Rep2 X.K r f) (R' : Rep2 X.K r' g) :
    PE X (.Compare a [op, op'] [b, c] pos) (r3E X.K W (mChain f g ma mb mc)) := peW h fun σ H Q h => three R R' h
theorem pt3_chain {a b c : Expr} {op op' : CmpOp} {r r' : R2} {f g : F2} {ma mb mc : ME} (h : PT X (.Compare a [op, op'] [b, c] pos) (tTest (tChain r r' (r3E X.K W ma) (r3E X.K W mb) (r3E X.K W mc)))) (R : Rep2 X.K r f) (R' : Rep2 X.K r' g) :
    PT X (.Compare a [op, op'] [b, c] pos) (r3T X.K W (mB (mChain f g ma mb mc))) := pt3_B h fun σ H Q h => three R R' h

/-! ### tests -/
/-- truth by contents -/
def truD (O : Sto) : D → Option Bool
  | .non => some false
  | .bl b => some b
  | .int i => some (i != 0)
  | .lst ds => some (!ds.isEmpty)
  | .tup ds => some (!ds.isEmpty)
  | .cell p => match O p with
    | some (.lst ds) => some (!ds.isEmpty)
    | some (.dK ds) => some (!ds.isEmpty)
    | _ => none
  | _ => none
def mTru (m : ME) : MT := fun X Γ O Q => m X Γ O fun x O1 => match truD O1 x with
  | some b => Q b O1
  | none => False
theorem Iss.isEmpty {K : PySem.W.Frag} {H : Hp} {vs : List V} {ds : List D} (h : Iss K H vs ds) : vs.isEmpty = ds.isEmpty := by
  have := h.1
  cases vs <;> cases ds <;> simp at this ⊢
theorem tru3 {K : PySem.W.Frag} {H0 H : Hp} {O : Sto} {x : V} {d : D} {b : Bool} (st : Sta K H0 O H) (is : Is K H0 x d) (e : truD O d = some b) : TruV K x H b := by
  cases is with
  | non => cases e; rfl
  | bl c => cases e; rfl
  | int i => cases e; rfl
  | str x => cases e
  | ty n => cases e
  | cell p =>
    have e2 : (match O p with
      | some (.lst ds) => some (!ds.isEmpty)
      | some (.dK ds) => some (!ds.isEmpty)
      | _ => none) = some b := e
    cases q : O p with
    | none => rw [q] at e2; cases e2
    | some u =>
      rw [q] at e2
      obtain ⟨_, r⟩ := st.cell p u q
      cases u with
      | lst ds =>
        obtain ⟨vs, h1, h2⟩ := r
        cases e2
        exact .inl ⟨vs, SqL.of h1, by rw [h2.isEmpty]⟩
      | dK kvs =>
        obtain ⟨ws, h1, h2, h3⟩ := r
        cases e2
        refine .inr (.inr ⟨ws, h1, ?_⟩)
        have := congrArg List.isEmpty h2
        simpa using this.symm
      | dT kvs => cases e2
      | ins C fs => cases e2
  | tup h l c =>
    cases e
    exact .inr (.inl ⟨_, same_t st.same h, by rw [Iss.isEmpty (⟨l, c⟩ : Iss K H0 _ _)]⟩)
  | lst h l c =>
    cases e
    exact .inl ⟨_, same_l st.same h, by rw [Iss.isEmpty (⟨l, c⟩ : Iss K H0 _ _)]⟩
  | obj h l c => cases e
theorem pt3_tru {e : Expr} {m : ME} (h : PE X e (r3E X.K W m)) (he : ∀ whole, isTrue e X.env whole = (do let v ← whole; standAt e.pos; holding [v] (truthy v))) : PT X e (r3T X.K W (mTru m)) := by
  refine ptW (pt_truth h he) fun σ H Q ⟨Γ, O, H0, Z, P, env, st, hm, lx, lv⟩ => ?_
  refine ⟨Γ, O, H0, Z, _, env, st, hm, lx, fun H1 v d O1 H' s1 is1 st1 hm1 => ?_⟩
  have hm2 : (match truD O1 d with
    | some b => P b O1
    | none => False) := hm1
  cases e : truD O1 d with
  | none => rw [e] at hm2; exact hm2.elim
  | some b => rw [e] at hm2; exact ⟨b, tru3 st1 is1 e, lv H1 b O1 H' s1 st1 hm2⟩
def mAnd (a b : MT) : MT := fun X Γ O Q => a X Γ O fun k O1 => if k = true then b X Γ O1 Q else Q false O1
def mOr (a b : MT) : MT := fun X Γ O Q => a X Γ O fun k O1 => if k = true then Q true O1 else b X Γ O1 Q
def mNot (a : MT) : MT := fun X Γ O Q => a X Γ O fun k O1 => Q (!k) O1
theorem LinkB.mono {K : PySem.W.Frag} {H0 H1 : Hp} {P : Bool → Sto → Prop} {Q : Bool → Hp → Prop} (e : Same H0 H1) (l : LinkB K H0 P Q) : LinkB K H1 P Q := fun H2 b O H s st p => l H2 b O H (e.trans s) st p
theorem LinkV.mono {K : PySem.W.Frag} {H0 H1 : Hp} {P : PV} {Q : VK} (e : Same H0 H1) (l : LinkV K H0 P Q) : LinkV K H1 P Q := fun H2 v b O H s is st p => l H2 v b O H (e.trans s) is st p
theorem LinkA.mono {K : PySem.W.Frag} {H0 H1 : Hp} {P : List D → Sto → Prop} {Q : List V → Hp → Prop} (e : Same H0 H1) (l : LinkA K H0 P Q) : LinkA K H1 P Q := fun H2 v b O H s is st p => l H2 v b O H (e.trans s) is st p
theorem pt3_not {a : Expr} {ta : MT} (ha : PT X a (r3T X.K W ta)) : PT X (.UnaryOp .Not a pos) (r3T X.K W (mNot ta)) := by
  refine ptW (pt_not ha) fun σ H Q ⟨Γ, O, H0, Z, P, env, st, hm, lx, lv⟩ => ?_
  exact ⟨Γ, O, H0, Z, _, env, st, hm, lx, fun H1 b O1 H' s1 st1 hm1 => lv H1 _ O1 H' s1 st1 hm1⟩
theorem pw3_and1 {a : Expr} {ta : MT} (ha : PT X a (r3T X.K W ta)) : PW X (.BoolOp .And [a] pos) (r3T X.K W ta) := pw_and1 ha
theorem pw3_or1 {a : Expr} {ta : MT} (ha : PT X a (r3T X.K W ta)) : PW X (.BoolOp .Or [a] pos) (r3T X.K W ta) := pw_or1 ha
theorem pw3_and {a b : Expr} {rest : List Expr} {ta tb : MT} (ha : PT X a (r3T X.K W ta)) (hb : PW X (.BoolOp .And (b :: rest) pos) (r3T X.K W tb)) : PW X (.BoolOp .And (a :: b :: rest) pos) (r3T X.K W (mAnd ta tb)) := by
  refine pwW (pw_and ha hb) fun σ H Q ⟨Γ, O, H0, Z, P, env, st, hm, lx, lv⟩ => ?_
  refine ⟨Γ, O, H0, Z, _, env, st, hm, lx, fun H1 b O1 H' s1 st1 hm1 => ?_⟩
  cases b with
  | true => rw [if_pos rfl] at hm1 ⊢; exact ⟨Γ, O1, H1, Z, _, env.mono s1, st1, hm1, lx.mono s1, lv.mono s1⟩
  | false => rw [if_neg Bool.false_ne_true] at hm1 ⊢; exact lv H1 false O1 H' s1 st1 hm1
theorem pw3_or {a b : Expr} {rest : List Expr} {ta tb : MT} (ha : PT X a (r3T X.K W ta)) (hb : PW X (.BoolOp .Or (b :: rest) pos) (r3T X.K W tb)) : PW X (.BoolOp .Or (a :: b :: rest) pos) (r3T X.K W (mOr ta tb)) := by
  refine pwW (pw_or ha hb) fun σ H Q ⟨Γ, O, H0, Z, P, env, st, hm, lx, lv⟩ => ?_
  refine ⟨Γ, O, H0, Z, _, env, st, hm, lx, fun H1 b O1 H' s1 st1 hm1 => ?_⟩
  cases b with
  | true => rw [if_pos rfl] at hm1 ⊢; exact lv H1 true O1 H' s1 st1 hm1
  | false => rw [if_neg Bool.false_ne_true] at hm1 ⊢; exact ⟨Γ, O1, H1, Z, _, env.mono s1, st1, hm1, lx.mono s1, lv.mono s1⟩

/-! ### and, or, not as values (all but the last True or False); a if t else b -/
def mAndV (ma mb : ME) : ME := fun X Γ O Q => ma X Γ O fun x O1 => match x with
  | .bl true => mb X Γ O1 Q
  | .bl false => Q (.bl false) O1
  | _ => False
def mOrV (ma mb : ME) : ME := fun X Γ O Q => ma X Γ O fun x O1 => match x with
  | .bl true => Q (.bl true) O1
  | .bl false => mb X Γ O1 Q
  | _ => False
def mNotV (ma : ME) : ME := fun X Γ O Q => ma X Γ O fun x O1 => match x with
  | .bl b => Q (.bl (!b)) O1
  | _ => False
def mIfE (t : MT) (ma mb : ME) : ME := fun X Γ O Q => t X Γ O fun k O1 => if k = true then ma X Γ O1 Q else mb X Γ O1 Q
theorem pe3_and {a b : Expr} {rest : List Expr} {ma mb : ME} (ha : PE X a (r3E X.K W ma)) (hb : PE X (.BoolOp .And (b :: rest) pos) (r3E X.K W mb)) : PE X (.BoolOp .And (a :: b :: rest) pos) (r3E X.K W (mAndV ma mb)) := by
  refine peW (pe_and ha hb) fun σ H Q ⟨Γ, O, H0, Z, P, env, st, hm, lx, lv⟩ => ?_
  refine ⟨Γ, O, H0, Z, _, env, st, hm, lx, fun H1 v d O1 H' s1 is1 st1 hm1 => ?_⟩
  cases is1 with
  | bl b =>
    refine ⟨b, rfl, ?_⟩
    cases b with
    | true => rw [if_pos rfl]; exact ⟨Γ, O1, H1, Z, _, env.mono s1, st1, hm1, lx.mono s1, lv.mono s1⟩
    | false => rw [if_neg Bool.false_ne_true]; exact lv H1 _ _ O1 H' s1 (.bl false) st1 hm1
  | _ => exact hm1.elim
theorem pe3_or {a b : Expr} {rest : List Expr} {ma mb : ME} (ha : PE X a (r3E X.K W ma)) (hb : PE X (.BoolOp .Or (b :: rest) pos) (r3E X.K W mb)) : PE X (.BoolOp .Or (a :: b :: rest) pos) (r3E X.K W (mOrV ma mb)) := by
  refine peW (pe_or ha hb) fun σ H Q ⟨Γ, O, H0, Z, P, env, st, hm, lx, lv⟩ => ?_
  refine ⟨Γ, O, H0, Z, _, env, st, hm, lx, fun H1 v d O1 H' s1 is1 st1 hm1 => ?_⟩
  cases is1 with
  | bl b =>
    refine ⟨b, rfl, ?_⟩
    cases b with
    | true => rw [if_pos rfl]; exact lv H1 _ _ O1 H' s1 (.bl true) st1 hm1
    | false => rw [if_neg Bool.false_ne_true]; exact ⟨Γ, O1, H1, Z, _, env.mono s1, st1, hm1, lx.mono s1, lv.mono s1⟩
  | _ => exact hm1.elim
theorem pe3_not {a : Expr} {ma : ME} (ha : PE X a (r3E X.K W ma)) : PE X (.UnaryOp .Not a pos) (r3E X.K W (mNotV ma)) := by
  refine peW (pe_not ha) fun σ H Q ⟨Γ, O, H0, Z, P, env, st, hm, lx, lv⟩ => ?_
  refine ⟨Γ, O, H0, Z, _, env, st, hm, lx, fun H1 v d O1 H' s1 is1 st1 hm1 => ?_⟩
  cases is1 with
  | bl b => exact ⟨b, rfl, lv H1 _ _ O1 H' s1 (.bl _) st1 hm1⟩
  | _ => exact hm1.elim
theorem pe3_if {c a b : Expr} {t : MT} {ma mb : ME} (hc : PT X c (r3T X.K W t)) (ha : PE X a (r3E X.K W ma)) (hb : PE X b (r3E X.K W mb)) : PE X (.IfExp c a b pos) (r3E X.K W (mIfE t ma mb)) := by
  refine peW (pe_ifExp hc ha hb) fun σ H Q ⟨Γ, O, H0, Z, P, env, st, hm, lx, lv⟩ => ?_
  refine ⟨Γ, O, H0, Z, _, env, st, hm, lx, fun H1 b O1 H' s1 st1 hm1 => ?_⟩
  cases b with
  | true => rw [if_pos rfl] at hm1 ⊢; exact ⟨Γ, O1, H1, Z, _, env.mono s1, st1, hm1, lx.mono s1, lv.mono s1⟩
  | false => rw [if_neg Bool.false_ne_true] at hm1 ⊢; exact ⟨Γ, O1, H1, Z, _, env.mono s1, st1, hm1, lx.mono s1, lv.mono s1⟩

/-! ### arguments, displays -/
def mNil : MA := fun _ _ O Q => Q [] O
def mCons (ma : ME) (mr : MA) : MA := fun X Γ O Q => ma X Γ O fun x O1 => mr X Γ O1 fun xs O2 => Q (x :: xs) O2
theorem pa3_nil : PA X [] (r3A X.K W mNil) := paW pa_nil fun σ H Q ⟨Γ, O, H0, Z, P, env, st, hm, lx, lv⟩ => lv H0 [] [] O H (Same.refl _) .nil st hm
theorem pa3_cons {e : Expr} {es : List Expr} {ma : ME} {mr : MA} (ha : PE X e (r3E X.K W ma)) (hr : PA X es (r3A X.K W mr)) (hs : starEach (e :: es) X.env = (false, eval e X.env) :: starEach es X.env) : PA X (e :: es) (r3A X.K W (mCons ma mr)) := by
  refine paW (pa_cons ha hr hs) fun σ H Q ⟨Γ, O, H0, Z, P, env, st, hm, lx, lv⟩ => ?_
  refine ⟨Γ, O, H0, Z, _, env, st, hm, lx, fun H1 v d O1 H' s1 is1 st1 hm1 => ?_⟩
  refine ⟨Γ, O1, H1, Z, _, env.mono s1, st1, hm1, lx.mono s1, fun H2 vs ds O2 H'' s2 is2 st2 hm2 => ?_⟩
  exact lv H2 _ _ O2 H'' (s1.trans s2) (.cons (is1.mono s2) is2) st2 hm2
/-- freezing: what may change no longer, seen as data -/
inductive Fz : D → Sto → D → Sto → Prop where
  | refl {d : D} {O : Sto} : Fz d O d O
  | lst {p : Addr} {ds : List D} {O : Sto} (h : O p = some (.lst ds)) : Fz (.cell p) O (.lst ds) (del O p)
  | obj {p : Addr} {C : Str} {fs : List (Str × D)} {O : Sto} (h : O p = some (.ins C fs)) : Fz (.cell p) O (.obj C fs) (del O p)
  | drop {d : D} {p : Addr} {u : MO} {O : Sto} (h : O p = some u) : Fz d O d (del O p)
  | tup {ds es : List D} {O O' : Sto} {d e : D} {i : Nat} (h : Fz d O e O') (hd : ds[i]? = some d) (he : es = ds.set i e) : Fz (.tup ds) O (.tup es) O'
  | trans {d d1 d2 : D} {O O1 O2 : Sto} (h : Fz d O d1 O1) (k : Fz d1 O1 d2 O2) : Fz d O d2 O2
theorem Sta.freeze {K : PySem.W.Frag} {H0 H : Hp} {O : Sto} {p : Addr} {u : MO} {o : HO} (st : Sta K H0 O H) (h : O p = some u) (e : H p = some o) : Same H0 (upd H0 p o) ∧ Sta K (upd H0 p o) (del O p) H := by
  obtain ⟨h0, _⟩ := st.cell p u h
  refine ⟨same_upd h0, fun b x q => ?_, fun b x q => ?_⟩
  · by_cases hb : b = p
    · subst hb; rw [upd_same] at q; cases q; exact e
    · rw [upd_ne hb] at q; exact st.same b x q
  · have hb : b ≠ p := by rintro rfl; rw [del_same] at q; cases q
    rw [del_ne hb] at q
    obtain ⟨a, r⟩ := st.cell b x q
    exact ⟨by rw [upd_ne hb]; exact a, r.mono (same_upd h0)⟩
theorem Fz.ok {K : PySem.W.Frag} {d e : D} {O O' : Sto} (f : Fz d O e O') : ∀ {H0 H : Hp} {v : V}, Is K H0 v d → Sta K H0 O H → ∃ H1, Same H0 H1 ∧ Is K H1 v e ∧ Sta K H1 O' H := by
  induction f with
  | refl => exact fun is st => ⟨_, Same.refl _, is, st⟩
  | @lst p ds O h =>
    intro H0 H v is st
    cases is with
    | cell =>
      obtain ⟨h0, vs, e, r⟩ := st.cell p _ h
      obtain ⟨s, st'⟩ := st.freeze h e
      exact ⟨_, s, .lst (SqL.of upd_same) r.1 (r.mono s).2, st'⟩
  | @obj p C fs O h =>
    intro H0 H v is st
    cases is with
    | cell =>
      obtain ⟨h0, dx, vs, e, k, r⟩ := st.cell p _ h
      obtain ⟨s, st'⟩ := st.freeze h e
      exact ⟨_, s, .obj upd_same k (r.mono s).2, st'⟩
  | @drop d p u O h =>
    intro H0 H v is st
    obtain ⟨h0, r⟩ := st.cell p _ h
    have ⟨o, e⟩ : ∃ o, H p = some o := by
      cases u with
      | lst ds => obtain ⟨vs, e, _⟩ := r; exact ⟨_, e⟩
      | dK ds => obtain ⟨vs, e, _⟩ := r; exact ⟨_, e⟩
      | dT ds => obtain ⟨vs, e, _⟩ := r; exact ⟨_, e⟩
      | ins C ds => obtain ⟨dx, vs, e, _⟩ := r; exact ⟨_, e⟩
    obtain ⟨s, st'⟩ := st.freeze h e
    exact ⟨_, s, is.mono s, st'⟩
  | @tup ds es O O' d e i h hd he ih =>
    intro H0 H v is st
    cases is with
    | @tup a vs _ hq hl hc =>
      obtain ⟨w, hw, is'⟩ := Iss.get (⟨hl, hc⟩ : Iss K H0 vs ds) hd
      obtain ⟨H1, s, is1, st1⟩ := ih is' st
      refine ⟨H1, s, ?_, st1⟩
      have h3 : Iss K H0 vs ds := ⟨hl, hc⟩
      have h2 : Iss K H1 (vs.set i w) (ds.set i e) := Iss.set (h3.mono s) is1
      have e2 : vs.set i w = vs := by
        apply List.ext_getElem?
        intro j
        by_cases hj : i = j
        · subst hj
          rw [List.getElem?_set_self (List.getElem?_eq_some_iff.mp hw).1, hw]
        · rw [List.getElem?_set_ne hj]
      rw [e2] at h2
      rw [he]
      exact .tup (same_t s hq) h2.1 h2.2
  | trans h k ih1 ih2 =>
    intro H0 H v is st
    obtain ⟨H1, s1, is1, st1⟩ := ih1 is st
    obtain ⟨H2, s2, is2, st2⟩ := ih2 is1 st1
    exact ⟨H2, s1.trans s2, is2, st2⟩
/-- what a value may also be said to be -/
def orFz (Q : PV) : PV := fun d O => ∃ e O', Fz d O e O' ∧ Q e O'
theorem LinkV.fz {K : PySem.W.Frag} {H0 : Hp} {P : PV} {Q : VK} (l : LinkV K H0 P Q) : LinkV K H0 (orFz P) Q := by
  rintro H1 v d O H s is st ⟨e, O', f, p⟩
  obtain ⟨H2, s2, is2, st2⟩ := f.ok is st
  exact l H2 v e O' H (s.trans s2) is2 st2 p
def mTup (m : MA) : ME := fun X Γ O Q => m X Γ O fun ds O1 => ds.length ≤ sizeLine ∧ Q (.tup ds) O1
def mLst (m : MA) : ME := fun X Γ O Q => m X Γ O fun ds O1 => ds.length ≤ sizeLine ∧ ∀ p, O1 p = none → orFz Q (.cell p) (put O1 p (.lst ds))
theorem pe3_tup {es : List Expr} {x1 : Nat} {m : MA} (h : PA X es (r3A X.K W m)) : PE X (.Tuple es x1 pos) (r3E X.K W (mTup m)) := by
  refine peW (pe_tup h) fun σ H Q ⟨Γ, O, H0, Z, P, env, st, hm, lx, lv⟩ => ?_
  refine ⟨Γ, O, H0, Z, _, env, st, hm, lx, fun H1 vs ds O1 H' s1 is1 st1 hm1 => ?_⟩
  refine ⟨by rw [is1.1]; exact hm1.1, fun p hp => ?_⟩
  have h0 := (st1.free hp).2
  exact lv _ _ _ O1 _ (s1.trans (same_upd h0)) (.tup (SqT.of upd_same) is1.1 (is1.mono (same_upd h0)).2) (st1.new0 hp) hm1.2
theorem pe3_lst {es : List Expr} {m : MA} (h : PA X es (r3A X.K W m)) : PE X (.List es pos) (r3E X.K W (mLst m)) := by
  refine peW (pe_lst h) fun σ H Q ⟨Γ, O, H0, Z, P, env, st, hm, lx, lv⟩ => ?_
  refine ⟨Γ, O, H0, Z, _, env, st, hm, lx, fun H1 vs ds O1 H' s1 is1 st1 hm1 => ?_⟩
  refine ⟨by rw [is1.1]; exact hm1.1, fun p hp => ?_⟩
  exact lv.fz H1 _ _ _ _ s1 (.cell p) (st1.newC (u := .lst ds) hp ⟨vs, upd_same, is1⟩) (hm1.2 p (st1.free hp).1)
end
end L3

namespace L3
open PySem PySem.Spec PyProof.Rows L2

section
variable {K : PySem.W.Frag} {H0 H : Hp} {O : Sto} {v : V} {d : D} {ds : List D}
/-! ### lists and sequences, as they stand -/
def lstOf (O : Sto) : D → Option (List D)
  | .lst ds => some ds
  | .cell p => match O p with
    | some (.lst ds) => some ds
    | _ => none
  | _ => none
def seqOf (O : Sto) : D → Option (List D)
  | .lst ds => some ds
  | .tup ds => some ds
  | .cell p => match O p with
    | some (.lst ds) => some ds
    | _ => none
  | _ => none
theorem lstOf_cell {p : Addr} (h : lstOf O (.cell p) = some ds) : O p = some (.lst ds) := by
  have h2 : (match O p with
    | some (.lst ds) => some ds
    | _ => none) = some ds := h
  cases q : O p with
  | none => rw [q] at h2; cases h2
  | some u =>
    rw [q] at h2
    cases u with
    | lst es => cases h2; rfl
    | _ => cases h2
theorem lstOf_ok (st : Sta K H0 O H) (is : Is K H0 v d) (h : lstOf O d = some ds) : ∃ a vs, v = .ref a ∧ SqL K H a vs ∧ Iss K H0 vs ds := by
  cases is with
  | lst r l c => cases h; exact ⟨_, _, rfl, same_l st.same r, l, c⟩
  | cell p =>
    obtain ⟨_, vs, e, r⟩ := st.cell p _ (lstOf_cell h)
    exact ⟨p, vs, rfl, .inl (.inl e), r⟩
  | _ => cases h
theorem seqOf_ok (st : Sta K H0 O H) (is : Is K H0 v d) (h : seqOf O d = some ds) : ∃ a vs, v = .ref a ∧ (SqL K H a vs ∨ SqT K H a vs) ∧ Iss K H0 vs ds := by
  cases is with
  | lst r l c => cases h; exact ⟨_, _, rfl, .inl (same_l st.same r), l, c⟩
  | tup r l c => cases h; exact ⟨_, _, rfl, .inr (same_t st.same r), l, c⟩
  | cell p =>
    obtain ⟨_, vs, e, r⟩ := st.cell p _ (lstOf_cell h)
    exact ⟨p, vs, rfl, .inl (.inl (.inl e)), r⟩
  | _ => cases h
theorem Is.int_ (h : Is K H v (.int i)) : v = .int i := by cases h; rfl
theorem Is.bl_ (h : Is K H v (.bl i)) : v = .bl i := by cases h; rfl
theorem Is.str_ (h : Is K H v (.str i)) : v = .str i := by cases h; rfl
theorem Is.non_ (h : Is K H v .non) : v = .non := by cases h; rfl
theorem Is.tup_ (h : Is K H v (.tup ds)) : ∃ a vs, v = .ref a ∧ SqT K H a vs ∧ Iss K H vs ds := by
  cases h with
  | tup r l c => exact ⟨_, _, rfl, r, l, c⟩
theorem Is.cell_ {p : Addr} (h : Is K H v (.cell p)) : v = .ref p := by cases h; rfl
end

/-! ### operators by contents -/
/-- lists of any kind of standing: + -/
def rCatR (K : PySem.W.Frag) : R2 := fun x y H Q => ∃ l b xs zs, x = .ref l ∧ y = .ref b ∧ SqL K H l xs ∧ SqL K H b zs ∧ xs.length + zs.length ≤ sizeLine ∧ ∀ p, H p = none → Q (.ref p) (upd H p (.lst (xs ++ zs)))
theorem lstRd {X : Cx} {pins : List (Addr × Obj)} {σ : L2.St} {H : Hp} {s : Shared} {l : Addr} {xs : List V} (I : Inv X pins σ H s) (h : Rd H l (.lst xs)) : xs.length ≤ sizeLine ∧ ∃ (its : List Value) (n : Nat), Vals xs its ∧ xs.length = its.length ∧ s.heap.get? l = some { cls := .type "list", data := .seq its.toArray n } := by
  obtain ⟨z, its, n, r, e⟩ := h.ok I.hok
  exact ⟨z, its, n, r, r.length, e⟩
theorem op_catR {X : Cx} : OpR X (binaryOp .Add) (rCatR X.K) := by
  intro pins s σ H x y v u Q I rx ry h
  obtain ⟨l, b, xs, zs, rfl, rfl, hH, hB, hz, q⟩ := h
  cases rx
  cases ry
  obtain ⟨its, r, ⟨⟨cls, dd, data, sl⟩, n, ho, hc, hd, hs⟩, z⟩ := I.list hH
  obtain ⟨its2, r2, ⟨⟨cls2, dd2, data2, sl2⟩, n2, ho2, hc2, hd2, hs2⟩, z2⟩ := I.list hB
  simp only at hc hd hs hc2 hd2 hs2
  subst hc hd hs hc2 hd2 hs2
  have hl := r.length
  have hl2 := r2.length
  have e : its.toArray ++ its2.toArray = (its ++ its2).toArray := by simp
  refine concat_meets ⟨_, ho, rfl⟩ ⟨_, ho2, rfl⟩ noFill_list_add seq_list_add PySem.F.slot_list_add PySem.F.entry_list_add (PySem.F.args_list_add_2 _ _) (list_addW l b its.toArray its2.toArray n n2 _ _ sl sl2 (by rw [List.size_toArray, List.size_toArray]; omega)) ⟨ho, ho2, ?_⟩
  rw [e]
  exact ⟨.ref _, _, I.lnew (t' := s.toks) (r.append r2) (by rw [List.length_append]; omega), rfl, q _ I.fresh⟩
def fAdd : F2 := fun a b O Q => match a, b with
  | .int i, .int j => Q (.int (i + j)) O
  | .str x, .str y => x.length + y.length ≤ sizeLine ∧ Q (.str (x ++ y)) O
  | .tup xs, .tup ys => xs.length + ys.length ≤ sizeLine ∧ Q (.tup (xs ++ ys)) O
  | a, b => match lstOf O a, lstOf O b with
    | some xs, some ys => xs.length + ys.length ≤ sizeLine ∧ ∀ p, O p = none → orFz Q (.cell p) (put O p (.lst (xs ++ ys)))
    | _, _ => False
def rAdd3 (K : PySem.W.Frag) : R2 := fun x y H Q => (rI0 (fun i j => .int (i + j)) x y H Q ∨ (∃ i j, x = .str i ∧ y = .str j ∧ i.length + j.length ≤ sizeLine ∧ Q (.str (i ++ j)) H)) ∨ (rCatA K x y H Q ∨ rCatR K x y H Q)
theorem op_add3 {X : Cx} : OpR X (binaryOp .Add) (rAdd3 X.K) := OpR.or (OpR.or op_add op_add_str) (OpR.or op_catA op_catR)
theorem rep_add {K : PySem.W.Frag} : Rep2 K (rAdd3 K) fAdd := by
  intro H0 O H x y a b P Q st ix iy h lv
  have lists : ∀ xs ys, lstOf O a = some xs → lstOf O b = some ys → (xs.length + ys.length ≤ sizeLine ∧ ∀ p, O p = none → orFz P (.cell p) (put O p (.lst (xs ++ ys)))) → rAdd3 K x y H Q := by
    intro xs ys e1 e2 ⟨hz, h⟩
    obtain ⟨p, vs, rfl, r1, i1⟩ := lstOf_ok st ix e1
    obtain ⟨q, us, rfl, r2, i2⟩ := lstOf_ok st iy e2
    refine .inr (.inr ⟨p, q, vs, us, rfl, rfl, r1, r2, by rw [i1.1, i2.1]; exact hz, fun c hc => ?_⟩)
    exact lv.fz H0 _ _ _ _ (Same.refl _) (.cell c) (st.newC (u := .lst (xs ++ ys)) hc ⟨_, upd_same, i1.append i2⟩) (h c (st.free hc).1)
  unfold fAdd at h
  split at h
  · cases ix; cases iy
    exact .inl (.inl ⟨_, _, rfl, rfl, lv H0 _ _ O H (Same.refl _) (.int _) st h⟩)
  · cases ix; cases iy
    exact .inl (.inr ⟨_, _, rfl, rfl, h.1, lv H0 _ _ O H (Same.refl _) (.str _) st h.2⟩)
  · rename_i xs ys
    obtain ⟨p, vs, rfl, r1, i1⟩ := ix.tup_
    obtain ⟨q, us, rfl, r2, i2⟩ := iy.tup_
    refine .inr (.inl ⟨p, q, vs, us, rfl, rfl, same_t st.same r1, same_t st.same r2, by rw [i1.1, i2.1]; exact h.1, fun e => ?_, fun e1 e2 => ?_, fun e1 e2 c hc => ?_⟩)
    · subst e
      have : xs = [] := List.length_eq_zero_iff.mp (i1.1.symm.trans rfl)
      subst this
      exact lv H0 _ _ O H (Same.refl _) (.tup r2 i2.1 i2.2) st h.2
    · subst e2
      have : ys = [] := List.length_eq_zero_iff.mp (i2.1.symm.trans rfl)
      subst this
      have h2 := h.2
      rw [List.append_nil] at h2
      exact lv H0 _ _ O H (Same.refl _) (.tup r1 i1.1 i1.2) st h2
    · have i3 := i1.append i2
      have h0 := (st.free hc).2
      exact lv _ _ _ O _ (same_upd h0) (.tup (SqT.of upd_same) i3.1 (i3.mono (same_upd h0)).2) (st.new0 hc) h.2
  · split at h
    · rename_i xs ys e1 e2
      exact lists xs ys e1 e2 h
    · exact h.elim
def fI2 (C : Int → Int → Prop) (g : Int → Int → D) : F2 := fun a b O Q => match a, b with
  | .int i, .int j => C i j ∧ Q (g i j) O
  | _, _ => False
theorem rep_I2 {K : PySem.W.Frag} {C C' : Int → Int → Prop} {g : Int → Int → V} {g' : Int → Int → D} (hC : ∀ i j, C' i j → C i j) (hg : ∀ H i j, C' i j → Is K H (g i j) (g' i j)) : Rep2 K (rI C g) (fI2 C' g') := by
  intro H0 O H x y a b P Q st ix iy h lv
  unfold fI2 at h
  split at h
  · cases ix; cases iy
    exact ⟨_, _, rfl, rfl, hC _ _ h.1, lv H0 _ _ O H (Same.refl _) (hg _ _ _ h.1) st h.2⟩
  · exact h.elim
def fI0 (g : Int → Int → D) : F2 := fun a b O Q => match a, b with
  | .int i, .int j => Q (g i j) O
  | _, _ => False
theorem rep_I0 {K : PySem.W.Frag} {g : Int → Int → V} {g' : Int → Int → D} (hg : ∀ H i j, Is K H (g i j) (g' i j)) : Rep2 K (rI0 g) (fI0 g') := by
  intro H0 O H x y a b P Q st ix iy h lv
  unfold fI0 at h
  split at h
  · cases ix; cases iy
    exact ⟨_, _, rfl, rfl, lv H0 _ _ O H (Same.refl _) (hg _ _ _) st h⟩
  · exact h.elim
def fSub : F2 := fI0 fun i j => .int (i - j)
theorem rep_sub {K : PySem.W.Frag} : Rep2 K (rI0 fun i j => .int (i - j)) fSub := rep_I0 fun _ _ _ => .int _
/-- the factors' sizes -/
def mulOk (i j : Int) : Prop := (i.natAbs < 2 ^ 64 ∨ j.natAbs < 2 ^ 64) ∨ ∃ n, 0 < n ∧ n ≤ 500000 ∧ i.natAbs < 2 ^ n ∧ j.natAbs < 2 ^ n
theorem mulOk.ok {i j : Int} (h : mulOk i j) : CMul i j ∨ CMulW i j := by
  rcases h with (h | h) | ⟨n, h0, h1, h2, h3⟩
  · exact .inl (.inl ⟨by omega, by omega⟩)
  · exact .inl (.inr ⟨by omega, by omega⟩)
  · exact .inr (wide_mul h2 h3 h0 h0 (by omega))
/-- a text so many times -/
def repS (z : Str) (k : Int) : Str := if k < 1 then Str.empty else if (k == 1 || z.length == 0) = true then z else ⟨(List.replicate k.toNat z.cps).foldl (· ++ ·) #[]⟩
theorem fold_size (a : Array Nat) : ∀ (n : Nat) (acc : Array Nat), ((List.replicate n a).foldl (· ++ ·) acc).size = acc.size + n * a.size
  | 0, acc => by simp
  | n + 1, acc => by
    rw [List.replicate_succ, List.foldl_cons, fold_size a n, Array.size_append, Nat.succ_mul]
    omega
theorem repS_len {z : Str} {k : Int} (h : z.length * k.toNat ≤ sizeLine) (hk : 1 ≤ k) : (⟨(List.replicate k.toNat z.cps).foldl (· ++ ·) #[]⟩ : Str).length ≤ sizeLine := by
  show ((List.replicate k.toNat z.cps).foldl (· ++ ·) #[]).size ≤ sizeLine
  rw [fold_size]
  have : z.cps.size = z.length := rfl
  rw [this, Nat.mul_comm]
  simpa using h
def rMulS : R2 := fun x y H Q => ∃ z k, x = .str z ∧ y = .int k ∧ -(2 ^ 63) ≤ k ∧ k < 2 ^ 63 ∧ z.length * k.toNat ≤ sizeLine ∧ Q (.str (repS z k)) H
theorem op_mulS {X : Cx} : OpR X (binaryOp .Mult) rMulS := by
  intro pins s σ H x y v u Q I rx ry h
  obtain ⟨z, k, rfl, rfl, h1, h2, hz, q⟩ := h
  obtain ⟨t, rfl⟩ := rx
  obtain ⟨t', rfl⟩ := ry
  refine PySem.P.mul_str (by rw [decide_eq_false (by omega), decide_eq_false (by omega)]; rfl) (fun hk _ => ?_) (fun hk _ => ?_) ?_
  · have h0 : 0 < k := by omega
    have e : (z.length : Int) * k ≤ 2 ^ 63 - 1 := by
      have e1 : ((z.length * k.toNat : Nat) : Int) = (z.length : Int) * k := by
        rw [Int.natCast_mul, Int.toNat_of_nonneg (by omega)]
      have e2 : ((z.length * k.toNat : Nat) : Int) ≤ (sizeLine : Int) := by exact_mod_cast hz
      have e3 : (sizeLine : Int) ≤ 2 ^ 63 - 1 := by decide
      rw [← e1]
      exact Int.le_trans e2 e3
    have := Int.le_ediv_of_mul_le h0 e
    omega
  · show decide (z.length * k.toNat > sizeLine) = false
    exact decide_eq_false (by omega)
  · unfold repS at q
    by_cases hk : k < 1
    · rw [if_pos hk] at q ⊢
      exact ⟨Nat.zero_le _, .str _, H, I.tok _, ⟨_, rfl⟩, q⟩
    · rw [if_neg hk] at q ⊢
      by_cases hc : (k == 1 || z.length == 0) = true
      · rw [if_pos hc] at q ⊢
        exact ⟨.str z, H, I, ⟨_, rfl⟩, q⟩
      · rw [if_neg hc] at q ⊢
        exact ⟨repS_len hz (by omega), .str _, H, I.tok _, ⟨_, rfl⟩, q⟩
def fMul : F2 := fun a b O Q => match a, b with
  | .int i, .int j => mulOk i j ∧ Q (.int (i * j)) O
  | .str z, .int k => (-(2 ^ 63) ≤ k ∧ k < 2 ^ 63 ∧ z.length * k.toNat ≤ sizeLine) ∧ Q (.str (repS z k)) O
  | _, _ => False
def rMul3 : R2 := fun x y H Q => (rI CMul (fun i j => .int (i * j)) x y H Q ∨ rI CMulW (fun i j => .int (i * j)) x y H Q) ∨ rMulS x y H Q
theorem op_mul3 {X : Cx} : OpR X (binaryOp .Mult) rMul3 := OpR.or (OpR.or op_mul op_mulW) op_mulS
theorem rep_mul {K : PySem.W.Frag} : Rep2 K rMul3 fMul := by
  intro H0 O H x y a b P Q st ix iy h lv
  unfold fMul at h
  split at h
  · cases ix; cases iy
    rcases h.1.ok with c | c
    · exact .inl (.inl ⟨_, _, rfl, rfl, c, lv H0 _ _ O H (Same.refl _) (.int _) st h.2⟩)
    · exact .inl (.inr ⟨_, _, rfl, rfl, c, lv H0 _ _ O H (Same.refl _) (.int _) st h.2⟩)
  · cases ix; cases iy
    exact .inr ⟨_, _, rfl, rfl, h.1.1, h.1.2.1, h.1.2.2, lv H0 _ _ O H (Same.refl _) (.str _) st h.2⟩
  · exact h.elim
def divOk (_ j : Int) : Prop := 0 < j ∧ (j < 1073741824 ∨ ∃ n, 0 < n ∧ n ≤ 9000 ∧ j < 2 ^ n)
def fMod : F2 := fI2 (fun _ j => 0 < j) fun i j => .int (i % j)
theorem rep_mod {K : PySem.W.Frag} : Rep2 K (rI (fun _ j => 0 < j) fun i j => .int (i % j)) fMod := rep_I2 (fun _ _ h => h) fun _ _ _ _ => .int _
def fDiv : F2 := fI2 divOk fun i j => .int (i / j)
def rDiv3 : R2 := fun x y H Q => rI CDiv (fun i j => .int (i / j)) x y H Q ∨ rI CDivW (fun i j => .int (i / j)) x y H Q
theorem op_div3 {X : Cx} : OpR X (binaryOp .FloorDiv) rDiv3 := OpR.or op_fdiv op_fdivW
theorem rep_div {K : PySem.W.Frag} : Rep2 K rDiv3 fDiv := by
  intro H0 O H x y a b P Q st ix iy h lv
  unfold fDiv fI2 at h
  split at h
  · cases ix; cases iy
    rename_i i j
    obtain ⟨⟨h0, h1 | ⟨n, h1, h2, h3⟩⟩, h⟩ := h
    · exact .inl ⟨_, _, rfl, rfl, ⟨h0, h1⟩, lv H0 _ _ O H (Same.refl _) (.int _) st h⟩
    · refine .inr ⟨_, _, rfl, rfl, wide_div h0 (b := n) ?_ h1 h2, lv H0 _ _ O H (Same.refl _) (.int _) st h⟩
      have : (j.natAbs : Int) < 2 ^ n := by omega
      exact_mod_cast this
  · exact h.elim
def fPow : F2 := fI2 (fun i j => 0 ≤ j ∧ j ≤ 1000000 ∧ i.natAbs < 2 ^ 64) fun i j => .int (i ^ j.toNat)
theorem rep_pow {K : PySem.W.Frag} : Rep2 K (rI CPow fun i j => .int (i ^ j.toNat)) fPow := rep_I2 (fun _ _ h => h) fun _ _ _ _ => .int _
def fNeg : F1 := fun a O Q => match a with
  | .int i => Q (.int (-i)) O
  | _ => False
theorem rep_neg {K : PySem.W.Frag} : Rep1 K (rU fun i => .int (-i)) fNeg := by
  intro H0 O H x a P Q st ix h lv
  cases ix with
  | int i => exact ⟨_, rfl, lv H0 _ _ O H (Same.refl _) (.int _) st h⟩
  | _ => exact h.elim
def fLt : F2 := fI0 fun i j => .bl (decide (i < j))
def fLe : F2 := fI0 fun i j => .bl (decide (i ≤ j))
def fGt : F2 := fI0 fun i j => .bl (decide (j < i))
def fGe : F2 := fI0 fun i j => .bl (decide (j ≤ i))
theorem rep_lt {K : PySem.W.Frag} : Rep2 K (rI0 fun i j => .bl (decide (i < j))) fLt := rep_I0 fun _ _ _ => .bl _
theorem rep_le {K : PySem.W.Frag} : Rep2 K (rI0 fun i j => .bl (decide (i ≤ j))) fLe := rep_I0 fun _ _ _ => .bl _
theorem rep_gt {K : PySem.W.Frag} : Rep2 K (rI0 fun i j => .bl (decide (j < i))) fGt := rep_I0 fun _ _ _ => .bl _
theorem rep_ge {K : PySem.W.Frag} : Rep2 K (rI0 fun i j => .bl (decide (j ≤ i))) fGe := rep_I0 fun _ _ _ => .bl _
/-- is None -/
def fIsN (neg : Bool) : F2 := fun a b O Q => match b with
  | .non => match a with
    | .non => Q (.bl (!neg)) O
    | _ => Q (.bl neg) O
  | _ => False
theorem Is.isNon {K : PySem.W.Frag} {H : Hp} {v : V} {d : D} (h : Is K H v d) : (v = .non ↔ d = .non) := by
  cases h <;> simp
theorem rep_isN {K : PySem.W.Frag} : Rep2 K (fun x y H Q => y = .non ∧ Q (.bl (decide (x = .non))) H) (fIsN false) := by
  intro H0 O H x y a b P Q st ix iy h lv
  unfold fIsN at h
  split at h
  · refine ⟨iy.non_, ?_⟩
    split at h
    · rw [ix.non_]; exact lv H0 _ _ O H (Same.refl _) (.bl _) st h
    · rename_i hn
      have : ¬ x = .non := fun e => hn (ix.isNon.mp e)
      rw [decide_eq_false this]
      exact lv H0 _ _ O H (Same.refl _) (.bl _) st h
  · exact h.elim
theorem rep_notN {K : PySem.W.Frag} : Rep2 K (fun x y H Q => y = .non ∧ Q (.bl (!decide (x = .non))) H) (fIsN true) := by
  intro H0 O H x y a b P Q st ix iy h lv
  unfold fIsN at h
  split at h
  · refine ⟨iy.non_, ?_⟩
    split at h
    · rw [ix.non_]; exact lv H0 _ _ O H (Same.refl _) (.bl _) st h
    · rename_i hn
      have : ¬ x = .non := fun e => hn (ix.isNon.mp e)
      rw [decide_eq_false this]
      exact lv H0 _ _ O H (Same.refl _) (.bl _) st h
  · exact h.elim

/-! ### == of data -/
mutual
inductive Py (O : Sto) : D → PyData → Prop where
  | non : Py O .non .none
  | bl (b : Bool) : Py O (.bl b) (.bool b)
  | int (i : Int) : Py O (.int i) (.int i)
  | str (x : Str) : Py O (.str x) (.str x)
  | tup {ds : List D} {xs : List PyData} (h : Pys O ds xs) : Py O (.tup ds) (.tuple xs)
  | lst {ds : List D} {xs : List PyData} (h : Pys O ds xs) : Py O (.lst ds) (.list xs)
  | cell {p : Addr} {ds : List D} {xs : List PyData} (e : O p = some (.lst ds)) (h : Pys O ds xs) : Py O (.cell p) (.list xs)
inductive Pys (O : Sto) : List D → List PyData → Prop where
  | nil : Pys O [] []
  | cons {d : D} {ds : List D} {x : PyData} {xs : List PyData} (h : Py O d x) (t : Pys O ds xs) : Pys O (d :: ds) (x :: xs)
end
mutual
theorem Py.dp {K : PySem.W.Frag} {H0 H : Hp} {O : Sto} (st : Sta K H0 O H) : ∀ {d : D} {x : PyData} {v : V}, Py O d x → Is K H0 v d → Dp K H v x
  | _, _, _, .non, .non => .non
  | _, _, _, .bl b, .bl _ => .bl b
  | _, _, _, .int b, .int _ => .int b
  | _, _, _, .str b, .str _ => .str b
  | _, _, _, .tup h, .tup r l c => .tup (same_t st.same r) (Pys.dp st h ⟨l, c⟩)
  | _, _, _, .lst h, .lst r l c => .lst (same_l st.same r) (Pys.dp st h ⟨l, c⟩)
  | _, _, _, .cell e h, r => by
    cases r
    obtain ⟨_, vs, e2, r⟩ := st.cell _ _ e
    exact .lst (SqL.of e2) (Pys.dp st h r)
theorem Pys.dp {K : PySem.W.Frag} {H0 H : Hp} {O : Sto} (st : Sta K H0 O H) : ∀ {ds : List D} {xs : List PyData} {vs : List V}, Pys O ds xs → Iss K H0 vs ds → DpAll K H vs xs
  | _, _, _, .nil, r => by rw [r.unnil]; exact .nil
  | _, _, _, .cons h t, r => by
    obtain ⟨v, vs, rfl, r1, r2⟩ := r.uncons
    exact .cons (Py.dp st h r1) (Pys.dp st t r2)
end
def scalD : D → D → Option Bool
  | .int i, .int j => some (decide (i = j))
  | .bl i, .bl j => some (decide (i = j))
  | .str i, .str j => some (decide (i = j))
  | .non, .non => some true
  | .non, .int _ => some false | .int _, .non => some false
  | .non, .bl _ => some false | .bl _, .non => some false
  | .non, .str _ => some false | .str _, .non => some false
  | .int _, .str _ => some false | .str _, .int _ => some false
  | .bl _, .str _ => some false | .str _, .bl _ => some false
  | _, _ => none
def fEq (neg : Bool) : F2 := fun a b O Q => match scalD a b with
  | some k => Q (.bl (k != neg)) O
  | none => ∃ x y, Py O a x ∧ Py O b y ∧ SeqAt.shaped x = true ∧ SeqAt.shaped y = true ∧ Q (.bl (PyData.eqv x y != neg)) O
theorem scal_ok {K : PySem.W.Frag} {H : Hp} {x y : V} {a b : D} {k : Bool} (ix : Is K H x a) (iy : Is K H y b) (h : scalD a b = some k) : scal x y = true ∧ decide (x = y) = k := by
  cases ix <;> cases iy <;> first
    | (cases h; done)
    | (injection h with h; subst h; exact ⟨rfl, by simp⟩)
theorem rep_eq {K : PySem.W.Frag} : Rep2 K (fun x y H Q => rEq x y H Q ∨ rEqD K x y H Q) (fEq false) := by
  intro H0 O H x y a b P Q st ix iy h lv
  unfold fEq at h
  split at h
  · rename_i k e
    obtain ⟨s1, s2⟩ := scal_ok ix iy e
    refine .inl ⟨s1, ?_⟩
    rw [s2]
    have e3 : (k != false) = k := by cases k <;> rfl
    rw [e3] at h
    exact lv H0 _ _ O H (Same.refl _) (.bl _) st h
  · obtain ⟨c, d, h1, h2, h3, h4, h5⟩ := h
    have e3 : (PyData.eqv c d != false) = PyData.eqv c d := by cases PyData.eqv c d <;> rfl
    rw [e3] at h5
    exact .inr ⟨c, d, h1.dp st ix, h2.dp st iy, h3, h4, lv H0 _ _ O H (Same.refl _) (.bl _) st h5⟩
theorem rep_ne {K : PySem.W.Frag} : Rep2 K (fun x y H Q => rNe x y H Q ∨ rNeD K x y H Q) (fEq true) := by
  intro H0 O H x y a b P Q st ix iy h lv
  unfold fEq at h
  split at h
  · rename_i k e
    obtain ⟨s1, s2⟩ := scal_ok ix iy e
    refine .inl ⟨s1, ?_⟩
    rw [s2]
    have e3 : (k != true) = !k := by cases k <;> rfl
    rw [e3] at h
    exact lv H0 _ _ O H (Same.refl _) (.bl _) st h
  · obtain ⟨c, d, h1, h2, h3, h4, h5⟩ := h
    have e3 : (PyData.eqv c d != true) = !PyData.eqv c d := by cases PyData.eqv c d <;> rfl
    rw [e3] at h5
    exact .inr ⟨c, d, h1.dp st ix, h2.dp st iy, h3, h4, lv H0 _ _ O H (Same.refl _) (.bl _) st h5⟩

/-! ### subscripts, slices -/
theorem atI_map {K : PySem.W.Frag} {H : Hp} {vs : List V} {ds : List D} {i : Int} {d : D} (r : Iss K H vs ds) (h : atI ds i = some d) : ∃ v, atI vs i = some v ∧ Is K H v d := by
  unfold atI at h ⊢
  rw [r.1]
  cases e : ixN ds.length i with
  | none => rw [e] at h; cases h
  | some j =>
    rw [e] at h
    exact r.get h
def fIx : F2 := fun a b O Q => match b with
  | .int i => match a with
    | .str z => z.length ≤ sizeLine ∧ match atI z.cps.toList i with
      | some c => Q (.str ⟨#[c]⟩) O
      | none => False
    | a => match seqOf O a with
      | some ds => match atI ds i with
        | some d => Q d O
        | none => False
      | none => False
  | _ => False
theorem rep_ix {K : PySem.W.Frag} : Rep2 K (rIx K) fIx := by
  intro H0 O H x y a b P Q st ix iy h lv
  unfold fIx at h
  split at h
  · rename_i i
    cases iy
    split at h
    · rename_i z
      cases ix
      obtain ⟨h1, h2⟩ := h
      cases e : atI z.cps.toList i with
      | none => rw [e] at h2; exact h2.elim
      | some c => rw [e] at h2; exact .inr (.inr ⟨z, i, c, rfl, rfl, h1, e, lv H0 _ _ O H (Same.refl _) (.str _) st h2⟩)
    · cases e : seqOf O a with
      | none => rw [e] at h; exact h.elim
      | some ds =>
        rw [e] at h
        obtain ⟨p, vs, rfl, r, i1⟩ := seqOf_ok st ix e
        simp only at h
        cases e2 : atI ds i with
        | none => rw [e2] at h; exact h.elim
        | some d =>
          rw [e2] at h
          obtain ⟨v, q, is⟩ := atI_map i1 e2
          rcases r with r | r
          · exact .inl ⟨p, vs, i, v, rfl, rfl, r, q, lv H0 _ _ O H (Same.refl _) is st h⟩
          · exact .inr (.inl ⟨p, vs, i, v, rfl, rfl, r, q, lv H0 _ _ O H (Same.refl _) is st h⟩)
  · exact h.elim
section
variable {X : Cx} {W : WX} {pos : Pos}
theorem pe3_ix {a b : Expr} {ma mb : ME} (ha : PE X a (r3E X.K W ma)) (hb : PE X b (r3E X.K W mb)) (hs : PlainIx b) : PE X (.Subscript a b pos) (r3E X.K W (mOp fIx ma mb)) :=
  peW (pe_ix ix_seq ha hb hs) fun σ H Q h => two rep_ix h
/-- a part of a slice -/
abbrev MO3 := PX → Gm → Sto → (Option Int → Sto → Prop) → Prop
def mNone : MO3 := fun _ _ O Q => Q none O
def mSome (m : ME) : MO3 := fun X Γ O Q => m X Γ O fun d O1 => match d with
  | .int i => Q (some i) O1
  | _ => False
def LinkO (K : PySem.W.Frag) (H0 : Hp) (P : Option Int → Sto → Prop) (Q : Option Int → Hp → Prop) : Prop := ∀ (H1 : Hp) (b : Option Int) (O : Sto) (H : Hp), Same H0 H1 → Sta K H1 O H → P b O → Q b H
def r3O (K : PySem.W.Frag) (W : WX) (m : MO3) : TO := fun σ H Q => ∃ Γ O H0 X P, EnvR K H0 Γ σ ∧ Sta K H0 O H ∧ m X Γ O P ∧ LinkX K W H0 σ X ∧ LinkO K H0 P Q
end
end L3

namespace L3
open PySem PySem.Spec PyProof.Rows L2

section
variable {X : Cx} {W : WX} {pos : Pos}
/-! ### slices -/
theorem po3_none : PO X none (r3O X.K W mNone) := ⟨fun pins s σ H Q I ⟨Γ, O, H0, Z, P, env, st, hm, lx, lv⟩ => po_none.run pins s σ H Q I (lv H0 none O H (Same.refl _) st hm)⟩
theorem po3_some {e : Expr} {m : ME} (h : PE X e (r3E X.K W m)) : PO X (some e) (r3O X.K W (mSome m)) := by
  refine ⟨fun pins s σ H Q I ⟨Γ, O, H0, Z, P, env, st, hm, lx, lv⟩ => (po_some h).run pins s σ H Q I ?_⟩
  refine ⟨Γ, O, H0, Z, _, env, st, hm, lx, fun H1 v d O1 H' s1 is1 st1 hm1 => ?_⟩
  cases is1 with
  | int i => exact ⟨i, rfl, lv H1 _ O1 H' s1 st1 hm1⟩
  | _ => exact hm1.elim
/-- the places of a slice -/
def cut {α : Type} (xs : List α) (lo hi : Option Int) : List α := (xs.drop (HT.sIx xs.length 0 lo)).take (HT.sIx xs.length xs.length hi - HT.sIx xs.length 0 lo)
def mSlice (ma : ME) (ml mh : MO3) : ME := fun X Γ O Q => ma X Γ O fun x O1 => ml X Γ O1 fun lo O2 => mh X Γ O2 fun hi O3 => match x with
  | .str z => z.length ≤ sizeLine ∧ Q (.str (cutS z lo hi)) O3
  | .tup ds => Q (.tup (cut ds lo hi)) O3
  | x => match lstOf O3 x with
    | some ds => ∀ p, O3 p = none → orFz Q (.cell p) (put O3 p (.lst (cut ds lo hi)))
    | none => False
theorem Iss.cut {K : PySem.W.Frag} {H : Hp} {vs : List V} {ds : List D} {lo hi : Option Int} (h : Iss K H vs ds) : Iss K H (cutV vs lo hi) (L3.cut ds lo hi) := by
  unfold cutV L3.cut
  rw [h.1]
  exact h.drop.take
theorem pe3_slice {e : Expr} {lo hi : Option Expr} {p2 : Pos} {ma : ME} {ml mh : MO3} (he : PE X e (r3E X.K W ma)) (hl : PO X lo (r3O X.K W ml)) (hh : PO X hi (r3O X.K W mh)) :
    PE X (.Subscript e (.Slice lo hi none p2) pos) (r3E X.K W (mSlice ma ml mh)) := by
  refine peW (pe_slice (SlR.or sl_list (SlR.or sl_tupA sl_str)) he hl hh) fun σ H Q ⟨Γ, O, H0, Z, P, env, st, hm, lx, lv⟩ => ?_
  refine ⟨Γ, O, H0, Z, _, env, st, hm, lx, fun H1 v d O1 H' s1 is1 st1 hm1 => ?_⟩
  refine ⟨Γ, O1, H1, Z, _, env.mono s1, st1, hm1, lx.mono s1, fun H2 l O2 H'' s2 st2 hm2 => ?_⟩
  refine ⟨Γ, O2, H2, Z, _, env.mono (s1.trans s2), st2, hm2, lx.mono (s1.trans s2), fun H3 u O3 H''' s3 st3 hm3 => ?_⟩
  have s := (s1.trans s2).trans s3
  have is3 := is1.mono (s2.trans s3)
  split at hm3
  · cases is3
    exact .inr (.inr ⟨_, rfl, hm3.1, lv H3 _ _ O3 H''' s (.str _) st3 hm3.2⟩)
  · rename_i ds
    obtain ⟨p, vs, rfl, r1, i1⟩ := is3.tup_
    refine .inr (.inl ⟨p, vs, rfl, same_t st3.same r1, fun hw => ?_, fun hw c hc => ?_⟩)
    · have e1 : L3.cut ds l u = ds := by
        unfold L3.cut
        rw [i1.1] at hw
        rw [hw.1, hw.2]
        simp
      rw [e1] at hm3
      exact lv H3 _ _ O3 H''' s (.tup r1 i1.1 i1.2) st3 hm3
    · have h0 := (st3.free hc).2
      have i3 : Iss X.K H3 (cutV vs l u) (L3.cut ds l u) := i1.cut
      exact lv _ _ _ O3 _ (s.trans (same_upd h0)) (.tup (SqT.of upd_same) i3.1 (i3.mono (same_upd h0)).2) (st3.new0 hc) hm3
  · rename_i x _ _
    cases e : lstOf O3 d with
    | none => rw [e] at hm3; exact hm3.elim
    | some ds =>
      rw [e] at hm3
      obtain ⟨p, vs, rfl, r1, i1⟩ := lstOf_ok st3 is3 e
      refine .inl ⟨p, vs, rfl, r1, fun c hc => ?_⟩
      exact lv.fz H3 _ _ _ _ s (.cell c) (st3.newC (u := .lst (L3.cut ds l u)) hc ⟨_, upd_same, i1.cut⟩) (hm3 c (st3.free hc).1)

/-! ### calls of built-in functions by values -/
abbrev FA := List D → Sto → PV → Prop
def RepA (K : PySem.W.Frag) (r : List V → Hp → VK → Prop) (f : FA) : Prop := ∀ (H0 : Hp) (O : Sto) (H : Hp) (vs : List V) (ds : List D) (P : PV) (Q : VK), Sta K H0 O H → Iss K H0 vs ds → f ds O P → LinkV K H0 P Q → r vs H Q
def mCB (f : FA) (ms : MA) : ME := fun X Γ O Q => ms X Γ O fun ds O1 => f ds O1 Q
theorem cb3 {K : PySem.W.Frag} {r : List V → Hp → VK → Prop} {f : FA} {ms : MA} (R : RepA K r f) {σ : L2.St} {H : Hp} {Q : VK} (h : r3E K W (mCB f ms) σ H Q) : tCB r (r3A K W ms) σ H Q := by
  obtain ⟨Γ, O, H0, Z, P, env, st, hm, lx, lv⟩ := h
  refine ⟨Γ, O, H0, Z, _, env, st, hm, lx, fun H1 vs ds O1 H' s1 is1 st1 hm1 => ?_⟩
  exact R H1 O1 H' vs ds P Q st1 is1 hm1 (lv.mono s1)
def fInt1 : FA := fun ds O Q => match ds with
  | [.int i] => Q (.int i) O
  | [.bl b] => Q (.int (if b then 1 else 0)) O
  | [.str a] => ∃ n, PySem.intText? a = some n ∧ a.length ≤ 640 ∧ Q (.int n) O
  | _ => False
theorem Iss.one {K : PySem.W.Frag} {H : Hp} {vs : List V} {d : D} (h : Iss K H vs [d]) : ∃ v, vs = [v] ∧ Is K H v d := by
  obtain ⟨v, us, rfl, a, b⟩ := h.uncons
  exact ⟨v, by rw [b.unnil], a⟩
theorem Iss.two_ {K : PySem.W.Frag} {H : Hp} {vs : List V} {d e : D} (h : Iss K H vs [d, e]) : ∃ v w, vs = [v, w] ∧ Is K H v d ∧ Is K H w e := by
  obtain ⟨v, us, rfl, a, b⟩ := h.uncons
  obtain ⟨w, rfl, c⟩ := b.one
  exact ⟨v, w, rfl, a, c⟩
theorem repA_int {K : PySem.W.Frag} : RepA K (fun xs H Q => ((∃ i, xs = [.int i] ∧ Q (.int i) H) ∨ ∃ k, xs = [.bl k] ∧ Q (.int (if k then 1 else 0)) H) ∨ ∃ a n, xs = [.str a] ∧ PySem.intText? a = some n ∧ a.length ≤ 640 ∧ Q (.int n) H) fInt1 := by
  intro H0 O H vs ds P Q st is h lv
  unfold fInt1 at h
  split at h
  · obtain ⟨v, rfl, a⟩ := is.one
    cases a
    exact .inl (.inl ⟨_, rfl, lv H0 _ _ O H (Same.refl _) (.int _) st h⟩)
  · obtain ⟨v, rfl, a⟩ := is.one
    cases a
    exact .inl (.inr ⟨_, rfl, lv H0 _ _ O H (Same.refl _) (.int _) st h⟩)
  · obtain ⟨v, rfl, a⟩ := is.one
    cases a
    obtain ⟨n, h1, h2, h3⟩ := h
    exact .inr ⟨_, n, rfl, h1, h2, lv H0 _ _ O H (Same.refl _) (.int _) st h3⟩
  · exact h.elim
def fAbs : FA := fun ds O Q => match ds with
  | [.int i] => Q (.int (if i < 0 then -i else i)) O
  | _ => False
theorem repA_abs {K : PySem.W.Frag} : RepA K (fun xs H Q => ∃ i, xs = [.int i] ∧ Q (.int (if i < 0 then -i else i)) H) fAbs := by
  intro H0 O H vs ds P Q st is h lv
  unfold fAbs at h
  split at h
  · obtain ⟨v, rfl, a⟩ := is.one
    cases a
    exact ⟨_, rfl, lv H0 _ _ O H (Same.refl _) (.int _) st h⟩
  · exact h.elim
def fI2A (g : Int → Int → Int) : FA := fun ds O Q => match ds with
  | [.int i, .int j] => Q (.int (g i j)) O
  | _ => False
theorem repA_I2 {K : PySem.W.Frag} {g : Int → Int → Int} : RepA K (fun xs H Q => ∃ i j, xs = [.int i, .int j] ∧ Q (.int (g i j)) H) (fI2A g) := by
  intro H0 O H vs ds P Q st is h lv
  unfold fI2A at h
  split at h
  · obtain ⟨v, w, rfl, a, b⟩ := is.two_
    cases a
    cases b
    exact ⟨_, _, rfl, lv H0 _ _ O H (Same.refl _) (.int _) st h⟩
  · exact h.elim
def fMax2 : FA := fI2A fun i j => if j > i then j else i
def fMin2 : FA := fI2A fun i j => if j < i then j else i
def fGcd : FA := fI2A fun i j => ((Nat.gcd i.natAbs j.natAbs : Nat) : Int)
def fLen : FA := fun ds O Q => match ds with
  | [.str z] => z.length ≤ sizeLine ∧ Q (.int z.length) O
  | [d] => match seqOf O d with
    | some xs => Q (.int xs.length) O
    | none => False
  | _ => False
theorem repA_len {K : PySem.W.Frag} : RepA K (fun xs H Q => ∃ x n, xs = [x] ∧ LenV K x H n ∧ Q (.int n) H) fLen := by
  intro H0 O H vs ds P Q st is h lv
  unfold fLen at h
  split at h
  · obtain ⟨v, rfl, a⟩ := is.one
    cases a
    exact ⟨_, _, rfl, ⟨h.1, rfl⟩, lv H0 _ _ O H (Same.refl _) (.int _) st h.2⟩
  · rename_i d _
    obtain ⟨v, rfl, a⟩ := is.one
    cases e : seqOf O d with
    | none => rw [e] at h; exact h.elim
    | some xs =>
      rw [e] at h
      obtain ⟨p, us, rfl, r, i1⟩ := seqOf_ok st a e
      refine ⟨_, us.length, rfl, ?_, lv H0 _ _ O H (Same.refl _) (by rw [i1.1]; exact .int _) st h⟩
      rcases r with r | r
      · exact .inl ⟨us, r, rfl⟩
      · exact .inr ⟨us, r, rfl⟩
  · exact h.elim

/-! ### calls of own defs -/
abbrev FSpec := List D → Sto → PX → PV → Prop
def LinkE (K : PySem.W.Frag) (H0 : Hp) (Z : PX) (E : XK) : Prop := ∀ (H1 : Hp) (C : Str) (fs : List (Str × D)) (O : Sto) (oe : Option Addr) (H : Hp), Same H0 H1 → Sta K H1 O H → XOk K H1 H oe fs → Z C fs O → E (.ref (He.ga K C)) oe H
def spOf (K : PySem.W.Frag) (n : Nat) (S : FSpec) : Sp := fun vs H Q E => vs.length = n ∧ ∃ H0 O ds Z P, Iss K H0 vs ds ∧ Sta K H0 O H ∧ S ds O Z P ∧ LinkE K H0 Z E ∧ LinkV K H0 P Q
def mCall (S : FSpec) (n : Nat) (ms : MA) : ME := fun Z Γ O Q => ms Z Γ O fun ds O1 => ds.length = n ∧ S ds O1 Z Q
structure FnAt (X : Cx) (x : Str) (n : Nat) (S : FSpec) : Prop where
  ex : ∃ k f fd ps, FnOk X.prog X.w X.K X.mg X.base (L2.CX X.prog X.w) k f fd ps (spOf X.K n S) ∧ Room k X.A ∧ X.mg x = some (.ref f) ∧ PySem.W.keepIn X.K (.ref f) = true ∧ Binds X.K fd ps []
theorem pe3_call {x : Str} {p : Pos} {e : Expr} {es : List Expr} {n : Nat} {S : FSpec} {ms : MA} (F : FnAt X x n S) (tk : Takes X W) (hg : Gl X x) (ha : PA X (e :: es) (r3A X.K W ms)) (hdb : (x == ("__debug__" : Str)) = false)
    (he : starEach (e :: es) X.env = (false, eval e X.env) :: starEach es X.env) (hpl : (backTo pos (starEach es X.env)).any (·.1) = false) :
    PE X (.Call (.Name x p) (e :: es) [] pos) (r3E X.K W (mCall S n ms)) := by
  obtain ⟨k, f, fd, ps, F, hr, hm, hk, hb⟩ := F.ex
  refine peW (pe_callSD F hr hg hm hk hb (dvs := []) .nil (fun σ => passAt tk σ) ha hdb he hpl) fun σ H Q ⟨Γ, O, H0, Z, P, env, st, hm, lx, lv⟩ => ?_
  refine ⟨Γ, O, H0, Z, _, env, st, hm, lx, fun H1 vs ds O1 H' s1 is1 st1 hm1 => ?_⟩
  show spOf X.K n S (vs ++ []) H' Q (WE W σ)
  rw [List.append_nil]
  refine ⟨by rw [is1.1]; exact hm1.1, H1, O1, ds, Z, P, is1, st1, hm1.2, ?_, lv.mono s1⟩
  exact fun H2 C fs O2 oe H'' s2 st2 xo z => lx H2 C fs O2 oe H'' (s1.trans s2) st2 xo z
theorem pe3_call0 {x : Str} {p : Pos} {S : FSpec} (F : FnAt X x 0 S) (tk : Takes X W) (hg : Gl X x) (hdb : (x == ("__debug__" : Str)) = false) : PE X (.Call (.Name x p) [] [] pos) (r3E X.K W (mCall S 0 mNil)) := by
  obtain ⟨k, f, fd, ps, F, hr, hm, hk, hb⟩ := F.ex
  refine ⟨fun pins s σ H Q I ⟨Γ, O, H0, Z, P, env, st, hS, lx, lv⟩ => ?_⟩
  refine wpAny_Call_Name_kw (ld_glob I hg hm ?_ hdb)
  refine PySem.W.callWith_K0 I.kIn hk (run_fnSD (us := []) (E := fun σ => WE W σ) F hr hb (dvs := []) .nil (passAt tk σ) I .nil ?_)
  refine ⟨rfl, H0, O, [], Z, P, .nil, st, hS.2, fun H2 C fs O2 oe H'' s2 st2 xo z => lx H2 C fs O2 oe H'' s2 st2 xo z, lv⟩

/-! ## statements -/
structure En where
  nx : Gm → Sto → Prop
  rt : PV
  bk : Gm → Sto → Prop := fun _ _ => False
  ct : Gm → Sto → Prop := fun _ _ => False
  xp : Str → List (Str × D) → Gm → Sto → Prop := fun _ _ _ _ => False
abbrev MS := En → Gm → Sto → Prop
def LinkN (K : PySem.W.Frag) (H0 : Hp) (P : Gm → Sto → Prop) (Q : L2.St → Hp → Prop) : Prop := ∀ (H1 : Hp) (Γ : Gm) (σ : L2.St) (O : Sto) (H : Hp), Same H0 H1 → EnvR K H1 Γ σ → Sta K H1 O H → P Γ O → Q σ H
def LinkW (K : PySem.W.Frag) (W : WX) (H0 : Hp) (Z : Str → List (Str × D) → Gm → Sto → Prop) : Prop := ∀ (H1 : Hp) (C : Str) (fs : List (Str × D)) (Γ : Gm) (σ : L2.St) (O : Sto) (oe : Option Addr) (H : Hp), Same H0 H1 → EnvR K H1 Γ σ → Sta K H1 O H → XOk K H1 H oe fs → Z C fs Γ O → W (.ref (He.ga K C)) oe σ H
structure LinkS (K : PySem.W.Frag) (W : WX) (H0 : Hp) (P : En) (E : Ends) : Prop where
  nx : LinkN K H0 P.nx E.nx
  rt : LinkV K H0 P.rt E.rt
  bk : LinkN K H0 P.bk E.bk
  ct : LinkN K H0 P.ct E.ct
  xp : LinkW K W H0 P.xp
theorem LinkN.mono {K : PySem.W.Frag} {H0 H1 : Hp} {P : Gm → Sto → Prop} {Q : L2.St → Hp → Prop} (e : Same H0 H1) (l : LinkN K H0 P Q) : LinkN K H1 P Q := fun H2 Γ σ O H s a b c => l H2 Γ σ O H (e.trans s) a b c
theorem LinkS.mono {K : PySem.W.Frag} {W : WX} {H0 H1 : Hp} {P : En} {E : Ends} (e : Same H0 H1) (l : LinkS K W H0 P E) : LinkS K W H1 P E :=
  ⟨l.nx.mono e, l.rt.mono e, l.bk.mono e, l.ct.mono e, fun H2 C fs Γ σ O oe H s a b c d => l.xp H2 C fs Γ σ O oe H (e.trans s) a b c d⟩
theorem LinkS.x {K : PySem.W.Frag} {W : WX} {H0 : Hp} {P : En} {E : Ends} {Γ : Gm} {σ : L2.St} (l : LinkS K W H0 P E) (env : EnvR K H0 Γ σ) : LinkX K W H0 σ fun C fs O => P.xp C fs Γ O :=
  fun H1 C fs O oe H s st xo z => l.xp H1 C fs Γ σ O oe H s (env.mono s) st xo z
def r3S (K : PySem.W.Frag) (W : WX) (m : MS) : TS := fun E σ H => ∃ Γ O H0 P, EnvR K H0 Γ σ ∧ Sta K H0 O H ∧ m P Γ O ∧ LinkS K W H0 P E
/-- what an expression is asked within a statement -/
abbrev En.x (P : En) (Γ : Gm) : PX := fun C fs O => P.xp C fs Γ O
def mNext : MS := fun P Γ O => P.nx Γ O
def mSeq (a b : MS) : MS := fun P Γ O => a { P with nx := b P } Γ O
def mBrk : MS := fun P Γ O => P.bk Γ O
def mCont : MS := fun P Γ O => P.ct Γ O
def mRet (m : ME) : MS := fun P Γ O => m (P.x Γ) Γ O (orFz P.rt)
def mRetN : MS := fun P _ O => P.rt .non O
def mDrop (m : ME) : MS := fun P Γ O => m (P.x Γ) Γ O fun _ O1 => P.nx Γ O1
def mIf (t : MT) (a b : MS) : MS := fun P Γ O => t (P.x Γ) Γ O fun k O1 => if k = true then a P Γ O1 else b P Γ O1
theorem pss3_nil : PSs X [] (r3S X.K W mNext) := pssW pss_nil fun E σ H ⟨Γ, O, H0, P, env, st, hm, l⟩ => l.nx H0 Γ σ O H (Same.refl _) env st hm
theorem seq3 {K : PySem.W.Frag} {a b : MS} {E : Ends} {σ : L2.St} {H : Hp} (h : r3S K W (mSeq a b) E σ H) : tSeq (r3S K W a) (r3S K W b) E σ H := by
  obtain ⟨Γ, O, H0, P, env, st, hm, l⟩ := h
  exact ⟨Γ, O, H0, { P with nx := b P }, env, st, hm, fun H1 Γ1 σ1 O1 H' s1 e1 st1 hm1 => ⟨Γ1, O1, H1, P, e1, st1, hm1, l.mono s1⟩, l.rt, l.bk, l.ct, l.xp⟩
theorem pss3_cons {st : Stmt} {rest : List Stmt} {a b : MS} (h1 : PS X st (r3S X.K W a)) (h2 : PSs X rest (r3S X.K W b)) : PSs X (st :: rest) (r3S X.K W (mSeq a b)) := pssW (pss_cons h1 h2) fun E σ H h => seq3 h
theorem pss3_one {st : Stmt} {a : MS} (h1 : PS X st (r3S X.K W a)) : PSs X [st] (r3S X.K W a) := pss_one h1
theorem ps3_pass : PS X (.Pass pos) (r3S X.K W mNext) := psW ps_pass fun E σ H ⟨Γ, O, H0, P, env, st, hm, l⟩ => l.nx H0 Γ σ O H (Same.refl _) env st hm
theorem ps3_break : PS X (.Break pos) (r3S X.K W mBrk) := psW ps_break fun E σ H ⟨Γ, O, H0, P, env, st, hm, l⟩ => l.bk H0 Γ σ O H (Same.refl _) env st hm
theorem ps3_continue : PS X (.Continue pos) (r3S X.K W mCont) := psW ps_continue fun E σ H ⟨Γ, O, H0, P, env, st, hm, l⟩ => l.ct H0 Γ σ O H (Same.refl _) env st hm
theorem ps3_ret {e : Expr} {m : ME} (he : PE X e (r3E X.K W m)) : PS X (.Return (some e) pos) (r3S X.K W (mRet m)) :=
  psW (ps_ret he) fun E σ H ⟨Γ, O, H0, P, env, st, hm, l⟩ => ⟨Γ, O, H0, _, _, env, st, hm, l.x env, l.rt.fz⟩
theorem ps3_retN : PS X (.Return none pos) (r3S X.K W mRetN) := psW ps_retN fun E σ H ⟨Γ, O, H0, P, env, st, hm, l⟩ => l.rt H0 _ _ O H (Same.refl _) .non st hm
theorem ps3_expr {e : Expr} {m : ME} (he : PE X e (r3E X.K W m)) (hs : swapsWith e none pos.line X.env = pure false) : PS X (.Expr e pos) (r3S X.K W (mDrop m)) :=
  psW (ps_expr he hs) fun E σ H ⟨Γ, O, H0, P, env, st, hm, l⟩ => ⟨Γ, O, H0, _, _, env, st, hm, l.x env, fun H1 v d O1 H' s1 is1 st1 hm1 => l.nx H1 Γ σ O1 H' s1 (env.mono s1) st1 hm1⟩
theorem ps3_if {c : Expr} {a b : List Stmt} {t : MT} {ma mb : MS} (hc : PT X c (r3T X.K W t)) (ha : PSs X a (r3S X.K W ma)) (hb : PSs X b (r3S X.K W mb)) : PS X (.If c a b pos) (r3S X.K W (mIf t ma mb)) := by
  refine psW (ps_if hc ha hb) fun E σ H ⟨Γ, O, H0, P, env, st, hm, l⟩ => ?_
  refine ⟨Γ, O, H0, _, _, env, st, hm, l.x env, fun H1 b O1 H' s1 st1 hm1 => ?_⟩
  cases b with
  | true => rw [if_pos rfl] at hm1 ⊢; exact ⟨Γ, O1, H1, P, env.mono s1, st1, hm1, l.mono s1⟩
  | false => rw [if_neg Bool.false_ne_true] at hm1 ⊢; exact ⟨Γ, O1, H1, P, env.mono s1, st1, hm1, l.mono s1⟩

/-! ### targets -/
abbrev MG := PX → D → Gm → Sto → (Gm → Sto → Prop) → Prop
abbrev MGs := PX → List D → Gm → Sto → (Gm → Sto → Prop) → Prop
def r3G (K : PySem.W.Frag) (W : WX) (m : MG) : TG := fun v σ H Q => ∃ Γ O H0 Z P d, EnvR K H0 Γ σ ∧ Sta K H0 O H ∧ Is K H0 v d ∧ m Z d Γ O P ∧ LinkX K W H0 σ Z ∧ LinkN K H0 P Q
def r3Gs (K : PySem.W.Frag) (W : WX) (m : MGs) : TGs := fun vs σ H Q => ∃ Γ O H0 Z P ds, EnvR K H0 Γ σ ∧ Sta K H0 O H ∧ Iss K H0 vs ds ∧ m Z ds Γ O P ∧ (∀ σ, LinkX K W H0 σ Z) ∧ LinkN K H0 P Q
theorem pgW {e : Expr} {t t' : TG} (h : PG X e t) (w : ∀ v σ H Q, t' v σ H Q → t v σ H Q) : PG X e t' := ⟨fun pins s σ H v u Q I r q => h.run pins s σ H v u Q I r (w v σ H Q q)⟩
theorem pgsW {e : List Expr} {t t' : TGs} (h : PGs X e t) (w : ∀ v σ H Q, t' v σ H Q → t v σ H Q) : PGs X e t' := ⟨fun pins s σ H v u Q I r q => h.run pins s σ H v u Q I r (w v σ H Q q)⟩
def tgName (i : Nat) : MG := fun _ d Γ O Q => Q (Γ.set i (some d)) O
theorem pg3_name {e : Expr} {i : Nat} (h : PG X e (gName i)) : PG X e (r3G X.K W (tgName i)) :=
  pgW h fun v σ H Q ⟨Γ, O, H0, Z, P, d, env, st, is, hm, lx, ln⟩ => ln H0 _ _ O H (Same.refl _) (env.set is) st hm
def tgNil : MGs := fun _ ds Γ O Q => match ds with
  | [] => Q Γ O
  | _ => False
/-- names alone (nothing raised): the first, then the rest -/
def tgCons (t : MG) (u : MGs) : MGs := fun Z ds Γ O Q => match ds with
  | d :: r => t (fun _ _ _ => False) d Γ O fun Γ1 O1 => u Z r Γ1 O1 Q
  | [] => False
theorem pgs3_nil : PGs X [] (r3Gs X.K W tgNil) := by
  refine pgsW pgs_nil fun vs σ H Q ⟨Γ, O, H0, Z, P, ds, env, st, is, hm, lx, ln⟩ => ?_
  cases ds with
  | nil => exact ⟨is.unnil, ln H0 _ _ O H (Same.refl _) env st hm⟩
  | cons d r => exact hm.elim
theorem linkX0 {K : PySem.W.Frag} {H0 : Hp} {σ : L2.St} : LinkX K W H0 σ (fun _ _ _ => False) := fun _ _ _ _ _ _ _ _ _ z => z.elim
theorem pgs3_cons {e : Expr} {es : List Expr} {t : MG} {u : MGs} (h1 : PG X e (r3G X.K W t)) (h2 : PGs X es (r3Gs X.K W u)) (hs : (assignEach (e :: es) X.env).map (·.2) = assign e X.env :: (assignEach es X.env).map (·.2)) : PGs X (e :: es) (r3Gs X.K W (tgCons t u)) := by
  refine pgsW (pgs_cons h1 h2 hs) fun vs σ H Q ⟨Γ, O, H0, Z, P, ds, env, st, is, hm, lx, ln⟩ => ?_
  cases ds with
  | nil => exact hm.elim
  | cons d r =>
    obtain ⟨v, us, rfl, i1, i2⟩ := is.uncons
    refine ⟨v, us, rfl, Γ, O, H0, _, _, d, env, st, i1, hm, linkX0, fun H1 Γ1 σ1 O1 H' s1 e1 st1 hm1 => ?_⟩
    exact ⟨Γ1, O1, H1, Z, P, r, e1, st1, i2.mono s1, hm1, fun σ => (lx σ).mono s1, ln.mono s1⟩
/-- (a, b, ..) = a tuple -/
def tgTup (n : Nat) (u : MGs) : MG := fun _ d Γ O Q => match d with
  | .tup ds => ds.length = n ∧ u (fun _ _ _ => False) ds Γ O Q
  | _ => False
theorem pg3_tup {es : List Expr} {k n : Nat} {u : MGs} (hc : X.calm = true) (h : PGs X es (r3Gs X.K W u)) (hn : (assignEach es X.env).length = n) (hst : (assignEach es X.env).findIdx? (·.1) = none) : PG X (.Tuple es k pos) (r3G X.K W (tgTup n u)) := by
  refine pgW (pg_tup hc h hn hst) fun v σ H Q ⟨Γ, O, H0, Z, P, d, env, st, is, hm, lx, ln⟩ => ?_
  cases is with
  | @tup a vs ds r l c =>
    obtain ⟨e, hm⟩ := hm
    exact ⟨a, vs, rfl, same_t st.same r, by rw [l]; exact e, Γ, O, H0, _, P, ds, env, st, ⟨l, c⟩, hm, fun σ => linkX0, ln⟩
  | _ => exact hm.elim
/-- xs[i] = v -/
def setL (O : Sto) (o i d : D) (Q : Sto → Prop) : Prop := match o with
  | .cell p => match O p, i with
    | some (.lst ds), .int k => match ixN ds.length k with
      | some j => Q (put O p (.lst (ds.set j d)))
      | none => False
    | _, _ => False
  | _ => False
theorem setL_ok {O : Sto} {o i d : D} {Q : Sto → Prop} (h : setL O o i d Q) : ∃ p ds k j, o = .cell p ∧ i = .int k ∧ O p = some (.lst ds) ∧ ixN ds.length k = some j ∧ Q (put O p (.lst (ds.set j d))) := by
  unfold setL at h
  split at h
  · split at h
    · rename_i e
      split at h
      · rename_i e2
        exact ⟨_, _, _, _, rfl, rfl, e, e2, h⟩
      · exact h.elim
    · exact h.elim
  · exact h.elim
def tgIx (mo mi : ME) : MG := fun Z d Γ O Q => mo Z Γ O fun o O1 => mi Z Γ O1 fun i O2 => setL O2 o i d (Q Γ)
theorem pg3_ix {o i : Expr} {mo mi : ME} (ho : PE X o (r3E X.K W mo)) (hi : PE X i (r3E X.K W mi))
    (ha : ∀ v, assign (.Subscript o i pos) X.env v = (do
      let ov ← holding [v] (eval o X.env)
      let iv ← holding [v, ov] (eval i X.env)
      standAt pos
      holding [v, ov, iv] (setItem ov iv v)
      release [v, ov, iv] [])) : PG X (.Subscript o i pos) (r3G X.K W (tgIx mo mi)) := by
  refine pgW (pg_sub ho hi set_list ha) fun v σ H Q ⟨Γ, O, H0, Z, P, d, env, st, is, hm, lx, ln⟩ => ?_
  refine ⟨Γ, O, H0, Z, _, env, st, hm, lx, fun H1 x a O1 H' s1 is1 st1 hm1 => ?_⟩
  refine ⟨Γ, O1, H1, Z, _, env.mono s1, st1, hm1, lx.mono s1, fun H2 y b O2 H'' s2 is2 st2 hm2 => ?_⟩
  obtain ⟨p, ds, k, j, rfl, rfl, e, e2, hq⟩ := setL_ok hm2
  cases is1
  cases is2
  obtain ⟨_, vs, e3, r⟩ := st2.cell p _ e
  refine ⟨p, vs, k, j, rfl, rfl, e3, by rw [r.1]; exact e2, ?_⟩
  have r2 : Iss X.K H2 (vs.set j v) (ds.set j d) := r.set (is.mono (s1.trans s2))
  exact ln H2 _ _ _ _ (s1.trans s2) (env.mono (s1.trans s2)) (st2.set (u := .lst (ds.set j d)) e ⟨_, upd_same, r2⟩) hq
def mAsg (m : ME) (g : MG) : MS := fun P Γ O => m (P.x Γ) Γ O fun d O1 => g (P.x Γ) d Γ O1 P.nx
theorem asg3 {K : PySem.W.Frag} {m : ME} {g : MG} {E : Ends} {σ : L2.St} {H : Hp} (h : r3S K W (mAsg m g) E σ H) : tAsg (r3E K W m) (r3G K W g) E σ H := by
  obtain ⟨Γ, O, H0, P, env, st, hm, l⟩ := h
  refine ⟨Γ, O, H0, _, _, env, st, hm, l.x env, fun H1 v d O1 H' s1 is1 st1 hm1 => ?_⟩
  exact ⟨Γ, O1, H1, _, _, d, env.mono s1, st1, is1, hm1, (l.x env).mono s1, l.nx.mono s1⟩
theorem ps3_asg {tg e : Expr} {m : ME} {g : MG} (he : PE X e (r3E X.K W m)) (hg : PG X tg (r3G X.K W g)) (hs : swapsWithSole [tg] e pos.line X.env = pure false) (hw : swappedStores [tg] e X.env = pure none) (h1 : (assignEach [tg] X.env).map (·.2) = [assign tg X.env]) :
    PS X (.Assign [tg] e pos) (r3S X.K W (mAsg m g)) := psW (ps_asg he hg hs hw h1) fun E σ H h => asg3 h
/-- a, b = e1, e2, local names -/
def par2 (ds : List D) (Q : D → D → Prop) : Prop := match ds with
  | [a, b] => Q a b
  | _ => False
theorem par2_ok {ds : List D} {Q : D → D → Prop} (h : par2 ds Q) : ∃ a b, ds = [a, b] ∧ Q a b := by
  unfold par2 at h
  split at h
  · exact ⟨_, _, rfl, h⟩
  · exact h.elim
def mPar (i j : Nat) (ms : MA) : MS := fun P Γ O => ms (P.x Γ) Γ O fun ds O1 => par2 ds fun a b => P.nx ((Γ.set i (some a)).set j (some b)) O1
theorem ps3_par {st : Stmt} {i j : Nat} {ms : MA} (h : PS X st (tPar i j (r3A X.K W ms))) : PS X st (r3S X.K W (mPar i j ms)) := by
  refine psW h fun E σ H ⟨Γ, O, H0, P, env, st, hm, l⟩ => ?_
  refine ⟨Γ, O, H0, _, _, env, st, hm, l.x env, fun H1 vs ds O1 H' s1 is1 st1 hm1 => ?_⟩
  obtain ⟨a, b, rfl, hm2⟩ := par2_ok hm1
  obtain ⟨v, w, rfl, a, b⟩ := is1.two_
  exact ⟨v, w, rfl, l.nx H1 _ _ O1 H' s1 (((env.mono s1).set a).set b) st1 hm2⟩
end
end L3

namespace L3
open PySem PySem.Spec PyProof.Rows L2

/-- freezing what a name holds -/
inductive FzG : Gm → Sto → Gm → Sto → Prop where
  | refl {Γ : Gm} {O : Sto} : FzG Γ O Γ O
  | slot {Γ : Gm} {O O' : Sto} {i : Nat} {d e : D} (h : Γ[i]? = some (some d)) (f : Fz d O e O') : FzG Γ O (Γ.set i (some e)) O'
  | trans {Γ Γ1 Γ2 : Gm} {O O1 O2 : Sto} (h : FzG Γ O Γ1 O1) (k : FzG Γ1 O1 Γ2 O2) : FzG Γ O Γ2 O2
theorem FzG.ok {K : PySem.W.Frag} {Γ Γ' : Gm} {O O' : Sto} (f : FzG Γ O Γ' O') : ∀ {H0 H : Hp} {σ : L2.St}, EnvR K H0 Γ σ → Sta K H0 O H → ∃ H1, Same H0 H1 ∧ EnvR K H1 Γ' σ ∧ Sta K H1 O' H := by
  induction f with
  | refl => exact fun env st => ⟨_, Same.refl _, env, st⟩
  | @slot Γ O O' i d e h f =>
    intro H0 H σ env st
    obtain ⟨v, hv, is⟩ := env.get h
    obtain ⟨H1, s, is1, st1⟩ := f.ok is st
    refine ⟨H1, s, ?_, st1⟩
    have env1 := (env.mono s).set (i := i) is1
    have e2 : σ.set i (some v) = σ := by
      apply List.ext_getElem?
      intro j
      by_cases hj : i = j
      · subst hj
        rw [List.getElem?_set_self (List.getElem?_eq_some_iff.mp hv).1, hv]
      · rw [List.getElem?_set_ne hj]
    rw [e2] at env1
    exact env1
  | trans h k ih1 ih2 =>
    intro H0 H σ env st
    obtain ⟨H1, s1, e1, st1⟩ := ih1 env st
    obtain ⟨H2, s2, e2, st2⟩ := ih2 e1 st1
    exact ⟨H2, s1.trans s2, e2, st2⟩
def orFzG (Q : Gm → Sto → Prop) : Gm → Sto → Prop := fun Γ O => ∃ Γ' O', FzG Γ O Γ' O' ∧ Q Γ' O'
theorem LinkN.fz {K : PySem.W.Frag} {H0 : Hp} {P : Gm → Sto → Prop} {Q : L2.St → Hp → Prop} (l : LinkN K H0 P Q) : LinkN K H0 (orFzG P) Q := by
  rintro H1 Γ σ O H s env st ⟨Γ', O', f, p⟩
  obtain ⟨H2, s2, e2, st2⟩ := f.ok env st
  exact l H2 Γ' σ O' H (s.trans s2) e2 st2 p

/-! ## for -/
/-- what is walked -/
def itemsOf (O : Sto) : D → Option (List D)
  | .str z => some (z.cps.toList.map fun c => .str ⟨#[c]⟩)
  | d => seqOf O d
def forL (chk : Sto → Prop) (g : MG) (b : MS) (P : En) : List D → Gm → Sto → Prop
  | [], Γ, O => chk O ∧ orFzG P.nx Γ O
  | x :: r, Γ, O => chk O ∧ g (fun _ _ _ => False) x Γ O fun Γ1 O1 => b { P with nx := forL chk g b P r, ct := forL chk g b P r, bk := orFzG P.nx } Γ1 O1
def forD (O : Sto) (d : D) (g : MG) (b : MS) (P : En) (Γ : Gm) : Prop := match itemsOf O d with
  | some ds => forL (fun O => itemsOf O d = some ds) g b P ds Γ O
  | none => False
def mFor (m : ME) (g : MG) (b : MS) : MS := fun P Γ O => m (P.x Γ) Γ O fun d O1 => forD O1 d g b P Γ
def upto (lo : Int) : Nat → List D
  | 0 => []
  | n + 1 => .int lo :: upto (lo + 1) n
theorem upto_get : ∀ {n : Nat} {lo : Int} {i : Nat}, i < n → (upto lo n)[i]? = some (.int (lo + i))
  | 0, _, _, h => absurd h (Nat.not_lt_zero _)
  | n + 1, lo, 0, _ => by simp [upto]
  | n + 1, lo, i + 1, h => by
    have := upto_get (n := n) (lo := lo + 1) (i := i) (by omega)
    show (upto (lo + 1) n)[i]? = _
    rw [this]
    congr 2
    omega
theorem upto_len : ∀ {n : Nat} {lo : Int}, (upto lo n).length = n
  | 0, _ => rfl
  | n + 1, lo => by show (upto (lo + 1) n).length + 1 = n + 1; rw [upto_len]
def rng1 (ds : List D) (Q : Int → Nat → Prop) : Prop := match ds with
  | [.int j] => (-(2 ^ 62) ≤ j ∧ j < 2 ^ 62) ∧ Q 0 j.toNat
  | _ => False
def rng2 (ds : List D) (Q : Int → Nat → Prop) : Prop := match ds with
  | [.int i, .int j] => (-(2 ^ 62) ≤ i ∧ i < 2 ^ 62 ∧ -(2 ^ 62) ≤ j ∧ j < 2 ^ 62) ∧ Q i (j - i).toNat
  | _ => False
theorem rng1_ok {ds : List D} {Q : Int → Nat → Prop} (h : rng1 ds Q) : ∃ j, ds = [.int j] ∧ (-(2 ^ 62) ≤ j ∧ j < 2 ^ 62) ∧ Q 0 j.toNat := by
  unfold rng1 at h
  split at h
  · exact ⟨_, rfl, h⟩
  · exact h.elim
theorem rng2_ok {ds : List D} {Q : Int → Nat → Prop} (h : rng2 ds Q) : ∃ i j, ds = [.int i, .int j] ∧ (-(2 ^ 62) ≤ i ∧ i < 2 ^ 62 ∧ -(2 ^ 62) ≤ j ∧ j < 2 ^ 62) ∧ Q i (j - i).toNat := by
  unfold rng2 at h
  split at h
  · exact ⟨_, _, rfl, h⟩
  · exact h.elim
def mForR1 (ms : MA) (g : MG) (b : MS) : MS := fun P Γ O => ms (P.x Γ) Γ O fun ds O1 => rng1 ds fun lo n => forL (fun _ => True) g b P (upto lo n) Γ O1
def mForR2 (ms : MA) (g : MG) (b : MS) : MS := fun P Γ O => ms (P.x Γ) Γ O fun ds O1 => rng2 ds fun lo n => forL (fun _ => True) g b P (upto lo n) Γ O1

section
variable {X : Cx} {W : WX} {pos : Pos}
/-- a loop's walk, by what its iterator yields -/
theorem for_core {K : PySem.W.Frag} {J : It} {all : List D} {chk : Sto → Prop} {g : MG} {b : MS} {P : En} {H0 : Hp} {D0 : Ends} (l : LinkS K W H0 P D0)
    (hgo : ∀ H1 O H i x, Same H0 H1 → Sta K H1 O H → chk O → all[i]? = some x → J.go i H ∧ ∀ y H', J.yld i H y H' → H' = H ∧ Is K H1 y x)
    (hstop : ∀ H1 O H i, Same H0 H1 → Sta K H1 O H → chk O → all.length ≤ i → J.stop i H) {Γ : Gm} {σ : L2.St} {O : Sto} {H : Hp} (env : EnvR K H0 Γ σ) (st : Sta K H0 O H) (hm : forL chk g b P all Γ O) :
    ∃ W0 : Nat → Nat → L2.St → Hp → Prop, (∃ m, W0 0 m σ H) ∧ ∀ i m σ H, W0 i m σ H →
      (J.stop i H ∧ D0.nx σ H) ∨ (J.go i H ∧ ∃ N : L2.St → Hp → Prop, (∀ σ' H', N σ' H' → ∃ m', m' < m ∧ W0 (i + 1) m' σ' H') ∧ ∀ x H', J.yld i H x H' → r3G K W g x σ H' fun σ2 H2 => r3S K W b { D0 with nx := N, ct := N, bk := D0.nx } σ2 H2) := by
  refine ⟨fun i m σ H => ∃ Γ O H1, Same H0 H1 ∧ EnvR K H1 Γ σ ∧ Sta K H1 O H ∧ i + m = all.length ∧ forL chk g b P (all.drop i) Γ O, ⟨all.length, Γ, O, H0, Same.refl _, env, st, by omega, by simpa using hm⟩, ?_⟩
  rintro i m σ H ⟨Γ, O, H1, s1, env1, st1, hi, hm⟩
  cases e : all.drop i with
  | nil =>
    rw [e] at hm
    have hl : all.length ≤ i := List.drop_eq_nil_iff.mp e
    exact .inl ⟨hstop H1 O H i s1 st1 hm.1 hl, l.nx.fz H1 Γ σ O H s1 env1 st1 hm.2⟩
  | cons x r =>
    rw [e] at hm
    have hx : all[i]? = some x := by
      have h0 := congrArg (fun z : List L3.D => z[0]?) e
      simp only [List.getElem?_drop] at h0
      simpa using h0
    have hr : all.drop (i + 1) = r := by
      have h0 := congrArg List.tail e
      rw [List.tail_drop] at h0
      exact h0
    obtain ⟨j1, j2⟩ := hgo H1 O H i x s1 st1 hm.1 hx
    refine .inr ⟨j1, fun σ' H' => ∃ Γ O H2, Same H0 H2 ∧ EnvR K H2 Γ σ' ∧ Sta K H2 O H' ∧ forL chk g b P r Γ O, ?_, ?_⟩
    · rintro σ' H' ⟨Γ', O', H2, s2, env2, st2, h2⟩
      have hlt : i < all.length := (List.getElem?_eq_some_iff.mp hx).1
      exact ⟨m - 1, by omega, Γ', O', H2, s2, env2, st2, by omega, by rw [hr]; exact h2⟩
    · intro y H' hy
      obtain ⟨rfl, is⟩ := j2 y H' hy
      refine ⟨Γ, O, H1, _, _, x, env1, st1, is, hm.2, linkX0, fun H2 Γ2 σ2 O2 H2' s2 env2 st2 hm2 => ?_⟩
      refine ⟨Γ2, O2, H2, _, env2, st2, hm2, ?_⟩
      have s02 := s1.trans s2
      have l2 := l.mono s02
      refine ⟨fun H3 Γ3 σ3 O3 H3' s3 env3 st3 h3 => ⟨Γ3, O3, H3, s02.trans s3, env3, st3, h3⟩, l2.rt, l2.nx.fz, fun H3 Γ3 σ3 O3 H3' s3 env3 st3 h3 => ⟨Γ3, O3, H3, s02.trans s3, env3, st3, h3⟩, l2.xp⟩
/-- a list, a tuple, a text walked -/
def iSeq3 (K : PySem.W.Frag) (te : TE) : TI := fun σ H R => te σ H fun x H1 => (∃ a, x = .ref a ∧ (∃ xs, SqL K H1 a xs) ∧ R (Itl K a) H1) ∨ (∃ a, x = .ref a ∧ (∃ xs, SqT K H1 a xs) ∧ R (Itt K a) H1) ∨ ∃ z, x = .str z ∧ R (Its z) H1
theorem pi_seq3 {tg e : Expr} {te : TE} (he : PE X e te) : PI X tg e (iSeq3 X.K te) := by
  refine ⟨fun pins s σ H R I h => ?_⟩
  refine thn (he.run pins s σ H _ I h) fun v s1 ⟨y, H1, I1, r1, q⟩ => ?_
  rcases q with ⟨a, e, ⟨xs, hq⟩, q⟩ | ⟨a, e, ⟨xs, hq⟩, q⟩ | ⟨x, e, q⟩
  · subst e
    cases r1
    obtain ⟨its, rv, p, hz⟩ := I1.list hq
    refine wpAny_pyIter_list p.isList ?_
    refine ⟨s1.heap.objs.size, [s1.heap.objs.size], _, _, H1, rfl, I1.kept (t' := s1.toks) fun b o e => Heap.get?_push_of_some _ e, turn_list a _, ⟨_, Heap.get?_push_size _ rfl, rfl, rfl⟩, fun b hb => ?_, q⟩
    have e : b = s1.heap.objs.size := by simpa using hb
    subst e
    exact I1.fpOk (Nat.le_refl _) (I1.hok.fresh (Nat.le_refl _))
  · subst e
    cases r1
    obtain ⟨its, rv, p, hz⟩ := I1.tuple hq
    refine wpAny_pyIter_tuple (show s1.heap.IsTuple a its.toArray from p) ?_
    refine ⟨s1.heap.objs.size, [s1.heap.objs.size], _, _, H1, rfl, I1.kept (t' := s1.toks) fun b o e => Heap.get?_push_of_some _ e, turn_tuple a _, ⟨_, Heap.get?_push_size _ rfl, rfl, rfl⟩, fun b hb => ?_, q⟩
    have e : b = s1.heap.objs.size := by simpa using hb
    subst e
    exact I1.fpOk (Nat.le_refl _) (I1.hok.fresh (Nat.le_refl _))
  · subst e
    obtain ⟨t, rfl⟩ := r1
    cases ha : x.cps.all (· < 128)
    · exact wpAny_pyIter_wide ha (pi_one (tk := s1.toks) I1 _ (turn_str _ x t "str_iterator" (.inr rfl)) ⟨_, Heap.get?_push_size _ rfl, rfl, rfl⟩ q)
    · exact wpAny_pyIter_ascii ha (pi_one (tk := s1.toks) I1 _ (turn_str _ x t "str_ascii_iterator" (.inl rfl)) ⟨_, Heap.get?_push_size _ rfl, rfl, rfl⟩ q)
theorem Rd.sq {K : PySem.W.Frag} {H : Hp} {a : Addr} {vs : List V} (r : Rd H a (.lst vs)) : SqL K H a vs := .inl r
/-- the iterator of a value, by its items: which, and what it yields -/
theorem items_it {K : PySem.W.Frag} {H0 : Hp} {v : V} {d : L3.D} {all : List L3.D} (is : Is K H0 v d) {O : Sto} (hd : itemsOf O d = some all) :
    ∃ J : It, (∀ H1 O H, Same H0 H1 → Sta K H1 O H → itemsOf O d = some all → (∃ a, v = .ref a ∧ (∃ xs, SqL K H a xs) ∧ J = Itl K a) ∨ (∃ a, v = .ref a ∧ (∃ xs, SqT K H a xs) ∧ J = Itt K a) ∨ ∃ z, v = .str z ∧ J = Its z) ∧
      (∀ H1 O H i x, Same H0 H1 → Sta K H1 O H → itemsOf O d = some all → all[i]? = some x → J.go i H ∧ ∀ y H', J.yld i H y H' → H' = H ∧ Is K H1 y x) ∧ (∀ H1 O H i, Same H0 H1 → Sta K H1 O H → itemsOf O d = some all → all.length ≤ i → J.stop i H) := by
  have viaL : ∀ a, v = .ref a → (∀ H1 O H, Same H0 H1 → Sta K H1 O H → itemsOf O d = some all → ∃ vs, SqL K H a vs ∧ Iss K H1 vs all) → ∃ J : It, (∀ H1 O H, Same H0 H1 → Sta K H1 O H → itemsOf O d = some all → (∃ a, v = .ref a ∧ (∃ xs, SqL K H a xs) ∧ J = Itl K a) ∨ (∃ a, v = .ref a ∧ (∃ xs, SqT K H a xs) ∧ J = Itt K a) ∨ ∃ z, v = .str z ∧ J = Its z) ∧
      (∀ H1 O H i x, Same H0 H1 → Sta K H1 O H → itemsOf O d = some all → all[i]? = some x → J.go i H ∧ ∀ y H', J.yld i H y H' → H' = H ∧ Is K H1 y x) ∧ (∀ H1 O H i, Same H0 H1 → Sta K H1 O H → itemsOf O d = some all → all.length ≤ i → J.stop i H) := by
    intro a e q
    refine ⟨Itl K a, fun H1 O H s st h => ?_, fun H1 O H i x s st h hx => ?_, fun H1 O H i s st h hl => ?_⟩
    · obtain ⟨vs, r, _⟩ := q H1 O H s st h
      exact .inl ⟨a, e, ⟨vs, r⟩, rfl⟩
    · obtain ⟨vs, r, ii⟩ := q H1 O H s st h
      obtain ⟨w, hw, iw⟩ := ii.get hx
      exact ⟨⟨vs, w, r, hw⟩, fun y H' hy => ⟨hy.1, by rw [Option.some.inj ((hy.2 vs r).symm.trans hw)]; exact iw⟩⟩
    · obtain ⟨vs, r, ii⟩ := q H1 O H s st h
      exact ⟨vs, r, by rw [ii.1]; exact hl⟩
  cases is with
  | str z =>
    cases hd
    refine ⟨Its z, fun H1 O H s st h => .inr (.inr ⟨z, rfl, rfl⟩), fun H1 O H i x s st h hx => ?_, fun H1 O H i s st h hl => ?_⟩
    · rw [List.getElem?_map] at hx
      cases e : z.cps.toList[i]? with
      | none => rw [e] at hx; cases hx
      | some c =>
        rw [e] at hx
        cases hx
        have hlt : i < z.cps.size := by
          have := (List.getElem?_eq_some_iff.mp e).1
          simpa using this
        refine ⟨hlt, fun y H' hy => ⟨hy.1, ?_⟩⟩
        obtain ⟨c', h1, h2⟩ := hy.2
        have e3 : z.cps.toList[i]? = z.cps[i]? := by simp
        rw [e3, h1] at e
        cases e
        subst h2
        exact .str _
    · have : z.cps.size ≤ i := by simpa using hl
      exact this
  | @tup a vs ds r l c =>
    have hds : ds = all := Option.some.inj hd
    subst hds
    refine ⟨Itt K a, fun H1 O H s st h => ?_, fun H1 O H i x s st h hx => ?_, fun H1 O H i s st h hl => ?_⟩
    · exact .inr (.inl ⟨a, rfl, ⟨vs, same_t (s.trans st.same) r⟩, rfl⟩)
    · have ii : Iss K H0 vs ds := ⟨l, c⟩
      obtain ⟨w, hw, iw⟩ := ii.get hx
      have r' := same_t (s.trans st.same) r
      exact ⟨⟨vs, w, r', hw⟩, fun y H' hy => ⟨hy.1, by rw [Option.some.inj ((hy.2 vs r').symm.trans hw)]; exact iw.mono s⟩⟩
    · exact ⟨vs, same_t (s.trans st.same) r, by rw [l]; exact hl⟩
  | @lst a vs ds r l c =>
    have hds : ds = all := Option.some.inj hd
    subst hds
    exact viaL a rfl fun H1 O H s st h => ⟨vs, same_l (s.trans st.same) r, (show Iss K H0 vs ds from ⟨l, c⟩).mono s⟩
  | cell p =>
    refine viaL p rfl fun H1 O H s st h => ?_
    obtain ⟨_, vs, e, ii⟩ := st.cell p _ (lstOf_cell h)
    exact ⟨vs, SqL.of e, ii⟩
  | non => cases hd
  | bl b => cases hd
  | int i => cases hd
  | ty n => cases hd
  | obj h l c => cases hd
theorem ps3_for {tg iter : Expr} {body : List Stmt} {m : ME} {g : MG} {b : MS} (hp : PassesOwn (model X.prog X.w) X.A X.env X.xe) (hc : X.calm = true) (hi : PE X iter (r3E X.K W m)) (hg : PG X tg (r3G X.K W g)) (hb : PSs X body (r3S X.K W b))
    (hs : ∀ x, foldedSetIterable iter X.env x = pure x) : PS X (.For tg iter body [] pos) (r3S X.K W (mFor m g b)) := by
  refine psW (ps_for hp hc (pi_seq3 hi) hg hb hs) fun E σ H ⟨Γ, O, H0, P, env, st, hm, l⟩ => ?_
  refine ⟨Γ, O, H0, _, _, env, st, hm, l.x env, fun H1 v d O1 H' s1 is1 st1 hm1 => ?_⟩
  have hm2 : forD O1 d g b P Γ := hm1
  unfold forD at hm2
  cases e : itemsOf O1 d with
  | none => rw [e] at hm2; exact hm2.elim
  | some all =>
    rw [e] at hm2
    obtain ⟨J, j1, j2, j3⟩ := items_it is1 e
    have core := for_core (J := J) (l.mono s1) j2 j3 (env.mono s1) st1 hm2
    rcases j1 H1 O1 H' (Same.refl _) st1 e with ⟨a, rfl, hx, rfl⟩ | ⟨a, rfl, hx, rfl⟩ | ⟨z, rfl, rfl⟩
    · exact .inl ⟨a, rfl, hx, core⟩
    · exact .inr (.inl ⟨a, rfl, hx, core⟩)
    · exact .inr (.inr ⟨z, rfl, core⟩)
theorem rng_core {K : PySem.W.Frag} {lo : Int} {n : Nat} {g : MG} {b : MS} {P : En} {H0 : Hp} {D0 : Ends} (l : LinkS K W H0 P D0) {Γ : Gm} {σ : L2.St} {O : Sto} {H : Hp} (env : EnvR K H0 Γ σ) (st : Sta K H0 O H) (hm : forL (fun _ => True) g b P (upto lo n) Γ O) :
    ∃ W0 : Nat → Nat → L2.St → Hp → Prop, (∃ m, W0 0 m σ H) ∧ ∀ i m σ H, W0 i m σ H →
      ((Itr lo n).stop i H ∧ D0.nx σ H) ∨ ((Itr lo n).go i H ∧ ∃ N : L2.St → Hp → Prop, (∀ σ' H', N σ' H' → ∃ m', m' < m ∧ W0 (i + 1) m' σ' H') ∧ ∀ x H', (Itr lo n).yld i H x H' → r3G K W g x σ H' fun σ2 H2 => r3S K W b { D0 with nx := N, ct := N, bk := D0.nx } σ2 H2) := by
  refine for_core l (fun H1 O H i x s st _ hx => ?_) (fun H1 O H i s st _ hl => ?_) env st hm
  · have hlt : i < n := by
      have := (List.getElem?_eq_some_iff.mp hx).1
      rwa [upto_len] at this
    rw [upto_get hlt] at hx
    cases hx
    exact ⟨hlt, fun y H' hy => ⟨hy.1, by rw [hy.2]; exact .int _⟩⟩
  · rw [upto_len] at hl
    exact hl
theorem ps3_forR1 {tg a : Expr} {body : List Stmt} {ms : MA} {g : MG} {b : MS} {p pos1 : Pos} (hp : PassesOwn (model X.prog X.w) X.A X.env X.xe) (hc : X.calm = true) (hgl : Gl X "range") (hm : X.mg "range" = none) (ha : PA X [a] (r3A X.K W ms))
    (hst : starEach [a] X.env = [(false, eval a X.env)]) (hg : PG X tg (r3G X.K W g)) (hb : PSs X body (r3S X.K W b)) : PS X (.For tg (.Call (.Name "range" p) [a] [] pos1) body [] pos) (r3S X.K W (mForR1 ms g b)) := by
  refine psW (ps_for hp hc (pi_range1 hgl hm ha hst) hg hb (by intro _; rfl)) fun E σ H ⟨Γ, O, H0, P, env, st, hm, l⟩ => ?_
  refine ⟨Γ, O, H0, _, _, env, st, hm, l.x env, fun H1 vs ds O1 H' s1 is1 st1 hm2 => ?_⟩
  obtain ⟨j, rfl, hj, hm2⟩ := rng1_ok hm2
  obtain ⟨v, rfl, r⟩ := is1.one
  cases r
  exact ⟨_, rfl, hj.1, hj.2, rng_core (l.mono s1) (env.mono s1) st1 hm2⟩
theorem ps3_forR2 {tg a a2 : Expr} {body : List Stmt} {ms : MA} {g : MG} {b : MS} {p pos1 : Pos} (hp : PassesOwn (model X.prog X.w) X.A X.env X.xe) (hc : X.calm = true) (hgl : Gl X "range") (hm : X.mg "range" = none) (ha : PA X [a, a2] (r3A X.K W ms))
    (hst : starEach [a, a2] X.env = [(false, eval a X.env), (false, eval a2 X.env)]) (hst2 : starEach [a2] X.env = [(false, eval a2 X.env)]) (hg : PG X tg (r3G X.K W g)) (hb : PSs X body (r3S X.K W b)) : PS X (.For tg (.Call (.Name "range" p) [a, a2] [] pos1) body [] pos) (r3S X.K W (mForR2 ms g b)) := by
  refine psW (ps_for hp hc (pi_range2 hgl hm ha hst hst2) hg hb (by intro _; rfl)) fun E σ H ⟨Γ, O, H0, P, env, st, hm, l⟩ => ?_
  refine ⟨Γ, O, H0, _, _, env, st, hm, l.x env, fun H1 vs ds O1 H' s1 is1 st1 hm2 => ?_⟩
  obtain ⟨i, j, rfl, hj, hm2⟩ := rng2_ok hm2
  obtain ⟨v, w, rfl, r, r2⟩ := is1.two_
  cases r
  cases r2
  exact ⟨_, _, rfl, hj, rng_core (l.mono s1) (env.mono s1) st1 hm2⟩

/-! ## while -/
def mWhile (t : MT) (b : MS) : MS := fun P Γ O => ∃ W0 : Nat → Gm → Sto → Prop, (∃ m, W0 m Γ O) ∧ ∀ m Γ O, W0 m Γ O →
  t (P.x Γ) Γ O fun k O1 => if k = true then b { P with nx := fun Γ' O' => ∃ m', m' < m ∧ W0 m' Γ' O', ct := fun Γ' O' => ∃ m', m' < m ∧ W0 m' Γ' O', bk := orFzG P.nx } Γ O1 else orFzG P.nx Γ O1
theorem ps3_while {c : Expr} {body : List Stmt} {t : MT} {b : MS} (hp : PassesOwn (model X.prog X.w) X.A X.env X.xe) (hc : PT X c (r3T X.K W t)) (hb : PSs X body (r3S X.K W b)) : PS X (.While c body [] pos) (r3S X.K W (mWhile t b)) := by
  refine psW (ps_while hp hc hb) fun E σ H ⟨Γ, O, H0, P, env, st, ⟨W0, ⟨m0, w0⟩, hm⟩, l⟩ => ?_
  refine ⟨fun m σ H => ∃ Γ O H1, Same H0 H1 ∧ EnvR X.K H1 Γ σ ∧ Sta X.K H1 O H ∧ W0 m Γ O, ⟨m0, Γ, O, H0, Same.refl _, env, st, w0⟩, ?_⟩
  rintro m σ H ⟨Γ, O, H1, s1, env1, st1, w1⟩
  have l1 := l.mono s1
  refine ⟨Γ, O, H1, _, _, env1, st1, hm m Γ O w1, l1.x env1, fun H2 k O2 H2' s2 st2 hm2 => ?_⟩
  cases k with
  | true =>
    rw [if_pos rfl] at hm2 ⊢
    refine ⟨fun σ' H' => ∃ m', m' < m ∧ ∃ Γ O H1, Same H0 H1 ∧ EnvR X.K H1 Γ σ' ∧ Sta X.K H1 O H' ∧ W0 m' Γ O, fun σ' H' ⟨m', h1, h2⟩ => ⟨m', h1, h2⟩, ?_⟩
    have s12 := s1.trans s2
    have l2 := l.mono s12
    refine ⟨Γ, O2, H2, _, env1.mono s2, st2, hm2, ?_, l2.rt, l2.nx.fz, ?_, l2.xp⟩
    · rintro H3 Γ3 σ3 O3 H3' s3 env3 st3 ⟨m', h1, h2⟩
      exact ⟨m', h1, Γ3, O3, H3, s12.trans s3, env3, st3, h2⟩
    · rintro H3 Γ3 σ3 O3 H3' s3 env3 st3 ⟨m', h1, h2⟩
      exact ⟨m', h1, Γ3, O3, H3, s12.trans s3, env3, st3, h2⟩
  | false =>
    rw [if_neg Bool.false_ne_true] at hm2 ⊢
    exact l1.nx.fz H2 Γ σ O2 H2' s2 (env1.mono s2) st2 hm2
end
end L3

namespace L3
open PySem PySem.Spec PyProof.Rows L2

/-! ## isinstance -/
inductive T3 where
  | int | bool | str | tup | lst | dict
  deriving DecidableEq
def T3.nm : T3 → String
  | .int => "int" | .bool => "bool" | .str => "str" | .tup => "tuple" | .lst => "list" | .dict => "dict"
def T3.isInt : T3 → Bool | .int => true | _ => false
def T3.isBl : T3 → Bool | .int => true | .bool => true | _ => false
def T3.isStr : T3 → Bool | .str => true | _ => false
def T3.isTup : T3 → Bool | .tup => true | _ => false
def T3.isLst : T3 → Bool | .lst => true | _ => false
def isT (O : Sto) (d : D) (t : T3) : Option Bool := match d with
  | .non => some false
  | .int _ => some t.isInt
  | .bl _ => some t.isBl
  | .str _ => some t.isStr
  | .tup _ => some t.isTup
  | .lst _ => some t.isLst
  | .cell p => match O p with
    | some (.lst _) => some t.isLst
    | _ => none
  | _ => none
theorem sqT_tyX {K : PySem.W.Frag} {H : Hp} {a : Addr} {vs : List V} (h : SqT K H a vs) : TyX K H (.ref a) (.type "tuple") := by
  rcases h with (h | ⟨o, h⟩) | ⟨o, its, n, hk, hc, _⟩
  · exact .base (.tup h)
  · exact .fTuple h
  · exact .kTuple hk hc
theorem rd_tyX {K : PySem.W.Frag} {H : Hp} {a : Addr} {vs : List V} (h : SqL K H a vs) : TyX K H (.ref a) (.type "list") := by
  rcases h with (h | ⟨o, h⟩) | ⟨o, its, n, hk, hc, _⟩
  · exact .base (.lst h)
  · exact .base (.frz h)
  · exact .kList hk hc
theorem isT_ok {K : PySem.W.Frag} {H0 H : Hp} {O : Sto} {v : V} {d : D} {t : T3} {b : Bool} (st : Sta K H0 O H) (is : Is K H0 v d) (h : isT O d t = some b) : ∃ ty, TyX K H v (.type ty) ∧ kitB ty t.nm = some b := by
  have L : ∀ b', some t.isLst = some b' → kitB "list" t.nm = some b' := by
    intro b' e
    cases e
    cases t <;> decide +kernel
  cases is with
  | non => cases h; exact ⟨"NoneType", .base .non, by cases t <;> decide +kernel⟩
  | bl x => exact ⟨"bool", .base (.bl x), by cases h; cases t <;> decide +kernel⟩
  | int x => exact ⟨"int", .base (.int x), by cases h; cases t <;> decide +kernel⟩
  | str x => exact ⟨"str", .base (.str x), by cases h; cases t <;> decide +kernel⟩
  | ty n => cases h
  | tup r l c => exact ⟨"tuple", sqT_tyX (same_t st.same r), by cases h; cases t <;> decide +kernel⟩
  | lst r l c => exact ⟨"list", rd_tyX (same_l st.same r), L b h⟩
  | obj r l c => cases h
  | cell p =>
    have h2 : (match O p with
      | some (.lst _) => some t.isLst
      | _ => none) = some b := h
    cases e : O p with
    | none => rw [e] at h2; cases h2
    | some u =>
      rw [e] at h2
      cases u with
      | lst ds =>
        obtain ⟨_, vs, e2, _⟩ := st.cell p _ e
        exact ⟨"list", .base (.lst e2), L b h2⟩
      | _ => cases h2
def mIsT (t : T3) (m : ME) : ME := fun X Γ O Q => m X Γ O fun d O1 => match isT O1 d t with
  | some b => Q (.bl b) O1
  | none => False
/-- what a class of the program must say for isinstance -/
structure OCls (K : PySem.W.Frag) (C : Addr) : Prop where
  cls : Cls K C
  ha : PySem.W.findIn K (.ref C) "__class__" = some (some (.builtin "object.__class__"))
  hn : PySem.W.specialIn K (.builtin "object.__class__") "__get__" = some (some (.builtin "getset_descriptor.__get__"))
  ht : PySem.W.takesIn K (.builtin "object.__class__") = some true
  hm : PySem.W.mroIn K C (.type "object") = some true
  ne : ∀ T ∈ ["int", "bool", "str", "tuple", "list", "NoneType"], PySem.W.kitOne K (.type T) (.ref C) = some false
def isO (cn : Str) (O : Sto) (d : D) : Option Bool := match d with
  | .non => some false
  | .int _ => some false
  | .bl _ => some false
  | .str _ => some false
  | .tup _ => some false
  | .lst _ => some false
  | .obj C _ => if C = cn then some true else none
  | .cell p => match O p with
    | some (.lst _) => some false
    | some (.ins C _) => if C = cn then some true else none
    | _ => none
  | _ => none
theorem kit_self {K : PySem.W.Frag} {C : Addr} : PySem.W.kitOne K (.ref C) (.ref C) = some true := by
  unfold PySem.W.kitOne
  rw [if_pos (by simp)]
theorem isO_ok {K : PySem.W.Frag} {H0 H : Hp} {O : Sto} {v : V} {d : D} {cn : Str} {b : Bool} (c : OCls K (He.ga K cn)) (st : Sta K H0 O H) (is : Is K H0 v d) (h : isO cn O d = some b) : ∃ ty, TyX K H v ty ∧ PySem.W.kitOne K ty (.ref (He.ga K cn)) = some b := by
  cases is with
  | non => cases h; exact ⟨_, .base .non, c.ne _ (by decide)⟩
  | bl x => cases h; exact ⟨_, .base (.bl x), c.ne _ (by decide)⟩
  | int x => cases h; exact ⟨_, .base (.int x), c.ne _ (by decide)⟩
  | str x => cases h; exact ⟨_, .base (.str x), c.ne _ (by decide)⟩
  | ty n => cases h
  | tup r l q => cases h; exact ⟨_, sqT_tyX (same_t st.same r), c.ne _ (by decide)⟩
  | lst r l q => cases h; exact ⟨_, rd_tyX (same_l st.same r), c.ne _ (by decide)⟩
  | @obj a dx C vs ds r l q =>
    have h2 : (if C = cn then some true else none) = some b := h
    split at h2
    · rename_i e
      cases h2
      subst e
      exact ⟨_, .base (.ins (st.same _ _ r) c.cls c.ha c.hn c.ht c.hm), kit_self⟩
    · cases h2
  | cell p =>
    have h2 : (match O p with
      | some (.lst _) => some false
      | some (.ins C _) => if C = cn then some true else none
      | _ => none) = some b := h
    cases e : O p with
    | none => rw [e] at h2; cases h2
    | some u =>
      rw [e] at h2
      cases u with
      | lst ds =>
        cases h2
        obtain ⟨_, vs, e2, _⟩ := st.cell p _ e
        exact ⟨_, .base (.lst e2), c.ne _ (by decide)⟩
      | ins C fs =>
        have h3 : (if C = cn then some true else none) = some b := h2
        split at h3
        · rename_i e3
          cases h3
          subst e3
          obtain ⟨_, dx, vs, e2, _⟩ := st.cell p _ e
          exact ⟨_, .base (.ins e2 c.cls c.ha c.hn c.ht c.hm), kit_self⟩
        · cases h3
      | _ => cases h2
def mIsO (cn : Str) (m : ME) : ME := fun X Γ O Q => m X Γ O fun d O1 => match isO cn O1 d with
  | some b => Q (.bl b) O1
  | none => False
section
variable {X : Cx} {W : WX} {pos : Pos}
theorem pe3_isT {e : Expr} {t : T3} {m : ME} {p p2 : Pos} {x : Str} (he : PE X e (r3E X.K W m)) (hg : Gl X "isinstance") (hm : X.mg "isinstance" = none) (hgt : Gl X x) (hmt : X.mg x = none) (hvt : bootBuiltins x = some (.type t.nm)) (hn : x ≠ "__name__") (hdb : (x == ("__debug__" : Str)) = false)
    (h1 : starEach [e, .Name x p2] X.env = (false, eval e X.env) :: starEach [.Name x p2] X.env) : PE X (.Call (.Name "isinstance" p) [e, .Name x p2] [] pos) (r3E X.K W (mIsT t m)) := by
  refine peW (pe_callB call_isi hg hm (by decide +kernel) (pa_cons he (pa_cons (pe_bltn (v := .ty t.nm) hgt hmt hvt rfl hn hdb) pa_nil) h1) (by decide) (by decide) h1) fun σ H Q ⟨Γ, O, H0, Z, P, env, st, hm, lx, lv⟩ => ?_
  refine ⟨Γ, O, H0, Z, _, env, st, hm, lx, fun H1 v d O1 H' s1 is1 st1 hm1 => ?_⟩
  have hm2 : (match isT O1 d t with
    | some b => P (.bl b) O1
    | none => False) := hm1
  cases e2 : isT O1 d t with
  | none => rw [e2] at hm2; exact hm2.elim
  | some b =>
    rw [e2] at hm2
    obtain ⟨ty, h1, h2⟩ := isT_ok st1 is1 e2
    exact ⟨_, _, _, _, b, rfl, .ty _, h1, kit_ty h2, lv H1 _ _ O1 H' s1 (.bl b) st1 hm2⟩
theorem pe3_isO {e : Expr} {cn : Str} {m : ME} {p p2 : Pos} (he : PE X e (r3E X.K W m)) (hg : Gl X "isinstance") (hm : X.mg "isinstance" = none) (hgt : Gl X cn) (hmt : X.mg cn = some (.ref (He.ga X.K cn))) (c : OCls X.K (He.ga X.K cn)) (hdb : (cn == ("__debug__" : Str)) = false)
    (h1 : starEach [e, .Name cn p2] X.env = (false, eval e X.env) :: starEach [.Name cn p2] X.env) : PE X (.Call (.Name "isinstance" p) [e, .Name cn p2] [] pos) (r3E X.K W (mIsO cn m)) := by
  refine peW (pe_callB call_isi hg hm (by decide +kernel) (pa_cons he (pa_cons (pe_glob (v := .ref (He.ga X.K cn)) hgt hmt rfl hdb) pa_nil) h1) (by decide) (by decide) h1) fun σ H Q ⟨Γ, O, H0, Z, P, env, st, hm, lx, lv⟩ => ?_
  refine ⟨Γ, O, H0, Z, _, env, st, hm, lx, fun H1 v d O1 H' s1 is1 st1 hm1 => ?_⟩
  have hm2 : (match isO cn O1 d with
    | some b => P (.bl b) O1
    | none => False) := hm1
  cases e2 : isO cn O1 d with
  | none => rw [e2] at hm2; exact hm2.elim
  | some b =>
    rw [e2] at hm2
    obtain ⟨ty, h1, h2⟩ := isO_ok c st1 is1 e2
    exact ⟨_, _, _, _, b, rfl, .own _, h1, h2, lv H1 _ _ O1 H' s1 (.bl b) st1 hm2⟩
end

/-! ## fields -/
theorem lookup_rel {K : PySem.W.Frag} {H : Hp} {f : Str} {d : D} : ∀ {vs : List (Str × V)} {ds : List (Str × D)}, vs.map (·.1) = ds.map (·.1) → Iss K H (vs.map (·.2)) (ds.map (·.2)) → ds.lookup f = some d → ∃ v, vs.lookup f = some v ∧ Is K H v d
  | [], [], _, _, h => by cases h
  | [], _ :: _, e, _, _ => by cases e
  | _ :: _, [], e, _, _ => by cases e
  | (a, v) :: vs, (b, c) :: ds, e, r, h => by
    have e1 : a = b := (List.cons.inj e).1
    have e2 : vs.map (·.1) = ds.map (·.1) := (List.cons.inj e).2
    subst e1
    obtain ⟨v', vs', ev, i1, i2⟩ := Iss.uncons (show Iss K H (v :: vs.map (·.2)) (c :: ds.map (·.2)) from r)
    cases ev
    rw [List.lookup_cons] at h ⊢
    cases q : (f == a) with
    | true => rw [q] at h; cases h; exact ⟨v, rfl, i1⟩
    | false => rw [q] at h; exact lookup_rel e2 i2 h
def putA (f : Str) (d : D) : List (Str × D) → List (Str × D)
  | [] => [(f, d)]
  | (g, x) :: r => if g = f then (g, d) :: r else (g, x) :: putA f d r
theorem putA_rel {K : PySem.W.Frag} {H : Hp} {f : Str} {v : V} {d : D} (iv : Is K H v d) : ∀ {vs : List (Str × V)} {ds : List (Str × D)}, vs.map (·.1) = ds.map (·.1) → Iss K H (vs.map (·.2)) (ds.map (·.2)) →
    (putF f v vs).map (·.1) = (putA f d ds).map (·.1) ∧ Iss K H ((putF f v vs).map (·.2)) ((putA f d ds).map (·.2))
  | [], [], _, _ => ⟨rfl, .cons iv .nil⟩
  | [], _ :: _, e, _ => by cases e
  | _ :: _, [], e, _ => by cases e
  | (a, w) :: vs, (b, c) :: ds, e, r => by
    have e1 : a = b := (List.cons.inj e).1
    have e2 : vs.map (·.1) = ds.map (·.1) := (List.cons.inj e).2
    subst e1
    obtain ⟨v', vs', ev, i1, i2⟩ := Iss.uncons (show Iss K H (w :: vs.map (·.2)) (c :: ds.map (·.2)) from r)
    cases ev
    show ((if a = f then (a, v) :: vs else (a, w) :: putF f v vs).map (·.1) = (if a = f then (a, d) :: ds else (a, c) :: putA f d ds).map (·.1)) ∧ Iss K H ((if a = f then (a, v) :: vs else (a, w) :: putF f v vs).map (·.2)) ((if a = f then (a, d) :: ds else (a, c) :: putA f d ds).map (·.2))
    by_cases q : a = f
    · rw [if_pos q, if_pos q]
      exact ⟨by simp [e2], .cons iv i2⟩
    · rw [if_neg q, if_neg q]
      obtain ⟨h1, h2⟩ := putA_rel (f := f) iv e2 i2
      exact ⟨by simp [h1], .cons i1 h2⟩
/-- what the classes say of their instances' fields -/
def AtOk (K : PySem.W.Frag) (tab : List (Str × Str)) : Prop := ∀ q ∈ tab, Cls K (He.ga K q.1) ∧ NoAttr K (He.ga K q.1) q.2
def fldD (tab : List (Str × Str)) (f : Str) (O : Sto) (d : D) : Option D := match d with
  | .obj C fs => if (C, f) ∈ tab then fs.lookup f else none
  | .cell p => match O p with
    | some (.ins C fs) => if (C, f) ∈ tab then fs.lookup f else none
    | _ => none
  | _ => none
def mFld (tab : List (Str × Str)) (f : Str) (m : ME) : ME := fun X Γ O Q => m X Γ O fun d O1 => match fldD tab f O1 d with
  | some e => Q e O1
  | none => False
theorem fldD_ok {K : PySem.W.Frag} {H0 H : Hp} {O : Sto} {v : V} {d e : D} {tab : List (Str × Str)} {f : Str} (ok : AtOk K tab) (st : Sta K H0 O H) (is : Is K H0 v d) (h : fldD tab f O d = some e) :
    ∃ a C dx fs w, v = .ref a ∧ H a = some (.ins C dx fs) ∧ Cls K C ∧ NoAttr K C f ∧ fs.lookup f = some w ∧ Is K H0 w e := by
  cases is with
  | @obj a dx C vs ds r l q =>
    have h2 : (if (C, f) ∈ tab then ds.lookup f else none) = some e := h
    split at h2
    · rename_i hm
      obtain ⟨w, h3, h4⟩ := lookup_rel l ⟨by have := congrArg List.length l; simpa using this, q⟩ h2
      exact ⟨a, _, dx, vs, w, rfl, st.same _ _ r, (ok _ hm).1, (ok _ hm).2, h3, h4⟩
    · cases h2
  | cell p =>
    have h2 : (match O p with
      | some (.ins C fs) => if (C, f) ∈ tab then fs.lookup f else none
      | _ => none) = some e := h
    cases e2 : O p with
    | none => rw [e2] at h2; cases h2
    | some u =>
      rw [e2] at h2
      cases u with
      | ins C ds =>
        have h3 : (if (C, f) ∈ tab then ds.lookup f else none) = some e := h2
        split at h3
        · rename_i hm
          obtain ⟨_, dx, vs, e3, l, q⟩ := st.cell p _ e2
          obtain ⟨w, h4, h5⟩ := lookup_rel l q h3
          exact ⟨p, _, dx, vs, w, rfl, e3, (ok _ hm).1, (ok _ hm).2, h4, h5⟩
        · cases h3
      | _ => cases h2
  | _ => cases h
section
variable {X : Cx} {W : WX} {pos : Pos}
theorem pe3_fld {e : Expr} {f : Str} {tab : List (Str × Str)} {m : ME} (ok : AtOk X.K tab) (he : PE X e (r3E X.K W m)) (hb : attributeBase e f X.env (eval e X.env) = eval e X.env) : PE X (.Attribute e f pos) (r3E X.K W (mFld tab f m)) := by
  refine peW (pe_fld he hb) fun σ H Q ⟨Γ, O, H0, Z, P, env, st, hm, lx, lv⟩ => ?_
  refine ⟨Γ, O, H0, Z, _, env, st, hm, lx, fun H1 v d O1 H' s1 is1 st1 hm1 => ?_⟩
  have hm2 : (match fldD tab f O1 d with
    | some e => P e O1
    | none => False) := hm1
  cases e2 : fldD tab f O1 d with
  | none => rw [e2] at hm2; exact hm2.elim
  | some e =>
    rw [e2] at hm2
    obtain ⟨a, C, dx, fs, w, rfl, h1, h2, h3, h4, h5⟩ := fldD_ok ok st1 is1 e2
    exact ⟨a, C, dx, fs, w, rfl, h1, h2, h3, h4, lv H1 _ _ O1 H' s1 h5 st1 hm2⟩
/-- o.f = v -/
def setA (tab : List (Str × Str)) (f : Str) (O : Sto) (o d : D) (Q : Sto → Prop) : Prop := match o with
  | .cell p => match O p with
    | some (.ins C fs) => (C, f) ∈ tab ∧ fs.length < 1000 ∧ Q (put O p (.ins C (putA f d fs)))
    | _ => False
  | _ => False
theorem setA_ok {tab : List (Str × Str)} {f : Str} {O : Sto} {o d : D} {Q : Sto → Prop} (h : setA tab f O o d Q) : ∃ p C fs, o = .cell p ∧ O p = some (.ins C fs) ∧ (C, f) ∈ tab ∧ fs.length < 1000 ∧ Q (put O p (.ins C (putA f d fs))) := by
  unfold setA at h
  split at h
  · split at h
    · rename_i e
      exact ⟨_, _, _, rfl, e, h⟩
    · exact h.elim
  · exact h.elim
def mSetA (tab : List (Str × Str)) (f : Str) (me mo : ME) : MS := fun P Γ O => me (P.x Γ) Γ O fun d O1 => mo (P.x Γ) Γ O1 fun o O2 => setA tab f O2 o d (P.nx Γ)
theorem ps3_setA {o value : Expr} {f : Str} {tab : List (Str × Str)} {me mo : ME} {pos' : Pos} (ok : AtOk X.K tab) (ho : PE X o (r3E X.K W mo)) (hv : PE X value (r3E X.K W me)) (hs : swapsWith value (some (.Attribute o f pos')) pos.line X.env = pure false) :
    PS X (.Assign [.Attribute o f pos'] value pos) (r3S X.K W (mSetA tab f me mo)) := by
  refine psW (ps_fld ho hv hs) fun E σ H ⟨Γ, O, H0, P, env, st, hm, l⟩ => ?_
  refine ⟨Γ, O, H0, _, _, env, st, hm, l.x env, fun H1 v d O1 H' s1 is1 st1 hm1 => ?_⟩
  refine ⟨Γ, O1, H1, _, _, env.mono s1, st1, hm1, (l.x env).mono s1, fun H2 w o' O2 H'' s2 is2 st2 hm2 => ?_⟩
  obtain ⟨p, C, fs, rfl, e, h1, h2, h3⟩ := setA_ok hm2
  cases is2
  obtain ⟨_, dx, vs, e2, k, r⟩ := st2.cell p _ e
  have hl : vs.length = fs.length := by have := congrArg List.length k; simpa using this
  obtain ⟨r1, r2⟩ := putA_rel (f := f) (is1.mono s2) k r
  refine ⟨p, _, dx, vs, rfl, e2, (ok _ h1).1, (ok _ h1).2, by rw [hl]; exact h2, ?_⟩
  exact l.nx H2 Γ σ _ _ (s1.trans s2) (env.mono (s1.trans s2)) (st2.set (u := .ins C (putA f d fs)) e ⟨dx, _, upd_same, r1, r2⟩) h3
end

/-! ## making instances -/
/-- C(..): ex fills up -/
def mMake (C : Str) (S : FSpec) (n : Nat) (ex : List D) (ms : MA) : ME := fun Z Γ O Q => ms Z Γ O fun ds O1 => ds.length = n ∧ ∀ p, O1 p = none → S (.cell p :: (ds ++ ex)) (put O1 p (.ins C [])) Z fun d O2 => d = .non ∧ orFz Q (.cell p) O2
structure MkAt (X : Cx) (C : Str) (n : Nat) (S : FSpec) (ex : List D) : Prop where
  ex : ∃ k f fd ps dvs ds, Mk X.K (He.ga X.K C) f ∧ FnOk X.prog X.w X.K X.mg X.base (L2.CX X.prog X.w) k f fd ps (spOf X.K (n + 1 + ex.length) S) ∧ Room (k + 1) X.A ∧ X.mg C = some (.ref (He.ga X.K C)) ∧ Binds X.K fd ps ds ∧ Vals dvs ds ∧ ∀ H, Iss X.K H dvs ex
section
variable {X : Cx} {W : WX} {pos : Pos}
def tMakeS (C : Addr) (sp : Sp) (dvs : List V) (E : L2.St → XK) (t : TA) : TE := fun σ H Q => t σ H fun vs H1 => ∀ x dx, H1 x = none → H1 dx = none → dx ≠ x → sp (.ref x :: (vs ++ dvs)) (upd (upd H1 dx (.own x)) x (.ins C dx [])) (fun v H2 => v = .non ∧ Q (.ref x) H2) (E σ)
theorem run_makeS {CX : CXT} {k : Nat} {f C : Addr} {fd : FuncData} {ps : List Str} {sp : Sp} {dvs : List V} {ds : List Value} {E : XK} {pins : List (Addr × Obj)} {σ : L2.St} {H : Hp} {s : Shared} {Q : VK} {us : List Value} {vs : List V} (M : Mk X.K C f)
    (F : FnOk X.prog X.w X.K X.mg X.base CX k f fd ps sp) (hr : Room (k + 1) X.A) (hb : Binds X.K fd ps ds) (hd : Vals dvs ds) (hx : PassesAt CX X σ E) (I : Inv X pins σ H s) (r : Vals vs us)
    (h : ∀ x dx, H x = none → H dx = none → dx ≠ x → sp (.ref x :: (vs ++ dvs)) (upd (upd H dx (.own x)) x (.ins C dx [])) (fun v H2 => v = .non ∧ Q (.ref x) H2) E) :
    wpAny (model X.prog X.w) X.A (call (.ref C) us) (EP X pins σ Q) X.xe s := by
  have hq := h (s.heap.objs.size + 1) s.heap.objs.size (I.hok.fresh (Nat.le_succ _)) (I.hok.fresh (Nat.le_refl _)) (Nat.ne_of_lt (Nat.lt_succ_self _))
  have I2 := Inv.made (C := C) I
  have r2 : Vals (V.ref (s.heap.objs.size + 1) :: (vs ++ dvs)) (Value.ref (s.heap.objs.size + 1) :: (us ++ ds)) := .cons rfl (r.append hd)
  have hl : (Value.ref (s.heap.objs.size + 1) :: us ++ ds).length = ps.length := by
    have e := r2.length
    rw [F.len _ _ _ _ hq] at e
    exact e.symm
  refine wpAny_call (make_map (f := f) I.kIn M.makes M.init (beq_iff_eq.mp M.fn) (codeAny_mono (F.run _ X.stack _ _ ⟨Value.ref (s.heap.objs.size + 1) :: us, []⟩ (Value.ref (s.heap.objs.size + 1) :: (us ++ ds)) _ _ E (hr.make C us [])
    (I2.env0.make C us []) (hb _ (Value.ref (s.heap.objs.size + 1) :: us) I2.kIn hl) r2 hq) fun r s' hq' => ?_))
  cases r with
  | error e => exact hx pins _ _ e s' I2 hq'
  | ok fl =>
    cases fl with
    | ret u =>
      obtain ⟨v, H', I3, rv, ev, q3⟩ := I2.after hq'
      subst ev
      exact ⟨rv, ⟨V.ref (s.heap.objs.size + 1), H', I3, rfl, q3⟩⟩
    | next => exact False.elim hq'
    | brk => exact False.elim hq'
    | cont => exact False.elim hq'
theorem make_mid {K : PySem.W.Frag} {C : Str} {S : FSpec} {ex : List D} {dvs : List V} {n : Nat} (hex : ∀ H, Iss K H dvs ex) {Γ : Gm} {Z : PX} {σ : L2.St} {H0 H1 H' : Hp} {O1 : Sto} {vs : List V} {ds : List D} {P : PV} {Q : VK} (s1 : Same H0 H1) (is1 : Iss K H1 vs ds) (st1 : Sta K H1 O1 H')
    (hl : ds.length = n) (hm : ∀ p, O1 p = none → S (.cell p :: (ds ++ ex)) (put O1 p (.ins C [])) Z fun d O2 => d = .non ∧ orFz P (.cell p) O2) (lx : LinkX K W H0 σ Z) (lv : LinkV K H0 P Q) (x dx : Addr) (hx : H' x = none) (hdx : H' dx = none) (ne : dx ≠ x) :
    spOf K (n + 1 + ex.length) S (.ref x :: (vs ++ dvs)) (upd (upd H' dx (.own x)) x (.ins (He.ga K C) dx [])) (fun v H2 => v = .non ∧ Q (.ref x) H2) (WE W σ) := by
  have hO := (st1.free hx).1
  have ie : Iss K H1 (V.ref x :: (vs ++ dvs)) (.cell x :: (ds ++ ex)) := .cons (.cell x) (is1.append (hex H1))
  have st2 : Sta K H1 (put O1 x (.ins C [])) (upd (upd H' dx (.own x)) x (.ins (He.ga K C) dx [])) := (st1.more hdx).newC (u := .ins C []) (by rw [upd_ne ne.symm]; exact hx) ⟨dx, [], upd_same, rfl, .nil⟩
  refine ⟨by rw [ie.1]; simp [hl]; omega, H1, _, _, Z, _, ie, st2, hm x hO, ?_, ?_⟩
  · exact fun H2 C fs O2 oe H'' s2 st2 xo z => lx H2 C fs O2 oe H'' (s1.trans s2) st2 xo z
  · rintro H2 v d O2 H'' s2 is2 st2 ⟨rfl, q⟩
    exact ⟨is2.non_, lv.fz H2 _ _ O2 H'' (s1.trans s2) (.cell x) st2 q⟩
theorem pe3_make {C : Str} {p : Pos} {e : Expr} {es : List Expr} {n : Nat} {S : FSpec} {ex : List D} {ms : MA} (F : MkAt X C n S ex) (tk : Takes X W) (hg : Gl X C) (ha : PA X (e :: es) (r3A X.K W ms)) (hdb : (C == ("__debug__" : Str)) = false)
    (he : starEach (e :: es) X.env = (false, eval e X.env) :: starEach es X.env) (hpl : (backTo pos (starEach es X.env)).any (·.1) = false) : PE X (.Call (.Name C p) (e :: es) [] pos) (r3E X.K W (mMake C S n ex ms)) := by
  obtain ⟨k, f, fd, ps, dvs, ds, M, F, hr, hm, hb, hd, hex⟩ := F.ex
  refine ⟨fun pins s σ H Q I ⟨Γ, O, H0, Z, P, env, st, hmm, lx, lv⟩ => ?_⟩
  refine wpAny_Call_Name_kw (ld_glob I hg hm ?_ hdb)
  have hA : r3A X.K W ms σ H fun vs H1 => ∀ x dx, H1 x = none → H1 dx = none → dx ≠ x → spOf X.K (n + 1 + ex.length) S (.ref x :: (vs ++ dvs)) (upd (upd H1 dx (.own x)) x (.ins (He.ga X.K C) dx [])) (fun v H2 => v = .non ∧ Q (.ref x) H2) (WE W σ) := by
    refine ⟨Γ, O, H0, Z, _, env, st, hmm, lx, fun H1 vs ds' O1 H' s1 is1 st1 hm1 => ?_⟩
    exact make_mid (Γ := Γ) hex s1 is1 st1 hm1.1 hm1.2 lx lv
  refine PySem.W.callWith_K (h₀ := X.base) I.ok.mod.kin M.kp (thn (ha.run pos pins s σ H _ I hA) fun us s1 ⟨vs, H1, I1, r, q⟩ => ⟨I1.kIn, ?_⟩) he hpl
  exact run_makeS M F hr hb hd (passAt tk σ) I1 r q
end

/-- C(.., k = v) -/
def mMakeK (C : Str) (S : FSpec) (n : Nat) (ms mk : MA) : ME := fun Z Γ O Q => ms Z Γ O fun ds O1 => mk Z Γ O1 fun es O2 => ds.length = n ∧ es.length = 1 ∧ ∀ p, O2 p = none → S (.cell p :: (ds ++ es)) (put O2 p (.ins C [])) Z fun d O3 => d = .non ∧ orFz Q (.cell p) O3
structure MkwAt (X : Cx) (C : Str) (n : Nat) (kw : Str) (S : FSpec) : Prop where
  ex : ∃ k f fd ps, Mk X.K (He.ga X.K C) f ∧ FnOk X.prog X.w X.K X.mg X.base (L2.CX X.prog X.w) k f fd ps (spOf X.K (n + 2) S) ∧ Room (k + 1) X.A ∧ X.mg C = some (.ref (He.ga X.K C)) ∧ KBn X.K fd ps (n + 1) [kw] (fun us ws => us ++ ws) (fun vs zs => vs ++ zs)
section
variable {X : Cx} {W : WX} {pos : Pos}
theorem run_makeNS {CX : CXT} {k n : Nat} {f C : Addr} {fd : FuncData} {ps ks : List Str} {sp : Sp} {E : XK} {pins : List (Addr × Obj)} {σ : L2.St} {H : Hp} {s : Shared} {Q : VK} {us ws : List Value} {vs zs : List V} {g : List Value → List Value → List Value} {gV : List V → List V → List V} (M : Mk X.K C f) (F : FnOk X.prog X.w X.K X.mg X.base CX k f fd ps sp) (hr : Room (k + 1) X.A) (hb : KBn X.K fd ps (n + 1) ks g gV)
    (hx : PassesAt CX X σ E) (I : Inv X pins σ H s) (r : Vals vs us) (rz : Vals zs ws) (l1 : vs.length = n) (l2 : zs.length = ks.length)
    (h : ∀ x dx, H x = none → H dx = none → dx ≠ x → sp (gV (.ref x :: vs) zs) (upd (upd H dx (.own x)) x (.ins C dx [])) (fun v H2 => v = .non ∧ Q (.ref x) H2) E) :
    wpAny (model X.prog X.w) X.A (call (.ref C) us (ks.zip ws)) (EP X pins σ Q) X.xe s := by
  have hq := h (s.heap.objs.size + 1) s.heap.objs.size (I.hok.fresh (Nat.le_succ _)) (I.hok.fresh (Nat.le_refl _)) (Nat.ne_of_lt (Nat.lt_succ_self _))
  have I2 := Inv.made (C := C) I
  have r1 : Vals (V.ref (s.heap.objs.size + 1) :: vs) (Value.ref (s.heap.objs.size + 1) :: us) := .cons rfl r
  have r2 := hb.rel r1 rz
  have e1 : (Value.ref (s.heap.objs.size + 1) :: us).length = n + 1 := r1.length.symm.trans (congrArg Nat.succ l1)
  have e2 : ws.length = ks.length := rz.length.symm.trans l2
  refine wpAny_call (make_map (f := f) I.kIn M.makes M.init (beq_iff_eq.mp M.fn) (codeAny_mono (F.run _ X.stack _ _ ⟨Value.ref (s.heap.objs.size + 1) :: us, ks.zip ws⟩ (g (Value.ref (s.heap.objs.size + 1) :: us) ws) _ _ E (hr.make C us (ks.zip ws))
    (I2.env0.make C us (ks.zip ws)) (hb.to _ (Value.ref (s.heap.objs.size + 1) :: us) ws I2.kIn e1 e2) r2 hq) fun r s' hq' => ?_))
  cases r with
  | error e => exact hx pins _ _ e s' I2 hq'
  | ok fl =>
    cases fl with
    | ret u =>
      obtain ⟨v, H', I3, rv, ev, q3⟩ := I2.after hq'
      subst ev
      exact ⟨rv, ⟨V.ref (s.heap.objs.size + 1), H', I3, rfl, q3⟩⟩
    | next => exact False.elim hq'
    | brk => exact False.elim hq'
    | cont => exact False.elim hq'
theorem pk_we {X : Cx} {kws : List Keyword} {t u : TA} (h : PK X kws t) (i : ∀ σ H Q, u σ H Q → t σ H Q) : PK X kws u := ⟨fun pos pins s σ H Q I q => h.run pos pins s σ H Q I (i σ H Q q)⟩
theorem pk3_one {e : Expr} {nm : Option Str} {kp : Pos} {m : ME} (he : PE X e (r3E X.K W m)) : PK X [⟨nm, e, kp⟩] (r3A X.K W (mCons m mNil)) := by
  refine pk_we (pk_cons he pk_nil) fun σ H Q ⟨Γ, O, H0, Z, P, env, st, hm, lx, lv⟩ => ?_
  refine ⟨Γ, O, H0, Z, _, env, st, hm, lx, fun H1 v d O1 H' s1 is1 st1 hm1 => ?_⟩
  exact lv H1 [v] [d] O1 H' s1 (.cons is1 .nil) st1 hm1
theorem pe3_makeK {C kw : Str} {p kp : Pos} {e a : Expr} {es : List Expr} {n : Nat} {S : FSpec} {ms : MA} {m : ME} (F : MkwAt X C n kw S) (tk : Takes X W) (hg : Gl X C) (ha : PA X (e :: es) (r3A X.K W ms)) (hk : PE X a (r3E X.K W m)) (hdb : (C == ("__debug__" : Str)) = false)
    (he : starEach (e :: es) X.env = (false, eval e X.env) :: starEach es X.env) (hpl : (backTo pos (starEach (e :: es) X.env)).any (·.1) = false) : PE X (.Call (.Name C p) (e :: es) [⟨some kw, a, kp⟩] pos) (r3E X.K W (mMakeK C S n ms (mCons m mNil))) := by
  obtain ⟨k, f, fd, ps, M, F, hr, hm, hb⟩ := F.ex
  refine ⟨fun pins s σ H Q I ⟨Γ, O, H0, Z, P, env, st, hmm, lx, lv⟩ => ?_⟩
  refine wpAny_Call_Name_kw (ld_glob I hg hm ?_ hdb)
  have hA : r3A X.K W ms σ H fun vs H1 => r3A X.K W (mCons m mNil) σ H1 fun zs H2 => vs.length = n ∧ zs.length = 1 ∧ ∀ x dx, H2 x = none → H2 dx = none → dx ≠ x → spOf X.K (n + 2) S ((V.ref x :: vs) ++ zs) (upd (upd H2 dx (.own x)) x (.ins (He.ga X.K C) dx [])) (fun v H3 => v = .non ∧ Q (.ref x) H3) (WE W σ) := by
    refine ⟨Γ, O, H0, Z, _, env, st, hmm, lx, fun H1 vs ds' O1 H' s1 is1 st1 hm1 => ?_⟩
    refine ⟨Γ, O1, H1, Z, _, env.mono s1, st1, hm1, lx.mono s1, fun H2 zs es' O2 H'' s2 is2 st2 hm2 => ?_⟩
    obtain ⟨a1, a2, a3⟩ := hm2
    refine ⟨by rw [is1.1]; exact a1, by rw [is2.1]; exact a2, fun x dx hx hdx ne => ?_⟩
    have := make_mid (C := C) (K := X.K) (S := S) (ex := []) (dvs := []) (n := n + 1) (Γ := Γ) (W := W) (σ := σ) (vs := vs ++ zs) (ds := ds' ++ es') (P := P) (Q := Q) (fun _ => .nil) (s1.trans s2) ((is1.mono s2).append is2) st2 (by rw [List.length_append, a1, a2]) (by simpa using a3) lx lv x dx hx hdx ne
    simpa using this
  refine PySem.W.callWith_KW (h₀ := X.base) I.ok.mod.kin M.kp (by rfl) (thn (ha.run pos pins s σ H _ I hA) fun us s1 ⟨vs, H1, I1, r, q⟩ => ?_) (by rw [hpl]; rfl) he
  refine thn ((pk3_one hk).run pos pins s1 σ H1 _ I1 q) fun ws s2 ⟨zs, H2, I2, rz, l1, l2, q2⟩ => ⟨I2.kIn, ?_⟩
  exact run_makeNS (ks := [kw]) M F hr hb (passAt tk σ) I2 r rz l1 l2 q2
end

/-! ## a def -/
theorem env_start {K : PySem.W.Frag} {H : Hp} {vs : List V} {ds : List D} {N : List Str} (r : Iss K H vs ds) : EnvR K H (ds.map some ++ List.replicate (N.length - ds.length) none) (L2.start N vs) := by
  unfold L2.start
  refine ⟨by simp [r.1], fun i d e => ?_⟩
  by_cases hi : i < ds.length
  · rw [List.getElem?_append_left (by simpa using hi), List.getElem?_map] at e
    cases q : ds[i]? with
    | none => rw [q] at e; cases e
    | some x =>
      rw [q] at e
      cases e
      obtain ⟨v, h1, h2⟩ := r.get q
      exact ⟨v, by rw [List.getElem?_append_left (by simpa [r.1] using hi), List.getElem?_map, h1]; rfl, h2⟩
  · rw [List.getElem?_append_right (by simpa using Nat.le_of_not_lt hi)] at e
    rw [List.getElem?_replicate] at e
    split at e <;> cases e
/-- what a body must do for a promise -/
def BodyOk (N : List Str) (n : Nat) (S : FSpec) (m : MS) : Prop := ∀ ds O Z P, ds.length = n → S ds O Z P → m { nx := fun _ O' => orFz P .non O', rt := P, xp := fun C fs _ O' => Z C fs O' } (ds.map some ++ List.replicate (N.length - ds.length) none) O
/-- how an error leaves a def -/
abbrev WF (E : XK) : WX := fun cls d _ H => E cls d H
theorem fn3 {P : Program} {w : World} {K : PySem.W.Frag} {mg : Str → Option Value} {base : Heap} {x qual : Str} {params : Arguments} {body : List Stmt} {scope : Scope} {dvs : List V} {kws : List (Str × V)} {f : Addr} {fd : FuncData} {N ps : List Str} {k : Nat} {S : FSpec} {m : MS}
    (F : FunD K x qual params body scope dvs kws f fd) (sc : FnScope N ps scope)
    (hm : ∀ (cdv : Value) (A : Around) (outer : List Env) (s : Shared) (H : Hp) (E : XK), Room k (A.deeper (envOfC qual scope s.heap.objs.size f cdv)) → PSs (cxOf (L2.CX P w) P w K mg base N qual scope f cdv A outer s H E) body (r3S K (WF E) m))
    (hb : BodyOk N ps.length S m) : FnOk P w K mg base (L2.CX P w) (k + 1) f fd ps (spOf K ps.length S) := by
  refine F.ok sc (fun vs H Q E h => h.1) fun cdv A outer s H vs Q E hr ⟨hl, H0, O, ds, Z, P', is, st, hS, le, lv⟩ => ⟨r3S K (WF E) m, hm cdv A outer s H E hr, ?_⟩
  refine ⟨_, O, H0, _, env_start (N := N) is, st, hb ds O Z P' (by rw [← is.1]; exact hl) hS, ?_, lv, fun _ _ _ _ _ _ _ _ q => q.elim, fun _ _ _ _ _ _ _ _ q => q.elim, ?_⟩
  · intro H1 Γ σ O1 H' s1 env1 st1 q
    exact lv.fz H1 _ _ O1 H' s1 .non st1 q
  · intro H1 C fs Γ σ O1 oe H' s1 env1 st1 xo q
    exact le H1 C fs O1 oe H' s1 st1 xo q
/-- a def that lets nothing out -/
theorem fn3L {P : Program} {w : World} {K : PySem.W.Frag} {mg : Str → Option Value} {base : Heap} {x qual : Str} {params : Arguments} {body : List Stmt} {scope : Scope} {dvs : List V} {kws : List (Str × V)} {f : Addr} {fd : FuncData} {N ps : List Str} {k : Nat} {S : FSpec} {m : MS}
    (F : FunD K x qual params body scope dvs kws f fd) (sc : FnScope N ps scope)
    (hm : ∀ (cdv : Value) (A : Around) (outer : List Env) (s : Shared) (H : Hp) (E : XK), Room k (A.deeper (envOfC qual scope s.heap.objs.size f cdv)) → PSs (cxOf CX0 P w K mg base N qual scope f cdv A outer s H E).nox body (r3S K (fun _ _ _ _ => False) m))
    (hb : BodyOk N ps.length S m) : FnOk P w K mg base CX0 (k + 1) f fd ps (fun vs H Q E => vs.length = ps.length ∧ ∃ H0 O ds P, Iss K H0 vs ds ∧ Sta K H0 O H ∧ S ds O (fun _ _ _ => False) P ∧ LinkV K H0 P Q) := by
  refine F.ok sc (fun vs H Q E h => h.1) fun cdv A outer s H vs Q E hr ⟨hl, H0, O, ds, P', is, st, hS, lv⟩ => ⟨r3S K (fun _ _ _ _ => False) m, PSs.nox (hm cdv A outer s H E hr), ?_⟩
  refine ⟨_, O, H0, _, env_start (N := N) is, st, hb ds O _ P' (by rw [← is.1]; exact hl) hS, ?_, lv, fun _ _ _ _ _ _ _ _ q => q.elim, fun _ _ _ _ _ _ _ _ q => q.elim, ?_⟩
  · intro H1 Γ σ O1 H' s1 env1 st1 q
    exact lv.fz H1 _ _ O1 H' s1 .non st1 q
  · intro H1 C fs Γ σ O1 oe H' s1 env1 st1 xo q
    exact q.elim
end L3

namespace L3
open PySem PySem.Spec PyProof.Rows L2

abbrev noX : PX := fun _ _ _ => False
/-! ## operators of the program's own classes -/
structure OwnOp (X : Cx) (C m : Str) (S : FSpec) : Prop where
  ex : ∃ k f fd ps, FnOk X.prog X.w X.K X.mg X.base (L2.CX X.prog X.w) k f fd ps (spOf X.K 2 S) ∧ Room k X.A ∧ Binds X.K fd ps [] ∧ PySem.W.selfFirst X.K (He.ga X.K C) = true ∧ PySem.W.findIn X.K (.ref (He.ga X.K C)) m = some (some (.ref f)) ∧ PySem.W.isFn X.K (.ref f) = true
def rOwn (K : PySem.W.Frag) (C : Str) (S : FSpec) : R2 := fun x y H Q => ∃ a b dx dy fs gs, x = .ref a ∧ y = .ref b ∧ H a = some (.ins (He.ga K C) dx fs) ∧ H b = some (.ins (He.ga K C) dy gs) ∧ spOf K 2 S [x, y] H Q E0
theorem passAt0 {X : Cx} {σ : L2.St} : PassesAt (L2.CX X.prog X.w) X σ E0 := fun pins H s e s' I h => passL pins σ H s e s' I h
theorem back_of {X : Cx} {pins : List (Addr × Obj)} {σ : L2.St} {Q : VK} {u : Value} {s : Shared} (h : EP X pins σ Q u s) : PySem.W.CmpBack (EP X pins σ Q) u s := by
  obtain ⟨v, H', I, r, q⟩ := id h
  have hn : u ≠ .notImplemented := by
    intro e
    subst e
    cases v <;> first | (obtain ⟨_, e⟩ := r; cases e; done) | cases r
  unfold PySem.W.CmpBack
  split
  · exact absurd rfl hn
  · exact h
theorem op_own {X : Cx} {C : Str} {S : FSpec} {op : Operator} (F : OwnOp X C (PySem.dunder op.info.2) S) : OpR X (binaryOp op) (rOwn X.K C S) := by
  intro pins s σ H x y v u Q I rx ry h
  obtain ⟨a, b, dx, dy, fs, gs, rfl, rfl, ha, hb, hsp⟩ := h
  obtain ⟨k, f, fd, ps, F, hr, hbd, hc, hs, hf⟩ := F.ex
  cases rx
  cases ry
  obtain ⟨mA, J, _⟩ := ins_get I.hok ha
  obtain ⟨mB, J', _⟩ := ins_get I.hok hb
  obtain ⟨od, J, _⟩ := J.look
  obtain ⟨od', J', _⟩ := J'.look
  obtain ⟨m, hF⟩ := I.fr
  refine PySem.W.binop_K hF I.ok.mod.kin J J'.type hc hs hf ?_
  exact wpAny_mono (run_fnS (E := fun _ => E0) (vs := [.ref a, .ref b]) F hr hbd passAt0 I (.cons rfl (.cons rfl .nil)) hsp) (fun _ _ z => back_of z) fun _ _ z => z
theorem Sta.ins {K : PySem.W.Frag} {H0 H : Hp} {O : Sto} {v : V} {C : Str} {fs : List (Str × D)} (st : Sta K H0 O H) (is : Is K H0 v (.obj C fs)) : ∃ a dx vs, v = .ref a ∧ H a = some (.ins (He.ga K C) dx vs) := by
  cases is with
  | obj h l c => exact ⟨_, _, _, rfl, st.same _ _ h⟩
/-- two instances of C by its own operator, else f -/
def fOwn (C : Str) (S : FSpec) (f : F2) : F2 := fun a b O Q => match a, b with
  | .obj C1 fs, .obj C2 gs => (C1 = C ∧ C2 = C) ∧ S [.obj C1 fs, .obj C2 gs] O noX Q
  | a, b => f a b O Q
theorem rep_own {K : PySem.W.Frag} {C : Str} {S : FSpec} {r : R2} {f : F2} (R : Rep2 K r f) : Rep2 K (fun x y H Q => rOwn K C S x y H Q ∨ r x y H Q) (fOwn C S f) := by
  intro H0 O H x y a b P Q st ix iy h lv
  unfold fOwn at h
  split at h
  · obtain ⟨⟨rfl, rfl⟩, h⟩ := h
    obtain ⟨p, dx, vs, rfl, e1⟩ := st.ins ix
    obtain ⟨q, dy, us, rfl, e2⟩ := st.ins iy
    exact .inl ⟨p, q, dx, dy, vs, us, rfl, rfl, e1, e2, rfl, H0, O, _, noX, P, .cons ix (.cons iy .nil), st, h, fun _ _ _ _ _ _ _ _ _ z => z.elim, lv⟩
  · exact .inr (R H0 O H x y _ _ P Q st ix iy h lv)
/-- what a class must say for its own == against anything -/
structure OEq (K : PySem.W.Frag) (C : Addr) : Prop where
  oc : OCls K C
  nf : ∀ T ∈ ["int", "bool", "str", "tuple", "list", "NoneType"], PySem.W.notFirst K C (.type T) = true
theorem isO_ty {K : PySem.W.Frag} {H0 H : Hp} {O : Sto} {v : V} {d : D} {cn : Str} {b : Bool} (c : OCls K (He.ga K cn)) (st : Sta K H0 O H) (is : Is K H0 v d) (h : isO cn O d = some b) :
    ∃ ty, TyX K H v ty ∧ (ty = .ref (He.ga K cn) ∨ ∃ T ∈ ["int", "bool", "str", "tuple", "list", "NoneType"], ty = .type T) := by
  cases is with
  | non => exact ⟨_, .base .non, .inr ⟨_, by decide, rfl⟩⟩
  | bl x => exact ⟨_, .base (.bl x), .inr ⟨_, by decide, rfl⟩⟩
  | int x => exact ⟨_, .base (.int x), .inr ⟨_, by decide, rfl⟩⟩
  | str x => exact ⟨_, .base (.str x), .inr ⟨_, by decide, rfl⟩⟩
  | ty n => cases h
  | tup r l q => exact ⟨_, sqT_tyX (same_t st.same r), .inr ⟨_, by decide, rfl⟩⟩
  | lst r l q => exact ⟨_, rd_tyX (same_l st.same r), .inr ⟨_, by decide, rfl⟩⟩
  | @obj a dx C vs ds r l q =>
    have h2 : (if C = cn then some true else none) = some b := h
    split at h2
    · rename_i e
      subst e
      exact ⟨_, .base (.ins (st.same _ _ r) c.cls c.ha c.hn c.ht c.hm), .inl rfl⟩
    · cases h2
  | cell p =>
    have h2 : (match O p with
      | some (.lst _) => some false
      | some (.ins C _) => if C = cn then some true else none
      | _ => none) = some b := h
    cases e : O p with
    | none => rw [e] at h2; cases h2
    | some u =>
      rw [e] at h2
      cases u with
      | lst ds =>
        obtain ⟨_, vs, e2, _⟩ := st.cell p _ e
        exact ⟨_, .base (.lst e2), .inr ⟨_, by decide, rfl⟩⟩
      | ins C fs =>
        have h3 : (if C = cn then some true else none) = some b := h2
        split at h3
        · rename_i e3
          subst e3
          obtain ⟨_, dx, vs, e2, _⟩ := st.cell p _ e
          exact ⟨_, .base (.ins e2 c.cls c.ha c.hn c.ht c.hm), .inl rfl⟩
        · cases h3
      | _ => cases h2
def rOwnEq (K : PySem.W.Frag) (C : Str) (S : FSpec) : R2 := fun x y H Q => ∃ a dx fs ty, x = .ref a ∧ H a = some (.ins (He.ga K C) dx fs) ∧ TyX K H y ty ∧ PySem.W.notFirst K (He.ga K C) ty = true ∧ spOf K 2 S [x, y] H Q E0
theorem op_ownEq {X : Cx} {C : Str} {S : FSpec} (F : OwnOp X C "__eq__" S) : OpR X (compareOp .Eq) (rOwnEq X.K C S) := by
  intro pins s σ H x y v u Q I rx ry h
  obtain ⟨a, dx, fs, ty, rfl, ha, ty1, nf, hsp⟩ := h
  obtain ⟨k, f, fd, ps, F, hr, hbd, hc, hs, hf⟩ := F.ex
  cases rx
  obtain ⟨mA, J, _⟩ := ins_get I.hok ha
  obtain ⟨od, J, _⟩ := J.look
  obtain ⟨P, Z, p, hx⟩ := kit_of I ry ty1
  obtain ⟨m, hF⟩ := I.fr
  refine PySem.W.cmp_K (op := .Eq) (tb := ty) hr.units0 hF I.ok.mod.kin J (Z.ty _ _ I.kIn p) nf hs hf ?_
  exact wpAny_mono (run_fnS (E := fun _ => E0) (vs := [.ref a, y]) F hr hbd passAt0 I (.cons rfl (.cons ry .nil)) hsp) (fun _ _ z => back_of z) fun _ _ z => z
def fEqOwn (C : Str) (S : FSpec) : F2 := fun a b O Q => match a with
  | .obj C1 fs => C1 = C ∧ (isO C O b).isSome = true ∧ S [.obj C1 fs, b] O noX Q
  | a => fEq false a b O Q
theorem rep_eqOwn {K : PySem.W.Frag} {C : Str} {S : FSpec} (c : OEq K (He.ga K C)) : Rep2 K (fun x y H Q => rOwnEq K C S x y H Q ∨ (rEq x y H Q ∨ rEqD K x y H Q)) (fEqOwn C S) := by
  intro H0 O H x y a b P Q st ix iy h lv
  unfold fEqOwn at h
  split at h
  · obtain ⟨rfl, hk, h⟩ := h
    obtain ⟨p, dx, vs, rfl, e1⟩ := st.ins ix
    obtain ⟨k, hk⟩ := Option.isSome_iff_exists.mp hk
    obtain ⟨ty, t1, t2⟩ := isO_ty c.oc st iy hk
    refine .inl ⟨p, dx, vs, ty, rfl, e1, t1, ?_, rfl, H0, O, _, noX, P, .cons ix (.cons iy .nil), st, h, fun _ _ _ _ _ _ _ _ _ z => z.elim, lv⟩
    rcases t2 with rfl | ⟨T, hT, rfl⟩
    · simp [PySem.W.notFirst]
    · exact c.nf T hT
  · exact .inr (rep_eq H0 O H x y _ _ P Q st ix iy h lv)

/-! ## errors -/
structure XcAt (K : PySem.W.Frag) (mg : Str → Option Value) (C : Str) : Prop where
  x : PySem.W.excIn K (He.ga K C) He.veBase "ValueError.__new__" = true
  k : PySem.W.keepIn K (.ref (He.ga K C)) = true
  b : PySem.W.subIn K (.ref (He.ga K C)) (.type "BaseException") = some true
  t : PySem.W.typeIn K (.ref (He.ga K C)) = some (.type "type")
  g : mg C = some (.ref (He.ga K C))
def mRaise (C : Str) : MS := fun P Γ O => P.xp C [] Γ O
section
variable {X : Cx} {W : WX} {pos : Pos}
theorem ps3_raise {C m : Str} {j : Nat} {p p2 pos2 : Pos} (hc : X.calm = true) (tk : Takes X W) (c : XcAt X.K X.mg C) (hg : Gl X C) (hdb : (C == ("__debug__" : Str)) = false) : PS X (.Raise (some (.Call (.Name C p) [.Constant (.str m) j p2] [] pos2)) none pos) (r3S X.K W (mRaise C)) := by
  refine psW (ps_raise hc tk (pmk_own PySem.F.excBase_ValueError c.x c.g c.k (raises_own c.b c.t) hg hdb)) fun E σ H ⟨Γ, O, H0, P, env, st, hm, l⟩ => ?_
  exact l.xp H0 C [] Γ σ O none H (Same.refl _) env st (.inl ⟨rfl, rfl⟩) hm

/-! ## try -/
theorem pss_ex {α : Type} {body : List Stmt} {p : α → Prop} {t : α → TS} (h : ∀ a, p a → PSs X body (t a)) : PSs X body (fun E σ H => ∃ a, p a ∧ t a E σ H) := ⟨fun pins s σ H E I ⟨a, pa, q⟩ => (h a pa).run pins s σ H E I q⟩
/-- try: body / except X as n: suite; cs: the errors that the clause catches -/
def mTry (i : Nat) (cs : List Str) (body : MS) (suite : Str → List (Str × D) → Addr → MS) : MS := fun P Γ O =>
  body { P with xp := fun C fs Γ1 O1 => C ∈ cs ∧ ∀ a, suite C fs a { nx := fun Γ2 O2 => P.nx (Γ2.set i none) O2, rt := P.rt, bk := fun Γ2 O2 => P.bk (Γ2.set i none) O2, ct := fun Γ2 O2 => P.ct (Γ2.set i none) O2, xp := fun _ _ _ _ => False } (Γ1.set i (some (.cell a))) O1 } Γ O
theorem ps3_try {x n : Str} {i : Nat} {body suite : List Stmt} {b0 : Stmt} {np pos' : Pos} {cs : List Str} {mb : MS} {ms : Str → List (Str × D) → Addr → MS} (hs : X.stack = X.env :: X.outer) (hf : X.env.frame = some X.env.locals) (hN : X.N.Nodup) (hi : X.N[i]? = some n) (hln : X.env.kindOf n = some .local)
    (hc : Names X x (.ref (He.ga X.K x))) (tk : Takes X W) (hcs : ∀ C ∈ cs, PySem.W.exmOne X.K (.ref (He.ga X.K C)) (.ref (He.ga X.K x)) = some true)
    (hb : ∀ (W : WX) (pn : List (Addr × Obj)) (xe : Value → Shared → Prop), Takes (X.tr pn xe) W → PassesOwn (model X.prog X.w) X.A X.env xe → PSs (X.tr pn xe) body (r3S X.K W mb))
    (hsu : ∀ (a : Addr) (oe : Obj) (C : Str) (fs : List (Str × D)) (d : Option Addr) (pn : List (Addr × Obj)), C ∈ cs → Zc (.ref (He.ga X.K C)) d oe → (∃ vs, oe.data = .fields vs) → (fs = [] → d = none) → PSs (X.suite a ((a, oe) :: pn)) (b0 :: suite) (r3S X.K (fun _ _ _ _ => False) (ms C fs a))) :
    PS X (.Try body [.ExceptHandler (some (.Name x np)) (some n) (b0 :: suite) pos'] [] [] pos) (r3S X.K W (mTry i cs mb ms)) := by
  have hsu' : ∀ (a : Addr) (oe : Obj) (cls : Value) (d : Option Addr) (pn : List (Addr × Obj)), Zc cls d oe → (∃ vs, oe.data = .fields vs) → PSs (X.suite a ((a, oe) :: pn)) (b0 :: suite) (fun E σ H => ∃ q : Str × List (Str × D), (q.1 ∈ cs ∧ cls = .ref (He.ga X.K q.1) ∧ (q.2 = [] → d = none)) ∧ r3S X.K (fun _ _ _ _ => False) (ms q.1 q.2 a) E σ H) := by
    intro a oe cls d pn hz hd
    refine pss_ex fun q ⟨h1, h2, h3⟩ => ?_
    subst h2
    exact hsu a oe q.1 q.2 d pn h1 hz hd h3
  refine psW (ps_try_as (tb := fun W => r3S X.K W mb) hs hf hN hi hln hc tk hb hsu') fun E σ H ⟨Γ, O, H0, P, env, st, hm, l⟩ => ?_
  refine ⟨Γ, O, H0, _, env, st, hm, l.nx, l.rt, l.bk, l.ct, ?_⟩
  intro H1 C fs Γ1 σ1 O1 oe H' s1 env1 st1 xo ⟨hC, hq⟩
  refine ⟨true, hcs C hC, fun _ a ha => ⟨(C, fs), ⟨hC, rfl, ?_⟩, ?_⟩, fun z => nomatch z⟩
  · intro e
    rcases xo with ⟨_, e2⟩ | ⟨e2, _⟩
    · exact e2
    · exact absurd e e2
  · have l1 := l.mono s1
    refine ⟨Γ1.set i (some (.cell a)), O1, H1, _, env1.set (.cell a), st1, hq a, ?_, l1.rt, ?_, ?_, fun _ _ _ _ _ _ _ _ _ _ _ _ z => z.elim⟩
    · exact fun H2 Γ2 σ2 O2 H2' s2 env2 st2 q => l1.nx H2 _ _ O2 H2' s2 env2.unset st2 q
    · exact fun H2 Γ2 σ2 O2 H2' s2 env2 st2 q => l1.bk H2 _ _ O2 H2' s2 env2.unset st2 q
    · exact fun H2 Γ2 σ2 O2 H2' s2 env2 st2 q => l1.ct H2 _ _ O2 H2' s2 env2.unset st2 q
end
end L3

namespace L3
open PySem PySem.Spec PyProof.Rows L2

/-! ## isinstance of the error that a suite holds -/
structure XcT (K : PySem.W.Frag) (cs : List Str) : Prop where
  exc : ∀ C ∈ cs, ExcC K (He.ga K C)
  own : ∀ C ∈ cs, ∀ c ∈ cs, PySem.W.kitOne K (.ref (He.ga K C)) (.ref (He.ga K c)) = some (decide (C = c))
  ve : ∀ C ∈ cs, PySem.W.kitOne K (.ref (He.ga K C)) (.type "ValueError") = some true
def mIsE (i : Nat) (a : Addr) (b : Bool) : ME := fun _ Γ O Q => Γ[i]? = some (some (.cell a)) ∧ Q (.bl b) O
theorem inst_of {X : Cx} {a D : Addr} {oe : Obj} {pn : List (Addr × Obj)} {pins : List (Addr × Obj)} {σ : L2.St} {H : Hp} {s : Shared} (I : Inv (X.suite a ((a, oe) :: pn)) pins σ H s) (hz : Zc (.ref D) none oe) (hf : ∃ vs, oe.data = .fields vs) : PySem.W.InstAt s.heap a oe D none := by
  obtain ⟨hget, _⟩ := I.pin (a, oe) (List.mem_append.mpr (.inl List.mem_cons_self))
  obtain ⟨vs, hv⟩ := hf
  obtain ⟨oc, od, oda, osl⟩ := oe
  obtain ⟨h1, h2⟩ := hz
  dsimp only at h1 h2 hv
  subst h1 h2 hv
  exact ⟨hget, rfl, rfl, trivial⟩
def rIsET (K : PySem.W.Frag) (D a : Addr) : List V → Hp → VK → Prop := fun xs H Q => ∃ (tp : Addr) (cs : List V) (us : List Value) (b : Bool), xs = [.ref a, .ref tp] ∧ H tp = some (.tup cs) ∧ Paired ClsV cs us ∧ PySem.W.kitAny K (.ref D) us = some b ∧ Q (.bl b) H
theorem call_isET {X : Cx} {a D : Addr} {oe : Obj} {pn : List (Addr × Obj)} (C : ExcC X.K D) (hz : Zc (.ref D) none oe) (hf : ∃ vs, oe.data = .fields vs) : CallR (X.suite a ((a, oe) :: pn)) (.builtin "isinstance") (rIsET X.K D a) := by
  intro pins s σ H xs us Q I r h
  obtain ⟨tp, cs, ws, b, rfl, hT, k, e, q⟩ := h
  obtain ⟨u1, u2, rfl, r1, r2⟩ := vals2 r
  cases r1
  cases (show u2 = Value.ref tp from r2)
  have J := inst_of I hz hf
  obtain ⟨_, its, rv, o, h1, h2, n, h3⟩ := (show ObjOk X.prog X.w H s.heap tp (.tup cs) from I.hok tp _ hT)
  have e3 := ClsV.all k rv
  subst e3
  obtain ⟨oc, od, dt, sl⟩ := o
  simp only at h2 h3
  subst h2 h3
  exact PySem.W.kia_tup (PySem.W.handS_kitx_exc C.hg C.hk C.hs C.hd C.ha C.hn C.ht C.hm) I.kIn J h1 e (fun z => nomatch z) fun tk => ⟨.bl b, H, I.kept (t' := tk) fun _ _ z => z, rfl, q⟩
def tCs (vs : List V) : TA := fun _ H Q => Q vs H
theorem pa_cs_nil {X : Cx} : PA X [] (tCs []) := paW pa_nil fun σ H Q h => h
theorem pa_cs_cons {X : Cx} {e : Expr} {es : List Expr} {v : V} {vs : List V} (h1 : PE X e (tC v)) (h2 : PA X es (tCs vs)) (hs : starEach (e :: es) X.env = (false, eval e X.env) :: starEach es X.env) : PA X (e :: es) (tCs (v :: vs)) := paW (pa_cons h1 h2 hs) fun σ H Q h => h
theorem kitAny_own {K : PySem.W.Frag} {C : Str} : ∀ {cs : List Str}, (∀ c ∈ cs, PySem.W.kitOne K (.ref (He.ga K C)) (.ref (He.ga K c)) = some (decide (C = c))) → PySem.W.kitAny K (.ref (He.ga K C)) (cs.map fun c => .ref (He.ga K c)) = some (decide (C ∈ cs))
  | [], _ => by simp [PySem.W.kitAny]
  | c :: cs, h => by
    refine kitAny_cons (b := decide (C = c)) (h c List.mem_cons_self) (fun e => ?_) fun e => ?_
    · have e' : ¬ C = c := of_decide_eq_false e
      rw [kitAny_own fun d hd => h d (List.mem_cons_of_mem _ hd)]
      simp [e']
    · have e' : C = c := of_decide_eq_true e
      simp [e']
section
variable {X : Cx} {W : WX} {pos : Pos} {a : Addr} {oe : Obj} {pn : List (Addr × Obj)}
theorem isE_var {X' : Cx} {K : PySem.W.Frag} {i : Nat} {b : Bool} {σ : L2.St} {H : Hp} {Q : VK} (h : r3E K W (mIsE i a b) σ H Q) : σ[i]? = some (some (.ref a)) ∧ ∀ H', (∃ p xs, H p = none ∧ H' = upd H p (.tup xs)) ∨ H' = H → Q (.bl b) H' := by
  obtain ⟨Γ, O, H0, Z, P, env, st, ⟨hv, hm⟩, lx, lv⟩ := h
  obtain ⟨v, e1, is⟩ := env.get hv
  rw [is.cell_] at e1
  refine ⟨e1, fun H' hH => ?_⟩
  rcases hH with ⟨p, xs, hp, rfl⟩ | rfl
  · exact lv H0 _ _ O _ (Same.refl _) (.bl b) (st.more hp) hm
  · exact lv H0 _ _ O _ (Same.refl _) (.bl b) st hm
theorem pe3_isE {cs : List Str} {C c x : Str} {i : Nat} {p p1 p2 : Pos} (T : XcT X.K cs) (hC : C ∈ cs) (hc : c ∈ cs) (hz : Zc (.ref (He.ga X.K C)) none oe) (hf : ∃ vs, oe.data = .fields vs)
    (hv : PE (X.suite a ((a, oe) :: pn)) (.Name x p1) (tVar i)) (hg : Gl X "isinstance") (hm : X.mg "isinstance" = none) (hgt : Gl X c) (hmt : X.mg c = some (.ref (He.ga X.K c))) (hdb : (c == ("__debug__" : Str)) = false) :
    PE (X.suite a ((a, oe) :: pn)) (.Call (.Name "isinstance" p) [.Name x p1, .Name c p2] [] pos) (r3E X.K W (mIsE i a (decide (C = c)))) := by
  refine peW (pe_callB (X := X.suite a ((a, oe) :: pn)) (call_isE (T.exc C hC) hz hf) hg hm (by decide +kernel) (pa_cons hv (pa_cons (pe_glob (v := .ref (He.ga X.K c)) hgt hmt rfl hdb) pa_nil))) fun σ H Q h => ?_
  obtain ⟨e1, q⟩ := isE_var (X' := X) h
  exact ⟨_, e1, .ref (He.ga X.K c), .ref (He.ga X.K c), _, rfl, fun u r => r, T.own C hC c hc, q _ (.inr rfl)⟩
theorem pe3_isEV {cs : List Str} {C x : Str} {i : Nat} {p p1 p2 : Pos} (T : XcT X.K cs) (hC : C ∈ cs) (hz : Zc (.ref (He.ga X.K C)) none oe) (hf : ∃ vs, oe.data = .fields vs)
    (hv : PE (X.suite a ((a, oe) :: pn)) (.Name x p1) (tVar i)) (hg : Gl X "isinstance") (hm : X.mg "isinstance" = none) (hgt : Gl X "ValueError") (hmt : X.mg "ValueError" = none) :
    PE (X.suite a ((a, oe) :: pn)) (.Call (.Name "isinstance" p) [.Name x p1, .Name "ValueError" p2] [] pos) (r3E X.K W (mIsE i a true)) := by
  refine peW (pe_callB (X := X.suite a ((a, oe) :: pn)) (call_isE (T.exc C hC) hz hf) hg hm (by decide +kernel) (pa_cons hv (pa_cons (pe_bltn (v := .ty "ValueError") (u := .type "ValueError") hgt hmt (by decide +kernel) rfl) pa_nil))) fun σ H Q h => ?_
  obtain ⟨e1, q⟩ := isE_var (X' := X) h
  exact ⟨_, e1, .ty "ValueError", .type "ValueError", _, rfl, fun u r => r, T.ve C hC, q _ (.inr rfl)⟩
theorem pairedCls {K : PySem.W.Frag} : ∀ {ns : List Str}, Paired ClsV (ns.map fun c => V.ref (He.ga K c)) (ns.map fun c => Value.ref (He.ga K c))
  | [] => .nil
  | _ :: _ => .cons (.own _) pairedCls
theorem pe3_isET {cs ns : List Str} {C x : Str} {i k : Nat} {p p1 p2 : Pos} {es : List Expr} (T : XcT X.K cs) (hC : C ∈ cs) (hns : ∀ c ∈ ns, c ∈ cs) (hz : Zc (.ref (He.ga X.K C)) none oe) (hf : ∃ vs, oe.data = .fields vs)
    (hv : PE (X.suite a ((a, oe) :: pn)) (.Name x p1) (tVar i)) (hg : Gl X "isinstance") (hm : X.mg "isinstance" = none) (hes : PA (X.suite a ((a, oe) :: pn)) es (tCs (ns.map fun c => V.ref (He.ga X.K c)))) (hl : ns.length ≤ 1000) :
    PE (X.suite a ((a, oe) :: pn)) (.Call (.Name "isinstance" p) [.Name x p1, .Tuple es k p2] [] pos) (r3E X.K W (mIsE i a (decide (C ∈ ns)))) := by
  refine peW (pe_callB (X := X.suite a ((a, oe) :: pn)) (call_isET (T.exc C hC) hz hf) hg hm (by decide +kernel) (pa_cons hv (pa_cons (pe_tup hes) pa_nil))) fun σ H Q h => ?_
  obtain ⟨e1, q⟩ := isE_var (X' := X) h
  refine ⟨_, e1, by rw [List.length_map]; exact Nat.le_trans hl (by decide), fun tp htp => ?_⟩
  exact ⟨tp, _, _, _, rfl, upd_same, pairedCls, kitAny_own fun c hc => T.own C hC c (hns c hc), q _ (.inl ⟨tp, _, htp, rfl⟩)⟩
end

/-! ## methods of lists -/
def appD (O : Sto) (o : D) (ds : List D) (Q : Sto → Prop) : Prop := match o, ds with
  | .cell p, [d] => match O p with
    | some (.lst xs) => xs.length < sizeLine ∧ Q (put O p (.lst (xs ++ [d])))
    | _ => False
  | _, _ => False
theorem appD_ok {O : Sto} {o : D} {ds : List D} {Q : Sto → Prop} (h : appD O o ds Q) : ∃ p d xs, o = .cell p ∧ ds = [d] ∧ O p = some (.lst xs) ∧ xs.length < sizeLine ∧ Q (put O p (.lst (xs ++ [d]))) := by
  unfold appD at h
  split at h
  · split at h
    · rename_i e
      exact ⟨_, _, _, rfl, rfl, e, h⟩
    · exact h.elim
  · exact h.elim
def mApp (mo : ME) (ms : MA) : ME := fun Z Γ O Q => mo Z Γ O fun o O1 => (∃ xs, lstOf O1 o = some xs) ∧ ms Z Γ O1 fun ds O2 => appD O2 o ds fun O3 => Q .non O3
def extD (O : Sto) (o : D) (ds : List D) (Q : Sto → Prop) : Prop := match o, ds with
  | .cell p, [d] => match O p, lstOf O d with
    | some (.lst xs), some ys => xs.length + ys.length ≤ sizeLine ∧ Q (put O p (.lst (xs ++ ys)))
    | _, _ => False
  | _, _ => False
section
variable {X : Cx} {W : WX} {pos apos : Pos}
theorem lst_tyV {K : PySem.W.Frag} {H0 H : Hp} {O : Sto} {v : V} {d : D} {xs : List D} (st : Sta K H0 O H) (is : Is K H0 v d) (h : lstOf O d = some xs) : tyV K "list" v H := by
  obtain ⟨a, vs, rfl, r, _⟩ := lstOf_ok st is h
  exact .inl ⟨rfl, vs, r⟩
theorem pe3_app {o e : Expr} {mo : ME} {ms : MA} (h : PE X (.Call (.Attribute o "append" apos) [e] [] pos) (tBM X.K "list" rAppend (r3E X.K W mo) (r3A X.K W ms))) : PE X (.Call (.Attribute o "append" apos) [e] [] pos) (r3E X.K W (mApp mo ms)) := by
  refine peW h fun σ H Q ⟨Γ, O, H0, Z, P, env, st, hm, lx, lv⟩ => ?_
  refine ⟨Γ, O, H0, Z, _, env, st, hm, lx, fun H1 v d O1 H' s1 is1 st1 hm1 => ?_⟩
  obtain ⟨⟨xs0, h0⟩, hm1⟩ := hm1
  refine ⟨lst_tyV st1 is1 h0, Γ, O1, H1, Z, _, env.mono s1, st1, hm1, lx.mono s1, fun H2 vs ds O2 H'' s2 is2 st2 hm2 => ?_⟩
  obtain ⟨p, e, xs, rfl, rfl, e1, h1, h2⟩ := appD_ok hm2
  cases is1
  obtain ⟨w, rfl, iw⟩ := is2.one
  obtain ⟨_, us, e2, r⟩ := st2.cell p _ e1
  refine ⟨p, us, w, rfl, rfl, e2, by rw [r.1]; exact h1, ?_⟩
  exact lv H2 _ _ _ _ (s1.trans s2) .non (st2.set (u := .lst (xs ++ [e])) e1 ⟨_, upd_same, r.append (.cons iw .nil)⟩) h2
end
end L3

namespace L3
open PySem PySem.Spec PyProof.Rows L2

/-! ## targets that are names alone -/
inductive TgN where
  | one (i : Nat) | many (is : List Nat)
def TgN.vs : TgN → List Nat
  | .one i => [i]
  | .many is => is
def setNs : List Nat → List D → Gm → Gm
  | i :: is, d :: ds, Γ => setNs is ds (Γ.set i (some d))
  | _, _, Γ => Γ
def TgN.put (t : TgN) (d : D) (Γ : Gm) (Q : Gm → Prop) : Prop := match t, d with
  | .one i, d => Q (Γ.set i (some d))
  | .many is, .tup ds => ds.length = is.length ∧ Q (setNs is ds Γ)
  | _, _ => False
def gNs : List Nat → TGs
  | [] => gNil
  | i :: is => gCons (gName i) (gNs is)
def TgN.g (K : PySem.W.Frag) : TgN → TG
  | .one i => gName i
  | .many is => gTup K is.length (gNs is)
def wipeG (Γ : Gm) : List Nat → Gm
  | [] => Γ
  | v :: vs => (wipeG Γ vs).set v none
theorem EnvR.wipe {K : PySem.W.Frag} {H : Hp} {Γ : Gm} {σ : L2.St} (e : EnvR K H Γ σ) : ∀ vs : List Nat, EnvR K H (wipeG Γ vs) (L2.wipe σ vs)
  | [] => e
  | v :: vs => (EnvR.wipe e vs).unset
theorem wipe_over {σ : L2.St} {i : Nat} {x y : Option V} : ∀ {vs : List Nat}, (L2.wipe (σ.set i x) vs).set i y = (L2.wipe σ vs).set i y
  | [] => by
    show (σ.set i x).set i y = σ.set i y
    rw [List.set_set]
  | v :: vs => by
    show ((L2.wipe (σ.set i x) vs).set v none).set i y = ((L2.wipe σ vs).set v none).set i y
    by_cases h : v = i
    · subst h
      rw [List.set_set, List.set_set]
      exact wipe_over
    · rw [List.set_comm _ _ h, List.set_comm _ _ h, wipe_over]
theorem wipe_set {σ : L2.St} {i : Nat} {x : Option V} : ∀ {vs : List Nat}, i ∈ vs → L2.wipe (σ.set i x) vs = L2.wipe σ vs
  | v :: vs, h => by
    show (L2.wipe (σ.set i x) vs).set v none = (L2.wipe σ vs).set v none
    by_cases e : i = v
    · subst e
      exact wipe_over
    · rw [wipe_set (List.mem_of_ne_of_mem e h)]
theorem gNs_ok {K : PySem.W.Frag} {H0 H : Hp} {V0 : List Nat} {Q : L2.St → Hp → Prop} : ∀ {is : List Nat} {ds : List D} {vs : List V} {Γ : Gm} {σ : L2.St}, Iss K H0 vs ds → ds.length = is.length → EnvR K H0 Γ σ → (∀ j ∈ is, j ∈ V0) →
    (∀ σ1, EnvR K H0 (setNs is ds Γ) σ1 → L2.wipe σ1 V0 = L2.wipe σ V0 → Q σ1 H) → gNs is vs σ H Q
  | [], [], vs, Γ, σ, r, _, env, _, h => ⟨r.unnil, h σ env rfl⟩
  | i :: is, d :: ds, vs, Γ, σ, r, l, env, hv, h => by
    obtain ⟨v, us, rfl, r1, r2⟩ := r.uncons
    refine ⟨v, us, rfl, ?_⟩
    refine gNs_ok r2 (by simpa using l) (env.set r1) (fun j hj => hv j (List.mem_cons_of_mem _ hj)) fun σ1 e1 e2 => h σ1 e1 ?_
    rw [e2]
    exact wipe_set (hv i List.mem_cons_self)
  | [], _ :: _, _, _, _, _, l, _, _, _ => by cases l
  | _ :: _, [], _, _, _, _, l, _, _, _ => by cases l
theorem tgN_ok {K : PySem.W.Frag} {H0 H : Hp} {O : Sto} {t : TgN} {d : D} {y : V} {Γ : Gm} {σ : L2.St} {P : Gm → Prop} {Q : L2.St → Hp → Prop} (is : Is K H0 y d) (st : Sta K H0 O H) (env : EnvR K H0 Γ σ) (h : t.put d Γ P)
    (hq : ∀ Γ1 σ1, EnvR K H0 Γ1 σ1 → L2.wipe σ1 t.vs = L2.wipe σ t.vs → P Γ1 → Q σ1 H) : t.g K y σ H Q := by
  cases t with
  | one i => exact hq _ _ (env.set is) (wipe_set List.mem_cons_self) h
  | many js =>
    cases d with
    | tup ds =>
      obtain ⟨l, h⟩ := (show ds.length = js.length ∧ P (setNs js ds Γ) from h)
      obtain ⟨a, vs, rfl, r, ii⟩ := is.tup_
      exact ⟨a, vs, rfl, same_t st.same r, by rw [ii.1]; exact l, gNs_ok ii l env (fun j hj => hj) fun σ1 e1 e2 => hq _ _ e1 e2 h⟩
    | _ => exact h.elim

/-! ## list comprehensions of one clause -/
def lcL (p : Addr) (chk : Sto → Prop) (tg : TgN) (t : MT) (e : ME) (Γ : Gm) (K : Sto → Prop) : List D → Sto → Prop
  | [], O => chk O ∧ K O
  | x :: r, O => chk O ∧ tg.put x Γ fun Γ1 => t noX Γ1 O fun b O2 => if b = true then e noX Γ1 O2 fun y O3 => ∃ acc, O3 p = some (.lst acc) ∧ acc.length < sizeLine ∧ lcL p chk tg t e Γ K r (put O3 p (.lst (acc ++ [y]))) else lcL p chk tg t e Γ K r O2
def lcD (O : Sto) (d : D) (tg : TgN) (t : MT) (e : ME) (Γ : Gm) (Q : PV) : Prop := match itemsOf O d with
  | some all => ∀ p, O p = none → lcL p (fun O => itemsOf O d = some all) tg t e (wipeG Γ tg.vs) (orFz Q (.cell p)) all (put O p (.lst []))
  | none => False
def mComp (mi : ME) (tg : TgN) (t : MT) (e : ME) : ME := fun Z Γ O Q => mi Z Γ O fun d O1 => lcD O1 d tg t e Γ Q
def mYes : MT := fun _ _ O Q => Q true O
theorem lc3 {K : PySem.W.Frag} {W : WX} {mi : ME} {tg : TgN} {t : MT} {e : ME} {σ : L2.St} {H : Hp} {Q : VK} (h : r3E K W (mComp mi tg t e) σ H Q) :
    tLc (iSeq3 K (r3E K W mi)) (tg.g K) (r3T K (fun _ _ _ _ => False) t) (r3E K (fun _ _ _ _ => False) e) tg.vs σ H Q := by
  obtain ⟨Γ, O, H0, Z, P, env, st, hm, lx, lv⟩ := h
  refine ⟨Γ, O, H0, Z, _, env, st, hm, lx, fun H1 v d O1 H' s1 is1 st1 hm1 => ?_⟩
  have hm1 : lcD O1 d tg t e Γ P := hm1
  unfold lcD at hm1
  cases eq : itemsOf O1 d with
  | none => rw [eq] at hm1; exact hm1.elim
  | some all =>
    rw [eq] at hm1
    obtain ⟨J, j1, j2, j3⟩ := items_it is1 eq
    have core : ∀ D, H' D = none → ∃ W : Nat → Nat → Hp → Prop, (∃ m, W 0 m (upd H' D (.lst []))) ∧ ∀ i m H, W i m H →
        (J.stop i H ∧ Q (.ref D) H) ∨ (J.go i H ∧ ∃ Nx : Hp → Prop, (∀ H', Nx H' → ∃ m', m' < m ∧ W (i + 1) m' H') ∧ ∀ x H', J.yld i H x H' → tg.g K x (L2.wipe σ tg.vs) H' fun σ2 H2 => L2.wipe σ2 tg.vs = L2.wipe σ tg.vs ∧ r3T K (fun _ _ _ _ => False) t σ2 H2 fun b H3 =>
          if b = true then r3E K (fun _ _ _ _ => False) e σ2 H3 fun y H4 => ∃ acc, H4 D = some (.lst acc) ∧ acc.length < sizeLine ∧ Nx (upd H4 D (.lst (acc ++ [y]))) else Nx H3) := by
      intro D hD
      have hO := (st1.free hD).1
      have st0 : Sta K H1 (put O1 D (.lst [])) (upd H' D (.lst [])) := st1.newC (u := .lst []) hD ⟨[], upd_same, .nil⟩
      refine ⟨fun i m H => ∃ O H2, Same H1 H2 ∧ Sta K H2 O H ∧ i + m = all.length ∧ lcL D (fun O => itemsOf O d = some all) tg t e (wipeG Γ tg.vs) (orFz P (.cell D)) (all.drop i) O, ⟨all.length, _, H1, Same.refl _, st0, by omega, by simpa using hm1 D hO⟩, ?_⟩
      rintro i m H ⟨O2, H2, s2, st2, hi, hl⟩
      cases ed : all.drop i with
      | nil =>
        rw [ed] at hl
        have hlen : all.length ≤ i := List.drop_eq_nil_iff.mp ed
        exact .inl ⟨j3 H2 O2 H i s2 st2 hl.1 hlen, lv.fz H2 _ _ O2 H (s1.trans s2) (.cell D) st2 hl.2⟩
      | cons x r =>
        rw [ed] at hl
        obtain ⟨hl0, hl⟩ := hl
        have hx : all[i]? = some x := by
          have h0 := congrArg (fun z : List L3.D => z[0]?) ed
          simp only [List.getElem?_drop] at h0
          simpa using h0
        have hr : all.drop (i + 1) = r := by
          have h0 := congrArg List.tail ed
          rw [List.tail_drop] at h0
          exact h0
        obtain ⟨k1, k2⟩ := j2 H2 O2 H i x s2 st2 hl0 hx
        refine .inr ⟨k1, fun H' => ∃ O H3, Same H1 H3 ∧ Sta K H3 O H' ∧ lcL D (fun O => itemsOf O d = some all) tg t e (wipeG Γ tg.vs) (orFz P (.cell D)) r O, ?_, ?_⟩
        · rintro H5 ⟨O3, H3, s3, st3, h3⟩
          have hlt : i < all.length := (List.getElem?_eq_some_iff.mp hx).1
          exact ⟨m - 1, by omega, O3, H3, s3, st3, by omega, by rw [hr]; exact h3⟩
        · intro y H5 hy
          obtain ⟨rfl, is2⟩ := k2 y H5 hy
          have envw : EnvR K H2 (wipeG Γ tg.vs) (L2.wipe σ tg.vs) := (env.mono (s1.trans s2)).wipe tg.vs
          refine tgN_ok is2 st2 envw hl fun Γ1 σ1 env1 ew hl1 => ⟨?_, ?_⟩
          · have idem : ∀ (vs : List Nat) (τ : L2.St), L2.wipe (L2.wipe τ vs) vs = L2.wipe τ vs := by
              have aux : ∀ (us vs : List Nat) (τ : L2.St), (∀ j ∈ us, j ∈ vs) → L2.wipe (L2.wipe τ us) vs = L2.wipe τ vs := by
                intro us
                induction us with
                | nil => intro vs τ _; rfl
                | cons j js ih =>
                  intro vs τ hj
                  show L2.wipe ((L2.wipe τ js).set j none) vs = _
                  rw [wipe_set (hj j List.mem_cons_self)]
                  exact ih vs τ fun k hk => hj k (List.mem_cons_of_mem _ hk)
              exact fun vs τ => aux vs vs τ fun j hj => hj
            rw [ew]
            exact idem _ _
          · refine ⟨Γ1, O2, H2, _, _, env1, st2, hl1, linkX0, fun H3 b O3 H6 s3 st3 h3 => ?_⟩
            cases b with
            | false =>
              rw [if_neg Bool.false_ne_true] at h3 ⊢
              exact ⟨O3, H3, s2.trans s3, st3, h3⟩
            | true =>
              rw [if_pos rfl] at h3 ⊢
              refine ⟨Γ1, O3, H3, _, _, env1.mono s3, st3, h3, linkX0, fun H4 z dz O4 H7 s4 is4 st4 h4 => ?_⟩
              obtain ⟨acc, ea, hz, h4⟩ := h4
              obtain ⟨_, us, eu, ii⟩ := st4.cell D _ ea
              refine ⟨us, eu, by rw [ii.1]; exact hz, _, H4, (s2.trans s3).trans s4, st4.set (u := .lst (acc ++ [dz])) ea ⟨_, upd_same, ii.append (.cons is4 .nil)⟩, h4⟩
    rcases j1 H1 O1 H' (Same.refl _) st1 eq with ⟨a, rfl, hx, rfl⟩ | ⟨a, rfl, hx, rfl⟩ | ⟨z, rfl, rfl⟩
    · exact .inl ⟨a, rfl, hx, core⟩
    · exact .inr (.inl ⟨a, rfl, hx, core⟩)
    · exact .inr (.inr ⟨z, rfl, core⟩)

/-! ## methods of own instances -/
def insD (C m : Str) (O : Sto) (d : D) : Prop := match d with
  | .obj C1 fs => C1 = C ∧ fs.lookup m = none
  | .cell p => match O p with
    | some (.ins C1 fs) => C1 = C ∧ fs.lookup m = none
    | _ => False
  | _ => False
theorem lookup_none {m : Str} : ∀ {vs : List (Str × V)} {ds : List (Str × D)}, vs.map (·.1) = ds.map (·.1) → ds.lookup m = none → vs.lookup m = none
  | [], [], _, _ => rfl
  | [], _ :: _, e, _ => by cases e
  | _ :: _, [], e, _ => by cases e
  | (a, v) :: vs, (b, d) :: ds, e, h => by
    have e1 : a = b := (List.cons.inj e).1
    subst e1
    rw [List.lookup_cons] at h ⊢
    cases q : (m == a) with
    | true => rw [q] at h; cases h
    | false => rw [q] at h; exact lookup_none (List.cons.inj e).2 h
theorem insD_ok {K : PySem.W.Frag} {H0 H : Hp} {O : Sto} {v : V} {d : D} {C m : Str} (st : Sta K H0 O H) (is : Is K H0 v d) (h : insD C m O d) : ∃ a dx fs, v = .ref a ∧ H a = some (.ins (He.ga K C) dx fs) ∧ fs.lookup m = none := by
  cases is with
  | @obj a dx C1 vs ds r l q =>
    obtain ⟨rfl, h2⟩ := (show C1 = C ∧ ds.lookup m = none from h)
    exact ⟨a, dx, vs, rfl, st.same _ _ r, lookup_none l h2⟩
  | cell p =>
    have h2 : (match O p with
      | some (.ins C1 fs) => C1 = C ∧ fs.lookup m = none
      | _ => False) := h
    cases e : O p with
    | none => rw [e] at h2; exact h2.elim
    | some u =>
      rw [e] at h2
      cases u with
      | ins C1 fs =>
        obtain ⟨rfl, h3⟩ := (show C1 = C ∧ fs.lookup m = none from h2)
        obtain ⟨_, dx, vs, e3, l, q⟩ := st.cell p _ e
        exact ⟨p, dx, vs, rfl, e3, lookup_none l h3⟩
      | _ => exact h2.elim
  | _ => exact h.elim
def mMeth (C m : Str) (S : FSpec) (n : Nat) (mo : ME) (ms : MA) : ME := fun Z Γ O Q => mo Z Γ O fun o O1 => insD C m O1 o ∧ ms Z Γ O1 fun ds O2 => ds.length = n ∧ S (o :: ds) O2 Z Q
structure MthAt (X : Cx) (C m : Str) (n : Nat) (S : FSpec) : Prop where
  ex : ∃ k f fd ps, Cls X.K (He.ga X.K C) ∧ Meth X.K (He.ga X.K C) m f ∧ FnOk X.prog X.w X.K X.mg X.base (L2.CX X.prog X.w) k f fd ps (spOf X.K (n + 1) S) ∧ Room k X.A ∧ Binds X.K fd ps []
section
variable {X : Cx} {W : WX} {pos apos : Pos}
theorem pe3_meth {pl : Sem Bool} {C m : Str} {o e : Expr} {es : List Expr} {n : Nat} {S : FSpec} {mo : ME} {ms : MA} (F : MthAt X C m n S) (tk : Takes X W) (ho : PE X o (r3E X.K W mo)) (ha : PA X (e :: es) (r3A X.K W ms))
    (he : starEach (e :: es) X.env = (false, eval e X.env) :: starEach es X.env) (hpl : (backTo pos (starEach es X.env)).any (·.1) = false)
    (ht : eval (.Call (.Attribute o m apos) (e :: es) [] pos) X.env = (do
      let ov ← eval o X.env
      standAt apos.atName
      let (f, first) ← holding [ov] (getMethod ov m pl)
      callWith pos f first (backTo pos (starEach (e :: es) X.env)) (backToKw pos (keywordEach [] X.env)))) : PE X (.Call (.Attribute o m apos) (e :: es) [] pos) (r3E X.K W (mMeth C m S n mo ms)) := by
  obtain ⟨k, f, fd, ps, c, hm, F, hr, hb⟩ := F.ex
  refine ⟨fun pins s σ H Q I ⟨Γ, O, H0, Z, P, env, st, hmm, lx, lv⟩ => ?_⟩
  have hA : r3E X.K W mo σ H fun x H1 => ∃ a dx fs, x = .ref a ∧ H1 a = some (.ins (He.ga X.K C) dx fs) ∧ fs.lookup m = none ∧ r3A X.K W ms σ H1 fun vs H2 => spOf X.K (n + 1) S (.ref a :: vs) H2 Q (WE W σ) := by
    refine ⟨Γ, O, H0, Z, _, env, st, hmm, lx, fun H1 v d O1 H' s1 is1 st1 hm1 => ?_⟩
    obtain ⟨a, dx, fs, rfl, h1, h2⟩ := insD_ok st1 is1 hm1.1
    refine ⟨a, dx, fs, rfl, h1, h2, Γ, O1, H1, Z, _, env.mono s1, st1, hm1.2, lx.mono s1, fun H2 vs ds O2 H'' s2 is2 st2 hm2 => ?_⟩
    have s12 := s1.trans s2
    refine ⟨by simp [is2.1, hm2.1], H2, O2, d :: ds, Z, P, .cons (is1.mono s2) is2, st2, hm2.2, ?_, lv.mono s12⟩
    exact fun H3 C fs O3 oe H''' s3 st3 xo z => lx H3 C fs O3 oe H''' (s12.trans s3) st3 xo z
  refine PySem.W.methodCall_KW (pl := pl) (thn (ho.run pins s σ H _ I hA) fun u s1 ⟨x, H1, I1, rx, a, dx, fs, ex, ea, l, q⟩ => ?_) ht
  subst ex
  obtain rfl : u = Value.ref a := rx
  refine getmeth_ok I1 ea c hm l ?_
  refine PySem.W.callWith_K (first := [.ref a]) (h₀ := X.base) I.ok.mod.kin hm.kp (thn (ha.run pos pins s1 σ H1 _ I1 q) fun us s2 ⟨vs, H2, I2, r, q2⟩ => ⟨I2.kIn, ?_⟩) he hpl
  exact run_fnSD (us := .ref a :: us) (vs := .ref a :: vs) (E := fun σ => WE W σ) F hr hb (dvs := []) .nil (passAt tk σ) I2 (.cons rfl r) (by rw [List.append_nil]; exact q2)
/-- the tree of a method's call, told of the text's form -/
theorem mcall_tree {o : Expr} {m : Str} {args : List Expr} {env : Env} (hb : attributeBase o m env (eval o env) = eval o env) (hf : methodCallForm (args.length + 0) (backTo pos (starEach args env)) (backToKw pos (keywordEach [] env)) = true) (hl : (apos.endLine == pos.line) = true) :
    eval (.Call (.Attribute o m apos) args [] pos) env = (do
      let ov ← eval o env
      standAt apos.atName
      let (f, first) ← holding [ov] (getMethod ov m (do return (← importBound o env).getD true))
      callWith pos f first (backTo pos (starEach args env)) (backToKw pos (keywordEach [] env))) := by
  rw [arm_eval_Call, hb]
  unfold methodCall
  have e : args.length + ([] : List Keyword).length = args.length + 0 := rfl
  rw [e, hf]
  unfold methodCallPos calleeOf
  rw [hl]
  rfl
/-- tuple(x) -/
def tupD (O : Sto) (d : D) (Q : PV) : Prop := match seqOf O d with
  | some ds => Q (.tup ds) O
  | none => False
def mTupOf (m : ME) : ME := fun Z Γ O Q => m Z Γ O fun d O1 => tupD O1 d Q
theorem pe3_tupleOf {a : Expr} {m : ME} {p : Pos} (hg : Gl X "tuple") (hm : X.mg "tuple" = none) (ha : PE X a (r3E X.K W m)) (na : starEach [a] X.env = (false, eval a X.env) :: starEach [] X.env) : PE X (.Call (.Name "tuple" p) [a] [] pos) (r3E X.K W (mTupOf m)) := by
  refine peW (pe_tupleOf hg hm ha na) fun σ H Q ⟨Γ, O, H0, Z, P, env, st, hmm, lx, lv⟩ => ?_
  refine ⟨Γ, O, H0, Z, _, env, st, hmm, lx, fun H1 v d O1 H' s1 is1 st1 hm1 => ?_⟩
  have hm1 : tupD O1 d P := hm1
  unfold tupD at hm1
  cases e : seqOf O1 d with
  | none => rw [e] at hm1; exact hm1.elim
  | some ds =>
    rw [e] at hm1
    have hm2 : P (.tup ds) O1 := hm1
    clear hm1
    obtain ⟨a, vs, rfl, r, ii⟩ := seqOf_ok st1 is1 e
    rcases r with r | r
    · refine .inl ⟨a, vs, rfl, r, fun q hq => ?_⟩
      have h0 := (st1.free hq).2
      exact lv _ _ _ O1 _ (s1.trans (same_upd h0)) (.tup (SqT.of upd_same) ii.1 (ii.mono (same_upd h0)).2) (st1.new0 hq) hm2
    · by_cases ht : SqT X.K H1 a vs
      · exact .inr ⟨a, vs, rfl, r, lv H1 _ _ O1 H' s1 (.tup ht ii.1 ii.2) st1 hm2⟩
      · cases is1 with
        | tup r0 l c =>
          have : seqOf O1 (.tup ds) = some ds := rfl
          cases e
          exact .inr ⟨_, _, rfl, same_t st1.same r0, lv H1 _ _ O1 H' s1 (.tup r0 l c) st1 hm2⟩
        | lst r0 l c =>
          cases e
          refine .inl ⟨_, _, rfl, same_l st1.same r0, fun q hq => ?_⟩
          have h0 := (st1.free hq).2
          exact lv _ _ _ O1 _ (s1.trans (same_upd h0)) (.tup (SqT.of upd_same) l ((show Iss X.K H1 _ _ from ⟨l, c⟩).mono (same_upd h0)).2) (st1.new0 hq) hm2
        | cell q0 =>
          obtain ⟨_, us, e2, rr⟩ := st1.cell _ _ (lstOf_cell e)
          refine .inl ⟨_, _, rfl, SqL.of e2, fun q hq => ?_⟩
          have h0 := (st1.free hq).2
          exact lv _ _ _ O1 _ (s1.trans (same_upd h0)) (.tup (SqT.of upd_same) rr.1 (rr.mono (same_upd h0)).2) (st1.new0 hq) hm2
        | _ => cases e
end
end L3

namespace L3
open PySem PySem.Spec PyProof.Rows L2

/-! ## texts -/
abbrev FM := D → List D → Sto → PV → Prop
def RepM (K : PySem.W.Frag) (r : V → List V → Hp → VK → Prop) (f : FM) : Prop := ∀ (H0 : Hp) (O : Sto) (H : Hp) (x : V) (vs : List V) (o : D) (ds : List D) (P : PV) (Q : VK), Sta K H0 O H → Is K H0 x o → Iss K H0 vs ds → f o ds O P → LinkV K H0 P Q → r x vs H Q
def isStrD : D → Prop
  | .str _ => True
  | _ => False
def mSM (f : FM) (mo : ME) (ms : MA) : ME := fun Z Γ O Q => mo Z Γ O fun o O1 => isStrD o ∧ ms Z Γ O1 fun ds O2 => f o ds O2 Q
def mSM0 (f : FM) (mo : ME) : ME := fun Z Γ O Q => mo Z Γ O fun o O1 => isStrD o ∧ f o [] O1 Q
theorem isStr_ty {K : PySem.W.Frag} {H0 H : Hp} {v : V} {d : D} (is : Is K H0 v d) (h : isStrD d) : tyV K "str" v H := by
  cases is with
  | str x => exact rfl
  | _ => exact h.elim
theorem sm3 {K : PySem.W.Frag} {W : WX} {r : V → List V → Hp → VK → Prop} {f : FM} {mo : ME} {ms : MA} (R : RepM K r f) {σ : L2.St} {H : Hp} {Q : VK} (h : r3E K W (mSM f mo ms) σ H Q) : tBM K "str" r (r3E K W mo) (r3A K W ms) σ H Q := by
  obtain ⟨Γ, O, H0, Z, P, env, st, hm, lx, lv⟩ := h
  refine ⟨Γ, O, H0, Z, _, env, st, hm, lx, fun H1 v d O1 H' s1 is1 st1 hm1 => ⟨isStr_ty is1 hm1.1, ?_⟩⟩
  refine ⟨Γ, O1, H1, Z, _, env.mono s1, st1, hm1.2, lx.mono s1, fun H2 vs ds O2 H'' s2 is2 st2 hm2 => ?_⟩
  exact R H2 O2 H'' v vs d ds P Q st2 (is1.mono s2) is2 hm2 (lv.mono (s1.trans s2))
theorem sm30 {K : PySem.W.Frag} {W : WX} {r : V → List V → Hp → VK → Prop} {f : FM} {mo : ME} (R : RepM K r f) {σ : L2.St} {H : Hp} {Q : VK} (h : r3E K W (mSM0 f mo) σ H Q) : tBM0 K "str" r (r3E K W mo) σ H Q := by
  obtain ⟨Γ, O, H0, Z, P, env, st, hm, lx, lv⟩ := h
  refine ⟨Γ, O, H0, Z, _, env, st, hm, lx, fun H1 v d O1 H' s1 is1 st1 hm1 => ⟨isStr_ty is1 hm1.1, ?_⟩⟩
  exact R H1 O1 H' v [] d [] P Q st1 is1 .nil hm1.2 (lv.mono s1)
/-- a text, one text: a value -/
def fM1 (C : Str → Str → Prop) (g : Str → Str → D) : FM := fun o ds O Q => match o, ds with
  | .str a, [.str b] => C a b ∧ Q (g a b) O
  | _, _ => False
def fM0 (C : Str → Prop) (g : Str → D) : FM := fun o ds O Q => match o, ds with
  | .str a, [] => C a ∧ Q (g a) O
  | _, _ => False
theorem repM1 {K : PySem.W.Frag} {C : Str → Str → Prop} {g : Str → Str → D} {g' : Str → Str → V} (hg : ∀ H a b, Is K H (g' a b) (g a b)) {r : V → List V → Hp → VK → Prop} (hr : ∀ a b H Q, C a b → Q (g' a b) H → r (.str a) [.str b] H Q) : RepM K r (fM1 C g) := by
  intro H0 O H x vs o ds P Q st ix is h lv
  unfold fM1 at h
  split at h
  · cases ix
    obtain ⟨w, rfl, iw⟩ := is.one
    cases iw
    exact hr _ _ _ _ h.1 (lv H0 _ _ O H (Same.refl _) (hg _ _ _) st h.2)
  · exact h.elim
theorem repM0 {K : PySem.W.Frag} {C : Str → Prop} {g : Str → D} {g' : Str → V} (hg : ∀ H a, Is K H (g' a) (g a)) {r : V → List V → Hp → VK → Prop} (hr : ∀ a H Q, C a → Q (g' a) H → r (.str a) [] H Q) : RepM K r (fM0 C g) := by
  intro H0 O H x vs o ds P Q st ix is h lv
  unfold fM0 at h
  split at h
  · cases ix
    rw [is.unnil]
    exact hr _ _ _ h.1 (lv H0 _ _ O H (Same.refl _) (hg _ _) st h.2)
  · exact h.elim
def fFind : FM := fM1 (fun _ _ => True) fun a b => .int (Txt.find a b)
def fStarts : FM := fM1 (fun _ _ => True) fun a b => .bl (Txt.startswith a b)
def fRemPre : FM := fM1 (fun a _ => a.length ≤ sizeLine) fun a b => .str (Txt.removeprefix a b)
def fIsascii : FM := fM0 (fun _ => True) fun a => .bl (Txt.isascii a)
def fIsdigit : FM := fM0 (fun _ => True) fun a => .bl (Txt.isdigit a)
def fUpper : FM := fM0 (fun a => a.length ≤ 5592405) fun a => .str (Txt.upper a)
def fParti : FM := fun o ds O Q => match o, ds with
  | .str a, [.str b] => (b.length == 0) = false ∧ a.length ≤ sizeLine ∧ Q (.tup [.str (Txt.partition a b).1, .str (Txt.partition a b).2.1, .str (Txt.partition a b).2.2]) O
  | _, _ => False
/-- which method, of one text -/
def sm1 (m : Str) : Option FM := if m = "find" then some fFind else if m = "startswith" then some fStarts else if m = "removeprefix" then some fRemPre else if m = "partition" then some fParti else none
def sm0 (m : Str) : Option FM := if m = "isascii" then some fIsascii else if m = "isdigit" then some fIsdigit else if m = "upper" then some fUpper else none
theorem sm1_ok {X : Cx} {m : Str} {f : FM} (h : sm1 m = some f) : ∃ (id : String) (r : V → List V → Hp → VK → Prop), Slot "str" m id ∧ typeOf (.builtin id) = pure (.type "method_descriptor") ∧ MtR X id r ∧ RepM X.K r f := by
  unfold sm1 at h
  split at h
  · rename_i e; subst e; cases h
    exact ⟨_, _, PySem.F.slot_str_find, PySem.F.type_str_find, mt_find, repM1 (g' := fun a b => .int (Txt.find a b)) (fun _ _ _ => .int _) fun a b H Q _ q => ⟨a, b, rfl, rfl, q⟩⟩
  · split at h
    · rename_i e; subst e; cases h
      exact ⟨_, _, PySem.F.slot_str_startswith, PySem.F.type_str_startswith, mt_startswith, repM1 (g' := fun a b => .bl (Txt.startswith a b)) (fun _ _ _ => .bl _) fun a b H Q _ q => ⟨a, b, rfl, rfl, q⟩⟩
    · split at h
      · rename_i e; subst e; cases h
        exact ⟨_, _, PySem.F.slot_str_removeprefix, PySem.F.type_str_removeprefix, mt_removeprefix, repM1 (g' := fun a b => .str (Txt.removeprefix a b)) (fun _ _ _ => .str _) fun a b H Q c q => ⟨a, b, rfl, rfl, c, q⟩⟩
      · split at h
        · rename_i e; subst e; cases h
          refine ⟨_, _, PySem.F.slot_str_partition, PySem.F.type_str_partition, mt_partition, ?_⟩
          intro H0 O H x vs o ds P Q st ix is h lv
          unfold fParti at h
          split at h
          · rename_i a b
            cases ix
            obtain ⟨w, rfl, iw⟩ := is.one
            cases iw
            refine ⟨a, b, rfl, rfl, h.1, h.2.1, fun p hp => ?_⟩
            have h0 := (st.free hp).2
            have i3 : Iss X.K (upd H0 p (.tup [.str (Txt.partition a b).1, .str (Txt.partition a b).2.1, .str (Txt.partition a b).2.2])) [V.str (Txt.partition a b).1, V.str (Txt.partition a b).2.1, V.str (Txt.partition a b).2.2] [D.str (Txt.partition a b).1, D.str (Txt.partition a b).2.1, D.str (Txt.partition a b).2.2] := .cons (.str _) (.cons (.str _) (.cons (.str _) .nil))
            exact lv _ _ _ O _ (same_upd h0) (.tup (SqT.of upd_same) i3.1 i3.2) (st.new0 hp) h.2.2
          · exact h.elim
        · cases h
theorem sm0_ok {X : Cx} {m : Str} {f : FM} (h : sm0 m = some f) : ∃ (id : String) (r : V → List V → Hp → VK → Prop), Slot "str" m id ∧ typeOf (.builtin id) = pure (.type "method_descriptor") ∧ MtR X id r ∧ RepM X.K r f := by
  unfold sm0 at h
  split at h
  · rename_i e; subst e; cases h
    exact ⟨_, _, PySem.F.slot_str_isascii, PySem.F.type_str_isascii, mt_isascii, repM0 (g' := fun a => .bl (Txt.isascii a)) (fun _ _ => .bl _) fun a H Q _ q => ⟨a, rfl, rfl, trivial, q⟩⟩
  · split at h
    · rename_i e; subst e; cases h
      exact ⟨_, _, PySem.F.slot_str_isdigit, PySem.F.type_str_isdigit, mt_isdigit, repM0 (g' := fun a => .bl (Txt.isdigit a)) (fun _ _ => .bl _) fun a H Q _ q => ⟨a, rfl, rfl, trivial, q⟩⟩
    · split at h
      · rename_i e; subst e; cases h
        exact ⟨_, _, PySem.F.slot_str_upper, PySem.F.type_str_upper, mt_upper, repM0 (g' := fun a => .str (Txt.upper a)) (fun _ _ => .str _) fun a H Q c q => ⟨a, rfl, rfl, c, q⟩⟩
      · cases h
/-! ### str(x), {x}, f'..' -/
theorem CallR.or {X : Cx} {v : Value} {r r' : List V → Hp → VK → Prop} (h : CallR X v r) (h' : CallR X v r') : CallR X v (fun xs H Q => r xs H Q ∨ r' xs H Q) := by
  intro pins s σ H xs us Q I rs q
  rcases q with q | q
  · exact h pins s σ H xs us Q I rs q
  · exact h' pins s σ H xs us Q I rs q
def fStr1 : FA := fun ds O Q => match ds with
  | [.int i] => i.natAbs.log2 < 1920 ∧ Q (.str (toString i)) O
  | [.str a] => Q (.str a) O
  | _ => False
theorem repA_str {K : PySem.W.Frag} : RepA K (fun xs H Q => (∃ i, xs = [.int i] ∧ i.natAbs.log2 < 1920 ∧ Q (.str (toString i)) H) ∨ ∃ a, xs = [.str a] ∧ Q (.str a) H) fStr1 := by
  intro H0 O H vs ds P Q st is h lv
  unfold fStr1 at h
  split at h
  · obtain ⟨v, rfl, a⟩ := is.one
    cases a
    exact .inl ⟨_, rfl, h.1, lv H0 _ _ O H (Same.refl _) (.str _) st h.2⟩
  · obtain ⟨v, rfl, a⟩ := is.one
    cases a
    exact .inr ⟨_, rfl, lv H0 _ _ O H (Same.refl _) (.str _) st h⟩
  · exact h.elim
def fmtD (d : D) (O : Sto) (Q : PV) : Prop := match d with
  | .str y => y.length ≤ sizeLine ∧ Q (.str y) O
  | .int i => i.natAbs.log2 < 1920 ∧ Q (.str (toString i)) O
  | _ => False
def mFmt (m : ME) : ME := fun Z Γ O Q => m Z Γ O fun d O1 => fmtD d O1 Q
def jsL : List ME → Str → PX → Gm → Sto → (Str → Sto → Prop) → Prop
  | [], acc, _, _, O, K => K acc O
  | m :: ms, acc, Z, Γ, O, K => m Z Γ O fun d O1 => ∃ y, d = .str y ∧ (acc ++ y).length ≤ sizeLine ∧ jsL ms (acc ++ y) Z Γ O1 K
def mJoin (ms : List ME) : ME := fun Z Γ O Q => jsL ms Str.empty Z Γ O fun out O1 => Q (.str out) O1
section
variable {X : Cx} {W : WX} {pos : Pos}
theorem pe3_fmt {e : Expr} {m : ME} (he : PE X e (r3E X.K W m)) : PE X (.FormattedValue e (-1) none pos) (r3E X.K W (mFmt m)) := by
  refine peW (pe_fmt he) fun σ H Q ⟨Γ, O, H0, Z, P, env, st, hm, lx, lv⟩ => ?_
  refine ⟨Γ, O, H0, Z, _, env, st, hm, lx, fun H1 v d O1 H' s1 is1 st1 hm1 => ?_⟩
  cases is1 with
  | str y => exact .inl ⟨y, rfl, hm1.1, lv H1 _ _ O1 H' s1 (.str _) st1 hm1.2⟩
  | int i => exact .inr ⟨i, rfl, hm1.1, lv H1 _ _ O1 H' s1 (.str _) st1 hm1.2⟩
  | _ => exact hm1.elim
theorem js_ok {K : PySem.W.Frag} {σ : L2.St} {Z : PX} {Γ : Gm} : ∀ {ms : List ME} {acc : Str} {H0 H : Hp} {O : Sto} {P : Str → Sto → Prop} {Q : Str → Hp → Prop}, EnvR K H0 Γ σ → Sta K H0 O H → LinkX K W H0 σ Z → jsL ms acc Z Γ O P →
    (∀ H1 out O1 H', Same H0 H1 → Sta K H1 O1 H' → P out O1 → Q out H') → tJs (ms.map (r3E K W)) acc σ H Q
  | [], acc, H0, H, O, P, Q, env, st, lx, h, k => k H0 acc O H (Same.refl _) st h
  | m :: ms, acc, H0, H, O, P, Q, env, st, lx, h, k => by
    refine ⟨Γ, O, H0, Z, _, env, st, h, lx, fun H1 v d O1 H' s1 is1 st1 hm1 => ?_⟩
    obtain ⟨y, rfl, hz, hm1⟩ := hm1
    cases is1
    exact ⟨y, rfl, hz, js_ok (env.mono s1) st1 (lx.mono s1) hm1 fun H2 out O2 H'' s2 st2 p => k H2 out O2 H'' (s1.trans s2) st2 p⟩
theorem pe3_joined {v1 v2 : Expr} {rest : List Expr} {ms : List ME} (h : PJ X (v1 :: v2 :: rest) (ms.map (r3E X.K W))) : PE X (.JoinedStr (v1 :: v2 :: rest) pos) (r3E X.K W (mJoin ms)) := by
  refine peW (pe_joined h) fun σ H Q ⟨Γ, O, H0, Z, P, env, st, hm, lx, lv⟩ => ?_
  exact js_ok env st lx hm fun H1 out O1 H' s1 st1 p => lv H1 _ _ O1 H' s1 (.str _) st1 p
end
/-! ### in, not in: a text in a text -/
def occS (i j : Str) : Bool := !(Builtin.Str.occurrences j i 0 j.length 1).isEmpty
theorem occ_sign {c : Nat} {z : Str} : occS ⟨#[c]⟩ z = decide (c ∈ z.cps.toList) := PySem.StrLaws.found_one z c
def fInS (neg : Bool) : F2 := fun a b O Q => match a, b with
  | .str i, .str j => Q (.bl (if neg then !occS i j else occS i j)) O
  | _, _ => False
theorem rep_inS {K : PySem.W.Frag} : Rep2 K (fun x y H Q => ∃ i j, x = .str i ∧ y = .str j ∧ Q (.bl (!(Builtin.Str.occurrences j i 0 j.length 1).isEmpty)) H) (fInS false) := by
  intro H0 O H x y a b P Q st ix iy h lv
  unfold fInS at h
  split at h
  · cases ix; cases iy
    exact ⟨_, _, rfl, rfl, lv H0 _ _ O H (Same.refl _) (.bl _) st h⟩
  · exact h.elim
theorem rep_notInS {K : PySem.W.Frag} : Rep2 K (fun x y H Q => ∃ i j, x = .str i ∧ y = .str j ∧ Q (.bl (!(!(Builtin.Str.occurrences j i 0 j.length 1).isEmpty))) H) (fInS true) := by
  intro H0 O H x y a b P Q st ix iy h lv
  unfold fInS at h
  split at h
  · cases ix; cases iy
    exact ⟨_, _, rfl, rfl, lv H0 _ _ O H (Same.refl _) (.bl _) st h⟩
  · exact h.elim
end L3

namespace L3
open PySem PySem.Spec PyProof.Rows L2

/-! ## str(x) of an own instance -/
structure StrAt (X : Cx) (C : Str) (S : FSpec) : Prop where
  ex : ∃ k f fd ps, FnOk X.prog X.w X.K X.mg X.base (L2.CX X.prog X.w) k f fd ps (spOf X.K 1 S) ∧ Room (k + 2) X.A ∧ Binds X.K fd ps [] ∧ PySem.W.findIn X.K (.ref (He.ga X.K C)) "__str__" = some (some (.ref f)) ∧ PySem.W.isFn X.K (.ref f) = true
def rStrOwn (K : PySem.W.Frag) (C : Str) (S : FSpec) : List V → Hp → VK → Prop := fun xs H Q => ∃ a dx fs, xs = [.ref a] ∧ H a = some (.ins (He.ga K C) dx fs) ∧ spOf K 1 S [.ref a] H (fun z H' => ∃ y, z = .str y ∧ Q z H') E0
theorem call_strOwn {X : Cx} {C : Str} {S : FSpec} (F : StrAt X C S) : CallR X (.type "str") (rStrOwn X.K C S) := by
  obtain ⟨k, f, fd, ps, F, hr, hb, hs, hf⟩ := F.ex
  intro pins s σ H xs us Q I r h
  obtain ⟨a, dx, fs, rfl, ha, q⟩ := h
  obtain ⟨u, rfl, ru⟩ := r.one
  cases (show u = Value.ref a from ru)
  obtain ⟨mA, J, _⟩ := ins_get I.hok ha
  obtain ⟨od, J', _⟩ := J.look
  have hr2 : Room k X.A.in1.in1 := (show Room (k + 1) X.A.in1 from Room.in1 hr).in1
  have hl : ([Value.ref a] : List Value).length = ps.length := by
    have e := F.len _ _ _ _ q
    exact e
  have key : wpAny (model X.prog X.w) X.A.in1.in1 (call (.ref f) [.ref a]) (fun v s' => ∃ y t, v = .str y t ∧ EP X pins σ Q v s') X.xe s := by
    refine wpAny_call (codeAny_mono (F.run X.A.in1.in1 X.stack s H ⟨[.ref a], []⟩ ([Value.ref a] ++ ([] : List Value)) [V.ref a] _ E0 hr2 I.env0.in1.in1 (hb s [Value.ref a] I.kIn (by rw [List.append_nil]; exact hl)) (by rw [List.append_nil]; exact .cons rfl .nil) q) fun r s' hq => ?_)
    cases r with
    | error e => exact passAt0 (X := X) (σ := σ) pins H s e s' I hq
    | ok fl =>
      cases fl with
      | ret u =>
        obtain ⟨v, H', I3, rv, ⟨y, ev, q3⟩⟩ := I.after hq
        subst ev
        obtain ⟨t, rfl⟩ := (show ∃ t, u = Value.str y t from rv)
        exact ⟨y, t, rfl, .str y, H', I3, ⟨t, rfl⟩, q3⟩
      | next => exact False.elim hq
      | brk => exact False.elim hq
      | cont => exact False.elim hq
  refine PySem.W.kso_call hr2.units0 I.kIn J' hs hf (wpAny_mono key (fun w s' z => ?_) fun _ _ x => x)
  obtain ⟨y, t, rfl, z⟩ := z
  exact z
def fStrO (C : Str) (S : FSpec) : FA := fun ds O Q => match ds with
  | [.obj C1 fs] => C1 = C ∧ S [.obj C1 fs] O noX fun d O' => isStrD d ∧ Q d O'
  | ds => fStr1 ds O Q
theorem repA_strO {K : PySem.W.Frag} {C : Str} {S : FSpec} : RepA K (fun xs H Q => rStrOwn K C S xs H Q ∨ ((∃ i, xs = [.int i] ∧ i.natAbs.log2 < 1920 ∧ Q (.str (toString i)) H) ∨ ∃ a, xs = [.str a] ∧ Q (.str a) H)) (fStrO C S) := by
  intro H0 O H vs ds P Q st is h lv
  unfold fStrO at h
  split at h
  · obtain ⟨rfl, h⟩ := h
    obtain ⟨v, rfl, iv⟩ := is.one
    obtain ⟨p, dx, us, rfl, e1⟩ := st.ins iv
    refine .inl ⟨p, dx, us, rfl, e1, rfl, H0, O, _, noX, _, .cons iv .nil, st, h, fun _ _ _ _ _ _ _ _ _ z => z.elim, ?_⟩
    rintro H1 w d O1 H' s1 i1 st1 ⟨hd, p1⟩
    cases i1 with
    | str y => exact ⟨y, rfl, lv H1 _ _ O1 H' s1 (.str y) st1 p1⟩
    | _ => exact hd.elim
  · exact .inr (repA_str H0 O H vs ds P Q st is h lv)

/-! ## static methods -/
/-- C.m is a staticmethod: its record at p, its def at g -/
structure SmC (K : PySem.W.Frag) (C : Addr) (m : Str) (p g : Addr) : Prop where
  rd : ClX.CRead K C (.type "type")
  at_ : PySem.W.findCls K (.ref C) (.type "type") m = some (.get (.builtin "staticmethod.__get__") (.ref p) .none (.ref C))
  rc : ∃ rest, PySem.W.recIn K p "staticmethod" = some (.ref g :: rest)
  kp : PySem.W.keepIn K (.ref g) = true
/-- .. reached through an instance -/
structure SmI (K : PySem.W.Frag) (C : Addr) (m : Str) (p g : Addr) : Prop where
  pg : PySem.W.plainGet K C m = true
  ic : PySem.W.isClsIn K C = true
  at_ : PySem.W.findIn K (.ref C) m = some (some (.ref p))
  ty : PySem.W.typeIn K (.ref p) = some (.type "staticmethod")
  get : PySem.W.specialIn K (.ref p) "__get__" = some (some (.builtin "staticmethod.__get__"))
  tk : PySem.W.takesIn K (.ref p) = some false
  cp : PySem.W.copiedNames.contains m = false
  rc : ∃ rest, PySem.W.recIn K p "staticmethod" = some (.ref g :: rest)
  kp : PySem.W.keepIn K (.ref g) = true
section
variable {X : Cx} {pins : List (Addr × Obj)} {σ : L2.St} {H : Hp} {s : Shared} {a C p g : Addr} {m : Str} {A : Around} {E : Value → Shared → Prop}
theorem getsm_ok {pl : Sem Bool} {Q : Value × List Value → Shared → Prop} (I : Inv X pins σ H s) (k : SmC X.K C m p g) (h : ∀ s', Inv X pins σ H s' → Q (.ref g, []) s') : wpAny (model X.prog X.w) A (getMethod (.ref C) m pl) Q E s := by
  obtain ⟨rest, hp⟩ := k.rc
  refine PySem.W.method_cls I.kIn k.rd.ga (PySem.W.cls_bind I.kIn k.rd.rd k.at_ ?_)
  exact wpAny_call (PySem.W.sm_get (s := { s with toks := s.toks + 1 }) I.kIn hp (PySem.W.handed_on rfl (h _ (I.tok _))))
theorem getsmi_ok {pl : Sem Bool} {dx : Addr} {fs : List (Str × V)} {Q : Value × List Value → Shared → Prop} (I : Inv X pins σ H s) (e : H a = some (.ins C dx fs)) (hl : fs.lookup m = none) (k : SmI X.K C m p g) (h : ∀ s', Inv X pins σ H s' → Q (.ref g, []) s') : wpAny (model X.prog X.w) A (getMethod (.ref a) m pl) Q E s := by
  obtain ⟨mA, J0, r, _, _, _⟩ := ins_get I.hok e
  have hn : mA m = none := RelO.none_of (by rw [← hl]; exact r m)
  obtain ⟨od, J, hlk⟩ := J0.look
  have hl2 : PySem.W.lookIn m od = some none := by rw [hlk, hn]
  obtain ⟨rest, hp⟩ := k.rc
  refine PySem.W.method_usual (r := some (.ref p)) I.kIn J (PySem.W.plainGet_of k.pg).1 (PySem.W.plainGet_of k.pg).2 k.at_ ?_ ?_
  · show ((PySem.W.typeIn X.K (.ref p)).any fun t => t != .type "function" && t != .type "method_descriptor" && t != .type "wrapper_descriptor") = true
    rw [k.ty]
    decide +kernel
  · refine PySem.W.get_bind I.kIn J (PySem.W.plainGet_of k.pg).1 (ClX.find_cm k.ic k.at_ k.get k.tk k.cp hl2) (PySem.W.plainGet_of k.pg).2 ?_
    exact wpAny_call (PySem.W.sm_get (s := { s with toks := s.toks + 1 }) I.kIn hp (PySem.W.handed_on rfl (h _ (I.tok _))))
end
structure StatAt (X : Cx) (C m : Str) (n : Nat) (S : FSpec) : Prop where
  ex : ∃ k p g fd ps, SmC X.K (He.ga X.K C) m p g ∧ SmI X.K (He.ga X.K C) m p g ∧ FnOk X.prog X.w X.K X.mg X.base (L2.CX X.prog X.w) k g fd ps (spOf X.K n S) ∧ Room k X.A ∧ Binds X.K fd ps [] ∧ X.mg C = some (.ref (He.ga X.K C))
def mStatI (C m : Str) (S : FSpec) (n : Nat) (mo : ME) (ms : MA) : ME := fun Z Γ O Q => mo Z Γ O fun o O1 => insD C m O1 o ∧ ms Z Γ O1 fun ds O2 => ds.length = n ∧ S ds O2 Z Q
section
variable {X : Cx} {W : WX} {pos apos p1 : Pos}
theorem pe3_statI {pl : Sem Bool} {C m : Str} {o e : Expr} {es : List Expr} {n : Nat} {S : FSpec} {mo : ME} {ms : MA} (F : StatAt X C m n S) (tk : Takes X W) (ho : PE X o (r3E X.K W mo)) (ha : PA X (e :: es) (r3A X.K W ms))
    (he : starEach (e :: es) X.env = (false, eval e X.env) :: starEach es X.env) (hpl : (backTo pos (starEach es X.env)).any (·.1) = false)
    (ht : eval (.Call (.Attribute o m apos) (e :: es) [] pos) X.env = (do
      let ov ← eval o X.env
      standAt apos.atName
      let (f, first) ← holding [ov] (getMethod ov m pl)
      callWith pos f first (backTo pos (starEach (e :: es) X.env)) (backToKw pos (keywordEach [] X.env)))) : PE X (.Call (.Attribute o m apos) (e :: es) [] pos) (r3E X.K W (mStatI C m S n mo ms)) := by
  obtain ⟨k, p, g, fd, ps, _, hm, F, hr, hb, _⟩ := F.ex
  refine ⟨fun pins s σ H Q I ⟨Γ, O, H0, Z, P, env, st, hmm, lx, lv⟩ => ?_⟩
  have hA : r3E X.K W mo σ H fun x H1 => ∃ a dx fs, x = .ref a ∧ H1 a = some (.ins (He.ga X.K C) dx fs) ∧ fs.lookup m = none ∧ r3A X.K W ms σ H1 fun vs H2 => spOf X.K n S vs H2 Q (WE W σ) := by
    refine ⟨Γ, O, H0, Z, _, env, st, hmm, lx, fun H1 v d O1 H' s1 is1 st1 hm1 => ?_⟩
    obtain ⟨a, dx, fs, rfl, h1, h2⟩ := insD_ok st1 is1 hm1.1
    refine ⟨a, dx, fs, rfl, h1, h2, Γ, O1, H1, Z, _, env.mono s1, st1, hm1.2, lx.mono s1, fun H2 vs ds O2 H3 s2 is2 st2 hm2 => ?_⟩
    have s12 := s1.trans s2
    refine ⟨by simp [is2.1, hm2.1], H2, O2, ds, Z, P, is2, st2, hm2.2, ?_, lv.mono s12⟩
    exact fun H4 C fs O3 oe H5 s3 st3 xo z => lx H4 C fs O3 oe H5 (s12.trans s3) st3 xo z
  refine PySem.W.methodCall_KW (pl := pl) (thn (ho.run pins s σ H _ I hA) fun u s1 ⟨x, H1, I1, rx, a, dx, fs, ex, ea, l, q⟩ => ?_) ht
  subst ex
  obtain rfl : u = Value.ref a := rx
  refine getsmi_ok I1 ea l hm fun s2 I2 => ?_
  refine PySem.W.callWith_K (first := []) (h₀ := X.base) I.ok.mod.kin hm.kp (thn (ha.run pos pins s2 σ H1 _ I2 q) fun us s3 ⟨vs, H2, I3, r, q2⟩ => ⟨I3.kIn, ?_⟩) he hpl
  exact run_fnSD (us := us) (vs := vs) (E := fun σ => WE W σ) F hr hb (dvs := []) .nil (passAt tk σ) I3 r (by rw [List.append_nil]; exact q2)
theorem pe3_statC {pl : Sem Bool} {C m : Str} {e : Expr} {es : List Expr} {n : Nat} {S : FSpec} {ms : MA} (F : StatAt X C m n S) (tk : Takes X W) (hg : Gl X C) (hdb : (C == ("__debug__" : Str)) = false) (ha : PA X (e :: es) (r3A X.K W ms))
    (he : starEach (e :: es) X.env = (false, eval e X.env) :: starEach es X.env) (hpl : (backTo pos (starEach es X.env)).any (·.1) = false)
    (ht : eval (.Call (.Attribute (.Name C p1) m apos) (e :: es) [] pos) X.env = (do
      let ov ← eval (.Name C p1) X.env
      standAt apos.atName
      let (f, first) ← holding [ov] (getMethod ov m pl)
      callWith pos f first (backTo pos (starEach (e :: es) X.env)) (backToKw pos (keywordEach [] X.env)))) : PE X (.Call (.Attribute (.Name C p1) m apos) (e :: es) [] pos) (r3E X.K W (mCall S n ms)) := by
  obtain ⟨k, p, g, fd, ps, hm, _, F, hr, hb, hmg⟩ := F.ex
  refine ⟨fun pins s σ H Q I ⟨Γ, O, H0, Z, P, env, st, hmm, lx, lv⟩ => ?_⟩
  have hA : r3A X.K W ms σ H fun vs H2 => spOf X.K n S vs H2 Q (WE W σ) := by
    refine ⟨Γ, O, H0, Z, _, env, st, hmm, lx, fun H2 vs ds O2 H3 s2 is2 st2 hm2 => ?_⟩
    refine ⟨by simp [is2.1, hm2.1], H2, O2, ds, Z, P, is2, st2, hm2.2, ?_, lv.mono s2⟩
    exact fun H4 C fs O3 oe H5 s3 st3 xo z => lx H4 C fs O3 oe H5 (s2.trans s3) st3 xo z
  have hn : PE X (.Name C p1) (tC (.ref (He.ga X.K C))) := pe_glob (v := .ref (He.ga X.K C)) hg hmg rfl hdb
  refine PySem.W.methodCall_KW (pl := pl) (thn (hn.run pins s σ H (fun x H1 => x = .ref (He.ga X.K C) ∧ H1 = H) I ⟨rfl, rfl⟩) fun u s1 ⟨x, H1, I1, rx, ex, eh⟩ => ?_) ht
  subst ex eh
  obtain rfl : u = Value.ref (He.ga X.K C) := rx
  refine getsm_ok I1 hm fun s2 I2 => ?_
  refine PySem.W.callWith_K (first := []) (h₀ := X.base) I.ok.mod.kin hm.kp (thn (ha.run pos pins s2 σ _ _ I2 hA) fun us s3 ⟨vs, H2, I3, r, q2⟩ => ⟨I3.kIn, ?_⟩) he hpl
  exact run_fnSD (us := us) (vs := vs) (E := fun σ => WE W σ) F hr hb (dvs := []) .nil (passAt tk σ) I3 r (by rw [List.append_nil]; exact q2)
end
end L3

namespace L3
open PySem PySem.Spec PyProof.Rows L2

/-! ## from the text to readings -/
structure OwnI where
  C : Str
  ops : List (Str × FSpec)
  eq : FSpec
structure CI where
  N : List Str
  sc : Scope
  calm : Bool := true
  top : Bool := true
  asg : Bool := true
  cst : List (Str × D) := []
  sts : List (Str × Str × Nat × FSpec) := []
  stro : Option (Str × FSpec) := none
  mth : List (Str × Str × Nat × FSpec) := []
  fns : List (Str × Nat × FSpec) := []
  mks : List (Str × Nat × FSpec × List D) := []
  mkw : List (Str × Nat × Str × FSpec) := []
  tab : List (Str × Str) := []
  ocl : List Str := []
  exs : List Str := []
  exr : List Str := []
  base : Str := "OddsError"
  free : List Str := []
  own : Option OwnI := none
  exc : Option (Nat × Str × Addr) := none
  gcd : Bool := false
structure Rec where
  E : Expr → Option ME
  T : Expr → Option MT
  V : BoolOp → List Expr → Option MT
  A : List Expr → Option MA
  G : Expr → Option MG
  Gs : List Expr → Option MGs
  S : Stmt → Option MS
  Ss : List Stmt → Option MS
def idx : List Str → Str → Option Nat
  | [], _ => none
  | y :: r, x => if y = x then some 0 else (idx r x).map (· + 1)
theorem idx_ok : ∀ {N : List Str} {x : Str} {i : Nat}, idx N x = some i → N[i]? = some x
  | [], _, _, h => by cases h
  | y :: r, x, i, h => by
    unfold idx at h
    split at h
    · rename_i e
      cases h
      rw [e]
      rfl
    · cases e : idx r x with
      | none => rw [e] at h; cases h
      | some j =>
        rw [e] at h
        cases h
        have := idx_ok e
        simpa using this
def visB (sc : Scope) (x : Str) : Bool := match sc.names.lookup x with
  | some .local => true
  | some .cell => true
  | some .free => true
  | _ => false
def locB (sc : Scope) (x : Str) : Bool := match sc.names.lookup x with
  | some .local => true
  | some .cell => true
  | _ => false
def glB (sc : Scope) (x : Str) : Bool := match sc.names.lookup x with
  | some .globalImplicit => !(x == ("__debug__" : Str))
  | _ => false
def plainN (x : Str) : Bool := !(x == ("__debug__" : Str)) && !(x == ("__classdict__" : Str))
def isComp : Expr → Bool
  | .ListComp .. => true
  | .SetComp .. => true
  | .DictComp .. => true
  | _ => false
def isStar : Expr → Bool
  | .Starred .. => true
  | _ => false
def isTupE : Expr → Bool
  | .Tuple .. => true
  | .List .. => true
  | _ => false
def isSlice : Expr → Bool
  | .Slice .. => true
  | _ => false
def isSet : Expr → Bool
  | .Set .. => true
  | _ => false
/-- no call without arguments: its field is met plainly -/
def baseOk : Expr → Bool
  | .Call (.Name ..) [] [] _ => false
  | _ => true
def freeB (c : CI) (x : Str) : Bool := glB c.sc x && decide (x ∈ c.free)

section
variable (c : CI) (r : CI → Rec)
def cName (x : Str) : Option ME := match idx c.N x with
  | some i => if visB c.sc x && plainN x then some (mVar i) else none
  | none => if glB c.sc x then (c.cst.lookup x).map mC else none
def cConst : Const → Option ME
  | .none => some (mC .non)
  | .bool b => some (mC (.bl b))
  | .int i => some (mC (.int i))
  | .str x => some (mC (.str x))
  | _ => none
def ownF (nm : Str) (f : F2) : F2 := match c.own with
  | some o => match o.ops.lookup nm with
    | some S => fOwn o.C S f
    | none => f
  | none => f
def binF (op : Operator) : Option F2 := match op with
  | .Add => some (ownF c "__add__" fAdd)
  | .Sub => some (ownF c "__sub__" fSub)
  | .Mult => some (ownF c "__mul__" fMul)
  | .Mod => some fMod
  | .FloorDiv => some fDiv
  | .Pow => some fPow
  | _ => none
def cmpF (op : CmpOp) (b : Expr) : Option F2 := match op with
  | .Lt => some fLt
  | .LtE => some fLe
  | .Gt => some fGt
  | .GtE => some fGe
  | .Eq => if c.calm then some (match c.own with
    | some o => fEqOwn o.C o.eq
    | none => fEq false) else none
  | .NotEq => if c.calm then some (fEq true) else none
  | .Is => some (fIsN false)
  | .IsNot => some (fIsN true)
  | .In => some (fInS false)
  | .NotIn => some (fInS true)
def tyName (x : Str) : Option T3 :=
  if x = "int" then some .int else if x = "bool" then some .bool else if x = "str" then some .str else if x = "tuple" then some .tup else if x = "list" then some .lst else none
def namesOf : List Expr → Option (List Str)
  | [] => some []
  | .Name x _ :: es => (namesOf es).map (x :: ·)
  | _ => none
def cIsi (e : Expr) (t : Expr) : Option ME := match c.exc, e with
  | some (i, C, a), .Name x _ => match idx c.N x with
    | some j => if j = i ∧ visB c.sc x = true ∧ plainN x = true then (match t with
      | .Name y _ => if y ∈ c.exs then (if glB c.sc y then some (mIsE i a (decide (C = y))) else none) else if y = "ValueError" ∧ freeB c y = true then some (mIsE i a true) else none
      | .Tuple es _ _ => match namesOf es with
        | some ns => if (ns.all fun y => decide (y ∈ c.exs) && glB c.sc y) && decide (ns.length ≤ 1000) then some (mIsE i a (decide (C ∈ ns))) else none
        | none => none
      | _ => none) else none
    | none => none
  | none, _ => match t with
    | .Name y _ => match tyName y with
      | some ty => if freeB c y then ((r c).E e).map (mIsT ty) else none
      | none => if y ∈ c.ocl ∧ glB c.sc y = true then ((r c).E e).map (mIsO y) else none
    | _ => none
  | _, _ => none
/-- built-in functions by their arguments -/
def biF (x : Str) : Option FA :=
  if x = "int" then some fInt1 else if x = "abs" then some fAbs else if x = "max" then some fMax2 else if x = "min" then some fMin2 else if x = "len" then some fLen else none
def cCall (x : Str) (es : List Expr) : Option ME :=
  if glB c.sc x = true ∧ es ≠ [] then
    match c.fns.lookup x with
    | some (n, S) => if decide (es.length = n) then ((r c).A es).map (mCall S n) else none
    | none => match c.mks.find? (fun q => q.1 == x && q.2.1 == es.length) with
      | some (_, n, S, ex) => ((r c).A es).map (mMake x S n ex)
      | none =>
        if x = "isinstance" ∧ freeB c x = true then (match es with
          | [e, t] => if isStar e then none else cIsi c r e t
          | _ => none)
        else if x = "gcd" ∧ c.gcd = true then ((r c).A es).map (mCB fGcd)
        else if c.calm = true ∧ freeB c x = true then (match biF x with
          | some f => ((r c).A es).map (mCB f)
          | none => none)
        else none
  else none
def stepE : Expr → Option ME
  | .Name x _ => cName c x
  | .Constant k _ _ => cConst k
  | .BinOp a op b _ => match binF c op, (r c).E a, (r c).E b with
    | some f, some ma, some mb => some (mOp f ma mb)
    | _, _, _ => none
  | .UnaryOp .USub a _ => ((r c).E a).map (mUn fNeg)
  | .UnaryOp .Not a _ => ((r c).E a).map mNotV
  | .Compare a [op] [b] _ => match cmpF c op b, (r c).E a, (r c).E b with
    | some f, some ma, some mb => if isSet b then none else some (mOp f ma mb)
    | _, _, _ => none
  | .Compare a [op, op'] [b, d] _ => match cmpF c op b, cmpF c op' d, (r c).E a, (r c).E b, (r c).E d with
    | some f, some g, some ma, some mb, some md => if isSet b || isSet d then none else some (mChain f g ma mb md)
    | _, _, _, _, _ => none
  | .BoolOp op [a] _ => (r c).E a
  | .BoolOp .And (a :: b :: rest) pos => match (r c).E a, (r c).E (.BoolOp .And (b :: rest) pos) with
    | some ma, some mb => some (mAndV ma mb)
    | _, _ => none
  | .BoolOp .Or (a :: b :: rest) pos => match (r c).E a, (r c).E (.BoolOp .Or (b :: rest) pos) with
    | some ma, some mb => some (mOrV ma mb)
    | _, _ => none
  | .IfExp t a b _ => match (r c).T t, (r c).E a, (r c).E b with
    | some t, some ma, some mb => some (mIfE t ma mb)
    | _, _, _ => none
  | .Tuple es _ _ => ((r c).A es).map mTup
  | .List es _ => ((r c).A es).map mLst
  | .Subscript a (.Slice none none none _) _ => ((r c).E a).map fun ma => mSlice ma mNone mNone
  | .Subscript a (.Slice (some l) none none _) _ => match (r c).E a, (r c).E l with
    | some ma, some ml => some (mSlice ma (mSome ml) mNone)
    | _, _ => none
  | .Subscript a (.Slice none (some h) none _) _ => match (r c).E a, (r c).E h with
    | some ma, some mh => some (mSlice ma mNone (mSome mh))
    | _, _ => none
  | .Subscript a (.Slice (some l) (some h) none _) _ => match (r c).E a, (r c).E l, (r c).E h with
    | some ma, some ml, some mh => some (mSlice ma (mSome ml) (mSome mh))
    | _, _, _ => none
  | .Subscript a b _ => if isSlice b then none else match (r c).E a, (r c).E b with
    | some ma, some mb => some (mOp fIx ma mb)
    | _, _ => none
  | .Attribute e f _ => if baseOk e then ((r c).E e).map (mFld c.tab f) else none
  | .Call (.Name x _) es [] _ => cCall c r x es
  | .Call (.Name x _) (e :: es) [⟨some kw, a, _⟩] _ => if glB c.sc x then (match c.mkw.find? (fun q => q.1 == x && (q.2.1 == es.length + 1 && q.2.2.1 == kw)), (r c).A (e :: es), (r c).E a with
    | some (_, n, _, S), some ms, some m => some (mMakeK x S n ms (mCons m mNil))
    | _, _, _ => none) else none
  | _ => none
/-- the inside of a comprehension -/
def blkI (scope : Scope) : CI := { c with sc := relS scope c.sc, top := false, asg := false }
def cTgNs (sc : Scope) : List Expr → Option (List (Str × Nat))
  | [] => some []
  | .Name x _ :: es => match idx c.N x, cTgNs sc es with
    | some i, some r => if sc.names.lookup x = some .local then some ((x, i) :: r) else none
    | _, _ => none
  | _ => none
def cTgN (sc : Scope) : Expr → Option (List (Str × Nat) × TgN)
  | .Name x _ => match idx c.N x with
    | some i => if sc.names.lookup x = some .local then some ([(x, i)], .one i) else none
    | none => none
  | .Tuple es _ _ => (cTgNs c sc es).map fun ps => (ps, .many (ps.map (·.2)))
  | _ => none
def cIfs (r : Rec) : List Expr → Option MT
  | [] => some mYes
  | [e] => r.T e
  | _ => none
def cComp (elt tg iter : Expr) (ifs : List Expr) (scope : Scope) : Option ME := match cTgN c (relS scope c.sc) tg with
  | some (own, tn) => if c.calm && (c.exc.isNone && (blkC c.N c.sc scope own && !isSet iter)) then (match (r c).E iter, cIfs (r (blkI c scope)) ifs, (r (blkI c scope)).E elt with
    | some mi, some t, some e => some (mComp mi tn t e)
    | _, _, _ => none) else none
  | none => none
def isGlobal (o : Expr) (C : Str) : Bool := match o with
  | .Name y _ => decide (y = C) && ((idx c.N y).isNone && glB c.sc y)
  | _ => false
def cParts (r : Rec) : List Expr → Option (List ME)
  | [] => some []
  | e :: es => match r.E e, cParts r es with
    | some m, some ms => some (m :: ms)
    | _, _ => none
/-- comprehensions, methods -/
def stepC : Expr → Option ME
  | .ListComp elt [⟨tg, iter, ifs, 0⟩] scope _ => cComp c r elt tg iter ifs scope
  | .Call (.Attribute o m apos) (e :: es) [] pos => if baseOk o && (decide (es.length < 20) && (apos.endLine == pos.line)) then (match c.sts.lookup m with
    | some (C, n, S) => if isGlobal c o C then ((r c).A (e :: es)).map (mCall S n) else (match (r c).E o, (r c).A (e :: es) with
      | some mo, some ms => some (mStatI C m S n mo ms)
      | _, _ => none)
    | none => match c.mth.lookup m with
    | some (C, n, S) => match (r c).E o, (r c).A (e :: es) with
      | some mo, some ms => some (mMeth C m S n mo ms)
      | _, _ => none
    | none => if m = "append" ∧ es = [] then (match (r c).E o, (r c).A (e :: es) with
      | some mo, some ms => some (mApp mo ms)
      | _, _ => none) else if es = [] then (match sm1 m, (r c).E o, (r c).A (e :: es) with
      | some f, some mo, some ms => some (mSM f mo ms)
      | _, _, _ => none) else none) else none
  | .Call (.Attribute o m apos) [] [] pos => if baseOk o && (apos.endLine == pos.line) then (match sm0 m, (r c).E o with
    | some f, some mo => some (mSM0 f mo)
    | _, _ => none) else none
  | .FormattedValue e k none _ => if k = -1 then ((r c).E e).map mFmt else none
  | .JoinedStr (v1 :: v2 :: rest) _ => (cParts (r c) (v1 :: v2 :: rest)).map mJoin
  | .Call (.Name x _) [a] [] _ => if x = "tuple" ∧ freeB c x = true ∧ isStar a = false then ((r c).E a).map mTupOf else if x = "str" ∧ freeB c x = true ∧ isStar a = false then ((r c).A [a]).map (mCB (match c.stro with
    | some (C, S) => fStrO C S
    | none => fStr1)) else none
  | _ => none
def stepT : Expr → Option MT
  | .UnaryOp .Not a _ => ((r c).T a).map mNot
  | .BoolOp op vs _ => (r c).V op vs
  | .Compare a [op] [b] _ => match cmpF c op b, (r c).E a, (r c).E b with
    | some f, some ma, some mb => if isSet b then none else some (mB (mOp f ma mb))
    | _, _, _ => none
  | .Compare a [op, op'] [b, d] _ => match cmpF c op b, cmpF c op' d, (r c).E a, (r c).E b, (r c).E d with
    | some f, some g, some ma, some mb, some md => if isSet b || isSet d then none else some (mB (mChain f g ma mb md))
    | _, _, _, _, _ => none
  | .Name x p => ((r c).E (.Name x p)).map mTru
  | .Call f es ks p => ((r c).E (.Call f es ks p)).map mTru
  | .Attribute e f p => ((r c).E (.Attribute e f p)).map mTru
  | .Constant k j p => ((r c).E (.Constant k j p)).map mTru
  | _ => none
def stepV : BoolOp → List Expr → Option MT
  | _, [a] => (r c).T a
  | .And, a :: b :: rest => match (r c).T a, (r c).V .And (b :: rest) with
    | some ta, some tb => some (mAnd ta tb)
    | _, _ => none
  | .Or, a :: b :: rest => match (r c).T a, (r c).V .Or (b :: rest) with
    | some ta, some tb => some (mOr ta tb)
    | _, _ => none
  | _, _ => none
def stepA : List Expr → Option MA
  | [] => some mNil
  | e :: es => if isStar e then none else match (r c).E e, (r c).A es with
    | some ma, some mr => some (mCons ma mr)
    | _, _ => none
def stepG : Expr → Option MG
  | .Name x _ => match idx c.N x with
    | some i => if c.asg && locB c.sc x then some (tgName i) else none
    | none => none
  | .Tuple es _ _ => if c.calm && es.all (!isStar ·) then ((r c).Gs es).map (tgTup es.length) else none
  | .Subscript o i _ => if isSlice i then none else match (r c).E o, (r c).E i with
    | some mo, some mi => some (tgIx mo mi)
    | _, _ => none
  | _ => none
def stepGs : List Expr → Option MGs
  | [] => some tgNil
  | e :: es => if isStar e then none else match (r c).G e, (r c).Gs es with
    | some g, some u => some (tgCons g u)
    | _, _ => none
/-- a, b = x, y: both names stored from the right -/
def parOk (x y : Str) (px py : Pos) (a b : Expr) : Bool :=
  decide (px.line = py.line) && (decide (x ≠ y) && (decide (c.sc.names.lookup x = some .local) && (decide (c.sc.names.lookup y = some .local) && (!([a, b].all (foldedForSure 8)) && (!([a, b].all (constantsAlone 8)) && (!isStar a && !isStar b))))))
def sfx (i : Nat) (C : Str) (a : Addr) : CI := { c with calm := false, top := false, fns := [], mks := [], mkw := [], mth := [], sts := [], stro := none, own := none, exc := some (i, C, a) }
/-- a suite for errors without fields -/
def sui (fs : List (Str × D)) (o : Option MS) : MS := fun P Γ O => fs = [] ∧ match o with
  | some m => m P Γ O
  | none => False
def stepS : Stmt → Option MS
  | .Pass _ => some mNext
  | .Break _ => some mBrk
  | .Continue _ => some mCont
  | .Return none _ => some mRetN
  | .Return (some e) _ => ((r c).E e).map mRet
  | .Expr e _ => if isComp e then none else ((r c).E e).map mDrop
  | .If t a b _ => match (r c).T t, (r c).Ss a, (r c).Ss b with
    | some t, some a, some b => some (mIf t a b)
    | _, _, _ => none
  | .While t b [] _ => match (r c).T t, (r c).Ss b with
    | some t, some b => some (mWhile t b)
    | _, _ => none
  | .For tg it b [] _ => if c.calm then (match it, (r c).G tg, (r c).Ss b with
    | .Call (.Name x _) [e] [] _, some g, some b => if x = "range" then (if freeB c x && !isStar e then ((r c).A [e]).map fun ms => mForR1 ms g b else none) else ((r c).E it).map fun m => mFor m g b
    | .Call (.Name x _) [e, e2] [] _, some g, some b => if x = "range" then (if freeB c x && !(isStar e || isStar e2) then ((r c).A [e, e2]).map fun ms => mForR2 ms g b else none) else ((r c).E it).map fun m => mFor m g b
    | it, some g, some b => if isSet it then none else ((r c).E it).map fun m => mFor m g b
    | _, _, _ => none) else none
  | .Assign [.Attribute o f _] e _ => if isComp e then none else match (r c).E o, (r c).E e with
    | some mo, some me => some (mSetA c.tab f me mo)
    | _, _ => none
  | .Assign [.Tuple [.Name x px, .Name y py] q1 p1] (.Tuple [a, b] q2 p2) _ => if c.calm && parOk c x y px py a b then (match idx c.N x, idx c.N y, (r c).A [a, b] with
    | some i, some j, some ms => some (mPar i j ms)
    | _, _, _ => none) else if [a, b].all (foldedForSure 8) then (match (r c).E (.Tuple [a, b] q2 p2), (r c).G (.Tuple [.Name x px, .Name y py] q1 p1) with
    | some m, some g => some (mAsg m g)
    | _, _ => none) else none
  | .Assign [.Name y py] (.ListComp elt [⟨tg, iter, ifs, 0⟩] scope pos) spos => if c.asg && (decide (c.sc.names.lookup y = some .local) && ((py.line == pos.line) && !(scope.names.any fun (n, k) => n == y && (k == .local || k == .cell)))) then (match idx c.N y, cComp c r elt tg iter ifs scope with
    | some i, some m => some (mAsg m (tgName i))
    | _, _ => none) else none
  | .Assign [tg] e _ => if isComp e || isStar tg || (isTupE tg && isTupE e) then none else match (r c).E e, (r c).G tg with
    | some m, some g => some (mAsg m g)
    | _, _ => none
  | .Raise (some (.Call (.Name C _) [.Constant (.str _) _ _] [] _)) none _ => if c.calm && (decide (C ∈ c.exr) && glB c.sc C) then some (mRaise C) else none
  | .Try b [.ExceptHandler (some (.Name x _)) (some n) (b0 :: su) _] [] [] _ => if c.calm && (c.top && (decide (x = c.base) && (glB c.sc x && (decide (c.sc.names.lookup n = some .local) && !c.exs.isEmpty)))) then (match idx c.N n, (r c).Ss b with
    | some i, some mb => if (((r (sfx c i Str.empty 0)).Ss (b0 :: su)).isSome) then some (mTry i c.exs mb fun C fs a => sui fs ((r (sfx c i C a)).Ss (b0 :: su))) else none
    | _, _ => none) else none
  | _ => none
def stepSs : List Stmt → Option MS
  | [] => some mNext
  | [s] => (r c).S s
  | s :: t :: rest => match (r c).S s, (r c).Ss (t :: rest) with
    | some a, some b => some (mSeq a b)
    | _, _ => none
end
def Rec.no : Rec := ⟨fun _ => none, fun _ => none, fun _ _ => none, fun _ => none, fun _ => none, fun _ => none, fun _ => none, fun _ => none⟩
def comp : Nat → CI → Rec
  | 0, _ => Rec.no
  | n + 1, c => ⟨fun e => match stepC c (comp n) e with
    | some m => some m
    | none => stepE c (comp n) e, stepT c (comp n), stepV c (comp n), stepA c (comp n), stepG c (comp n), stepGs c (comp n), stepS c (comp n), stepSs c (comp n)⟩
end L3

namespace L3
open PySem PySem.Spec PyProof.Rows L2

structure Ctx (c : CI) (X : Cx) (W : WX) : Prop where
  hN : X.N = c.N
  nd : X.N.Nodup
  sc : X.env.scope = c.sc
  kind : c.sc.kind = .function
  fn : c.asg = true → ∀ x, locB c.sc x = true → X.fn x = true ∨ X.env.scope.names.lookup x = some .local
  calm : c.calm = true → X.calm = true ∧ X.A.units + 64 < cLine
  tk : Takes X W
  po : PassesOwn (model X.prog X.w) X.A X.env X.xe
  top : c.top = true → X.stack = X.env :: X.outer ∧ X.env.frame = some X.env.locals
  fns : ∀ x n S, c.fns.lookup x = some (n, S) → FnAt X x n S
  mks : ∀ q ∈ c.mks, MkAt X q.1 q.2.1 q.2.2.1 q.2.2.2
  mkw : ∀ q ∈ c.mkw, MkwAt X q.1 q.2.1 q.2.2.1 q.2.2.2
  mth : ∀ m C n S, c.mth.lookup m = some (C, n, S) → MthAt X C m n S
  cst : ∀ x d, c.cst.lookup x = some d → ∃ v u, X.mg x = some u ∧ RelV v u ∧ ∀ H, Is X.K H v d
  sts : ∀ m C n S, c.sts.lookup m = some (C, n, S) → StatAt X C m n S
  stro : ∀ C S, c.stro = some (C, S) → StrAt X C S
  tab : AtOk X.K c.tab
  ocl : ∀ x ∈ c.ocl, OCls X.K (He.ga X.K x) ∧ X.mg x = some (.ref (He.ga X.K x))
  exs : XcT X.K c.exs
  exg : ∀ x ∈ c.exs, X.mg x = some (.ref (He.ga X.K x))
  exa : ∀ x ∈ c.exr, XcAt X.K X.mg x
  exb : c.exs ≠ [] → X.mg c.base = some (.ref (He.ga X.K c.base)) ∧ ∀ C ∈ c.exs, PySem.W.exmOne X.K (.ref (He.ga X.K C)) (.ref (He.ga X.K c.base)) = some true
  free : ∀ x ∈ c.free, X.mg x = none
  own : ∀ o, c.own = some o → (∀ op : Operator, ∀ S, o.ops.lookup (PySem.dunder op.info.2) = some S → OwnOp X o.C (PySem.dunder op.info.2) S) ∧ OwnOp X o.C "__eq__" o.eq ∧ OEq X.K (He.ga X.K o.C)
  gcd : c.gcd = true → X.mg "gcd" = some (.builtin "math.gcd")
  exc : ∀ i C a, c.exc = some (i, C, a) → ∃ X0 oe pn, X = Cx.suite X0 a ((a, oe) :: pn) ∧ C ∈ c.exs ∧ Zc (.ref (He.ga X.K C)) none oe ∧ ∃ vs, oe.data = .fields vs
structure RecOk (X : Cx) (W : WX) (r : Rec) : Prop where
  E : ∀ e m, r.E e = some m → isStar e = false ∧ PE X e (r3E X.K W m)
  T : ∀ e m, r.T e = some m → PT X e (r3T X.K W m)
  V : ∀ op es m, r.V op es = some m → ∀ pos, PW X (.BoolOp op es pos) (r3T X.K W m)
  A : ∀ es m, r.A es = some m → (es.all fun e => !isStar e) = true ∧ PA X es (r3A X.K W m)
  G : ∀ e m, r.G e = some m → isStar e = false ∧ PG X e (r3G X.K W m)
  Gs : ∀ es m, r.Gs es = some m → (es.all fun e => !isStar e) = true ∧ PGs X es (r3Gs X.K W m)
  S : ∀ st m, r.S st = some m → PS X st (r3S X.K W m)
  Ss : ∀ sts m, r.Ss sts = some m → PSs X sts (r3S X.K W m)
theorem RecOk.no {X : Cx} {W : WX} : RecOk X W Rec.no := by
  constructor <;> (intros; first | (rename_i h; cases h; done) | (rename_i h _; cases h))

/-! ### small facts of the text -/
theorem star1 {e : Expr} {es : List Expr} {env : Env} (h : isStar e = false) : starEach (e :: es) env = (false, eval e env) :: starEach es env := by
  cases e <;> first | rfl | cases h
theorem starAny {pos : Pos} {env : Env} : ∀ {es : List Expr}, (es.all fun e => !isStar e) = true → (backTo pos (starEach es env)).any (·.1) = false
  | [], _ => rfl
  | e :: es, h => by
    rw [List.all_cons, Bool.and_eq_true] at h
    have h1 : isStar e = false := by simpa using h.1
    rw [star1 h1]
    show (false || (backTo pos (starEach es env)).any (·.1)) = false
    rw [starAny h.2]
    rfl
theorem sw_none {e : Expr} {t : Option Expr} {l : Nat} {env : Env} (h : isComp e = false) : swapsWith e t l env = pure false := by
  cases e <;> first | rfl | cases h
theorem swSole {e t : Expr} {l : Nat} {env : Env} (h : isComp e = false) : swapsWithSole [t] e l env = pure false := sw_none h
theorem asg1 {t : Expr} {env : Env} (h : isStar t = false) : (assignEach [t] env).map (·.2) = [assign t env] := by
  cases t <;> first | rfl | cases h
theorem asgC {t : Expr} {ts : List Expr} {env : Env} (h : isStar t = false) : (assignEach (t :: ts) env).map (·.2) = assign t env :: (assignEach ts env).map (·.2) := by
  cases t <;> first | rfl | cases h
theorem asgC2 {t : Expr} {ts : List Expr} {env : Env} (h : isStar t = false) : assignEach (t :: ts) env = (false, assign t env) :: assignEach ts env := by
  cases t <;> first | rfl | cases h
theorem asgAll {env : Env} : ∀ {ts : List Expr}, (ts.all fun e => !isStar e) = true → (assignEach ts env).length = ts.length ∧ (assignEach ts env).findIdx? (·.1) = none
  | [], _ => ⟨rfl, rfl⟩
  | t :: ts, h => by
    rw [List.all_cons, Bool.and_eq_true] at h
    have h1 : isStar t = false := by simpa using h.1
    obtain ⟨a, b⟩ := asgAll (env := env) h.2
    rw [asgC2 h1]
    refine ⟨by simp [a], ?_⟩
    rw [List.findIdx?_cons]
    simp [b]
theorem swNo {t e : Expr} {env : Env} (h : (isTupE t && isTupE e) = false) : swappedStores [t] e env = pure none := by
  cases t <;> first | rfl | (cases e <;> first | rfl | cases h)
theorem fold1 {e : Expr} {env : Env} (h : isSet e = false) : ∀ x, foldedSetIterable e env x = pure x := by
  intro x
  cases e <;> first | rfl | cases h
theorem plainIx {b : Expr} (h : isSlice b = false) : PlainIx b := by
  intro o i
  cases b <;> first | rfl | cases h
theorem behind0 {op : CmpOp} {b : Expr} (h : isSet b = false) : behindInMarks op b = false := by
  cases b <;> first | rfl | cases h
theorem asgSub {o i : Expr} {pos : Pos} {env : Env} (h : isSlice i = false) : ∀ v, assign (.Subscript o i pos) env v = (do
      let ov ← holding [v] (eval o env)
      let iv ← holding [v, ov] (eval i env)
      standAt pos
      holding [v, ov, iv] (setItem ov iv v)
      release [v, ov, iv] []) := by
  intro v
  cases i <;> first | rfl | cases h
theorem base1 {e : Expr} {f : Str} {env : Env} (h : baseOk e = true) : attributeBase e f env (eval e env) = eval e env := by
  cases e with
  | Call fn es ks p =>
    cases fn <;> first
      | rfl
      | (cases es with
         | cons => rfl
         | nil => cases ks with
           | cons => rfl
           | nil => cases h)
  | _ => rfl
section
variable {c : CI} {X : Cx} {W : WX} {pos : Pos}
theorem Ctx.gl (k : Ctx c X W) {x : Str} (h : glB c.sc x = true) : Gl X x ∧ (x == ("__debug__" : Str)) = false := by
  unfold glB at h
  split at h
  · rename_i e
    refine ⟨?_, by simpa using h⟩
    show X.env.scope.names.lookup x = some .globalImplicit
    rw [k.sc]
    exact e
  · cases h
theorem Ctx.vis (k : Ctx c X W) {x : Str} (h : visB c.sc x = true) : Vis X.env.scope x := by
  unfold visB at h
  rw [k.sc]
  split at h
  · rename_i e; exact .inl e
  · rename_i e; exact .inr (.inl e)
  · rename_i e; exact .inr (.inr e)
  · cases h
theorem Ctx.loc (k : Ctx c X W) {x : Str} (h : locB c.sc x = true) : Loc X.env.scope x := by
  unfold locB at h
  rw [k.sc]
  split at h
  · rename_i e; exact .inl e
  · rename_i e; exact .inr e
  · cases h
theorem Ctx.fr (k : Ctx c X W) {x : Str} (h : freeB c x = true) : Gl X x ∧ (x == ("__debug__" : Str)) = false ∧ X.mg x = none := by
  unfold freeB at h
  obtain ⟨h1, h2⟩ := Bool.and_eq_true_iff.mp h
  obtain ⟨a, b⟩ := k.gl h1
  exact ⟨a, b, k.free x (of_decide_eq_true h2)⟩
theorem plainN_ok {x : Str} (h : plainN x = true) : (x == ("__debug__" : Str)) = false ∧ (x == ("__classdict__" : Str)) = false := by
  unfold plainN at h
  obtain ⟨h1, h2⟩ := Bool.and_eq_true_iff.mp h
  exact ⟨by simpa using h1, by simpa using h2⟩
theorem Ctx.nm (k : Ctx c X W) {x : Str} {i : Nat} (h1 : idx c.N x = some i) (h2 : visB c.sc x = true) (h3 : plainN x = true) : PE X (.Name x pos) (tVar i) := by
  obtain ⟨a, b⟩ := plainN_ok h3
  exact pe_var (by rw [k.hN]; exact idx_ok h1) (k.vis h2) a b
theorem name_ok (k : Ctx c X W) {x : Str} {m : ME} (h : cName c x = some m) : PE X (.Name x pos) (r3E X.K W m) := by
  unfold cName at h
  split at h
  · rename_i i e
    split at h
    · rename_i q
      cases h
      obtain ⟨h1, h2⟩ := Bool.and_eq_true_iff.mp q
      exact pe3_var (k.nm e h1 h2)
    · cases h
  · split at h
    · rename_i hg
      obtain ⟨g1, g2⟩ := k.gl hg
      cases q : c.cst.lookup x with
      | none => rw [q] at h; cases h
      | some d =>
        rw [q] at h
        cases h
        obtain ⟨v, u, hm, rv, is⟩ := k.cst x d q
        exact pe3_c (pe_glob (v := v) g1 hm rv g2) is
    · cases h
theorem const_ok {q : Const} {j : Nat} {m : ME} (h : cConst q = some m) : PE X (.Constant q j pos) (r3E X.K W m) := by
  unfold cConst at h
  split at h <;> first
    | cases h; done
    | (cases h; exact pe3_c pe_non fun _ => .non)
    | (cases h; exact pe3_c pe_bl fun _ => .bl _)
    | (cases h; exact pe3_c pe_int fun _ => .int _)
    | (cases h; exact pe3_c pe_str fun _ => .str _)
theorem own_ok (k : Ctx c X W) {op : Operator} {r : R2} {f : F2} (h1 : OpR X (binaryOp op) r) (h2 : Rep2 X.K r f) : ∃ r, OpR X (binaryOp op) r ∧ Rep2 X.K r (ownF c (PySem.dunder op.info.2) f) := by
  unfold ownF
  split
  · rename_i o e
    split
    · rename_i S e2
      exact ⟨_, OpR.or (op_own ((k.own o e).1 op S e2)) h1, rep_own h2⟩
    · exact ⟨r, h1, h2⟩
  · exact ⟨r, h1, h2⟩
theorem binF_ok (k : Ctx c X W) {op : Operator} {f : F2} (h : binF c op = some f) : ∃ r, OpR X (binaryOp op) r ∧ Rep2 X.K r f := by
  unfold binF at h
  split at h
  · cases h; exact own_ok k (op := .Add) op_add3 rep_add
  · cases h; exact own_ok k (op := .Sub) op_sub rep_sub
  · cases h; exact own_ok k (op := .Mult) op_mul3 rep_mul
  · cases h; exact ⟨_, op_mod, rep_mod⟩
  · cases h; exact ⟨_, op_div3, rep_div⟩
  · cases h; exact ⟨_, op_pow, rep_pow⟩
  · cases h
theorem cmpF_ok (k : Ctx c X W) {op : CmpOp} {b : Expr} {f : F2} (h : cmpF c op b = some f) : ∃ r, OpR X (compareOp op) r ∧ Rep2 X.K r f := by
  unfold cmpF at h
  split at h
  · cases h; exact ⟨_, op_lt, rep_lt⟩
  · cases h; exact ⟨_, op_le, rep_le⟩
  · cases h; exact ⟨_, op_gt, rep_gt⟩
  · cases h; exact ⟨_, op_ge, rep_ge⟩
  · split at h
    · rename_i hc
      cases h
      have hu := (k.calm hc).2
      split
      · rename_i o e
        obtain ⟨_, h2, h3⟩ := k.own o e
        exact ⟨_, OpR.or (op_ownEq h2) (OpR.or op_eq (op_eqD hu)), rep_eqOwn h3⟩
      · exact ⟨_, OpR.or op_eq (op_eqD hu), rep_eq⟩
    · cases h
  · split at h
    · rename_i hc
      cases h
      exact ⟨_, OpR.or op_ne (op_neD (k.calm hc).2), rep_ne⟩
    · cases h
  · cases h; exact ⟨_, op_isN, rep_isN⟩
  · cases h; exact ⟨_, op_notN, rep_notN⟩
  · cases h; exact ⟨_, op_in_str, rep_inS⟩
  · cases h; exact ⟨_, op_notin_str, rep_notInS⟩
end
end L3

namespace L3
open PySem PySem.Spec PyProof.Rows L2
section
variable {c : CI} {X : Cx} {W : WX} {r : CI → Rec} {pos : Pos}
theorem mapS {α β : Type} {o : Option α} {f : α → β} {m : β} (h : o.map f = some m) : ∃ a, o = some a ∧ f a = m := by
  cases o with
  | none => cases h
  | some a => exact ⟨a, rfl, Option.some.inj h⟩
theorem names_pa (k : Ctx c X W) : ∀ {es : List Expr} {ns : List Str}, namesOf es = some ns → (∀ y ∈ ns, y ∈ c.exs ∧ glB c.sc y = true) → (es.all fun e => !isStar e) = true ∧ PA X es (tCs (ns.map fun y => V.ref (He.ga X.K y)))
  | [], ns, h, _ => by cases h; exact ⟨rfl, pa_cs_nil⟩
  | e :: es, ns, h, hn => by
    cases e with
    | Name x p =>
      obtain ⟨ms, e1, e2⟩ := mapS (show (namesOf es).map (x :: ·) = some ns from h)
      subst e2
      obtain ⟨h1, h2⟩ := names_pa k e1 fun y hy => hn y (List.mem_cons_of_mem _ hy)
      obtain ⟨h3, h4⟩ := hn x List.mem_cons_self
      obtain ⟨g1, g2⟩ := k.gl h4
      exact ⟨by rw [List.all_cons, h1]; rfl, pa_cs_cons (pe_glob (v := .ref (He.ga X.K x)) g1 (k.exg x h3) rfl g2) h2 (star1 rfl)⟩
    | _ => cases h
theorem isi_ok (k : Ctx c X W) (R : RecOk X W (r c)) {e t : Expr} {m : ME} {x : Str} {p : Pos} (hx : x = "isinstance") (hf : freeB c x = true) (hs : isStar e = false) (h : cIsi c r e t = some m) : PE X (.Call (.Name x p) [e, t] [] pos) (r3E X.K W m) := by
  subst hx
  obtain ⟨g1, g2, g3⟩ := k.fr hf
  unfold cIsi at h
  split at h
  · -- the suite's error
    rename_i i C a y q ex
    obtain ⟨X0, oe, pn, rfl, hC, hz, hfd⟩ := k.exc i C a ex
    split at h
    · rename_i j ej
      split at h
      · rename_i hj
        obtain ⟨rfl, v1, v2⟩ := hj
        have hv := k.nm (pos := q) ej v1 v2
        split at h
        · rename_i z p2
          split at h
          · rename_i hz2
            split at h
            · rename_i gz
              cases h
              obtain ⟨a1, a2⟩ := k.gl gz
              exact pe3_isE k.exs hC hz2 hz hfd hv g1 g3 a1 (k.exg z hz2) a2
            · cases h
          · split at h
            · rename_i hve
              cases h
              obtain ⟨rfl, fz⟩ := hve
              obtain ⟨a1, a2, a3⟩ := k.fr fz
              exact pe3_isEV k.exs hC hz hfd hv g1 g3 a1 a3
            · cases h
        · rename_i es kk p2
          split at h
          · rename_i ns en
            split at h
            · rename_i hall
              cases h
              obtain ⟨h1, h2⟩ := Bool.and_eq_true_iff.mp hall
              have hn : ∀ y ∈ ns, y ∈ c.exs ∧ glB c.sc y = true := fun y hy => by
                have := List.all_eq_true.mp h1 y hy
                obtain ⟨b1, b2⟩ := Bool.and_eq_true_iff.mp this
                exact ⟨of_decide_eq_true b1, b2⟩
              exact pe3_isET k.exs hC (fun y hy => (hn y hy).1) hz hfd hv g1 g3 (names_pa k en hn).2 (of_decide_eq_true h2)
            · cases h
          · cases h
        · cases h
      · cases h
    · cases h
  · split at h
    · rename_i y p2
      split at h
      · rename_i ty ety
        split at h
        · rename_i fy
          obtain ⟨m', e1, rfl⟩ := mapS h
          obtain ⟨a1, a2, a3⟩ := k.fr fy
          have ny : bootBuiltins y = some (.type ty.nm) ∧ y ≠ "__name__" := by
            unfold tyName at ety
            split at ety
            · rename_i e; subst e; cases ety; exact ⟨by decide +kernel, by decide⟩
            · split at ety
              · rename_i e; subst e; cases ety; exact ⟨by decide +kernel, by decide⟩
              · split at ety
                · rename_i e; subst e; cases ety; exact ⟨by decide +kernel, by decide⟩
                · split at ety
                  · rename_i e; subst e; cases ety; exact ⟨by decide +kernel, by decide⟩
                  · split at ety
                    · rename_i e; subst e; cases ety; exact ⟨by decide +kernel, by decide⟩
                    · cases ety
          exact pe3_isT (R.E _ _ e1).2 g1 g3 a1 a3 ny.1 ny.2 a2 (star1 hs)
        · cases h
      · split at h
        · rename_i hy
          obtain ⟨m', e1, rfl⟩ := mapS h
          obtain ⟨a1, a2⟩ := k.gl hy.2
          obtain ⟨b1, b2⟩ := k.ocl y hy.1
          exact pe3_isO (R.E _ _ e1).2 g1 g3 a1 b2 b1 a2 (star1 hs)
        · cases h
    · cases h
  · cases h
theorem bi_ok (hc : X.calm = true) {x : Str} {f : FA} (h : biF x = some f) : ∃ (v : Value) (rr : List V → Hp → VK → Prop), bootBuiltins x = some v ∧ ((∃ id, v = .builtin id) ∨ ∃ T, v = .type T) ∧ CallR X v rr ∧ RepA X.K rr f ∧ x ≠ "__name__" := by
  unfold biF at h
  split at h
  · rename_i e; subst e; cases h; exact ⟨_, _, by decide +kernel, .inr ⟨_, rfl⟩, CallR.or call_int1 call_int_str, repA_int, by decide⟩
  · split at h
    · rename_i e; subst e; cases h; exact ⟨_, _, by decide +kernel, .inl ⟨_, rfl⟩, call_abs, repA_abs, by decide⟩
    · split at h
      · rename_i e; subst e; cases h; exact ⟨_, _, by decide +kernel, .inl ⟨_, rfl⟩, call_max2 hc, repA_I2, by decide⟩
      · split at h
        · rename_i e; subst e; cases h; exact ⟨_, _, by decide +kernel, .inl ⟨_, rfl⟩, call_min2 hc, repA_I2, by decide⟩
        · split at h
          · rename_i e; subst e; cases h; exact ⟨_, _, by decide +kernel, .inl ⟨_, rfl⟩, call_len, repA_len, by decide⟩
          · cases h
theorem call_ok (k : Ctx c X W) (R : RecOk X W (r c)) {x : Str} {es : List Expr} {m : ME} {p : Pos} (h : cCall c r x es = some m) : PE X (.Call (.Name x p) es [] pos) (r3E X.K W m) := by
  unfold cCall at h
  split at h
  · rename_i hg
    obtain ⟨hg, hne⟩ := hg
    obtain ⟨g1, g2⟩ := k.gl hg
    obtain ⟨e, es, rfl⟩ : ∃ e es', es = e :: es' := by
      cases es with
      | nil => exact absurd rfl hne
      | cons e es => exact ⟨e, es, rfl⟩
    have stars : (((e :: es).all fun e => !isStar e) = true) → isStar e = false ∧ (es.all fun e => !isStar e) = true := fun h => by
      rw [List.all_cons, Bool.and_eq_true] at h
      exact ⟨by simpa using h.1, h.2⟩
    split at h
    · rename_i n S e1
      split at h
      · rename_i hl
        obtain ⟨ms, e2, rfl⟩ := mapS h
        obtain ⟨h1, h2⟩ := R.A _ _ e2
        obtain ⟨h3, h4⟩ := stars h1
        exact pe3_call (k.fns x n S e1) k.tk g1 h2 g2 (star1 h3) (starAny h4)
      · cases h
    · split at h
      · rename_i y n S ex e1
        obtain ⟨ms, e2, rfl⟩ := mapS h
        obtain ⟨h1, h2⟩ := R.A _ _ e2
        obtain ⟨h3, h4⟩ := stars h1
        have hmem := List.mem_of_find?_eq_some e1
        have hp := List.find?_some e1
        have hy : y = x := by
          have := (Bool.and_eq_true_iff.mp hp).1
          simpa using this
        subst hy
        exact pe3_make (k.mks _ hmem) k.tk g1 h2 g2 (star1 h3) (starAny h4)
      · split at h
        · rename_i hi
          split at h
          · rename_i e0 t0 hes
            cases hes
            split at h
            · cases h
            · rename_i hst
              exact isi_ok k R hi.1 hi.2 (by simpa using hst) h
          · cases h
        · split at h
          · rename_i hgc
            obtain ⟨ms, e2, rfl⟩ := mapS h
            obtain ⟨rfl, hgc⟩ := hgc
            obtain ⟨h1, h2⟩ := R.A _ _ e2
            obtain ⟨h3, h4⟩ := stars h1
            exact peW (pe_callBfun cr_gcd g1 (k.gcd hgc) h2 g2 (star1 h3) (starAny h4)) fun σ H Q h => cb3 repA_I2 h
          · split at h
            · rename_i hcf
              obtain ⟨hc, hfr⟩ := hcf
              obtain ⟨_, _, hm⟩ := k.fr hfr
              split at h
              · rename_i f ef
                obtain ⟨ms, e2, rfl⟩ := mapS h
                obtain ⟨h1, h2⟩ := R.A _ _ e2
                obtain ⟨h3, h4⟩ := stars h1
                obtain ⟨v, rr, b1, b2, b3, b4, b5⟩ := bi_ok (k.calm hc).1 ef
                rcases b2 with ⟨id, rfl⟩ | ⟨T, rfl⟩
                · exact peW (pe_callB b3 g1 hm b1 h2 b5 g2 (star1 h3) (starAny h4)) fun σ H Q h => cb3 b4 h
                · exact peW (pe_callTy b3 g1 hm b1 h2 b5 g2 (star1 h3) (starAny h4)) fun σ H Q h => cb3 b4 h
              · cases h
            · cases h
  · cases h
theorem lm2 {op op' : CmpOp} {b d : Expr} (h : isSet d = false) : lastMarks [op, op'] [b, d] = false := behind0 h
theorem stepE_ok (k : Ctx c X W) (R : RecOk X W (r c)) {e : Expr} {m : ME} (h : stepE c r e = some m) : isStar e = false ∧ PE X e (r3E X.K W m) := by
  unfold stepE at h
  split at h
  · exact ⟨rfl, name_ok k h⟩
  · exact ⟨rfl, const_ok h⟩
  · split at h
    · rename_i f ma mb e1 e2 e3
      cases h
      obtain ⟨rr, h1, h2⟩ := binF_ok k e1
      exact ⟨rfl, pe3_op h1 h2 (R.E _ _ e2).2 (R.E _ _ e3).2⟩
    · cases h
  · obtain ⟨ma, e1, rfl⟩ := mapS h
    exact ⟨rfl, pe3_un un_neg rep_neg (R.E _ _ e1).2⟩
  · obtain ⟨ma, e1, rfl⟩ := mapS h
    exact ⟨rfl, pe3_not (R.E _ _ e1).2⟩
  · split at h
    · rename_i f ma mb e1 e2 e3
      split at h
      · cases h
      · rename_i hs
        cases h
        obtain ⟨rr, h1, h2⟩ := cmpF_ok k e1
        exact ⟨rfl, pe3_cmp h1 h2 (R.E _ _ e2).2 (R.E _ _ e3).2 (behind0 (by simpa using hs))⟩
    · cases h
  · split at h
    · rename_i f g ma mb md e1 e2 e3 e4 e5
      split at h
      · cases h
      · rename_i hs
        cases h
        simp only [Bool.or_eq_true, not_or, Bool.not_eq_true] at hs
        obtain ⟨rr, h1, h2⟩ := cmpF_ok k e1
        obtain ⟨rr', h1', h2'⟩ := cmpF_ok k e2
        exact ⟨rfl, pe3_chain (pe_chain h1 h1' (R.E _ _ e3).2 (R.E _ _ e4).2 (R.E _ _ e5).2 (lm2 hs.2)) h2 h2'⟩
    · cases h
  · exact ⟨rfl, pe_one (R.E _ _ h).2⟩
  · split at h
    · rename_i ma mb e1 e2
      cases h
      exact ⟨rfl, pe3_and (R.E _ _ e1).2 (R.E _ _ e2).2⟩
    · cases h
  · split at h
    · rename_i ma mb e1 e2
      cases h
      exact ⟨rfl, pe3_or (R.E _ _ e1).2 (R.E _ _ e2).2⟩
    · cases h
  · split at h
    · rename_i t ma mb e1 e2 e3
      cases h
      exact ⟨rfl, pe3_if (R.T _ _ e1) (R.E _ _ e2).2 (R.E _ _ e3).2⟩
    · cases h
  · obtain ⟨ms, e1, rfl⟩ := mapS h
    exact ⟨rfl, pe3_tup (R.A _ _ e1).2⟩
  · obtain ⟨ms, e1, rfl⟩ := mapS h
    exact ⟨rfl, pe3_lst (R.A _ _ e1).2⟩
  · obtain ⟨ma, e1, rfl⟩ := mapS h
    exact ⟨rfl, pe3_slice (R.E _ _ e1).2 po3_none po3_none⟩
  · split at h
    · rename_i ma ml e1 e2
      cases h
      exact ⟨rfl, pe3_slice (R.E _ _ e1).2 (po3_some (R.E _ _ e2).2) po3_none⟩
    · cases h
  · split at h
    · rename_i ma ml e1 e2
      cases h
      exact ⟨rfl, pe3_slice (R.E _ _ e1).2 po3_none (po3_some (R.E _ _ e2).2)⟩
    · cases h
  · split at h
    · rename_i ma ml mh e1 e2 e3
      cases h
      exact ⟨rfl, pe3_slice (R.E _ _ e1).2 (po3_some (R.E _ _ e2).2) (po3_some (R.E _ _ e3).2)⟩
    · cases h
  · split at h
    · cases h
    · rename_i hsl
      split at h
      · rename_i ma mb e1 e2
        cases h
        exact ⟨rfl, pe3_ix (R.E _ _ e1).2 (R.E _ _ e2).2 (plainIx (by simpa using hsl))⟩
      · cases h
  · split at h
    · rename_i hb
      obtain ⟨ma, e1, rfl⟩ := mapS h
      exact ⟨rfl, pe3_fld k.tab (R.E _ _ e1).2 (base1 hb)⟩
    · cases h
  · exact ⟨rfl, call_ok k R h⟩
  · split at h
    · rename_i hg
      obtain ⟨g1, g2⟩ := k.gl hg
      split at h
      · rename_i y n kw' S ms m e1 e2 e3
        cases h
        obtain ⟨h1, h2⟩ := R.A _ _ e2
        have hmem := List.mem_of_find?_eq_some e1
        have hp := List.find?_some e1
        obtain ⟨q1, q2⟩ := Bool.and_eq_true_iff.mp hp
        obtain ⟨q2, q3⟩ := Bool.and_eq_true_iff.mp q2
        simp only [beq_iff_eq] at q1 q3
        subst q1 q3
        have hs := h1
        rw [List.all_cons, Bool.and_eq_true] at hs
        exact ⟨rfl, pe3_makeK (k.mkw _ hmem) k.tk g1 h2 (R.E _ _ e3).2 g2 (star1 (by simpa using hs.1)) (starAny h1)⟩
      · cases h
    · cases h
  · cases h
end
end L3

namespace L3
open PySem PySem.Spec PyProof.Rows L2
section
variable {c : CI} {X : Cx} {W : WX} {r : CI → Rec} {pos : Pos}
theorem stepT_ok (k : Ctx c X W) (R : RecOk X W (r c)) {e : Expr} {m : MT} (h : stepT c r e = some m) : PT X e (r3T X.K W m) := by
  unfold stepT at h
  split at h
  · obtain ⟨ma, e1, rfl⟩ := mapS h
    exact pt3_not (R.T _ _ e1)
  · exact (R.V _ _ _ h _).pt
  · split at h
    · rename_i f ma mb e1 e2 e3
      split at h
      · cases h
      · rename_i hs
        cases h
        obtain ⟨rr, h1, h2⟩ := cmpF_ok k e1
        exact pt3_cmp h1 h2 (R.E _ _ e2).2 (R.E _ _ e3).2 (behind0 (by simpa using hs))
    · cases h
  · split at h
    · rename_i f g ma mb md e1 e2 e3 e4 e5
      split at h
      · cases h
      · rename_i hs
        cases h
        simp only [Bool.or_eq_true, not_or, Bool.not_eq_true] at hs
        obtain ⟨rr, h1, h2⟩ := cmpF_ok k e1
        obtain ⟨rr', h1', h2'⟩ := cmpF_ok k e2
        exact pt3_chain (pt_chain h1 h1' (R.E _ _ e3).2 (R.E _ _ e4).2 (R.E _ _ e5).2 (lm2 hs.2)) h2 h2'
    · cases h
  · obtain ⟨ma, e1, rfl⟩ := mapS h
    exact pt3_tru (R.E _ _ e1).2 fun _ => rfl
  · obtain ⟨ma, e1, rfl⟩ := mapS h
    exact pt3_tru (R.E _ _ e1).2 fun _ => rfl
  · obtain ⟨ma, e1, rfl⟩ := mapS h
    exact pt3_tru (R.E _ _ e1).2 fun _ => rfl
  · obtain ⟨ma, e1, rfl⟩ := mapS h
    exact pt3_tru (R.E _ _ e1).2 fun _ => rfl
  · cases h
theorem stepV_ok (R : RecOk X W (r c)) {op : BoolOp} {es : List Expr} {m : MT} (h : stepV c r op es = some m) : PW X (.BoolOp op es pos) (r3T X.K W m) := by
  unfold stepV at h
  split at h
  · cases op with
    | And => exact pw3_and1 (R.T _ _ h)
    | Or => exact pw3_or1 (R.T _ _ h)
  · split at h
    · rename_i ta tb e1 e2
      cases h
      exact pw3_and (R.T _ _ e1) (R.V _ _ _ e2 _)
    · cases h
  · split at h
    · rename_i ta tb e1 e2
      cases h
      exact pw3_or (R.T _ _ e1) (R.V _ _ _ e2 _)
    · cases h
  · cases h
theorem stepA_ok (R : RecOk X W (r c)) {es : List Expr} {m : MA} (h : stepA c r es = some m) : (es.all fun e => !isStar e) = true ∧ PA X es (r3A X.K W m) := by
  unfold stepA at h
  split at h
  · cases h
    exact ⟨rfl, pa3_nil⟩
  · split at h
    · cases h
    · rename_i hs
      split at h
      · rename_i ma mr e1 e2
        cases h
        obtain ⟨a1, a2⟩ := R.A _ _ e2
        have hs' := (R.E _ _ e1).1
        exact ⟨by rw [List.all_cons, hs', a1]; rfl, pa3_cons (R.E _ _ e1).2 a2 (star1 hs')⟩
      · cases h
theorem stepG_ok (k : Ctx c X W) (R : RecOk X W (r c)) {e : Expr} {m : MG} (h : stepG c r e = some m) : isStar e = false ∧ PG X e (r3G X.K W m) := by
  unfold stepG at h
  split at h
  · split at h
    · rename_i i e1
      split at h
      · rename_i hl
        cases h
        obtain ⟨ha, hl⟩ := Bool.and_eq_true_iff.mp hl
        exact ⟨rfl, pg3_name (pg_name k.nd (by rw [k.hN]; exact idx_ok e1) (k.loc hl) (k.fn ha _ hl))⟩
      · cases h
    · cases h
  · split at h
    · rename_i hc
      obtain ⟨hc, hs⟩ := Bool.and_eq_true_iff.mp hc
      obtain ⟨u, e1, rfl⟩ := mapS h
      obtain ⟨a1, a2⟩ := R.Gs _ _ e1
      obtain ⟨b1, b2⟩ := asgAll (env := X.env) a1
      exact ⟨rfl, pg3_tup (k.calm hc).1 a2 b1 b2⟩
    · cases h
  · split at h
    · cases h
    · rename_i hs
      split at h
      · rename_i mo mi e1 e2
        cases h
        exact ⟨rfl, pg3_ix (R.E _ _ e1).2 (R.E _ _ e2).2 (asgSub (by simpa using hs))⟩
      · cases h
  · cases h
theorem stepGs_ok (R : RecOk X W (r c)) {es : List Expr} {m : MGs} (h : stepGs c r es = some m) : (es.all fun e => !isStar e) = true ∧ PGs X es (r3Gs X.K W m) := by
  unfold stepGs at h
  split at h
  · cases h
    exact ⟨rfl, pgs3_nil⟩
  · split at h
    · cases h
    · split at h
      · rename_i g u e1 e2
        cases h
        obtain ⟨a1, a2⟩ := R.Gs _ _ e2
        obtain ⟨b1, b2⟩ := R.G _ _ e1
        exact ⟨by rw [List.all_cons, b1, a1]; rfl, pgs3_cons b2 a2 (asgC b1)⟩
      · cases h
theorem stepSs_ok (R : RecOk X W (r c)) {sts : List Stmt} {m : MS} (h : stepSs c r sts = some m) : PSs X sts (r3S X.K W m) := by
  unfold stepSs at h
  split at h
  · cases h
    exact pss3_nil
  · exact pss3_one (R.S _ _ h)
  · split at h
    · rename_i a b e1 e2
      cases h
      exact pss3_cons (R.S _ _ e1) (R.Ss _ _ e2)
    · cases h
theorem notT {b : Bool} (h : (!b) = true) : b = false := by
  cases b with
  | true => cases h
  | false => rfl
theorem sw_fold {ts vs : List Expr} {k1 k2 : Nat} {p1 p2 : Pos} {env : Env} (h : vs.all (foldedForSure 8) = true) : swappedStores [.Tuple ts k1 p1] (.Tuple vs k2 p2) env = pure none := by
  unfold swappedStores
  simp only [h, if_true]
  split
  · rfl
  · split
    · rfl
    · split
      · rfl
      · rfl
theorem par_ok (k : Ctx c X W) {x y : Str} {px py pt : Pos} {a b : Expr} {kt k2 : Nat} {pt2 : Pos} (h : parOk c x y px py a b = true) :
    x ≠ y ∧ c.sc.names.lookup x = some .local ∧ c.sc.names.lookup y = some .local ∧ isStar a = false ∧ isStar b = false ∧ swappedStores [.Tuple [.Name x px, .Name y py] kt pt] (.Tuple [a, b] k2 pt2) X.env = pure (some [x, y]) := by
  unfold parOk at h
  obtain ⟨h1, h⟩ := Bool.and_eq_true_iff.mp h
  obtain ⟨h2, h⟩ := Bool.and_eq_true_iff.mp h
  obtain ⟨h3, h⟩ := Bool.and_eq_true_iff.mp h
  obtain ⟨h4, h⟩ := Bool.and_eq_true_iff.mp h
  obtain ⟨h5, h⟩ := Bool.and_eq_true_iff.mp h
  obtain ⟨h6, h⟩ := Bool.and_eq_true_iff.mp h
  obtain ⟨h7, h8⟩ := Bool.and_eq_true_iff.mp h
  have h1 := of_decide_eq_true h1
  have h2 := of_decide_eq_true h2
  have h3 := of_decide_eq_true h3
  have h4 := of_decide_eq_true h4
  have h7 : isStar a = false := by simpa using h7
  have h8 : isStar b = false := by simpa using h8
  have h5 : [a, b].all (foldedForSure 8) = false := notT h5
  have h6 : [a, b].all (constantsAlone 8) = false := notT h6
  refine ⟨h2, h3, h4, h7, h8, ?_⟩
  have kx : X.env.kindOf x = some .local := by
    show X.env.scope.names.lookup x = _
    rw [k.sc]; exact h3
  have ky : X.env.kindOf y = some .local := by
    show X.env.scope.names.lookup y = _
    rw [k.sc]; exact h4
  have bk : X.env.blockKind = .function := by
    unfold Env.blockKind
    rw [k.sc, k.kind]
    rfl
  have st : ∀ f : Expr → Bool, (∀ e, isStar e = false → f e = false) → [a, b].any f = false := fun f hf => by
    rw [List.any_cons, List.any_cons, List.any_nil, hf a h7, hf b h8]
    rfl
  have yx : (y == x) = false := by simpa using h2.symm
  unfold swappedStores
  simp only [pure_bind, bk, List.length_cons, List.length_nil, h5, h6]
  rw [st _ (by intro e he; cases e <;> first | rfl | cases he)]
  have e2 : [x, y].eraseDups = [x, y] := by simp [List.eraseDups_cons, yx]
  simp only [List.filterMap_cons, List.filterMap_nil, List.head?_cons, Option.map_some, Option.getD_some, Expr.pos, kx, ky, h1, beq_self_eq_true, Bool.and_self, if_true, e2]
  rfl
theorem Ctx.toTry (k : Ctx c X W) {W' : WX} {pn : List (Addr × Obj)} {xe : Value → Shared → Prop} (tk : Takes (X.tr pn xe) W') (po : PassesOwn (model X.prog X.w) X.A X.env xe) (he : c.exc = none) : Ctx c (X.tr pn xe) W' where
  hN := k.hN
  nd := k.nd
  sc := k.sc
  kind := k.kind
  fn := k.fn
  calm := k.calm
  tk := tk
  po := po
  top := k.top
  fns := fun x n S h => ⟨(k.fns x n S h).ex⟩
  mks := fun q h => ⟨(k.mks q h).ex⟩
  mkw := fun q h => ⟨(k.mkw q h).ex⟩
  mth := fun m C n S h => ⟨(k.mth m C n S h).ex⟩
  cst := k.cst
  sts := fun m C n S h => ⟨(k.sts m C n S h).ex⟩
  stro := fun C S h => ⟨(k.stro C S h).ex⟩
  tab := k.tab
  ocl := k.ocl
  exs := k.exs
  exg := k.exg
  exa := k.exa
  exb := k.exb
  free := k.free
  own := fun o h => ⟨fun op S e => ⟨((k.own o h).1 op S e).ex⟩, ⟨(k.own o h).2.1.ex⟩, (k.own o h).2.2⟩
  gcd := k.gcd
  exc := fun i C a h => by rw [he] at h; cases h
theorem Ctx.toSuite (k : Ctx c X W) {i : Nat} {C : Str} {a : Addr} {oe : Obj} {pn : List (Addr × Obj)} (hC : C ∈ c.exs) (hz : Zc (.ref (He.ga X.K C)) none oe) (hf : ∃ vs, oe.data = .fields vs) : Ctx (sfx c i C a) (X.suite a ((a, oe) :: pn)) (fun _ _ _ _ => False) where
  hN := k.hN
  nd := k.nd
  sc := k.sc
  kind := k.kind
  fn := k.fn
  calm := fun h => nomatch (show false = true from h)
  tk := takes0
  po := PassesOwn.never
  top := fun h => nomatch (show false = true from h)
  fns := fun x n S h => nomatch h
  mks := fun q h => nomatch h
  mkw := fun q h => nomatch h
  mth := fun m C n S h => nomatch h
  cst := k.cst
  sts := fun m C n S h => nomatch h
  stro := fun C S h => nomatch h
  tab := k.tab
  ocl := k.ocl
  exs := k.exs
  exg := k.exg
  exa := k.exa
  exb := k.exb
  free := k.free
  own := fun o h => nomatch h
  gcd := k.gcd
  exc := fun i' C' a' h => by
    cases h
    exact ⟨X, oe, pn, rfl, hC, hz, hf⟩
/-- one step, given the rest for every context -/
structure Alls (r : CI → Rec) : Prop where
  ok : ∀ c X W, Ctx c X W → RecOk X W (r c)
theorem sui_ok {X : Cx} {W : WX} {fs : List (Str × D)} {o : Option MS} {sts : List Stmt} (h : fs = [] → ∀ m, o = some m → PSs X sts (r3S X.K W m)) : PSs X sts (r3S X.K W (sui fs o)) := by
  refine ⟨fun pins s σ H E I ⟨Γ, O, H0, P, env, st, hm, l⟩ => ?_⟩
  obtain ⟨hf, hm⟩ := hm
  cases o with
  | none => exact hm.elim
  | some m => exact (h hf m rfl).run pins s σ H E I ⟨Γ, O, H0, P, env, st, hm, l⟩
theorem relS_loc {scope sc : Scope} {x : Str} : (relS scope sc).names.lookup x = some .local → scope.names.lookup x = some .local := fun h => by
  obtain ⟨k', e, q⟩ := lookup_relS h
  rcases q with rfl | ⟨_, q⟩
  · exact e
  · cases q
/-- the context of a comprehension's block -/
theorem Ctx.toBlk (k : Ctx c X W) {scope : Scope} {own : List (Str × Nat)} (ok : BlkOk X.N X.env.scope scope own) (hne : c.exc = none) (s : Shared) (H : Hp) (C : Addr) (cl : List (Str × Addr)) (fp : List Addr) :
    Ctx (blkI c scope) (X.blk s H scope (compEnvC scope cl C X.env) fp) (fun _ _ _ _ => False) where
  hN := k.hN
  nd := k.nd
  sc := by
    show relS scope X.env.scope = relS scope c.sc
    rw [k.sc]
  kind := ok.kind
  fn := fun h => nomatch (show false = true from h)
  calm := k.calm
  tk := takes0
  po := PassesOwn.never
  top := fun h => nomatch (show false = true from h)
  fns := fun x n S h => ⟨(k.fns x n S h).ex⟩
  mks := fun q h => ⟨(k.mks q h).ex⟩
  mkw := fun q h => ⟨(k.mkw q h).ex⟩
  mth := fun m C n S h => ⟨(k.mth m C n S h).ex⟩
  cst := k.cst
  sts := fun m C n S h => ⟨(k.sts m C n S h).ex⟩
  stro := fun C S h => ⟨(k.stro C S h).ex⟩
  tab := k.tab
  ocl := k.ocl
  exs := k.exs
  exg := k.exg
  exa := k.exa
  exb := k.exb
  free := k.free
  own := fun o h => ⟨fun op S e => ⟨((k.own o h).1 op S e).ex⟩, ⟨(k.own o h).2.1.ex⟩, (k.own o h).2.2⟩
  gcd := k.gcd
  exc := fun i C a h => by
    have h2 : c.exc = some (i, C, a) := h
    rw [hne] at h2
    cases h2
theorem tgNs_ok {N : List Str} {sc : Scope} {Y : Cx} (hN : Y.N = c.N) (nd : Y.N.Nodup) (hsc : Y.env.scope = sc) : ∀ {es : List Expr} {own : List (Str × Nat)}, cTgNs c sc es = some own → (es.all fun e => !isStar e) = true ∧ own.length = es.length ∧ PGs Y es (gNs (own.map (·.2)))
  | [], own, h => by
    cases h
    exact ⟨rfl, rfl, pgs_nil⟩
  | e :: es, own, h => by
    cases e with
    | Name x p =>
      have h2 : (match idx c.N x, cTgNs c sc es with
        | some i, some r => if sc.names.lookup x = some .local then some ((x, i) :: r) else none
        | _, _ => none) = some own := h
      split at h2
      · rename_i i r e1 e2
        split at h2
        · rename_i hl
          cases h2
          obtain ⟨a1, a2, a3⟩ := tgNs_ok (N := N) hN nd hsc e2
          have hl2 : Y.env.scope.names.lookup x = some .local := by rw [hsc]; exact hl
          exact ⟨by rw [List.all_cons, a1]; rfl, by simp [a2], pgs_cons (pg_name nd (by rw [hN]; exact idx_ok e1) (.inl hl2) (.inr hl2)) a3 (asgC rfl)⟩
        · cases h2
      · cases h2
    | _ => cases h
theorem tgN_pg {sc : Scope} {Y : Cx} (hc : Y.calm = true) (hN : Y.N = c.N) (nd : Y.N.Nodup) (hsc : Y.env.scope = sc) {tg : Expr} {own : List (Str × Nat)} {tn : TgN} (h : cTgN c sc tg = some (own, tn)) : tn.vs = own.map (·.2) ∧ PG Y tg (tn.g Y.K) := by
  unfold cTgN at h
  split at h
  · split at h
    · rename_i i e1
      split at h
      · rename_i hl
        cases h
        have hl2 := hl
        rw [← hsc] at hl2
        exact ⟨rfl, pg_name nd (by rw [hN]; exact idx_ok e1) (.inl hl2) (.inr hl2)⟩
      · cases h
    · cases h
  · obtain ⟨ps, e1, e2⟩ := mapS h
    cases e2
    obtain ⟨a1, a2, a3⟩ := tgNs_ok (N := c.N) hN nd hsc e1
    obtain ⟨b1, b2⟩ := asgAll (env := Y.env) a1
    refine ⟨rfl, ?_⟩
    show PG Y _ (gTup Y.K (own.map (·.2)).length (gNs (own.map (·.2))))
    exact pg_tup hc a3 (by rw [b1, List.length_map, a2]) b2
  · cases h
theorem ifs_ok {Y : Cx} {R : Rec} (h0 : RecOk Y (fun _ _ _ _ => False) R) {ifs : List Expr} {t : MT} (h : cIfs R ifs = some t) : PTs Y ifs (r3T Y.K (fun _ _ _ _ => False) t) := by
  unfold cIfs at h
  split at h
  · cases h
    exact ⟨fun pins s σ H Q I ⟨Γ, O, H0, Z, P, env, st, hm, lx, lv⟩ => (pts_nil (X := Y)).run pins s σ H Q I (lv H0 true O H (Same.refl _) st hm)⟩
  · exact pts_one (h0.T _ _ h)
  · cases h
structure CompOk (c : CI) (X : Cx) (W : WX) (elt tg iter : Expr) (ifs : List Expr) (scope : Scope) (m : ME) : Prop where
  ex : ∃ mi tn t e own, m = mComp mi tn t e ∧ X.calm = true ∧ PE X iter (r3E X.K W mi) ∧ BlkOk X.N X.env.scope scope own ∧ tn.vs = own.map (·.2) ∧
    (∀ (s : Shared) (H : Hp) (C : Addr) (cl : List (Str × Addr)) (fp : List Addr), PG (X.blk s H scope (compEnvC scope cl C X.env) fp) tg (tn.g X.K)) ∧
    (∀ (s : Shared) (H : Hp) (C : Addr) (cl : List (Str × Addr)) (fp : List Addr), PTs (X.blk s H scope (compEnvC scope cl C X.env) fp) ifs (r3T X.K (fun _ _ _ _ => False) t)) ∧
    (∀ (s : Shared) (H : Hp) (C : Addr) (cl : List (Str × Addr)) (fp : List Addr), PE (X.blk s H scope (compEnvC scope cl C X.env) fp) elt (r3E X.K (fun _ _ _ _ => False) e)) ∧ ∀ x, foldedSetIterable iter X.env x = pure x
theorem cComp_ok {r : CI → Rec} (A : Alls r) (k : Ctx c X W) {elt tg iter : Expr} {ifs : List Expr} {scope : Scope} {m : ME} (h : cComp c r elt tg iter ifs scope = some m) : CompOk c X W elt tg iter ifs scope m := by
  unfold cComp at h
  split at h
  · rename_i own tn e1
    split at h
    · rename_i hc
      obtain ⟨hc, h2⟩ := Bool.and_eq_true_iff.mp hc
      obtain ⟨hx, h2⟩ := Bool.and_eq_true_iff.mp h2
      obtain ⟨hb, hs⟩ := Bool.and_eq_true_iff.mp h2
      have hne : c.exc = none := by
        cases q : c.exc with
        | none => rfl
        | some z => rw [q] at hx; cases hx
      have ok : BlkOk X.N X.env.scope scope own := by
        rw [k.hN, k.sc]
        exact blkOk_by hb
      have hcalm := (k.calm hc).1
      split at h
      · rename_i mi t e e2 e3 e4
        cases h
        have cb := fun s H C cl fp => k.toBlk ok hne s H C cl fp
        have rb := fun s H C cl fp => A.ok _ _ _ (cb s H C cl fp)
        have g := fun s H C cl fp => tgN_pg (c := c) (sc := relS scope c.sc) (Y := X.blk s H scope (compEnvC scope cl C X.env) fp) hcalm k.hN k.nd (by show relS scope X.env.scope = _; rw [k.sc]) e1
        exact ⟨mi, tn, t, e, own, rfl, hcalm, ((A.ok _ _ _ k).E _ _ e2).2, ok, (g X.s_0 X.H_0 0 [] []).1, fun s H C cl fp => (g s H C cl fp).2, fun s H C cl fp => ifs_ok (rb s H C cl fp) e3, fun s H C cl fp => ((rb s H C cl fp).E _ _ e4).2, fold1 (by simpa using hs)⟩
      · cases h
    · cases h
  · cases h
theorem few_ok {o : Expr} {pos : Pos} {env : Env} {es : List Expr} (h : (es.all fun e => !isStar e) = true) : (backTo pos (starEach es env)).all (fun x => !x.1) = true := by
  induction es with
  | nil => rfl
  | cons e es ih =>
    rw [List.all_cons, Bool.and_eq_true] at h
    have h1 : isStar e = false := by simpa using h.1
    rw [star1 h1]
    show (!false && (backTo pos (starEach es env)).all (fun x => !x.1)) = true
    rw [ih h.2]
    rfl
theorem parts_ok {r : Rec} (R : RecOk X W r) : ∀ {es : List Expr} {ms : List ME}, cParts r es = some ms → PJ X es (ms.map (r3E X.K W))
  | [], ms, h => by
    cases h
    exact .nil
  | e :: es, ms, h => by
    have h2 : (match r.E e, cParts r es with
      | some m, some ms => some (m :: ms)
      | _, _ => none) = some ms := h
    split at h2
    · rename_i m ms' e1 e2
      cases h2
      exact .cons (R.E _ _ e1).2 (parts_ok R e2)
    · cases h2
theorem stepC_ok {r : CI → Rec} (A : Alls r) (k : Ctx c X W) {e : Expr} {m : ME} (h : stepC c r e = some m) : isStar e = false ∧ PE X e (r3E X.K W m) := by
  have R := A.ok _ _ _ k
  unfold stepC at h
  split at h
  · obtain ⟨mi, tn, t, e, own, rfl, hc, hi, ok, hv, hg, ht, he, hs⟩ := (cComp_ok A k h).ex
    refine ⟨rfl, peW (pe_lc hc k.nd (pi_seq3 hi) ok hg ht he hs) fun σ H Q q => ?_⟩
    rw [← hv]
    exact lc3 q
  · rename_i o m' apos e es pos
    split at h
    · rename_i hb
      obtain ⟨hb0, h2⟩ := Bool.and_eq_true_iff.mp hb
      obtain ⟨hl, hp⟩ := Bool.and_eq_true_iff.mp h2
      have hl := of_decide_eq_true hl
      refine ⟨rfl, ?_⟩
      have stars : ∀ {ms : MA}, (r c).A (e :: es) = some ms → isStar e = false ∧ (es.all fun e => !isStar e) = true := fun hA => by
        have h := (R.A _ _ hA).1
        rw [List.all_cons, Bool.and_eq_true] at h
        exact ⟨by simpa using h.1, h.2⟩
      have tree : ∀ {ms : MA}, (r c).A (e :: es) = some ms → methodCallForm ((e :: es).length + 0) (backTo pos (starEach (e :: es) X.env)) (backToKw pos (keywordEach [] X.env)) = true := fun hA => by
        unfold methodCallForm
        rw [few_ok (o := o) (R.A _ _ hA).1]
        show (true && true && decide ((e :: es).length + 0 + 0 < 30)) = true
        simp
        omega
      split at h
      · rename_i C n S e1
        split at h
        · rename_i hg
          obtain ⟨ms, e3, rfl⟩ := mapS h
          obtain ⟨s1, s2⟩ := stars e3
          unfold isGlobal at hg
          split at hg
          · obtain ⟨hy0, hg1⟩ := Bool.and_eq_true_iff.mp hg
            obtain ⟨_, hg2⟩ := Bool.and_eq_true_iff.mp hg1
            have hy := of_decide_eq_true hy0
            subst hy
            obtain ⟨g1, g2⟩ := k.gl hg2
            exact pe3_statC (k.sts _ _ _ _ e1) k.tk g1 g2 (R.A _ _ e3).2 (star1 s1) (starAny s2) (mcall_tree (base1 hb0) (tree e3) hp)
          · cases hg
        · split at h
          · rename_i mo ms e2 e3
            cases h
            obtain ⟨s1, s2⟩ := stars e3
            exact pe3_statI (k.sts _ _ _ _ e1) k.tk (R.E _ _ e2).2 (R.A _ _ e3).2 (star1 s1) (starAny s2) (mcall_tree (base1 hb0) (tree e3) hp)
          · cases h
      split at h
      · rename_i C n S e1
        split at h
        · rename_i mo ms e2 e3
          cases h
          obtain ⟨s1, s2⟩ := stars e3
          refine pe3_meth (k.mth _ _ _ _ e1) k.tk (R.E _ _ e2).2 (R.A _ _ e3).2 (star1 s1) (starAny s2) (mcall_tree (base1 hb0) ?_ hp)
          unfold methodCallForm
          rw [few_ok (o := o) (R.A _ _ e3).1]
          show (true && true && decide ((e :: es).length + 0 + 0 < 30)) = true
          simp
          omega
        · cases h
      · split at h
        · rename_i hm
          obtain ⟨rfl, rfl⟩ := hm
          split at h
          · rename_i mo ms e2 e3
            cases h
            obtain ⟨s1, s2⟩ := stars e3
            refine pe3_app (pe_bm PySem.F.plainAttrs_list PySem.F.slot_list_append PySem.F.type_list_append mt_append (R.E _ _ e2).2 (R.A _ _ e3).2 (base1 hb0) ?_ hp (star1 s1) (starAny s2))
            rw [few_ok (o := o) (R.A _ _ e3).1]
            rfl
          · cases h
        · split at h
          · rename_i hes
            subst hes
            split at h
            · rename_i f mo ms e1 e2 e3
              cases h
              obtain ⟨s1, s2⟩ := stars e3
              obtain ⟨id, rr, q1, q2, q3, q4⟩ := sm1_ok (X := X) e1
              refine peW (pe_bm PySem.F.plainAttrs_str q1 q2 q3 (R.E _ _ e2).2 (R.A _ _ e3).2 (base1 hb0) ?_ hp (star1 s1) (starAny s2)) fun σ H Q h => sm3 q4 h
              rw [few_ok (o := o) (R.A _ _ e3).1]
              rfl
            · cases h
          · cases h
    · cases h
  · split at h
    · rename_i hb
      obtain ⟨hb0, hp⟩ := Bool.and_eq_true_iff.mp hb
      split at h
      · rename_i f mo e1 e2
        cases h
        obtain ⟨id, rr, q1, q2, q3, q4⟩ := sm0_ok (X := X) e1
        exact ⟨rfl, peW (pe_bm0 PySem.F.plainAttrs_str q1 q2 q3 (R.E _ _ e2).2 (base1 hb0) hp) fun σ H Q h => sm30 q4 h⟩
      · cases h
    · cases h
  · split at h
    · rename_i hk
      subst hk
      obtain ⟨ma, e1, rfl⟩ := mapS h
      exact ⟨rfl, pe3_fmt (R.E _ _ e1).2⟩
    · cases h
  · obtain ⟨ms, e1, rfl⟩ := mapS h
    exact ⟨rfl, pe3_joined (parts_ok R e1)⟩
  · split at h
    · rename_i hx
      obtain ⟨rfl, hf, hs⟩ := hx
      obtain ⟨ma, e1, rfl⟩ := mapS h
      obtain ⟨g1, g2, g3⟩ := k.fr hf
      exact ⟨rfl, pe3_tupleOf g1 g3 (R.E _ _ e1).2 (star1 hs)⟩
    · split at h
      · rename_i hx
        obtain ⟨rfl, hf, hs⟩ := hx
        obtain ⟨ms, e1, rfl⟩ := mapS h
        obtain ⟨g1, g2, g3⟩ := k.fr hf
        refine ⟨rfl, ?_⟩
        have bt : bootBuiltins ("str" : Str) = some (.type "str") := by decide +kernel
        cases q : c.stro with
        | none => exact peW (pe_callTy (CallR.or call_str_int SkE.call_str_str) g1 g3 bt (R.A _ _ e1).2 (by decide) g2 (star1 hs) rfl) fun σ H Q h => cb3 repA_str h
        | some z =>
          obtain ⟨C, S⟩ := z
          exact peW (pe_callTy (CallR.or (call_strOwn (k.stro C S q)) (CallR.or call_str_int SkE.call_str_str)) g1 g3 bt (R.A _ _ e1).2 (by decide) g2 (star1 hs) rfl) fun σ H Q h => cb3 repA_strO h
      · cases h
  · cases h
theorem stepS_ok (A : Alls r) (k : Ctx c X W) {st : Stmt} {m : MS} (h : stepS c r st = some m) : PS X st (r3S X.K W m) := by
  have R := A.ok c X W k
  unfold stepS at h
  split at h
  · cases h; exact ps3_pass
  · cases h; exact ps3_break
  · cases h; exact ps3_continue
  · cases h; exact ps3_retN
  · obtain ⟨ma, e1, rfl⟩ := mapS h
    exact ps3_ret (R.E _ _ e1).2
  · split at h
    · cases h
    · rename_i hc
      obtain ⟨ma, e1, rfl⟩ := mapS h
      exact ps3_expr (R.E _ _ e1).2 (sw_none (by simpa using hc))
  · split at h
    · rename_i t a b e1 e2 e3
      cases h
      exact ps3_if (R.T _ _ e1) (R.Ss _ _ e2) (R.Ss _ _ e3)
    · cases h
  · split at h
    · rename_i t b e1 e2
      cases h
      exact ps3_while k.po (R.T _ _ e1) (R.Ss _ _ e2)
    · cases h
  · split at h
    · rename_i hc
      have hcalm := (k.calm hc).1
      split at h
      · rename_i x p e kp g b e1 e2
        split at h
        · rename_i hx
          split at h
          · rename_i hf
            subst hx
            obtain ⟨hf, hst⟩ := Bool.and_eq_true_iff.mp hf
            have hst : isStar e = false := by simpa using hst
            obtain ⟨g1, g2, g3⟩ := k.fr hf
            obtain ⟨ms, e3, rfl⟩ := mapS h
            exact ps3_forR1 k.po hcalm g1 g3 (R.A _ _ e3).2 (star1 hst) (R.G _ _ e1).2 (R.Ss _ _ e2)
          · cases h
        · obtain ⟨ma, e3, rfl⟩ := mapS h
          exact ps3_for k.po hcalm (R.E _ _ e3).2 (R.G _ _ e1).2 (R.Ss _ _ e2) (fun _ => rfl)
      · rename_i x p e e' kp g b e1 e2
        split at h
        · rename_i hx
          split at h
          · rename_i hf
            subst hx
            obtain ⟨hf, hst⟩ := Bool.and_eq_true_iff.mp hf
            have hst : isStar e = false ∧ isStar e' = false := by simpa using hst
            obtain ⟨g1, g2, g3⟩ := k.fr hf
            obtain ⟨ms, e3, rfl⟩ := mapS h
            exact ps3_forR2 k.po hcalm g1 g3 (R.A _ _ e3).2 ((star1 hst.1).trans (congrArg _ (star1 hst.2))) (star1 hst.2) (R.G _ _ e1).2 (R.Ss _ _ e2)
          · cases h
        · obtain ⟨ma, e3, rfl⟩ := mapS h
          exact ps3_for k.po hcalm (R.E _ _ e3).2 (R.G _ _ e1).2 (R.Ss _ _ e2) (fun _ => rfl)
      · rename_i it g b _ _ e1 e2
        split at h
        · cases h
        · rename_i hs
          obtain ⟨ma, e3, rfl⟩ := mapS h
          exact ps3_for k.po hcalm (R.E _ _ e3).2 (R.G _ _ e1).2 (R.Ss _ _ e2) (fold1 (by simpa using hs))
      · cases h
    · cases h
  · split at h
    · cases h
    · rename_i hc
      split at h
      · rename_i mo me e1 e2
        cases h
        exact ps3_setA k.tab (R.E _ _ e1).2 (R.E _ _ e2).2 (sw_none (by simpa using hc))
      · cases h
  · split at h
    · rename_i hc
      obtain ⟨hc, hp⟩ := Bool.and_eq_true_iff.mp hc
      obtain ⟨p1, p2, p3, p4, p5, p6⟩ := par_ok k hp
      split at h
      · rename_i i j ms e1 e2 e3
        cases h
        have hi := idx_ok e1
        have hj := idx_ok e2
        have hij : i ≠ j := fun q => p1 (by
          subst q
          rw [hi] at hj
          exact Option.some.inj hj)
        refine ps3_par (ps_par (k.calm hc).1 k.nd (by rw [k.hN]; exact hi) (by rw [k.hN]; exact hj) hij (by rw [k.sc]; exact p2) (by rw [k.sc]; exact p3) (R.A _ _ e3).2 p6)
      · cases h
    · split at h
      · rename_i hfo
        split at h
        · rename_i m' g e1 e2
          cases h
          exact ps3_asg (R.E _ _ e1).2 (R.G _ _ e2).2 rfl (sw_fold hfo) rfl
        · cases h
      · cases h
  · split at h
    · rename_i hc
      obtain ⟨ha, h1⟩ := Bool.and_eq_true_iff.mp hc
      obtain ⟨h1, h2⟩ := Bool.and_eq_true_iff.mp h1
      obtain ⟨h2, h3⟩ := Bool.and_eq_true_iff.mp h2
      have h1 := of_decide_eq_true h1
      split at h
      · rename_i i m' e1 e2
        cases h
        obtain ⟨mi, tn, t, e, own, rfl, hcm, hi, ok, hv, hg, ht, he, hs⟩ := (cComp_ok A k e2).ex
        have hy := h1
        rw [← k.sc] at hy
        refine psW (ps_setLc hcm k.nd (by rw [k.hN]; exact idx_ok e1) hy (sw_true (by rw [k.sc]; exact k.kind) hy h2 (by simpa using h3)) (pi_seq3 hi) ok hg ht he hs) fun E σ H q => ?_
        obtain ⟨Γ, O, H0, P, env, st, hm, l⟩ := q
        show tLc _ _ _ _ (own.map (·.2)) σ H fun x H1 => gName i x σ H1 E.nx
        rw [← hv]
        refine lc3 ⟨Γ, O, H0, _, _, env, st, hm, l.x env, fun H1 v d O1 H' s1 is1 st1 hm1 => ?_⟩
        exact l.nx H1 _ _ O1 H' s1 ((env.mono s1).set is1) st1 hm1
      · cases h
    · cases h
  · split at h
    · cases h
    · rename_i hc
      simp only [Bool.or_eq_true, not_or, Bool.not_eq_true] at hc
      split at h
      · rename_i m' g e1 e2
        cases h
        exact ps3_asg (R.E _ _ e1).2 (R.G _ _ e2).2 (swSole hc.1.1) (swNo hc.2) (asg1 hc.1.2)
      · cases h
  · split at h
    · rename_i hc
      cases h
      obtain ⟨hc, h1⟩ := Bool.and_eq_true_iff.mp hc
      obtain ⟨h1, h2⟩ := Bool.and_eq_true_iff.mp h1
      obtain ⟨g1, g2⟩ := k.gl h2
      exact ps3_raise (k.calm hc).1 k.tk (k.exa _ (of_decide_eq_true h1)) g1 g2
    · cases h
  · split at h
    · rename_i hc0
      obtain ⟨hca, h1⟩ := Bool.and_eq_true_iff.mp hc0
      obtain ⟨h1, h2⟩ := Bool.and_eq_true_iff.mp h1
      obtain ⟨h2, h3⟩ := Bool.and_eq_true_iff.mp h2
      obtain ⟨h3, h4⟩ := Bool.and_eq_true_iff.mp h3
      obtain ⟨h4, h5⟩ := Bool.and_eq_true_iff.mp h4
      have hne : c.exs ≠ [] := fun q => by rw [q] at h5; cases h5
      have h2 := of_decide_eq_true h2
      have h4 := of_decide_eq_true h4
      obtain ⟨g1, g2⟩ := k.gl h3
      split at h
      · rename_i i mb e1 e2
        split at h
        · cases h
          obtain ⟨b1, b2⟩ := k.exb hne
          obtain ⟨t1, t2⟩ := k.top h1
          subst h2
          have hen : c.exc = none := by
            cases q : c.exc with
            | none => rfl
            | some z =>
              obtain ⟨X0, oe, pn, e, _⟩ := k.exc z.1 z.2.1 z.2.2 q
              have := (k.calm hca).1
              rw [e] at this
              cases this
          refine ps3_try t1 t2 k.nd (by rw [k.hN]; exact idx_ok e1) (by show X.env.scope.names.lookup _ = _; rw [k.sc]; exact h4) ⟨g1, g2, .inl b1⟩ k.tk b2 (fun W' pn xe tk' po' => ?_) fun a oe C fs d pn hC hz hf hd => ?_
          · exact (A.ok c (X.tr pn xe) W' (k.toTry tk' po' hen)).Ss _ _ e2
          · refine sui_ok fun hfs ms hms => ?_
            have hd' := hd hfs
            subst hd'
            exact (A.ok _ _ _ (k.toSuite (i := i) hC hz hf)).Ss _ _ hms
        · cases h
      · cases h
    · cases h
  · cases h
theorem alls : ∀ n, Alls (comp n)
  | 0 => ⟨fun c X W k => RecOk.no⟩
  | n + 1 => by
    have A := alls n
    refine ⟨fun c X W k => ?_⟩
    have R := A.ok c X W k
    refine ⟨fun e m h => ?_, fun e m h => stepT_ok k R h, fun op es m h pos => stepV_ok R h, fun es m h => stepA_ok R h, fun e m h => stepG_ok k R h, fun es m h => stepGs_ok R h, fun st m h => stepS_ok A k h, fun sts m h => stepSs_ok R h⟩
    have h2 : (match stepC c (comp n) e with
      | some m => some m
      | none => stepE c (comp n) e) = some m := h
    split at h2
    · rename_i e1
      cases h2
      exact stepC_ok A k e1
    · exact stepE_ok k R h2
end
end L3

namespace L3
open PySem PySem.Spec PyProof.Rows L2

/-- what a def's body leans on, told of the program alone -/
structure Glob (c : CI) (P : Program) (w : World) (K : PySem.W.Frag) (mg : Str → Option Value) (base : Heap) (k : Nat) : Prop where
  fns : ∀ x n S, c.fns.lookup x = some (n, S) → ∃ k' f fd ps, k' ≤ k ∧ FnOk P w K mg base (L2.CX P w) k' f fd ps (spOf K n S) ∧ mg x = some (.ref f) ∧ PySem.W.keepIn K (.ref f) = true ∧ Binds K fd ps []
  mks : ∀ q ∈ c.mks, ∃ k' f fd ps dvs ds, k' + 1 ≤ k ∧ Mk K (He.ga K q.1) f ∧ FnOk P w K mg base (L2.CX P w) k' f fd ps (spOf K (q.2.1 + 1 + q.2.2.2.length) q.2.2.1) ∧ mg q.1 = some (.ref (He.ga K q.1)) ∧ Binds K fd ps ds ∧ Vals dvs ds ∧ ∀ H, Iss K H dvs q.2.2.2
  mkw : ∀ q ∈ c.mkw, ∃ k' f fd ps, k' + 1 ≤ k ∧ Mk K (He.ga K q.1) f ∧ FnOk P w K mg base (L2.CX P w) k' f fd ps (spOf K (q.2.1 + 2) q.2.2.2) ∧ mg q.1 = some (.ref (He.ga K q.1)) ∧ KBn K fd ps (q.2.1 + 1) [q.2.2.1] (fun us ws => us ++ ws) (fun vs zs => vs ++ zs)
  mth : ∀ m C n S, c.mth.lookup m = some (C, n, S) → ∃ k' f fd ps, k' ≤ k ∧ Cls K (He.ga K C) ∧ Meth K (He.ga K C) m f ∧ FnOk P w K mg base (L2.CX P w) k' f fd ps (spOf K (n + 1) S) ∧ Binds K fd ps []
  cst : ∀ x d, c.cst.lookup x = some d → ∃ v u, mg x = some u ∧ RelV v u ∧ ∀ H, Is K H v d
  sts : ∀ m C n S, c.sts.lookup m = some (C, n, S) → ∃ k' p g fd ps, k' ≤ k ∧ SmC K (He.ga K C) m p g ∧ SmI K (He.ga K C) m p g ∧ FnOk P w K mg base (L2.CX P w) k' g fd ps (spOf K n S) ∧ Binds K fd ps [] ∧ mg C = some (.ref (He.ga K C))
  stro : ∀ C S, c.stro = some (C, S) → ∃ k' f fd ps, k' + 2 ≤ k ∧ FnOk P w K mg base (L2.CX P w) k' f fd ps (spOf K 1 S) ∧ Binds K fd ps [] ∧ PySem.W.findIn K (.ref (He.ga K C)) "__str__" = some (some (.ref f)) ∧ PySem.W.isFn K (.ref f) = true
  tab : AtOk K c.tab
  ocl : ∀ x ∈ c.ocl, OCls K (He.ga K x) ∧ mg x = some (.ref (He.ga K x))
  exs : XcT K c.exs
  exg : ∀ x ∈ c.exs, mg x = some (.ref (He.ga K x))
  exa : ∀ x ∈ c.exr, XcAt K mg x
  exb : c.exs ≠ [] → mg c.base = some (.ref (He.ga K c.base)) ∧ ∀ C ∈ c.exs, PySem.W.exmOne K (.ref (He.ga K C)) (.ref (He.ga K c.base)) = some true
  free : ∀ x ∈ c.free, mg x = none
  own : ∀ o, c.own = some o → (∀ op : Operator, ∀ S, o.ops.lookup (PySem.dunder op.info.2) = some S → ∃ k' f fd ps, k' ≤ k ∧ FnOk P w K mg base (L2.CX P w) k' f fd ps (spOf K 2 S) ∧ Binds K fd ps [] ∧ PySem.W.selfFirst K (He.ga K o.C) = true ∧ PySem.W.findIn K (.ref (He.ga K o.C)) (PySem.dunder op.info.2) = some (some (.ref f)) ∧ PySem.W.isFn K (.ref f) = true) ∧
    (∃ k' f fd ps, k' ≤ k ∧ FnOk P w K mg base (L2.CX P w) k' f fd ps (spOf K 2 o.eq) ∧ Binds K fd ps [] ∧ PySem.W.selfFirst K (He.ga K o.C) = true ∧ PySem.W.findIn K (.ref (He.ga K o.C)) "__eq__" = some (some (.ref f)) ∧ PySem.W.isFn K (.ref f) = true) ∧ OEq K (He.ga K o.C)
  gcd : c.gcd = true → mg "gcd" = some (.builtin "math.gcd")
section
variable {c : CI} {P : Program} {w : World} {K : PySem.W.Frag} {mg : Str → Option Value} {base : Heap} {k : Nat}
/-- the same of a context over the program -/
theorem Glob.ctx (G : Glob c P w K mg base k) {X : Cx} {W : WX} (e1 : X.prog = P) (e2 : X.w = w) (e3 : X.K = K) (e4 : X.mg = mg) (e5 : X.base = base) (hr : Room k X.A)
    (hN : X.N = c.N) (nd : X.N.Nodup) (sc : X.env.scope = c.sc) (kind : c.sc.kind = .function) (fn : c.asg = true → ∀ x, locB c.sc x = true → X.fn x = true ∨ X.env.scope.names.lookup x = some .local) (calm : X.calm = true) (tk : Takes X W)
    (po : PassesOwn (model X.prog X.w) X.A X.env X.xe) (top : c.top = true → X.stack = X.env :: X.outer ∧ X.env.frame = some X.env.locals) (he : c.exc = none) : Ctx c X W := by
  subst e1 e2 e3 e4 e5
  refine ⟨hN, nd, sc, kind, fn, fun _ => ⟨calm, hr.units⟩, tk, po, top, fun x n S h => ?_, fun q h => ?_, fun q h => ?_, fun m C n S h => ?_, G.cst, fun m C n S h => ?_, fun C S h => ?_, G.tab, G.ocl, G.exs, G.exg, G.exa, G.exb, G.free, fun o h => ?_, G.gcd, fun i C a h => by rw [he] at h; cases h⟩
  · obtain ⟨k', f, fd, ps, l, F, h1, h2, h3⟩ := G.fns x n S h
    exact ⟨k', f, fd, ps, F, hr.mono l, h1, h2, h3⟩
  · obtain ⟨k', f, fd, ps, dvs, ds, l, M, F, h1, h2, h3, h4⟩ := G.mks q h
    exact ⟨k', f, fd, ps, dvs, ds, M, F, hr.mono l, h1, h2, h3, h4⟩
  · obtain ⟨k', f, fd, ps, l, M, F, h1, h2⟩ := G.mkw q h
    exact ⟨k', f, fd, ps, M, F, hr.mono l, h1, h2⟩
  · obtain ⟨k', f, fd, ps, l, c1, c2, F, h1⟩ := G.mth m C n S h
    exact ⟨k', f, fd, ps, c1, c2, F, hr.mono l, h1⟩
  · obtain ⟨k', p, g, fd, ps, l, c1, c2, F, h1, h2⟩ := G.sts m C n S h
    exact ⟨k', p, g, fd, ps, c1, c2, F, hr.mono l, h1, h2⟩
  · obtain ⟨k', f, fd, ps, l, F, h1, h2, h3⟩ := G.stro C S h
    exact ⟨k', f, fd, ps, F, hr.mono l, h1, h2, h3⟩
  · obtain ⟨a, b, d⟩ := G.own o h
    refine ⟨fun op S e => ?_, ?_, d⟩
    · obtain ⟨k', f, fd, ps, l, F, h1, h2⟩ := a op S e
      exact ⟨k', f, fd, ps, F, hr.mono l, h1, h2⟩
    · obtain ⟨k', f, fd, ps, l, F, h1, h2⟩ := b
      exact ⟨k', f, fd, ps, F, hr.mono l, h1, h2⟩
variable {x qual : Str} {params : Arguments} {body : List Stmt} {scope : Scope} {dvs : List V} {kws : List (Str × V)} {f : Addr} {fd : FuncData} {ps : List Str} {n fu : Nat} {S : FSpec} {m : MS}
/-- a def of the text keeps its promise -/
theorem def3 (F : FunD K x qual params body scope dvs kws f fd) (sc : FnScope c.N ps scope) (hsc : c.sc = scope) (he : c.exc = none) (hl : ps.length = n) (hc : (comp fu c).Ss body = some m) (hb : BodyOk c.N n S m) (G : Glob c P w K mg base k) :
    FnOk P w K mg base (L2.CX P w) (k + 1) f fd ps (spOf K n S) := by
  subst hl hsc
  refine fn3 F sc (fun cdv A outer s H E hr => ?_) hb
  exact ((alls fu).ok c _ _ (G.ctx (X := cxOf (L2.CX P w) P w K mg base c.N qual c.sc f cdv A outer s H E) rfl rfl rfl rfl rfl hr rfl sc.nd rfl sc.kind (fun _ _ _ => .inl rfl) rfl (takes_of rfl rfl rfl rfl) (passes_of rfl) (fun _ => ⟨rfl, rfl⟩) he)).Ss body m hc
/-- the law's own def -/
theorem def3L (F : FunD K x qual params body scope dvs kws f fd) (sc : FnScope c.N ps scope) (hsc : c.sc = scope) (he : c.exc = none) (hl : ps.length = n) (hc : (comp fu c).Ss body = some m) (hb : BodyOk c.N n S m) (G : Glob c P w K mg base k) :
    FnOk P w K mg base CX0 (k + 1) f fd ps (fun vs H Q E => vs.length = ps.length ∧ ∃ H0 O ds P, Iss K H0 vs ds ∧ Sta K H0 O H ∧ S ds O (fun _ _ _ => False) P ∧ LinkV K H0 P Q) := by
  subst hl hsc
  refine fn3L F sc (fun cdv A outer s H E hr => ?_) hb
  exact ((alls fu).ok c _ _ (G.ctx (X := (cxOf CX0 P w K mg base c.N qual c.sc f cdv A outer s H E).nox) rfl rfl rfl rfl rfl hr rfl sc.nd rfl sc.kind (fun _ _ _ => .inl rfl) rfl takes0 PassesOwn.never (fun _ => ⟨rfl, rfl⟩) he)).Ss body m hc
end

/-! ## the head's facts, with one Bool more -/
def obsX (fa : List He.Fa) (fn : List He5.DefA) (p : PySem.W.Frag → Bool) (K : PySem.W.Frag) : He.AlD := ((fa.all fun f => f.ok K) && ((fn.all fun d => d.ok K) && p K), fn.map fun d => He5.fnA K (d.at_ K))
def SaysX (fa : List He.Fa) (fn : List He5.DefA) (p : PySem.W.Frag → Bool) (K : PySem.W.Frag) : Prop := obsX fa fn p K = He5.valA fn
def obsXG (n : Nat) (fa : List He.Fa) (fn : List He5.DefA) (p : PySem.W.Frag → Bool) (g : Addr → Option Obj) : He.AlD := obsX fa fn p (He.frG g (He5.asA g n))
def hookX (n : Nat) (fa : List He.Fa) (fn : List He5.DefA) (p : PySem.W.Frag → Bool) : PySem.W.Hook where
  α := He.AlD
  obs := fun s => obsXG n fa fn p s.heap.get?
  val := fun _ => He5.valA fn
  says := fun _ h => ∃ K : PySem.W.Frag, K.In h ∧ SaysX fa fn p K
  of := fun _ _ e => ⟨_, He.frG_in, e⟩
  keeps := fun _ _ _ ⟨K, hK, c⟩ k => ⟨K, PySem.W.Frag.In.keeps hK k, c⟩
theorem obsXG_eq {n : Nat} {fa : List He.Fa} {fn : List He5.DefA} {p : PySem.W.Frag → Bool} {g : Addr → Option Obj} {s : Shared} (h : ∀ a, g a = s.heap.get? a) : obsXG n fa fn p g = (hookX n fa fn p).obs s := by
  have e : g = s.heap.get? := funext h
  rw [e] <;> rfl
section
variable {fa : List He.Fa} {fn : List He5.DefA} {p : PySem.W.Frag → Bool} {K : PySem.W.Frag}
theorem SaysX.b (c : SaysX fa fn p K) : ((fa.all fun f => f.ok K) && ((fn.all fun d => d.ok K) && p K)) = true := congrArg (fun z : He.AlD => z.1) c
theorem SaysX.all (c : SaysX fa fn p K) : ∀ f ∈ fa, f.ok K = true := List.all_eq_true.mp (He.ba c.b).1
theorem SaysX.fact (c : SaysX fa fn p K) (i : Nat) {f : He.Fa} (h : fa[i]? = some f := by rfl) : f.ok K = true := c.all f (List.mem_of_getElem? h)
theorem SaysX.more (c : SaysX fa fn p K) : p K = true := (He.ba (He.ba c.b).2).2
theorem SaysX.def_ (c : SaysX fa fn p K) (i : Nat) {d : He5.DefA} (h : fn[i]? = some d := by rfl) : ∃ fd, FunD K d.name d.qual d.params d.body d.scope (d.dvs K) (d.kws K) (d.at_ K) fd := by
  have c2 := (He.ba (He.ba c.b).2).1
  have e : fn.map (fun d => He5.fnA K (d.at_ K)) = fn.map He5.DefA.val := congrArg (fun z : He.AlD => z.2) c
  have e2 : (fn.map fun d => He5.fnA K (d.at_ K))[i]? = (fn.map He5.DefA.val)[i]? := by rw [e]
  rw [List.getElem?_map, List.getElem?_map, h] at e2
  exact He5.DefA.funD (Option.some.inj e2) (List.all_eq_true.mp c2 d (List.mem_of_getElem? h))
end
/-- isinstance facts of own classes, as a Bool -/
def oclB (K : PySem.W.Frag) (x : Str) : Bool :=
  decide (PySem.W.findIn K (.ref (He.ga K x)) "__class__" = some (some (.builtin "object.__class__"))) && (decide (PySem.W.mroIn K (He.ga K x) (.type "object") = some true) &&
    ((["int", "bool", "str", "tuple", "list", "NoneType"].all fun T => decide (PySem.W.kitOne K (.type T) (.ref (He.ga K x)) = some false)) && (["int", "bool", "str", "tuple", "list", "NoneType"].all fun T => PySem.W.notFirst K (He.ga K x) (.type T))))
def objB (K : PySem.W.Frag) : Bool := decide (PySem.W.specialIn K (.builtin "object.__class__") "__get__" = some (some (.builtin "getset_descriptor.__get__"))) && decide (PySem.W.takesIn K (.builtin "object.__class__") = some true)
theorem ocl_ok {K : PySem.W.Frag} {x : Str} (c : Cls K (He.ga K x)) (h : oclB K x = true) (h0 : objB K = true) : OEq K (He.ga K x) := by
  obtain ⟨h1, h⟩ := He.ba h
  obtain ⟨h2, h⟩ := He.ba h
  obtain ⟨h3, h4⟩ := He.ba h
  obtain ⟨h5, h6⟩ := He.ba h0
  exact ⟨⟨c, of_decide_eq_true h1, of_decide_eq_true h5, of_decide_eq_true h6, of_decide_eq_true h2, fun T hT => of_decide_eq_true (List.all_eq_true.mp h3 T hT)⟩, fun T hT => List.all_eq_true.mp h4 T hT⟩
/-- the same of the errors -/
def excB (K : PySem.W.Frag) (D : Str) : Bool :=
  decide (PySem.W.findIn K (.ref (He.ga K D)) "__getattribute__" = some (some (.builtin "BaseException.__getattribute__"))) && (decide (PySem.W.findIn K (.ref (He.ga K D)) "__getattr__" = some none) &&
    (decide (PySem.W.subIn K (.ref (He.ga K D)) (.type "BaseException") = some true) && (PySem.W.hasDictIn K (He.ga K D) && (decide (PySem.W.findIn K (.ref (He.ga K D)) "__class__" = some (some (.builtin "object.__class__"))) && decide (PySem.W.mroIn K (He.ga K D) (.type "object") = some true)))))
def xctB (K : PySem.W.Frag) (cs : List Str) : Bool :=
  (cs.all fun C => excB K C) && ((cs.all fun C => cs.all fun c => decide (PySem.W.kitOne K (.ref (He.ga K C)) (.ref (He.ga K c)) = some (decide (C = c)))) && (cs.all fun C => decide (PySem.W.kitOne K (.ref (He.ga K C)) (.type "ValueError") = some true)))
theorem xct_ok {K : PySem.W.Frag} {cs : List Str} (h : xctB K cs = true) (h0 : objB K = true) : XcT K cs := by
  obtain ⟨h1, h⟩ := He.ba h
  obtain ⟨h2, h3⟩ := He.ba h
  obtain ⟨h5, h6⟩ := He.ba h0
  refine ⟨fun C hC => ?_, fun C hC c hc => of_decide_eq_true (List.all_eq_true.mp (List.all_eq_true.mp h2 C hC) c hc), fun C hC => of_decide_eq_true (List.all_eq_true.mp h3 C hC)⟩
  obtain ⟨a1, a⟩ := He.ba (List.all_eq_true.mp h1 C hC)
  obtain ⟨a2, a⟩ := He.ba a
  obtain ⟨a3, a⟩ := He.ba a
  obtain ⟨a4, a⟩ := He.ba a
  obtain ⟨a5, a6⟩ := He.ba a
  exact ⟨of_decide_eq_true a1, of_decide_eq_true a2, of_decide_eq_true a3, a4, of_decide_eq_true a5, of_decide_eq_true h5, of_decide_eq_true h6, of_decide_eq_true a6⟩
theorem xca_ok {K : PySem.W.Frag} {mg : Str → Option Value} {C : Str} (h : (He.Fa.exc C).ok K = true) (g : mg C = some (.ref (He.ga K C))) : XcAt K mg C := by
  obtain ⟨a, b, c, d⟩ := He.exc_ok h
  exact ⟨a, b, c, d, g⟩
/-- gcd stands for math's -/
def gcdB (K : PySem.W.Frag) (x : Str) (id : String) : Bool := decide (PySem.W.nsIn K mainGlobals x = some (some (.builtin id)))
/-- a staticmethod's facts, as a Bool -/
def smB (K : PySem.W.Frag) (C m : Str) : Bool :=
  He5.wrapB K (He.ga K C) "staticmethod" "staticmethod.__get__" m && (PySem.W.readsIn K (He.ga K C) (.type "type") && (PySem.W.keepIn K (.ref (He5.wf K (He.ga K C) "staticmethod" m)) && (PySem.W.plainGet K (He.ga K C) m && (PySem.W.isClsIn K (He.ga K C) &&
    (decide (PySem.W.findIn K (.ref (He.ga K C)) m = some (some (.ref (He.ma K (He.ga K C) m)))) && (decide (PySem.W.typeIn K (.ref (He.ma K (He.ga K C) m)) = some (.type "staticmethod")) &&
      (decide (PySem.W.specialIn K (.ref (He.ma K (He.ga K C) m)) "__get__" = some (some (.builtin "staticmethod.__get__"))) && (decide (PySem.W.takesIn K (.ref (He.ma K (He.ga K C) m)) = some false) && !PySem.W.copiedNames.contains m))))))))
theorem sm_ok {K : PySem.W.Frag} {C m : Str} (h : smB K C m = true) : SmC K (He.ga K C) m (He.ma K (He.ga K C) m) (He5.wf K (He.ga K C) "staticmethod" m) ∧ SmI K (He.ga K C) m (He.ma K (He.ga K C) m) (He5.wf K (He.ga K C) "staticmethod" m) := by
  obtain ⟨h1, h⟩ := He.ba h
  obtain ⟨h2, h⟩ := He.ba h
  obtain ⟨h3, h⟩ := He.ba h
  obtain ⟨h4, h⟩ := He.ba h
  obtain ⟨h5, h⟩ := He.ba h
  obtain ⟨h6, h⟩ := He.ba h
  obtain ⟨h7, h⟩ := He.ba h
  obtain ⟨h8, h⟩ := He.ba h
  obtain ⟨h9, h10⟩ := He.ba h
  obtain ⟨w1, w2⟩ := He5.wrapB_ok h1
  have rd : ClX.CRead K (He.ga K C) (.type "type") := by
    refine ⟨h2, ?_⟩
    unfold PySem.W.readsIn at h2
    obtain ⟨a, _⟩ := He.ba h2
    obtain ⟨a, _⟩ := He.ba a
    obtain ⟨a, a3⟩ := He.ba a
    obtain ⟨_, a⟩ := He.ba a
    unfold PySem.W.specialIn
    rw [beq_iff_eq.mp a, Option.bind_some]
    exact beq_iff_eq.mp a3
  exact ⟨⟨rd, w1, w2, h3⟩, ⟨h4, h5, of_decide_eq_true h6, of_decide_eq_true h7, of_decide_eq_true h8, of_decide_eq_true h9, by simpa using h10, w2, h3⟩⟩
end L3

namespace L3
open PySem PySem.Spec PyProof.Rows L2

/-! ## steps of the readings, one lemma each (for walks by hand) -/
def kIf (A B : Sto → Prop) : Bool → Sto → Prop := fun k O => if k = true then A O else B O
def onBl (Q : Bool → Sto → Prop) : PV := fun x O => match x with
  | .bl b => Q b O
  | _ => False
def onTru (Q : Bool → Sto → Prop) : PV := fun x O => match truD O x with
  | some b => Q b O
  | none => False
section
variable {Z : PX} {Γ : Gm} {O : Sto} {Q : PV} {QB : Bool → Sto → Prop} {QA : List D → Sto → Prop} {A B : Sto → Prop} {d e : D} {i : Nat} {m ma mb : ME} {ms : MA} {t ta tb : MT} {f : F2} {f1 : F1} {fa : FA} {S : FSpec} {n : Nat} {k : Bool}
theorem w_kT (h : A O) : kIf A B true O := h
theorem w_kF (h : B O) : kIf A B false O := h
theorem w_kT' (e : k = true) (h : A O) : kIf A B k O := by rw [e]; exact h
theorem w_kF' (e : k = false) (h : B O) : kIf A B k O := by rw [e]; exact h
theorem w_k (h1 : k = true → A O) (h2 : k = false → B O) : kIf A B k O := by
  cases k with
  | true => exact h1 rfl
  | false => exact h2 rfl
theorem w_onBl (h : QB k O) : onBl QB (.bl k) O := h
theorem w_onTru (e : truD O d = some k) (h : QB k O) : onTru QB d O := by unfold onTru; rw [e]; exact h
theorem w_onTruB (h : QB k O) : onTru QB (.bl k) O := h
theorem w_var (h : Γ[i]? = some (some d)) (q : Q d O) : mVar i Z Γ O Q := by unfold mVar; rw [h]; exact q
theorem w_c (h : Q d O) : mC d Z Γ O Q := h
theorem w_op (h : ma Z Γ O fun x O1 => mb Z Γ O1 fun y O2 => f x y O2 Q) : mOp f ma mb Z Γ O Q := h
theorem w_un (h : ma Z Γ O fun x O1 => f1 x O1 Q) : mUn f1 ma Z Γ O Q := h
theorem w_B (h : m Z Γ O (onBl QB)) : mB m Z Γ O QB := h
theorem w_tru (h : m Z Γ O (onTru QB)) : mTru m Z Γ O QB := h
theorem w_and (h : ta Z Γ O (kIf (fun O1 => tb Z Γ O1 QB) fun O1 => QB false O1)) : mAnd ta tb Z Γ O QB := h
theorem w_or (h : ta Z Γ O (kIf (fun O1 => QB true O1) fun O1 => tb Z Γ O1 QB)) : mOr ta tb Z Γ O QB := h
theorem w_not (h : ta Z Γ O fun k O1 => QB (!k) O1) : mNot ta Z Γ O QB := h
theorem w_andV (h : ma Z Γ O (onBl (kIf (fun O1 => mb Z Γ O1 Q) fun O1 => Q (.bl false) O1))) : mAndV ma mb Z Γ O Q := by
  have e : (onBl (kIf (fun O1 => mb Z Γ O1 Q) fun O1 => Q (.bl false) O1)) = fun x O1 => match x with
    | .bl true => mb Z Γ O1 Q
    | .bl false => Q (.bl false) O1
    | _ => False := by
    funext x O1
    cases x with
    | bl b => cases b <;> rfl
    | _ => rfl
  rw [e] at h
  exact h
theorem w_orV (h : ma Z Γ O (onBl (kIf (fun O1 => Q (.bl true) O1) fun O1 => mb Z Γ O1 Q))) : mOrV ma mb Z Γ O Q := by
  have e : (onBl (kIf (fun O1 => Q (.bl true) O1) fun O1 => mb Z Γ O1 Q)) = fun x O1 => match x with
    | .bl true => Q (.bl true) O1
    | .bl false => mb Z Γ O1 Q
    | _ => False := by
    funext x O1
    cases x with
    | bl b => cases b <;> rfl
    | _ => rfl
  rw [e] at h
  exact h
theorem w_notV (h : ma Z Γ O (onBl fun k O1 => Q (.bl (!k)) O1)) : mNotV ma Z Γ O Q := h
theorem w_ifE (h : t Z Γ O (kIf (fun O1 => ma Z Γ O1 Q) fun O1 => mb Z Γ O1 Q)) : mIfE t ma mb Z Γ O Q := h
theorem w_nil (h : QA [] O) : mNil Z Γ O QA := h
theorem w_cons (h : ma Z Γ O fun x O1 => ms Z Γ O1 fun xs O2 => QA (x :: xs) O2) : mCons ma ms Z Γ O QA := h
theorem w_tup (h : ms Z Γ O fun ds O1 => ds.length ≤ sizeLine ∧ Q (.tup ds) O1) : mTup ms Z Γ O Q := h
theorem w_lst (h : ms Z Γ O fun ds O1 => ds.length ≤ sizeLine ∧ ∀ p, O1 p = none → orFz Q (.cell p) (put O1 p (.lst ds))) : mLst ms Z Γ O Q := h
theorem w_cb (h : ms Z Γ O fun ds O1 => fa ds O1 Q) : mCB fa ms Z Γ O Q := h
theorem w_call (h : ms Z Γ O fun ds O1 => ds.length = n ∧ S ds O1 Z Q) : mCall S n ms Z Γ O Q := h
theorem w_isT {ty : T3} (h : m Z Γ O fun d O1 => ∃ b, isT O1 d ty = some b ∧ Q (.bl b) O1) : mIsT ty m Z Γ O Q := by
  have e : (fun d O1 => ∃ b, isT O1 d ty = some b ∧ Q (.bl b) O1) = fun d O1 => match isT O1 d ty with
    | some b => Q (.bl b) O1
    | none => False := by
    funext d O1
    cases q : isT O1 d ty with
    | none => simp
    | some b => simp
  rw [e] at h
  exact h
theorem w_isO {c : Str} (h : m Z Γ O fun d O1 => ∃ b, isO c O1 d = some b ∧ Q (.bl b) O1) : mIsO c m Z Γ O Q := by
  have e : (fun d O1 => ∃ b, isO c O1 d = some b ∧ Q (.bl b) O1) = fun d O1 => match isO c O1 d with
    | some b => Q (.bl b) O1
    | none => False := by
    funext d O1
    cases q : isO c O1 d with
    | none => simp
    | some b => simp
  rw [e] at h
  exact h
theorem w_fld {tab : List (Str × Str)} {x : Str} (h : m Z Γ O fun d O1 => ∃ e, fldD tab x O1 d = some e ∧ Q e O1) : mFld tab x m Z Γ O Q := by
  have e : (fun d O1 => ∃ e, fldD tab x O1 d = some e ∧ Q e O1) = fun d O1 => match fldD tab x O1 d with
    | some e => Q e O1
    | none => False := by
    funext d O1
    cases q : fldD tab x O1 d with
    | none => simp
    | some b => simp
  rw [e] at h
  exact h
theorem w_make {C : Str} {ex : List D} (h : ms Z Γ O fun ds O1 => ds.length = n ∧ ∀ p, O1 p = none → S (.cell p :: (ds ++ ex)) (put O1 p (.ins C [])) Z fun d O2 => d = .non ∧ orFz Q (.cell p) O2) : mMake C S n ex ms Z Γ O Q := h
theorem w_makeK {C : Str} {mk : MA} (h : ms Z Γ O fun ds O1 => mk Z Γ O1 fun es O2 => ds.length = n ∧ es.length = 1 ∧ ∀ p, O2 p = none → S (.cell p :: (ds ++ es)) (put O2 p (.ins C [])) Z fun d O3 => d = .non ∧ orFz Q (.cell p) O3) : mMakeK C S n ms mk Z Γ O Q := h
theorem w_isE {a : Addr} {b : Bool} (h1 : Γ[i]? = some (some (.cell a))) (h : Q (.bl b) O) : mIsE i a b Z Γ O Q := ⟨h1, h⟩
/-- slices -/
def slD (x : D) (lo hi : Option Int) (O : Sto) (Q : PV) : Prop := match x with
  | .str z => z.length ≤ sizeLine ∧ Q (.str (cutS z lo hi)) O
  | .tup ds => Q (.tup (cut ds lo hi)) O
  | x => match lstOf O x with
    | some ds => ∀ p, O p = none → orFz Q (.cell p) (put O p (.lst (cut ds lo hi)))
    | none => False
theorem w_slice {ml mh : MO3} (h : ma Z Γ O fun x O1 => ml Z Γ O1 fun lo O2 => mh Z Γ O2 fun hi O3 => slD x lo hi O3 Q) : mSlice ma ml mh Z Γ O Q := h
theorem w_slLst {ds : List D} {lo hi : Option Int} (h : Q (.lst (cut ds lo hi)) O) : slD (.lst ds) lo hi O Q := fun p hp => ⟨_, _, .lst put_same, by rw [del_put hp]; exact h⟩
theorem w_oNone {QO : Option Int → Sto → Prop} (h : QO none O) : mNone Z Γ O QO := h
theorem w_oSome {QO : Option Int → Sto → Prop} (h : m Z Γ O fun d O1 => ∃ i, d = .int i ∧ QO (some i) O1) : mSome m Z Γ O QO := by
  have e : (fun (d : D) (O1 : Sto) => ∃ i, d = D.int i ∧ QO (some i) O1) = fun (d : D) (O1 : Sto) => match d with
    | .int i => QO (some i) O1
    | _ => False := by
    funext d O1
    cases d <;> simp
  rw [e] at h
  exact h
/-! texts -/
theorem w_sm {f : FM} (h : m Z Γ O fun o O1 => isStrD o ∧ ms Z Γ O1 fun ds O2 => f o ds O2 Q) : mSM f m ms Z Γ O Q := h
theorem w_sm0 {f : FM} (h : m Z Γ O fun o O1 => isStrD o ∧ f o [] O1 Q) : mSM0 f m Z Γ O Q := h
section
variable {z y : Str} {x : Int}
theorem w_isStr {A : Prop} (h : A) : isStrD (.str z) ∧ A := ⟨trivial, h⟩
theorem w_find (h : Q (.int (Txt.find z y)) O) : fFind (.str z) [.str y] O Q := ⟨trivial, h⟩
theorem w_starts (h : Q (.bl (Txt.startswith z y)) O) : fStarts (.str z) [.str y] O Q := ⟨trivial, h⟩
theorem w_remPre (h1 : z.length ≤ sizeLine) (h : Q (.str (Txt.removeprefix z y)) O) : fRemPre (.str z) [.str y] O Q := ⟨h1, h⟩
theorem w_isascii (h : Q (.bl (Txt.isascii z)) O) : fIsascii (.str z) [] O Q := ⟨trivial, h⟩
theorem w_isdigit (h : Q (.bl (Txt.isdigit z)) O) : fIsdigit (.str z) [] O Q := ⟨trivial, h⟩
theorem w_parti (h1 : (y.length == 0) = false) (h2 : z.length ≤ sizeLine) (h : Q (.tup [.str (Txt.partition z y).1, .str (Txt.partition z y).2.1, .str (Txt.partition z y).2.2]) O) : fParti (.str z) [.str y] O Q := ⟨h1, h2, h⟩
theorem w_str1I (h1 : x.natAbs.log2 < 1920) (h : Q (.str (toString x)) O) : fStr1 [.int x] O Q := ⟨h1, h⟩
theorem w_str1S (h : Q (.str z) O) : fStr1 [.str z] O Q := h
theorem w_strOI {C : Str} {S : FSpec} (h1 : x.natAbs.log2 < 1920) (h : Q (.str (toString x)) O) : fStrO C S [.int x] O Q := ⟨h1, h⟩
theorem w_strO {C : Str} {S : FSpec} {fs : List (Str × D)} (h : S [.obj C fs] O noX fun d O' => isStrD d ∧ Q d O') : fStrO C S [.obj C fs] O Q := ⟨rfl, h⟩
theorem w_fmt (h : m Z Γ O fun d O1 => fmtD d O1 Q) : mFmt m Z Γ O Q := h
theorem w_fmtI (h1 : x.natAbs.log2 < 1920) (h : Q (.str (toString x)) O) : fmtD (.int x) O Q := ⟨h1, h⟩
theorem w_fmtS (h1 : z.length ≤ sizeLine) (h : Q (.str z) O) : fmtD (.str z) O Q := ⟨h1, h⟩
theorem w_join {ml : List ME} (h : jsL ml Str.empty Z Γ O fun out O1 => Q (.str out) O1) : mJoin ml Z Γ O Q := h
theorem w_jsNil {K : Str → Sto → Prop} (h : K z O) : jsL [] z Z Γ O K := h
theorem w_jsCons {K : Str → Sto → Prop} {ml : List ME} (h : m Z Γ O fun d O1 => ∃ y, d = .str y ∧ (z ++ y).length ≤ sizeLine ∧ jsL ml (z ++ y) Z Γ O1 K) : jsL (m :: ml) z Z Γ O K := h
theorem w_inS (h : Q (.bl (occS z y)) O) : fInS false (.str z) (.str y) O Q := h
theorem w_notInS (h : Q (.bl (!occS z y)) O) : fInS true (.str z) (.str y) O Q := h
theorem w_fIntS {n : Int} (h1 : PySem.intText? z = some n) (h2 : z.length ≤ 640) (h : Q (.int n) O) : fInt1 [.str z] O Q := ⟨n, h1, h2, h⟩
theorem w_fMulS (h1 : -(2 ^ 63) ≤ x ∧ x < 2 ^ 63 ∧ z.length * x.toNat ≤ sizeLine) (h : Q (.str (repS z x)) O) : fMul (.str z) (.int x) O Q := ⟨h1, h⟩
theorem w_fAddS (h1 : z.length + y.length ≤ sizeLine) (h : Q (.str (z ++ y)) O) : fAdd (.str z) (.str y) O Q := ⟨h1, h⟩
theorem w_fLenS (h1 : z.length ≤ sizeLine) (h : Q (.int z.length) O) : fLen [.str z] O Q := ⟨h1, h⟩
theorem w_fIxS {c : Nat} (h1 : z.length ≤ sizeLine) (h2 : atI z.cps.toList x = some c) (h : Q (.str ⟨#[c]⟩) O) : fIx (.str z) (.int x) O Q := by
  show z.length ≤ sizeLine ∧ match atI z.cps.toList x with
    | some c => Q (.str ⟨#[c]⟩) O
    | none => False
  rw [h2]
  exact ⟨h1, h⟩
theorem w_slStr {lo hi : Option Int} (h1 : z.length ≤ sizeLine) (h : Q (.str (cutS z lo hi)) O) : slD (.str z) lo hi O Q := ⟨h1, h⟩
theorem w_statI {C w : Str} (h : m Z Γ O fun o O1 => insD C w O1 o ∧ ms Z Γ O1 fun ds O2 => ds.length = n ∧ S ds O2 Z Q) : mStatI C w S n m ms Z Γ O Q := h
end
/-! comprehensions, methods -/
theorem w_comp {tg : TgN} (h : m Z Γ O fun d O1 => lcD O1 d tg t ma Γ Q) : mComp m tg t ma Z Γ O Q := h
/-- a comprehension whose part is a value of its item alone -/
theorem w_lcPure {tg : TgN} {ds : List D} (f : D → D) (hl : ds.length ≤ sizeLine) (h : ∀ x ∈ ds, ∀ (O2 : Sto) (K : PV), K (f x) O2 → tg.put x (wipeG Γ tg.vs) fun Γ1 => ma noX Γ1 O2 K) (hq : Q (.lst (ds.map f)) O) : lcD O (.lst ds) tg mYes ma Γ Q := by
  show ∀ p, O p = none → lcL p (fun O => itemsOf O (.lst ds) = some ds) tg mYes ma (wipeG Γ tg.vs) (orFz Q (.cell p)) ds (put O p (.lst []))
  intro p hp
  have main : ∀ (r acc : List D), (∀ x ∈ r, x ∈ ds) → acc.length + r.length = ds.length → acc ++ r.map f = ds.map f → lcL p (fun O => itemsOf O (.lst ds) = some ds) tg mYes ma (wipeG Γ tg.vs) (orFz Q (.cell p)) r (put O p (.lst acc)) := by
    intro r
    induction r with
    | nil =>
      intro acc _ _ e
      rw [List.map_nil, List.append_nil] at e
      refine ⟨rfl, _, _, .lst put_same, ?_⟩
      rw [del_put hp, e]
      exact hq
    | cons x r ih =>
      intro acc hm hl' e
      refine ⟨rfl, ?_⟩
      have hz : acc.length < sizeLine := by
        simp only [List.length_cons] at hl'
        omega
      have key : tg.put x (wipeG Γ tg.vs) fun Γ1 => ma noX Γ1 (put O p (.lst acc)) fun y O3 => ∃ acc, O3 p = some (.lst acc) ∧ acc.length < sizeLine ∧ lcL p (fun O => itemsOf O (.lst ds) = some ds) tg mYes ma (wipeG Γ tg.vs) (orFz Q (.cell p)) r (put O3 p (.lst (acc ++ [y]))) := by
        refine h x (hm x List.mem_cons_self) _ _ ⟨acc, put_same, hz, ?_⟩
        rw [put_put]
        refine ih _ (fun y hy => hm y (List.mem_cons_of_mem _ hy)) (by simp only [List.length_append, List.length_cons, List.length_nil] at hl' ⊢; omega) ?_
        rw [List.append_assoc]
        exact e
      have e2 : (fun Γ1 => mYes noX Γ1 (put O p (.lst acc)) fun b O2 => if b = true then ma noX Γ1 O2 fun y O3 => ∃ acc, O3 p = some (.lst acc) ∧ acc.length < sizeLine ∧ lcL p (fun O => itemsOf O (.lst ds) = some ds) tg mYes ma (wipeG Γ tg.vs) (orFz Q (.cell p)) r (put O3 p (.lst (acc ++ [y]))) else lcL p (fun O => itemsOf O (.lst ds) = some ds) tg mYes ma (wipeG Γ tg.vs) (orFz Q (.cell p)) r O2) = fun Γ1 => ma noX Γ1 (put O p (.lst acc)) fun y O3 => ∃ acc, O3 p = some (.lst acc) ∧ acc.length < sizeLine ∧ lcL p (fun O => itemsOf O (.lst ds) = some ds) tg mYes ma (wipeG Γ tg.vs) (orFz Q (.cell p)) r (put O3 p (.lst (acc ++ [y]))) := by
        rfl
      show tg.put x (wipeG Γ tg.vs) fun Γ1 => mYes noX Γ1 (put O p (.lst acc)) fun b O2 => if b = true then ma noX Γ1 O2 fun y O3 => ∃ acc, O3 p = some (.lst acc) ∧ acc.length < sizeLine ∧ lcL p (fun O => itemsOf O (.lst ds) = some ds) tg mYes ma (wipeG Γ tg.vs) (orFz Q (.cell p)) r (put O3 p (.lst (acc ++ [y]))) else lcL p (fun O => itemsOf O (.lst ds) = some ds) tg mYes ma (wipeG Γ tg.vs) (orFz Q (.cell p)) r O2
      rw [e2]
      exact key
  exact main ds [] (fun _ h => h) (by simp) rfl
theorem w_meth {C x : Str} (h : m Z Γ O fun o O1 => insD C x O1 o ∧ ms Z Γ O1 fun ds O2 => ds.length = n ∧ S (o :: ds) O2 Z Q) : mMeth C x S n m ms Z Γ O Q := h
theorem w_app (h : m Z Γ O fun o O1 => (∃ xs, lstOf O1 o = some xs) ∧ ms Z Γ O1 fun ds O2 => appD O2 o ds fun O3 => Q .non O3) : mApp m ms Z Γ O Q := h
theorem w_lstC {p : Addr} {xs : List D} (h : O p = some (.lst xs)) : ∃ ys, lstOf O (.cell p) = some ys := ⟨xs, by
  show (match O p with
    | some (.lst ds) => some ds
    | _ => none) = _
  rw [h]⟩
theorem w_appD {p : Addr} {xs : List D} {QS : Sto → Prop} (h0 : O p = some (.lst xs)) (h1 : xs.length < sizeLine) (h : QS (put O p (.lst (xs ++ [d])))) : appD O (.cell p) [d] QS := by
  show match O p with
    | some (.lst xs) => xs.length < sizeLine ∧ QS (put O p (.lst (xs ++ [d])))
    | _ => False
  rw [h0]
  exact ⟨h1, h⟩
theorem w_tupOf (h : m Z Γ O fun d O1 => tupD O1 d Q) : mTupOf m Z Γ O Q := h
theorem w_tupL {ds : List D} (h : Q (.tup ds) O) : tupD O (.lst ds) Q := h
theorem w_tupT {ds : List D} (h : Q (.tup ds) O) : tupD O (.tup ds) Q := h
/-! operations on known kinds -/
variable {x y : Int}
theorem w_fAdd (h : Q (.int (x + y)) O) : fAdd (.int x) (.int y) O Q := h
theorem w_fSub (h : Q (.int (x - y)) O) : fSub (.int x) (.int y) O Q := h
theorem w_fMul (h1 : mulOk x y) (h : Q (.int (x * y)) O) : fMul (.int x) (.int y) O Q := ⟨h1, h⟩
theorem w_fMod (h1 : 0 < y) (h : Q (.int (x % y)) O) : fMod (.int x) (.int y) O Q := ⟨h1, h⟩
theorem w_fDiv (h1 : divOk x y) (h : Q (.int (x / y)) O) : fDiv (.int x) (.int y) O Q := ⟨h1, h⟩
theorem w_fPow (h1 : 0 ≤ y ∧ y ≤ 1000000 ∧ x.natAbs < 2 ^ 64) (h : Q (.int (x ^ y.toNat)) O) : fPow (.int x) (.int y) O Q := ⟨h1, h⟩
theorem w_p10_6 (h : Q (.int 1000000) O) : fPow (.int 10) (.int 6) O Q := w_fPow (by decide) (by rw [show ((10 : Int) ^ Int.toNat 6) = 1000000 by decide +kernel]; exact h)
theorem w_p10_8 (h : Q (.int 100000000) O) : fPow (.int 10) (.int 8) O Q := w_fPow (by decide) (by rw [show ((10 : Int) ^ Int.toNat 8) = 100000000 by decide +kernel]; exact h)
theorem w_p10_18 (h : Q (.int 1000000000000000000) O) : fPow (.int 10) (.int 18) O Q := w_fPow (by decide) (by rw [show ((10 : Int) ^ Int.toNat 18) = 1000000000000000000 by decide +kernel]; exact h)
theorem w_p10_30 (h : Q (.int 1000000000000000000000000000000) O) : fPow (.int 10) (.int 30) O Q := w_fPow (by decide) (by rw [show ((10 : Int) ^ Int.toNat 30) = 1000000000000000000000000000000 by decide +kernel]; exact h)
theorem w_p10_51 (h : Q (.int 1000000000000000000000000000000000000000000000000000) O) : fPow (.int 10) (.int 51) O Q := w_fPow (by decide) (by rw [show ((10 : Int) ^ Int.toNat 51) = 1000000000000000000000000000000000000000000000000000 by decide +kernel]; exact h)
theorem w_p10_59 (h : Q (.int 100000000000000000000000000000000000000000000000000000000000) O) : fPow (.int 10) (.int 59) O Q := w_fPow (by decide) (by rw [show ((10 : Int) ^ Int.toNat 59) = 100000000000000000000000000000000000000000000000000000000000 by decide +kernel]; exact h)
theorem w_p10_60 (h : Q (.int 1000000000000000000000000000000000000000000000000000000000000) O) : fPow (.int 10) (.int 60) O Q := w_fPow (by decide) (by rw [show ((10 : Int) ^ Int.toNat 60) = 1000000000000000000000000000000000000000000000000000000000000 by decide +kernel]; exact h)
theorem w_p2_63 (h : Q (.int 9223372036854775808) O) : fPow (.int 2) (.int 63) O Q := w_fPow (by decide) (by rw [show ((2 : Int) ^ Int.toNat 63) = 9223372036854775808 by decide +kernel]; exact h)
theorem w_p2_64 (h : Q (.int 18446744073709551616) O) : fPow (.int 2) (.int 64) O Q := w_fPow (by decide) (by rw [show ((2 : Int) ^ Int.toNat 64) = 18446744073709551616 by decide +kernel]; exact h)
theorem dv30 {i j : Int} (h : 0 < j) (h2 : j < 1073741824) : divOk i j := ⟨h, .inl h2⟩
theorem w_fNeg (h : Q (.int (-x)) O) : fNeg (.int x) O Q := h
theorem w_fLt (h : Q (.bl (decide (x < y))) O) : fLt (.int x) (.int y) O Q := h
theorem w_fLe (h : Q (.bl (decide (x ≤ y))) O) : fLe (.int x) (.int y) O Q := h
theorem w_fGt (h : Q (.bl (decide (y < x))) O) : fGt (.int x) (.int y) O Q := h
theorem w_fGe (h : Q (.bl (decide (y ≤ x))) O) : fGe (.int x) (.int y) O Q := h
theorem w_fEqI (h : Q (.bl (decide (x = y))) O) : fEq false (.int x) (.int y) O Q := by
  show Q (.bl (decide (x = y) != false)) O
  rw [Bool.bne_false]
  exact h
theorem w_fNeI (h : Q (.bl (!decide (x = y))) O) : fEq true (.int x) (.int y) O Q := by
  show Q (.bl (decide (x = y) != true)) O
  rw [Bool.bne_true]
  exact h
theorem w_fEqB {a b : Bool} (h : Q (.bl (decide (a = b))) O) : fEq false (.bl a) (.bl b) O Q := by
  show Q (.bl (decide (a = b) != false)) O
  rw [Bool.bne_false]
  exact h
theorem w_fEqS {a b : Str} (h : Q (.bl (decide (a = b))) O) : fEq false (.str a) (.str b) O Q := by
  show Q (.bl (decide (a = b) != false)) O
  rw [Bool.bne_false]
  exact h
theorem w_fNeS {a b : Str} (h : Q (.bl (!decide (a = b))) O) : fEq true (.str a) (.str b) O Q := by
  show Q (.bl (decide (a = b) != true)) O
  rw [Bool.bne_true]
  exact h
theorem w_neTup {x y u v : Int} (h : Q (.bl (!decide (x = u ∧ y = v))) O) : fEq true (.tup [.int x, .int y]) (.tup [.int u, .int v]) O Q := by
  refine ⟨.tuple [.int x, .int y], .tuple [.int u, .int v], .tup (.cons (.int _) (.cons (.int _) .nil)), .tup (.cons (.int _) (.cons (.int _) .nil)), rfl, rfl, ?_⟩
  have e : PyData.eqv (.tuple [.int x, .int y]) (.tuple [.int u, .int v]) = decide (x = u ∧ y = v) := by
    simp [PyData.eqv, PyData.eqvAll, Bool.decide_and]
    rw [Bool.eq_iff_iff]
    simp
  rw [e, Bool.bne_true]
  exact h
theorem w_forStr {z : Str} {tgt : MG} {bd : MS} {P : En} (h : forL (fun O => itemsOf O (.str z) = some (z.cps.toList.map fun c => D.str ⟨#[c]⟩)) tgt bd P (z.cps.toList.map fun c => D.str ⟨#[c]⟩) Γ O) : forD O (.str z) tgt bd P Γ := h
theorem w_fIxT {ds : List D} (h1 : atI ds x = some d) (h : Q d O) : fIx (.tup ds) (.int x) O Q := by
  show match atI ds x with
    | some d => Q d O
    | none => False
  rw [h1]
  exact h
theorem w_fIxL {ds : List D} (h1 : atI ds x = some d) (h : Q d O) : fIx (.lst ds) (.int x) O Q := by
  show match atI ds x with
    | some d => Q d O
    | none => False
  rw [h1]
  exact h
theorem w_fIxC {p : Addr} {ds : List D} (h0 : O p = some (.lst ds)) (h1 : atI ds x = some d) (h : Q d O) : fIx (.cell p) (.int x) O Q := by
  have e : seqOf O (.cell p) = some ds := by
    show (match O p with
      | some (.lst ds) => some ds
      | _ => none) = _
    rw [h0]
  show match seqOf O (.cell p) with
    | some ds => match atI ds x with
      | some d => Q d O
      | none => False
    | none => False
  rw [e]
  show match atI ds x with
    | some d => Q d O
    | none => False
  rw [h1]
  exact h
theorem w_fInt (h : Q (.int x) O) : fInt1 [.int x] O Q := h
theorem w_fIntB {b : Bool} (h : Q (.int (if b then 1 else 0)) O) : fInt1 [.bl b] O Q := h
theorem w_fAbs (h : Q (.int (if x < 0 then -x else x)) O) : fAbs [.int x] O Q := h
theorem w_fMax (h : Q (.int (if y > x then y else x)) O) : fMax2 [.int x, .int y] O Q := h
theorem w_fMin (h : Q (.int (if y < x then y else x)) O) : fMin2 [.int x, .int y] O Q := h
theorem w_fGcd (h : Q (.int (Int.gcd x y)) O) : fGcd [.int x, .int y] O Q := h
theorem w_fLenL {ds : List D} (h : Q (.int ds.length) O) : fLen [.lst ds] O Q := h
theorem w_fLenT {ds : List D} (h : Q (.int ds.length) O) : fLen [.tup ds] O Q := h
theorem w_fLenC {p : Addr} {ds : List D} (h0 : O p = some (.lst ds)) (h : Q (.int ds.length) O) : fLen [.cell p] O Q := by
  have e : seqOf O (.cell p) = some ds := by
    show (match O p with
      | some (.lst ds) => some ds
      | _ => none) = _
    rw [h0]
  show match seqOf O (.cell p) with
    | some xs => Q (.int xs.length) O
    | none => False
  rw [e]
  exact h
theorem w_own {C : Str} {fs gs : List (Str × D)} (h : S [.obj C fs, .obj C gs] O noX Q) : fOwn C S f (.obj C fs) (.obj C gs) O Q := ⟨⟨rfl, rfl⟩, h⟩
theorem w_ownI {C : Str} (h : f (.int x) (.int y) O Q) : fOwn C S f (.int x) (.int y) O Q := h
theorem w_eqOwn {C : Str} {fs : List (Str × D)} (h1 : (isO C O d).isSome = true) (h : S [.obj C fs, d] O noX Q) : fEqOwn C S (.obj C fs) d O Q := ⟨rfl, h1, h⟩
theorem w_eqOwnI {C : Str} (h : fEq false (.int x) d O Q) : fEqOwn C S (.int x) d O Q := h
theorem w_fz (h : Q d O) : orFz Q d O := ⟨_, _, .refl, h⟩
theorem w_fzObj {p : Addr} {C : Str} {fs : List (Str × D)} (h0 : O p = none) (h : Q (.obj C fs) O) : orFz Q (.cell p) (put O p (.ins C fs)) := ⟨_, _, .obj put_same, by rw [del_put h0]; exact h⟩
theorem w_fzLst {p : Addr} {ds : List D} (h0 : O p = none) (h : Q (.lst ds) O) : orFz Q (.cell p) (put O p (.lst ds)) := ⟨_, _, .lst put_same, by rw [del_put h0]; exact h⟩
end
/-! statements -/
section
variable {nx bk ct : Gm → Sto → Prop} {rt : PV} {xp : Str → List (Str × D) → Gm → Sto → Prop} {Γ : Gm} {O : Sto} {a b : MS} {m ma mb mo mi : ME} {ms : MA} {t : MT} {g : MG} {gs : MGs} {d e : D} {i j n : Nat} {Z : PX} {QN : Gm → Sto → Prop} {QS : Sto → Prop}
theorem w_next (h : nx Γ O) : mNext ⟨nx, rt, bk, ct, xp⟩ Γ O := h
theorem w_seq (h : a ⟨b ⟨nx, rt, bk, ct, xp⟩, rt, bk, ct, xp⟩ Γ O) : mSeq a b ⟨nx, rt, bk, ct, xp⟩ Γ O := h
theorem w_brk (h : bk Γ O) : mBrk ⟨nx, rt, bk, ct, xp⟩ Γ O := h
theorem w_cont (h : ct Γ O) : mCont ⟨nx, rt, bk, ct, xp⟩ Γ O := h
theorem w_ret (h : m (fun C fs O => xp C fs Γ O) Γ O (orFz rt)) : mRet m ⟨nx, rt, bk, ct, xp⟩ Γ O := h
theorem w_retN (h : rt .non O) : mRetN ⟨nx, rt, bk, ct, xp⟩ Γ O := h
theorem w_drop (h : m (fun C fs O => xp C fs Γ O) Γ O fun _ O1 => nx Γ O1) : mDrop m ⟨nx, rt, bk, ct, xp⟩ Γ O := h
theorem w_if (h : t (fun C fs O => xp C fs Γ O) Γ O (kIf (a ⟨nx, rt, bk, ct, xp⟩ Γ) (b ⟨nx, rt, bk, ct, xp⟩ Γ))) : mIf t a b ⟨nx, rt, bk, ct, xp⟩ Γ O := h
theorem w_asg (h : m (fun C fs O => xp C fs Γ O) Γ O fun d O1 => g (fun C fs O => xp C fs Γ O) d Γ O1 nx) : mAsg m g ⟨nx, rt, bk, ct, xp⟩ Γ O := h
theorem w_par (h : ms (fun C fs O => xp C fs Γ O) Γ O fun ds O1 => par2 ds fun a b => nx ((Γ.set i (some a)).set j (some b)) O1) : mPar i j ms ⟨nx, rt, bk, ct, xp⟩ Γ O := h
theorem w_par2 {Q : D → D → Prop} (h : Q d e) : par2 [d, e] Q := h
theorem w_setA {tab : List (Str × Str)} {f : Str} (h : m (fun C fs O => xp C fs Γ O) Γ O fun d O1 => mo (fun C fs O => xp C fs Γ O) Γ O1 fun o O2 => setA tab f O2 o d (nx Γ)) : mSetA tab f m mo ⟨nx, rt, bk, ct, xp⟩ Γ O := h
theorem w_setA1 {tab : List (Str × Str)} {f C : Str} {p : Addr} {fs : List (Str × D)} (h0 : O p = some (.ins C fs)) (h1 : (C, f) ∈ tab) (h2 : fs.length < 1000) (h : QS (put O p (.ins C (putA f d fs)))) : setA tab f O (.cell p) d QS := by
  show match O p with
    | some (.ins C fs) => (C, f) ∈ tab ∧ fs.length < 1000 ∧ QS (put O p (.ins C (putA f d fs)))
    | _ => False
  rw [h0]
  exact ⟨h1, h2, h⟩
theorem w_raise {C : Str} (h : xp C [] Γ O) : mRaise C ⟨nx, rt, bk, ct, xp⟩ Γ O := h
theorem w_try {cs : List Str} {su : Str → List (Str × D) → Addr → MS} (h : a ⟨nx, rt, bk, ct, fun C fs Γ1 O1 => C ∈ cs ∧ ∀ a, su C fs a ⟨fun Γ2 O2 => nx (Γ2.set i none) O2, rt, fun Γ2 O2 => bk (Γ2.set i none) O2, fun Γ2 O2 => ct (Γ2.set i none) O2, fun _ _ _ _ => False⟩ (Γ1.set i (some (.cell a))) O1⟩ Γ O) : mTry i cs a su ⟨nx, rt, bk, ct, xp⟩ Γ O := h
theorem w_sui {P : En} (h : a P Γ O) : sui [] (some a) P Γ O := ⟨rfl, h⟩
theorem w_for (h : m (fun C fs O => xp C fs Γ O) Γ O fun d O1 => forD O1 d g b ⟨nx, rt, bk, ct, xp⟩ Γ) : mFor m g b ⟨nx, rt, bk, ct, xp⟩ Γ O := h
theorem w_forLst {ds : List D} {P : En} (h : forL (fun O => itemsOf O (.lst ds) = some ds) g b P ds Γ O) : forD O (.lst ds) g b P Γ := h
theorem w_forTup {ds : List D} {P : En} (h : forL (fun O => itemsOf O (.tup ds) = some ds) g b P ds Γ O) : forD O (.tup ds) g b P Γ := h
theorem w_forR1 (h : ms (fun C fs O => xp C fs Γ O) Γ O fun ds O1 => rng1 ds fun lo n => forL (fun _ => True) g b ⟨nx, rt, bk, ct, xp⟩ (upto lo n) Γ O1) : mForR1 ms g b ⟨nx, rt, bk, ct, xp⟩ Γ O := h
theorem w_rng1 {x : Int} {Q : Int → Nat → Prop} (h1 : -(2 ^ 62) ≤ x ∧ x < 2 ^ 62) (h : Q 0 x.toNat) : rng1 [.int x] Q := ⟨h1, h⟩
theorem w_forNil {chk : Sto → Prop} (h0 : chk O) (h : nx Γ O) : forL chk g b ⟨nx, rt, bk, ct, xp⟩ [] Γ O := ⟨h0, _, _, .refl, h⟩
theorem w_forCons {chk : Sto → Prop} {r : List D} (h0 : chk O) (h : g (fun _ _ _ => False) d Γ O fun Γ1 O1 => b ⟨forL chk g b ⟨nx, rt, bk, ct, xp⟩ r, rt, orFzG nx, forL chk g b ⟨nx, rt, bk, ct, xp⟩ r, xp⟩ Γ1 O1) : forL chk g b ⟨nx, rt, bk, ct, xp⟩ (d :: r) Γ O := ⟨h0, h⟩
/-- a loop by what stays -/
theorem w_forInv {chk : Sto → Prop} (I : Gm → Sto → Prop) (hc : ∀ Γ O, I Γ O → chk O) : ∀ (ds : List D), (∀ x ∈ ds, ∀ K : Gm → Sto → Prop, (∀ Γ O, I Γ O → K Γ O) → ∀ Γ O, I Γ O → g (fun _ _ _ => False) x Γ O fun Γ1 O1 => b ⟨K, rt, orFzG nx, K, xp⟩ Γ1 O1) →
    (∀ Γ O, I Γ O → nx Γ O) → ∀ Γ O, I Γ O → forL chk g b ⟨nx, rt, bk, ct, xp⟩ ds Γ O
  | [], _, fin, Γ, O, i => w_forNil (hc Γ O i) (fin Γ O i)
  | x :: r, st, fin, Γ, O, i => w_forCons (hc Γ O i) (st x List.mem_cons_self _ (fun Γ O i => w_forInv I hc r (fun y hy => st y (List.mem_cons_of_mem _ hy)) fin Γ O i) Γ O i)
/-- a loop over a list's image, by what is left -/
theorem w_forL {α : Type} {chk : Sto → Prop} (f : α → D) (I : List α → Gm → Sto → Prop) (hc : ∀ r Γ O, I r Γ O → chk O) (st : ∀ x r, ∀ K : Gm → Sto → Prop, (∀ Γ O, I r Γ O → K Γ O) → ∀ Γ O, I (x :: r) Γ O → g (fun _ _ _ => False) (f x) Γ O fun Γ1 O1 => b ⟨K, rt, orFzG nx, K, xp⟩ Γ1 O1)
    (fin : ∀ Γ O, I [] Γ O → nx Γ O) : ∀ r Γ O, I r Γ O → forL chk g b ⟨nx, rt, bk, ct, xp⟩ (r.map f) Γ O
  | [], Γ, O, i => w_forNil (hc _ Γ O i) (fin Γ O i)
  | x :: r, Γ, O, i => w_forCons (hc _ Γ O i) (st x r _ (fun Γ O i => w_forL f I hc st fin r Γ O i) Γ O i)
/-- a loop over a range, by how many are left -/
theorem w_forN {chk : Sto → Prop} (I : Nat → Int → Gm → Sto → Prop) (hc : ∀ n lo Γ O, I n lo Γ O → chk O) (st : ∀ n lo, ∀ K : Gm → Sto → Prop, (∀ Γ O, I n (lo + 1) Γ O → K Γ O) → ∀ Γ O, I (n + 1) lo Γ O → g (fun _ _ _ => False) (.int lo) Γ O fun Γ1 O1 => b ⟨K, rt, orFzG nx, K, xp⟩ Γ1 O1)
    (fin : ∀ lo Γ O, I 0 lo Γ O → nx Γ O) : ∀ n lo Γ O, I n lo Γ O → forL chk g b ⟨nx, rt, bk, ct, xp⟩ (upto lo n) Γ O
  | 0, lo, Γ, O, i => w_forNil (hc _ _ Γ O i) (fin lo Γ O i)
  | n + 1, lo, Γ, O, i => w_forCons (hc _ _ Γ O i) (st n lo _ (fun Γ O i => w_forN I hc st fin n (lo + 1) Γ O i) Γ O i)
theorem w_while (W0 : Nat → Gm → Sto → Prop) (n : Nat) (h0 : W0 n Γ O) (h : ∀ n Γ O, W0 n Γ O → t (fun C fs O => xp C fs Γ O) Γ O (kIf (b ⟨fun Γ' O' => ∃ m', m' < n ∧ W0 m' Γ' O', rt, orFzG nx, fun Γ' O' => ∃ m', m' < n ∧ W0 m' Γ' O', xp⟩ Γ) (orFzG nx Γ))) : mWhile t b ⟨nx, rt, bk, ct, xp⟩ Γ O := ⟨W0, ⟨n, h0⟩, h⟩
theorem w_fzG (h : nx Γ O) : orFzG nx Γ O := ⟨_, _, .refl, h⟩
theorem w_tgName (h : QN (Γ.set i (some d)) O) : tgName i Z d Γ O QN := h
theorem w_tgIx (h : mo Z Γ O fun o O1 => mi Z Γ O1 fun i O2 => setL O2 o i d (QN Γ)) : tgIx mo mi Z d Γ O QN := h
theorem w_setL {p : Addr} {ds : List D} {k : Int} (h0 : O p = some (.lst ds)) (h1 : ixN ds.length k = some j) (h : QS (put O p (.lst (ds.set j d)))) : setL O (.cell p) (.int k) d QS := by
  show match O p, D.int k with
    | some (.lst ds), .int k => match ixN ds.length k with
      | some j => QS (put O p (.lst (ds.set j d)))
      | none => False
    | _, _ => False
  rw [h0]
  show match ixN ds.length k with
    | some j => QS (put O p (.lst (ds.set j d)))
    | none => False
  rw [h1]
  exact h
theorem w_tgTup {ds : List D} (h1 : ds.length = n) (h : gs (fun _ _ _ => False) ds Γ O QN) : tgTup n gs Z (.tup ds) Γ O QN := ⟨h1, h⟩
theorem w_tgCons {r : List D} (h : g (fun _ _ _ => False) d Γ O fun Γ1 O1 => gs Z r Γ1 O1 QN) : tgCons g gs Z (d :: r) Γ O QN := h
theorem w_tgNil (h : QN Γ O) : tgNil Z [] Γ O QN := h
end
/-! sizes -/
def Bd (n : Nat) (x : Int) : Prop := x.natAbs < 2 ^ n
theorem Bd.mul {n m : Nat} {x y : Int} (a : Bd n x) (b : Bd m y) : Bd (n + m) (x * y) := by
  unfold Bd at *
  rw [Int.natAbs_mul, Nat.pow_add]
  exact Nat.mul_lt_mul'' a b
theorem Bd.mono {n m : Nat} {x : Int} (a : Bd n x) (h : n ≤ m) : Bd m x := Nat.lt_of_lt_of_le a (Nat.pow_le_pow_right (by decide) h)
theorem Bd.add {n : Nat} {x y : Int} (a : Bd n x) (b : Bd n y) : Bd (n + 1) (x + y) := by
  unfold Bd at *
  have := Int.natAbs_add_le x y
  rw [Nat.pow_succ]
  omega
theorem Bd.sub {n : Nat} {x y : Int} (a : Bd n x) (b : Bd n y) : Bd (n + 1) (x - y) := by
  unfold Bd at *
  have := Int.natAbs_sub_le x y
  rw [Nat.pow_succ]
  omega
theorem Bd.neg {n : Nat} {x : Int} (a : Bd n x) : Bd n (-x) := by unfold Bd at *; rwa [Int.natAbs_neg]
theorem Bd.ok {n : Nat} {x y : Int} (h : 0 < n) (h2 : n ≤ 500000) (a : Bd n x) (b : Bd n y) : mulOk x y := .inr ⟨n, h, h2, a, b⟩
theorem Bd.le {n : Nat} {x y : Int} (a : Bd n y) (h : x.natAbs ≤ y.natAbs) : Bd n x := Nat.lt_of_le_of_lt h a
theorem mulL {x y : Int} (h : x.natAbs < 18446744073709551616) : mulOk x y := .inl (.inl (by simpa using h))
theorem mulR {x y : Int} (h : y.natAbs < 18446744073709551616) : mulOk x y := .inl (.inr (by simpa using h))
end L3

namespace K02
open PySem L2 L3

/-! ## what each def promises -/
def t_tab : List (Str × Str) := [("Share", "top"), ("Share", "bottom")]
def t_exs : List Str := ["BadShare", "BadText", "BadBook", "BadMove", "BadProgram", "BadPlan", "Unfit", "TooLarge", "BadEdit"]
/-- the share u / d in lowest terms -/
def shr (u d : Int) : D := .obj "Share" [("top", .int (u / (Int.gcd u d : Int))), ("bottom", .int (d / (Int.gcd u d : Int)))]
def sp_Share_init : FSpec := fun ds O Z P => ∃ p t b, ds = [.cell p, .int t, .int b] ∧ O p = some (.ins "Share" []) ∧
  ((b < 1 ∧ Z "BadShare" [] O) ∨ (0 < b ∧ Bd 8001 b ∧ P .non (put O p (.ins "Share" [("top", .int (t / (Int.gcd t b : Int))), ("bottom", .int (b / (Int.gcd t b : Int)))]))))
/-- a share's sizes -/
structure Sz (u d : Int) : Prop where
  pos : 0 < d
  u : Bd 4000 u
  d : Bd 4000 d
def sp_Share_mul : FSpec := fun ds O Z P => ∃ u d v e, ds = [shr u d, shr v e] ∧ Sz u d ∧ Sz v e ∧ P (shr (u * v) (d * e)) O
def sp_Share_eq : FSpec := fun ds O Z P => ∃ u d y, ds = [shr u d, y] ∧ 0 < d ∧ ((isO "Share" O y = some false ∧ P (.bl false) O) ∨ ∃ v e, y = shr v e ∧ 0 < e ∧ P (.bl (decide (u * e = v * d))) O)
def t_own : OwnI := ⟨"Share", [("__mul__", sp_Share_mul)], sp_Share_eq⟩
def sp_law_int : FSpec := fun ds O Z P => ∃ i, ds = [.int i] ∧ P (.bl true) O
/-- a pool -/
def poolD (a b c k : Int) : MO := .lst [.int a, .int b, .int c, .int k]
def Pool (O : Sto) (p : Addr) : Prop := ∃ a b c k, O p = some (poolD a b c k)
structure Upd (p : Addr) (O O' : Sto) : Prop where
  pool : Pool O' p
  ne : ∀ q, q ≠ p → O' q = O q
def sp_law_pool : FSpec := fun ds O Z P => ∃ (ns : List Int) (i : Nat), ds = [.lst (ns.map D.int), .int i] ∧ ∀ p a b c k, O p = none → P (.cell p) (put O p (poolD a b c k))
def sp_law_stirred : FSpec := sp_law_pool
def sp_law_draw : FSpec := fun ds O Z P => ∃ p m, ds = [.cell p, .int m] ∧ Pool O p ∧ 1 ≤ m ∧ m ≤ 100000000 ∧ ∀ r O', 0 ≤ r → r < m → Upd p O O' → P (.int r) O'
/-- 10 ^ 60 -/
def big : Int := 1000000000000000000000000000000000000000000000000000000000000
def sp_law_size : FSpec := fun ds O Z P => ∃ p, ds = [.cell p] ∧ Pool O p ∧ ∀ r O', 0 ≤ r → r < big → Upd p O O' → P (.int r) O'
structure Fr (u d : Int) : Prop where
  lo : -big - 1 ≤ u
  hi : u ≤ big + 1
  pos : 1 ≤ d
  dhi : d ≤ big
def sp_law_fraction : FSpec := fun ds O Z P => ∃ p, ds = [.cell p] ∧ Pool O p ∧ ∀ u d O', -big < u → u < big → 1 ≤ d → d < big → Upd p O O' → P (.tup [.int u, .int d]) O'
def pr (q : Int × Int) : D := .tup [.int q.1, .int q.2]
def lowP (u d : Int) : Int × Int := (u / (Int.gcd u d : Int), d / (Int.gcd u d : Int))
def sp_law_low : FSpec := fun ds O Z P => ∃ u d, ds = [.int u, .int d] ∧ Sz u d ∧ P (pr (lowP u d)) O
def sp_law_fields : FSpec := fun ds O Z P => ∃ u d v e, ds = [shr u d, pr (v, e)] ∧ 0 < d ∧ 0 < e ∧ Int.gcd v e = 1 ∧ u * e = v * d ∧ P (.bl true) O
/-- a number's text; a share's text -/
def numS (i : Int) : Str := Str.ofString (toString i)
def shTxt (t b : Int) : Str := numS t ++ "/" ++ numS b
def sp_Share_str : FSpec := fun ds O Z P => ∃ u d, ds = [shr u d] ∧ 0 < d ∧ Bd 1500 u ∧ Bd 1500 d ∧ P (.str (shTxt (lowP u d).1 (lowP u d).2)) O
/-- not above sixty digits -/
def unsg (z : Str) : Bool := decide (z.length ≤ 60) && (Txt.isascii z && Txt.isdigit z)
def sp_is_unsigned : FSpec := fun ds O Z P => ∃ z, ds = [.str z] ∧ z.length ≤ 10000 ∧ P (.bl (unsg z)) O
/-- the signs of a text -/
abbrev cs (z : Str) : List Nat := z.cps.toList
/-- a number without a zero too many -/
def digs (l : List Nat) : Bool := decide (1 ≤ l.length ∧ l.length ≤ 60) && ((decide (l.length ≤ 1) || decide (l.head? ≠ some 48)) && l.all fun c => decide (48 ≤ c ∧ c ≤ 57))
def valL (l : List Nat) : Int := ((PySem.NumText.digitsVal l : Nat) : Int)
/-- ahead of the first slash, behind it -/
def cutAt : List Nat → Option (List Nat × List Nat)
  | [] => none
  | c :: r => if c = 47 then some ([], r) else (cutAt r).map fun q => (c :: q.1, q.2)
def isMinus (l : List Nat) : Bool := decide (l.head? = some 45)
/-- the law's own reading of a text -/
def readL (l : List Nat) : Option (Int × Int) := match cutAt l with
  | none => none
  | some (a, b) =>
    let w := if isMinus a then a.tail else a
    if digs w && digs b then
      (if valL b < 1 ∨ (isMinus a = true ∧ valL w = 0) ∨ Int.gcd (valL w) (valL b) ≠ 1 then none else some (if isMinus a then -valL w else valL w, valL b))
    else none
def rdD : Option (Int × Int) → D
  | none => .non
  | some q => pr q
def sp_Share_parse : FSpec := fun ds O Z P => ∃ z, ds = [.str z] ∧ z.length ≤ 10000 ∧ ((readL (cs z) = none ∧ ∀ O', Z "BadShare" [] O') ∨ ∃ t b, readL (cs z) = some (t, b) ∧ P (shr t b) O)
def sp_law_sign : FSpec := fun ds O Z P => ∃ p, ds = [.cell p] ∧ Pool O p ∧ ∀ c O', Upd p O O' → P (.str ⟨#[c]⟩) O'
def sp_law_changed : FSpec := fun ds O Z P => ∃ p z, ds = [.cell p, .str z] ∧ Pool O p ∧ z.length ≤ 5000 ∧ ∀ y O', y.length ≤ z.length + 1 → Upd p O O' → P (.str y) O'
def sp_law_odd_text : FSpec := fun ds O Z P => ∃ p a b, ds = [.cell p, .str a, .str b] ∧ Pool O p ∧ a.length ≤ 500 ∧ b.length ≤ 500 ∧ ∀ y O', y.length ≤ 5000 → Upd p O O' → P (.str y) O'
def sp_law_long_text : FSpec := fun ds O Z P => ∃ p, ds = [.cell p] ∧ Pool O p ∧ ∀ y O', y.length ≤ 5000 → Upd p O O' → P (.str y) O'
def sp_law_second_text : FSpec := fun ds O Z P => ∃ p t b, ds = [.cell p, pr (t, b)] ∧ Pool O p ∧ Bd 200 t ∧ Bd 200 b ∧ ∀ y O', y.length ≤ 10000 → Upd p O O' → P (.str y) O'
def sp_law_digits : FSpec := fun ds O Z P => ∃ z, ds = [.str z] ∧ z.length ≤ 10000 ∧ P (.bl (digs (cs z))) O
def sp_law_read : FSpec := fun ds O Z P => ∃ z, ds = [.str z] ∧ z.length ≤ 10000 ∧ P (rdD (readL (cs z))) O
def sp_law_refused : FSpec := fun ds O Z P => ∃ z, ds = [.str z] ∧ z.length ≤ 10000 ∧ readL (cs z) = none ∧ ∀ O', P (.bl true) O'
def sp_law_text_holds : FSpec := fun ds O Z P => ∃ z, ds = [.str z] ∧ z.length ≤ 10000 ∧ ∀ O', P (.bl true) O'
def sp_law : FSpec := fun ds O Z P => ∃ ns : List Int, ds = [.lst (ns.map D.int)] ∧ ∀ O', P (.bl true) O'
end K02

namespace K02
open PySem L2 L3
/-! Printed by gen.py: what each def does, by its text. -/
/-- Share.__init__(self, top, bottom); names: 0 self, 1 top, 2 bottom, 3 divisor -/
def m_Share_init : MS :=
    (mSeq (mIf (mB (mOp fLt (mVar 2) (mC (.int 1)))) (mRaise "BadShare") mNext)
    (mSeq (mAsg (mCB fGcd (mCons (mVar 1) (mCons (mVar 2) mNil))) (tgName 3))
    (mSeq (mSetA t_tab "top" (mOp fDiv (mVar 1) (mVar 3)) (mVar 0))
    (mSetA t_tab "bottom" (mOp fDiv (mVar 2) (mVar 3)) (mVar 0)))))
/-- Share.__mul__(self, other); names: 0 self, 1 other -/
def m_Share_mul : MS :=
    (mRet (mMake "Share" sp_Share_init 2 [] (mCons (mOp fMul (mFld t_tab "top" (mVar 0)) (mFld t_tab "top" (mVar 1))) (mCons (mOp fMul (mFld t_tab "bottom" (mVar 0)) (mFld t_tab "bottom" (mVar 1))) mNil))))
/-- Share.__eq__(self, other); names: 0 self, 1 other -/
def m_Share_eq : MS :=
    (mRet (mAndV (mIsO "Share" (mVar 1)) (mAndV (mOp (fEq false) (mFld t_tab "top" (mVar 0)) (mFld t_tab "top" (mVar 1))) (mOp (fEq false) (mFld t_tab "bottom" (mVar 0)) (mFld t_tab "bottom" (mVar 1))))))
/-- Share.__str__(self); names: 0 self -/
def m_Share_str : MS :=
    (mRet (mJoin [(mFmt (mFld t_tab "top" (mVar 0))), (mC (.str "/")), (mFmt (mFld t_tab "bottom" (mVar 0)))]))
/-- is_unsigned(text); names: 0 text -/
def m_is_unsigned : MS :=
    (mRet (mAndV (mOp fLe (mCB fLen (mCons (mVar 0) mNil)) (mC (.int 60))) (mAndV (mSM0 fIsascii (mVar 0)) (mSM0 fIsdigit (mVar 0)))))
/-- Share.parse(text); names: 0 text, 1 top, 2 _, 3 bottom, 4 share -/
def m_Share_parse : MS :=
    (mSeq (mAsg (mSM fParti (mVar 0) (mCons (mC (.str "/")) mNil)) (tgTup 3 (tgCons (tgName 1) (tgCons (tgName 2) (tgCons (tgName 3) tgNil)))))
    (mSeq (mIf (mOr (mNot (mTru (mCall sp_is_unsigned 1 (mCons (mSM fRemPre (mVar 1) (mCons (mC (.str "-")) mNil)) mNil)))) (mNot (mTru (mCall sp_is_unsigned 1 (mCons (mVar 3) mNil))))) (mRaise "BadShare") mNext)
    (mSeq (mAsg (mMake "Share" sp_Share_init 2 [] (mCons (mCB fInt1 (mCons (mVar 1) mNil)) (mCons (mCB fInt1 (mCons (mVar 3) mNil)) mNil))) (tgName 4))
    (mSeq (mIf (mB (mOp (fEq true) (mCB (fStrO "Share" sp_Share_str) (mCons (mVar 4) mNil)) (mVar 0))) (mRaise "BadShare") mNext)
    (mRet (mVar 4))))))
/-- _law_int(x); names: 0 x -/
def m_law_int : MS :=
    (mRet (mAndV (mIsT .int (mVar 0)) (mNotV (mIsT .bool (mVar 0)))))
/-- _law_pool(script, at); names: 0 script, 1 at, 2 cell, 3 kind -/
def m_law_pool : MS :=
    (mSeq (mAsg (mC (.int 0)) (tgName 2))
    (mSeq (mIf (mB (mOp fLt (mVar 1) (mCB fLen (mCons (mVar 0) mNil)))) (mAsg (mCB fAbs (mCons (mCB fInt1 (mCons (mOp fIx (mVar 0) (mVar 1)) mNil)) mNil)) (tgName 2)) mNext)
    (mSeq (mAsg (mOp fAdd (mCB fInt1 (mCons (mOp fGt (mVar 2) (mC (.int 0))) mNil)) (mCB fInt1 (mCons (mOp fGe (mVar 2) (mOp fPow (mC (.int 10)) (mC (.int 18)))) mNil))) (tgName 3))
    (mRet (mLst (mCons (mVar 2) (mCons (mOp fMod (mCB fInt1 (mCons (mVar 2) mNil)) (mC (.int 2147483629))) (mCons (mC (.int 0)) (mCons (mVar 3) mNil)))))))))
/-- _law_stirred(script, at); names: 0 script, 1 at, 2 pool, 3 cell -/
def m_law_stirred : MS :=
    (mSeq (mAsg (mCall sp_law_pool 2 (mCons (mVar 0) (mCons (mVar 1) mNil))) (tgName 2))
    (mSeq (mFor (mSlice (mVar 0) mNone (mSome (mC (.int 6)))) (tgName 3) (mAsg (mOp fMod (mCB fInt1 (mCons (mOp fAdd (mOp fMul (mOp fIx (mVar 2) (mC (.int 1))) (mC (.int 69069))) (mVar 3)) mNil)) (mC (.int 2147483629))) (tgIx (mVar 2) (mC (.int 1)))))
    (mRet (mVar 2))))
/-- _law_draw(pool, many); names: 0 pool, 1 many, 2 got, 3 x -/
def m_law_draw : MS :=
    (mSeq (mAsg (mOp fAdd (mOp fIx (mVar 0) (mC (.int 2))) (mC (.int 1))) (tgIx (mVar 0) (mC (.int 2))))
    (mSeq (mIf (mOr (mB (mOp (fEq false) (mOp fIx (mVar 0) (mC (.int 3))) (mC (.int 0)))) (mB (mOp fLt (mVar 1) (mC (.int 2))))) (mRet (mC (.int 0))) mNext)
    (mSeq (mIf (mAnd (mB (mOp (fEq false) (mOp fIx (mVar 0) (mC (.int 3))) (mC (.int 2)))) (mB (mOp fGt (mOp fIx (mVar 0) (mC (.int 0))) (mC (.int 0))))) (mSeq (mAsg (mOp fMod (mCB fInt1 (mCons (mOp fIx (mVar 0) (mC (.int 0))) mNil)) (mVar 1)) (tgName 2))
    (mSeq (mAsg (mOp fDiv (mOp fIx (mVar 0) (mC (.int 0))) (mVar 1)) (tgIx (mVar 0) (mC (.int 0))))
    (mRet (mVar 2)))) mNext)
    (mSeq (mAsg (mOp fMod (mCB fInt1 (mCons (mOp fAdd (mOp fAdd (mOp fMul (mOp fIx (mVar 0) (mC (.int 1))) (mC (.int 48271))) (mOp fMul (mOp fIx (mVar 0) (mC (.int 2))) (mC (.int 69621)))) (mC (.int 17))) mNil)) (mC (.int 2147483647))) (tgName 3))
    (mSeq (mAsg (mOp fMod (mCB fInt1 (mCons (mOp fAdd (mOp fMul (mVar 3) (mVar 3)) (mOp fIx (mVar 0) (mC (.int 2)))) mNil)) (mC (.int 2147483629))) (tgName 3))
    (mSeq (mAsg (mOp fMod (mCB fInt1 (mCons (mOp fAdd (mOp fMul (mVar 3) (mVar 3)) (mOp fIx (mVar 0) (mC (.int 1)))) mNil)) (mC (.int 2147483587))) (tgName 3))
    (mRet (mOp fMod (mCB fInt1 (mCons (mOp fDiv (mVar 3) (mC (.int 16))) mNil)) (mVar 1)))))))))
/-- _law_size(pool); names: 0 pool, 1 kind, 2 total, 3 k -/
def m_law_size : MS :=
    (mSeq (mAsg (mCall sp_law_draw 2 (mCons (mVar 0) (mCons (mC (.int 4)) mNil))) (tgName 1))
    (mSeq (mIf (mB (mOp (fEq false) (mVar 1) (mC (.int 0)))) (mRet (mCall sp_law_draw 2 (mCons (mVar 0) (mCons (mC (.int 12)) mNil)))) mNext)
    (mSeq (mIf (mB (mOp (fEq false) (mVar 1) (mC (.int 1)))) (mRet (mCall sp_law_draw 2 (mCons (mVar 0) (mCons (mOp fPow (mC (.int 10)) (mC (.int 8))) mNil)))) mNext)
    (mSeq (mIf (mB (mOp (fEq false) (mVar 1) (mC (.int 2)))) (mRet (mOp fIx (mLst (mCons (mOp fSub (mOp fPow (mC (.int 10)) (mC (.int 60))) (mC (.int 1))) (mCons (mOp fPow (mC (.int 10)) (mC (.int 59))) (mCons (mOp fPow (mC (.int 2)) (mC (.int 64))) (mCons (mOp fSub (mOp fPow (mC (.int 2)) (mC (.int 63))) (mC (.int 1))) (mCons (mOp fPow (mC (.int 10)) (mC (.int 30))) (mCons (mOp fAdd (mOp fPow (mC (.int 10)) (mC (.int 18))) (mC (.int 9))) (mCons (mC (.int 255)) (mCons (mC (.int 100)) mNil))))))))) (mCall sp_law_draw 2 (mCons (mVar 0) (mCons (mC (.int 8)) mNil))))) mNext)
    (mSeq (mAsg (mC (.int 0)) (tgName 2))
    (mSeq (mForR1 (mCons (mC (.int 10)) mNil) (tgName 3) (mAsg (mOp fAdd (mOp fMul (mVar 2) (mOp fPow (mC (.int 10)) (mC (.int 6)))) (mCall sp_law_draw 2 (mCons (mVar 0) (mCons (mOp fPow (mC (.int 10)) (mC (.int 6))) mNil)))) (tgName 2)))
    (mRet (mVar 2))))))))
/-- _law_fraction(pool); names: 0 pool, 1 up, 2 down, 3 k -/
def m_law_fraction : MS :=
    (mSeq (mAsg (mCall sp_law_size 1 (mCons (mVar 0) mNil)) (tgName 1))
    (mSeq (mAsg (mCB fMax2 (mCons (mC (.int 1)) (mCons (mCall sp_law_size 1 (mCons (mVar 0) mNil)) mNil))) (tgName 2))
    (mSeq (mIf (mB (mOp (fEq false) (mCall sp_law_draw 2 (mCons (mVar 0) (mCons (mC (.int 3)) mNil))) (mC (.int 1)))) (mSeq (mAsg (mCB fMax2 (mCons (mC (.int 1)) (mCons (mOp fMod (mCB fInt1 (mCons (mCall sp_law_size 1 (mCons (mVar 0) mNil)) mNil)) (mOp fPow (mC (.int 10)) (mC (.int 30)))) mNil))) (tgName 3))
    (mSeq (mAsg (mOp fMul (mOp fMod (mCB fInt1 (mCons (mVar 1) mNil)) (mOp fPow (mC (.int 10)) (mC (.int 30)))) (mVar 3)) (tgName 1))
    (mAsg (mOp fMul (mCB fMax2 (mCons (mC (.int 1)) (mCons (mOp fMod (mCB fInt1 (mCons (mVar 2) mNil)) (mOp fPow (mC (.int 10)) (mC (.int 30)))) mNil))) (mVar 3)) (tgName 2)))) mNext)
    (mSeq (mIf (mB (mOp (fEq false) (mCall sp_law_draw 2 (mCons (mVar 0) (mCons (mC (.int 2)) mNil))) (mC (.int 1)))) (mAsg (mUn fNeg (mVar 1)) (tgName 1)) mNext)
    (mRet (mTup (mCons (mVar 1) (mCons (mVar 2) mNil))))))))
/-- _law_low(up, down); names: 0 up, 1 down, 2 x, 3 y -/
def m_law_low : MS :=
    (mSeq (mAsg (mCB fAbs (mCons (mVar 0) mNil)) (tgName 2))
    (mSeq (mAsg (mVar 1) (tgName 3))
    (mSeq (mWhile (mB (mOp fGt (mVar 3) (mC (.int 0)))) (mPar 2 3 (mCons (mVar 3) (mCons (mOp fMod (mCB fInt1 (mCons (mVar 2) mNil)) (mVar 3)) mNil))))
    (mRet (mTup (mCons (mOp fDiv (mVar 0) (mVar 2)) (mCons (mOp fDiv (mVar 1) (mVar 2)) mNil)))))))
/-- _law_sign(pool); names: 0 pool, 1 signs -/
def m_law_sign : MS :=
    (mSeq (mIf (mB (mOp fGt (mCall sp_law_draw 2 (mCons (mVar 0) (mCons (mC (.int 3)) mNil))) (mC (.int 0)))) (mRet (mOp fIx (mC (.str "0123456789/-+ _.")) (mCall sp_law_draw 2 (mCons (mVar 0) (mCons (mC (.int 16)) mNil))))) mNext)
    (mSeq (mAsg (mC (.str " !\"#$&'()*+,-./0123456789:;<=>?@ABCDEFGHIJKLMNOPQRSTUVWXYZ[\\]^_`")) (tgName 1))
    (mSeq (mAsg (mOp fAdd (mVar 1) (mC (.str "abcdefghijklmnopqrstuvwxyz{|}~\n\t"))) (tgName 1))
    (mRet (mOp fIx (mVar 1) (mCall sp_law_draw 2 (mCons (mVar 0) (mCons (mC (.int 96)) mNil))))))))
/-- _law_changed(pool, text); names: 0 pool, 1 text, 2 at, 3 way, 4 sign -/
def m_law_changed : MS :=
    (mSeq (mAsg (mCall sp_law_draw 2 (mCons (mVar 0) (mCons (mOp fAdd (mCB fLen (mCons (mVar 1) mNil)) (mC (.int 1))) mNil))) (tgName 2))
    (mSeq (mAsg (mCall sp_law_draw 2 (mCons (mVar 0) (mCons (mC (.int 3)) mNil))) (tgName 3))
    (mSeq (mAsg (mCall sp_law_sign 1 (mCons (mVar 0) mNil)) (tgName 4))
    (mSeq (mIf (mB (mOp (fEq false) (mVar 3) (mC (.int 0)))) (mRet (mOp fAdd (mOp fAdd (mSlice (mVar 1) mNone (mSome (mVar 2))) (mVar 4)) (mSlice (mVar 1) (mSome (mVar 2)) mNone))) mNext)
    (mSeq (mIf (mB (mOp (fEq false) (mVar 3) (mC (.int 1)))) (mRet (mOp fAdd (mOp fAdd (mSlice (mVar 1) mNone (mSome (mVar 2))) (mVar 4)) (mSlice (mVar 1) (mSome (mOp fAdd (mVar 2) (mC (.int 1)))) mNone))) mNext)
    (mRet (mOp fAdd (mSlice (mVar 1) mNone (mSome (mVar 2))) (mSlice (mVar 1) (mSome (mOp fAdd (mVar 2) (mC (.int 1)))) mNone))))))))
/-- _law_odd_text(pool, top, low); names: 0 pool, 1 top, 2 low, 3 whole, 4 odd -/
def m_law_odd_text : MS :=
    (mSeq (mAsg (mOp fAdd (mOp fAdd (mVar 1) (mC (.str "/"))) (mVar 2)) (tgName 3))
    (mSeq (mAsg (mLst (mCons (mC (.str "")) (mCons (mC (.str "/")) (mCons (mC (.str "-")) (mCons (mVar 1) (mCons (mVar 2) (mCons (mOp fAdd (mVar 1) (mC (.str "/"))) (mCons (mOp fAdd (mC (.str "/")) (mVar 2)) (mCons (mOp fAdd (mC (.str "-")) (mVar 3)) (mCons (mOp fAdd (mC (.str "+")) (mVar 3)) (mCons (mOp fAdd (mC (.str "0")) (mVar 3)) (mCons (mOp fAdd (mOp fAdd (mVar 1) (mC (.str "/0"))) (mVar 2)) mNil)))))))))))) (tgName 4))
    (mSeq (mAsg (mOp fAdd (mVar 4) (mLst (mCons (mOp fAdd (mOp fAdd (mVar 1) (mC (.str "//"))) (mVar 2)) (mCons (mOp fAdd (mOp fAdd (mVar 1) (mC (.str "/-"))) (mVar 2)) (mCons (mOp fAdd (mOp fAdd (mVar 1) (mC (.str "/+"))) (mVar 2)) (mCons (mOp fAdd (mVar 3) (mC (.str "/1"))) (mCons (mOp fAdd (mVar 3) (mC (.str "\n"))) (mCons (mOp fAdd (mC (.str " ")) (mVar 3)) mNil)))))))) (tgName 4))
    (mSeq (mAsg (mOp fAdd (mVar 4) (mLst (mCons (mOp fAdd (mVar 3) (mC (.str " "))) (mCons (mOp fAdd (mOp fAdd (mVar 1) (mC (.str " /"))) (mVar 2)) (mCons (mOp fAdd (mOp fAdd (mVar 1) (mC (.str "/ "))) (mVar 2)) (mCons (mOp fAdd (mOp fAdd (mVar 1) (mC (.str "\\"))) (mVar 2)) (mCons (mOp fAdd (mVar 1) (mC (.str "/0"))) (mCons (mOp fAdd (mC (.str "0/")) (mVar 2)) (mCons (mC (.str "-0/1")) mNil))))))))) (tgName 4))
    (mSeq (mAsg (mOp fAdd (mVar 4) (mLst (mCons (mC (.str "0/0")) (mCons (mC (.str "00/1")) (mCons (mOp fAdd (mC (.str "-/")) (mVar 2)) (mCons (mOp fAdd (mOp fAdd (mVar 1) (mC (.str ".0/"))) (mVar 2)) (mCons (mC (.str "1_0/3")) (mCons (mOp fAdd (mVar 3) (mVar 3)) mNil)))))))) (tgName 4))
    (mSeq (mIf (mB (mOp (fEq false) (mCall sp_law_draw 2 (mCons (mVar 0) (mCons (mC (.int 4)) mNil))) (mC (.int 1)))) (mAsg (mLst (mCons (mOp fAdd (mVar 3) (mC (.str "\n"))) (mCons (mOp fAdd (mC (.str " ")) (mVar 3)) (mCons (mOp fAdd (mVar 3) (mC (.str " "))) (mCons (mOp fAdd (mC (.str "\t")) (mVar 3)) mNil))))) (tgName 4)) mNext)
    (mRet (mOp fIx (mVar 4) (mCall sp_law_draw 2 (mCons (mVar 0) (mCons (mCB fLen (mCons (mVar 4) mNil)) mNil)))))))))))
/-- _law_long_text(pool); names: 0 pool, 1 size, 2 many -/
def m_law_long_text : MS :=
    (mSeq (mAsg (mOp fIx (mLst (mCons (mC (.int 60)) (mCons (mC (.int 61)) (mCons (mC (.int 62)) (mCons (mC (.int 60)) (mCons (mC (.int 61)) (mCons (mC (.int 4400)) mNil))))))) (mCall sp_law_draw 2 (mCons (mVar 0) (mCons (mC (.int 6)) mNil)))) (tgName 1))
    (mSeq (mAsg (mOp fAdd (mOp fAdd (mOp fIx (mC (.str "123456789")) (mCall sp_law_draw 2 (mCons (mVar 0) (mCons (mC (.int 9)) mNil)))) (mOp fMul (mC (.str "0")) (mOp fSub (mVar 1) (mC (.int 2))))) (mC (.str "1"))) (tgName 2))
    (mRet (mOp fIx (mLst (mCons (mOp fAdd (mVar 2) (mC (.str "/1"))) (mCons (mOp fAdd (mOp fAdd (mC (.str "-")) (mVar 2)) (mC (.str "/1"))) (mCons (mOp fAdd (mC (.str "1/")) (mVar 2)) (mCons (mOp fAdd (mC (.str "-1/")) (mVar 2)) mNil))))) (mCall sp_law_draw 2 (mCons (mVar 0) (mCons (mC (.int 4)) mNil)))))))
/-- _law_second_text(pool, low); names: 0 pool, 1 low, 2 text, 3 way, 4 k -/
def m_law_second_text : MS :=
    (mSeq (mAsg (mOp fAdd (mOp fAdd (mCB fStr1 (mCons (mOp fIx (mVar 1) (mC (.int 0))) mNil)) (mC (.str "/"))) (mCB fStr1 (mCons (mOp fIx (mVar 1) (mC (.int 1))) mNil))) (tgName 2))
    (mSeq (mAsg (mCall sp_law_draw 2 (mCons (mVar 0) (mCons (mC (.int 10)) mNil))) (tgName 3))
    (mSeq (mIf (mOr (mB (mOp (fEq false) (mVar 3) (mC (.int 1)))) (mB (mOp (fEq false) (mVar 3) (mC (.int 2))))) (mRet (mCall sp_law_changed 2 (mCons (mVar 0) (mCons (mVar 2) mNil)))) mNext)
    (mSeq (mIf (mB (mOp (fEq false) (mVar 3) (mC (.int 3)))) (mRet (mCall sp_law_changed 2 (mCons (mVar 0) (mCons (mCall sp_law_changed 2 (mCons (mVar 0) (mCons (mVar 2) mNil))) mNil)))) mNext)
    (mSeq (mIf (mB (mOp (fEq false) (mVar 3) (mC (.int 4)))) (mSeq (mAsg (mOp fAdd (mC (.int 1)) (mCall sp_law_draw 2 (mCons (mVar 0) (mCons (mC (.int 12)) mNil)))) (tgName 4))
    (mRet (mOp fAdd (mOp fAdd (mCB fStr1 (mCons (mOp fMul (mOp fIx (mVar 1) (mC (.int 0))) (mVar 4)) mNil)) (mC (.str "/"))) (mCB fStr1 (mCons (mOp fMul (mOp fIx (mVar 1) (mC (.int 1))) (mVar 4)) mNil))))) mNext)
    (mSeq (mIf (mOr (mB (mOp (fEq false) (mVar 3) (mC (.int 5)))) (mB (mOp (fEq false) (mVar 3) (mC (.int 6))))) (mRet (mCall sp_law_odd_text 3 (mCons (mVar 0) (mCons (mCB fStr1 (mCons (mOp fIx (mVar 1) (mC (.int 0))) mNil)) (mCons (mCB fStr1 (mCons (mOp fIx (mVar 1) (mC (.int 1))) mNil)) mNil))))) mNext)
    (mSeq (mIf (mOr (mB (mOp (fEq false) (mVar 3) (mC (.int 7)))) (mB (mOp (fEq false) (mVar 3) (mC (.int 8))))) (mRet (mCall sp_law_long_text 1 (mCons (mVar 0) mNil))) mNext)
    (mSeq (mIf (mB (mOp (fEq false) (mVar 3) (mC (.int 9)))) (mSeq (mAsg (mC (.str "")) (tgName 2))
    (mForR1 (mCons (mCall sp_law_draw 2 (mCons (mVar 0) (mCons (mC (.int 10)) mNil))) mNil) (tgName 4) (mAsg (mOp fAdd (mVar 2) (mCall sp_law_sign 1 (mCons (mVar 0) mNil))) (tgName 2)))) mNext)
    (mRet (mVar 2))))))))))
/-- _law_digits(word); names: 0 word, 1 sign -/
def m_law_digits : MS :=
    (mSeq (mIf (mOr (mB (mOp fLt (mCB fLen (mCons (mVar 0) mNil)) (mC (.int 1)))) (mOr (mB (mOp fGt (mCB fLen (mCons (mVar 0) mNil)) (mC (.int 60)))) (mAnd (mB (mOp fGt (mCB fLen (mCons (mVar 0) mNil)) (mC (.int 1)))) (mB (mOp (fEq false) (mOp fIx (mVar 0) (mC (.int 0))) (mC (.str "0"))))))) (mRet (mC (.bl false))) mNext)
    (mSeq (mFor (mVar 0) (tgName 1) (mIf (mB (mOp (fInS true) (mVar 1) (mC (.str "0123456789")))) (mRet (mC (.bl false))) mNext))
    (mRet (mC (.bl true)))))
/-- _law_read(text); names: 0 text, 1 at, 2 top, 3 minus, 4 up, 5 down -/
def m_law_read : MS :=
    (mSeq (mAsg (mSM fFind (mVar 0) (mCons (mC (.str "/")) mNil)) (tgName 1))
    (mSeq (mIf (mB (mOp fLt (mVar 1) (mC (.int 0)))) (mRet (mC .non)) mNext)
    (mSeq (mAsg (mSlice (mVar 0) mNone (mSome (mVar 1))) (tgName 2))
    (mSeq (mAsg (mOp (fEq false) (mSlice (mVar 2) mNone (mSome (mC (.int 1)))) (mC (.str "-"))) (tgName 3))
    (mSeq (mIf (mTru (mVar 3)) (mAsg (mSlice (mVar 2) (mSome (mC (.int 1))) mNone) (tgName 2)) mNext)
    (mSeq (mIf (mOr (mNot (mTru (mCall sp_law_digits 1 (mCons (mVar 2) mNil)))) (mNot (mTru (mCall sp_law_digits 1 (mCons (mSlice (mVar 0) (mSome (mOp fAdd (mVar 1) (mC (.int 1)))) mNone) mNil))))) (mRet (mC .non)) mNext)
    (mSeq (mPar 4 5 (mCons (mCB fInt1 (mCons (mVar 2) mNil)) (mCons (mCB fInt1 (mCons (mSlice (mVar 0) (mSome (mOp fAdd (mVar 1) (mC (.int 1)))) mNone) mNil)) mNil)))
    (mSeq (mIf (mOr (mB (mOp fLt (mVar 5) (mC (.int 1)))) (mOr (mAnd (mTru (mVar 3)) (mB (mOp (fEq false) (mVar 4) (mC (.int 0))))) (mB (mOp (fEq true) (mCall sp_law_low 2 (mCons (mVar 4) (mCons (mVar 5) mNil))) (mTup (mCons (mVar 4) (mCons (mVar 5) mNil))))))) (mRet (mC .non)) mNext)
    (mSeq (mIf (mTru (mVar 3)) (mRet (mTup (mCons (mUn fNeg (mVar 4)) (mCons (mVar 5) mNil)))) mNext)
    (mRet (mTup (mCons (mVar 4) (mCons (mVar 5) mNil)))))))))))))
/-- _law_fields(told, due); names: 0 told, 1 due -/
def m_law_fields : MS :=
    (mSeq (mIf (mOr (mNot (mTru (mIsO "Share" (mVar 0)))) (mOr (mNot (mTru (mCall sp_law_int 1 (mCons (mFld t_tab "top" (mVar 0)) mNil)))) (mNot (mTru (mCall sp_law_int 1 (mCons (mFld t_tab "bottom" (mVar 0)) mNil)))))) (mRet (mC (.bl false))) mNext)
    (mRet (mAndV (mOp (fEq false) (mFld t_tab "top" (mVar 0)) (mOp fIx (mVar 1) (mC (.int 0)))) (mOp (fEq false) (mFld t_tab "bottom" (mVar 0)) (mOp fIx (mVar 1) (mC (.int 1)))))))
/-- _law_refused(text); names: 0 text, 1 good, 2 e -/
def m_law_refused : MS :=
    (mSeq (mAsg (mC (.bl false)) (tgName 1))
    (mSeq (mTry 2 t_exs (mDrop (mCall sp_Share_parse 1 (mCons (mVar 0) mNil))) fun C fs a => sui fs (some (mSeq (mAsg (mAndV (mIsE 2 a (decide (C = "BadShare"))) (mIsE 2 a true)) (tgName 1))
    (mIf (mTru (mIsE 2 a (decide (C ∈ (["BadText", "BadBook", "BadMove", "BadProgram", "BadPlan", "Unfit", "TooLarge", "BadEdit"] : List Str))))) (mAsg (mC (.bl false)) (tgName 1)) mNext))))
    (mRet (mVar 1))))
/-- _law_text_holds(text); names: 0 text, 1 due, 2 told -/
def m_law_text_holds : MS :=
    (mSeq (mAsg (mCall sp_law_read 1 (mCons (mVar 0) mNil)) (tgName 1))
    (mSeq (mIf (mB (mOp (fIsN false) (mVar 1) (mC .non))) (mRet (mCall sp_law_refused 1 (mCons (mVar 0) mNil))) mNext)
    (mSeq (mAsg (mCall sp_Share_parse 1 (mCons (mVar 0) mNil)) (tgName 2))
    (mRet (mAndV (mCall sp_law_fields 2 (mCons (mVar 2) (mCons (mVar 1) mNil))) (mOp (fEq false) (mCB (fStrO "Share" sp_Share_str) (mCons (mVar 2) mNil)) (mVar 0)))))))
/-- law(script); names: 0 script, 1 up, 2 down, 3 low, 4 text, 5 second, 6 one, 7 product, 8 due, 9 k, 10 again -/
def m_law : MS :=
    (mSeq (mAsg (mCall sp_law_fraction 1 (mCons (mCall sp_law_stirred 2 (mCons (mVar 0) (mCons (mC (.int 0)) mNil))) mNil)) (tgTup 2 (tgCons (tgName 1) (tgCons (tgName 2) tgNil))))
    (mSeq (mAsg (mCall sp_law_low 2 (mCons (mVar 1) (mCons (mVar 2) mNil))) (tgName 3))
    (mSeq (mAsg (mOp fAdd (mOp fAdd (mCB (fStrO "Share" sp_Share_str) (mCons (mOp fIx (mVar 3) (mC (.int 0))) mNil)) (mC (.str "/"))) (mCB (fStrO "Share" sp_Share_str) (mCons (mOp fIx (mVar 3) (mC (.int 1))) mNil))) (tgName 4))
    (mSeq (mAsg (mCall sp_law_second_text 2 (mCons (mCall sp_law_stirred 2 (mCons (mVar 0) (mCons (mC (.int 1)) mNil))) (mCons (mVar 3) mNil))) (tgName 5))
    (mSeq (mAsg (mMake "Share" sp_Share_init 2 [] (mCons (mVar 1) (mCons (mVar 2) mNil))) (tgName 6))
    (mSeq (mAsg (mVar 6) (tgName 7))
    (mSeq (mAsg (mVar 3) (tgName 8))
    (mSeq (mForR1 (mCons (mCall sp_law_draw 2 (mCons (mCall sp_law_stirred 2 (mCons (mVar 0) (mCons (mC (.int 2)) mNil))) (mCons (mC (.int 6)) mNil))) mNil) (tgName 9) (mSeq (mAsg (mOp (fOwn "Share" sp_Share_mul fMul) (mVar 7) (mVar 6)) (tgName 7))
    (mAsg (mTup (mCons (mOp (fOwn "Share" sp_Share_mul fMul) (mOp fIx (mVar 8) (mC (.int 0))) (mOp fIx (mVar 3) (mC (.int 0)))) (mCons (mOp (fOwn "Share" sp_Share_mul fMul) (mOp fIx (mVar 8) (mC (.int 1))) (mOp fIx (mVar 3) (mC (.int 1)))) mNil))) (tgName 8))))
    (mSeq (mIf (mOr (mB (mOp (fEq true) (mCB (fStrO "Share" sp_Share_str) (mCons (mVar 6) mNil)) (mVar 4))) (mB (mOp (fEq true) (mCB (fStrO "Share" sp_Share_str) (mCons (mVar 7) mNil)) (mOp fAdd (mOp fAdd (mCB (fStrO "Share" sp_Share_str) (mCons (mOp fIx (mVar 8) (mC (.int 0))) mNil)) (mC (.str "/"))) (mCB (fStrO "Share" sp_Share_str) (mCons (mOp fIx (mVar 8) (mC (.int 1))) mNil)))))) (mRet (mC (.bl false))) mNext)
    (mSeq (mIf (mOr (mNot (mTru (mCall sp_law_text_holds 1 (mCons (mVar 5) mNil)))) (mOr (mNot (mTru (mCall sp_law_text_holds 1 (mCons (mVar 4) mNil)))) (mNot (mTru (mCall sp_law_text_holds 1 (mCons (mVar 5) mNil)))))) (mRet (mC (.bl false))) mNext)
    (mSeq (mIf (mNot (mTru (mCall sp_law_text_holds 1 (mCons (mOp fAdd (mOp fAdd (mCB (fStrO "Share" sp_Share_str) (mCons (mOp fIx (mVar 8) (mC (.int 0))) mNil)) (mC (.str "/"))) (mCB (fStrO "Share" sp_Share_str) (mCons (mOp fIx (mVar 8) (mC (.int 1))) mNil))) mNil)))) (mRet (mC (.bl false))) mNext)
    (mSeq (mAsg (mStatI "Share" "parse" sp_Share_parse 1 (mVar 6) (mCons (mVar 4) mNil)) (tgName 10))
    (mRet (mAndV (mCall sp_law_fields 2 (mCons (mVar 10) (mCons (mVar 3) mNil))) (mAndV (mCall sp_law_fields 2 (mCons (mVar 6) (mCons (mVar 3) mNil))) (mOp (fEqOwn "Share" sp_Share_eq) (mCB (fStrO "Share" sp_Share_str) (mCons (mVar 10) mNil)) (mVar 4)))))))))))))))))
end K02

namespace K02
open PySem L2 L3
def numL (n : Nat) : List Nat := (Nat.toDigits 10 n).map Char.toNat
/-- a number's signs -/
def numI (i : Int) : List Nat := if i < 0 then 45 :: numL i.natAbs else numL i.natAbs
section
open PySem.W PySem.Calls PySem.NumText PyProof.Rows
theorem cs_num (i : Int) : cs (numS i) = numI i := by
  unfold numI
  by_cases h : i < 0
  · rw [if_pos h]
    obtain ⟨n, rfl⟩ := Int.eq_negSucc_of_lt_zero h
    show (PySem.Str.ofString (toString (Int.negSucc n))).cps.toList = 45 :: numL (n + 1)
    rw [signs_ofString]
    show ("-" ++ Nat.repr (n + 1)).toList.map Char.toNat = _
    rw [String.toList_append, List.map_append, Nat.toList_repr]
    rfl
  · rw [if_neg h]
    obtain ⟨m, rfl⟩ := Int.eq_ofNat_of_zero_le (Int.not_lt.mp h)
    exact KIN.signs_num m
theorem numL_val (n : Nat) : PySem.NumText.digitsVal (numL n) = n := KIN.val_back n
theorem numL_digit {n c : Nat} (h : c ∈ numL n) : 48 ≤ c ∧ c ≤ 57 := by
  obtain ⟨ch, hch, e⟩ := List.mem_map.mp h
  have r := digit_range (Nat.isDigit_of_mem_toDigits (by decide) (by decide) hch)
  rw [← e]
  exact r
theorem char_back : ∀ c, c < 128 → (Char.ofNat c).toNat = c := by decide +kernel
theorem digs_ok {l : List Nat} (h : digs l = true) : 1 ≤ l.length ∧ l.length ≤ 60 ∧ (l.length ≤ 1 ∨ l.head? ≠ some 48) ∧ ∀ c ∈ l, 48 ≤ c ∧ c ≤ 57 := by
  unfold digs at h
  simp only [Bool.and_eq_true, Bool.or_eq_true, decide_eq_true_eq, List.all_eq_true] at h
  exact ⟨h.1.1, h.1.2, h.2.1, h.2.2⟩
theorem digs_of {l : List Nat} (h1 : 1 ≤ l.length) (h2 : l.length ≤ 60) (h3 : l.length ≤ 1 ∨ l.head? ≠ some 48) (h4 : ∀ c ∈ l, 48 ≤ c ∧ c ≤ 57) : digs l = true := by
  unfold digs
  simp only [Bool.and_eq_true, Bool.or_eq_true, decide_eq_true_eq, List.all_eq_true]
  exact ⟨⟨h1, h2⟩, h3, h4⟩
theorem canon {l : List Nat} (h : digs l = true) : numL (digitsVal l) = l := by
  obtain ⟨h1, _, h3, h4⟩ := digs_ok h
  cases l with
  | nil => simp at h1
  | cons c r =>
    have hd : AllDigits (c :: r) := fun x hx => h4 x hx
    have key : Nat.toDigits 10 (digitsVal (c :: r)) = (c :: r).map Char.ofNat := by
      refine toDigits_digitsVal r.length (c :: r) rfl hd ?_
      rcases h3 with h3 | h3
      · left
        simp only [List.length_cons] at h3
        omega
      · right
        refine ⟨c, r, rfl, ?_⟩
        have := (h4 c List.mem_cons_self).1
        have : c ≠ 48 := fun e => h3 (by rw [e]; rfl)
        omega
    unfold numL
    rw [key, List.map_map]
    have e : (c :: r).map (Char.toNat ∘ Char.ofNat) = (c :: r).map id := by
      refine List.map_congr_left fun x hx => ?_
      exact char_back x (by have := (h4 x hx).2; omega)
    rw [e, List.map_id]
theorem numL_ne (n : Nat) : 1 ≤ (numL n).length := by
  unfold numL
  rw [List.length_map]
  cases e : Nat.toDigits 10 n with
  | nil =>
    have := numL_val n
    unfold numL at this
    rw [e] at this
    have h0 : n = 0 := this.symm
    subst h0
    exact absurd e (by decide)
  | cons c r => simp
/-- a number's signs have no zero ahead -/
theorem numL_head (n : Nat) : (numL n).length ≤ 1 ∨ (numL n).head? ≠ some 48 := by
  by_cases h : (numL n).length ≤ 1
  · exact .inl h
  · refine .inr fun hh => h ?_
    have hall : AllDigits (numL n) := fun c hc => numL_digit hc
    have e := toDigits_all (numL n) hall
    rw [numL_val] at e
    have e2 : numL n = ((match (numL n).dropWhile (· == 48) with
      | [] => ['0']
      | c :: r => (c :: r).map Char.ofNat)).map Char.toNat := congrArg (List.map Char.toNat) e
    cases q : numL n with
    | nil => simp
    | cons c r =>
      rw [q] at hh
      have hc : c = 48 := by simpa using hh
      subst hc
      rw [q] at e2
      rw [List.dropWhile_cons] at e2
      simp only [beq_self_eq_true, if_true] at e2
      have hlen : (48 :: r).length ≤ max 1 r.length := by
        have := congrArg List.length e2
        rw [this]
        cases q2 : r.dropWhile (· == 48) with
        | nil =>
          simp only [List.map_cons, List.map_nil, List.length_cons, List.length_nil]
          omega
        | cons d r2 =>
          have l1 : (r.dropWhile (· == 48)).length ≤ r.length := (List.dropWhile_sublist _).length_le
          rw [q2] at l1
          simp only [List.length_map]
          omega
      simp only [List.length_cons] at hlen ⊢
      omega
end
theorem cutAt_none : ∀ {l : List Nat}, cutAt l = none → 47 ∉ l
  | [], _ => by simp
  | c :: r, h => by
    unfold cutAt at h
    split at h
    · cases h
    · rename_i hc
      cases q : cutAt r with
      | none =>
        have := cutAt_none q
        simp only [List.mem_cons, not_or]
        exact ⟨fun e => hc e.symm, this⟩
      | some x => rw [q] at h; cases h
theorem cutAt_some : ∀ {l a b : List Nat}, cutAt l = some (a, b) → l = a ++ 47 :: b ∧ 47 ∉ a
  | [], _, _, h => by cases h
  | c :: r, a, b, h => by
    unfold cutAt at h
    split at h
    · rename_i hc
      cases h
      exact ⟨by rw [hc]; rfl, by simp⟩
    · rename_i hc
      cases q : cutAt r with
      | none => rw [q] at h; cases h
      | some x =>
        rw [q] at h
        obtain ⟨x1, x2⟩ := x
        cases h
        obtain ⟨h1, h2⟩ := cutAt_some q
        refine ⟨by rw [h1]; rfl, ?_⟩
        simp only [List.mem_cons, not_or]
        exact ⟨fun e => hc e.symm, h2⟩
theorem cutAt_app : ∀ {a b : List Nat}, 47 ∉ a → cutAt (a ++ 47 :: b) = some (a, b)
  | [], b, _ => by
    show (if 47 = 47 then some ([], b) else _) = _
    rw [if_pos rfl]
  | c :: a, b, h => by
    simp only [List.mem_cons, not_or] at h
    show (if c = 47 then some ([], a ++ 47 :: b) else (cutAt (a ++ 47 :: b)).map fun q => (c :: q.1, q.2)) = _
    rw [if_neg (fun e => h.1 e.symm), cutAt_app h.2]
    rfl
theorem numI_slash (i : Int) : 47 ∉ numI i := by
  unfold numI
  intro h
  split at h
  · rcases List.mem_cons.mp h with e | e
    · cases e
    · have := numL_digit e
      omega
  · have := numL_digit h
    omega
theorem cs_shTxt (t b : Int) : cs (shTxt t b) = numI t ++ 47 :: numI b := by
  unfold shTxt cs
  rw [PySem.Str.cps_append, PySem.Str.cps_append]
  simp only [Array.toList_append]
  have h1 := cs_num t
  have h2 := cs_num b
  unfold cs at h1 h2
  rw [h1, h2]
  show numI t ++ [47] ++ numI b = _
  simp
theorem str_ext {x y : Str} (h : cs x = cs y) : x = y := by
  obtain ⟨a⟩ := x
  obtain ⟨b⟩ := y
  have : a = b := Array.toList_inj.mp h
  rw [this]
/-- what a share's text says of the text that was read -/
theorem read_iff {z : Str} {a b : List Nat} (hc : cutAt (cs z) = some (a, b)) {w : List Nat} (hw : w = if isMinus a then a.tail else a) (w1 : 1 ≤ w.length) (w6 : w.length ≤ 60) (wd : ∀ c ∈ w, 48 ≤ c ∧ c ≤ 57) (b1 : 1 ≤ b.length) (b6 : b.length ≤ 60) (bd : ∀ c ∈ b, 48 ≤ c ∧ c ≤ 57)
    (hm : 1 ≤ valL b) {t0 : Int} (ht : t0 = if isMinus a then -valL w else valL w) :
    (shTxt (lowP t0 (valL b)).1 (lowP t0 (valL b)).2 = z → readL (cs z) = some (t0, valL b) ∧ Int.gcd t0 (valL b) = 1) ∧ (shTxt (lowP t0 (valL b)).1 (lowP t0 (valL b)).2 ≠ z → readL (cs z) = none) := by
  obtain ⟨hz, ha⟩ := cutAt_some hc
  have hw0 : 0 ≤ valL w := by unfold valL; omega
  have gabs : Int.gcd t0 (valL b) = Int.gcd (valL w) (valL b) := by
    rw [ht]
    split
    · rw [Int.neg_gcd]
    · rfl
  have hread : readL (cs z) = if (digs w && digs b) = true then (if valL b < 1 ∨ (isMinus a = true ∧ valL w = 0) ∨ Int.gcd (valL w) (valL b) ≠ 1 then none else some (t0, valL b)) else none := by
    unfold readL
    rw [hc, hw, ht, hw]
  constructor
  · intro h
    have e : numI (lowP t0 (valL b)).1 ++ 47 :: numI (lowP t0 (valL b)).2 = cs z := by rw [← cs_shTxt, h]
    have e2 := cutAt_app (b := numI (lowP t0 (valL b)).2) (numI_slash (lowP t0 (valL b)).1)
    rw [e, hc] at e2
    have ea : a = numI (lowP t0 (valL b)).1 := (Prod.mk.inj (Option.some.inj e2)).1
    have eb : b = numI (lowP t0 (valL b)).2 := (Prod.mk.inj (Option.some.inj e2)).2
    have g0 : 0 < (Int.gcd t0 (valL b) : Int) := by
      have : 0 < Int.gcd t0 (valL b) := Int.gcd_pos_of_ne_zero_right t0 (by omega)
      omega
    have hB : (lowP t0 (valL b)).2 * (Int.gcd t0 (valL b) : Int) = valL b := Int.ediv_mul_cancel (Int.gcd_dvd_right t0 (valL b))
    have hT : (lowP t0 (valL b)).1 * (Int.gcd t0 (valL b) : Int) = t0 := Int.ediv_mul_cancel (Int.gcd_dvd_left t0 (valL b))
    have hBpos : 0 < (lowP t0 (valL b)).2 := by
      have : 0 < (lowP t0 (valL b)).2 * (Int.gcd t0 (valL b) : Int) := by rw [hB]; omega
      exact Int.pos_of_mul_pos_left this g0
    have nb : numI (lowP t0 (valL b)).2 = numL (lowP t0 (valL b)).2.natAbs := by
      unfold numI
      rw [if_neg (by omega)]
    have vb : valL b = (lowP t0 (valL b)).2 := by
      have : valL b = (((lowP t0 (valL b)).2.natAbs : Nat) : Int) := by
        conv => lhs; rw [eb, nb]
        unfold valL
        rw [numL_val]
      exact this.trans (by omega)
    have g1 : (Int.gcd t0 (valL b) : Int) = 1 := by
      rw [← vb] at hB
      have h3 : valL b * (Int.gcd t0 (valL b) : Int) = valL b * 1 := by rw [hB, Int.mul_one]
      exact Int.eq_of_mul_eq_mul_left (by omega) h3
    have gn : Int.gcd t0 (valL b) = 1 := by omega
    have hTe : (lowP t0 (valL b)).1 = t0 := by
      rw [g1, Int.mul_one] at hT
      exact hT
    rw [hTe] at ea
    have db : digs b = true := by
      refine digs_of b1 b6 ?_ bd
      rw [eb, nb]
      exact numL_head _
    have wa : w = numL t0.natAbs ∧ ¬ (isMinus a = true ∧ valL w = 0) := by
      by_cases hneg : t0 < 0
      · have e3 : a = 45 :: numL t0.natAbs := by rw [ea]; unfold numI; rw [if_pos hneg]
        have hmin : isMinus a = true := by rw [e3]; rfl
        have hw2 : w = numL t0.natAbs := by rw [hw, hmin, e3]; rfl
        refine ⟨hw2, fun q => ?_⟩
        rw [hmin] at ht
        have : t0 = -valL w := ht
        omega
      · have e3 : a = numL t0.natAbs := by rw [ea]; unfold numI; rw [if_neg hneg]
        have hmin : isMinus a = false := by
          unfold isMinus
          refine decide_eq_false fun q => ?_
          rw [e3] at q
          cases e4 : numL t0.natAbs with
          | nil => rw [e4] at q; cases q
          | cons c r =>
            rw [e4] at q
            have hc45 : c = 45 := by simpa using q
            have := numL_digit (n := t0.natAbs) (c := c) (by rw [e4]; exact List.mem_cons_self)
            omega
        have hw2 : w = numL t0.natAbs := by rw [hw, hmin, e3]; rfl
        exact ⟨hw2, fun q => by rw [hmin] at q; cases q.1⟩
    have dw : digs w = true := by
      refine digs_of w1 w6 ?_ wd
      rw [wa.1]
      exact numL_head _
    refine ⟨?_, gn⟩
    have e5 : (digs w && digs b) = true := by rw [dw, db]; rfl
    rw [hread, if_pos e5, if_neg]
    intro q
    rcases q with q | q | q
    · omega
    · exact wa.2 q
    · exact q (by rw [← gabs]; exact gn)
  · intro h
    rw [hread]
    split
    · rename_i hd
      obtain ⟨dw, db⟩ := Bool.and_eq_true_iff.mp hd
      split
      · rfl
      · rename_i hn
        exfalso
        apply h
        have hn1 : ¬ (isMinus a = true ∧ valL w = 0) := fun q => hn (.inr (.inl q))
        have hn2 : Int.gcd (valL w) (valL b) = 1 := Decidable.byContradiction fun q => hn (.inr (.inr q))
        have gn : Int.gcd t0 (valL b) = 1 := by rw [gabs]; exact hn2
        have eT : (lowP t0 (valL b)).1 = t0 := by
          show t0 / (Int.gcd t0 (valL b) : Int) = t0
          rw [gn]
          simp
        have eB : (lowP t0 (valL b)).2 = valL b := by
          show valL b / (Int.gcd t0 (valL b) : Int) = valL b
          rw [gn]
          simp
        rw [eT, eB]
        apply str_ext
        rw [cs_shTxt, hz]
        have nb : numI (valL b) = b := by
          unfold numI
          rw [if_neg (by omega)]
          have : (valL b).natAbs = PySem.NumText.digitsVal b := by unfold valL; simp
          rw [this]
          exact canon db
        have nw : numL (valL w).natAbs = w := by
          have : (valL w).natAbs = PySem.NumText.digitsVal w := by unfold valL; simp
          rw [this]
          exact canon dw
        rw [nb]
        congr 1
        cases hmin : isMinus a with
        | true =>
          rw [hmin] at ht hw hn1
          have ht2 : t0 = -valL w := ht
          have hpos : valL w ≠ 0 := fun q => hn1 ⟨rfl, q⟩
          have hneg : t0 < 0 := by omega
          unfold numI
          rw [if_pos hneg, ht2, Int.natAbs_neg, nw]
          have hw2 : w = a.tail := hw
          unfold isMinus at hmin
          have hh := of_decide_eq_true hmin
          cases a with
          | nil => cases hh
          | cons c r =>
            have : c = 45 := by simpa using hh
            rw [hw2, this]
            rfl
        | false =>
          rw [hmin] at ht hw
          have ht2 : t0 = valL w := ht
          have hw2 : w = a := hw
          unfold numI
          rw [if_neg (by omega), ht2, nw, hw2]
    · rfl
end K02

namespace K02
open PySem L2 L3
theorem len_cs (z : Str) : z.length = (cs z).length := by
  show z.cps.size = z.cps.toList.length
  simp
/-- a text of these signs -/
def mk (l : List Nat) : Str := ⟨l.toArray⟩
theorem cs_mk (l : List Nat) : cs (mk l) = l := by simp [cs, mk]
theorem mk_cs (z : Str) : mk (cs z) = z := str_ext (cs_mk _)
theorem dig_ascii : ∀ c, c < 128 → PySem.Unicode.isDigit c = decide (48 ≤ c ∧ c ≤ 57) := by decide +kernel
theorem unsg_iff (z : Str) : unsg z = true ↔ 1 ≤ (cs z).length ∧ (cs z).length ≤ 60 ∧ ∀ c ∈ cs z, 48 ≤ c ∧ c ≤ 57 := by
  unfold unsg Txt.isascii Txt.isdigit
  rw [← Array.all_toList, ← Array.all_toList, len_cs]
  simp only [Bool.and_eq_true, decide_eq_true_eq, List.all_eq_true]
  constructor
  · rintro ⟨h1, h2, h3, h4⟩
    refine ⟨h3, h1, fun c hc => ?_⟩
    have a := h2 c hc
    have b := h4 c hc
    rw [dig_ascii c (by simpa using a)] at b
    exact of_decide_eq_true b
  · rintro ⟨h1, h2, h3⟩
    refine ⟨h2, fun c hc => ?_, h1, fun c hc => ?_⟩
    · have := h3 c hc
      simp
      omega
    · have := h3 c hc
      rw [dig_ascii c (by omega)]
      exact decide_eq_true this
theorem at_slash {z : Str} {i : Nat} : StrLaws.At z "/" z.length i ↔ (cs z)[i]? = some 47 := StrLaws.subAt_one z 47 i
theorem find_none {z : Str} (h : cutAt (cs z) = none) : Txt.find z "/" = -1 := by
  rcases PyProof.Rows.find_whole z "/" with ⟨h1, _⟩ | ⟨i, _, h2, _⟩
  · exact h1
  · exact absurd (List.mem_of_getElem? (at_slash.mp h2)) (cutAt_none h)
theorem find_some {z : Str} {a b : List Nat} (h : cutAt (cs z) = some (a, b)) : Txt.find z "/" = (a.length : Int) := by
  obtain ⟨hz, ha⟩ := cutAt_some h
  have hat : (cs z)[a.length]? = some 47 := by rw [hz]; simp
  rcases PyProof.Rows.find_whole z "/" with ⟨_, h2⟩ | ⟨i, h1, h2, h3⟩
  · exact absurd (at_slash.mpr hat) (h2 _)
  · have hi := at_slash.mp h2
    have e : i = a.length := by
      rcases Nat.lt_trichotomy i a.length with q | q | q
      · rw [hz, List.getElem?_append_left q] at hi
        exact absurd (List.mem_of_getElem? hi) ha
      · exact q
      · exact absurd (at_slash.mpr hat) (h3 _ q)
    rw [h1, e]
theorem parti_some {z : Str} {a b : List Nat} (h : cutAt (cs z) = some (a, b)) : Txt.partition z "/" = (mk a, ("/" : Str), mk b) := by
  obtain ⟨hz, ha⟩ := cutAt_some h
  have e : z = mk a ++ "/" ++ mk b := by
    apply str_ext
    rw [hz]
    unfold cs
    rw [PySem.Str.cps_append, PySem.Str.cps_append]
    simp only [Array.toList_append]
    have h1 := cs_mk a
    have h2 := cs_mk b
    unfold cs at h1 h2
    rw [h1, h2]
    show a ++ 47 :: b = a ++ [47] ++ b
    simp
  rw [e]
  exact TL.partition_app (y := "/") (s := 47) (S := []) rfl (by show 47 ∉ cs (mk a); rw [cs_mk]; exact ha)
theorem parti_none {z : Str} (h : cutAt (cs z) = none) : Txt.partition z "/" = (z, Str.empty, Str.empty) := TL.partition_none (y := "/") (s := 47) (S := []) rfl (cutAt_none h)
theorem rem_minus (a : List Nat) : Txt.removeprefix (mk a) "-" = mk (if isMinus a then a.tail else a) := by
  rw [StrLaws.removeprefix_eq]
  have key : (decide (0 + ("-" : Str).length ≤ (mk a).length) && PySem.Builtin.Str.subAt (mk a) "-" 0) = isMinus a := by
    have e := StrLaws.subAt_one (mk a) 45 0
    have e2 : (cs (mk a))[0]? = a.head? := by rw [cs_mk]; cases a <;> rfl
    unfold cs at e2
    rw [e2] at e
    unfold isMinus
    rw [Bool.eq_iff_iff, Bool.and_eq_true, decide_eq_true_eq, decide_eq_true_eq]
    exact e
  rw [key]
  cases hm : isMinus a with
  | false => rfl
  | true =>
    show (⟨(((mk a).cps.toList.drop 1).take ((mk a).length - 1)).toArray⟩ : Str) = mk a.tail
    have e1 : (mk a).cps.toList = a := cs_mk a
    have e2 : (mk a).length = a.length := by rw [len_cs, cs_mk]
    rw [e1, e2, List.drop_one]
    have : (a.tail.take (a.length - 1)) = a.tail := by
      apply List.take_of_length_le
      rw [List.length_tail]
      exact Nat.le_refl _
    rw [this]
    rfl
end K02

namespace K02
open PySem L2 L3

local macro_rules | `(tactic| walk_at "PA02 W0") => `(tactic| (repeat' first | with_reducible refine w_seq ?_ | with_reducible refine w_sui ?_ | with_reducible refine w_next ?_ | with_reducible refine w_brk ?_ | with_reducible refine w_cont ?_ | with_reducible refine w_ret ?_ | with_reducible refine w_retN ?_ | with_reducible refine w_drop ?_ | with_reducible refine w_if ?_ | with_reducible refine w_asg ?_ | with_reducible refine w_par ?_ | with_reducible refine w_setA ?_ | with_reducible refine w_raise ?_ | with_reducible refine w_for ?_ | with_reducible refine w_forR1 ?_ | with_reducible refine w_forLst ?_ | with_reducible refine w_tgName ?_ | with_reducible refine w_tgIx ?_ | with_reducible refine w_tgCons ?_ | with_reducible refine w_tgNil ?_ | with_reducible refine w_un ?_ | with_reducible refine w_op ?_ | with_reducible refine w_B ?_ | with_reducible refine w_tru ?_ | with_reducible refine w_and ?_ | with_reducible refine w_or ?_ | with_reducible refine w_not ?_ | with_reducible refine w_andV ?_ | with_reducible refine w_orV ?_ | with_reducible refine w_notV ?_ | with_reducible refine w_ifE ?_ | with_reducible refine w_nil ?_ | with_reducible refine w_cons ?_ | with_reducible refine w_tup ?_ | with_reducible refine w_lst ?_ | with_reducible refine w_cb ?_ | with_reducible refine w_call ?_ | with_reducible refine w_slice ?_ | with_reducible refine w_oNone ?_ | with_reducible refine w_onBl ?_ | with_reducible refine w_onTruB ?_ | with_reducible refine w_kT ?_ | with_reducible refine w_kF ?_ | with_reducible refine w_fAdd ?_ | with_reducible refine w_fSub ?_ | with_reducible refine w_fNeg ?_ | with_reducible refine w_fLt ?_ | with_reducible refine w_fLe ?_ | with_reducible refine w_fGt ?_ | with_reducible refine w_fGe ?_ | with_reducible refine w_fEqI ?_ | with_reducible refine w_fNeI ?_ | with_reducible refine w_fEqB ?_ | with_reducible refine w_fEqS ?_ | with_reducible refine w_fInt ?_ | with_reducible refine w_fIntB ?_ | with_reducible refine w_fAbs ?_ | with_reducible refine w_fMax ?_ | with_reducible refine w_fMin ?_ | with_reducible refine w_fGcd ?_ | with_reducible refine w_fLenL ?_ | with_reducible refine w_fLenT ?_ | with_reducible refine w_own ?_ | with_reducible refine w_ownI ?_ | with_reducible refine w_eqOwnI ?_ | with_reducible refine w_c ?_ | with_reducible refine w_make ?_ | with_reducible refine w_makeK ?_ | with_reducible refine w_par2 ?_ | with_reducible refine w_slLst ?_ | with_reducible refine w_p10_6 ?_ | with_reducible refine w_p10_8 ?_ | with_reducible refine w_p10_18 ?_ | with_reducible refine w_p10_30 ?_ | with_reducible refine w_p10_51 ?_ | with_reducible refine w_p10_59 ?_ | with_reducible refine w_p10_60 ?_ | with_reducible refine w_p2_63 ?_ | with_reducible refine w_p2_64 ?_ | with_reducible refine w_comp ?_ | with_reducible refine w_meth ?_ | with_reducible refine w_app ?_ | with_reducible refine w_tupOf ?_ | with_reducible refine w_tupL ?_ | with_reducible refine w_tupT ?_ | with_reducible refine w_forTup ?_ | with_reducible refine w_sm ?_ | with_reducible refine w_sm0 ?_ | with_reducible refine w_isStr ?_ | with_reducible refine w_find ?_ | with_reducible refine w_starts ?_ | with_reducible refine w_isascii ?_ | with_reducible refine w_isdigit ?_ | with_reducible refine w_str1S ?_ | with_reducible refine w_strO ?_ | with_reducible refine w_fmt ?_ | with_reducible refine w_join ?_ | with_reducible refine w_jsNil ?_ | with_reducible refine w_jsCons ?_ | with_reducible refine w_inS ?_ | with_reducible refine w_notInS ?_ | with_reducible refine w_statI ?_ | with_reducible refine w_fNeS ?_ | ((with_reducible apply w_var); exact rfl) | ((with_reducible apply w_isE); exact rfl) | ((with_reducible apply w_onTru); exact rfl) | ((with_reducible apply w_tgTup); exact rfl) | ((with_reducible refine w_fPow ?_ ?_); exact ⟨by decide, by decide, by decide⟩) | (with_reducible refine w_fMod (by decide) ?_) | ((with_reducible apply w_fIxT); exact rfl) | ((with_reducible apply w_fIxL); exact rfl) | (with_reducible refine w_oSome ?_) | ((with_reducible apply w_fIxC); (first | with_reducible exact put_same | assumption); exact rfl) | ((with_reducible apply w_fLenC); (first | with_reducible exact put_same | assumption)) | ((with_reducible apply w_setL); (first | with_reducible exact put_same | assumption); exact rfl) | ((with_reducible refine And.intro (a := List.length _ ≤ sizeLine) ?_ ?_); exact Nat.le_of_ble_eq_true rfl) | (with_reducible refine And.intro (a := List.length _ = _) rfl ?_) | (with_reducible refine w_fld ?_) | (with_reducible refine w_isT ?_) | (with_reducible refine w_isO ?_) | ((with_reducible refine Exists.intro ?_ (And.intro (a := fldD _ _ _ _ = _) ?_ ?_)); rotate_left; first | exact rfl) | ((with_reducible refine Exists.intro ?_ (And.intro (a := isT _ _ _ = _) ?_ ?_)); rotate_left; exact rfl) | ((with_reducible refine Exists.intro ?_ (And.intro (a := isO _ _ _ = _) ?_ ?_)); rotate_left; exact rfl) | ((with_reducible refine Exists.intro ?_ (And.intro (a := D.int _ = D.int _) ?_ ?_)); rotate_left; exact rfl) | ((with_reducible refine w_kT' (k := T3.isInt _) ?_ ?_); exact rfl) | ((with_reducible refine w_kF' (k := T3.isInt _) ?_ ?_); exact rfl) | ((with_reducible refine w_kT' (k := T3.isBl _) ?_ ?_); exact rfl) | ((with_reducible refine w_kF' (k := T3.isBl _) ?_ ?_); exact rfl) | ((with_reducible refine w_kT' (k := T3.isStr _) ?_ ?_); exact rfl) | ((with_reducible refine w_kF' (k := T3.isStr _) ?_ ?_); exact rfl) | ((with_reducible refine w_kT' (k := T3.isTup _) ?_ ?_); exact rfl) | ((with_reducible refine w_kF' (k := T3.isTup _) ?_ ?_); exact rfl) | ((with_reducible refine w_kT' (k := T3.isLst _) ?_ ?_); exact rfl) | ((with_reducible refine w_kF' (k := T3.isLst _) ?_ ?_); exact rfl) | ((with_reducible refine And.intro (a := insD _ _ _ _) ?_ ?_); (first | exact ⟨rfl, rfl⟩)) | (with_reducible refine w_kF' (k := !true) rfl ?_) | (with_reducible refine w_kT' (k := !false) rfl ?_) | ((with_reducible refine w_kT' (k := decide _) ?_ ?_); decide +kernel) | ((with_reducible refine w_kF' (k := decide _) ?_ ?_); decide +kernel)))
theorem b_law_int : BodyOk ["x"] 1 sp_law_int m_law_int := by
  rintro ds O Z P hl ⟨i, rfl, hq⟩
  show m_law_int (En.mk _ _ _ _ _) [some (.int i)] O
  unfold m_law_int
  walk_at "PA02 W0"
  exact w_fz hq
theorem b_Share_init : BodyOk ["self", "top", "bottom", "divisor"] 3 sp_Share_init m_Share_init := by
  rintro ds O Z P hl ⟨p, t, b, rfl, hO, hq⟩
  show m_Share_init (En.mk _ _ _ _ _) [some (.cell p), some (.int t), some (.int b), none] O
  unfold m_Share_init
  walk_at "PA02 W0"
  rcases hq with ⟨h1, hq⟩ | ⟨h0, h1, hq⟩
  · refine w_k (fun h => ?_) fun h => ?_
    · walk_at "PA02 W0"
      exact hq
    · exact absurd (decide_eq_true h1) (by rw [h]; decide)
  · refine w_k (fun h => ?_) fun h => ?_
    · exact absurd (of_decide_eq_true h) (by omega)
    · have g0 : 0 < (Int.gcd t b : Int) := by
        have : 0 < Int.gcd t b := Int.gcd_pos_of_ne_zero_right t (by omega)
        omega
      have g1 : (Int.gcd t b : Int) ≤ b := Int.le_of_dvd h0 (Int.gcd_dvd_right t b)
      have dv : ∀ x, divOk x (Int.gcd t b : Int) := fun x => ⟨g0, .inr ⟨8001, by decide, by decide, by
        have : b.natAbs < 2 ^ 8001 := h1
        have e : (b.natAbs : Int) = b := by omega
        have : (b.natAbs : Int) < ((2 ^ 8001 : Nat) : Int) := Int.ofNat_lt.mpr this
        rw [Int.natCast_pow] at this
        exact Int.lt_of_le_of_lt g1 (by rw [e] at this; exact this)⟩⟩
      walk_at "PA02 W0"
      refine w_fDiv (dv _) ?_
      walk_at "PA02 W0"
      refine w_setA1 hO (by decide) (by decide) ?_
      walk_at "PA02 W0"
      refine w_fDiv (dv _) ?_
      walk_at "PA02 W0"
      refine w_setA1 put_same (by decide) (Nat.lt_of_sub_eq_succ rfl) ?_
      rw [put_put]
      exact w_fz hq
end K02

namespace K02
open PySem L2 L3
theorem atI_ints {ns : List Int} {i : Nat} (h : i < ns.length) : atI (ns.map D.int) (i : Int) = some (.int ns[i]) := by
  unfold atI
  have e : ixN (ns.map D.int).length (i : Int) = some i := by
    unfold ixN
    rw [List.length_map]
    rw [if_pos (by omega), if_pos (by omega)]
    simp
  rw [e]
  simp [h]
local macro_rules | `(tactic| walk_at "PB02 W0") => `(tactic| (repeat' first | with_reducible refine w_seq ?_ | with_reducible refine w_sui ?_ | with_reducible refine w_next ?_ | with_reducible refine w_brk ?_ | with_reducible refine w_cont ?_ | with_reducible refine w_ret ?_ | with_reducible refine w_retN ?_ | with_reducible refine w_drop ?_ | with_reducible refine w_if ?_ | with_reducible refine w_asg ?_ | with_reducible refine w_par ?_ | with_reducible refine w_setA ?_ | with_reducible refine w_raise ?_ | with_reducible refine w_for ?_ | with_reducible refine w_forR1 ?_ | with_reducible refine w_forLst ?_ | with_reducible refine w_tgName ?_ | with_reducible refine w_tgIx ?_ | with_reducible refine w_tgCons ?_ | with_reducible refine w_tgNil ?_ | with_reducible refine w_un ?_ | with_reducible refine w_op ?_ | with_reducible refine w_B ?_ | with_reducible refine w_tru ?_ | with_reducible refine w_and ?_ | with_reducible refine w_or ?_ | with_reducible refine w_not ?_ | with_reducible refine w_andV ?_ | with_reducible refine w_orV ?_ | with_reducible refine w_notV ?_ | with_reducible refine w_ifE ?_ | with_reducible refine w_nil ?_ | with_reducible refine w_cons ?_ | with_reducible refine w_tup ?_ | with_reducible refine w_lst ?_ | with_reducible refine w_cb ?_ | with_reducible refine w_call ?_ | with_reducible refine w_slice ?_ | with_reducible refine w_oNone ?_ | with_reducible refine w_onBl ?_ | with_reducible refine w_onTruB ?_ | with_reducible refine w_kT ?_ | with_reducible refine w_kF ?_ | with_reducible refine w_fAdd ?_ | with_reducible refine w_fSub ?_ | with_reducible refine w_fNeg ?_ | with_reducible refine w_fLt ?_ | with_reducible refine w_fLe ?_ | with_reducible refine w_fGt ?_ | with_reducible refine w_fGe ?_ | with_reducible refine w_fEqI ?_ | with_reducible refine w_fNeI ?_ | with_reducible refine w_fEqB ?_ | with_reducible refine w_fEqS ?_ | with_reducible refine w_fInt ?_ | with_reducible refine w_fIntB ?_ | with_reducible refine w_fAbs ?_ | with_reducible refine w_fMax ?_ | with_reducible refine w_fMin ?_ | with_reducible refine w_fGcd ?_ | with_reducible refine w_fLenL ?_ | with_reducible refine w_fLenT ?_ | with_reducible refine w_own ?_ | with_reducible refine w_ownI ?_ | with_reducible refine w_eqOwnI ?_ | with_reducible refine w_c ?_ | with_reducible refine w_make ?_ | with_reducible refine w_makeK ?_ | with_reducible refine w_par2 ?_ | with_reducible refine w_slLst ?_ | with_reducible refine w_p10_6 ?_ | with_reducible refine w_p10_8 ?_ | with_reducible refine w_p10_18 ?_ | with_reducible refine w_p10_30 ?_ | with_reducible refine w_p10_51 ?_ | with_reducible refine w_p10_59 ?_ | with_reducible refine w_p10_60 ?_ | with_reducible refine w_p2_63 ?_ | with_reducible refine w_p2_64 ?_ | with_reducible refine w_comp ?_ | with_reducible refine w_meth ?_ | with_reducible refine w_app ?_ | with_reducible refine w_tupOf ?_ | with_reducible refine w_tupL ?_ | with_reducible refine w_tupT ?_ | with_reducible refine w_forTup ?_ | with_reducible refine w_sm ?_ | with_reducible refine w_sm0 ?_ | with_reducible refine w_isStr ?_ | with_reducible refine w_find ?_ | with_reducible refine w_starts ?_ | with_reducible refine w_isascii ?_ | with_reducible refine w_isdigit ?_ | with_reducible refine w_str1S ?_ | with_reducible refine w_strO ?_ | with_reducible refine w_fmt ?_ | with_reducible refine w_join ?_ | with_reducible refine w_jsNil ?_ | with_reducible refine w_jsCons ?_ | with_reducible refine w_inS ?_ | with_reducible refine w_notInS ?_ | with_reducible refine w_statI ?_ | with_reducible refine w_fNeS ?_ | ((with_reducible apply w_var); exact rfl) | ((with_reducible apply w_isE); exact rfl) | ((with_reducible apply w_onTru); exact rfl) | ((with_reducible apply w_tgTup); exact rfl) | ((with_reducible refine w_fPow ?_ ?_); exact ⟨by decide, by decide, by decide⟩) | (with_reducible refine w_fMod (by decide) ?_) | ((with_reducible apply w_fIxT); exact rfl) | ((with_reducible apply w_fIxL); exact rfl) | (with_reducible refine w_oSome ?_) | ((with_reducible apply w_fIxC); (first | with_reducible exact put_same | assumption); exact rfl) | ((with_reducible apply w_fLenC); (first | with_reducible exact put_same | assumption)) | ((with_reducible apply w_setL); (first | with_reducible exact put_same | assumption); exact rfl) | ((with_reducible refine And.intro (a := List.length _ ≤ sizeLine) ?_ ?_); exact Nat.le_of_ble_eq_true rfl) | (with_reducible refine And.intro (a := List.length _ = _) rfl ?_) | (with_reducible refine w_fld ?_) | (with_reducible refine w_isT ?_) | (with_reducible refine w_isO ?_) | ((with_reducible refine Exists.intro ?_ (And.intro (a := fldD _ _ _ _ = _) ?_ ?_)); rotate_left; first | exact rfl) | ((with_reducible refine Exists.intro ?_ (And.intro (a := isT _ _ _ = _) ?_ ?_)); rotate_left; exact rfl) | ((with_reducible refine Exists.intro ?_ (And.intro (a := isO _ _ _ = _) ?_ ?_)); rotate_left; exact rfl) | ((with_reducible refine Exists.intro ?_ (And.intro (a := D.int _ = D.int _) ?_ ?_)); rotate_left; exact rfl) | ((with_reducible refine w_kT' (k := T3.isInt _) ?_ ?_); exact rfl) | ((with_reducible refine w_kF' (k := T3.isInt _) ?_ ?_); exact rfl) | ((with_reducible refine w_kT' (k := T3.isBl _) ?_ ?_); exact rfl) | ((with_reducible refine w_kF' (k := T3.isBl _) ?_ ?_); exact rfl) | ((with_reducible refine w_kT' (k := T3.isStr _) ?_ ?_); exact rfl) | ((with_reducible refine w_kF' (k := T3.isStr _) ?_ ?_); exact rfl) | ((with_reducible refine w_kT' (k := T3.isTup _) ?_ ?_); exact rfl) | ((with_reducible refine w_kF' (k := T3.isTup _) ?_ ?_); exact rfl) | ((with_reducible refine w_kT' (k := T3.isLst _) ?_ ?_); exact rfl) | ((with_reducible refine w_kF' (k := T3.isLst _) ?_ ?_); exact rfl) | ((with_reducible refine And.intro (a := insD _ _ _ _) ?_ ?_); (first | exact ⟨rfl, rfl⟩)) | (with_reducible refine w_kF' (k := !true) rfl ?_) | (with_reducible refine w_kT' (k := !false) rfl ?_) | ((with_reducible refine w_kT' (k := decide _) ?_ ?_); decide +kernel) | ((with_reducible refine w_kF' (k := decide _) ?_ ?_); decide +kernel)))
theorem b_law_pool : BodyOk ["script", "at", "cell", "kind"] 2 sp_law_pool m_law_pool := by
  rintro ds O Z P hl ⟨ns, i, rfl, hq⟩
  show m_law_pool (En.mk _ _ _ _ _) [some (.lst (ns.map D.int)), some (.int i), none, none] O
  unfold m_law_pool
  walk_at "PB02 W0"
  refine w_k (fun h => ?_) fun h => ?_
  · have h2 : i < ns.length := by
      have := of_decide_eq_true h
      rw [List.length_map] at this
      omega
    walk_at "PB02 W0"
    refine w_fIxL (atI_ints h2) ?_
    walk_at "PB02 W0"
    exact fun p hp => w_fz (w_fz (hq p _ _ _ _ hp))
  · walk_at "PB02 W0"
    exact fun p hp => w_fz (w_fz (hq p _ _ _ _ hp))
theorem Upd.refl {p : Addr} {O : Sto} (h : Pool O p) : Upd p O O := ⟨h, fun _ _ => rfl⟩
theorem Upd.trans {p : Addr} {O O1 O2 : Sto} (a : Upd p O O1) (b : Upd p O1 O2) : Upd p O O2 := ⟨b.pool, fun q h => (b.ne q h).trans (a.ne q h)⟩
theorem Upd.put {p : Addr} {O O1 : Sto} {a b c k : Int} (u : ∀ q, q ≠ p → O1 q = O q) : Upd p O (put O1 p (poolD a b c k)) := ⟨⟨_, _, _, _, put_same⟩, fun q h => (put_ne h).trans (u q h)⟩
local macro_rules | `(tactic| walk_at "PB02 U1") => `(tactic| (repeat' first | with_reducible refine w_seq ?_ | with_reducible refine w_sui ?_ | with_reducible refine w_next ?_ | with_reducible refine w_brk ?_ | with_reducible refine w_cont ?_ | with_reducible refine w_ret ?_ | with_reducible refine w_retN ?_ | with_reducible refine w_drop ?_ | with_reducible refine w_if ?_ | with_reducible refine w_asg ?_ | with_reducible refine w_par ?_ | with_reducible refine w_setA ?_ | with_reducible refine w_raise ?_ | with_reducible refine w_for ?_ | with_reducible refine w_forR1 ?_ | with_reducible refine w_forLst ?_ | with_reducible refine w_tgName ?_ | with_reducible refine w_tgIx ?_ | with_reducible refine w_tgCons ?_ | with_reducible refine w_tgNil ?_ | with_reducible refine w_un ?_ | with_reducible refine w_op ?_ | with_reducible refine w_B ?_ | with_reducible refine w_tru ?_ | with_reducible refine w_and ?_ | with_reducible refine w_or ?_ | with_reducible refine w_not ?_ | with_reducible refine w_andV ?_ | with_reducible refine w_orV ?_ | with_reducible refine w_notV ?_ | with_reducible refine w_ifE ?_ | with_reducible refine w_nil ?_ | with_reducible refine w_cons ?_ | with_reducible refine w_tup ?_ | with_reducible refine w_lst ?_ | with_reducible refine w_cb ?_ | with_reducible refine w_call ?_ | with_reducible refine w_slice ?_ | with_reducible refine w_oNone ?_ | with_reducible refine w_onBl ?_ | with_reducible refine w_onTruB ?_ | with_reducible refine w_kT ?_ | with_reducible refine w_kF ?_ | with_reducible refine w_fAdd ?_ | with_reducible refine w_fSub ?_ | with_reducible refine w_fNeg ?_ | with_reducible refine w_fLt ?_ | with_reducible refine w_fLe ?_ | with_reducible refine w_fGt ?_ | with_reducible refine w_fGe ?_ | with_reducible refine w_fEqI ?_ | with_reducible refine w_fNeI ?_ | with_reducible refine w_fEqB ?_ | with_reducible refine w_fEqS ?_ | with_reducible refine w_fInt ?_ | with_reducible refine w_fIntB ?_ | with_reducible refine w_fAbs ?_ | with_reducible refine w_fMax ?_ | with_reducible refine w_fMin ?_ | with_reducible refine w_fGcd ?_ | with_reducible refine w_fLenL ?_ | with_reducible refine w_fLenT ?_ | with_reducible refine w_own ?_ | with_reducible refine w_ownI ?_ | with_reducible refine w_eqOwnI ?_ | with_reducible refine w_c ?_ | with_reducible refine w_make ?_ | with_reducible refine w_makeK ?_ | with_reducible refine w_par2 ?_ | with_reducible refine w_slLst ?_ | with_reducible refine w_p10_6 ?_ | with_reducible refine w_p10_8 ?_ | with_reducible refine w_p10_18 ?_ | with_reducible refine w_p10_30 ?_ | with_reducible refine w_p10_51 ?_ | with_reducible refine w_p10_59 ?_ | with_reducible refine w_p10_60 ?_ | with_reducible refine w_p2_63 ?_ | with_reducible refine w_p2_64 ?_ | with_reducible refine w_comp ?_ | with_reducible refine w_meth ?_ | with_reducible refine w_app ?_ | with_reducible refine w_tupOf ?_ | with_reducible refine w_tupL ?_ | with_reducible refine w_tupT ?_ | with_reducible refine w_forTup ?_ | with_reducible refine w_sm ?_ | with_reducible refine w_sm0 ?_ | with_reducible refine w_isStr ?_ | with_reducible refine w_find ?_ | with_reducible refine w_starts ?_ | with_reducible refine w_isascii ?_ | with_reducible refine w_isdigit ?_ | with_reducible refine w_str1S ?_ | with_reducible refine w_strO ?_ | with_reducible refine w_fmt ?_ | with_reducible refine w_join ?_ | with_reducible refine w_jsNil ?_ | with_reducible refine w_jsCons ?_ | with_reducible refine w_inS ?_ | with_reducible refine w_notInS ?_ | with_reducible refine w_statI ?_ | with_reducible refine w_fNeS ?_ | ((with_reducible apply w_var); exact rfl) | ((with_reducible apply w_isE); exact rfl) | ((with_reducible apply w_onTru); exact rfl) | ((with_reducible apply w_tgTup); exact rfl) | ((with_reducible refine w_fPow ?_ ?_); exact ⟨by decide, by decide, by decide⟩) | (with_reducible refine w_fMod (by decide) ?_) | ((with_reducible apply w_fIxT); exact rfl) | ((with_reducible apply w_fIxL); exact rfl) | (with_reducible refine w_oSome ?_) | ((with_reducible apply w_fIxC); (first | with_reducible exact put_same | assumption); exact rfl) | ((with_reducible apply w_fLenC); (first | with_reducible exact put_same | assumption)) | ((with_reducible apply w_setL); (first | with_reducible exact put_same | assumption); exact rfl) | (with_reducible refine w_fLenS (by omega) ?_) | (with_reducible refine w_slStr (by omega) ?_) | (with_reducible refine w_fAddS (by omega) ?_) | (with_reducible refine w_remPre (by omega) ?_) | (with_reducible refine w_fmtS (by omega) ?_) | (with_reducible refine w_fMul (mulR (by decide)) ?_) | (with_reducible refine w_fMul (mulL (by omega)) ?_) | (with_reducible refine w_fMul (mulR (by omega)) ?_) | (with_reducible refine w_fDiv (dv30 (by omega) (by omega)) ?_) | (with_reducible refine w_fMod (by omega) ?_) | (with_reducible refine w_k (fun _ => ?_) fun _ => ?_) | ((with_reducible refine And.intro (a := List.length _ ≤ sizeLine) ?_ ?_); exact Nat.le_of_ble_eq_true rfl) | (with_reducible refine And.intro (a := List.length _ = _) rfl ?_) | (with_reducible refine w_fld ?_) | (with_reducible refine w_isT ?_) | (with_reducible refine w_isO ?_) | ((with_reducible refine Exists.intro ?_ (And.intro (a := fldD _ _ _ _ = _) ?_ ?_)); rotate_left; first | exact rfl) | ((with_reducible refine Exists.intro ?_ (And.intro (a := isT _ _ _ = _) ?_ ?_)); rotate_left; exact rfl) | ((with_reducible refine Exists.intro ?_ (And.intro (a := isO _ _ _ = _) ?_ ?_)); rotate_left; exact rfl) | ((with_reducible refine Exists.intro ?_ (And.intro (a := D.int _ = D.int _) ?_ ?_)); rotate_left; exact rfl) | ((with_reducible refine w_kT' (k := T3.isInt _) ?_ ?_); exact rfl) | ((with_reducible refine w_kF' (k := T3.isInt _) ?_ ?_); exact rfl) | ((with_reducible refine w_kT' (k := T3.isBl _) ?_ ?_); exact rfl) | ((with_reducible refine w_kF' (k := T3.isBl _) ?_ ?_); exact rfl) | ((with_reducible refine w_kT' (k := T3.isStr _) ?_ ?_); exact rfl) | ((with_reducible refine w_kF' (k := T3.isStr _) ?_ ?_); exact rfl) | ((with_reducible refine w_kT' (k := T3.isTup _) ?_ ?_); exact rfl) | ((with_reducible refine w_kF' (k := T3.isTup _) ?_ ?_); exact rfl) | ((with_reducible refine w_kT' (k := T3.isLst _) ?_ ?_); exact rfl) | ((with_reducible refine w_kF' (k := T3.isLst _) ?_ ?_); exact rfl) | ((with_reducible refine And.intro (a := insD _ _ _ _) ?_ ?_); (first | exact ⟨rfl, rfl⟩)) | (with_reducible refine w_kF' (k := !true) rfl ?_) | (with_reducible refine w_kT' (k := !false) rfl ?_) | ((with_reducible refine w_kT' (k := decide _) ?_ ?_); decide +kernel) | ((with_reducible refine w_kF' (k := decide _) ?_ ?_); decide +kernel)))
theorem b_law_draw : BodyOk ["pool", "many", "got", "x"] 2 sp_law_draw m_law_draw := by
  rintro ds O Z P hl ⟨p, m, rfl, ⟨a, b, c, k, hO⟩, h1, h2, hq⟩
  show m_law_draw (En.mk _ _ _ _ _) [some (.cell p), some (.int m), none, none] O
  unfold m_law_draw
  unfold poolD at hO
  walk_at "PB02 U1"
  · exact w_fz (hq 0 _ (by omega) (by omega) (Upd.put fun _ _ => rfl))
  · exact w_fz (hq 0 _ (by omega) (by omega) (Upd.put fun _ _ => rfl))
  · exact w_fz (hq _ _ (Int.emod_nonneg _ (by omega)) (Int.emod_lt_of_pos _ (by omega)) (Upd.put fun q h => put_ne h))
  · exact w_fz (hq _ _ (Int.emod_nonneg _ (by omega)) (Int.emod_lt_of_pos _ (by omega)) (Upd.put fun _ _ => rfl))
  · exact w_fz (hq _ _ (Int.emod_nonneg _ (by omega)) (Int.emod_lt_of_pos _ (by omega)) (Upd.put fun _ _ => rfl))
end K02

namespace K02
open PySem L2 L3
theorem Pool.not {O : Sto} {p q : Addr} (h : Pool O p) (hq : O q = none) : p ≠ q := by
  rintro rfl
  obtain ⟨a, b, c, k, h⟩ := h
  rw [h] at hq
  cases hq
theorem Pool.put {O : Sto} {p : Addr} {a b c k : Int} : Pool (put O p (poolD a b c k)) p := ⟨_, _, _, _, put_same⟩
local macro_rules | `(tactic| walk_at "PC02 W0") => `(tactic| (repeat' first | with_reducible refine w_seq ?_ | with_reducible refine w_sui ?_ | with_reducible refine w_next ?_ | with_reducible refine w_brk ?_ | with_reducible refine w_cont ?_ | with_reducible refine w_ret ?_ | with_reducible refine w_retN ?_ | with_reducible refine w_drop ?_ | with_reducible refine w_if ?_ | with_reducible refine w_asg ?_ | with_reducible refine w_par ?_ | with_reducible refine w_setA ?_ | with_reducible refine w_raise ?_ | with_reducible refine w_for ?_ | with_reducible refine w_forR1 ?_ | with_reducible refine w_forLst ?_ | with_reducible refine w_tgName ?_ | with_reducible refine w_tgIx ?_ | with_reducible refine w_tgCons ?_ | with_reducible refine w_tgNil ?_ | with_reducible refine w_un ?_ | with_reducible refine w_op ?_ | with_reducible refine w_B ?_ | with_reducible refine w_tru ?_ | with_reducible refine w_and ?_ | with_reducible refine w_or ?_ | with_reducible refine w_not ?_ | with_reducible refine w_andV ?_ | with_reducible refine w_orV ?_ | with_reducible refine w_notV ?_ | with_reducible refine w_ifE ?_ | with_reducible refine w_nil ?_ | with_reducible refine w_cons ?_ | with_reducible refine w_tup ?_ | with_reducible refine w_lst ?_ | with_reducible refine w_cb ?_ | with_reducible refine w_call ?_ | with_reducible refine w_slice ?_ | with_reducible refine w_oNone ?_ | with_reducible refine w_onBl ?_ | with_reducible refine w_onTruB ?_ | with_reducible refine w_kT ?_ | with_reducible refine w_kF ?_ | with_reducible refine w_fAdd ?_ | with_reducible refine w_fSub ?_ | with_reducible refine w_fNeg ?_ | with_reducible refine w_fLt ?_ | with_reducible refine w_fLe ?_ | with_reducible refine w_fGt ?_ | with_reducible refine w_fGe ?_ | with_reducible refine w_fEqI ?_ | with_reducible refine w_fNeI ?_ | with_reducible refine w_fEqB ?_ | with_reducible refine w_fEqS ?_ | with_reducible refine w_fInt ?_ | with_reducible refine w_fIntB ?_ | with_reducible refine w_fAbs ?_ | with_reducible refine w_fMax ?_ | with_reducible refine w_fMin ?_ | with_reducible refine w_fGcd ?_ | with_reducible refine w_fLenL ?_ | with_reducible refine w_fLenT ?_ | with_reducible refine w_own ?_ | with_reducible refine w_ownI ?_ | with_reducible refine w_eqOwnI ?_ | with_reducible refine w_c ?_ | with_reducible refine w_make ?_ | with_reducible refine w_makeK ?_ | with_reducible refine w_par2 ?_ | with_reducible refine w_slLst ?_ | with_reducible refine w_p10_6 ?_ | with_reducible refine w_p10_8 ?_ | with_reducible refine w_p10_18 ?_ | with_reducible refine w_p10_30 ?_ | with_reducible refine w_p10_51 ?_ | with_reducible refine w_p10_59 ?_ | with_reducible refine w_p10_60 ?_ | with_reducible refine w_p2_63 ?_ | with_reducible refine w_p2_64 ?_ | with_reducible refine w_comp ?_ | with_reducible refine w_meth ?_ | with_reducible refine w_app ?_ | with_reducible refine w_tupOf ?_ | with_reducible refine w_tupL ?_ | with_reducible refine w_tupT ?_ | with_reducible refine w_forTup ?_ | with_reducible refine w_sm ?_ | with_reducible refine w_sm0 ?_ | with_reducible refine w_isStr ?_ | with_reducible refine w_find ?_ | with_reducible refine w_starts ?_ | with_reducible refine w_isascii ?_ | with_reducible refine w_isdigit ?_ | with_reducible refine w_str1S ?_ | with_reducible refine w_strO ?_ | with_reducible refine w_fmt ?_ | with_reducible refine w_join ?_ | with_reducible refine w_jsNil ?_ | with_reducible refine w_jsCons ?_ | with_reducible refine w_inS ?_ | with_reducible refine w_notInS ?_ | with_reducible refine w_statI ?_ | with_reducible refine w_fNeS ?_ | ((with_reducible apply w_var); exact rfl) | ((with_reducible apply w_isE); exact rfl) | ((with_reducible apply w_onTru); exact rfl) | ((with_reducible apply w_tgTup); exact rfl) | ((with_reducible refine w_fPow ?_ ?_); exact ⟨by decide, by decide, by decide⟩) | (with_reducible refine w_fMod (by decide) ?_) | ((with_reducible apply w_fIxT); exact rfl) | ((with_reducible apply w_fIxL); exact rfl) | (with_reducible refine w_oSome ?_) | ((with_reducible apply w_fIxC); (first | with_reducible exact put_same | assumption); exact rfl) | ((with_reducible apply w_fLenC); (first | with_reducible exact put_same | assumption)) | ((with_reducible apply w_setL); (first | with_reducible exact put_same | assumption); exact rfl) | ((with_reducible refine And.intro (a := List.length _ ≤ sizeLine) ?_ ?_); exact Nat.le_of_ble_eq_true rfl) | (with_reducible refine And.intro (a := List.length _ = _) rfl ?_) | (with_reducible refine w_fld ?_) | (with_reducible refine w_isT ?_) | (with_reducible refine w_isO ?_) | ((with_reducible refine Exists.intro ?_ (And.intro (a := fldD _ _ _ _ = _) ?_ ?_)); rotate_left; first | exact rfl) | ((with_reducible refine Exists.intro ?_ (And.intro (a := isT _ _ _ = _) ?_ ?_)); rotate_left; exact rfl) | ((with_reducible refine Exists.intro ?_ (And.intro (a := isO _ _ _ = _) ?_ ?_)); rotate_left; exact rfl) | ((with_reducible refine Exists.intro ?_ (And.intro (a := D.int _ = D.int _) ?_ ?_)); rotate_left; exact rfl) | ((with_reducible refine w_kT' (k := T3.isInt _) ?_ ?_); exact rfl) | ((with_reducible refine w_kF' (k := T3.isInt _) ?_ ?_); exact rfl) | ((with_reducible refine w_kT' (k := T3.isBl _) ?_ ?_); exact rfl) | ((with_reducible refine w_kF' (k := T3.isBl _) ?_ ?_); exact rfl) | ((with_reducible refine w_kT' (k := T3.isStr _) ?_ ?_); exact rfl) | ((with_reducible refine w_kF' (k := T3.isStr _) ?_ ?_); exact rfl) | ((with_reducible refine w_kT' (k := T3.isTup _) ?_ ?_); exact rfl) | ((with_reducible refine w_kF' (k := T3.isTup _) ?_ ?_); exact rfl) | ((with_reducible refine w_kT' (k := T3.isLst _) ?_ ?_); exact rfl) | ((with_reducible refine w_kF' (k := T3.isLst _) ?_ ?_); exact rfl) | ((with_reducible refine And.intro (a := insD _ _ _ _) ?_ ?_); (first | exact ⟨rfl, rfl⟩)) | (with_reducible refine w_kF' (k := !true) rfl ?_) | (with_reducible refine w_kT' (k := !false) rfl ?_) | ((with_reducible refine w_kT' (k := decide _) ?_ ?_); decide +kernel) | ((with_reducible refine w_kF' (k := decide _) ?_ ?_); decide +kernel)))
local macro_rules | `(tactic| walk_at "PC02 V1") => `(tactic| (repeat' first | with_reducible refine w_seq ?_ | with_reducible refine w_sui ?_ | with_reducible refine w_next ?_ | with_reducible refine w_brk ?_ | with_reducible refine w_cont ?_ | with_reducible refine w_ret ?_ | with_reducible refine w_retN ?_ | with_reducible refine w_drop ?_ | with_reducible refine w_if ?_ | with_reducible refine w_asg ?_ | with_reducible refine w_par ?_ | with_reducible refine w_setA ?_ | with_reducible refine w_raise ?_ | with_reducible refine w_for ?_ | with_reducible refine w_forR1 ?_ | with_reducible refine w_forLst ?_ | with_reducible refine w_tgName ?_ | with_reducible refine w_tgIx ?_ | with_reducible refine w_tgCons ?_ | with_reducible refine w_tgNil ?_ | with_reducible refine w_un ?_ | with_reducible refine w_op ?_ | with_reducible refine w_B ?_ | with_reducible refine w_tru ?_ | with_reducible refine w_and ?_ | with_reducible refine w_or ?_ | with_reducible refine w_not ?_ | with_reducible refine w_andV ?_ | with_reducible refine w_orV ?_ | with_reducible refine w_notV ?_ | with_reducible refine w_ifE ?_ | with_reducible refine w_nil ?_ | with_reducible refine w_cons ?_ | with_reducible refine w_tup ?_ | with_reducible refine w_lst ?_ | with_reducible refine w_cb ?_ | with_reducible refine w_call ?_ | with_reducible refine w_slice ?_ | with_reducible refine w_oNone ?_ | with_reducible refine w_onBl ?_ | with_reducible refine w_onTruB ?_ | with_reducible refine w_kT ?_ | with_reducible refine w_kF ?_ | with_reducible refine w_fAdd ?_ | with_reducible refine w_fSub ?_ | with_reducible refine w_fNeg ?_ | with_reducible refine w_fLt ?_ | with_reducible refine w_fLe ?_ | with_reducible refine w_fGt ?_ | with_reducible refine w_fGe ?_ | with_reducible refine w_fEqI ?_ | with_reducible refine w_fNeI ?_ | with_reducible refine w_fEqB ?_ | with_reducible refine w_fEqS ?_ | with_reducible refine w_fInt ?_ | with_reducible refine w_fIntB ?_ | with_reducible refine w_fAbs ?_ | with_reducible refine w_fMax ?_ | with_reducible refine w_fMin ?_ | with_reducible refine w_fGcd ?_ | with_reducible refine w_fLenL ?_ | with_reducible refine w_fLenT ?_ | with_reducible refine w_own ?_ | with_reducible refine w_ownI ?_ | with_reducible refine w_eqOwnI ?_ | with_reducible refine w_c ?_ | with_reducible refine w_make ?_ | with_reducible refine w_makeK ?_ | with_reducible refine w_par2 ?_ | with_reducible refine w_slLst ?_ | with_reducible refine w_p10_6 ?_ | with_reducible refine w_p10_8 ?_ | with_reducible refine w_p10_18 ?_ | with_reducible refine w_p10_30 ?_ | with_reducible refine w_p10_51 ?_ | with_reducible refine w_p10_59 ?_ | with_reducible refine w_p10_60 ?_ | with_reducible refine w_p2_63 ?_ | with_reducible refine w_p2_64 ?_ | with_reducible refine w_comp ?_ | with_reducible refine w_meth ?_ | with_reducible refine w_app ?_ | with_reducible refine w_tupOf ?_ | with_reducible refine w_tupL ?_ | with_reducible refine w_tupT ?_ | with_reducible refine w_forTup ?_ | with_reducible refine w_sm ?_ | with_reducible refine w_sm0 ?_ | with_reducible refine w_isStr ?_ | with_reducible refine w_find ?_ | with_reducible refine w_starts ?_ | with_reducible refine w_isascii ?_ | with_reducible refine w_isdigit ?_ | with_reducible refine w_str1S ?_ | with_reducible refine w_strO ?_ | with_reducible refine w_fmt ?_ | with_reducible refine w_join ?_ | with_reducible refine w_jsNil ?_ | with_reducible refine w_jsCons ?_ | with_reducible refine w_inS ?_ | with_reducible refine w_notInS ?_ | with_reducible refine w_statI ?_ | with_reducible refine w_fNeS ?_ | ((with_reducible apply w_var); exact rfl) | ((with_reducible apply w_isE); exact rfl) | ((with_reducible apply w_onTru); exact rfl) | ((with_reducible apply w_tgTup); exact rfl) | ((with_reducible refine w_fPow ?_ ?_); exact ⟨by decide, by decide, by decide⟩) | (with_reducible refine w_fMod (by decide) ?_) | ((with_reducible apply w_fIxT); exact rfl) | ((with_reducible apply w_fIxL); exact rfl) | (with_reducible refine w_oSome ?_) | ((with_reducible apply w_fIxC); (first | with_reducible exact put_same | assumption); exact rfl) | ((with_reducible apply w_fLenC); (first | with_reducible exact put_same | assumption)) | ((with_reducible apply w_setL); (first | with_reducible exact put_same | assumption); exact rfl) | (with_reducible refine w_fLenS (by omega) ?_) | (with_reducible refine w_slStr (by omega) ?_) | (with_reducible refine w_fAddS (by omega) ?_) | (with_reducible refine w_remPre (by omega) ?_) | (with_reducible refine w_fmtS (by omega) ?_) | (with_reducible refine w_fMul (mulR (by decide)) ?_) | (with_reducible refine w_fMul (mulL (by omega)) ?_) | (with_reducible refine w_fMul (mulR (by omega)) ?_) | (with_reducible refine w_fDiv (dv30 (by omega) (by omega)) ?_) | (with_reducible refine w_fMod (by omega) ?_) | ((with_reducible refine And.intro (a := List.length _ ≤ sizeLine) ?_ ?_); exact Nat.le_of_ble_eq_true rfl) | (with_reducible refine And.intro (a := List.length _ = _) rfl ?_) | (with_reducible refine w_fld ?_) | (with_reducible refine w_isT ?_) | (with_reducible refine w_isO ?_) | ((with_reducible refine Exists.intro ?_ (And.intro (a := fldD _ _ _ _ = _) ?_ ?_)); rotate_left; first | exact rfl) | ((with_reducible refine Exists.intro ?_ (And.intro (a := isT _ _ _ = _) ?_ ?_)); rotate_left; exact rfl) | ((with_reducible refine Exists.intro ?_ (And.intro (a := isO _ _ _ = _) ?_ ?_)); rotate_left; exact rfl) | ((with_reducible refine Exists.intro ?_ (And.intro (a := D.int _ = D.int _) ?_ ?_)); rotate_left; exact rfl) | ((with_reducible refine w_kT' (k := T3.isInt _) ?_ ?_); exact rfl) | ((with_reducible refine w_kF' (k := T3.isInt _) ?_ ?_); exact rfl) | ((with_reducible refine w_kT' (k := T3.isBl _) ?_ ?_); exact rfl) | ((with_reducible refine w_kF' (k := T3.isBl _) ?_ ?_); exact rfl) | ((with_reducible refine w_kT' (k := T3.isStr _) ?_ ?_); exact rfl) | ((with_reducible refine w_kF' (k := T3.isStr _) ?_ ?_); exact rfl) | ((with_reducible refine w_kT' (k := T3.isTup _) ?_ ?_); exact rfl) | ((with_reducible refine w_kF' (k := T3.isTup _) ?_ ?_); exact rfl) | ((with_reducible refine w_kT' (k := T3.isLst _) ?_ ?_); exact rfl) | ((with_reducible refine w_kF' (k := T3.isLst _) ?_ ?_); exact rfl) | ((with_reducible refine And.intro (a := insD _ _ _ _) ?_ ?_); (first | exact ⟨rfl, rfl⟩)) | (with_reducible refine w_kF' (k := !true) rfl ?_) | (with_reducible refine w_kT' (k := !false) rfl ?_) | ((with_reducible refine w_kT' (k := decide _) ?_ ?_); decide +kernel) | ((with_reducible refine w_kF' (k := decide _) ?_ ?_); decide +kernel)))
theorem b_law_stirred : BodyOk ["script", "at", "pool", "cell"] 2 sp_law_stirred m_law_stirred := by
  rintro ds O Z P hl ⟨ns, i, rfl, hq⟩
  show m_law_stirred (En.mk _ _ _ _ _) [some (.lst (ns.map D.int)), some (.int i), none, none] O
  unfold m_law_stirred
  walk_at "PC02 W0"
  refine ⟨ns, i, rfl, fun p a b c k hp => ?_⟩
  walk_at "PC02 W0"
  refine w_forInv (fun Γ O' => ∃ a b c k z, Γ = [some (.lst (ns.map D.int)), some (.int i), some (.cell p), z] ∧ O' = put O p (poolD a b c k)) (fun _ _ _ => rfl) _ ?_ ?_ _ _ ⟨a, b, c, k, none, rfl, rfl⟩
  · rintro x hx K hK Γ O' ⟨a, b, c, k, z, rfl, rfl⟩
    obtain ⟨y, rfl⟩ : ∃ y, x = .int y := by
      have := List.mem_of_mem_drop (List.mem_of_mem_take hx)
      obtain ⟨y, _, e⟩ := List.mem_map.mp this
      exact ⟨y, e.symm⟩
    unfold poolD
    walk_at "PC02 V1"
    exact hK _ _ ⟨_, _, _, _, _, rfl, put_put⟩
  · rintro Γ O' ⟨a, b, c, k, z, rfl, rfl⟩
    walk_at "PC02 W0"
    exact w_fz (hq p a b c k hp)
local macro_rules | `(tactic| walk_at "PC02 U2") => `(tactic| (repeat' first | with_reducible refine w_seq ?_ | with_reducible refine w_sui ?_ | with_reducible refine w_next ?_ | with_reducible refine w_brk ?_ | with_reducible refine w_cont ?_ | with_reducible refine w_ret ?_ | with_reducible refine w_retN ?_ | with_reducible refine w_drop ?_ | with_reducible refine w_if ?_ | with_reducible refine w_asg ?_ | with_reducible refine w_par ?_ | with_reducible refine w_setA ?_ | with_reducible refine w_raise ?_ | with_reducible refine w_for ?_ | with_reducible refine w_forR1 ?_ | with_reducible refine w_forLst ?_ | with_reducible refine w_tgName ?_ | with_reducible refine w_tgIx ?_ | with_reducible refine w_tgCons ?_ | with_reducible refine w_tgNil ?_ | with_reducible refine w_un ?_ | with_reducible refine w_op ?_ | with_reducible refine w_B ?_ | with_reducible refine w_tru ?_ | with_reducible refine w_and ?_ | with_reducible refine w_or ?_ | with_reducible refine w_not ?_ | with_reducible refine w_andV ?_ | with_reducible refine w_orV ?_ | with_reducible refine w_notV ?_ | with_reducible refine w_ifE ?_ | with_reducible refine w_nil ?_ | with_reducible refine w_cons ?_ | with_reducible refine w_tup ?_ | with_reducible refine w_lst ?_ | with_reducible refine w_cb ?_ | with_reducible refine w_call ?_ | with_reducible refine w_slice ?_ | with_reducible refine w_oNone ?_ | with_reducible refine w_onBl ?_ | with_reducible refine w_onTruB ?_ | with_reducible refine w_kT ?_ | with_reducible refine w_kF ?_ | with_reducible refine w_fAdd ?_ | with_reducible refine w_fSub ?_ | with_reducible refine w_fNeg ?_ | with_reducible refine w_fLt ?_ | with_reducible refine w_fLe ?_ | with_reducible refine w_fGt ?_ | with_reducible refine w_fGe ?_ | with_reducible refine w_fEqI ?_ | with_reducible refine w_fNeI ?_ | with_reducible refine w_fEqB ?_ | with_reducible refine w_fEqS ?_ | with_reducible refine w_fInt ?_ | with_reducible refine w_fIntB ?_ | with_reducible refine w_fAbs ?_ | with_reducible refine w_fMax ?_ | with_reducible refine w_fMin ?_ | with_reducible refine w_fGcd ?_ | with_reducible refine w_fLenL ?_ | with_reducible refine w_fLenT ?_ | with_reducible refine w_own ?_ | with_reducible refine w_ownI ?_ | with_reducible refine w_eqOwnI ?_ | with_reducible refine w_c ?_ | with_reducible refine w_make ?_ | with_reducible refine w_makeK ?_ | with_reducible refine w_par2 ?_ | with_reducible refine w_slLst ?_ | with_reducible refine w_p10_6 ?_ | with_reducible refine w_p10_8 ?_ | with_reducible refine w_p10_18 ?_ | with_reducible refine w_p10_30 ?_ | with_reducible refine w_p10_51 ?_ | with_reducible refine w_p10_59 ?_ | with_reducible refine w_p10_60 ?_ | with_reducible refine w_p2_63 ?_ | with_reducible refine w_p2_64 ?_ | with_reducible refine w_comp ?_ | with_reducible refine w_meth ?_ | with_reducible refine w_app ?_ | with_reducible refine w_tupOf ?_ | with_reducible refine w_tupL ?_ | with_reducible refine w_tupT ?_ | with_reducible refine w_forTup ?_ | with_reducible refine w_sm ?_ | with_reducible refine w_sm0 ?_ | with_reducible refine w_isStr ?_ | with_reducible refine w_find ?_ | with_reducible refine w_starts ?_ | with_reducible refine w_isascii ?_ | with_reducible refine w_isdigit ?_ | with_reducible refine w_str1S ?_ | with_reducible refine w_strO ?_ | with_reducible refine w_fmt ?_ | with_reducible refine w_join ?_ | with_reducible refine w_jsNil ?_ | with_reducible refine w_jsCons ?_ | with_reducible refine w_inS ?_ | with_reducible refine w_notInS ?_ | with_reducible refine w_statI ?_ | with_reducible refine w_fNeS ?_ | ((with_reducible apply w_var); exact rfl) | ((with_reducible apply w_isE); exact rfl) | ((with_reducible apply w_onTru); exact rfl) | ((with_reducible apply w_tgTup); exact rfl) | ((with_reducible refine w_fPow ?_ ?_); exact ⟨by decide, by decide, by decide⟩) | (with_reducible refine w_fMod (by decide) ?_) | ((with_reducible apply w_fIxT); exact rfl) | ((with_reducible apply w_fIxL); exact rfl) | (with_reducible refine w_oSome ?_) | ((with_reducible apply w_fIxC); (first | with_reducible exact put_same | assumption); exact rfl) | ((with_reducible apply w_fLenC); (first | with_reducible exact put_same | assumption)) | ((with_reducible apply w_setL); (first | with_reducible exact put_same | assumption); exact rfl) | (with_reducible refine w_fLenS (by omega) ?_) | (with_reducible refine w_slStr (by omega) ?_) | (with_reducible refine w_fAddS (by omega) ?_) | (with_reducible refine w_remPre (by omega) ?_) | (with_reducible refine w_fmtS (by omega) ?_) | (with_reducible refine w_fMul (mulR (by decide)) ?_) | (with_reducible refine w_fMul (mulL (by omega)) ?_) | (with_reducible refine w_fMul (mulR (by omega)) ?_) | (with_reducible refine w_fDiv (dv30 (by omega) (by omega)) ?_) | (with_reducible refine w_fMod (by omega) ?_) | (with_reducible refine w_k (fun _ => ?_) fun _ => ?_) | ((with_reducible refine And.intro (a := List.length _ ≤ sizeLine) ?_ ?_); exact Nat.le_of_ble_eq_true rfl) | (with_reducible refine And.intro (a := List.length _ = _) rfl ?_) | (with_reducible refine w_fld ?_) | (with_reducible refine w_isT ?_) | (with_reducible refine w_isO ?_) | ((with_reducible refine Exists.intro ?_ (And.intro (a := fldD _ _ _ _ = _) ?_ ?_)); rotate_left; first | exact rfl) | ((with_reducible refine Exists.intro ?_ (And.intro (a := isT _ _ _ = _) ?_ ?_)); rotate_left; exact rfl) | ((with_reducible refine Exists.intro ?_ (And.intro (a := isO _ _ _ = _) ?_ ?_)); rotate_left; exact rfl) | ((with_reducible refine Exists.intro ?_ (And.intro (a := D.int _ = D.int _) ?_ ?_)); rotate_left; exact rfl) | ((with_reducible refine w_kT' (k := T3.isInt _) ?_ ?_); exact rfl) | ((with_reducible refine w_kF' (k := T3.isInt _) ?_ ?_); exact rfl) | ((with_reducible refine w_kT' (k := T3.isBl _) ?_ ?_); exact rfl) | ((with_reducible refine w_kF' (k := T3.isBl _) ?_ ?_); exact rfl) | ((with_reducible refine w_kT' (k := T3.isStr _) ?_ ?_); exact rfl) | ((with_reducible refine w_kF' (k := T3.isStr _) ?_ ?_); exact rfl) | ((with_reducible refine w_kT' (k := T3.isTup _) ?_ ?_); exact rfl) | ((with_reducible refine w_kF' (k := T3.isTup _) ?_ ?_); exact rfl) | ((with_reducible refine w_kT' (k := T3.isLst _) ?_ ?_); exact rfl) | ((with_reducible refine w_kF' (k := T3.isLst _) ?_ ?_); exact rfl) | ((with_reducible refine And.intro (a := insD _ _ _ _) ?_ ?_); (first | exact ⟨rfl, rfl⟩)) | (with_reducible refine w_kF' (k := !true) rfl ?_) | (with_reducible refine w_kT' (k := !false) rfl ?_) | ((with_reducible refine w_kT' (k := decide _) ?_ ?_); decide +kernel) | ((with_reducible refine w_kF' (k := decide _) ?_ ?_); decide +kernel)))
theorem b_law_size : BodyOk ["pool", "kind", "total", "k"] 1 sp_law_size m_law_size := by
  rintro ds O Z P hl ⟨p, rfl, hp, hq⟩
  show m_law_size (En.mk _ _ _ _ _) [some (.cell p), none, none, none] O
  unfold m_law_size
  have hb : big = 1000000000000000000000000000000000000000000000000000000000000 := rfl
  walk_at "PC02 W0"
  refine ⟨p, 4, rfl, hp, by decide, by decide, fun r O1 r0 r1 u1 => ?_⟩
  walk_at "PC02 U2"
  · refine ⟨p, 12, rfl, u1.pool, by decide, by decide, fun r O2 r0 r1 u2 => w_fz (hq _ _ r0 (by omega) (u1.trans u2))⟩
  · refine ⟨p, _, rfl, u1.pool, by decide, by decide, fun r O2 r0 r1 u2 => w_fz (hq _ _ r0 (by omega) (u1.trans u2))⟩
  · intro q hq'
    refine w_fzLst hq' ?_
    walk_at "PC02 W0"
    refine ⟨p, 8, rfl, u1.pool, by decide, by decide, fun r O2 r0 r1 u2 => ?_⟩
    have hr : r = 0 ∨ r = 1 ∨ r = 2 ∨ r = 3 ∨ r = 4 ∨ r = 5 ∨ r = 6 ∨ r = 7 := by omega
    rcases hr with rfl | rfl | rfl | rfl | rfl | rfl | rfl | rfl <;> exact w_fIxL rfl (w_fz (hq _ _ (by decide) (by decide) (u1.trans u2)))
  · refine w_rng1 (by decide) ?_
    have main : ∀ (n : Nat) (lo t : Int) (z : Option D) (O2 : Sto), Upd p O O2 → 0 ≤ t → (t + 1) * 1000000 ^ n ≤ big → forL (fun _ => True) (tgName 3) (mAsg (mOp fAdd (mOp fMul (mVar 2) (mOp fPow (mC (.int 10)) (mC (.int 6)))) (mCall sp_law_draw 2 (mCons (mVar 0) (mCons (mOp fPow (mC (.int 10)) (mC (.int 6))) mNil)))) (tgName 2))
        ⟨mRet (mVar 2) ⟨fun _ O' => orFz P .non O', P, fun _ _ => False, fun _ _ => False, fun C fs _ O' => Z C fs O'⟩, P, fun _ _ => False, fun _ _ => False, fun C fs _ O' => Z C fs O'⟩ (upto lo n) [some (.cell p), some (.int r), some (.int t), z] O2 := by
      intro n
      induction n with
      | zero =>
        intro lo t z O2 u2 t0 t1
        refine w_forNil trivial ?_
        walk_at "PC02 W0"
        exact w_fz (hq _ _ t0 (by omega) u2)
      | succ n ih =>
        intro lo t z O2 u2 t0 t1
        refine w_forCons trivial ?_
        walk_at "PC02 V1"
        refine ⟨p, _, rfl, u2.pool, by decide, by decide, fun r' O3 r0' r1' u3 => ?_⟩
        walk_at "PC02 W0"
        refine ih _ _ _ _ (u2.trans u3) (by omega) ?_
        have e : (t + 1) * 1000000 ^ (n + 1) = (t * 1000000 + 1000000) * 1000000 ^ n := by
          rw [Int.pow_succ, Int.mul_comm (1000000 ^ n) 1000000, ← Int.mul_assoc, Int.add_mul]
          simp
        rw [e] at t1
        refine Int.le_trans (Int.mul_le_mul_of_nonneg_right (by omega) (Int.pow_nonneg (by decide))) t1
    exact main 10 0 0 none O1 u1 (by decide) (by decide +kernel)
end K02

namespace K02
open PySem L2 L3
theorem big_eq : big = 1000000000000000000000000000000 * 1000000000000000000000000000000 := by decide +kernel
theorem prodL {a k : Int} (a0 : 0 ≤ a) (a1 : a ≤ 999999999999999999999999999999) (k0 : 0 ≤ k) (k1 : k ≤ 999999999999999999999999999999) : 0 ≤ a * k ∧ a * k < big := by
  refine ⟨Int.mul_nonneg a0 k0, ?_⟩
  rw [big_eq]
  exact Int.lt_of_le_of_lt (Int.mul_le_mul a1 k1 k0 (by decide)) (by decide)
theorem prodP {a k : Int} (a0 : 1 ≤ a) (k0 : 1 ≤ k) : 1 ≤ a * k := by
  have : 0 < a * k := Int.mul_pos (by omega) (by omega)
  omega
theorem bd100 {a : Int} (a0 : 0 ≤ a) (a1 : a ≤ 1000000000000000000000000000000) : Bd 100 a := by
  unfold Bd
  omega
theorem max1 (r : Int) : ∃ s : Int, (if r > 1 then r else 1) = s ∧ 1 ≤ s ∧ ((1 < r ∧ s = r) ∨ (r ≤ 1 ∧ s = 1)) := by
  by_cases h : r > 1
  · exact ⟨r, if_pos h, by omega, by omega⟩
  · exact ⟨1, if_neg h, by omega, by omega⟩
local macro_rules | `(tactic| walk_at "PD02 W0") => `(tactic| (repeat' first | with_reducible refine w_seq ?_ | with_reducible refine w_sui ?_ | with_reducible refine w_next ?_ | with_reducible refine w_brk ?_ | with_reducible refine w_cont ?_ | with_reducible refine w_ret ?_ | with_reducible refine w_retN ?_ | with_reducible refine w_drop ?_ | with_reducible refine w_if ?_ | with_reducible refine w_asg ?_ | with_reducible refine w_par ?_ | with_reducible refine w_setA ?_ | with_reducible refine w_raise ?_ | with_reducible refine w_for ?_ | with_reducible refine w_forR1 ?_ | with_reducible refine w_forLst ?_ | with_reducible refine w_tgName ?_ | with_reducible refine w_tgIx ?_ | with_reducible refine w_tgCons ?_ | with_reducible refine w_tgNil ?_ | with_reducible refine w_un ?_ | with_reducible refine w_op ?_ | with_reducible refine w_B ?_ | with_reducible refine w_tru ?_ | with_reducible refine w_and ?_ | with_reducible refine w_or ?_ | with_reducible refine w_not ?_ | with_reducible refine w_andV ?_ | with_reducible refine w_orV ?_ | with_reducible refine w_notV ?_ | with_reducible refine w_ifE ?_ | with_reducible refine w_nil ?_ | with_reducible refine w_cons ?_ | with_reducible refine w_tup ?_ | with_reducible refine w_lst ?_ | with_reducible refine w_cb ?_ | with_reducible refine w_call ?_ | with_reducible refine w_slice ?_ | with_reducible refine w_oNone ?_ | with_reducible refine w_onBl ?_ | with_reducible refine w_onTruB ?_ | with_reducible refine w_kT ?_ | with_reducible refine w_kF ?_ | with_reducible refine w_fAdd ?_ | with_reducible refine w_fSub ?_ | with_reducible refine w_fNeg ?_ | with_reducible refine w_fLt ?_ | with_reducible refine w_fLe ?_ | with_reducible refine w_fGt ?_ | with_reducible refine w_fGe ?_ | with_reducible refine w_fEqI ?_ | with_reducible refine w_fNeI ?_ | with_reducible refine w_fEqB ?_ | with_reducible refine w_fEqS ?_ | with_reducible refine w_fInt ?_ | with_reducible refine w_fIntB ?_ | with_reducible refine w_fAbs ?_ | with_reducible refine w_fMax ?_ | with_reducible refine w_fMin ?_ | with_reducible refine w_fGcd ?_ | with_reducible refine w_fLenL ?_ | with_reducible refine w_fLenT ?_ | with_reducible refine w_own ?_ | with_reducible refine w_ownI ?_ | with_reducible refine w_eqOwnI ?_ | with_reducible refine w_c ?_ | with_reducible refine w_make ?_ | with_reducible refine w_makeK ?_ | with_reducible refine w_par2 ?_ | with_reducible refine w_slLst ?_ | with_reducible refine w_p10_6 ?_ | with_reducible refine w_p10_8 ?_ | with_reducible refine w_p10_18 ?_ | with_reducible refine w_p10_30 ?_ | with_reducible refine w_p10_51 ?_ | with_reducible refine w_p10_59 ?_ | with_reducible refine w_p10_60 ?_ | with_reducible refine w_p2_63 ?_ | with_reducible refine w_p2_64 ?_ | with_reducible refine w_comp ?_ | with_reducible refine w_meth ?_ | with_reducible refine w_app ?_ | with_reducible refine w_tupOf ?_ | with_reducible refine w_tupL ?_ | with_reducible refine w_tupT ?_ | with_reducible refine w_forTup ?_ | with_reducible refine w_sm ?_ | with_reducible refine w_sm0 ?_ | with_reducible refine w_isStr ?_ | with_reducible refine w_find ?_ | with_reducible refine w_starts ?_ | with_reducible refine w_isascii ?_ | with_reducible refine w_isdigit ?_ | with_reducible refine w_str1S ?_ | with_reducible refine w_strO ?_ | with_reducible refine w_fmt ?_ | with_reducible refine w_join ?_ | with_reducible refine w_jsNil ?_ | with_reducible refine w_jsCons ?_ | with_reducible refine w_inS ?_ | with_reducible refine w_notInS ?_ | with_reducible refine w_statI ?_ | with_reducible refine w_fNeS ?_ | ((with_reducible apply w_var); exact rfl) | ((with_reducible apply w_isE); exact rfl) | ((with_reducible apply w_onTru); exact rfl) | ((with_reducible apply w_tgTup); exact rfl) | ((with_reducible refine w_fPow ?_ ?_); exact ⟨by decide, by decide, by decide⟩) | (with_reducible refine w_fMod (by decide) ?_) | ((with_reducible apply w_fIxT); exact rfl) | ((with_reducible apply w_fIxL); exact rfl) | (with_reducible refine w_oSome ?_) | ((with_reducible apply w_fIxC); (first | with_reducible exact put_same | assumption); exact rfl) | ((with_reducible apply w_fLenC); (first | with_reducible exact put_same | assumption)) | ((with_reducible apply w_setL); (first | with_reducible exact put_same | assumption); exact rfl) | ((with_reducible refine And.intro (a := List.length _ ≤ sizeLine) ?_ ?_); exact Nat.le_of_ble_eq_true rfl) | (with_reducible refine And.intro (a := List.length _ = _) rfl ?_) | (with_reducible refine w_fld ?_) | (with_reducible refine w_isT ?_) | (with_reducible refine w_isO ?_) | ((with_reducible refine Exists.intro ?_ (And.intro (a := fldD _ _ _ _ = _) ?_ ?_)); rotate_left; first | exact rfl) | ((with_reducible refine Exists.intro ?_ (And.intro (a := isT _ _ _ = _) ?_ ?_)); rotate_left; exact rfl) | ((with_reducible refine Exists.intro ?_ (And.intro (a := isO _ _ _ = _) ?_ ?_)); rotate_left; exact rfl) | ((with_reducible refine Exists.intro ?_ (And.intro (a := D.int _ = D.int _) ?_ ?_)); rotate_left; exact rfl) | ((with_reducible refine w_kT' (k := T3.isInt _) ?_ ?_); exact rfl) | ((with_reducible refine w_kF' (k := T3.isInt _) ?_ ?_); exact rfl) | ((with_reducible refine w_kT' (k := T3.isBl _) ?_ ?_); exact rfl) | ((with_reducible refine w_kF' (k := T3.isBl _) ?_ ?_); exact rfl) | ((with_reducible refine w_kT' (k := T3.isStr _) ?_ ?_); exact rfl) | ((with_reducible refine w_kF' (k := T3.isStr _) ?_ ?_); exact rfl) | ((with_reducible refine w_kT' (k := T3.isTup _) ?_ ?_); exact rfl) | ((with_reducible refine w_kF' (k := T3.isTup _) ?_ ?_); exact rfl) | ((with_reducible refine w_kT' (k := T3.isLst _) ?_ ?_); exact rfl) | ((with_reducible refine w_kF' (k := T3.isLst _) ?_ ?_); exact rfl) | ((with_reducible refine And.intro (a := insD _ _ _ _) ?_ ?_); (first | exact ⟨rfl, rfl⟩)) | (with_reducible refine w_kF' (k := !true) rfl ?_) | (with_reducible refine w_kT' (k := !false) rfl ?_) | ((with_reducible refine w_kT' (k := decide _) ?_ ?_); decide +kernel) | ((with_reducible refine w_kF' (k := decide _) ?_ ?_); decide +kernel)))
local macro_rules | `(tactic| walk_at "PD02 U1") => `(tactic| (repeat' first | with_reducible refine w_seq ?_ | with_reducible refine w_sui ?_ | with_reducible refine w_next ?_ | with_reducible refine w_brk ?_ | with_reducible refine w_cont ?_ | with_reducible refine w_ret ?_ | with_reducible refine w_retN ?_ | with_reducible refine w_drop ?_ | with_reducible refine w_if ?_ | with_reducible refine w_asg ?_ | with_reducible refine w_par ?_ | with_reducible refine w_setA ?_ | with_reducible refine w_raise ?_ | with_reducible refine w_for ?_ | with_reducible refine w_forR1 ?_ | with_reducible refine w_forLst ?_ | with_reducible refine w_tgName ?_ | with_reducible refine w_tgIx ?_ | with_reducible refine w_tgCons ?_ | with_reducible refine w_tgNil ?_ | with_reducible refine w_un ?_ | with_reducible refine w_op ?_ | with_reducible refine w_B ?_ | with_reducible refine w_tru ?_ | with_reducible refine w_and ?_ | with_reducible refine w_or ?_ | with_reducible refine w_not ?_ | with_reducible refine w_andV ?_ | with_reducible refine w_orV ?_ | with_reducible refine w_notV ?_ | with_reducible refine w_ifE ?_ | with_reducible refine w_nil ?_ | with_reducible refine w_cons ?_ | with_reducible refine w_tup ?_ | with_reducible refine w_lst ?_ | with_reducible refine w_cb ?_ | with_reducible refine w_call ?_ | with_reducible refine w_slice ?_ | with_reducible refine w_oNone ?_ | with_reducible refine w_onBl ?_ | with_reducible refine w_onTruB ?_ | with_reducible refine w_kT ?_ | with_reducible refine w_kF ?_ | with_reducible refine w_fAdd ?_ | with_reducible refine w_fSub ?_ | with_reducible refine w_fNeg ?_ | with_reducible refine w_fLt ?_ | with_reducible refine w_fLe ?_ | with_reducible refine w_fGt ?_ | with_reducible refine w_fGe ?_ | with_reducible refine w_fEqI ?_ | with_reducible refine w_fNeI ?_ | with_reducible refine w_fEqB ?_ | with_reducible refine w_fEqS ?_ | with_reducible refine w_fInt ?_ | with_reducible refine w_fIntB ?_ | with_reducible refine w_fAbs ?_ | with_reducible refine w_fMax ?_ | with_reducible refine w_fMin ?_ | with_reducible refine w_fGcd ?_ | with_reducible refine w_fLenL ?_ | with_reducible refine w_fLenT ?_ | with_reducible refine w_own ?_ | with_reducible refine w_ownI ?_ | with_reducible refine w_eqOwnI ?_ | with_reducible refine w_c ?_ | with_reducible refine w_make ?_ | with_reducible refine w_makeK ?_ | with_reducible refine w_par2 ?_ | with_reducible refine w_slLst ?_ | with_reducible refine w_p10_6 ?_ | with_reducible refine w_p10_8 ?_ | with_reducible refine w_p10_18 ?_ | with_reducible refine w_p10_30 ?_ | with_reducible refine w_p10_51 ?_ | with_reducible refine w_p10_59 ?_ | with_reducible refine w_p10_60 ?_ | with_reducible refine w_p2_63 ?_ | with_reducible refine w_p2_64 ?_ | with_reducible refine w_comp ?_ | with_reducible refine w_meth ?_ | with_reducible refine w_app ?_ | with_reducible refine w_tupOf ?_ | with_reducible refine w_tupL ?_ | with_reducible refine w_tupT ?_ | with_reducible refine w_forTup ?_ | with_reducible refine w_sm ?_ | with_reducible refine w_sm0 ?_ | with_reducible refine w_isStr ?_ | with_reducible refine w_find ?_ | with_reducible refine w_starts ?_ | with_reducible refine w_isascii ?_ | with_reducible refine w_isdigit ?_ | with_reducible refine w_str1S ?_ | with_reducible refine w_strO ?_ | with_reducible refine w_fmt ?_ | with_reducible refine w_join ?_ | with_reducible refine w_jsNil ?_ | with_reducible refine w_jsCons ?_ | with_reducible refine w_inS ?_ | with_reducible refine w_notInS ?_ | with_reducible refine w_statI ?_ | with_reducible refine w_fNeS ?_ | ((with_reducible apply w_var); exact rfl) | ((with_reducible apply w_isE); exact rfl) | ((with_reducible apply w_onTru); exact rfl) | ((with_reducible apply w_tgTup); exact rfl) | ((with_reducible refine w_fPow ?_ ?_); exact ⟨by decide, by decide, by decide⟩) | (with_reducible refine w_fMod (by decide) ?_) | ((with_reducible apply w_fIxT); exact rfl) | ((with_reducible apply w_fIxL); exact rfl) | (with_reducible refine w_oSome ?_) | ((with_reducible apply w_fIxC); (first | with_reducible exact put_same | assumption); exact rfl) | ((with_reducible apply w_fLenC); (first | with_reducible exact put_same | assumption)) | ((with_reducible apply w_setL); (first | with_reducible exact put_same | assumption); exact rfl) | (with_reducible refine w_fLenS (by omega) ?_) | (with_reducible refine w_slStr (by omega) ?_) | (with_reducible refine w_fAddS (by omega) ?_) | (with_reducible refine w_remPre (by omega) ?_) | (with_reducible refine w_fmtS (by omega) ?_) | (with_reducible refine w_fMul (mulR (by decide)) ?_) | (with_reducible refine w_fMul (mulL (by omega)) ?_) | (with_reducible refine w_fMul (mulR (by omega)) ?_) | (with_reducible refine w_fDiv (dv30 (by omega) (by omega)) ?_) | (with_reducible refine w_fMod (by omega) ?_) | (with_reducible refine w_k (fun _ => ?_) fun _ => ?_) | ((with_reducible refine And.intro (a := List.length _ ≤ sizeLine) ?_ ?_); exact Nat.le_of_ble_eq_true rfl) | (with_reducible refine And.intro (a := List.length _ = _) rfl ?_) | (with_reducible refine w_fld ?_) | (with_reducible refine w_isT ?_) | (with_reducible refine w_isO ?_) | ((with_reducible refine Exists.intro ?_ (And.intro (a := fldD _ _ _ _ = _) ?_ ?_)); rotate_left; first | exact rfl) | ((with_reducible refine Exists.intro ?_ (And.intro (a := isT _ _ _ = _) ?_ ?_)); rotate_left; exact rfl) | ((with_reducible refine Exists.intro ?_ (And.intro (a := isO _ _ _ = _) ?_ ?_)); rotate_left; exact rfl) | ((with_reducible refine Exists.intro ?_ (And.intro (a := D.int _ = D.int _) ?_ ?_)); rotate_left; exact rfl) | ((with_reducible refine w_kT' (k := T3.isInt _) ?_ ?_); exact rfl) | ((with_reducible refine w_kF' (k := T3.isInt _) ?_ ?_); exact rfl) | ((with_reducible refine w_kT' (k := T3.isBl _) ?_ ?_); exact rfl) | ((with_reducible refine w_kF' (k := T3.isBl _) ?_ ?_); exact rfl) | ((with_reducible refine w_kT' (k := T3.isStr _) ?_ ?_); exact rfl) | ((with_reducible refine w_kF' (k := T3.isStr _) ?_ ?_); exact rfl) | ((with_reducible refine w_kT' (k := T3.isTup _) ?_ ?_); exact rfl) | ((with_reducible refine w_kF' (k := T3.isTup _) ?_ ?_); exact rfl) | ((with_reducible refine w_kT' (k := T3.isLst _) ?_ ?_); exact rfl) | ((with_reducible refine w_kF' (k := T3.isLst _) ?_ ?_); exact rfl) | ((with_reducible refine And.intro (a := insD _ _ _ _) ?_ ?_); (first | exact ⟨rfl, rfl⟩)) | (with_reducible refine w_kF' (k := !true) rfl ?_) | (with_reducible refine w_kT' (k := !false) rfl ?_) | ((with_reducible refine w_kT' (k := decide _) ?_ ?_); decide +kernel) | ((with_reducible refine w_kF' (k := decide _) ?_ ?_); decide +kernel)))
local macro_rules | `(tactic| walk_at "PD02 V2") => `(tactic| (repeat' first | with_reducible refine w_seq ?_ | with_reducible refine w_sui ?_ | with_reducible refine w_next ?_ | with_reducible refine w_brk ?_ | with_reducible refine w_cont ?_ | with_reducible refine w_ret ?_ | with_reducible refine w_retN ?_ | with_reducible refine w_drop ?_ | with_reducible refine w_if ?_ | with_reducible refine w_asg ?_ | with_reducible refine w_par ?_ | with_reducible refine w_setA ?_ | with_reducible refine w_raise ?_ | with_reducible refine w_for ?_ | with_reducible refine w_forR1 ?_ | with_reducible refine w_forLst ?_ | with_reducible refine w_tgName ?_ | with_reducible refine w_tgIx ?_ | with_reducible refine w_tgCons ?_ | with_reducible refine w_tgNil ?_ | with_reducible refine w_un ?_ | with_reducible refine w_op ?_ | with_reducible refine w_B ?_ | with_reducible refine w_tru ?_ | with_reducible refine w_and ?_ | with_reducible refine w_or ?_ | with_reducible refine w_not ?_ | with_reducible refine w_andV ?_ | with_reducible refine w_orV ?_ | with_reducible refine w_notV ?_ | with_reducible refine w_ifE ?_ | with_reducible refine w_nil ?_ | with_reducible refine w_cons ?_ | with_reducible refine w_tup ?_ | with_reducible refine w_lst ?_ | with_reducible refine w_cb ?_ | with_reducible refine w_call ?_ | with_reducible refine w_slice ?_ | with_reducible refine w_oNone ?_ | with_reducible refine w_onBl ?_ | with_reducible refine w_onTruB ?_ | with_reducible refine w_kT ?_ | with_reducible refine w_kF ?_ | with_reducible refine w_fAdd ?_ | with_reducible refine w_fSub ?_ | with_reducible refine w_fNeg ?_ | with_reducible refine w_fLt ?_ | with_reducible refine w_fLe ?_ | with_reducible refine w_fGt ?_ | with_reducible refine w_fGe ?_ | with_reducible refine w_fEqI ?_ | with_reducible refine w_fNeI ?_ | with_reducible refine w_fEqB ?_ | with_reducible refine w_fEqS ?_ | with_reducible refine w_fInt ?_ | with_reducible refine w_fIntB ?_ | with_reducible refine w_fAbs ?_ | with_reducible refine w_fMax ?_ | with_reducible refine w_fMin ?_ | with_reducible refine w_fGcd ?_ | with_reducible refine w_fLenL ?_ | with_reducible refine w_fLenT ?_ | with_reducible refine w_own ?_ | with_reducible refine w_ownI ?_ | with_reducible refine w_eqOwnI ?_ | with_reducible refine w_c ?_ | with_reducible refine w_make ?_ | with_reducible refine w_makeK ?_ | with_reducible refine w_par2 ?_ | with_reducible refine w_slLst ?_ | with_reducible refine w_p10_6 ?_ | with_reducible refine w_p10_8 ?_ | with_reducible refine w_p10_18 ?_ | with_reducible refine w_p10_30 ?_ | with_reducible refine w_p10_51 ?_ | with_reducible refine w_p10_59 ?_ | with_reducible refine w_p10_60 ?_ | with_reducible refine w_p2_63 ?_ | with_reducible refine w_p2_64 ?_ | with_reducible refine w_comp ?_ | with_reducible refine w_meth ?_ | with_reducible refine w_app ?_ | with_reducible refine w_tupOf ?_ | with_reducible refine w_tupL ?_ | with_reducible refine w_tupT ?_ | with_reducible refine w_forTup ?_ | with_reducible refine w_sm ?_ | with_reducible refine w_sm0 ?_ | with_reducible refine w_isStr ?_ | with_reducible refine w_find ?_ | with_reducible refine w_starts ?_ | with_reducible refine w_isascii ?_ | with_reducible refine w_isdigit ?_ | with_reducible refine w_str1S ?_ | with_reducible refine w_strO ?_ | with_reducible refine w_fmt ?_ | with_reducible refine w_join ?_ | with_reducible refine w_jsNil ?_ | with_reducible refine w_jsCons ?_ | with_reducible refine w_inS ?_ | with_reducible refine w_notInS ?_ | with_reducible refine w_statI ?_ | with_reducible refine w_fNeS ?_ | ((with_reducible apply w_var); exact rfl) | ((with_reducible apply w_isE); exact rfl) | ((with_reducible apply w_onTru); exact rfl) | ((with_reducible apply w_tgTup); exact rfl) | ((with_reducible refine w_fPow ?_ ?_); exact ⟨by decide, by decide, by decide⟩) | (with_reducible refine w_fMod (by decide) ?_) | ((with_reducible apply w_fIxT); exact rfl) | ((with_reducible apply w_fIxL); exact rfl) | (with_reducible refine w_oSome ?_) | ((with_reducible apply w_fIxC); (first | with_reducible exact put_same | assumption); exact rfl) | ((with_reducible apply w_fLenC); (first | with_reducible exact put_same | assumption)) | ((with_reducible apply w_setL); (first | with_reducible exact put_same | assumption); exact rfl) | (with_reducible refine w_fLenS (by omega) ?_) | (with_reducible refine w_slStr (by omega) ?_) | (with_reducible refine w_fAddS (by omega) ?_) | (with_reducible refine w_remPre (by omega) ?_) | (with_reducible refine w_fmtS (by omega) ?_) | (with_reducible refine w_fMul (mulR (by decide)) ?_) | (with_reducible refine w_fMul (mulL (by omega)) ?_) | (with_reducible refine w_fMul (mulR (by omega)) ?_) | (with_reducible refine w_fDiv (dv30 (by omega) (by omega)) ?_) | (with_reducible refine w_fMod (by omega) ?_) | ((with_reducible refine And.intro (a := List.length _ ≤ sizeLine) ?_ ?_); exact Nat.le_of_ble_eq_true rfl) | (with_reducible refine And.intro (a := List.length _ = _) rfl ?_) | (with_reducible refine w_fld ?_) | (with_reducible refine w_isT ?_) | (with_reducible refine w_isO ?_) | ((with_reducible refine Exists.intro ?_ (And.intro (a := fldD _ _ _ _ = _) ?_ ?_)); rotate_left; first | exact rfl) | ((with_reducible refine Exists.intro ?_ (And.intro (a := isT _ _ _ = _) ?_ ?_)); rotate_left; exact rfl) | ((with_reducible refine Exists.intro ?_ (And.intro (a := isO _ _ _ = _) ?_ ?_)); rotate_left; exact rfl) | ((with_reducible refine Exists.intro ?_ (And.intro (a := D.int _ = D.int _) ?_ ?_)); rotate_left; exact rfl) | ((with_reducible refine w_kT' (k := T3.isInt _) ?_ ?_); exact rfl) | ((with_reducible refine w_kF' (k := T3.isInt _) ?_ ?_); exact rfl) | ((with_reducible refine w_kT' (k := T3.isBl _) ?_ ?_); exact rfl) | ((with_reducible refine w_kF' (k := T3.isBl _) ?_ ?_); exact rfl) | ((with_reducible refine w_kT' (k := T3.isStr _) ?_ ?_); exact rfl) | ((with_reducible refine w_kF' (k := T3.isStr _) ?_ ?_); exact rfl) | ((with_reducible refine w_kT' (k := T3.isTup _) ?_ ?_); exact rfl) | ((with_reducible refine w_kF' (k := T3.isTup _) ?_ ?_); exact rfl) | ((with_reducible refine w_kT' (k := T3.isLst _) ?_ ?_); exact rfl) | ((with_reducible refine w_kF' (k := T3.isLst _) ?_ ?_); exact rfl) | ((with_reducible refine And.intro (a := insD _ _ _ _) ?_ ?_); (first | exact ⟨rfl, rfl⟩)) | (with_reducible refine w_kF' (k := !true) rfl ?_) | (with_reducible refine w_kT' (k := !false) rfl ?_) | ((with_reducible refine w_kT' (k := decide _) ?_ ?_); decide +kernel) | ((with_reducible refine w_kF' (k := decide _) ?_ ?_); decide +kernel)))
theorem b_law_fraction : BodyOk ["pool", "up", "down", "k"] 1 sp_law_fraction m_law_fraction := by
  rintro ds O Z P hl ⟨p, rfl, hp, hq⟩
  show m_law_fraction (En.mk _ _ _ _ _) [some (.cell p), none, none, none] O
  unfold m_law_fraction
  have hb : big = 1000000000000000000000000000000000000000000000000000000000000 := rfl
  walk_at "PD02 W0"
  refine ⟨p, rfl, hp, fun x O1 x0 x1 u1 => ?_⟩
  walk_at "PD02 W0"
  refine ⟨p, rfl, u1.pool, fun y O2 y0 y1 u2 => ?_⟩
  walk_at "PD02 W0"
  obtain ⟨d, e, d1, d2⟩ := max1 y
  rw [e]
  refine ⟨p, 3, rfl, u2.pool, by decide, by decide, fun r O3 r0 r1 u3 => ?_⟩
  have u123 := (u1.trans u2).trans u3
  walk_at "PD02 U1"
  · refine ⟨p, rfl, u3.pool, fun s O4 s0 s1 u4 => ?_⟩
    walk_at "PD02 V2"
    obtain ⟨k, e, k1, k2⟩ := max1 (s % 1000000000000000000000000000000)
    rw [e]
    refine w_fMul (Bd.ok (n := 100) (by decide) (by decide) (bd100 (by omega) (by omega)) (bd100 (by omega) (by omega))) ?_
    walk_at "PD02 V2"
    obtain ⟨w, e, w1, w2⟩ := max1 (d % 1000000000000000000000000000000)
    rw [e]
    refine w_fMul (Bd.ok (n := 100) (by decide) (by decide) (bd100 (by omega) (by omega)) (bd100 (by omega) (by omega))) ?_
    walk_at "PD02 V2"
    obtain ⟨p1, p2⟩ := prodL (a := x % 1000000000000000000000000000000) (k := k) (by omega) (by omega) (by omega) (by omega)
    obtain ⟨p3, p4⟩ := prodL (a := w) (k := k) (by omega) (by omega) (by omega) (by omega)
    have p5 := prodP w1 k1
    refine ⟨p, 2, rfl, u4.pool, by decide, by decide, fun r O5 r0 r1 u5 => ?_⟩
    walk_at "PD02 U1"
    · exact w_fz (hq _ _ _ (by omega) (by omega) (by omega) (by omega) ((u123.trans u4).trans u5))
    · exact w_fz (hq _ _ _ (by omega) (by omega) (by omega) (by omega) ((u123.trans u4).trans u5))
  · refine ⟨p, 2, rfl, u3.pool, by decide, by decide, fun r O5 r0 r1 u5 => ?_⟩
    walk_at "PD02 U1"
    · exact w_fz (hq _ _ _ (by omega) (by omega) (by omega) (by omega) (u123.trans u5))
    · exact w_fz (hq _ _ _ (by omega) (by omega) (by omega) (by omega) (u123.trans u5))
end K02

namespace K02
open PySem L2 L3
theorem shr_scale {u d k : Int} (hk : 0 < k) : shr (u * k) (d * k) = shr u d := by
  unfold shr
  have e : ((Int.gcd (u * k) (d * k) : Nat) : Int) = (Int.gcd u d : Int) * k := by
    rw [Int.gcd_mul_right, Int.natCast_mul]
    have : (k.natAbs : Int) = k := by omega
    rw [this]
  rw [e, Int.mul_ediv_mul_of_pos_left _ _ hk, Int.mul_ediv_mul_of_pos_left _ _ hk]
theorem shr_eq {u d v e : Int} (hd : 0 < d) (he : 0 < e) (h : u * e = v * d) : shr u d = shr v e := by
  rw [← shr_scale (u := u) (d := d) he, ← shr_scale (u := v) (d := e) hd, h, Int.mul_comm d e]
structure Low (u d t b : Int) : Prop where
  eq : shr u d = .obj "Share" [("top", .int t), ("bottom", .int b)]
  pos : 0 < b
  le : b ≤ d
  abs : t.natAbs ≤ u.natAbs
  cross : u * b = t * d
  cop : Int.gcd t b = 1
theorem low {u d : Int} (hd : 0 < d) : ∃ t b, Low u d t b := by
  have g0 : 0 < Int.gcd u d := Int.gcd_pos_of_ne_zero_right u (by omega)
  have g1 : 0 < (Int.gcd u d : Int) := by omega
  have e1 : u / (Int.gcd u d : Int) * (Int.gcd u d : Int) = u := Int.ediv_mul_cancel (Int.gcd_dvd_left u d)
  have e2 : d / (Int.gcd u d : Int) * (Int.gcd u d : Int) = d := Int.ediv_mul_cancel (Int.gcd_dvd_right u d)
  have p2 : 0 < d / (Int.gcd u d : Int) := by
    apply Int.ediv_pos_of_pos_of_dvd hd (by omega) (Int.gcd_dvd_right u d)
  refine ⟨_, _, rfl, p2, ?_, ?_, ?_, ?_⟩
  · exact Int.ediv_le_self _ (by omega)
  · rw [Int.natAbs_ediv_of_dvd (Int.gcd_dvd_left u d)]
    exact Nat.div_le_self _ _
  · generalize u / (Int.gcd u d : Int) = t at *
    generalize d / (Int.gcd u d : Int) = b at *
    generalize (Int.gcd u d : Int) = g at *
    grind
  · have e3 : Int.gcd (u / (Int.gcd u d : Int) * (Int.gcd u d : Int)) (d / (Int.gcd u d : Int) * (Int.gcd u d : Int)) = Int.gcd u d := by rw [e1, e2]
    rw [Int.gcd_mul_right] at e3
    have : ((Int.gcd u d : Int)).natAbs = Int.gcd u d := by omega
    rw [this] at e3
    exact Nat.eq_of_mul_eq_mul_right g0 (by rw [e3, Nat.one_mul])
theorem shr_low {u d t b : Int} (hd : 0 < d) (l : Low u d t b) : shr t b = shr u d := shr_eq l.pos hd l.cross.symm
theorem fld_top {O : Sto} {x y : D} : fldD t_tab "top" O (.obj "Share" [("top", x), ("bottom", y)]) = some x := by rfl
theorem fld_bot {O : Sto} {x y : D} : fldD t_tab "bottom" O (.obj "Share" [("top", x), ("bottom", y)]) = some y := by rfl
theorem w_ownS {S : FSpec} {f : F2} {u d v e : Int} {O : Sto} {Q : PV} (h : S [shr u d, shr v e] O noX Q) : fOwn "Share" S f (shr u d) (shr v e) O Q := ⟨⟨rfl, rfl⟩, h⟩
theorem make_shr {O : Sto} {p : Addr} {t b : Int} {Z : PX} {Q : PV} (hp : O p = none) (hb : 0 < b) (hB : Bd 8001 b) (h : Q (shr t b) O) : sp_Share_init [.cell p, .int t, .int b] (put O p (.ins "Share" [])) Z (fun d O2 => d = .non ∧ orFz Q (.cell p) O2) := by
  refine ⟨p, t, b, rfl, put_same, .inr ⟨hb, hB, rfl, ?_⟩⟩
  rw [put_put]
  exact w_fzObj hp h
theorem Low.bt {u d t b : Int} {n : Nat} (l : Low u d t b) (h : Bd n u) : Bd n t := h.le l.abs
theorem Low.bb {u d t b : Int} {n : Nat} (l : Low u d t b) (h : Bd n d) : Bd n b := h.le (by have := l.pos; have := l.le; omega)
theorem mul4 {x y : Int} (a : Bd 4000 x) (b : Bd 4000 y) : mulOk x y := Bd.ok (n := 4000) (by decide) (by decide) a b
theorem low_eq {u d v e t b t2 b2 : Int} (hd : 0 < d) (he : 0 < e) (l1 : Low u d t b) (l2 : Low v e t2 b2) : (t = t2 ∧ b = b2) ↔ u * e = v * d := by
  constructor
  · rintro ⟨rfl, rfl⟩
    have c1 := l1.cross
    have c2 := l2.cross
    have hb := l1.pos
    have : b * (u * e) = b * (v * d) := by
      clear l1 l2
      grind
    exact Int.eq_of_mul_eq_mul_left (by omega) this
  · intro h
    have := shr_eq hd he h
    rw [l1.eq, l2.eq] at this
    simpa using this
local macro_rules | `(tactic| walk_at "PE02 W0") => `(tactic| (repeat' first | with_reducible refine w_seq ?_ | with_reducible refine w_sui ?_ | with_reducible refine w_next ?_ | with_reducible refine w_brk ?_ | with_reducible refine w_cont ?_ | with_reducible refine w_ret ?_ | with_reducible refine w_retN ?_ | with_reducible refine w_drop ?_ | with_reducible refine w_if ?_ | with_reducible refine w_asg ?_ | with_reducible refine w_par ?_ | with_reducible refine w_setA ?_ | with_reducible refine w_raise ?_ | with_reducible refine w_for ?_ | with_reducible refine w_forR1 ?_ | with_reducible refine w_forLst ?_ | with_reducible refine w_tgName ?_ | with_reducible refine w_tgIx ?_ | with_reducible refine w_tgCons ?_ | with_reducible refine w_tgNil ?_ | with_reducible refine w_un ?_ | with_reducible refine w_op ?_ | with_reducible refine w_B ?_ | with_reducible refine w_tru ?_ | with_reducible refine w_and ?_ | with_reducible refine w_or ?_ | with_reducible refine w_not ?_ | with_reducible refine w_andV ?_ | with_reducible refine w_orV ?_ | with_reducible refine w_notV ?_ | with_reducible refine w_ifE ?_ | with_reducible refine w_nil ?_ | with_reducible refine w_cons ?_ | with_reducible refine w_tup ?_ | with_reducible refine w_lst ?_ | with_reducible refine w_cb ?_ | with_reducible refine w_call ?_ | with_reducible refine w_slice ?_ | with_reducible refine w_oNone ?_ | with_reducible refine w_onBl ?_ | with_reducible refine w_onTruB ?_ | with_reducible refine w_kT ?_ | with_reducible refine w_kF ?_ | with_reducible refine w_fAdd ?_ | with_reducible refine w_fSub ?_ | with_reducible refine w_fNeg ?_ | with_reducible refine w_fLt ?_ | with_reducible refine w_fLe ?_ | with_reducible refine w_fGt ?_ | with_reducible refine w_fGe ?_ | with_reducible refine w_fEqI ?_ | with_reducible refine w_fNeI ?_ | with_reducible refine w_fEqB ?_ | with_reducible refine w_fEqS ?_ | with_reducible refine w_fInt ?_ | with_reducible refine w_fIntB ?_ | with_reducible refine w_fAbs ?_ | with_reducible refine w_fMax ?_ | with_reducible refine w_fMin ?_ | with_reducible refine w_fGcd ?_ | with_reducible refine w_fLenL ?_ | with_reducible refine w_fLenT ?_ | with_reducible refine w_own ?_ | with_reducible refine w_ownI ?_ | with_reducible refine w_eqOwnI ?_ | with_reducible refine w_c ?_ | with_reducible refine w_make ?_ | with_reducible refine w_makeK ?_ | with_reducible refine w_par2 ?_ | with_reducible refine w_slLst ?_ | with_reducible refine w_p10_6 ?_ | with_reducible refine w_p10_8 ?_ | with_reducible refine w_p10_18 ?_ | with_reducible refine w_p10_30 ?_ | with_reducible refine w_p10_51 ?_ | with_reducible refine w_p10_59 ?_ | with_reducible refine w_p10_60 ?_ | with_reducible refine w_p2_63 ?_ | with_reducible refine w_p2_64 ?_ | with_reducible refine w_comp ?_ | with_reducible refine w_meth ?_ | with_reducible refine w_app ?_ | with_reducible refine w_tupOf ?_ | with_reducible refine w_tupL ?_ | with_reducible refine w_tupT ?_ | with_reducible refine w_forTup ?_ | with_reducible refine w_sm ?_ | with_reducible refine w_sm0 ?_ | with_reducible refine w_isStr ?_ | with_reducible refine w_find ?_ | with_reducible refine w_starts ?_ | with_reducible refine w_isascii ?_ | with_reducible refine w_isdigit ?_ | with_reducible refine w_str1S ?_ | with_reducible refine w_strO ?_ | with_reducible refine w_fmt ?_ | with_reducible refine w_join ?_ | with_reducible refine w_jsNil ?_ | with_reducible refine w_jsCons ?_ | with_reducible refine w_inS ?_ | with_reducible refine w_notInS ?_ | with_reducible refine w_statI ?_ | with_reducible refine w_fNeS ?_ | with_reducible refine w_ownS ?_ | ((with_reducible apply w_var); exact rfl) | ((with_reducible apply w_isE); exact rfl) | ((with_reducible apply w_onTru); exact rfl) | ((with_reducible apply w_tgTup); exact rfl) | ((with_reducible refine w_fPow ?_ ?_); exact ⟨by decide, by decide, by decide⟩) | (with_reducible refine w_fMod (by decide) ?_) | ((with_reducible apply w_fIxT); exact rfl) | ((with_reducible apply w_fIxL); exact rfl) | (with_reducible refine w_oSome ?_) | ((with_reducible apply w_fIxC); (first | with_reducible exact put_same | assumption); exact rfl) | ((with_reducible apply w_fLenC); (first | with_reducible exact put_same | assumption)) | ((with_reducible apply w_setL); (first | with_reducible exact put_same | assumption); exact rfl) | ((with_reducible refine And.intro (a := List.length _ ≤ sizeLine) ?_ ?_); exact Nat.le_of_ble_eq_true rfl) | (with_reducible refine And.intro (a := List.length _ = _) rfl ?_) | (with_reducible refine w_fld ?_) | (with_reducible refine w_isT ?_) | (with_reducible refine w_isO ?_) | ((with_reducible refine Exists.intro ?_ (And.intro (a := fldD _ _ _ _ = _) ?_ ?_)); rotate_left; first | with_reducible exact fld_top | with_reducible exact fld_bot | exact rfl) | ((with_reducible refine Exists.intro ?_ (And.intro (a := isT _ _ _ = _) ?_ ?_)); rotate_left; exact rfl) | ((with_reducible refine Exists.intro ?_ (And.intro (a := isO _ _ _ = _) ?_ ?_)); rotate_left; exact rfl) | ((with_reducible refine Exists.intro ?_ (And.intro (a := D.int _ = D.int _) ?_ ?_)); rotate_left; exact rfl) | ((with_reducible refine w_kT' (k := T3.isInt _) ?_ ?_); exact rfl) | ((with_reducible refine w_kF' (k := T3.isInt _) ?_ ?_); exact rfl) | ((with_reducible refine w_kT' (k := T3.isBl _) ?_ ?_); exact rfl) | ((with_reducible refine w_kF' (k := T3.isBl _) ?_ ?_); exact rfl) | ((with_reducible refine w_kT' (k := T3.isStr _) ?_ ?_); exact rfl) | ((with_reducible refine w_kF' (k := T3.isStr _) ?_ ?_); exact rfl) | ((with_reducible refine w_kT' (k := T3.isTup _) ?_ ?_); exact rfl) | ((with_reducible refine w_kF' (k := T3.isTup _) ?_ ?_); exact rfl) | ((with_reducible refine w_kT' (k := T3.isLst _) ?_ ?_); exact rfl) | ((with_reducible refine w_kF' (k := T3.isLst _) ?_ ?_); exact rfl) | ((with_reducible refine And.intro (a := insD _ _ _ _) ?_ ?_); (first | exact ⟨rfl, rfl⟩)) | (with_reducible refine w_kF' (k := !true) rfl ?_) | (with_reducible refine w_kT' (k := !false) rfl ?_) | ((with_reducible refine w_kT' (k := decide _) ?_ ?_); decide +kernel) | ((with_reducible refine w_kF' (k := decide _) ?_ ?_); decide +kernel)))
theorem b_Share_eq : BodyOk ["self", "other"] 2 sp_Share_eq m_Share_eq := by
  rintro ds O Z P hl ⟨u, d, y, rfl, h1, hq⟩
  obtain ⟨t, b, l1⟩ := low (u := u) h1
  show m_Share_eq (En.mk _ _ _ _ _) [some (shr u d), some y] O
  rw [l1.eq]
  unfold m_Share_eq
  rcases hq with ⟨hy, hq⟩ | ⟨v, e, rfl, h2, hq⟩
  · walk_at "PE02 W0"
    refine ⟨false, hy, ?_⟩
    walk_at "PE02 W0"
    exact w_fz hq
  · obtain ⟨t2, b2, l2⟩ := low (u := v) h2
    rw [l2.eq]
    have eqv := low_eq h1 h2 l1 l2
    walk_at "PE02 W0"
    refine w_k (fun h => ?_) fun h => ?_
    · have h := of_decide_eq_true h
      walk_at "PE02 W0"
      refine w_fz ?_
      have e : decide (b = b2) = decide (u * e = v * d) := decide_eq_decide.mpr ⟨fun q => eqv.mp ⟨h, q⟩, fun q => (eqv.mpr q).2⟩
      rw [e]
      exact hq
    · have h := of_decide_eq_false h
      refine w_fz ?_
      have e : decide (u * e = v * d) = false := decide_eq_false fun q => h (eqv.mpr q).1
      rw [e] at hq
      exact hq
end K02

namespace K02
open PySem L2 L3
theorem Fr.bu {u d : Int} (h : Fr u d) : Bd 200 u := by
  have h1 := h.lo
  have h2 := h.hi
  unfold big at h1 h2
  unfold Bd
  omega
theorem Fr.bd {u d : Int} (h : Fr u d) : Bd 200 d := by
  have h1 := h.pos
  have h2 := h.dhi
  unfold big at h2
  unfold Bd
  omega
theorem Fr.z {u d : Int} (h : Fr u d) : 0 < d := by have := h.pos; omega
theorem Sz.of {n m : Nat} {u d : Int} (h : 0 < d) (a : Bd n u) (b : Bd m d) (hn : n ≤ 4000) (hm : m ≤ 4000) : Sz u d := ⟨h, a.mono hn, b.mono hm⟩
theorem Sz.fr {u d : Int} (h : Fr u d) : Sz u d := Sz.of h.z h.bu h.bd (by decide) (by decide)
theorem bd1 : Bd 1 (1 : Int) := by unfold Bd; decide
theorem bd0 : Bd 1 (0 : Int) := by unfold Bd; decide
local macro_rules | `(tactic| walk_at "PF02 W0") => `(tactic| (repeat' first | with_reducible refine w_seq ?_ | with_reducible refine w_sui ?_ | with_reducible refine w_next ?_ | with_reducible refine w_brk ?_ | with_reducible refine w_cont ?_ | with_reducible refine w_ret ?_ | with_reducible refine w_retN ?_ | with_reducible refine w_drop ?_ | with_reducible refine w_if ?_ | with_reducible refine w_asg ?_ | with_reducible refine w_par ?_ | with_reducible refine w_setA ?_ | with_reducible refine w_raise ?_ | with_reducible refine w_for ?_ | with_reducible refine w_forR1 ?_ | with_reducible refine w_forLst ?_ | with_reducible refine w_tgName ?_ | with_reducible refine w_tgIx ?_ | with_reducible refine w_tgCons ?_ | with_reducible refine w_tgNil ?_ | with_reducible refine w_un ?_ | with_reducible refine w_op ?_ | with_reducible refine w_B ?_ | with_reducible refine w_tru ?_ | with_reducible refine w_and ?_ | with_reducible refine w_or ?_ | with_reducible refine w_not ?_ | with_reducible refine w_andV ?_ | with_reducible refine w_orV ?_ | with_reducible refine w_notV ?_ | with_reducible refine w_ifE ?_ | with_reducible refine w_nil ?_ | with_reducible refine w_cons ?_ | with_reducible refine w_tup ?_ | with_reducible refine w_lst ?_ | with_reducible refine w_cb ?_ | with_reducible refine w_call ?_ | with_reducible refine w_slice ?_ | with_reducible refine w_oNone ?_ | with_reducible refine w_onBl ?_ | with_reducible refine w_onTruB ?_ | with_reducible refine w_kT ?_ | with_reducible refine w_kF ?_ | with_reducible refine w_fAdd ?_ | with_reducible refine w_fSub ?_ | with_reducible refine w_fNeg ?_ | with_reducible refine w_fLt ?_ | with_reducible refine w_fLe ?_ | with_reducible refine w_fGt ?_ | with_reducible refine w_fGe ?_ | with_reducible refine w_fEqI ?_ | with_reducible refine w_fNeI ?_ | with_reducible refine w_fEqB ?_ | with_reducible refine w_fEqS ?_ | with_reducible refine w_fInt ?_ | with_reducible refine w_fIntB ?_ | with_reducible refine w_fAbs ?_ | with_reducible refine w_fMax ?_ | with_reducible refine w_fMin ?_ | with_reducible refine w_fGcd ?_ | with_reducible refine w_fLenL ?_ | with_reducible refine w_fLenT ?_ | with_reducible refine w_own ?_ | with_reducible refine w_ownI ?_ | with_reducible refine w_eqOwnI ?_ | with_reducible refine w_c ?_ | with_reducible refine w_make ?_ | with_reducible refine w_makeK ?_ | with_reducible refine w_par2 ?_ | with_reducible refine w_slLst ?_ | with_reducible refine w_p10_6 ?_ | with_reducible refine w_p10_8 ?_ | with_reducible refine w_p10_18 ?_ | with_reducible refine w_p10_30 ?_ | with_reducible refine w_p10_51 ?_ | with_reducible refine w_p10_59 ?_ | with_reducible refine w_p10_60 ?_ | with_reducible refine w_p2_63 ?_ | with_reducible refine w_p2_64 ?_ | with_reducible refine w_comp ?_ | with_reducible refine w_meth ?_ | with_reducible refine w_app ?_ | with_reducible refine w_tupOf ?_ | with_reducible refine w_tupL ?_ | with_reducible refine w_tupT ?_ | with_reducible refine w_forTup ?_ | with_reducible refine w_sm ?_ | with_reducible refine w_sm0 ?_ | with_reducible refine w_isStr ?_ | with_reducible refine w_find ?_ | with_reducible refine w_starts ?_ | with_reducible refine w_isascii ?_ | with_reducible refine w_isdigit ?_ | with_reducible refine w_str1S ?_ | with_reducible refine w_strO ?_ | with_reducible refine w_fmt ?_ | with_reducible refine w_join ?_ | with_reducible refine w_jsNil ?_ | with_reducible refine w_jsCons ?_ | with_reducible refine w_inS ?_ | with_reducible refine w_notInS ?_ | with_reducible refine w_statI ?_ | with_reducible refine w_fNeS ?_ | with_reducible refine w_ownS ?_ | ((with_reducible apply w_var); exact rfl) | ((with_reducible apply w_isE); exact rfl) | ((with_reducible apply w_onTru); exact rfl) | ((with_reducible apply w_tgTup); exact rfl) | ((with_reducible refine w_fPow ?_ ?_); exact ⟨by decide, by decide, by decide⟩) | (with_reducible refine w_fMod (by decide) ?_) | ((with_reducible apply w_fIxT); exact rfl) | ((with_reducible apply w_fIxL); exact rfl) | (with_reducible refine w_oSome ?_) | ((with_reducible apply w_fIxC); (first | with_reducible exact put_same | assumption); exact rfl) | ((with_reducible apply w_fLenC); (first | with_reducible exact put_same | assumption)) | ((with_reducible apply w_setL); (first | with_reducible exact put_same | assumption); exact rfl) | ((with_reducible refine And.intro (a := List.length _ ≤ sizeLine) ?_ ?_); exact Nat.le_of_ble_eq_true rfl) | (with_reducible refine And.intro (a := List.length _ = _) rfl ?_) | (with_reducible refine w_fld ?_) | (with_reducible refine w_isT ?_) | (with_reducible refine w_isO ?_) | ((with_reducible refine Exists.intro ?_ (And.intro (a := fldD _ _ _ _ = _) ?_ ?_)); rotate_left; first | with_reducible exact fld_top | with_reducible exact fld_bot | exact rfl) | ((with_reducible refine Exists.intro ?_ (And.intro (a := isT _ _ _ = _) ?_ ?_)); rotate_left; exact rfl) | ((with_reducible refine Exists.intro ?_ (And.intro (a := isO _ _ _ = _) ?_ ?_)); rotate_left; exact rfl) | ((with_reducible refine Exists.intro ?_ (And.intro (a := D.int _ = D.int _) ?_ ?_)); rotate_left; exact rfl) | ((with_reducible refine w_kT' (k := T3.isInt _) ?_ ?_); exact rfl) | ((with_reducible refine w_kF' (k := T3.isInt _) ?_ ?_); exact rfl) | ((with_reducible refine w_kT' (k := T3.isBl _) ?_ ?_); exact rfl) | ((with_reducible refine w_kF' (k := T3.isBl _) ?_ ?_); exact rfl) | ((with_reducible refine w_kT' (k := T3.isStr _) ?_ ?_); exact rfl) | ((with_reducible refine w_kF' (k := T3.isStr _) ?_ ?_); exact rfl) | ((with_reducible refine w_kT' (k := T3.isTup _) ?_ ?_); exact rfl) | ((with_reducible refine w_kF' (k := T3.isTup _) ?_ ?_); exact rfl) | ((with_reducible refine w_kT' (k := T3.isLst _) ?_ ?_); exact rfl) | ((with_reducible refine w_kF' (k := T3.isLst _) ?_ ?_); exact rfl) | ((with_reducible refine And.intro (a := insD _ _ _ _) ?_ ?_); (first | exact ⟨rfl, rfl⟩)) | (with_reducible refine w_kF' (k := !true) rfl ?_) | (with_reducible refine w_kT' (k := !false) rfl ?_) | ((with_reducible refine w_kT' (k := decide _) ?_ ?_); decide +kernel) | ((with_reducible refine w_kF' (k := decide _) ?_ ?_); decide +kernel)))
theorem b_Share_mul : BodyOk ["self", "other"] 2 sp_Share_mul m_Share_mul := by
  rintro ds O Z P hl ⟨u, d, v, e, rfl, h1, h2, hq⟩
  obtain ⟨t, b, l1⟩ := low (u := u) h1.pos
  obtain ⟨t2, b2, l2⟩ := low (u := v) h2.pos
  show m_Share_mul (En.mk _ _ _ _ _) [some (shr u d), some (shr v e)] O
  rw [l1.eq, l2.eq]
  unfold m_Share_mul
  walk_at "PF02 W0"
  refine w_fMul (mul4 (l1.bt h1.u) (l2.bt h2.u)) ?_
  walk_at "PF02 W0"
  refine w_fMul (mul4 (l1.bb h1.d) (l2.bb h2.d)) ?_
  walk_at "PF02 W0"
  intro p hp
  refine make_shr hp (Int.mul_pos l1.pos l2.pos) (((l1.bb h1.d).mul (l2.bb h2.d)).mono (by decide)) (w_fz ?_)
  have e : shr (t * t2) (b * b2) = shr (u * v) (d * e) := by
    refine shr_eq (Int.mul_pos l1.pos l2.pos) (Int.mul_pos h1.pos h2.pos) ?_
    have c1 := l1.cross
    have c2 := l2.cross
    clear l1 l2 hq h1 h2
    grind
  rw [e]
  exact hq
local macro_rules | `(tactic| walk_at "PF02 V1") => `(tactic| (repeat' first | with_reducible refine w_seq ?_ | with_reducible refine w_sui ?_ | with_reducible refine w_next ?_ | with_reducible refine w_brk ?_ | with_reducible refine w_cont ?_ | with_reducible refine w_ret ?_ | with_reducible refine w_retN ?_ | with_reducible refine w_drop ?_ | with_reducible refine w_if ?_ | with_reducible refine w_asg ?_ | with_reducible refine w_par ?_ | with_reducible refine w_setA ?_ | with_reducible refine w_raise ?_ | with_reducible refine w_for ?_ | with_reducible refine w_forR1 ?_ | with_reducible refine w_forLst ?_ | with_reducible refine w_tgName ?_ | with_reducible refine w_tgIx ?_ | with_reducible refine w_tgCons ?_ | with_reducible refine w_tgNil ?_ | with_reducible refine w_un ?_ | with_reducible refine w_op ?_ | with_reducible refine w_B ?_ | with_reducible refine w_tru ?_ | with_reducible refine w_and ?_ | with_reducible refine w_or ?_ | with_reducible refine w_not ?_ | with_reducible refine w_andV ?_ | with_reducible refine w_orV ?_ | with_reducible refine w_notV ?_ | with_reducible refine w_ifE ?_ | with_reducible refine w_nil ?_ | with_reducible refine w_cons ?_ | with_reducible refine w_tup ?_ | with_reducible refine w_lst ?_ | with_reducible refine w_cb ?_ | with_reducible refine w_call ?_ | with_reducible refine w_slice ?_ | with_reducible refine w_oNone ?_ | with_reducible refine w_onBl ?_ | with_reducible refine w_onTruB ?_ | with_reducible refine w_kT ?_ | with_reducible refine w_kF ?_ | with_reducible refine w_fAdd ?_ | with_reducible refine w_fSub ?_ | with_reducible refine w_fNeg ?_ | with_reducible refine w_fLt ?_ | with_reducible refine w_fLe ?_ | with_reducible refine w_fGt ?_ | with_reducible refine w_fGe ?_ | with_reducible refine w_fEqI ?_ | with_reducible refine w_fNeI ?_ | with_reducible refine w_fEqB ?_ | with_reducible refine w_fEqS ?_ | with_reducible refine w_fInt ?_ | with_reducible refine w_fIntB ?_ | with_reducible refine w_fAbs ?_ | with_reducible refine w_fMax ?_ | with_reducible refine w_fMin ?_ | with_reducible refine w_fGcd ?_ | with_reducible refine w_fLenL ?_ | with_reducible refine w_fLenT ?_ | with_reducible refine w_own ?_ | with_reducible refine w_ownI ?_ | with_reducible refine w_eqOwnI ?_ | with_reducible refine w_c ?_ | with_reducible refine w_make ?_ | with_reducible refine w_makeK ?_ | with_reducible refine w_par2 ?_ | with_reducible refine w_slLst ?_ | with_reducible refine w_p10_6 ?_ | with_reducible refine w_p10_8 ?_ | with_reducible refine w_p10_18 ?_ | with_reducible refine w_p10_30 ?_ | with_reducible refine w_p10_51 ?_ | with_reducible refine w_p10_59 ?_ | with_reducible refine w_p10_60 ?_ | with_reducible refine w_p2_63 ?_ | with_reducible refine w_p2_64 ?_ | with_reducible refine w_comp ?_ | with_reducible refine w_meth ?_ | with_reducible refine w_app ?_ | with_reducible refine w_tupOf ?_ | with_reducible refine w_tupL ?_ | with_reducible refine w_tupT ?_ | with_reducible refine w_forTup ?_ | with_reducible refine w_sm ?_ | with_reducible refine w_sm0 ?_ | with_reducible refine w_isStr ?_ | with_reducible refine w_find ?_ | with_reducible refine w_starts ?_ | with_reducible refine w_isascii ?_ | with_reducible refine w_isdigit ?_ | with_reducible refine w_str1S ?_ | with_reducible refine w_strO ?_ | with_reducible refine w_fmt ?_ | with_reducible refine w_join ?_ | with_reducible refine w_jsNil ?_ | with_reducible refine w_jsCons ?_ | with_reducible refine w_inS ?_ | with_reducible refine w_notInS ?_ | with_reducible refine w_statI ?_ | with_reducible refine w_fNeS ?_ | with_reducible refine w_ownS ?_ | ((with_reducible apply w_var); exact rfl) | ((with_reducible apply w_isE); exact rfl) | ((with_reducible apply w_onTru); exact rfl) | ((with_reducible apply w_tgTup); exact rfl) | ((with_reducible refine w_fPow ?_ ?_); exact ⟨by decide, by decide, by decide⟩) | (with_reducible refine w_fMod (by decide) ?_) | ((with_reducible apply w_fIxT); exact rfl) | ((with_reducible apply w_fIxL); exact rfl) | (with_reducible refine w_oSome ?_) | ((with_reducible apply w_fIxC); (first | with_reducible exact put_same | assumption); exact rfl) | ((with_reducible apply w_fLenC); (first | with_reducible exact put_same | assumption)) | ((with_reducible apply w_setL); (first | with_reducible exact put_same | assumption); exact rfl) | (with_reducible refine w_fLenS (by omega) ?_) | (with_reducible refine w_slStr (by omega) ?_) | (with_reducible refine w_fAddS (by omega) ?_) | (with_reducible refine w_remPre (by omega) ?_) | (with_reducible refine w_fmtS (by omega) ?_) | (with_reducible refine w_fMul (mulR (by decide)) ?_) | (with_reducible refine w_fMul (mulL (by omega)) ?_) | (with_reducible refine w_fMul (mulR (by omega)) ?_) | (with_reducible refine w_fDiv (dv30 (by omega) (by omega)) ?_) | (with_reducible refine w_fMod (by omega) ?_) | ((with_reducible refine And.intro (a := List.length _ ≤ sizeLine) ?_ ?_); exact Nat.le_of_ble_eq_true rfl) | (with_reducible refine And.intro (a := List.length _ = _) rfl ?_) | (with_reducible refine w_fld ?_) | (with_reducible refine w_isT ?_) | (with_reducible refine w_isO ?_) | ((with_reducible refine Exists.intro ?_ (And.intro (a := fldD _ _ _ _ = _) ?_ ?_)); rotate_left; first | with_reducible exact fld_top | with_reducible exact fld_bot | exact rfl) | ((with_reducible refine Exists.intro ?_ (And.intro (a := isT _ _ _ = _) ?_ ?_)); rotate_left; exact rfl) | ((with_reducible refine Exists.intro ?_ (And.intro (a := isO _ _ _ = _) ?_ ?_)); rotate_left; exact rfl) | ((with_reducible refine Exists.intro ?_ (And.intro (a := D.int _ = D.int _) ?_ ?_)); rotate_left; exact rfl) | ((with_reducible refine w_kT' (k := T3.isInt _) ?_ ?_); exact rfl) | ((with_reducible refine w_kF' (k := T3.isInt _) ?_ ?_); exact rfl) | ((with_reducible refine w_kT' (k := T3.isBl _) ?_ ?_); exact rfl) | ((with_reducible refine w_kF' (k := T3.isBl _) ?_ ?_); exact rfl) | ((with_reducible refine w_kT' (k := T3.isStr _) ?_ ?_); exact rfl) | ((with_reducible refine w_kF' (k := T3.isStr _) ?_ ?_); exact rfl) | ((with_reducible refine w_kT' (k := T3.isTup _) ?_ ?_); exact rfl) | ((with_reducible refine w_kF' (k := T3.isTup _) ?_ ?_); exact rfl) | ((with_reducible refine w_kT' (k := T3.isLst _) ?_ ?_); exact rfl) | ((with_reducible refine w_kF' (k := T3.isLst _) ?_ ?_); exact rfl) | ((with_reducible refine And.intro (a := insD _ _ _ _) ?_ ?_); (first | exact ⟨rfl, rfl⟩)) | (with_reducible refine w_kF' (k := !true) rfl ?_) | (with_reducible refine w_kT' (k := !false) rfl ?_) | ((with_reducible refine w_kT' (k := decide _) ?_ ?_); decide +kernel) | ((with_reducible refine w_kF' (k := decide _) ?_ ?_); decide +kernel)))
theorem b_law_low : BodyOk ["up", "down", "x", "y"] 2 sp_law_low m_law_low := by
  rintro ds O Z P hl ⟨u, d, rfl, hs, hq⟩
  show m_law_low (En.mk _ _ _ _ _) [some (.int u), some (.int d), none, none] O
  unfold m_law_low
  have hd := hs.pos
  have e0 : Int.gcd (if u < 0 then -u else u) d = Int.gcd u d := by
    split
    · rw [Int.neg_gcd]
    · rfl
  have n0 : 0 ≤ (if u < 0 then -u else u) := by split <;> omega
  generalize hx : (if u < 0 then -u else u) = x0 at e0 n0
  refine w_seq ?_
  walk_at "PF02 W0"
  rw [hx]
  refine w_while (fun n Γ O' => ∃ a b : Int, Γ = [some (.int u), some (.int d), some (.int a), some (.int b)] ∧ 0 ≤ a ∧ 0 ≤ b ∧ Int.gcd a b = Int.gcd u d ∧ n = b.toNat ∧ O' = O) _ ⟨x0, d, rfl, n0, by omega, e0, rfl, rfl⟩ ?_
  rintro n Γ O' ⟨a, b, rfl, ha, hb, hg, rfl, rfl⟩
  walk_at "PF02 W0"
  refine w_k (fun h => ?_) fun h => ?_
  · have h2 := of_decide_eq_true h
    walk_at "PF02 V1"
    have m0 := Int.emod_nonneg a (b := b) (by omega)
    have m1 := Int.emod_lt_of_pos a h2
    refine ⟨_, ?_, b, a % b, rfl, by omega, by omega, ?_, rfl, rfl⟩
    · omega
    · rw [← hg, Int.gcd_comm a b]
      have : Int.gcd b (a % b) = Int.gcd b a := by
        rw [Int.emod_def, Int.sub_eq_add_neg, ← Int.mul_neg]
        simp
      exact this
  · have h2 := of_decide_eq_false h
    have e : b = 0 := by omega
    subst e
    refine w_fzG ?_
    rw [Int.gcd_zero] at hg
    have ea : a = (Int.gcd u d : Int) := by omega
    have g0 : 0 < (Int.gcd u d : Int) := by
      have : 0 < Int.gcd u d := Int.gcd_pos_of_ne_zero_right u (by omega)
      omega
    have g1 : (Int.gcd u d : Int) ≤ d := Int.le_of_dvd hd (Int.gcd_dvd_right u d)
    have dv : ∀ x, divOk x a := fun x => ⟨by omega, .inr ⟨4000, by decide, by decide, by
      have h4 : d.natAbs < 2 ^ 4000 := hs.d
      have e : (d.natAbs : Int) = d := by omega
      have h5 : (d.natAbs : Int) < ((2 ^ 4000 : Nat) : Int) := Int.ofNat_lt.mpr h4
      rw [Int.natCast_pow, e] at h5
      rw [ea]
      exact Int.lt_of_le_of_lt g1 h5⟩⟩
    walk_at "PF02 W0"
    refine w_fDiv (dv _) ?_
    walk_at "PF02 W0"
    refine w_fDiv (dv _) ?_
    walk_at "PF02 W0"
    refine w_fz ?_
    rw [ea]
    exact hq
theorem b_law_fields : BodyOk ["told", "due"] 2 sp_law_fields m_law_fields := by
  rintro ds O Z P hl ⟨u, d, v, e, rfl, h1, h2, hg, hx, hq⟩
  have es : shr u d = .obj "Share" [("top", .int v), ("bottom", .int e)] := by
    rw [shr_eq h1 h2 hx]
    unfold shr
    rw [hg]
    simp
  show m_law_fields (En.mk _ _ _ _ _) [some (shr u d), some (.tup [.int v, .int e])] O
  rw [es]
  unfold m_law_fields
  walk_at "PF02 W0"
  refine ⟨v, rfl, ?_⟩
  walk_at "PF02 W0"
  refine ⟨e, rfl, ?_⟩
  walk_at "PF02 W0"
  refine w_kT' (by simp) ?_
  walk_at "PF02 W0"
  have e2 : decide (e = e) = true := by simp
  rw [e2]
  exact w_fz hq
theorem atI_get {α : Type} {xs : List α} {f : α → D} {i : Int} (h0 : 0 ≤ i) (h1 : i < xs.length) : ∃ x ∈ xs, xs[i.toNat]? = some x ∧ atI (xs.map f) i = some (f x) := by
  have hlt : i.toNat < xs.length := by omega
  refine ⟨xs[i.toNat], List.getElem_mem hlt, by simp [hlt], ?_⟩
  unfold atI
  have e : ixN (xs.map f).length i = some i.toNat := by
    unfold ixN
    rw [List.length_map]
    rw [if_pos (by omega), if_pos (by omega)]
  rw [e]
  simp [hlt]
theorem lowP_ok {u d : Int} (hd : 0 < d) : 0 < (lowP u d).2 ∧ Int.gcd (lowP u d).1 (lowP u d).2 = 1 ∧ u * (lowP u d).2 = (lowP u d).1 * d ∧ (lowP u d).2 ≤ d ∧ (lowP u d).1.natAbs ≤ u.natAbs := by
  obtain ⟨t, b, l⟩ := low (u := u) hd
  have e := l.eq
  unfold shr at e
  simp only [D.obj.injEq, List.cons.injEq, Prod.mk.injEq, D.int.injEq, true_and, and_true] at e
  have e1 : (lowP u d).1 = t := e.1
  have e2 : (lowP u d).2 = b := e.2
  rw [e1, e2]
  exact ⟨l.pos, l.cop, l.cross, l.le, l.abs⟩
end K02

namespace K02
open PySem L2 L3
theorem big_line : 100000 ≤ sizeLine := Nat.le_of_ble_eq_true rfl
theorem log_ok {x : Int} (h : Bd 1500 x) : x.natAbs.log2 < 1920 := by
  by_cases h0 : x.natAbs = 0
  · rw [h0]
    decide
  · rw [Nat.log2_lt h0]
    exact Nat.lt_of_lt_of_le h (Nat.pow_le_pow_right (by decide) (by decide))
theorem num_len {x : Int} (h : Bd 1500 x) : (numS x).length ≤ 1921 := PyProof.Rows.int_text_len_1921 (log_ok h)
theorem empty_app (x : Str) : Str.empty ++ x = x := by
  apply str_ext
  unfold cs
  rw [PySem.Str.cps_append]
  simp [Str.empty]
theorem app_len (x y : Str) : (x ++ y).length = x.length + y.length := PySem.Str.length_append x y
local macro_rules | `(tactic| walk_at "PG02 W0") => `(tactic| (repeat' first | with_reducible refine w_seq ?_ | with_reducible refine w_sui ?_ | with_reducible refine w_next ?_ | with_reducible refine w_brk ?_ | with_reducible refine w_cont ?_ | with_reducible refine w_ret ?_ | with_reducible refine w_retN ?_ | with_reducible refine w_drop ?_ | with_reducible refine w_if ?_ | with_reducible refine w_asg ?_ | with_reducible refine w_par ?_ | with_reducible refine w_setA ?_ | with_reducible refine w_raise ?_ | with_reducible refine w_for ?_ | with_reducible refine w_forR1 ?_ | with_reducible refine w_forLst ?_ | with_reducible refine w_tgName ?_ | with_reducible refine w_tgIx ?_ | with_reducible refine w_tgCons ?_ | with_reducible refine w_tgNil ?_ | with_reducible refine w_un ?_ | with_reducible refine w_op ?_ | with_reducible refine w_B ?_ | with_reducible refine w_tru ?_ | with_reducible refine w_and ?_ | with_reducible refine w_or ?_ | with_reducible refine w_not ?_ | with_reducible refine w_andV ?_ | with_reducible refine w_orV ?_ | with_reducible refine w_notV ?_ | with_reducible refine w_ifE ?_ | with_reducible refine w_nil ?_ | with_reducible refine w_cons ?_ | with_reducible refine w_tup ?_ | with_reducible refine w_lst ?_ | with_reducible refine w_cb ?_ | with_reducible refine w_call ?_ | with_reducible refine w_slice ?_ | with_reducible refine w_oNone ?_ | with_reducible refine w_onBl ?_ | with_reducible refine w_onTruB ?_ | with_reducible refine w_kT ?_ | with_reducible refine w_kF ?_ | with_reducible refine w_fAdd ?_ | with_reducible refine w_fSub ?_ | with_reducible refine w_fNeg ?_ | with_reducible refine w_fLt ?_ | with_reducible refine w_fLe ?_ | with_reducible refine w_fGt ?_ | with_reducible refine w_fGe ?_ | with_reducible refine w_fEqI ?_ | with_reducible refine w_fNeI ?_ | with_reducible refine w_fEqB ?_ | with_reducible refine w_fEqS ?_ | with_reducible refine w_fInt ?_ | with_reducible refine w_fIntB ?_ | with_reducible refine w_fAbs ?_ | with_reducible refine w_fMax ?_ | with_reducible refine w_fMin ?_ | with_reducible refine w_fGcd ?_ | with_reducible refine w_fLenL ?_ | with_reducible refine w_fLenT ?_ | with_reducible refine w_own ?_ | with_reducible refine w_ownI ?_ | with_reducible refine w_eqOwnI ?_ | with_reducible refine w_c ?_ | with_reducible refine w_make ?_ | with_reducible refine w_makeK ?_ | with_reducible refine w_par2 ?_ | with_reducible refine w_slLst ?_ | with_reducible refine w_p10_6 ?_ | with_reducible refine w_p10_8 ?_ | with_reducible refine w_p10_18 ?_ | with_reducible refine w_p10_30 ?_ | with_reducible refine w_p10_51 ?_ | with_reducible refine w_p10_59 ?_ | with_reducible refine w_p10_60 ?_ | with_reducible refine w_p2_63 ?_ | with_reducible refine w_p2_64 ?_ | with_reducible refine w_comp ?_ | with_reducible refine w_meth ?_ | with_reducible refine w_app ?_ | with_reducible refine w_tupOf ?_ | with_reducible refine w_tupL ?_ | with_reducible refine w_tupT ?_ | with_reducible refine w_forTup ?_ | with_reducible refine w_sm ?_ | with_reducible refine w_sm0 ?_ | with_reducible refine w_isStr ?_ | with_reducible refine w_find ?_ | with_reducible refine w_starts ?_ | with_reducible refine w_isascii ?_ | with_reducible refine w_isdigit ?_ | with_reducible refine w_str1S ?_ | with_reducible refine w_strO ?_ | with_reducible refine w_fmt ?_ | with_reducible refine w_join ?_ | with_reducible refine w_jsNil ?_ | with_reducible refine w_jsCons ?_ | with_reducible refine w_inS ?_ | with_reducible refine w_notInS ?_ | with_reducible refine w_statI ?_ | with_reducible refine w_fNeS ?_ | with_reducible refine w_ownS ?_ | ((with_reducible apply w_var); exact rfl) | ((with_reducible apply w_isE); exact rfl) | ((with_reducible apply w_onTru); exact rfl) | ((with_reducible apply w_tgTup); exact rfl) | ((with_reducible refine w_fPow ?_ ?_); exact ⟨by decide, by decide, by decide⟩) | (with_reducible refine w_fMod (by decide) ?_) | ((with_reducible apply w_fIxT); exact rfl) | ((with_reducible apply w_fIxL); exact rfl) | (with_reducible refine w_oSome ?_) | ((with_reducible apply w_fIxC); (first | with_reducible exact put_same | assumption); exact rfl) | ((with_reducible apply w_fLenC); (first | with_reducible exact put_same | assumption)) | ((with_reducible apply w_setL); (first | with_reducible exact put_same | assumption); exact rfl) | ((with_reducible refine And.intro (a := List.length _ ≤ sizeLine) ?_ ?_); exact Nat.le_of_ble_eq_true rfl) | (with_reducible refine And.intro (a := List.length _ = _) rfl ?_) | (with_reducible refine w_fld ?_) | (with_reducible refine w_isT ?_) | (with_reducible refine w_isO ?_) | ((with_reducible refine Exists.intro ?_ (And.intro (a := fldD _ _ _ _ = _) ?_ ?_)); rotate_left; first | with_reducible exact fld_top | with_reducible exact fld_bot | exact rfl) | ((with_reducible refine Exists.intro ?_ (And.intro (a := isT _ _ _ = _) ?_ ?_)); rotate_left; exact rfl) | ((with_reducible refine Exists.intro ?_ (And.intro (a := isO _ _ _ = _) ?_ ?_)); rotate_left; exact rfl) | ((with_reducible refine Exists.intro ?_ (And.intro (a := D.int _ = D.int _) ?_ ?_)); rotate_left; exact rfl) | ((with_reducible refine w_kT' (k := T3.isInt _) ?_ ?_); exact rfl) | ((with_reducible refine w_kF' (k := T3.isInt _) ?_ ?_); exact rfl) | ((with_reducible refine w_kT' (k := T3.isBl _) ?_ ?_); exact rfl) | ((with_reducible refine w_kF' (k := T3.isBl _) ?_ ?_); exact rfl) | ((with_reducible refine w_kT' (k := T3.isStr _) ?_ ?_); exact rfl) | ((with_reducible refine w_kF' (k := T3.isStr _) ?_ ?_); exact rfl) | ((with_reducible refine w_kT' (k := T3.isTup _) ?_ ?_); exact rfl) | ((with_reducible refine w_kF' (k := T3.isTup _) ?_ ?_); exact rfl) | ((with_reducible refine w_kT' (k := T3.isLst _) ?_ ?_); exact rfl) | ((with_reducible refine w_kF' (k := T3.isLst _) ?_ ?_); exact rfl) | ((with_reducible refine And.intro (a := insD _ _ _ _) ?_ ?_); (first | exact ⟨rfl, rfl⟩)) | (with_reducible refine w_kF' (k := !true) rfl ?_) | (with_reducible refine w_kT' (k := !false) rfl ?_) | ((with_reducible refine w_kT' (k := decide _) ?_ ?_); decide +kernel) | ((with_reducible refine w_kF' (k := decide _) ?_ ?_); decide +kernel)))
theorem b_Share_str : BodyOk ["self"] 1 sp_Share_str m_Share_str := by
  rintro ds O Z P hl ⟨u, d, rfl, hd, b1, b2, hq⟩
  obtain ⟨l1, l2, l3, l4, l5⟩ := lowP_ok (u := u) hd
  have c1 : Bd 1500 (lowP u d).1 := b1.le l5
  have c2 : Bd 1500 (lowP u d).2 := b2.le (by omega)
  have n1 := num_len c1
  have n2 := num_len c2
  have hS := big_line
  show m_Share_str (En.mk _ _ _ _ _) [some (.obj "Share" [("top", .int (lowP u d).1), ("bottom", .int (lowP u d).2)])] O
  unfold m_Share_str
  walk_at "PG02 W0"
  refine w_fmtI (log_ok c1) ?_
  refine ⟨_, rfl, ?_, ?_⟩
  · rw [empty_app]
    exact Nat.le_trans n1 (Nat.le_trans (by decide) hS)
  rw [empty_app]
  walk_at "PG02 W0"
  refine ⟨_, rfl, ?_, ?_⟩
  · rw [app_len]
    have : ("/" : Str).length = 1 := rfl
    exact Nat.le_trans (Nat.add_le_add n1 (Nat.le_of_eq this)) (Nat.le_trans (by decide) hS)
  walk_at "PG02 W0"
  refine w_fmtI (log_ok c2) ?_
  refine ⟨_, rfl, ?_, ?_⟩
  · rw [app_len, app_len]
    have : ("/" : Str).length = 1 := rfl
    exact Nat.le_trans (Nat.add_le_add (Nat.add_le_add n1 (Nat.le_of_eq this)) n2) (Nat.le_trans (by decide) hS)
  walk_at "PG02 W0"
  exact w_fz hq
local macro_rules | `(tactic| walk_at "PG02 V1") => `(tactic| (repeat' first | with_reducible refine w_seq ?_ | with_reducible refine w_sui ?_ | with_reducible refine w_next ?_ | with_reducible refine w_brk ?_ | with_reducible refine w_cont ?_ | with_reducible refine w_ret ?_ | with_reducible refine w_retN ?_ | with_reducible refine w_drop ?_ | with_reducible refine w_if ?_ | with_reducible refine w_asg ?_ | with_reducible refine w_par ?_ | with_reducible refine w_setA ?_ | with_reducible refine w_raise ?_ | with_reducible refine w_for ?_ | with_reducible refine w_forR1 ?_ | with_reducible refine w_forLst ?_ | with_reducible refine w_tgName ?_ | with_reducible refine w_tgIx ?_ | with_reducible refine w_tgCons ?_ | with_reducible refine w_tgNil ?_ | with_reducible refine w_un ?_ | with_reducible refine w_op ?_ | with_reducible refine w_B ?_ | with_reducible refine w_tru ?_ | with_reducible refine w_and ?_ | with_reducible refine w_or ?_ | with_reducible refine w_not ?_ | with_reducible refine w_andV ?_ | with_reducible refine w_orV ?_ | with_reducible refine w_notV ?_ | with_reducible refine w_ifE ?_ | with_reducible refine w_nil ?_ | with_reducible refine w_cons ?_ | with_reducible refine w_tup ?_ | with_reducible refine w_lst ?_ | with_reducible refine w_cb ?_ | with_reducible refine w_call ?_ | with_reducible refine w_slice ?_ | with_reducible refine w_oNone ?_ | with_reducible refine w_onBl ?_ | with_reducible refine w_onTruB ?_ | with_reducible refine w_kT ?_ | with_reducible refine w_kF ?_ | with_reducible refine w_fAdd ?_ | with_reducible refine w_fSub ?_ | with_reducible refine w_fNeg ?_ | with_reducible refine w_fLt ?_ | with_reducible refine w_fLe ?_ | with_reducible refine w_fGt ?_ | with_reducible refine w_fGe ?_ | with_reducible refine w_fEqI ?_ | with_reducible refine w_fNeI ?_ | with_reducible refine w_fEqB ?_ | with_reducible refine w_fEqS ?_ | with_reducible refine w_fInt ?_ | with_reducible refine w_fIntB ?_ | with_reducible refine w_fAbs ?_ | with_reducible refine w_fMax ?_ | with_reducible refine w_fMin ?_ | with_reducible refine w_fGcd ?_ | with_reducible refine w_fLenL ?_ | with_reducible refine w_fLenT ?_ | with_reducible refine w_own ?_ | with_reducible refine w_ownI ?_ | with_reducible refine w_eqOwnI ?_ | with_reducible refine w_c ?_ | with_reducible refine w_make ?_ | with_reducible refine w_makeK ?_ | with_reducible refine w_par2 ?_ | with_reducible refine w_slLst ?_ | with_reducible refine w_p10_6 ?_ | with_reducible refine w_p10_8 ?_ | with_reducible refine w_p10_18 ?_ | with_reducible refine w_p10_30 ?_ | with_reducible refine w_p10_51 ?_ | with_reducible refine w_p10_59 ?_ | with_reducible refine w_p10_60 ?_ | with_reducible refine w_p2_63 ?_ | with_reducible refine w_p2_64 ?_ | with_reducible refine w_comp ?_ | with_reducible refine w_meth ?_ | with_reducible refine w_app ?_ | with_reducible refine w_tupOf ?_ | with_reducible refine w_tupL ?_ | with_reducible refine w_tupT ?_ | with_reducible refine w_forTup ?_ | with_reducible refine w_sm ?_ | with_reducible refine w_sm0 ?_ | with_reducible refine w_isStr ?_ | with_reducible refine w_find ?_ | with_reducible refine w_starts ?_ | with_reducible refine w_isascii ?_ | with_reducible refine w_isdigit ?_ | with_reducible refine w_str1S ?_ | with_reducible refine w_strO ?_ | with_reducible refine w_fmt ?_ | with_reducible refine w_join ?_ | with_reducible refine w_jsNil ?_ | with_reducible refine w_jsCons ?_ | with_reducible refine w_inS ?_ | with_reducible refine w_notInS ?_ | with_reducible refine w_statI ?_ | with_reducible refine w_fNeS ?_ | with_reducible refine w_ownS ?_ | ((with_reducible apply w_var); exact rfl) | ((with_reducible apply w_isE); exact rfl) | ((with_reducible apply w_onTru); exact rfl) | ((with_reducible apply w_tgTup); exact rfl) | ((with_reducible refine w_fPow ?_ ?_); exact ⟨by decide, by decide, by decide⟩) | (with_reducible refine w_fMod (by decide) ?_) | ((with_reducible apply w_fIxT); exact rfl) | ((with_reducible apply w_fIxL); exact rfl) | (with_reducible refine w_oSome ?_) | ((with_reducible apply w_fIxC); (first | with_reducible exact put_same | assumption); exact rfl) | ((with_reducible apply w_fLenC); (first | with_reducible exact put_same | assumption)) | ((with_reducible apply w_setL); (first | with_reducible exact put_same | assumption); exact rfl) | (with_reducible refine w_fLenS (by omega) ?_) | (with_reducible refine w_slStr (by omega) ?_) | (with_reducible refine w_fAddS (by omega) ?_) | (with_reducible refine w_remPre (by omega) ?_) | (with_reducible refine w_fmtS (by omega) ?_) | (with_reducible refine w_fMul (mulR (by decide)) ?_) | (with_reducible refine w_fMul (mulL (by omega)) ?_) | (with_reducible refine w_fMul (mulR (by omega)) ?_) | (with_reducible refine w_fDiv (dv30 (by omega) (by omega)) ?_) | (with_reducible refine w_fMod (by omega) ?_) | ((with_reducible refine And.intro (a := List.length _ ≤ sizeLine) ?_ ?_); exact Nat.le_of_ble_eq_true rfl) | (with_reducible refine And.intro (a := List.length _ = _) rfl ?_) | (with_reducible refine w_fld ?_) | (with_reducible refine w_isT ?_) | (with_reducible refine w_isO ?_) | ((with_reducible refine Exists.intro ?_ (And.intro (a := fldD _ _ _ _ = _) ?_ ?_)); rotate_left; first | with_reducible exact fld_top | with_reducible exact fld_bot | exact rfl) | ((with_reducible refine Exists.intro ?_ (And.intro (a := isT _ _ _ = _) ?_ ?_)); rotate_left; exact rfl) | ((with_reducible refine Exists.intro ?_ (And.intro (a := isO _ _ _ = _) ?_ ?_)); rotate_left; exact rfl) | ((with_reducible refine Exists.intro ?_ (And.intro (a := D.int _ = D.int _) ?_ ?_)); rotate_left; exact rfl) | ((with_reducible refine w_kT' (k := T3.isInt _) ?_ ?_); exact rfl) | ((with_reducible refine w_kF' (k := T3.isInt _) ?_ ?_); exact rfl) | ((with_reducible refine w_kT' (k := T3.isBl _) ?_ ?_); exact rfl) | ((with_reducible refine w_kF' (k := T3.isBl _) ?_ ?_); exact rfl) | ((with_reducible refine w_kT' (k := T3.isStr _) ?_ ?_); exact rfl) | ((with_reducible refine w_kF' (k := T3.isStr _) ?_ ?_); exact rfl) | ((with_reducible refine w_kT' (k := T3.isTup _) ?_ ?_); exact rfl) | ((with_reducible refine w_kF' (k := T3.isTup _) ?_ ?_); exact rfl) | ((with_reducible refine w_kT' (k := T3.isLst _) ?_ ?_); exact rfl) | ((with_reducible refine w_kF' (k := T3.isLst _) ?_ ?_); exact rfl) | ((with_reducible refine And.intro (a := insD _ _ _ _) ?_ ?_); (first | exact ⟨rfl, rfl⟩)) | (with_reducible refine w_kF' (k := !true) rfl ?_) | (with_reducible refine w_kT' (k := !false) rfl ?_) | ((with_reducible refine w_kT' (k := decide _) ?_ ?_); decide +kernel) | ((with_reducible refine w_kF' (k := decide _) ?_ ?_); decide +kernel)))
theorem b_is_unsigned : BodyOk ["text"] 1 sp_is_unsigned m_is_unsigned := by
  rintro ds O Z P hl ⟨z, rfl, hz, hq⟩
  have hS := big_line
  show m_is_unsigned (En.mk _ _ _ _ _) [some (.str z)] O
  unfold m_is_unsigned
  walk_at "PG02 V1"
  unfold unsg at hq
  refine w_k (fun h => ?_) fun h => ?_
  · have h1 : z.length ≤ 60 := by
      have := of_decide_eq_true h
      omega
    rw [decide_eq_true h1, Bool.true_and] at hq
    walk_at "PG02 V1"
    refine w_k (fun h => ?_) fun h => ?_
    · rw [h, Bool.true_and] at hq
      walk_at "PG02 V1"
      exact w_fz hq
    · rw [h, Bool.false_and] at hq
      exact w_fz hq
  · have h1 : ¬ z.length ≤ 60 := by
      have := of_decide_eq_false h
      omega
    rw [decide_eq_false h1, Bool.false_and] at hq
    exact w_fz hq
theorem fold_lt : ∀ (l : List Nat) (acc : Nat), (∀ c ∈ l, 48 ≤ c ∧ c ≤ 57) → l.foldl (fun acc c => acc * 10 + (c - 48)) acc < (acc + 1) * 10 ^ l.length
  | [], acc, _ => by simp
  | c :: r, acc, h => by
    have hc := h c List.mem_cons_self
    have ih := fold_lt r (acc * 10 + (c - 48)) fun x hx => h x (List.mem_cons_of_mem _ hx)
    rw [List.foldl_cons, List.length_cons, Nat.pow_succ]
    refine Nat.lt_of_lt_of_le ih ?_
    have e : (acc + 1) * (10 ^ r.length * 10) = ((acc + 1) * 10) * 10 ^ r.length := by
      rw [Nat.mul_comm (10 ^ r.length) 10, ← Nat.mul_assoc]
    rw [e]
    exact Nat.mul_le_mul_right _ (by omega)
theorem val_bd {l : List Nat} (h6 : l.length ≤ 60) (h : ∀ c ∈ l, 48 ≤ c ∧ c ≤ 57) : Bd 200 (valL l) := by
  have := fold_lt l 0 h
  unfold valL Bd
  have e : PySem.NumText.digitsVal l < 10 ^ l.length := by
    unfold PySem.NumText.digitsVal
    simpa using this
  have e2 : (10 : Nat) ^ l.length ≤ 10 ^ 60 := Nat.pow_le_pow_right (by decide) h6
  have e3 : (10 : Nat) ^ 60 ≤ 2 ^ 200 := by decide
  have e4 : ((PySem.NumText.digitsVal l : Nat) : Int).natAbs = PySem.NumText.digitsVal l := by simp
  rw [e4]
  omega
end K02

namespace K02
open PySem L2 L3
theorem len_mk (l : List Nat) : (mk l).length = l.length := by rw [len_cs, cs_mk]
theorem int_pos {l : List Nat} (h1 : 1 ≤ l.length) (h6 : l.length ≤ 60) (h : ∀ c ∈ l, 48 ≤ c ∧ c ≤ 57) : PySem.intText? (mk l) = some (valL l) := by
  have e := PySem.intText_digits (x := mk l) (by intro c hc; exact h c (by have := cs_mk l; unfold cs at this; rw [this] at hc; exact hc)) (by have := cs_mk l; unfold cs at this; rw [this]; intro q; rw [q] at h1; simp at h1) (by rw [len_mk]; omega)
  have e2 : (mk l).cps.toList = l := cs_mk l
  rw [e2] at e
  exact e
theorem int_neg {l : List Nat} (h1 : 1 ≤ l.length) (h6 : l.length ≤ 60) (h : ∀ c ∈ l, 48 ≤ c ∧ c ≤ 57) : PySem.intText? (mk (45 :: l)) = some (-valL l) := PySem.intText_neg (x := mk (45 :: l)) (cs := l) (cs_mk _) (fun c hc => h c hc) (by intro q; rw [q] at h1; simp at h1) (by rw [len_mk]; simp only [List.length_cons]; omega)
theorem minus_form {a : List Nat} (h : isMinus a = true) : a = 45 :: a.tail := by
  unfold isMinus at h
  have hh := of_decide_eq_true h
  cases a with
  | nil => cases hh
  | cons c r =>
    have : c = 45 := by simpa using hh
    rw [this]
    rfl
/-- the top's number -/
theorem int_top {a w : List Nat} (hw : w = if isMinus a then a.tail else a) (h1 : 1 ≤ w.length) (h6 : w.length ≤ 60) (h : ∀ c ∈ w, 48 ≤ c ∧ c ≤ 57) : PySem.intText? (mk a) = some (if isMinus a then -valL w else valL w) := by
  cases hm : isMinus a with
  | true =>
    rw [hm] at hw
    have hw2 : w = a.tail := hw
    have ea := minus_form hm
    rw [← hw2] at ea
    rw [ea]
    exact int_neg h1 h6 h
  | false =>
    rw [hm] at hw
    have hw2 : w = a := hw
    rw [← hw2]
    exact int_pos h1 h6 h
theorem read_small {l a b : List Nat} (hc : cutAt l = some (a, b)) (h : valL b < 1) : readL l = none := by
  unfold readL
  rw [hc]
  dsimp only
  by_cases hd : (digs (if isMinus a = true then a.tail else a) && digs b) = true
  · rw [if_pos hd, if_pos (Or.inl h)]
  · rw [if_neg hd]
local macro_rules | `(tactic| walk_at "PH02 V0") => `(tactic| (repeat' first | with_reducible refine w_seq ?_ | with_reducible refine w_sui ?_ | with_reducible refine w_next ?_ | with_reducible refine w_brk ?_ | with_reducible refine w_cont ?_ | with_reducible refine w_ret ?_ | with_reducible refine w_retN ?_ | with_reducible refine w_drop ?_ | with_reducible refine w_if ?_ | with_reducible refine w_asg ?_ | with_reducible refine w_par ?_ | with_reducible refine w_setA ?_ | with_reducible refine w_raise ?_ | with_reducible refine w_for ?_ | with_reducible refine w_forR1 ?_ | with_reducible refine w_forLst ?_ | with_reducible refine w_tgName ?_ | with_reducible refine w_tgIx ?_ | with_reducible refine w_tgCons ?_ | with_reducible refine w_tgNil ?_ | with_reducible refine w_un ?_ | with_reducible refine w_op ?_ | with_reducible refine w_B ?_ | with_reducible refine w_tru ?_ | with_reducible refine w_and ?_ | with_reducible refine w_or ?_ | with_reducible refine w_not ?_ | with_reducible refine w_andV ?_ | with_reducible refine w_orV ?_ | with_reducible refine w_notV ?_ | with_reducible refine w_ifE ?_ | with_reducible refine w_nil ?_ | with_reducible refine w_cons ?_ | with_reducible refine w_tup ?_ | with_reducible refine w_lst ?_ | with_reducible refine w_cb ?_ | with_reducible refine w_call ?_ | with_reducible refine w_slice ?_ | with_reducible refine w_oNone ?_ | with_reducible refine w_onBl ?_ | with_reducible refine w_onTruB ?_ | with_reducible refine w_kT ?_ | with_reducible refine w_kF ?_ | with_reducible refine w_fAdd ?_ | with_reducible refine w_fSub ?_ | with_reducible refine w_fNeg ?_ | with_reducible refine w_fLt ?_ | with_reducible refine w_fLe ?_ | with_reducible refine w_fGt ?_ | with_reducible refine w_fGe ?_ | with_reducible refine w_fEqI ?_ | with_reducible refine w_fNeI ?_ | with_reducible refine w_fEqB ?_ | with_reducible refine w_fEqS ?_ | with_reducible refine w_fInt ?_ | with_reducible refine w_fIntB ?_ | with_reducible refine w_fAbs ?_ | with_reducible refine w_fMax ?_ | with_reducible refine w_fMin ?_ | with_reducible refine w_fGcd ?_ | with_reducible refine w_fLenL ?_ | with_reducible refine w_fLenT ?_ | with_reducible refine w_own ?_ | with_reducible refine w_ownI ?_ | with_reducible refine w_eqOwnI ?_ | with_reducible refine w_c ?_ | with_reducible refine w_make ?_ | with_reducible refine w_makeK ?_ | with_reducible refine w_par2 ?_ | with_reducible refine w_slLst ?_ | with_reducible refine w_p10_6 ?_ | with_reducible refine w_p10_8 ?_ | with_reducible refine w_p10_18 ?_ | with_reducible refine w_p10_30 ?_ | with_reducible refine w_p10_51 ?_ | with_reducible refine w_p10_59 ?_ | with_reducible refine w_p10_60 ?_ | with_reducible refine w_p2_63 ?_ | with_reducible refine w_p2_64 ?_ | with_reducible refine w_comp ?_ | with_reducible refine w_meth ?_ | with_reducible refine w_app ?_ | with_reducible refine w_tupOf ?_ | with_reducible refine w_tupL ?_ | with_reducible refine w_tupT ?_ | with_reducible refine w_forTup ?_ | with_reducible refine w_sm ?_ | with_reducible refine w_sm0 ?_ | with_reducible refine w_isStr ?_ | with_reducible refine w_find ?_ | with_reducible refine w_starts ?_ | with_reducible refine w_isascii ?_ | with_reducible refine w_isdigit ?_ | with_reducible refine w_str1S ?_ | with_reducible refine w_strO ?_ | with_reducible refine w_fmt ?_ | with_reducible refine w_join ?_ | with_reducible refine w_jsNil ?_ | with_reducible refine w_jsCons ?_ | with_reducible refine w_inS ?_ | with_reducible refine w_notInS ?_ | with_reducible refine w_statI ?_ | with_reducible refine w_fNeS ?_ | with_reducible refine w_ownS ?_ | ((with_reducible apply w_var); exact rfl) | ((with_reducible apply w_isE); exact rfl) | ((with_reducible apply w_onTru); exact rfl) | ((with_reducible apply w_tgTup); exact rfl) | ((with_reducible refine w_fPow ?_ ?_); exact ⟨by decide, by decide, by decide⟩) | (with_reducible refine w_fMod (by decide) ?_) | ((with_reducible apply w_fIxT); exact rfl) | ((with_reducible apply w_fIxL); exact rfl) | (with_reducible refine w_oSome ?_) | ((with_reducible apply w_fIxC); (first | with_reducible exact put_same | assumption); exact rfl) | ((with_reducible apply w_fLenC); (first | with_reducible exact put_same | assumption)) | ((with_reducible apply w_setL); (first | with_reducible exact put_same | assumption); exact rfl) | (with_reducible refine w_fLenS (by omega) ?_) | (with_reducible refine w_slStr (by omega) ?_) | (with_reducible refine w_fAddS (by omega) ?_) | (with_reducible refine w_remPre (by omega) ?_) | (with_reducible refine w_fmtS (by omega) ?_) | (with_reducible refine w_fMul (mulR (by decide)) ?_) | (with_reducible refine w_fMul (mulL (by omega)) ?_) | (with_reducible refine w_fMul (mulR (by omega)) ?_) | (with_reducible refine w_fDiv (dv30 (by omega) (by omega)) ?_) | (with_reducible refine w_fMod (by omega) ?_) | ((with_reducible refine And.intro (a := List.length _ ≤ sizeLine) ?_ ?_); exact Nat.le_of_ble_eq_true rfl) | (with_reducible refine And.intro (a := List.length _ = _) rfl ?_) | (with_reducible refine w_fld ?_) | (with_reducible refine w_isT ?_) | (with_reducible refine w_isO ?_) | ((with_reducible refine Exists.intro ?_ (And.intro (a := fldD _ _ _ _ = _) ?_ ?_)); rotate_left; first | with_reducible exact fld_top | with_reducible exact fld_bot | exact rfl) | ((with_reducible refine Exists.intro ?_ (And.intro (a := isT _ _ _ = _) ?_ ?_)); rotate_left; exact rfl) | ((with_reducible refine Exists.intro ?_ (And.intro (a := isO _ _ _ = _) ?_ ?_)); rotate_left; exact rfl) | ((with_reducible refine Exists.intro ?_ (And.intro (a := D.int _ = D.int _) ?_ ?_)); rotate_left; exact rfl) | ((with_reducible refine w_kT' (k := T3.isInt _) ?_ ?_); exact rfl) | ((with_reducible refine w_kF' (k := T3.isInt _) ?_ ?_); exact rfl) | ((with_reducible refine w_kT' (k := T3.isBl _) ?_ ?_); exact rfl) | ((with_reducible refine w_kF' (k := T3.isBl _) ?_ ?_); exact rfl) | ((with_reducible refine w_kT' (k := T3.isStr _) ?_ ?_); exact rfl) | ((with_reducible refine w_kF' (k := T3.isStr _) ?_ ?_); exact rfl) | ((with_reducible refine w_kT' (k := T3.isTup _) ?_ ?_); exact rfl) | ((with_reducible refine w_kF' (k := T3.isTup _) ?_ ?_); exact rfl) | ((with_reducible refine w_kT' (k := T3.isLst _) ?_ ?_); exact rfl) | ((with_reducible refine w_kF' (k := T3.isLst _) ?_ ?_); exact rfl) | ((with_reducible refine And.intro (a := insD _ _ _ _) ?_ ?_); (first | exact ⟨rfl, rfl⟩)) | (with_reducible refine w_kF' (k := !true) rfl ?_) | (with_reducible refine w_kT' (k := !false) rfl ?_) | ((with_reducible refine w_kT' (k := decide _) ?_ ?_); decide +kernel) | ((with_reducible refine w_kF' (k := decide _) ?_ ?_); decide +kernel)))
theorem b_Share_parse : BodyOk ["text", "top", "_", "bottom", "share"] 1 sp_Share_parse m_Share_parse := by
  rintro ds O Z P hl ⟨z, rfl, hz, hq⟩
  have hS := big_line
  show m_Share_parse (En.mk _ _ _ _ _) [some (.str z), none, none, none, none] O
  unfold m_Share_parse
  walk_at "PH02 V0"
  refine w_parti rfl (by omega) ?_
  have no : readL (cs z) = none → ∀ O', Z "BadShare" [] O' := by
    intro hn
    rcases hq with ⟨_, h⟩ | ⟨t, b, h, _⟩
    · exact h
    · rw [hn] at h
      cases h
  cases hc : cutAt (cs z) with
  | none =>
    have hn : readL (cs z) = none := by unfold readL; rw [hc]
    rw [parti_none hc]
    have nz := no hn
    dsimp only
    walk_at "PH02 V0"
    refine ⟨_, rfl, Nat.le_trans (by rw [len_cs]; exact Nat.le_trans (Nat.le_of_eq (len_cs _).symm) (PyProof.Rows.len_removeprefix z "-")) hz, ?_⟩
    walk_at "PH02 V0"
    refine w_k (fun _ => ?_) fun _ => ?_
    · walk_at "PH02 V0"
      exact nz _
    · walk_at "PH02 V0"
      refine ⟨_, rfl, by decide, ?_⟩
      have hu : unsg Str.empty = false := by decide +kernel
      rw [hu]
      walk_at "PH02 V0"
      exact nz _
  | some q =>
    obtain ⟨a, b⟩ := q
    obtain ⟨hzz, ha⟩ := cutAt_some hc
    have la : a.length + b.length + 1 ≤ 10000 := by
      have := hz
      rw [len_cs, hzz] at this
      simp only [List.length_append, List.length_cons] at this
      omega
    rw [parti_some hc]
    obtain ⟨w, hw⟩ : ∃ w, w = if isMinus a then a.tail else a := ⟨_, rfl⟩
    have lw : w.length ≤ a.length := by
      rw [hw]
      split
      · rw [List.length_tail]; omega
      · exact Nat.le_refl _
    have lma := len_mk a
    have lmb := len_mk b
    have lmw := len_mk w
    dsimp only
    walk_at "PH02 V0"
    rw [rem_minus, ← hw]
    refine ⟨_, rfl, by omega, ?_⟩
    walk_at "PH02 V0"
    have badd : ¬ (unsg (mk w) = true ∧ unsg (mk b) = true) → readL (cs z) = none := by
      intro hn
      unfold readL
      rw [hc]
      show (if (digs (if isMinus a then a.tail else a) && digs b) = true then _ else none) = none
      rw [← hw]
      rw [if_neg]
      intro hd
      obtain ⟨d1, d2⟩ := Bool.and_eq_true_iff.mp hd
      obtain ⟨x1, x2, _, x3⟩ := digs_ok d1
      obtain ⟨y1, y2, _, y3⟩ := digs_ok d2
      exact hn ⟨(unsg_iff _).mpr (by rw [cs_mk]; exact ⟨x1, x2, x3⟩), (unsg_iff _).mpr (by rw [cs_mk]; exact ⟨y1, y2, y3⟩)⟩
    refine w_k (fun h => ?_) fun h => ?_
    · have hf : ¬ (unsg (mk w) = true ∧ unsg (mk b) = true) := fun q => by rw [q.1] at h; cases h
      walk_at "PH02 V0"
      exact no (badd hf) _
    · have hu : unsg (mk w) = true := by simpa using h
      walk_at "PH02 V0"
      refine ⟨_, rfl, by omega, ?_⟩
      walk_at "PH02 V0"
      refine w_k (fun h => ?_) fun h => ?_
      · have hf : ¬ (unsg (mk w) = true ∧ unsg (mk b) = true) := fun q => by rw [q.2] at h; cases h
        walk_at "PH02 V0"
        exact no (badd hf) _
      · have hu2 : unsg (mk b) = true := by simpa using h
        have uw := (unsg_iff _).mp hu
        have ub := (unsg_iff _).mp hu2
        rw [cs_mk] at uw ub
        obtain ⟨w1, w6, wd⟩ := uw
        obtain ⟨b1, b6, bd⟩ := ub
        have la2 : a.length ≤ 61 := by
          rw [hw] at w6
          split at w6
          · rw [List.length_tail] at w6; omega
          · omega
        walk_at "PH02 V0"
        refine w_fIntS (int_top hw w1 w6 wd) (by omega) ?_
        walk_at "PH02 V0"
        refine w_fIntS (int_pos b1 b6 bd) (by omega) ?_
        walk_at "PH02 V0"
        intro p hp
        obtain ⟨t0, ht⟩ : ∃ t0, t0 = if isMinus a = true then -valL w else valL w := ⟨_, rfl⟩
        rw [← ht]
        have bw := val_bd w6 wd
        have bb := val_bd b6 bd
        have bt : Bd 200 t0 := by
          rw [ht]
          split
          · exact bw.neg
          · exact bw
        by_cases hm : 1 ≤ valL b
        · refine make_shr hp (by omega) (bb.mono (by decide)) ?_
          obtain ⟨r1, r2⟩ := read_iff hc hw w1 w6 wd b1 b6 bd hm ht
          walk_at "PH02 V0"
          refine w_strO ?_
          refine ⟨t0, valL b, rfl, by omega, bt.mono (by decide), bb.mono (by decide), trivial, ?_⟩
          walk_at "PH02 V0"
          refine w_k (fun h => ?_) fun h => ?_
          · have hne : shTxt (lowP t0 (valL b)).1 (lowP t0 (valL b)).2 ≠ z := by
              intro q
              rw [q] at h
              simp at h
            walk_at "PH02 V0"
            exact no (r2 hne) _
          · have he : shTxt (lowP t0 (valL b)).1 (lowP t0 (valL b)).2 = z := by
              simpa using h
            walk_at "PH02 V0"
            rcases hq with ⟨hn, _⟩ | ⟨t, b', hr, hp'⟩
            · rw [(r1 he).1] at hn
              cases hn
            · rw [(r1 he).1] at hr
              obtain ⟨e1, e2⟩ := Prod.mk.inj (Option.some.inj hr)
              rw [e1, e2]
              exact w_fz hp'
        · have hn : readL (cs z) = none := read_small hc (by omega)
          exact ⟨p, _, _, rfl, put_same, .inl ⟨by omega, no hn _⟩⟩
end K02

namespace K02
open PySem L2 L3
theorem w_cut {a : MS} {nx bk ct : Gm → Sto → Prop} {rt : PV} {xp : Str → List (Str × D) → Gm → Sto → Prop} {Γ : Gm} {O : Sto} (J : Gm → Sto → Prop) (h1 : ∀ Γ O, J Γ O → nx Γ O) (h2 : ∀ nx' : Gm → Sto → Prop, (∀ Γ O, J Γ O → nx' Γ O) → a ⟨nx', rt, bk, ct, xp⟩ Γ O) : a ⟨nx, rt, bk, ct, xp⟩ Γ O := h2 nx h1
theorem cut_to (z : Str) (k : Nat) : cutS z none (some (k : Int)) = mk ((cs z).take k) := by
  unfold cutS mk
  rw [HT.sIx_none, HT.sIx_nat, len_cs]
  congr 2
  simp only [Nat.sub_zero, List.drop_zero]
  show List.take (min k (cs z).length) (cs z) = List.take k (cs z)
  by_cases h : k ≤ (cs z).length
  · rw [Nat.min_eq_left h]
  · rw [Nat.min_eq_right (by omega), List.take_of_length_le (Nat.le_refl _), List.take_of_length_le (by omega)]
theorem cut_from (z : Str) (k : Nat) : cutS z (some (k : Int)) none = mk ((cs z).drop k) := by
  unfold cutS mk
  rw [HT.sIx_none, HT.sIx_nat, len_cs]
  congr 1
  by_cases h : k ≤ (cs z).length
  · rw [Nat.min_eq_left h]
    rw [List.take_of_length_le (by rw [List.length_drop]; exact Nat.le_refl _)]
  · rw [Nat.min_eq_right (by omega)]
    rw [List.drop_eq_nil_of_le (Nat.le_refl _), List.drop_eq_nil_of_le (by omega)]
    simp
theorem dig_in (c : Nat) : (c ∈ ("0123456789" : Str).cps.toList) ↔ (48 ≤ c ∧ c ≤ 57) := by
  have e : ("0123456789" : Str).cps.toList = [48, 49, 50, 51, 52, 53, 54, 55, 56, 57] := by decide +kernel
  rw [e]
  simp only [List.mem_cons, List.not_mem_nil, or_false]
  omega
local macro_rules | `(tactic| walk_at "PI02 V0") => `(tactic| (repeat' first | with_reducible refine w_seq ?_ | with_reducible refine w_sui ?_ | with_reducible refine w_next ?_ | with_reducible refine w_brk ?_ | with_reducible refine w_cont ?_ | with_reducible refine w_ret ?_ | with_reducible refine w_retN ?_ | with_reducible refine w_drop ?_ | with_reducible refine w_if ?_ | with_reducible refine w_asg ?_ | with_reducible refine w_par ?_ | with_reducible refine w_setA ?_ | with_reducible refine w_raise ?_ | with_reducible refine w_for ?_ | with_reducible refine w_forR1 ?_ | with_reducible refine w_forLst ?_ | with_reducible refine w_tgName ?_ | with_reducible refine w_tgIx ?_ | with_reducible refine w_tgCons ?_ | with_reducible refine w_tgNil ?_ | with_reducible refine w_un ?_ | with_reducible refine w_op ?_ | with_reducible refine w_B ?_ | with_reducible refine w_tru ?_ | with_reducible refine w_and ?_ | with_reducible refine w_or ?_ | with_reducible refine w_not ?_ | with_reducible refine w_andV ?_ | with_reducible refine w_orV ?_ | with_reducible refine w_notV ?_ | with_reducible refine w_ifE ?_ | with_reducible refine w_nil ?_ | with_reducible refine w_cons ?_ | with_reducible refine w_tup ?_ | with_reducible refine w_lst ?_ | with_reducible refine w_cb ?_ | with_reducible refine w_call ?_ | with_reducible refine w_slice ?_ | with_reducible refine w_oNone ?_ | with_reducible refine w_onBl ?_ | with_reducible refine w_onTruB ?_ | with_reducible refine w_kT ?_ | with_reducible refine w_kF ?_ | with_reducible refine w_fAdd ?_ | with_reducible refine w_fSub ?_ | with_reducible refine w_fNeg ?_ | with_reducible refine w_fLt ?_ | with_reducible refine w_fLe ?_ | with_reducible refine w_fGt ?_ | with_reducible refine w_fGe ?_ | with_reducible refine w_fEqI ?_ | with_reducible refine w_fNeI ?_ | with_reducible refine w_fEqB ?_ | with_reducible refine w_fEqS ?_ | with_reducible refine w_fInt ?_ | with_reducible refine w_fIntB ?_ | with_reducible refine w_fAbs ?_ | with_reducible refine w_fMax ?_ | with_reducible refine w_fMin ?_ | with_reducible refine w_fGcd ?_ | with_reducible refine w_fLenL ?_ | with_reducible refine w_fLenT ?_ | with_reducible refine w_own ?_ | with_reducible refine w_ownI ?_ | with_reducible refine w_eqOwnI ?_ | with_reducible refine w_c ?_ | with_reducible refine w_make ?_ | with_reducible refine w_makeK ?_ | with_reducible refine w_par2 ?_ | with_reducible refine w_slLst ?_ | with_reducible refine w_p10_6 ?_ | with_reducible refine w_p10_8 ?_ | with_reducible refine w_p10_18 ?_ | with_reducible refine w_p10_30 ?_ | with_reducible refine w_p10_51 ?_ | with_reducible refine w_p10_59 ?_ | with_reducible refine w_p10_60 ?_ | with_reducible refine w_p2_63 ?_ | with_reducible refine w_p2_64 ?_ | with_reducible refine w_comp ?_ | with_reducible refine w_meth ?_ | with_reducible refine w_app ?_ | with_reducible refine w_tupOf ?_ | with_reducible refine w_tupL ?_ | with_reducible refine w_tupT ?_ | with_reducible refine w_forTup ?_ | with_reducible refine w_sm ?_ | with_reducible refine w_sm0 ?_ | with_reducible refine w_isStr ?_ | with_reducible refine w_find ?_ | with_reducible refine w_starts ?_ | with_reducible refine w_isascii ?_ | with_reducible refine w_isdigit ?_ | with_reducible refine w_str1S ?_ | with_reducible refine w_strO ?_ | with_reducible refine w_fmt ?_ | with_reducible refine w_join ?_ | with_reducible refine w_jsNil ?_ | with_reducible refine w_jsCons ?_ | with_reducible refine w_inS ?_ | with_reducible refine w_notInS ?_ | with_reducible refine w_statI ?_ | with_reducible refine w_fNeS ?_ | with_reducible refine w_ownS ?_ | ((with_reducible apply w_var); exact rfl) | ((with_reducible apply w_isE); exact rfl) | ((with_reducible apply w_onTru); exact rfl) | ((with_reducible apply w_tgTup); exact rfl) | ((with_reducible refine w_fPow ?_ ?_); exact ⟨by decide, by decide, by decide⟩) | (with_reducible refine w_fMod (by decide) ?_) | ((with_reducible apply w_fIxT); exact rfl) | ((with_reducible apply w_fIxL); exact rfl) | (with_reducible refine w_oSome ?_) | ((with_reducible apply w_fIxC); (first | with_reducible exact put_same | assumption); exact rfl) | ((with_reducible apply w_fLenC); (first | with_reducible exact put_same | assumption)) | ((with_reducible apply w_setL); (first | with_reducible exact put_same | assumption); exact rfl) | (with_reducible refine w_fLenS (by omega) ?_) | (with_reducible refine w_slStr (by omega) ?_) | (with_reducible refine w_fAddS (by omega) ?_) | (with_reducible refine w_remPre (by omega) ?_) | (with_reducible refine w_fmtS (by omega) ?_) | (with_reducible refine w_fMul (mulR (by decide)) ?_) | (with_reducible refine w_fMul (mulL (by omega)) ?_) | (with_reducible refine w_fMul (mulR (by omega)) ?_) | (with_reducible refine w_fDiv (dv30 (by omega) (by omega)) ?_) | (with_reducible refine w_fMod (by omega) ?_) | ((with_reducible refine And.intro (a := List.length _ ≤ sizeLine) ?_ ?_); exact Nat.le_of_ble_eq_true rfl) | (with_reducible refine And.intro (a := List.length _ = _) rfl ?_) | (with_reducible refine w_fld ?_) | (with_reducible refine w_isT ?_) | (with_reducible refine w_isO ?_) | ((with_reducible refine Exists.intro ?_ (And.intro (a := fldD _ _ _ _ = _) ?_ ?_)); rotate_left; first | with_reducible exact fld_top | with_reducible exact fld_bot | exact rfl) | ((with_reducible refine Exists.intro ?_ (And.intro (a := isT _ _ _ = _) ?_ ?_)); rotate_left; exact rfl) | ((with_reducible refine Exists.intro ?_ (And.intro (a := isO _ _ _ = _) ?_ ?_)); rotate_left; exact rfl) | ((with_reducible refine Exists.intro ?_ (And.intro (a := D.int _ = D.int _) ?_ ?_)); rotate_left; exact rfl) | ((with_reducible refine w_kT' (k := T3.isInt _) ?_ ?_); exact rfl) | ((with_reducible refine w_kF' (k := T3.isInt _) ?_ ?_); exact rfl) | ((with_reducible refine w_kT' (k := T3.isBl _) ?_ ?_); exact rfl) | ((with_reducible refine w_kF' (k := T3.isBl _) ?_ ?_); exact rfl) | ((with_reducible refine w_kT' (k := T3.isStr _) ?_ ?_); exact rfl) | ((with_reducible refine w_kF' (k := T3.isStr _) ?_ ?_); exact rfl) | ((with_reducible refine w_kT' (k := T3.isTup _) ?_ ?_); exact rfl) | ((with_reducible refine w_kF' (k := T3.isTup _) ?_ ?_); exact rfl) | ((with_reducible refine w_kT' (k := T3.isLst _) ?_ ?_); exact rfl) | ((with_reducible refine w_kF' (k := T3.isLst _) ?_ ?_); exact rfl) | ((with_reducible refine And.intro (a := insD _ _ _ _) ?_ ?_); (first | exact ⟨rfl, rfl⟩)) | (with_reducible refine w_kF' (k := !true) rfl ?_) | (with_reducible refine w_kT' (k := !false) rfl ?_) | ((with_reducible refine w_kT' (k := decide _) ?_ ?_); decide +kernel) | ((with_reducible refine w_kF' (k := decide _) ?_ ?_); decide +kernel)))
theorem b_law_digits : BodyOk ["word", "sign"] 1 sp_law_digits m_law_digits := by
  rintro ds O Z P hl ⟨z, rfl, hz, hq⟩
  have hS := big_line
  have hlen := len_cs z
  show m_law_digits (En.mk _ _ _ _ _) [some (.str z), none] O
  unfold m_law_digits
  have no : digs (cs z) = false → orFz P (.bl false) O := fun h => by
    rw [h] at hq
    exact w_fz hq
  refine w_seq ?_
  refine w_cut (fun Γ O' => Γ = [some (.str z), none] ∧ O' = O ∧ 1 ≤ (cs z).length ∧ (cs z).length ≤ 60 ∧ ((cs z).length ≤ 1 ∨ (cs z).head? ≠ some 48)) ?_ ?_
  · rintro Γ O' ⟨rfl, rfl, h1, h6, h0⟩
    walk_at "PI02 V0"
    refine w_forStr ?_
    refine w_forL (fun c => D.str ⟨#[c]⟩) (fun r Γ O2 => O2 = O' ∧ ∃ y, Γ = [some (.str z), y] ∧ (∀ c ∈ r, c ∈ cs z) ∧ ((∀ c ∈ r, 48 ≤ c ∧ c ≤ 57) → ∀ c ∈ cs z, 48 ≤ c ∧ c ≤ 57)) (fun _ _ _ _ => rfl) ?_ ?_ _ _ _ ⟨rfl, none, rfl, fun c hc => hc, fun h => h⟩
    · rintro c r K hK Γ O2 ⟨rfl, y, rfl, hm, ha⟩
      walk_at "PI02 V0"
      rw [occ_sign]
      refine w_k (fun h => ?_) fun h => ?_
      · have hc : ¬ (48 ≤ c ∧ c ≤ 57) := by
          intro q
          rw [decide_eq_true ((dig_in c).mpr q)] at h
          cases h
        walk_at "PI02 V0"
        refine no ?_
        cases hd : digs (cs z) with
        | false => rfl
        | true => exact absurd ((digs_ok hd).2.2.2 c (hm c List.mem_cons_self)) hc
      · have hc : 48 ≤ c ∧ c ≤ 57 := by
          have h2 : decide (c ∈ ("0123456789" : Str).cps.toList) = true := by simpa using h
          exact (dig_in c).mp (of_decide_eq_true h2)
        walk_at "PI02 V0"
        refine hK _ _ ⟨rfl, _, rfl, fun x hx => hm x (List.mem_cons_of_mem _ hx), fun hr => ha fun x hx => ?_⟩
        rcases List.mem_cons.mp hx with e | e
        · rw [e]; exact hc
        · exact hr x e
    · rintro Γ O2 ⟨rfl, y, rfl, _, ha⟩
      walk_at "PI02 V0"
      have hd : digs (cs z) = true := digs_of h1 h6 h0 (ha fun c h => by cases h)
      rw [hd] at hq
      exact w_fz hq
  · intro nx' hJ
    have bad : (∀ h : digs (cs z) = true, False) → orFz P (.bl false) O := fun h => no (by
      cases hd : digs (cs z) with
      | false => rfl
      | true => exact (h hd).elim)
    walk_at "PI02 V0"
    refine w_k (fun h => ?_) fun h => ?_
    · have h := of_decide_eq_true h
      walk_at "PI02 V0"
      exact bad fun hd => by have := (digs_ok hd).1; omega
    · have g1 := of_decide_eq_false h
      walk_at "PI02 V0"
      refine w_k (fun h => ?_) fun h => ?_
      · have h := of_decide_eq_true h
        walk_at "PI02 V0"
        exact bad fun hd => by have := (digs_ok hd).2.1; omega
      · have g2 := of_decide_eq_false h
        walk_at "PI02 V0"
        refine w_k (fun h => ?_) fun h => ?_
        · have g3 := of_decide_eq_true h
          cases hcs : cs z with
          | nil =>
            rw [hcs] at hlen
            simp only [List.length_nil] at hlen
            omega
          | cons c r =>
            have hat : atI z.cps.toList (0 : Int) = some c := by
              show atI (cs z) (0 : Int) = some c
              rw [hcs]
              unfold atI ixN
              simp
            walk_at "PI02 V0"
            refine w_fIxS (by omega) hat ?_
            walk_at "PI02 V0"
            refine w_k (fun h => ?_) fun h => ?_
            · have h := of_decide_eq_true h
              have hc : c = 48 := by
                have h5 := congrArg cs h
                have h6 : [c] = [48] := h5
                simpa using h6
              walk_at "PI02 V0"
              refine bad fun hd => ?_
              rcases (digs_ok hd).2.2.1 with q | q
              · omega
              · rw [hcs, hc] at q
                exact q rfl
            · have h := of_decide_eq_false h
              walk_at "PI02 V0"
              refine hJ _ _ ⟨rfl, rfl, by omega, by omega, .inr ?_⟩
              rw [hcs]
              intro q
              have hc : c = 48 := by simpa using q
              exact h (by rw [hc]; rfl)
        · have g3 := of_decide_eq_false h
          walk_at "PI02 V0"
          exact hJ _ _ ⟨rfl, rfl, by omega, by omega, .inl (by omega)⟩
end K02

namespace K02
open PySem L2 L3
theorem w_assoc {A B C : MS} {P : En} {Γ : Gm} {O : Sto} (h : mSeq (mSeq A B) C P Γ O) : mSeq A (mSeq B C) P Γ O := h
theorem minus_eq (a : List Nat) : decide (cutS (mk a) none (some (1 : Int)) = ("-" : Str)) = isMinus a := by
  have e : cutS (mk a) none (some (1 : Int)) = mk (a.take 1) := by
    have := cut_to (mk a) 1
    rw [cs_mk] at this
    exact this
  rw [e]
  unfold isMinus
  apply decide_eq_decide.mpr
  constructor
  · intro h
    have h2 := congrArg cs h
    rw [cs_mk] at h2
    have h3 : a.take 1 = [45] := h2
    cases a with
    | nil => cases h3
    | cons c r =>
      have : c = 45 := by simpa using h3
      rw [this]
      rfl
  · intro h
    cases a with
    | nil => cases h
    | cons c r =>
      have : c = 45 := by simpa using h
      subst this
      rfl
theorem tail_eq (a : List Nat) : cutS (mk a) (some (1 : Int)) none = mk a.tail := by
  have := cut_from (mk a) 1
  rw [cs_mk, List.drop_one] at this
  exact this
theorem low_self {x y : Int} (hy : 0 < y) : ((lowP x y).1 = x ∧ (lowP x y).2 = y) ↔ Int.gcd x y = 1 := by
  have g0 : 0 < (Int.gcd x y : Int) := by
    have : 0 < Int.gcd x y := Int.gcd_pos_of_ne_zero_right x (by omega)
    omega
  constructor
  · rintro ⟨_, h⟩
    have e : (lowP x y).2 * (Int.gcd x y : Int) = y := Int.ediv_mul_cancel (Int.gcd_dvd_right x y)
    rw [h] at e
    have e2 : y * (Int.gcd x y : Int) = y * 1 := by rw [e, Int.mul_one]
    have := Int.eq_of_mul_eq_mul_left (by omega) e2
    omega
  · intro h
    constructor
    · show x / (Int.gcd x y : Int) = x
      rw [h]; simp
    · show y / (Int.gcd x y : Int) = y
      rw [h]; simp
local macro_rules | `(tactic| walk_at "PJ02 V0") => `(tactic| (repeat' first | with_reducible refine w_seq ?_ | with_reducible refine w_sui ?_ | with_reducible refine w_next ?_ | with_reducible refine w_brk ?_ | with_reducible refine w_cont ?_ | with_reducible refine w_ret ?_ | with_reducible refine w_retN ?_ | with_reducible refine w_drop ?_ | with_reducible refine w_if ?_ | with_reducible refine w_asg ?_ | with_reducible refine w_par ?_ | with_reducible refine w_setA ?_ | with_reducible refine w_raise ?_ | with_reducible refine w_for ?_ | with_reducible refine w_forR1 ?_ | with_reducible refine w_forLst ?_ | with_reducible refine w_tgName ?_ | with_reducible refine w_tgIx ?_ | with_reducible refine w_tgCons ?_ | with_reducible refine w_tgNil ?_ | with_reducible refine w_un ?_ | with_reducible refine w_op ?_ | with_reducible refine w_B ?_ | with_reducible refine w_tru ?_ | with_reducible refine w_and ?_ | with_reducible refine w_or ?_ | with_reducible refine w_not ?_ | with_reducible refine w_andV ?_ | with_reducible refine w_orV ?_ | with_reducible refine w_notV ?_ | with_reducible refine w_ifE ?_ | with_reducible refine w_nil ?_ | with_reducible refine w_cons ?_ | with_reducible refine w_tup ?_ | with_reducible refine w_lst ?_ | with_reducible refine w_cb ?_ | with_reducible refine w_call ?_ | with_reducible refine w_slice ?_ | with_reducible refine w_oNone ?_ | with_reducible refine w_onBl ?_ | with_reducible refine w_onTruB ?_ | with_reducible refine w_kT ?_ | with_reducible refine w_kF ?_ | with_reducible refine w_fAdd ?_ | with_reducible refine w_fSub ?_ | with_reducible refine w_fNeg ?_ | with_reducible refine w_fLt ?_ | with_reducible refine w_fLe ?_ | with_reducible refine w_fGt ?_ | with_reducible refine w_fGe ?_ | with_reducible refine w_fEqI ?_ | with_reducible refine w_fNeI ?_ | with_reducible refine w_fEqB ?_ | with_reducible refine w_fEqS ?_ | with_reducible refine w_fInt ?_ | with_reducible refine w_fIntB ?_ | with_reducible refine w_fAbs ?_ | with_reducible refine w_fMax ?_ | with_reducible refine w_fMin ?_ | with_reducible refine w_fGcd ?_ | with_reducible refine w_fLenL ?_ | with_reducible refine w_fLenT ?_ | with_reducible refine w_own ?_ | with_reducible refine w_ownI ?_ | with_reducible refine w_eqOwnI ?_ | with_reducible refine w_c ?_ | with_reducible refine w_make ?_ | with_reducible refine w_makeK ?_ | with_reducible refine w_par2 ?_ | with_reducible refine w_slLst ?_ | with_reducible refine w_p10_6 ?_ | with_reducible refine w_p10_8 ?_ | with_reducible refine w_p10_18 ?_ | with_reducible refine w_p10_30 ?_ | with_reducible refine w_p10_51 ?_ | with_reducible refine w_p10_59 ?_ | with_reducible refine w_p10_60 ?_ | with_reducible refine w_p2_63 ?_ | with_reducible refine w_p2_64 ?_ | with_reducible refine w_comp ?_ | with_reducible refine w_meth ?_ | with_reducible refine w_app ?_ | with_reducible refine w_tupOf ?_ | with_reducible refine w_tupL ?_ | with_reducible refine w_tupT ?_ | with_reducible refine w_forTup ?_ | with_reducible refine w_sm ?_ | with_reducible refine w_sm0 ?_ | with_reducible refine w_isStr ?_ | with_reducible refine w_find ?_ | with_reducible refine w_starts ?_ | with_reducible refine w_isascii ?_ | with_reducible refine w_isdigit ?_ | with_reducible refine w_str1S ?_ | with_reducible refine w_strO ?_ | with_reducible refine w_fmt ?_ | with_reducible refine w_join ?_ | with_reducible refine w_jsNil ?_ | with_reducible refine w_jsCons ?_ | with_reducible refine w_inS ?_ | with_reducible refine w_notInS ?_ | with_reducible refine w_statI ?_ | with_reducible refine w_fNeS ?_ | with_reducible refine w_ownS ?_ | ((with_reducible apply w_var); exact rfl) | ((with_reducible apply w_isE); exact rfl) | ((with_reducible apply w_onTru); exact rfl) | ((with_reducible apply w_tgTup); exact rfl) | ((with_reducible refine w_fPow ?_ ?_); exact ⟨by decide, by decide, by decide⟩) | (with_reducible refine w_fMod (by decide) ?_) | ((with_reducible apply w_fIxT); exact rfl) | ((with_reducible apply w_fIxL); exact rfl) | (with_reducible refine w_oSome ?_) | ((with_reducible apply w_fIxC); (first | with_reducible exact put_same | assumption); exact rfl) | ((with_reducible apply w_fLenC); (first | with_reducible exact put_same | assumption)) | ((with_reducible apply w_setL); (first | with_reducible exact put_same | assumption); exact rfl) | (with_reducible refine w_fLenS (by omega) ?_) | (with_reducible refine w_slStr (by omega) ?_) | (with_reducible refine w_fAddS (by omega) ?_) | (with_reducible refine w_remPre (by omega) ?_) | (with_reducible refine w_fmtS (by omega) ?_) | (with_reducible refine w_fMul (mulR (by decide)) ?_) | (with_reducible refine w_fMul (mulL (by omega)) ?_) | (with_reducible refine w_fMul (mulR (by omega)) ?_) | (with_reducible refine w_fDiv (dv30 (by omega) (by omega)) ?_) | (with_reducible refine w_fMod (by omega) ?_) | ((with_reducible refine And.intro (a := List.length _ ≤ sizeLine) ?_ ?_); exact Nat.le_of_ble_eq_true rfl) | (with_reducible refine And.intro (a := List.length _ = _) rfl ?_) | (with_reducible refine w_fld ?_) | (with_reducible refine w_isT ?_) | (with_reducible refine w_isO ?_) | ((with_reducible refine Exists.intro ?_ (And.intro (a := fldD _ _ _ _ = _) ?_ ?_)); rotate_left; first | with_reducible exact fld_top | with_reducible exact fld_bot | exact rfl) | ((with_reducible refine Exists.intro ?_ (And.intro (a := isT _ _ _ = _) ?_ ?_)); rotate_left; exact rfl) | ((with_reducible refine Exists.intro ?_ (And.intro (a := isO _ _ _ = _) ?_ ?_)); rotate_left; exact rfl) | ((with_reducible refine Exists.intro ?_ (And.intro (a := D.int _ = D.int _) ?_ ?_)); rotate_left; exact rfl) | ((with_reducible refine w_kT' (k := T3.isInt _) ?_ ?_); exact rfl) | ((with_reducible refine w_kF' (k := T3.isInt _) ?_ ?_); exact rfl) | ((with_reducible refine w_kT' (k := T3.isBl _) ?_ ?_); exact rfl) | ((with_reducible refine w_kF' (k := T3.isBl _) ?_ ?_); exact rfl) | ((with_reducible refine w_kT' (k := T3.isStr _) ?_ ?_); exact rfl) | ((with_reducible refine w_kF' (k := T3.isStr _) ?_ ?_); exact rfl) | ((with_reducible refine w_kT' (k := T3.isTup _) ?_ ?_); exact rfl) | ((with_reducible refine w_kF' (k := T3.isTup _) ?_ ?_); exact rfl) | ((with_reducible refine w_kT' (k := T3.isLst _) ?_ ?_); exact rfl) | ((with_reducible refine w_kF' (k := T3.isLst _) ?_ ?_); exact rfl) | ((with_reducible refine And.intro (a := insD _ _ _ _) ?_ ?_); (first | exact ⟨rfl, rfl⟩)) | (with_reducible refine w_kF' (k := !true) rfl ?_) | (with_reducible refine w_kT' (k := !false) rfl ?_) | ((with_reducible refine w_kT' (k := decide _) ?_ ?_); decide +kernel) | ((with_reducible refine w_kF' (k := decide _) ?_ ?_); decide +kernel)))
theorem b_law_read : BodyOk ["text", "at", "top", "minus", "up", "down"] 1 sp_law_read m_law_read := by
  rintro ds O Z P hl ⟨z, rfl, hz, hq⟩
  have hS := big_line
  have hlen := len_cs z
  show m_law_read (En.mk _ _ _ _ _) [some (.str z), none, none, none, none, none] O
  unfold m_law_read
  walk_at "PJ02 V0"
  cases hc : cutAt (cs z) with
  | none =>
    rw [find_none hc]
    have hn : readL (cs z) = none := by unfold readL; rw [hc]
    rw [hn] at hq
    refine w_kT' (by decide) ?_
    walk_at "PJ02 V0"
    exact w_fz hq
  | some q =>
    obtain ⟨a, b⟩ := q
    obtain ⟨hzz, ha⟩ := cutAt_some hc
    have la : a.length + b.length + 1 = (cs z).length := by
      rw [hzz]
      simp only [List.length_append, List.length_cons]
      omega
    have ea : (cs z).take a.length = a := by rw [hzz]; simp
    have eb : (cs z).drop (a.length + 1) = b := by
      rw [hzz, show a ++ 47 :: b = (a ++ [47]) ++ b by simp]
      have : a.length + 1 = (a ++ [47]).length := by simp
      rw [this, List.drop_left]
    have cb : cutS z (some ((a.length : Int) + 1)) none = mk b := by
      have := cut_from z (a.length + 1)
      rw [eb] at this
      exact this
    have lma := len_mk a
    have lmb := len_mk b
    have lmt : (mk a.tail).length ≤ a.length := by rw [len_mk, List.length_tail]; omega
    rw [find_some hc]
    refine w_kF' (decide_eq_false (by omega)) ?_
    walk_at "PJ02 V0"
    rw [cut_to, ea]
    refine w_slStr (by omega) ?_
    refine w_c ?_
    refine w_fEqS ?_
    refine w_tgName ?_
    rw [minus_eq]
    refine w_seq ?_
    have hread : readL (cs z) = if (digs (if isMinus a then a.tail else a) && digs b) = true then (if valL b < 1 ∨ (isMinus a = true ∧ valL (if isMinus a then a.tail else a) = 0) ∨ Int.gcd (valL (if isMinus a then a.tail else a)) (valL b) ≠ 1 then none else some (if isMinus a then -valL (if isMinus a then a.tail else a) else valL (if isMinus a then a.tail else a), valL b)) else none := by
      unfold readL
      rw [hc]
    refine w_cut (fun Γ O' => Γ = [some (.str z), some (.int a.length), some (.str (mk (if isMinus a then a.tail else a))), some (.bl (isMinus a)), none, none] ∧ O' = O) ?_ ?_
    · rintro Γ O' ⟨rfl, rfl⟩
      obtain ⟨w, hw⟩ : ∃ w, w = if isMinus a then a.tail else a := ⟨_, rfl⟩
      rw [← hw] at hread ⊢
      have lw : (mk w).length ≤ a.length := by
        rw [hw]
        split
        · exact lmt
        · rw [lma]; exact Nat.le_refl _
      have lw2 := len_mk w
      have bad : (digs w && digs b) = false → orFz P .non O' := fun h => by
        rw [hread, h] at hq
        exact w_fz hq
      walk_at "PJ02 V0"
      refine ⟨mk w, rfl, by omega, ?_⟩
      rw [cs_mk]
      walk_at "PJ02 V0"
      refine w_k (fun h => ?_) fun h => ?_
      · have hd : digs w = false := by simpa using h
        walk_at "PJ02 V0"
        exact bad (by rw [hd]; rfl)
      · have hd : digs w = true := by simpa using h
        walk_at "PJ02 V0"
        rw [cb]
        refine ⟨mk b, rfl, by omega, ?_⟩
        rw [cs_mk]
        walk_at "PJ02 V0"
        refine w_k (fun h => ?_) fun h => ?_
        · have hd2 : digs b = false := by simpa using h
          walk_at "PJ02 V0"
          exact bad (by rw [hd2, Bool.and_false])
        · have hd2 : digs b = true := by simpa using h
          obtain ⟨w1, w6, _, wd⟩ := digs_ok hd
          obtain ⟨b1, b6, _, bd⟩ := digs_ok hd2
          have hw0 : 0 ≤ valL w := by unfold valL; omega
          have bw := val_bd w6 wd
          have bb := val_bd b6 bd
          have hdd : (digs w && digs b) = true := by rw [hd, hd2]; rfl
          rw [hread, if_pos hdd] at hq
          walk_at "PJ02 V0"
          refine w_fIntS (int_pos w1 w6 wd) (by omega) ?_
          walk_at "PJ02 V0"
          rw [cb]
          refine w_fIntS (int_pos b1 b6 bd) (by omega) ?_
          walk_at "PJ02 V0"
          have badn : (valL b < 1 ∨ (isMinus a = true ∧ valL w = 0) ∨ Int.gcd (valL w) (valL b) ≠ 1) → orFz P .non O' := fun h => by
            rw [if_pos h] at hq
            exact w_fz hq
          refine w_k (fun h => ?_) fun h => ?_
          · walk_at "PJ02 V0"
            exact badn (.inl (of_decide_eq_true h))
          · have g1 := of_decide_eq_false h
            have step2 : ∀ (hmz : ¬ (isMinus a = true ∧ valL w = 0)) (QB : Bool → Sto → Prop), QB (!decide ((lowP (valL w) (valL b)).1 = valL w ∧ (lowP (valL w) (valL b)).2 = valL b)) O' → QB (decide (Int.gcd (valL w) (valL b) ≠ 1)) O' := by
              intro _ QB h
              have e : (!decide ((lowP (valL w) (valL b)).1 = valL w ∧ (lowP (valL w) (valL b)).2 = valL b)) = decide (Int.gcd (valL w) (valL b) ≠ 1) := by
                rw [← decide_not]
                exact decide_eq_decide.mpr (not_congr (low_self (by omega)))
              rw [← e]
              exact h
            have elow : (!decide ((lowP (valL w) (valL b)).1 = valL w ∧ (lowP (valL w) (valL b)).2 = valL b)) = decide (Int.gcd (valL w) (valL b) ≠ 1) := by
              rw [← decide_not]
              exact decide_eq_decide.mpr (not_congr (low_self (by omega)))
            have fin : ∀ (hmz : ¬ (isMinus a = true ∧ valL w = 0)) (hg : Int.gcd (valL w) (valL b) = 1), P (pr (if isMinus a then -valL w else valL w, valL b)) O' := by
              intro hmz hg
              rw [if_neg] at hq
              · exact hq
              · rintro (q | q | q)
                · exact g1 q
                · exact hmz q
                · exact q hg
            have sz : Sz (valL w) (valL b) := Sz.of (by omega) bw bb (by decide) (by decide)
            walk_at "PJ02 V0"
            cases hm : isMinus a with
            | false =>
              have hmz : ¬ (isMinus a = true ∧ valL w = 0) := fun q => by rw [hm] at q; cases q.1
              rw [hm] at fin
              walk_at "PJ02 V0"
              refine ⟨_, _, rfl, sz, ?_⟩
              unfold pr
              walk_at "PJ02 V0"
              refine w_neTup ?_
              rw [elow]
              walk_at "PJ02 V0"
              refine w_k (fun h => ?_) fun h => ?_
              · walk_at "PJ02 V0"
                exact badn (.inr (.inr (of_decide_eq_true h)))
              · have hg : Int.gcd (valL w) (valL b) = 1 := Decidable.byContradiction fun q => (of_decide_eq_false h) q
                walk_at "PJ02 V0"
                exact w_fz (fin (by rw [hm] at hmz; exact hmz) hg)
            | true =>
              rw [hm] at fin
              walk_at "PJ02 V0"
              refine w_k (fun h => ?_) fun h => ?_
              · walk_at "PJ02 V0"
                exact badn (.inr (.inl ⟨hm, of_decide_eq_true h⟩))
              · have g0 := of_decide_eq_false h
                have hmz : ¬ (isMinus a = true ∧ valL w = 0) := fun q => g0 q.2
                walk_at "PJ02 V0"
                refine ⟨_, _, rfl, sz, ?_⟩
                unfold pr
                walk_at "PJ02 V0"
                refine w_neTup ?_
                rw [elow]
                walk_at "PJ02 V0"
                refine w_k (fun h => ?_) fun h => ?_
                · walk_at "PJ02 V0"
                  exact badn (.inr (.inr (of_decide_eq_true h)))
                · have hg : Int.gcd (valL w) (valL b) = 1 := Decidable.byContradiction fun q => (of_decide_eq_false h) q
                  walk_at "PJ02 V0"
                  exact w_fz (fin (by rw [hm] at hmz; exact hmz) hg)
    · intro nx' hJ
      cases hm : isMinus a with
      | true =>
        rw [hm] at hJ
        walk_at "PJ02 V0"
        rw [tail_eq]
        exact hJ _ _ ⟨rfl, rfl⟩
      | false =>
        rw [hm] at hJ
        walk_at "PJ02 V0"
        exact hJ _ _ ⟨rfl, rfl⟩
end K02

namespace K02
open PySem L2 L3
theorem isN_T {O : Sto} {Q : PV} (h : Q (.bl true) O) : fIsN false .non .non O Q := by
  simpa [fIsN] using h
theorem isN_F {O : Sto} {Q : PV} {xs : List D} (h : Q (.bl false) O) : fIsN false (.tup xs) .non O Q := by
  simpa [fIsN] using h
local macro_rules | `(tactic| walk_at "PK02 W0") => `(tactic| (repeat' first | with_reducible refine w_seq ?_ | with_reducible refine w_sui ?_ | with_reducible refine w_next ?_ | with_reducible refine w_brk ?_ | with_reducible refine w_cont ?_ | with_reducible refine w_ret ?_ | with_reducible refine w_retN ?_ | with_reducible refine w_drop ?_ | with_reducible refine w_if ?_ | with_reducible refine w_asg ?_ | with_reducible refine w_par ?_ | with_reducible refine w_setA ?_ | with_reducible refine w_raise ?_ | with_reducible refine w_for ?_ | with_reducible refine w_forR1 ?_ | with_reducible refine w_forLst ?_ | with_reducible refine w_tgName ?_ | with_reducible refine w_tgIx ?_ | with_reducible refine w_tgCons ?_ | with_reducible refine w_tgNil ?_ | with_reducible refine w_un ?_ | with_reducible refine w_op ?_ | with_reducible refine w_B ?_ | with_reducible refine w_tru ?_ | with_reducible refine w_and ?_ | with_reducible refine w_or ?_ | with_reducible refine w_not ?_ | with_reducible refine w_andV ?_ | with_reducible refine w_orV ?_ | with_reducible refine w_notV ?_ | with_reducible refine w_ifE ?_ | with_reducible refine w_nil ?_ | with_reducible refine w_cons ?_ | with_reducible refine w_tup ?_ | with_reducible refine w_lst ?_ | with_reducible refine w_cb ?_ | with_reducible refine w_call ?_ | with_reducible refine w_slice ?_ | with_reducible refine w_oNone ?_ | with_reducible refine w_onBl ?_ | with_reducible refine w_onTruB ?_ | with_reducible refine w_kT ?_ | with_reducible refine w_kF ?_ | with_reducible refine w_fAdd ?_ | with_reducible refine w_fSub ?_ | with_reducible refine w_fNeg ?_ | with_reducible refine w_fLt ?_ | with_reducible refine w_fLe ?_ | with_reducible refine w_fGt ?_ | with_reducible refine w_fGe ?_ | with_reducible refine w_fEqI ?_ | with_reducible refine w_fNeI ?_ | with_reducible refine w_fEqB ?_ | with_reducible refine w_fEqS ?_ | with_reducible refine w_fInt ?_ | with_reducible refine w_fIntB ?_ | with_reducible refine w_fAbs ?_ | with_reducible refine w_fMax ?_ | with_reducible refine w_fMin ?_ | with_reducible refine w_fGcd ?_ | with_reducible refine w_fLenL ?_ | with_reducible refine w_fLenT ?_ | with_reducible refine w_own ?_ | with_reducible refine w_ownI ?_ | with_reducible refine w_eqOwnI ?_ | with_reducible refine w_c ?_ | with_reducible refine w_make ?_ | with_reducible refine w_makeK ?_ | with_reducible refine w_par2 ?_ | with_reducible refine w_slLst ?_ | with_reducible refine w_p10_6 ?_ | with_reducible refine w_p10_8 ?_ | with_reducible refine w_p10_18 ?_ | with_reducible refine w_p10_30 ?_ | with_reducible refine w_p10_51 ?_ | with_reducible refine w_p10_59 ?_ | with_reducible refine w_p10_60 ?_ | with_reducible refine w_p2_63 ?_ | with_reducible refine w_p2_64 ?_ | with_reducible refine w_comp ?_ | with_reducible refine w_meth ?_ | with_reducible refine w_app ?_ | with_reducible refine w_tupOf ?_ | with_reducible refine w_tupL ?_ | with_reducible refine w_tupT ?_ | with_reducible refine w_forTup ?_ | with_reducible refine w_sm ?_ | with_reducible refine w_sm0 ?_ | with_reducible refine w_isStr ?_ | with_reducible refine w_find ?_ | with_reducible refine w_starts ?_ | with_reducible refine w_isascii ?_ | with_reducible refine w_isdigit ?_ | with_reducible refine w_str1S ?_ | with_reducible refine w_strO ?_ | with_reducible refine w_fmt ?_ | with_reducible refine w_join ?_ | with_reducible refine w_jsNil ?_ | with_reducible refine w_jsCons ?_ | with_reducible refine w_inS ?_ | with_reducible refine w_notInS ?_ | with_reducible refine w_statI ?_ | with_reducible refine w_fNeS ?_ | with_reducible refine w_ownS ?_ | ((with_reducible apply w_var); exact rfl) | ((with_reducible apply w_isE); exact rfl) | ((with_reducible apply w_onTru); exact rfl) | ((with_reducible apply w_tgTup); exact rfl) | ((with_reducible refine w_fPow ?_ ?_); exact ⟨by decide, by decide, by decide⟩) | (with_reducible refine w_fMod (by decide) ?_) | ((with_reducible apply w_fIxT); exact rfl) | ((with_reducible apply w_fIxL); exact rfl) | (with_reducible refine w_oSome ?_) | ((with_reducible apply w_fIxC); (first | with_reducible exact put_same | assumption); exact rfl) | ((with_reducible apply w_fLenC); (first | with_reducible exact put_same | assumption)) | ((with_reducible apply w_setL); (first | with_reducible exact put_same | assumption); exact rfl) | ((with_reducible refine And.intro (a := List.length _ ≤ sizeLine) ?_ ?_); exact Nat.le_of_ble_eq_true rfl) | (with_reducible refine And.intro (a := List.length _ = _) rfl ?_) | (with_reducible refine w_fld ?_) | (with_reducible refine w_isT ?_) | (with_reducible refine w_isO ?_) | ((with_reducible refine Exists.intro ?_ (And.intro (a := fldD _ _ _ _ = _) ?_ ?_)); rotate_left; first | with_reducible exact fld_top | with_reducible exact fld_bot | exact rfl) | ((with_reducible refine Exists.intro ?_ (And.intro (a := isT _ _ _ = _) ?_ ?_)); rotate_left; exact rfl) | ((with_reducible refine Exists.intro ?_ (And.intro (a := isO _ _ _ = _) ?_ ?_)); rotate_left; exact rfl) | ((with_reducible refine Exists.intro ?_ (And.intro (a := D.int _ = D.int _) ?_ ?_)); rotate_left; exact rfl) | ((with_reducible refine w_kT' (k := T3.isInt _) ?_ ?_); exact rfl) | ((with_reducible refine w_kF' (k := T3.isInt _) ?_ ?_); exact rfl) | ((with_reducible refine w_kT' (k := T3.isBl _) ?_ ?_); exact rfl) | ((with_reducible refine w_kF' (k := T3.isBl _) ?_ ?_); exact rfl) | ((with_reducible refine w_kT' (k := T3.isStr _) ?_ ?_); exact rfl) | ((with_reducible refine w_kF' (k := T3.isStr _) ?_ ?_); exact rfl) | ((with_reducible refine w_kT' (k := T3.isTup _) ?_ ?_); exact rfl) | ((with_reducible refine w_kF' (k := T3.isTup _) ?_ ?_); exact rfl) | ((with_reducible refine w_kT' (k := T3.isLst _) ?_ ?_); exact rfl) | ((with_reducible refine w_kF' (k := T3.isLst _) ?_ ?_); exact rfl) | ((with_reducible refine And.intro (a := insD _ _ _ _) ?_ ?_); (first | exact ⟨rfl, rfl⟩)) | (with_reducible refine w_kF' (k := !true) rfl ?_) | (with_reducible refine w_kT' (k := !false) rfl ?_) | ((with_reducible refine w_kT' (k := decide _) ?_ ?_); decide +kernel) | ((with_reducible refine w_kF' (k := decide _) ?_ ?_); decide +kernel)))
theorem b_law_refused : BodyOk ["text", "good", "e"] 1 sp_law_refused m_law_refused := by
  rintro ds O Z P hl ⟨z, rfl, hz, hn, hq⟩
  show m_law_refused (En.mk _ _ _ _ _) [some (.str z), none, none] O
  unfold m_law_refused
  walk_at "PK02 W0"
  refine w_try ?_
  walk_at "PK02 W0"
  refine ⟨z, rfl, hz, .inl ⟨hn, fun O' => ⟨by decide, fun a => ?_⟩⟩⟩
  show sui [] (some _) (En.mk _ _ _ _ _) _ _
  walk_at "PK02 W0"
  exact w_fz (hq _)
theorem cut_len {l a b : List Nat} (h : cutAt l = some (a, b)) : a.length + b.length + 1 = l.length := by
  obtain ⟨h1, _⟩ := cutAt_some h
  rw [h1]
  simp only [List.length_append, List.length_cons]
  omega
/-- what a text that is read says -/
theorem read_some {z : Str} {t b : Int} (h : readL (cs z) = some (t, b)) : Bd 200 t ∧ Bd 200 b ∧ 0 < b ∧ Int.gcd t b = 1 ∧ shTxt t b = z := by
  cases hc : cutAt (cs z) with
  | none => unfold readL at h; rw [hc] at h; cases h
  | some q =>
    obtain ⟨x, y⟩ := q
    obtain ⟨w, hw⟩ : ∃ w, w = if isMinus x then x.tail else x := ⟨_, rfl⟩
    have hread : readL (cs z) = if (digs w && digs y) = true then (if valL y < 1 ∨ (isMinus x = true ∧ valL w = 0) ∨ Int.gcd (valL w) (valL y) ≠ 1 then none else some (if isMinus x then -valL w else valL w, valL y)) else none := by
      unfold readL
      rw [hc, hw]
    have h0 := h
    rw [hread] at h
    split at h
    · rename_i hd
      obtain ⟨d1, d2⟩ := Bool.and_eq_true_iff.mp hd
      obtain ⟨w1, w6, _, wd⟩ := digs_ok d1
      obtain ⟨b1, b6, _, bd⟩ := digs_ok d2
      split at h
      · cases h
      · rename_i hn
        obtain ⟨e1, e2⟩ := Prod.mk.inj (Option.some.inj h)
        have hm : 1 ≤ valL y := by
          have : ¬ valL y < 1 := fun q => hn (.inl q)
          omega
        have bt : Bd 200 t := by
          rw [← e1]
          split
          · exact (val_bd w6 wd).neg
          · exact val_bd w6 wd
        obtain ⟨r1, r2⟩ := read_iff hc hw w1 w6 wd b1 b6 bd hm e1.symm
        by_cases he : shTxt (lowP t (valL y)).1 (lowP t (valL y)).2 = z
        · have g := (r1 he).2
          rw [e2] at g he hm
          obtain ⟨l1, l2⟩ := (low_self (x := t) (y := b) (by omega)).mpr g
          rw [l1, l2] at he
          exact ⟨bt, by rw [← e2]; exact val_bd b6 bd, by omega, g, he⟩
        · rw [r2 he] at h0
          cases h0
    · cases h
theorem b_law_text_holds : BodyOk ["text", "due", "told"] 1 sp_law_text_holds m_law_text_holds := by
  rintro ds O Z P hl ⟨z, rfl, hz, hq⟩
  show m_law_text_holds (En.mk _ _ _ _ _) [some (.str z), none, none] O
  unfold m_law_text_holds
  walk_at "PK02 W0"
  refine ⟨z, rfl, hz, ?_⟩
  cases hr : readL (cs z) with
  | none =>
    show tgName 1 _ D.non _ _ _
    walk_at "PK02 W0"
    refine isN_T ?_
    walk_at "PK02 W0"
    exact ⟨z, rfl, hz, hr, fun O' => w_fz (hq O')⟩
  | some q =>
    obtain ⟨t, b⟩ := q
    obtain ⟨s1, s2, s3, s4, s5⟩ := read_some hr
    obtain ⟨k1, k2⟩ := (low_self (x := t) (y := b) s3).mpr s4
    show tgName 1 _ (pr (t, b)) _ _ _
    unfold pr
    walk_at "PK02 W0"
    refine isN_F ?_
    walk_at "PK02 W0"
    refine ⟨z, rfl, hz, .inr ⟨t, b, hr, ?_⟩⟩
    walk_at "PK02 W0"
    refine ⟨t, b, t, b, rfl, s3, s3, s4, rfl, ?_⟩
    walk_at "PK02 W0"
    refine w_strO ?_
    refine ⟨t, b, rfl, s3, s1.mono (by decide), s2.mono (by decide), trivial, ?_⟩
    rw [k1, k2, s5]
    walk_at "PK02 W0"
    have e : decide (z = z) = true := by simp
    rw [e]
    exact w_fz (hq _)
end K02

namespace K02
open PySem L2 L3
theorem atI_ex {α : Type} {l : List α} {i : Int} (h0 : 0 ≤ i) (h1 : i < l.length) : ∃ x, x ∈ l ∧ atI l i = some x := by
  obtain ⟨n, rfl⟩ : ∃ n : Nat, i = n := ⟨i.toNat, by omega⟩
  have h : n < l.length := by omega
  refine ⟨l[n], List.getElem_mem h, ?_⟩
  unfold atI
  have e : ixN l.length (n : Int) = some n := by
    unfold ixN
    rw [if_pos (by omega), if_pos (by omega)]
    simp
  rw [e]
  simp [h]
/-- a sign of a text at a drawn place -/
theorem w_ixS {z : Str} {x : Int} {O : Sto} {Q : PV} (h1 : z.length ≤ sizeLine) (h0 : 0 ≤ x) (h2 : x < z.length) (h : ∀ c, Q (.str ⟨#[c]⟩) O) : fIx (.str z) (.int x) O Q := by
  obtain ⟨c, _, hc⟩ := atI_ex (l := z.cps.toList) h0 (by rw [show z.cps.toList.length = z.length from (len_cs z).symm]; exact h2)
  exact w_fIxS h1 hc (h c)
theorem one_len (c : Nat) : (⟨#[c]⟩ : Str).length = 1 := rfl
local macro_rules | `(tactic| walk_at "PL02 W0") => `(tactic| (repeat' first | with_reducible refine w_seq ?_ | with_reducible refine w_sui ?_ | with_reducible refine w_next ?_ | with_reducible refine w_brk ?_ | with_reducible refine w_cont ?_ | with_reducible refine w_ret ?_ | with_reducible refine w_retN ?_ | with_reducible refine w_drop ?_ | with_reducible refine w_if ?_ | with_reducible refine w_asg ?_ | with_reducible refine w_par ?_ | with_reducible refine w_setA ?_ | with_reducible refine w_raise ?_ | with_reducible refine w_for ?_ | with_reducible refine w_forR1 ?_ | with_reducible refine w_forLst ?_ | with_reducible refine w_tgName ?_ | with_reducible refine w_tgIx ?_ | with_reducible refine w_tgCons ?_ | with_reducible refine w_tgNil ?_ | with_reducible refine w_un ?_ | with_reducible refine w_op ?_ | with_reducible refine w_B ?_ | with_reducible refine w_tru ?_ | with_reducible refine w_and ?_ | with_reducible refine w_or ?_ | with_reducible refine w_not ?_ | with_reducible refine w_andV ?_ | with_reducible refine w_orV ?_ | with_reducible refine w_notV ?_ | with_reducible refine w_ifE ?_ | with_reducible refine w_nil ?_ | with_reducible refine w_cons ?_ | with_reducible refine w_tup ?_ | with_reducible refine w_lst ?_ | with_reducible refine w_cb ?_ | with_reducible refine w_call ?_ | with_reducible refine w_slice ?_ | with_reducible refine w_oNone ?_ | with_reducible refine w_onBl ?_ | with_reducible refine w_onTruB ?_ | with_reducible refine w_kT ?_ | with_reducible refine w_kF ?_ | with_reducible refine w_fAdd ?_ | with_reducible refine w_fSub ?_ | with_reducible refine w_fNeg ?_ | with_reducible refine w_fLt ?_ | with_reducible refine w_fLe ?_ | with_reducible refine w_fGt ?_ | with_reducible refine w_fGe ?_ | with_reducible refine w_fEqI ?_ | with_reducible refine w_fNeI ?_ | with_reducible refine w_fEqB ?_ | with_reducible refine w_fEqS ?_ | with_reducible refine w_fInt ?_ | with_reducible refine w_fIntB ?_ | with_reducible refine w_fAbs ?_ | with_reducible refine w_fMax ?_ | with_reducible refine w_fMin ?_ | with_reducible refine w_fGcd ?_ | with_reducible refine w_fLenL ?_ | with_reducible refine w_fLenT ?_ | with_reducible refine w_own ?_ | with_reducible refine w_ownI ?_ | with_reducible refine w_eqOwnI ?_ | with_reducible refine w_c ?_ | with_reducible refine w_make ?_ | with_reducible refine w_makeK ?_ | with_reducible refine w_par2 ?_ | with_reducible refine w_slLst ?_ | with_reducible refine w_p10_6 ?_ | with_reducible refine w_p10_8 ?_ | with_reducible refine w_p10_18 ?_ | with_reducible refine w_p10_30 ?_ | with_reducible refine w_p10_51 ?_ | with_reducible refine w_p10_59 ?_ | with_reducible refine w_p10_60 ?_ | with_reducible refine w_p2_63 ?_ | with_reducible refine w_p2_64 ?_ | with_reducible refine w_comp ?_ | with_reducible refine w_meth ?_ | with_reducible refine w_app ?_ | with_reducible refine w_tupOf ?_ | with_reducible refine w_tupL ?_ | with_reducible refine w_tupT ?_ | with_reducible refine w_forTup ?_ | with_reducible refine w_sm ?_ | with_reducible refine w_sm0 ?_ | with_reducible refine w_isStr ?_ | with_reducible refine w_find ?_ | with_reducible refine w_starts ?_ | with_reducible refine w_isascii ?_ | with_reducible refine w_isdigit ?_ | with_reducible refine w_str1S ?_ | with_reducible refine w_strO ?_ | with_reducible refine w_fmt ?_ | with_reducible refine w_join ?_ | with_reducible refine w_jsNil ?_ | with_reducible refine w_jsCons ?_ | with_reducible refine w_inS ?_ | with_reducible refine w_notInS ?_ | with_reducible refine w_statI ?_ | with_reducible refine w_fNeS ?_ | with_reducible refine w_ownS ?_ | ((with_reducible apply w_var); exact rfl) | ((with_reducible apply w_isE); exact rfl) | ((with_reducible apply w_onTru); exact rfl) | ((with_reducible apply w_tgTup); exact rfl) | ((with_reducible refine w_fPow ?_ ?_); exact ⟨by decide, by decide, by decide⟩) | (with_reducible refine w_fMod (by decide) ?_) | ((with_reducible apply w_fIxT); exact rfl) | ((with_reducible apply w_fIxL); exact rfl) | (with_reducible refine w_oSome ?_) | ((with_reducible apply w_fIxC); (first | with_reducible exact put_same | assumption); exact rfl) | ((with_reducible apply w_fLenC); (first | with_reducible exact put_same | assumption)) | ((with_reducible apply w_setL); (first | with_reducible exact put_same | assumption); exact rfl) | ((with_reducible refine And.intro (a := List.length _ ≤ sizeLine) ?_ ?_); exact Nat.le_of_ble_eq_true rfl) | (with_reducible refine And.intro (a := List.length _ = _) rfl ?_) | (with_reducible refine w_fld ?_) | (with_reducible refine w_isT ?_) | (with_reducible refine w_isO ?_) | ((with_reducible refine Exists.intro ?_ (And.intro (a := fldD _ _ _ _ = _) ?_ ?_)); rotate_left; first | with_reducible exact fld_top | with_reducible exact fld_bot | exact rfl) | ((with_reducible refine Exists.intro ?_ (And.intro (a := isT _ _ _ = _) ?_ ?_)); rotate_left; exact rfl) | ((with_reducible refine Exists.intro ?_ (And.intro (a := isO _ _ _ = _) ?_ ?_)); rotate_left; exact rfl) | ((with_reducible refine Exists.intro ?_ (And.intro (a := D.int _ = D.int _) ?_ ?_)); rotate_left; exact rfl) | ((with_reducible refine w_kT' (k := T3.isInt _) ?_ ?_); exact rfl) | ((with_reducible refine w_kF' (k := T3.isInt _) ?_ ?_); exact rfl) | ((with_reducible refine w_kT' (k := T3.isBl _) ?_ ?_); exact rfl) | ((with_reducible refine w_kF' (k := T3.isBl _) ?_ ?_); exact rfl) | ((with_reducible refine w_kT' (k := T3.isStr _) ?_ ?_); exact rfl) | ((with_reducible refine w_kF' (k := T3.isStr _) ?_ ?_); exact rfl) | ((with_reducible refine w_kT' (k := T3.isTup _) ?_ ?_); exact rfl) | ((with_reducible refine w_kF' (k := T3.isTup _) ?_ ?_); exact rfl) | ((with_reducible refine w_kT' (k := T3.isLst _) ?_ ?_); exact rfl) | ((with_reducible refine w_kF' (k := T3.isLst _) ?_ ?_); exact rfl) | ((with_reducible refine And.intro (a := insD _ _ _ _) ?_ ?_); (first | exact ⟨rfl, rfl⟩)) | (with_reducible refine w_kF' (k := !true) rfl ?_) | (with_reducible refine w_kT' (k := !false) rfl ?_) | ((with_reducible refine w_kT' (k := decide _) ?_ ?_); decide +kernel) | ((with_reducible refine w_kF' (k := decide _) ?_ ?_); decide +kernel)))
local macro_rules | `(tactic| walk_at "PL02 U1") => `(tactic| (repeat' first | with_reducible refine w_seq ?_ | with_reducible refine w_sui ?_ | with_reducible refine w_next ?_ | with_reducible refine w_brk ?_ | with_reducible refine w_cont ?_ | with_reducible refine w_ret ?_ | with_reducible refine w_retN ?_ | with_reducible refine w_drop ?_ | with_reducible refine w_if ?_ | with_reducible refine w_asg ?_ | with_reducible refine w_par ?_ | with_reducible refine w_setA ?_ | with_reducible refine w_raise ?_ | with_reducible refine w_for ?_ | with_reducible refine w_forR1 ?_ | with_reducible refine w_forLst ?_ | with_reducible refine w_tgName ?_ | with_reducible refine w_tgIx ?_ | with_reducible refine w_tgCons ?_ | with_reducible refine w_tgNil ?_ | with_reducible refine w_un ?_ | with_reducible refine w_op ?_ | with_reducible refine w_B ?_ | with_reducible refine w_tru ?_ | with_reducible refine w_and ?_ | with_reducible refine w_or ?_ | with_reducible refine w_not ?_ | with_reducible refine w_andV ?_ | with_reducible refine w_orV ?_ | with_reducible refine w_notV ?_ | with_reducible refine w_ifE ?_ | with_reducible refine w_nil ?_ | with_reducible refine w_cons ?_ | with_reducible refine w_tup ?_ | with_reducible refine w_lst ?_ | with_reducible refine w_cb ?_ | with_reducible refine w_call ?_ | with_reducible refine w_slice ?_ | with_reducible refine w_oNone ?_ | with_reducible refine w_onBl ?_ | with_reducible refine w_onTruB ?_ | with_reducible refine w_kT ?_ | with_reducible refine w_kF ?_ | with_reducible refine w_fAdd ?_ | with_reducible refine w_fSub ?_ | with_reducible refine w_fNeg ?_ | with_reducible refine w_fLt ?_ | with_reducible refine w_fLe ?_ | with_reducible refine w_fGt ?_ | with_reducible refine w_fGe ?_ | with_reducible refine w_fEqI ?_ | with_reducible refine w_fNeI ?_ | with_reducible refine w_fEqB ?_ | with_reducible refine w_fEqS ?_ | with_reducible refine w_fInt ?_ | with_reducible refine w_fIntB ?_ | with_reducible refine w_fAbs ?_ | with_reducible refine w_fMax ?_ | with_reducible refine w_fMin ?_ | with_reducible refine w_fGcd ?_ | with_reducible refine w_fLenL ?_ | with_reducible refine w_fLenT ?_ | with_reducible refine w_own ?_ | with_reducible refine w_ownI ?_ | with_reducible refine w_eqOwnI ?_ | with_reducible refine w_c ?_ | with_reducible refine w_make ?_ | with_reducible refine w_makeK ?_ | with_reducible refine w_par2 ?_ | with_reducible refine w_slLst ?_ | with_reducible refine w_p10_6 ?_ | with_reducible refine w_p10_8 ?_ | with_reducible refine w_p10_18 ?_ | with_reducible refine w_p10_30 ?_ | with_reducible refine w_p10_51 ?_ | with_reducible refine w_p10_59 ?_ | with_reducible refine w_p10_60 ?_ | with_reducible refine w_p2_63 ?_ | with_reducible refine w_p2_64 ?_ | with_reducible refine w_comp ?_ | with_reducible refine w_meth ?_ | with_reducible refine w_app ?_ | with_reducible refine w_tupOf ?_ | with_reducible refine w_tupL ?_ | with_reducible refine w_tupT ?_ | with_reducible refine w_forTup ?_ | with_reducible refine w_sm ?_ | with_reducible refine w_sm0 ?_ | with_reducible refine w_isStr ?_ | with_reducible refine w_find ?_ | with_reducible refine w_starts ?_ | with_reducible refine w_isascii ?_ | with_reducible refine w_isdigit ?_ | with_reducible refine w_str1S ?_ | with_reducible refine w_strO ?_ | with_reducible refine w_fmt ?_ | with_reducible refine w_join ?_ | with_reducible refine w_jsNil ?_ | with_reducible refine w_jsCons ?_ | with_reducible refine w_inS ?_ | with_reducible refine w_notInS ?_ | with_reducible refine w_statI ?_ | with_reducible refine w_fNeS ?_ | with_reducible refine w_ownS ?_ | ((with_reducible apply w_var); exact rfl) | ((with_reducible apply w_isE); exact rfl) | ((with_reducible apply w_onTru); exact rfl) | ((with_reducible apply w_tgTup); exact rfl) | ((with_reducible refine w_fPow ?_ ?_); exact ⟨by decide, by decide, by decide⟩) | (with_reducible refine w_fMod (by decide) ?_) | ((with_reducible apply w_fIxT); exact rfl) | ((with_reducible apply w_fIxL); exact rfl) | (with_reducible refine w_oSome ?_) | ((with_reducible apply w_fIxC); (first | with_reducible exact put_same | assumption); exact rfl) | ((with_reducible apply w_fLenC); (first | with_reducible exact put_same | assumption)) | ((with_reducible apply w_setL); (first | with_reducible exact put_same | assumption); exact rfl) | (with_reducible refine w_fLenS (by omega) ?_) | (with_reducible refine w_slStr (by omega) ?_) | (with_reducible refine w_fAddS (by omega) ?_) | (with_reducible refine w_remPre (by omega) ?_) | (with_reducible refine w_fmtS (by omega) ?_) | (with_reducible refine w_fMul (mulR (by decide)) ?_) | (with_reducible refine w_fMul (mulL (by omega)) ?_) | (with_reducible refine w_fMul (mulR (by omega)) ?_) | (with_reducible refine w_fDiv (dv30 (by omega) (by omega)) ?_) | (with_reducible refine w_fMod (by omega) ?_) | (with_reducible refine w_k (fun _ => ?_) fun _ => ?_) | ((with_reducible refine And.intro (a := List.length _ ≤ sizeLine) ?_ ?_); exact Nat.le_of_ble_eq_true rfl) | (with_reducible refine And.intro (a := List.length _ = _) rfl ?_) | (with_reducible refine w_fld ?_) | (with_reducible refine w_isT ?_) | (with_reducible refine w_isO ?_) | ((with_reducible refine Exists.intro ?_ (And.intro (a := fldD _ _ _ _ = _) ?_ ?_)); rotate_left; first | with_reducible exact fld_top | with_reducible exact fld_bot | exact rfl) | ((with_reducible refine Exists.intro ?_ (And.intro (a := isT _ _ _ = _) ?_ ?_)); rotate_left; exact rfl) | ((with_reducible refine Exists.intro ?_ (And.intro (a := isO _ _ _ = _) ?_ ?_)); rotate_left; exact rfl) | ((with_reducible refine Exists.intro ?_ (And.intro (a := D.int _ = D.int _) ?_ ?_)); rotate_left; exact rfl) | ((with_reducible refine w_kT' (k := T3.isInt _) ?_ ?_); exact rfl) | ((with_reducible refine w_kF' (k := T3.isInt _) ?_ ?_); exact rfl) | ((with_reducible refine w_kT' (k := T3.isBl _) ?_ ?_); exact rfl) | ((with_reducible refine w_kF' (k := T3.isBl _) ?_ ?_); exact rfl) | ((with_reducible refine w_kT' (k := T3.isStr _) ?_ ?_); exact rfl) | ((with_reducible refine w_kF' (k := T3.isStr _) ?_ ?_); exact rfl) | ((with_reducible refine w_kT' (k := T3.isTup _) ?_ ?_); exact rfl) | ((with_reducible refine w_kF' (k := T3.isTup _) ?_ ?_); exact rfl) | ((with_reducible refine w_kT' (k := T3.isLst _) ?_ ?_); exact rfl) | ((with_reducible refine w_kF' (k := T3.isLst _) ?_ ?_); exact rfl) | ((with_reducible refine And.intro (a := insD _ _ _ _) ?_ ?_); (first | exact ⟨rfl, rfl⟩)) | (with_reducible refine w_kF' (k := !true) rfl ?_) | (with_reducible refine w_kT' (k := !false) rfl ?_) | ((with_reducible refine w_kT' (k := decide _) ?_ ?_); decide +kernel) | ((with_reducible refine w_kF' (k := decide _) ?_ ?_); decide +kernel)))
theorem b_law_sign : BodyOk ["pool", "signs"] 1 sp_law_sign m_law_sign := by
  rintro ds O Z P hl ⟨p, rfl, hp, hq⟩
  have hS := big_line
  show m_law_sign (En.mk _ _ _ _ _) [some (.cell p), none] O
  unfold m_law_sign
  walk_at "PL02 W0"
  refine ⟨p, 3, rfl, hp, by decide, by decide, fun r O1 r0 r1 u1 => ?_⟩
  walk_at "PL02 U1"
  · refine ⟨p, 16, rfl, u1.pool, by decide, by decide, fun r O2 r0 r1 u2 => ?_⟩
    refine w_ixS (by decide +kernel) r0 (by rw [show ("0123456789/-+ _." : Str).length = 16 by decide +kernel]; exact r1) fun c => ?_
    exact w_fz (hq _ _ (u1.trans u2))
  · refine w_fAddS (by decide +kernel) ?_
    walk_at "PL02 W0"
    refine ⟨p, 96, rfl, u1.pool, by decide, by decide, fun r O2 r0 r1 u2 => ?_⟩
    refine w_ixS (by decide +kernel) r0 ?_ fun c => w_fz (hq _ _ (u1.trans u2))
    rw [show ((" !\"#$&'()*+,-./0123456789:;<=>?@ABCDEFGHIJKLMNOPQRSTUVWXYZ[\\]^_`" : Str) ++ ("abcdefghijklmnopqrstuvwxyz{|}~\n\t" : Str)).length = 96 by decide +kernel]
    exact r1
theorem cut_len1 (z : Str) (a b : Option Int) : (cutS z a b).length ≤ z.length := L2.cutS_length z a b
local macro_rules | `(tactic| walk_at "PL02 V2") => `(tactic| (repeat' first | with_reducible refine w_seq ?_ | with_reducible refine w_sui ?_ | with_reducible refine w_next ?_ | with_reducible refine w_brk ?_ | with_reducible refine w_cont ?_ | with_reducible refine w_ret ?_ | with_reducible refine w_retN ?_ | with_reducible refine w_drop ?_ | with_reducible refine w_if ?_ | with_reducible refine w_asg ?_ | with_reducible refine w_par ?_ | with_reducible refine w_setA ?_ | with_reducible refine w_raise ?_ | with_reducible refine w_for ?_ | with_reducible refine w_forR1 ?_ | with_reducible refine w_forLst ?_ | with_reducible refine w_tgName ?_ | with_reducible refine w_tgIx ?_ | with_reducible refine w_tgCons ?_ | with_reducible refine w_tgNil ?_ | with_reducible refine w_un ?_ | with_reducible refine w_op ?_ | with_reducible refine w_B ?_ | with_reducible refine w_tru ?_ | with_reducible refine w_and ?_ | with_reducible refine w_or ?_ | with_reducible refine w_not ?_ | with_reducible refine w_andV ?_ | with_reducible refine w_orV ?_ | with_reducible refine w_notV ?_ | with_reducible refine w_ifE ?_ | with_reducible refine w_nil ?_ | with_reducible refine w_cons ?_ | with_reducible refine w_tup ?_ | with_reducible refine w_lst ?_ | with_reducible refine w_cb ?_ | with_reducible refine w_call ?_ | with_reducible refine w_slice ?_ | with_reducible refine w_oNone ?_ | with_reducible refine w_onBl ?_ | with_reducible refine w_onTruB ?_ | with_reducible refine w_kT ?_ | with_reducible refine w_kF ?_ | with_reducible refine w_fAdd ?_ | with_reducible refine w_fSub ?_ | with_reducible refine w_fNeg ?_ | with_reducible refine w_fLt ?_ | with_reducible refine w_fLe ?_ | with_reducible refine w_fGt ?_ | with_reducible refine w_fGe ?_ | with_reducible refine w_fEqI ?_ | with_reducible refine w_fNeI ?_ | with_reducible refine w_fEqB ?_ | with_reducible refine w_fEqS ?_ | with_reducible refine w_fInt ?_ | with_reducible refine w_fIntB ?_ | with_reducible refine w_fAbs ?_ | with_reducible refine w_fMax ?_ | with_reducible refine w_fMin ?_ | with_reducible refine w_fGcd ?_ | with_reducible refine w_fLenL ?_ | with_reducible refine w_fLenT ?_ | with_reducible refine w_own ?_ | with_reducible refine w_ownI ?_ | with_reducible refine w_eqOwnI ?_ | with_reducible refine w_c ?_ | with_reducible refine w_make ?_ | with_reducible refine w_makeK ?_ | with_reducible refine w_par2 ?_ | with_reducible refine w_slLst ?_ | with_reducible refine w_p10_6 ?_ | with_reducible refine w_p10_8 ?_ | with_reducible refine w_p10_18 ?_ | with_reducible refine w_p10_30 ?_ | with_reducible refine w_p10_51 ?_ | with_reducible refine w_p10_59 ?_ | with_reducible refine w_p10_60 ?_ | with_reducible refine w_p2_63 ?_ | with_reducible refine w_p2_64 ?_ | with_reducible refine w_comp ?_ | with_reducible refine w_meth ?_ | with_reducible refine w_app ?_ | with_reducible refine w_tupOf ?_ | with_reducible refine w_tupL ?_ | with_reducible refine w_tupT ?_ | with_reducible refine w_forTup ?_ | with_reducible refine w_sm ?_ | with_reducible refine w_sm0 ?_ | with_reducible refine w_isStr ?_ | with_reducible refine w_find ?_ | with_reducible refine w_starts ?_ | with_reducible refine w_isascii ?_ | with_reducible refine w_isdigit ?_ | with_reducible refine w_str1S ?_ | with_reducible refine w_strO ?_ | with_reducible refine w_fmt ?_ | with_reducible refine w_join ?_ | with_reducible refine w_jsNil ?_ | with_reducible refine w_jsCons ?_ | with_reducible refine w_inS ?_ | with_reducible refine w_notInS ?_ | with_reducible refine w_statI ?_ | with_reducible refine w_fNeS ?_ | with_reducible refine w_ownS ?_ | ((with_reducible apply w_var); exact rfl) | ((with_reducible apply w_isE); exact rfl) | ((with_reducible apply w_onTru); exact rfl) | ((with_reducible apply w_tgTup); exact rfl) | ((with_reducible refine w_fPow ?_ ?_); exact ⟨by decide, by decide, by decide⟩) | (with_reducible refine w_fMod (by decide) ?_) | ((with_reducible apply w_fIxT); exact rfl) | ((with_reducible apply w_fIxL); exact rfl) | (with_reducible refine w_oSome ?_) | ((with_reducible apply w_fIxC); (first | with_reducible exact put_same | assumption); exact rfl) | ((with_reducible apply w_fLenC); (first | with_reducible exact put_same | assumption)) | ((with_reducible apply w_setL); (first | with_reducible exact put_same | assumption); exact rfl) | (with_reducible refine w_fLenS (by omega) ?_) | (with_reducible refine w_slStr (by omega) ?_) | (with_reducible refine w_fAddS (by omega) ?_) | (with_reducible refine w_remPre (by omega) ?_) | (with_reducible refine w_fmtS (by omega) ?_) | (with_reducible refine w_fMul (mulR (by decide)) ?_) | (with_reducible refine w_fMul (mulL (by omega)) ?_) | (with_reducible refine w_fMul (mulR (by omega)) ?_) | (with_reducible refine w_fDiv (dv30 (by omega) (by omega)) ?_) | (with_reducible refine w_fMod (by omega) ?_) | ((with_reducible refine And.intro (a := List.length _ ≤ sizeLine) ?_ ?_); exact Nat.le_of_ble_eq_true rfl) | (with_reducible refine And.intro (a := List.length _ = _) rfl ?_) | (with_reducible refine w_fld ?_) | (with_reducible refine w_isT ?_) | (with_reducible refine w_isO ?_) | ((with_reducible refine Exists.intro ?_ (And.intro (a := fldD _ _ _ _ = _) ?_ ?_)); rotate_left; first | with_reducible exact fld_top | with_reducible exact fld_bot | exact rfl) | ((with_reducible refine Exists.intro ?_ (And.intro (a := isT _ _ _ = _) ?_ ?_)); rotate_left; exact rfl) | ((with_reducible refine Exists.intro ?_ (And.intro (a := isO _ _ _ = _) ?_ ?_)); rotate_left; exact rfl) | ((with_reducible refine Exists.intro ?_ (And.intro (a := D.int _ = D.int _) ?_ ?_)); rotate_left; exact rfl) | ((with_reducible refine w_kT' (k := T3.isInt _) ?_ ?_); exact rfl) | ((with_reducible refine w_kF' (k := T3.isInt _) ?_ ?_); exact rfl) | ((with_reducible refine w_kT' (k := T3.isBl _) ?_ ?_); exact rfl) | ((with_reducible refine w_kF' (k := T3.isBl _) ?_ ?_); exact rfl) | ((with_reducible refine w_kT' (k := T3.isStr _) ?_ ?_); exact rfl) | ((with_reducible refine w_kF' (k := T3.isStr _) ?_ ?_); exact rfl) | ((with_reducible refine w_kT' (k := T3.isTup _) ?_ ?_); exact rfl) | ((with_reducible refine w_kF' (k := T3.isTup _) ?_ ?_); exact rfl) | ((with_reducible refine w_kT' (k := T3.isLst _) ?_ ?_); exact rfl) | ((with_reducible refine w_kF' (k := T3.isLst _) ?_ ?_); exact rfl) | ((with_reducible refine And.intro (a := insD _ _ _ _) ?_ ?_); (first | exact ⟨rfl, rfl⟩)) | (with_reducible refine w_kF' (k := !true) rfl ?_) | (with_reducible refine w_kT' (k := !false) rfl ?_) | ((with_reducible refine w_kT' (k := decide _) ?_ ?_); decide +kernel) | ((with_reducible refine w_kF' (k := decide _) ?_ ?_); decide +kernel)))
theorem b_law_changed : BodyOk ["pool", "text", "at", "way", "sign"] 2 sp_law_changed m_law_changed := by
  rintro ds O Z P hl ⟨p, z, rfl, hp, hz, hq⟩
  have hS := big_line
  show m_law_changed (En.mk _ _ _ _ _) [some (.cell p), some (.str z), none, none, none] O
  unfold m_law_changed
  walk_at "PL02 V2"
  refine ⟨p, _, rfl, hp, by omega, by omega, fun i O1 i0 i1 u1 => ?_⟩
  walk_at "PL02 W0"
  refine ⟨p, 3, rfl, u1.pool, by decide, by decide, fun w O2 w0 w1 u2 => ?_⟩
  walk_at "PL02 W0"
  refine ⟨p, rfl, u2.pool, fun c O3 u3 => ?_⟩
  have u := (u1.trans u2).trans u3
  have hc : (⟨#[c]⟩ : Str).length = 1 := rfl
  obtain ⟨n, rfl⟩ : ∃ n : Nat, i = n := ⟨i.toNat, by omega⟩
  have l1 : (cutS z none (some (n : Int))).length = n := by
    rw [cut_to]
    show ((cs z).take n).toArray.size = n
    rw [List.size_toArray, List.length_take, ← len_cs]
    omega
  have l2 : (cutS z (some (n : Int)) none).length = z.length - n := by
    rw [cut_from]
    show ((cs z).drop n).toArray.size = _
    rw [List.size_toArray, List.length_drop, ← len_cs]
  have l3 : (cutS z (some ((n : Int) + 1)) none).length = z.length - (n + 1) := by
    rw [show ((n : Int) + 1) = ((n + 1 : Nat) : Int) from rfl, cut_from]
    show ((cs z).drop (n + 1)).toArray.size = _
    rw [List.size_toArray, List.length_drop, ← len_cs]
  walk_at "PL02 W0"
  refine w_k (fun h => ?_) fun h => ?_
  · walk_at "PL02 V2"
    refine w_fAddS ?_ ?_
    · rw [app_len, l1, l2, hc]; omega
    · refine w_fz (hq _ _ ?_ u)
      rw [app_len, app_len, l1, l2, hc]; omega
  · walk_at "PL02 W0"
    refine w_k (fun h => ?_) fun h => ?_
    · walk_at "PL02 V2"
      refine w_fAddS ?_ ?_
      · rw [app_len, l1, l3, hc]; omega
      · refine w_fz (hq _ _ ?_ u)
        rw [app_len, app_len, l1, l3, hc]; omega
    · walk_at "PL02 V2"
      refine w_fz (hq _ _ ?_ u)
      rw [app_len, l1, l3]; omega
end K02

namespace K02
open PySem L2 L3
theorem w_cG {z : Str} {Z : PX} {Γ : Gm} {O : Sto} {Q : PV} (e : z.length ≤ 16) (h : ∀ w : Str, w.length ≤ 16 → Q (.str w) O) : mC (.str z) Z Γ O Q := h z e
theorem w_fAddG {z y : Str} {O : Sto} {Q : PV} (h1 : z.length + y.length ≤ sizeLine) (h : ∀ w : Str, w.length = z.length + y.length → Q (.str w) O) : fAdd (.str z) (.str y) O Q := ⟨h1, h _ (app_len z y)⟩
theorem w_fAddL {xs ys : List D} {O : Sto} {Q : PV} (h1 : xs.length + ys.length ≤ sizeLine) (h : Q (.lst (xs ++ ys)) O) : fAdd (.lst xs) (.lst ys) O Q := ⟨h1, fun p hp => w_fzLst hp h⟩
/-- texts of no more than n signs -/
def Txs (n : Nat) (xs : List D) : Prop := ∀ x ∈ xs, ∃ w : Str, x = .str w ∧ w.length ≤ n
theorem Txs.nil {n : Nat} : Txs n [] := fun _ h => nomatch h
theorem Txs.cons {n : Nat} {w : Str} {xs : List D} (h : w.length ≤ n) (t : Txs n xs) : Txs n (.str w :: xs) := by
  intro x hx
  rcases List.mem_cons.mp hx with rfl | hx
  · exact ⟨w, rfl, h⟩
  · exact t x hx
theorem Txs.app {n : Nat} {xs ys : List D} (t : Txs n xs) (u : Txs n ys) : Txs n (xs ++ ys) := by
  intro x hx
  rcases List.mem_append.mp hx with h | h
  · exact t x h
  · exact u x h
theorem w_ixT {n : Nat} {ds : List D} {i : Int} {O : Sto} {Q : PV} (t : Txs n ds) (h0 : 0 ≤ i) (h1 : i < ds.length) (h : ∀ w : Str, w.length ≤ n → Q (.str w) O) : fIx (.lst ds) (.int i) O Q := by
  obtain ⟨x, hx, e⟩ := atI_ex h0 h1
  obtain ⟨w, rfl, hw⟩ := t x hx
  exact w_fIxL e (h w hw)
theorem repS_len1 {z : Str} {k : Int} (hz : z.length = 1) (hk : 1 ≤ k) : (repS z k).length = k.toNat := by
  unfold repS
  rw [if_neg (by omega)]
  split
  · rename_i h
    simp only [Bool.or_eq_true, beq_iff_eq] at h
    rcases h with h | h
    · rw [hz, h]; rfl
    · omega
  · show ((List.replicate k.toNat z.cps).foldl (· ++ ·) #[]).size = _
    rw [fold_size]
    have : z.cps.size = 1 := hz
    rw [this]
    simp
local macro_rules | `(tactic| walk_at "PM02 W0") => `(tactic| (repeat' first | with_reducible refine w_seq ?_ | with_reducible refine w_sui ?_ | with_reducible refine w_next ?_ | with_reducible refine w_brk ?_ | with_reducible refine w_cont ?_ | with_reducible refine w_ret ?_ | with_reducible refine w_retN ?_ | with_reducible refine w_drop ?_ | with_reducible refine w_if ?_ | with_reducible refine w_asg ?_ | with_reducible refine w_par ?_ | with_reducible refine w_setA ?_ | with_reducible refine w_raise ?_ | with_reducible refine w_for ?_ | with_reducible refine w_forR1 ?_ | with_reducible refine w_forLst ?_ | with_reducible refine w_tgName ?_ | with_reducible refine w_tgIx ?_ | with_reducible refine w_tgCons ?_ | with_reducible refine w_tgNil ?_ | with_reducible refine w_un ?_ | with_reducible refine w_op ?_ | with_reducible refine w_B ?_ | with_reducible refine w_tru ?_ | with_reducible refine w_and ?_ | with_reducible refine w_or ?_ | with_reducible refine w_not ?_ | with_reducible refine w_andV ?_ | with_reducible refine w_orV ?_ | with_reducible refine w_notV ?_ | with_reducible refine w_ifE ?_ | with_reducible refine w_nil ?_ | with_reducible refine w_cons ?_ | with_reducible refine w_tup ?_ | with_reducible refine w_lst ?_ | with_reducible refine w_cb ?_ | with_reducible refine w_call ?_ | with_reducible refine w_slice ?_ | with_reducible refine w_oNone ?_ | with_reducible refine w_onBl ?_ | with_reducible refine w_onTruB ?_ | with_reducible refine w_kT ?_ | with_reducible refine w_kF ?_ | with_reducible refine w_fAdd ?_ | with_reducible refine w_fSub ?_ | with_reducible refine w_fNeg ?_ | with_reducible refine w_fLt ?_ | with_reducible refine w_fLe ?_ | with_reducible refine w_fGt ?_ | with_reducible refine w_fGe ?_ | with_reducible refine w_fEqI ?_ | with_reducible refine w_fNeI ?_ | with_reducible refine w_fEqB ?_ | with_reducible refine w_fEqS ?_ | with_reducible refine w_fInt ?_ | with_reducible refine w_fIntB ?_ | with_reducible refine w_fAbs ?_ | with_reducible refine w_fMax ?_ | with_reducible refine w_fMin ?_ | with_reducible refine w_fGcd ?_ | with_reducible refine w_fLenL ?_ | with_reducible refine w_fLenT ?_ | with_reducible refine w_own ?_ | with_reducible refine w_ownI ?_ | with_reducible refine w_eqOwnI ?_ | with_reducible refine w_c ?_ | with_reducible refine w_make ?_ | with_reducible refine w_makeK ?_ | with_reducible refine w_par2 ?_ | with_reducible refine w_slLst ?_ | with_reducible refine w_p10_6 ?_ | with_reducible refine w_p10_8 ?_ | with_reducible refine w_p10_18 ?_ | with_reducible refine w_p10_30 ?_ | with_reducible refine w_p10_51 ?_ | with_reducible refine w_p10_59 ?_ | with_reducible refine w_p10_60 ?_ | with_reducible refine w_p2_63 ?_ | with_reducible refine w_p2_64 ?_ | with_reducible refine w_comp ?_ | with_reducible refine w_meth ?_ | with_reducible refine w_app ?_ | with_reducible refine w_tupOf ?_ | with_reducible refine w_tupL ?_ | with_reducible refine w_tupT ?_ | with_reducible refine w_forTup ?_ | with_reducible refine w_sm ?_ | with_reducible refine w_sm0 ?_ | with_reducible refine w_isStr ?_ | with_reducible refine w_find ?_ | with_reducible refine w_starts ?_ | with_reducible refine w_isascii ?_ | with_reducible refine w_isdigit ?_ | with_reducible refine w_str1S ?_ | with_reducible refine w_strO ?_ | with_reducible refine w_fmt ?_ | with_reducible refine w_join ?_ | with_reducible refine w_jsNil ?_ | with_reducible refine w_jsCons ?_ | with_reducible refine w_inS ?_ | with_reducible refine w_notInS ?_ | with_reducible refine w_statI ?_ | with_reducible refine w_fNeS ?_ | with_reducible refine w_ownS ?_ | ((with_reducible apply w_var); exact rfl) | ((with_reducible apply w_isE); exact rfl) | ((with_reducible apply w_onTru); exact rfl) | ((with_reducible apply w_tgTup); exact rfl) | ((with_reducible refine w_fPow ?_ ?_); exact ⟨by decide, by decide, by decide⟩) | (with_reducible refine w_fMod (by decide) ?_) | ((with_reducible apply w_fIxT); exact rfl) | ((with_reducible apply w_fIxL); exact rfl) | (with_reducible refine w_oSome ?_) | ((with_reducible apply w_fIxC); (first | with_reducible exact put_same | assumption); exact rfl) | ((with_reducible apply w_fLenC); (first | with_reducible exact put_same | assumption)) | ((with_reducible apply w_setL); (first | with_reducible exact put_same | assumption); exact rfl) | ((with_reducible refine And.intro (a := List.length _ ≤ sizeLine) ?_ ?_); exact Nat.le_of_ble_eq_true rfl) | (with_reducible refine And.intro (a := List.length _ = _) rfl ?_) | (with_reducible refine w_fld ?_) | (with_reducible refine w_isT ?_) | (with_reducible refine w_isO ?_) | ((with_reducible refine Exists.intro ?_ (And.intro (a := fldD _ _ _ _ = _) ?_ ?_)); rotate_left; first | with_reducible exact fld_top | with_reducible exact fld_bot | exact rfl) | ((with_reducible refine Exists.intro ?_ (And.intro (a := isT _ _ _ = _) ?_ ?_)); rotate_left; exact rfl) | ((with_reducible refine Exists.intro ?_ (And.intro (a := isO _ _ _ = _) ?_ ?_)); rotate_left; exact rfl) | ((with_reducible refine Exists.intro ?_ (And.intro (a := D.int _ = D.int _) ?_ ?_)); rotate_left; exact rfl) | ((with_reducible refine w_kT' (k := T3.isInt _) ?_ ?_); exact rfl) | ((with_reducible refine w_kF' (k := T3.isInt _) ?_ ?_); exact rfl) | ((with_reducible refine w_kT' (k := T3.isBl _) ?_ ?_); exact rfl) | ((with_reducible refine w_kF' (k := T3.isBl _) ?_ ?_); exact rfl) | ((with_reducible refine w_kT' (k := T3.isStr _) ?_ ?_); exact rfl) | ((with_reducible refine w_kF' (k := T3.isStr _) ?_ ?_); exact rfl) | ((with_reducible refine w_kT' (k := T3.isTup _) ?_ ?_); exact rfl) | ((with_reducible refine w_kF' (k := T3.isTup _) ?_ ?_); exact rfl) | ((with_reducible refine w_kT' (k := T3.isLst _) ?_ ?_); exact rfl) | ((with_reducible refine w_kF' (k := T3.isLst _) ?_ ?_); exact rfl) | ((with_reducible refine And.intro (a := insD _ _ _ _) ?_ ?_); (first | exact ⟨rfl, rfl⟩)) | (with_reducible refine w_kF' (k := !true) rfl ?_) | (with_reducible refine w_kT' (k := !false) rfl ?_) | ((with_reducible refine w_kT' (k := decide _) ?_ ?_); decide +kernel) | ((with_reducible refine w_kF' (k := decide _) ?_ ?_); decide +kernel)))
theorem b_law_long_text : BodyOk ["pool", "size", "many"] 1 sp_law_long_text m_law_long_text := by
  rintro ds O Z P hl ⟨p, rfl, hp, hq⟩
  have hS := big_line
  show m_law_long_text (En.mk _ _ _ _ _) [some (.cell p), none, none] O
  unfold m_law_long_text
  walk_at "PM02 W0"
  intro q hq'
  refine w_fzLst hq' ?_
  walk_at "PM02 W0"
  refine ⟨p, 6, rfl, hp, by decide, by decide, fun r O1 r0 r1 u1 => ?_⟩
  have ex : ∃ s : Int, 60 ≤ s ∧ s ≤ 4400 ∧ atI [D.int 60, .int 61, .int 62, .int 60, .int 61, .int 4400] r = some (.int s) := by
    have hr : r = 0 ∨ r = 1 ∨ r = 2 ∨ r = 3 ∨ r = 4 ∨ r = 5 := by omega
    rcases hr with rfl | rfl | rfl | rfl | rfl | rfl <;> exact ⟨_, by decide, by decide, rfl⟩
  obtain ⟨s, s0, s1, e⟩ := ex
  refine w_fIxL e ?_
  walk_at "PM02 W0"
  refine ⟨p, 9, rfl, u1.pool, by decide, by decide, fun r2 O2 a0 a1 u2 => ?_⟩
  refine w_ixS (by decide +kernel) a0 (by rw [show ("123456789" : Str).length = 9 by decide +kernel]; exact a1) fun c => ?_
  have hc : (⟨#[c]⟩ : Str).length = 1 := rfl
  have z1 : ("0" : Str).length = 1 := by decide +kernel
  have o1 : ("1" : Str).length = 1 := by decide +kernel
  walk_at "PM02 W0"
  refine w_fMulS (by rw [z1]; omega) ?_
  have k1 := repS_len1 (z := "0") (k := s - 2) z1 (by omega)
  refine w_fAddG (by omega) fun w hw => ?_
  walk_at "PM02 W0"
  refine w_fAddG (by omega) fun w2 hw2 => ?_
  have hm : w2.length ≤ 4500 := by omega
  refine w_tgName ?_
  refine w_ret (w_op (w_lst ?_))
  repeat' first
    | with_reducible refine w_cons ?_
    | with_reducible refine w_nil ?_
    | with_reducible refine w_op ?_
    | ((with_reducible apply w_var); exact rfl)
    | ((with_reducible refine w_cG ?_ fun _ _ => ?_); decide +kernel)
    | (with_reducible refine w_fAddG (by omega) fun _ _ => ?_)
  refine ⟨Nat.le_of_ble_eq_true rfl, fun q hq' => w_fzLst hq' ?_⟩
  walk_at "PM02 W0"
  refine ⟨p, 4, rfl, (u1.trans u2).pool, by decide, by decide, fun r3 O3 b0 b1 u3 => ?_⟩
  refine w_ixT (n := 5000) (.cons (by omega) (.cons (by omega) (.cons (by omega) (.cons (by omega) .nil)))) b0 b1 fun y hy => ?_
  exact w_fz (hq _ _ hy ((u1.trans u2).trans u3))
end K02

namespace K02
open PySem L2 L3
local macro_rules | `(tactic| walk_at "PN02 go") => `(tactic| (repeat' first | with_reducible refine w_cons ?_ | with_reducible refine w_nil ?_ | with_reducible refine w_op ?_ | ((with_reducible apply w_var); exact rfl) | ((with_reducible refine w_cG ?_ fun _ _ => ?_); decide +kernel) | (with_reducible refine w_fAddG (by omega) fun _ _ => ?_)))
local macro_rules | `(tactic| walk_at "PN02 tx") => `(tactic| (repeat' first | exact Txs.nil | refine Txs.cons (by omega) ?_))
local macro_rules | `(tactic| walk_at "PN02 W0") => `(tactic| (repeat' first | with_reducible refine w_seq ?_ | with_reducible refine w_sui ?_ | with_reducible refine w_next ?_ | with_reducible refine w_brk ?_ | with_reducible refine w_cont ?_ | with_reducible refine w_ret ?_ | with_reducible refine w_retN ?_ | with_reducible refine w_drop ?_ | with_reducible refine w_if ?_ | with_reducible refine w_asg ?_ | with_reducible refine w_par ?_ | with_reducible refine w_setA ?_ | with_reducible refine w_raise ?_ | with_reducible refine w_for ?_ | with_reducible refine w_forR1 ?_ | with_reducible refine w_forLst ?_ | with_reducible refine w_tgName ?_ | with_reducible refine w_tgIx ?_ | with_reducible refine w_tgCons ?_ | with_reducible refine w_tgNil ?_ | with_reducible refine w_un ?_ | with_reducible refine w_op ?_ | with_reducible refine w_B ?_ | with_reducible refine w_tru ?_ | with_reducible refine w_and ?_ | with_reducible refine w_or ?_ | with_reducible refine w_not ?_ | with_reducible refine w_andV ?_ | with_reducible refine w_orV ?_ | with_reducible refine w_notV ?_ | with_reducible refine w_ifE ?_ | with_reducible refine w_nil ?_ | with_reducible refine w_cons ?_ | with_reducible refine w_tup ?_ | with_reducible refine w_lst ?_ | with_reducible refine w_cb ?_ | with_reducible refine w_call ?_ | with_reducible refine w_slice ?_ | with_reducible refine w_oNone ?_ | with_reducible refine w_onBl ?_ | with_reducible refine w_onTruB ?_ | with_reducible refine w_kT ?_ | with_reducible refine w_kF ?_ | with_reducible refine w_fAdd ?_ | with_reducible refine w_fSub ?_ | with_reducible refine w_fNeg ?_ | with_reducible refine w_fLt ?_ | with_reducible refine w_fLe ?_ | with_reducible refine w_fGt ?_ | with_reducible refine w_fGe ?_ | with_reducible refine w_fEqI ?_ | with_reducible refine w_fNeI ?_ | with_reducible refine w_fEqB ?_ | with_reducible refine w_fEqS ?_ | with_reducible refine w_fInt ?_ | with_reducible refine w_fIntB ?_ | with_reducible refine w_fAbs ?_ | with_reducible refine w_fMax ?_ | with_reducible refine w_fMin ?_ | with_reducible refine w_fGcd ?_ | with_reducible refine w_fLenL ?_ | with_reducible refine w_fLenT ?_ | with_reducible refine w_own ?_ | with_reducible refine w_ownI ?_ | with_reducible refine w_eqOwnI ?_ | with_reducible refine w_c ?_ | with_reducible refine w_make ?_ | with_reducible refine w_makeK ?_ | with_reducible refine w_par2 ?_ | with_reducible refine w_slLst ?_ | with_reducible refine w_p10_6 ?_ | with_reducible refine w_p10_8 ?_ | with_reducible refine w_p10_18 ?_ | with_reducible refine w_p10_30 ?_ | with_reducible refine w_p10_51 ?_ | with_reducible refine w_p10_59 ?_ | with_reducible refine w_p10_60 ?_ | with_reducible refine w_p2_63 ?_ | with_reducible refine w_p2_64 ?_ | with_reducible refine w_comp ?_ | with_reducible refine w_meth ?_ | with_reducible refine w_app ?_ | with_reducible refine w_tupOf ?_ | with_reducible refine w_tupL ?_ | with_reducible refine w_tupT ?_ | with_reducible refine w_forTup ?_ | with_reducible refine w_sm ?_ | with_reducible refine w_sm0 ?_ | with_reducible refine w_isStr ?_ | with_reducible refine w_find ?_ | with_reducible refine w_starts ?_ | with_reducible refine w_isascii ?_ | with_reducible refine w_isdigit ?_ | with_reducible refine w_str1S ?_ | with_reducible refine w_strO ?_ | with_reducible refine w_fmt ?_ | with_reducible refine w_join ?_ | with_reducible refine w_jsNil ?_ | with_reducible refine w_jsCons ?_ | with_reducible refine w_inS ?_ | with_reducible refine w_notInS ?_ | with_reducible refine w_statI ?_ | with_reducible refine w_fNeS ?_ | with_reducible refine w_ownS ?_ | ((with_reducible apply w_var); exact rfl) | ((with_reducible apply w_isE); exact rfl) | ((with_reducible apply w_onTru); exact rfl) | ((with_reducible apply w_tgTup); exact rfl) | ((with_reducible refine w_fPow ?_ ?_); exact ⟨by decide, by decide, by decide⟩) | (with_reducible refine w_fMod (by decide) ?_) | ((with_reducible apply w_fIxT); exact rfl) | ((with_reducible apply w_fIxL); exact rfl) | (with_reducible refine w_oSome ?_) | ((with_reducible apply w_fIxC); (first | with_reducible exact put_same | assumption); exact rfl) | ((with_reducible apply w_fLenC); (first | with_reducible exact put_same | assumption)) | ((with_reducible apply w_setL); (first | with_reducible exact put_same | assumption); exact rfl) | ((with_reducible refine And.intro (a := List.length _ ≤ sizeLine) ?_ ?_); exact Nat.le_of_ble_eq_true rfl) | (with_reducible refine And.intro (a := List.length _ = _) rfl ?_) | (with_reducible refine w_fld ?_) | (with_reducible refine w_isT ?_) | (with_reducible refine w_isO ?_) | ((with_reducible refine Exists.intro ?_ (And.intro (a := fldD _ _ _ _ = _) ?_ ?_)); rotate_left; first | with_reducible exact fld_top | with_reducible exact fld_bot | exact rfl) | ((with_reducible refine Exists.intro ?_ (And.intro (a := isT _ _ _ = _) ?_ ?_)); rotate_left; exact rfl) | ((with_reducible refine Exists.intro ?_ (And.intro (a := isO _ _ _ = _) ?_ ?_)); rotate_left; exact rfl) | ((with_reducible refine Exists.intro ?_ (And.intro (a := D.int _ = D.int _) ?_ ?_)); rotate_left; exact rfl) | ((with_reducible refine w_kT' (k := T3.isInt _) ?_ ?_); exact rfl) | ((with_reducible refine w_kF' (k := T3.isInt _) ?_ ?_); exact rfl) | ((with_reducible refine w_kT' (k := T3.isBl _) ?_ ?_); exact rfl) | ((with_reducible refine w_kF' (k := T3.isBl _) ?_ ?_); exact rfl) | ((with_reducible refine w_kT' (k := T3.isStr _) ?_ ?_); exact rfl) | ((with_reducible refine w_kF' (k := T3.isStr _) ?_ ?_); exact rfl) | ((with_reducible refine w_kT' (k := T3.isTup _) ?_ ?_); exact rfl) | ((with_reducible refine w_kF' (k := T3.isTup _) ?_ ?_); exact rfl) | ((with_reducible refine w_kT' (k := T3.isLst _) ?_ ?_); exact rfl) | ((with_reducible refine w_kF' (k := T3.isLst _) ?_ ?_); exact rfl) | ((with_reducible refine And.intro (a := insD _ _ _ _) ?_ ?_); (first | exact ⟨rfl, rfl⟩)) | (with_reducible refine w_kF' (k := !true) rfl ?_) | (with_reducible refine w_kT' (k := !false) rfl ?_) | ((with_reducible refine w_kT' (k := decide _) ?_ ?_); decide +kernel) | ((with_reducible refine w_kF' (k := decide _) ?_ ?_); decide +kernel)))
theorem b_law_odd_text : BodyOk ["pool", "top", "low", "whole", "odd"] 3 sp_law_odd_text m_law_odd_text := by
  rintro ds O Z P hl ⟨p, a, b, rfl, hp, ha, hb, hq⟩
  have hS := big_line
  show m_law_odd_text (En.mk _ _ _ _ _) [some (.cell p), some (.str a), some (.str b), none, none] O
  unfold m_law_odd_text
  refine w_seq (w_asg ?_)
  walk_at "PN02 go"
  rename_i w hw
  refine w_tgName ?_
  refine w_seq (w_cut (fun Γ O' => O' = O ∧ ∃ xs, Γ = [some (.cell p), some (.str a), some (.str b), some (.str w), some (.lst xs)] ∧ Txs 5000 xs ∧ xs.length = 11) ?_ ?_)
  rotate_left
  · intro nx' h
    refine w_asg (w_lst ?_)
    walk_at "PN02 go"
    refine ⟨Nat.le_of_ble_eq_true rfl, fun q hq' => w_fzLst hq' ?_⟩
    refine w_tgName ?_
    refine h _ _ ⟨rfl, _, rfl, ?_, ?_⟩
    · walk_at "PN02 tx"
    · rfl
  rintro Γ O1 ⟨rfl, xs, rfl, tx, lx⟩
  refine w_seq (w_cut (fun Γ O' => O' = O1 ∧ ∃ xs, Γ = [some (.cell p), some (.str a), some (.str b), some (.str w), some (.lst xs)] ∧ Txs 5000 xs ∧ xs.length = 17) ?_ ?_)
  rotate_left
  · intro nx' h
    refine w_asg (w_op ?_)
    walk_at "PN02 go"
    refine w_lst ?_
    walk_at "PN02 go"
    refine ⟨Nat.le_of_ble_eq_true rfl, fun q hq' => w_fzLst hq' (w_fAddL ?_ ?_)⟩
    · simp only [List.length_cons, List.length_nil]; omega
    refine w_tgName ?_
    refine h _ _ ⟨rfl, _, rfl, tx.app ?_, ?_⟩
    · walk_at "PN02 tx"
    · rw [List.length_append, lx]; rfl
  clear tx lx xs
  rintro Γ O2 ⟨rfl, xs, rfl, tx, lx⟩
  refine w_seq (w_cut (fun Γ O' => O' = O2 ∧ ∃ xs, Γ = [some (.cell p), some (.str a), some (.str b), some (.str w), some (.lst xs)] ∧ Txs 5000 xs ∧ xs.length = 24) ?_ ?_)
  rotate_left
  · intro nx' h
    refine w_asg (w_op ?_)
    walk_at "PN02 go"
    refine w_lst ?_
    walk_at "PN02 go"
    refine ⟨Nat.le_of_ble_eq_true rfl, fun q hq' => w_fzLst hq' (w_fAddL ?_ ?_)⟩
    · simp only [List.length_cons, List.length_nil]; omega
    refine w_tgName ?_
    refine h _ _ ⟨rfl, _, rfl, tx.app ?_, ?_⟩
    · walk_at "PN02 tx"
    · rw [List.length_append, lx]; rfl
  clear tx lx xs
  rintro Γ O3 ⟨rfl, xs, rfl, tx, lx⟩
  refine w_seq (w_cut (fun Γ O' => O' = O3 ∧ ∃ xs, Γ = [some (.cell p), some (.str a), some (.str b), some (.str w), some (.lst xs)] ∧ Txs 5000 xs ∧ xs.length = 30) ?_ ?_)
  rotate_left
  · intro nx' h
    refine w_asg (w_op ?_)
    walk_at "PN02 go"
    refine w_lst ?_
    walk_at "PN02 go"
    refine ⟨Nat.le_of_ble_eq_true rfl, fun q hq' => w_fzLst hq' (w_fAddL ?_ ?_)⟩
    · simp only [List.length_cons, List.length_nil]; omega
    refine w_tgName ?_
    refine h _ _ ⟨rfl, _, rfl, tx.app ?_, ?_⟩
    · walk_at "PN02 tx"
    · rw [List.length_append, lx]; rfl
  clear tx lx xs
  rintro Γ O4 ⟨rfl, xs, rfl, tx, lx⟩
  have done : ∀ (ys : List D) (O5 : Sto), Txs 5000 ys → 1 ≤ ys.length → ys.length ≤ 30 → Upd p O4 O5 → mRet (mOp fIx (mVar 4) (mCall sp_law_draw 2 (mCons (mVar 0) (mCons (mCB fLen (mCons (mVar 4) mNil)) mNil)))) ⟨fun _ O' => orFz P .non O', P, fun _ _ => False, fun _ _ => False, fun C fs _ O' => Z C fs O'⟩ [some (.cell p), some (.str a), some (.str b), some (.str w), some (.lst ys)] O5 := by
    intro ys O5 ty y0 y1 u5
    walk_at "PN02 W0"
    refine ⟨p, _, rfl, u5.pool, by omega, by omega, fun r O6 r0 r1 u6 => ?_⟩
    exact w_ixT ty r0 r1 fun y hy => w_fz (hq _ _ hy (u5.trans u6))
  walk_at "PN02 W0"
  refine ⟨p, 4, rfl, hp, by decide, by decide, fun r O5 r0 r1 u5 => ?_⟩
  walk_at "PN02 W0"
  refine w_k (fun h => ?_) fun h => ?_
  · refine w_asg (w_lst ?_)
    walk_at "PN02 go"
    refine ⟨Nat.le_of_ble_eq_true rfl, fun q hq' => w_fzLst hq' ?_⟩
    refine w_tgName ?_
    refine done _ _ ?_ (by simp) (by simp) u5
    walk_at "PN02 tx"
  · refine w_next ?_
    exact done _ _ tx (by omega) (by omega) u5
end K02

namespace K02
open PySem L2 L3
theorem log_lt {x : Int} {n : Nat} (h : Bd n x) (h0 : 0 < n) : x.natAbs.log2 < n := by
  by_cases h0 : x.natAbs = 0
  · rw [h0]
    simpa using ‹0 < n›
  · exact (Nat.log2_lt h0).mpr h
theorem num_len_le {x : Int} {n : Nat} (h : Bd n x) (h0 : 0 < n) : (numS x).length ≤ n + 1 := by
  unfold numS
  rw [PySem.ofString_length]
  exact PySem.int_text_length_le h0 (log_lt h h0)
theorem w_str1G {x : Int} {O : Sto} {Q : PV} (b : Bd 240 x) (h : ∀ w : Str, w.length ≤ 241 → Q (.str w) O) : fStr1 [.int x] O Q := w_str1I (log_ok (b.mono (by decide))) (h _ (num_len_le b (by decide)))
local macro_rules | `(tactic| walk_at "PO02 W0") => `(tactic| (repeat' first | with_reducible refine w_seq ?_ | with_reducible refine w_sui ?_ | with_reducible refine w_next ?_ | with_reducible refine w_brk ?_ | with_reducible refine w_cont ?_ | with_reducible refine w_ret ?_ | with_reducible refine w_retN ?_ | with_reducible refine w_drop ?_ | with_reducible refine w_if ?_ | with_reducible refine w_asg ?_ | with_reducible refine w_par ?_ | with_reducible refine w_setA ?_ | with_reducible refine w_raise ?_ | with_reducible refine w_for ?_ | with_reducible refine w_forR1 ?_ | with_reducible refine w_forLst ?_ | with_reducible refine w_tgName ?_ | with_reducible refine w_tgIx ?_ | with_reducible refine w_tgCons ?_ | with_reducible refine w_tgNil ?_ | with_reducible refine w_un ?_ | with_reducible refine w_op ?_ | with_reducible refine w_B ?_ | with_reducible refine w_tru ?_ | with_reducible refine w_and ?_ | with_reducible refine w_or ?_ | with_reducible refine w_not ?_ | with_reducible refine w_andV ?_ | with_reducible refine w_orV ?_ | with_reducible refine w_notV ?_ | with_reducible refine w_ifE ?_ | with_reducible refine w_nil ?_ | with_reducible refine w_cons ?_ | with_reducible refine w_tup ?_ | with_reducible refine w_lst ?_ | with_reducible refine w_cb ?_ | with_reducible refine w_call ?_ | with_reducible refine w_slice ?_ | with_reducible refine w_oNone ?_ | with_reducible refine w_onBl ?_ | with_reducible refine w_onTruB ?_ | with_reducible refine w_kT ?_ | with_reducible refine w_kF ?_ | with_reducible refine w_fAdd ?_ | with_reducible refine w_fSub ?_ | with_reducible refine w_fNeg ?_ | with_reducible refine w_fLt ?_ | with_reducible refine w_fLe ?_ | with_reducible refine w_fGt ?_ | with_reducible refine w_fGe ?_ | with_reducible refine w_fEqI ?_ | with_reducible refine w_fNeI ?_ | with_reducible refine w_fEqB ?_ | with_reducible refine w_fEqS ?_ | with_reducible refine w_fInt ?_ | with_reducible refine w_fIntB ?_ | with_reducible refine w_fAbs ?_ | with_reducible refine w_fMax ?_ | with_reducible refine w_fMin ?_ | with_reducible refine w_fGcd ?_ | with_reducible refine w_fLenL ?_ | with_reducible refine w_fLenT ?_ | with_reducible refine w_own ?_ | with_reducible refine w_ownI ?_ | with_reducible refine w_eqOwnI ?_ | with_reducible refine w_c ?_ | with_reducible refine w_make ?_ | with_reducible refine w_makeK ?_ | with_reducible refine w_par2 ?_ | with_reducible refine w_slLst ?_ | with_reducible refine w_p10_6 ?_ | with_reducible refine w_p10_8 ?_ | with_reducible refine w_p10_18 ?_ | with_reducible refine w_p10_30 ?_ | with_reducible refine w_p10_51 ?_ | with_reducible refine w_p10_59 ?_ | with_reducible refine w_p10_60 ?_ | with_reducible refine w_p2_63 ?_ | with_reducible refine w_p2_64 ?_ | with_reducible refine w_comp ?_ | with_reducible refine w_meth ?_ | with_reducible refine w_app ?_ | with_reducible refine w_tupOf ?_ | with_reducible refine w_tupL ?_ | with_reducible refine w_tupT ?_ | with_reducible refine w_forTup ?_ | with_reducible refine w_sm ?_ | with_reducible refine w_sm0 ?_ | with_reducible refine w_isStr ?_ | with_reducible refine w_find ?_ | with_reducible refine w_starts ?_ | with_reducible refine w_isascii ?_ | with_reducible refine w_isdigit ?_ | with_reducible refine w_str1S ?_ | with_reducible refine w_strO ?_ | with_reducible refine w_fmt ?_ | with_reducible refine w_join ?_ | with_reducible refine w_jsNil ?_ | with_reducible refine w_jsCons ?_ | with_reducible refine w_inS ?_ | with_reducible refine w_notInS ?_ | with_reducible refine w_statI ?_ | with_reducible refine w_fNeS ?_ | with_reducible refine w_ownS ?_ | ((with_reducible apply w_var); exact rfl) | ((with_reducible apply w_isE); exact rfl) | ((with_reducible apply w_onTru); exact rfl) | ((with_reducible apply w_tgTup); exact rfl) | ((with_reducible refine w_fPow ?_ ?_); exact ⟨by decide, by decide, by decide⟩) | (with_reducible refine w_fMod (by decide) ?_) | ((with_reducible apply w_fIxT); exact rfl) | ((with_reducible apply w_fIxL); exact rfl) | (with_reducible refine w_oSome ?_) | ((with_reducible apply w_fIxC); (first | with_reducible exact put_same | assumption); exact rfl) | ((with_reducible apply w_fLenC); (first | with_reducible exact put_same | assumption)) | ((with_reducible apply w_setL); (first | with_reducible exact put_same | assumption); exact rfl) | ((with_reducible refine And.intro (a := List.length _ ≤ sizeLine) ?_ ?_); exact Nat.le_of_ble_eq_true rfl) | (with_reducible refine And.intro (a := List.length _ = _) rfl ?_) | (with_reducible refine w_fld ?_) | (with_reducible refine w_isT ?_) | (with_reducible refine w_isO ?_) | ((with_reducible refine Exists.intro ?_ (And.intro (a := fldD _ _ _ _ = _) ?_ ?_)); rotate_left; first | with_reducible exact fld_top | with_reducible exact fld_bot | exact rfl) | ((with_reducible refine Exists.intro ?_ (And.intro (a := isT _ _ _ = _) ?_ ?_)); rotate_left; exact rfl) | ((with_reducible refine Exists.intro ?_ (And.intro (a := isO _ _ _ = _) ?_ ?_)); rotate_left; exact rfl) | ((with_reducible refine Exists.intro ?_ (And.intro (a := D.int _ = D.int _) ?_ ?_)); rotate_left; exact rfl) | ((with_reducible refine w_kT' (k := T3.isInt _) ?_ ?_); exact rfl) | ((with_reducible refine w_kF' (k := T3.isInt _) ?_ ?_); exact rfl) | ((with_reducible refine w_kT' (k := T3.isBl _) ?_ ?_); exact rfl) | ((with_reducible refine w_kF' (k := T3.isBl _) ?_ ?_); exact rfl) | ((with_reducible refine w_kT' (k := T3.isStr _) ?_ ?_); exact rfl) | ((with_reducible refine w_kF' (k := T3.isStr _) ?_ ?_); exact rfl) | ((with_reducible refine w_kT' (k := T3.isTup _) ?_ ?_); exact rfl) | ((with_reducible refine w_kF' (k := T3.isTup _) ?_ ?_); exact rfl) | ((with_reducible refine w_kT' (k := T3.isLst _) ?_ ?_); exact rfl) | ((with_reducible refine w_kF' (k := T3.isLst _) ?_ ?_); exact rfl) | ((with_reducible refine And.intro (a := insD _ _ _ _) ?_ ?_); (first | exact ⟨rfl, rfl⟩)) | (with_reducible refine w_kF' (k := !true) rfl ?_) | (with_reducible refine w_kT' (k := !false) rfl ?_) | ((with_reducible refine w_kT' (k := decide _) ?_ ?_); decide +kernel) | ((with_reducible refine w_kF' (k := decide _) ?_ ?_); decide +kernel)))
local macro_rules | `(tactic| walk_at "PO02 V1") => `(tactic| (repeat' first | with_reducible refine w_seq ?_ | with_reducible refine w_sui ?_ | with_reducible refine w_next ?_ | with_reducible refine w_brk ?_ | with_reducible refine w_cont ?_ | with_reducible refine w_ret ?_ | with_reducible refine w_retN ?_ | with_reducible refine w_drop ?_ | with_reducible refine w_if ?_ | with_reducible refine w_asg ?_ | with_reducible refine w_par ?_ | with_reducible refine w_setA ?_ | with_reducible refine w_raise ?_ | with_reducible refine w_for ?_ | with_reducible refine w_forR1 ?_ | with_reducible refine w_forLst ?_ | with_reducible refine w_tgName ?_ | with_reducible refine w_tgIx ?_ | with_reducible refine w_tgCons ?_ | with_reducible refine w_tgNil ?_ | with_reducible refine w_un ?_ | with_reducible refine w_op ?_ | with_reducible refine w_B ?_ | with_reducible refine w_tru ?_ | with_reducible refine w_and ?_ | with_reducible refine w_or ?_ | with_reducible refine w_not ?_ | with_reducible refine w_andV ?_ | with_reducible refine w_orV ?_ | with_reducible refine w_notV ?_ | with_reducible refine w_ifE ?_ | with_reducible refine w_nil ?_ | with_reducible refine w_cons ?_ | with_reducible refine w_tup ?_ | with_reducible refine w_lst ?_ | with_reducible refine w_cb ?_ | with_reducible refine w_call ?_ | with_reducible refine w_slice ?_ | with_reducible refine w_oNone ?_ | with_reducible refine w_onBl ?_ | with_reducible refine w_onTruB ?_ | with_reducible refine w_kT ?_ | with_reducible refine w_kF ?_ | with_reducible refine w_fAdd ?_ | with_reducible refine w_fSub ?_ | with_reducible refine w_fNeg ?_ | with_reducible refine w_fLt ?_ | with_reducible refine w_fLe ?_ | with_reducible refine w_fGt ?_ | with_reducible refine w_fGe ?_ | with_reducible refine w_fEqI ?_ | with_reducible refine w_fNeI ?_ | with_reducible refine w_fEqB ?_ | with_reducible refine w_fEqS ?_ | with_reducible refine w_fInt ?_ | with_reducible refine w_fIntB ?_ | with_reducible refine w_fAbs ?_ | with_reducible refine w_fMax ?_ | with_reducible refine w_fMin ?_ | with_reducible refine w_fGcd ?_ | with_reducible refine w_fLenL ?_ | with_reducible refine w_fLenT ?_ | with_reducible refine w_own ?_ | with_reducible refine w_ownI ?_ | with_reducible refine w_eqOwnI ?_ | with_reducible refine w_c ?_ | with_reducible refine w_make ?_ | with_reducible refine w_makeK ?_ | with_reducible refine w_par2 ?_ | with_reducible refine w_slLst ?_ | with_reducible refine w_p10_6 ?_ | with_reducible refine w_p10_8 ?_ | with_reducible refine w_p10_18 ?_ | with_reducible refine w_p10_30 ?_ | with_reducible refine w_p10_51 ?_ | with_reducible refine w_p10_59 ?_ | with_reducible refine w_p10_60 ?_ | with_reducible refine w_p2_63 ?_ | with_reducible refine w_p2_64 ?_ | with_reducible refine w_comp ?_ | with_reducible refine w_meth ?_ | with_reducible refine w_app ?_ | with_reducible refine w_tupOf ?_ | with_reducible refine w_tupL ?_ | with_reducible refine w_tupT ?_ | with_reducible refine w_forTup ?_ | with_reducible refine w_sm ?_ | with_reducible refine w_sm0 ?_ | with_reducible refine w_isStr ?_ | with_reducible refine w_find ?_ | with_reducible refine w_starts ?_ | with_reducible refine w_isascii ?_ | with_reducible refine w_isdigit ?_ | with_reducible refine w_str1S ?_ | with_reducible refine w_strO ?_ | with_reducible refine w_fmt ?_ | with_reducible refine w_join ?_ | with_reducible refine w_jsNil ?_ | with_reducible refine w_jsCons ?_ | with_reducible refine w_inS ?_ | with_reducible refine w_notInS ?_ | with_reducible refine w_statI ?_ | with_reducible refine w_fNeS ?_ | with_reducible refine w_ownS ?_ | ((with_reducible apply w_var); exact rfl) | ((with_reducible apply w_isE); exact rfl) | ((with_reducible apply w_onTru); exact rfl) | ((with_reducible apply w_tgTup); exact rfl) | ((with_reducible refine w_fPow ?_ ?_); exact ⟨by decide, by decide, by decide⟩) | (with_reducible refine w_fMod (by decide) ?_) | ((with_reducible apply w_fIxT); exact rfl) | ((with_reducible apply w_fIxL); exact rfl) | (with_reducible refine w_oSome ?_) | ((with_reducible apply w_fIxC); (first | with_reducible exact put_same | assumption); exact rfl) | ((with_reducible apply w_fLenC); (first | with_reducible exact put_same | assumption)) | ((with_reducible apply w_setL); (first | with_reducible exact put_same | assumption); exact rfl) | (with_reducible refine w_fLenS (by omega) ?_) | (with_reducible refine w_slStr (by omega) ?_) | (with_reducible refine w_fAddS (by omega) ?_) | (with_reducible refine w_remPre (by omega) ?_) | (with_reducible refine w_fmtS (by omega) ?_) | (with_reducible refine w_fMul (mulR (by decide)) ?_) | (with_reducible refine w_fMul (mulL (by omega)) ?_) | (with_reducible refine w_fMul (mulR (by omega)) ?_) | (with_reducible refine w_fDiv (dv30 (by omega) (by omega)) ?_) | (with_reducible refine w_fMod (by omega) ?_) | ((with_reducible refine And.intro (a := List.length _ ≤ sizeLine) ?_ ?_); exact Nat.le_of_ble_eq_true rfl) | (with_reducible refine And.intro (a := List.length _ = _) rfl ?_) | (with_reducible refine w_fld ?_) | (with_reducible refine w_isT ?_) | (with_reducible refine w_isO ?_) | ((with_reducible refine Exists.intro ?_ (And.intro (a := fldD _ _ _ _ = _) ?_ ?_)); rotate_left; first | with_reducible exact fld_top | with_reducible exact fld_bot | exact rfl) | ((with_reducible refine Exists.intro ?_ (And.intro (a := isT _ _ _ = _) ?_ ?_)); rotate_left; exact rfl) | ((with_reducible refine Exists.intro ?_ (And.intro (a := isO _ _ _ = _) ?_ ?_)); rotate_left; exact rfl) | ((with_reducible refine Exists.intro ?_ (And.intro (a := D.int _ = D.int _) ?_ ?_)); rotate_left; exact rfl) | ((with_reducible refine w_kT' (k := T3.isInt _) ?_ ?_); exact rfl) | ((with_reducible refine w_kF' (k := T3.isInt _) ?_ ?_); exact rfl) | ((with_reducible refine w_kT' (k := T3.isBl _) ?_ ?_); exact rfl) | ((with_reducible refine w_kF' (k := T3.isBl _) ?_ ?_); exact rfl) | ((with_reducible refine w_kT' (k := T3.isStr _) ?_ ?_); exact rfl) | ((with_reducible refine w_kF' (k := T3.isStr _) ?_ ?_); exact rfl) | ((with_reducible refine w_kT' (k := T3.isTup _) ?_ ?_); exact rfl) | ((with_reducible refine w_kF' (k := T3.isTup _) ?_ ?_); exact rfl) | ((with_reducible refine w_kT' (k := T3.isLst _) ?_ ?_); exact rfl) | ((with_reducible refine w_kF' (k := T3.isLst _) ?_ ?_); exact rfl) | ((with_reducible refine And.intro (a := insD _ _ _ _) ?_ ?_); (first | exact ⟨rfl, rfl⟩)) | (with_reducible refine w_kF' (k := !true) rfl ?_) | (with_reducible refine w_kT' (k := !false) rfl ?_) | ((with_reducible refine w_kT' (k := decide _) ?_ ?_); decide +kernel) | ((with_reducible refine w_kF' (k := decide _) ?_ ?_); decide +kernel)))
theorem b_law_second_text : BodyOk ["pool", "low", "text", "way", "k"] 2 sp_law_second_text m_law_second_text := by
  rintro ds O Z P hl ⟨p, t, b, rfl, hp, ht, hb, hq⟩
  have hS := big_line
  show m_law_second_text (En.mk _ _ _ _ _) [some (.cell p), some (.tup [.int t, .int b]), none, none, none] O
  unfold m_law_second_text
  refine w_seq ?_
  refine w_cut (fun Γ O' => O' = O ∧ ∃ z : Str, z.length ≤ 500 ∧ Γ = [some (.cell p), some (.tup [.int t, .int b]), some (.str z), none, none]) ?_ ?_
  rotate_left
  · intro nx' h
    walk_at "PO02 W0"
    refine w_str1G (ht.mono (by decide)) fun a la => ?_
    walk_at "PO02 W0"
    refine w_fAddG (y := "/") (by rw [show ("/" : Str).length = 1 from rfl]; omega) fun a2 la2 => ?_
    rw [show ("/" : Str).length = 1 from rfl] at la2
    walk_at "PO02 W0"
    refine w_str1G (hb.mono (by decide)) fun a3 la3 => ?_
    refine w_fAddG (by omega) fun a4 la4 => ?_
    walk_at "PO02 W0"
    exact h _ _ ⟨rfl, a4, by omega, rfl⟩
  rintro Γ O' ⟨rfl, z, hz, rfl⟩
  walk_at "PO02 W0"
  refine ⟨p, 10, rfl, hp, by decide, by decide, fun r O1 r0 r1 u1 => ?_⟩
  walk_at "PO02 W0"
  refine w_k (fun h1 => ?_) fun h1 => ?_
  · walk_at "PO02 W0"
    refine ⟨p, z, rfl, u1.pool, by omega, fun y O2 hy u2 => w_fz (hq _ _ (by omega) (u1.trans u2))⟩
  walk_at "PO02 W0"
  refine w_k (fun h2 => ?_) fun h2 => ?_
  · walk_at "PO02 W0"
    refine ⟨p, z, rfl, u1.pool, by omega, fun y O2 hy u2 => w_fz (hq _ _ (by omega) (u1.trans u2))⟩
  walk_at "PO02 W0"
  refine w_k (fun h3 => ?_) fun h3 => ?_
  · walk_at "PO02 W0"
    refine ⟨p, z, rfl, u1.pool, by omega, fun y O2 hy u2 => ?_⟩
    walk_at "PO02 W0"
    refine ⟨p, y, rfl, u2.pool, by omega, fun y2 O3 hy2 u3 => w_fz (hq _ _ (by omega) ((u1.trans u2).trans u3))⟩
  walk_at "PO02 W0"
  refine w_k (fun h4 => ?_) fun h4 => ?_
  · walk_at "PO02 W0"
    refine ⟨p, 12, rfl, u1.pool, by decide, by decide, fun k O2 k0 k1 u2 => ?_⟩
    walk_at "PO02 V1"
    have bk : Bd 8 (1 + k) := by unfold Bd; omega
    refine w_str1G ((ht.mul bk).mono (by decide)) fun a la => ?_
    walk_at "PO02 W0"
    refine w_fAddG (y := "/") (by rw [show ("/" : Str).length = 1 from rfl]; omega) fun a2 la2 => ?_
    rw [show ("/" : Str).length = 1 from rfl] at la2
    walk_at "PO02 V1"
    refine w_str1G ((hb.mul bk).mono (by decide)) fun a3 la3 => ?_
    refine w_fAddG (by omega) fun a4 la4 => ?_
    exact w_fz (hq _ _ (by omega) (u1.trans u2))
  walk_at "PO02 W0"
  refine w_k (fun h5 => ?_) fun h5 => ?_
  · walk_at "PO02 W0"
    refine w_str1G (ht.mono (by decide)) fun a la => ?_
    walk_at "PO02 W0"
    refine w_str1G (hb.mono (by decide)) fun a3 la3 => ?_
    walk_at "PO02 W0"
    exact ⟨p, a, a3, rfl, u1.pool, by omega, by omega, fun y O2 hy u2 => w_fz (hq _ _ (by omega) (u1.trans u2))⟩
  walk_at "PO02 W0"
  refine w_k (fun h6 => ?_) fun h6 => ?_
  · walk_at "PO02 W0"
    refine w_str1G (ht.mono (by decide)) fun a la => ?_
    walk_at "PO02 W0"
    refine w_str1G (hb.mono (by decide)) fun a3 la3 => ?_
    walk_at "PO02 W0"
    exact ⟨p, a, a3, rfl, u1.pool, by omega, by omega, fun y O2 hy u2 => w_fz (hq _ _ (by omega) (u1.trans u2))⟩
  walk_at "PO02 W0"
  refine w_k (fun h7 => ?_) fun h7 => ?_
  · walk_at "PO02 W0"
    exact ⟨p, rfl, u1.pool, fun y O2 hy u2 => w_fz (hq _ _ (by omega) (u1.trans u2))⟩
  walk_at "PO02 W0"
  refine w_k (fun h8 => ?_) fun h8 => ?_
  · walk_at "PO02 W0"
    exact ⟨p, rfl, u1.pool, fun y O2 hy u2 => w_fz (hq _ _ (by omega) (u1.trans u2))⟩
  walk_at "PO02 W0"
  refine w_k (fun h9 => ?_) fun h9 => ?_
  · walk_at "PO02 W0"
    refine ⟨p, 10, rfl, u1.pool, by decide, by decide, fun k O2 k0 k1 u2 => ?_⟩
    walk_at "PO02 W0"
    refine w_rng1 (by omega) ?_
    have kn : k.toNat ≤ 10 := by omega
    refine w_forN (fun n lo Γ O3 => Upd p O' O3 ∧ ∃ (z : Str) (y : Option D), z.length + n ≤ 10 ∧ Γ = [some (.cell p), some (.tup [.int t, .int b]), some (.str z), some (.int r), y]) (fun _ _ _ _ _ => trivial) ?_ ?_ _ _ _ _ ⟨u1.trans u2, "", none, ?_, rfl⟩
    · rintro n lo K hK Γ O3 ⟨u3, z, y, hz, rfl⟩
      walk_at "PO02 W0"
      refine ⟨p, rfl, u3.pool, fun c O4 u4 => ?_⟩
      refine w_fAddG ?_ fun a4 la4 => ?_
      · rw [one_len]; omega
      rw [one_len] at la4
      walk_at "PO02 W0"
      exact hK _ _ ⟨u3.trans u4, a4, _, by omega, rfl⟩
    · rintro lo Γ O3 ⟨u3, z, y, hz, rfl⟩
      walk_at "PO02 W0"
      exact w_fz (hq _ _ (by omega) u3)
    · rw [show ("" : Str).length = 0 from rfl]; omega
  · walk_at "PO02 W0"
    exact w_fz (hq _ _ (by omega) u1)
end K02

namespace K02
open PySem L2 L3
theorem cop_pow {t b : Int} (h : Int.gcd t b = 1) (n : Nat) : Int.gcd (t ^ n) (b ^ n) = 1 := by
  show Nat.gcd (t ^ n).natAbs (b ^ n).natAbs = 1
  rw [Int.natAbs_pow, Int.natAbs_pow]
  exact Nat.Coprime.pow n n h
theorem numL_len60 {n : Nat} (h : n < 10 ^ 60) : (numL n).length ≤ 60 := by
  have := (Nat.length_repr_le_iff (n := n) (k := 60) (by decide)).mpr h
  unfold numL
  rw [List.length_map]
  rw [← Nat.toList_repr, String.length_toList]
  exact this
theorem numL_digs {n : Nat} (h : n < 10 ^ 60) : digs (numL n) = true := digs_of (numL_ne n) (numL_len60 h) (numL_head n) fun _ hc => numL_digit hc
theorem numL_minus (n : Nat) : isMinus (numL n) = false := by
  unfold isMinus
  refine decide_eq_false fun h => ?_
  cases e : numL n with
  | nil => rw [e] at h; cases h
  | cons c r =>
    rw [e] at h
    have hc : c = 45 := Option.some.inj h
    have := numL_digit (n := n) (c := c) (by rw [e]; exact List.mem_cons_self)
    omega
theorem valL_num (n : Nat) : valL (numL n) = (n : Int) := by
  unfold valL
  rw [numL_val]
/-- a share's own text is read back -/
theorem read_shTxt {t b : Int} (hb : 0 < b) (hg : Int.gcd t b = 1) (ht : t.natAbs < 10 ^ 60) (hb6 : b.natAbs < 10 ^ 60) : readL (cs (shTxt t b)) = some (t, b) := by
  unfold readL
  rw [cs_shTxt, cutAt_app (numI_slash t)]
  have eb : numI b = numL b.natAbs := if_neg (by omega)
  have vb : valL (numL b.natAbs) = b := by rw [valL_num]; omega
  rw [eb]
  have g2 : Int.gcd (t.natAbs : Int) b = 1 := by
    rw [← hg]
    unfold Int.gcd
    rw [Int.natAbs_natCast]
  by_cases h : t < 0
  · have et : numI t = 45 :: numL t.natAbs := if_pos h
    have em : isMinus (45 :: numL t.natAbs) = true := rfl
    rw [et]
    simp only [em, if_true, List.tail_cons]
    rw [numL_digs ht, numL_digs hb6, vb, valL_num]
    rw [if_pos (show (true && true) = true from rfl), if_neg, show -(t.natAbs : Int) = t by omega]
    rintro (q | q | q)
    · omega
    · omega
    · exact q g2
  · have et : numI t = numL t.natAbs := if_neg h
    rw [et]
    simp only [numL_minus, Bool.false_eq_true, if_false]
    rw [numL_digs ht, numL_digs hb6, vb, valL_num]
    rw [if_pos (show (true && true) = true from rfl), if_neg, show (t.natAbs : Int) = t by omega]
    rintro (q | q | q)
    · omega
    · exact q.1
    · exact q g2
end K02

namespace K02
open PySem L2 L3
theorem numS_len {x : Int} {n : Nat} (h : Bd n x) (h0 : 0 < n) : (Str.ofString (toString x)).length ≤ n + 1 := num_len_le h h0
theorem w_s1 {S : FSpec} {x : Int} {O : Sto} {Q : PV} (bx : Bd 1500 x) (h : Q (.str (numS x)) O) : fStrO "Share" S [.int x] O Q := w_strOI (log_ok bx) h
theorem w_s2 {x : Int} {O : Sto} {Q : PV} (bx : Bd 1500 x) (h : Q (.str (numS x ++ "/")) O) : fAdd (.str (numS x)) (.str "/") O Q := by
  have hS := big_line
  have e1 := num_len bx
  have e3 : ("/" : Str).length = 1 := rfl
  exact w_fAddS (by omega) h
theorem w_s3 {x y : Int} {O : Sto} {Q : PV} (bx : Bd 1500 x) (by' : Bd 1500 y) (h : Q (.str (shTxt x y)) O) : fAdd (.str (numS x ++ "/")) (.str (numS y)) O Q := by
  have hS := big_line
  have e1 := num_len bx
  have e2 := num_len by'
  have e3 : ("/" : Str).length = 1 := rfl
  refine w_fAddS ?_ h
  rw [app_len]
  omega
theorem len_shTxt {x y : Int} (bx : Bd 1500 x) (by' : Bd 1500 y) : (shTxt x y).length ≤ 10000 := by
  have e1 := num_len bx
  have e2 := num_len by'
  have e3 : ("/" : Str).length = 1 := rfl
  unfold shTxt
  rw [app_len, app_len]
  omega
end K02

namespace K02
open PySem L2 L3
theorem big_nat : big = ((10 ^ 60 : Nat) : Int) := by decide +kernel
theorem pow1 (t : Int) : t = t ^ (0 + 1) := by rw [Int.pow_succ, Int.pow_zero, Int.one_mul]
local macro_rules | `(tactic| walk_at "PR02 W0") => `(tactic| (repeat' first | with_reducible refine w_seq ?_ | with_reducible refine w_sui ?_ | with_reducible refine w_next ?_ | with_reducible refine w_brk ?_ | with_reducible refine w_cont ?_ | with_reducible refine w_ret ?_ | with_reducible refine w_retN ?_ | with_reducible refine w_drop ?_ | with_reducible refine w_if ?_ | with_reducible refine w_asg ?_ | with_reducible refine w_par ?_ | with_reducible refine w_setA ?_ | with_reducible refine w_raise ?_ | with_reducible refine w_for ?_ | with_reducible refine w_forR1 ?_ | with_reducible refine w_forLst ?_ | with_reducible refine w_tgName ?_ | with_reducible refine w_tgIx ?_ | with_reducible refine w_tgCons ?_ | with_reducible refine w_tgNil ?_ | with_reducible refine w_un ?_ | with_reducible refine w_op ?_ | with_reducible refine w_B ?_ | with_reducible refine w_tru ?_ | with_reducible refine w_and ?_ | with_reducible refine w_or ?_ | with_reducible refine w_not ?_ | with_reducible refine w_andV ?_ | with_reducible refine w_orV ?_ | with_reducible refine w_notV ?_ | with_reducible refine w_ifE ?_ | with_reducible refine w_nil ?_ | with_reducible refine w_cons ?_ | with_reducible refine w_tup ?_ | with_reducible refine w_lst ?_ | with_reducible refine w_cb ?_ | with_reducible refine w_call ?_ | with_reducible refine w_slice ?_ | with_reducible refine w_oNone ?_ | with_reducible refine w_onBl ?_ | with_reducible refine w_onTruB ?_ | with_reducible refine w_kT ?_ | with_reducible refine w_kF ?_ | with_reducible refine w_fAdd ?_ | with_reducible refine w_fSub ?_ | with_reducible refine w_fNeg ?_ | with_reducible refine w_fLt ?_ | with_reducible refine w_fLe ?_ | with_reducible refine w_fGt ?_ | with_reducible refine w_fGe ?_ | with_reducible refine w_fEqI ?_ | with_reducible refine w_fNeI ?_ | with_reducible refine w_fEqB ?_ | with_reducible refine w_fEqS ?_ | with_reducible refine w_fInt ?_ | with_reducible refine w_fIntB ?_ | with_reducible refine w_fAbs ?_ | with_reducible refine w_fMax ?_ | with_reducible refine w_fMin ?_ | with_reducible refine w_fGcd ?_ | with_reducible refine w_fLenL ?_ | with_reducible refine w_fLenT ?_ | with_reducible refine w_own ?_ | with_reducible refine w_ownI ?_ | with_reducible refine w_eqOwnI ?_ | with_reducible refine w_c ?_ | with_reducible refine w_make ?_ | with_reducible refine w_makeK ?_ | with_reducible refine w_par2 ?_ | with_reducible refine w_slLst ?_ | with_reducible refine w_p10_6 ?_ | with_reducible refine w_p10_8 ?_ | with_reducible refine w_p10_18 ?_ | with_reducible refine w_p10_30 ?_ | with_reducible refine w_p10_51 ?_ | with_reducible refine w_p10_59 ?_ | with_reducible refine w_p10_60 ?_ | with_reducible refine w_p2_63 ?_ | with_reducible refine w_p2_64 ?_ | with_reducible refine w_comp ?_ | with_reducible refine w_meth ?_ | with_reducible refine w_app ?_ | with_reducible refine w_tupOf ?_ | with_reducible refine w_tupL ?_ | with_reducible refine w_tupT ?_ | with_reducible refine w_forTup ?_ | with_reducible refine w_sm ?_ | with_reducible refine w_sm0 ?_ | with_reducible refine w_isStr ?_ | with_reducible refine w_find ?_ | with_reducible refine w_starts ?_ | with_reducible refine w_isascii ?_ | with_reducible refine w_isdigit ?_ | with_reducible refine w_str1S ?_ | with_reducible refine w_strO ?_ | with_reducible refine w_fmt ?_ | with_reducible refine w_join ?_ | with_reducible refine w_jsNil ?_ | with_reducible refine w_jsCons ?_ | with_reducible refine w_inS ?_ | with_reducible refine w_notInS ?_ | with_reducible refine w_statI ?_ | with_reducible refine w_fNeS ?_ | with_reducible refine w_ownS ?_ | ((with_reducible apply w_var); exact rfl) | ((with_reducible apply w_isE); exact rfl) | ((with_reducible apply w_onTru); exact rfl) | ((with_reducible apply w_tgTup); exact rfl) | ((with_reducible refine w_fPow ?_ ?_); exact ⟨by decide, by decide, by decide⟩) | (with_reducible refine w_fMod (by decide) ?_) | ((with_reducible apply w_fIxT); exact rfl) | ((with_reducible apply w_fIxL); exact rfl) | (with_reducible refine w_oSome ?_) | ((with_reducible apply w_fIxC); (first | with_reducible exact put_same | assumption); exact rfl) | ((with_reducible apply w_fLenC); (first | with_reducible exact put_same | assumption)) | ((with_reducible apply w_setL); (first | with_reducible exact put_same | assumption); exact rfl) | ((with_reducible refine And.intro (a := List.length _ ≤ sizeLine) ?_ ?_); exact Nat.le_of_ble_eq_true rfl) | (with_reducible refine And.intro (a := List.length _ = _) rfl ?_) | (with_reducible refine w_fld ?_) | (with_reducible refine w_isT ?_) | (with_reducible refine w_isO ?_) | ((with_reducible refine Exists.intro ?_ (And.intro (a := fldD _ _ _ _ = _) ?_ ?_)); rotate_left; first | with_reducible exact fld_top | with_reducible exact fld_bot | exact rfl) | ((with_reducible refine Exists.intro ?_ (And.intro (a := isT _ _ _ = _) ?_ ?_)); rotate_left; exact rfl) | ((with_reducible refine Exists.intro ?_ (And.intro (a := isO _ _ _ = _) ?_ ?_)); rotate_left; exact rfl) | ((with_reducible refine Exists.intro ?_ (And.intro (a := D.int _ = D.int _) ?_ ?_)); rotate_left; exact rfl) | ((with_reducible refine w_kT' (k := T3.isInt _) ?_ ?_); exact rfl) | ((with_reducible refine w_kF' (k := T3.isInt _) ?_ ?_); exact rfl) | ((with_reducible refine w_kT' (k := T3.isBl _) ?_ ?_); exact rfl) | ((with_reducible refine w_kF' (k := T3.isBl _) ?_ ?_); exact rfl) | ((with_reducible refine w_kT' (k := T3.isStr _) ?_ ?_); exact rfl) | ((with_reducible refine w_kF' (k := T3.isStr _) ?_ ?_); exact rfl) | ((with_reducible refine w_kT' (k := T3.isTup _) ?_ ?_); exact rfl) | ((with_reducible refine w_kF' (k := T3.isTup _) ?_ ?_); exact rfl) | ((with_reducible refine w_kT' (k := T3.isLst _) ?_ ?_); exact rfl) | ((with_reducible refine w_kF' (k := T3.isLst _) ?_ ?_); exact rfl) | ((with_reducible refine And.intro (a := insD _ _ _ _) ?_ ?_); (first | exact ⟨rfl, rfl⟩)) | (with_reducible refine w_kF' (k := !true) rfl ?_) | (with_reducible refine w_kT' (k := !false) rfl ?_) | ((with_reducible refine w_kT' (k := decide _) ?_ ?_); decide +kernel) | ((with_reducible refine w_kF' (k := decide _) ?_ ?_); decide +kernel)))
theorem b_law : BodyOk ["script", "up", "down", "low", "text", "second", "one", "product", "due", "k", "again"] 1 sp_law m_law := by
  rintro ds O Z P hl ⟨ns, rfl, hq⟩
  have hS := big_line
  show m_law (En.mk _ _ _ _ _) [some (.lst (ns.map D.int)), none, none, none, none, none, none, none, none, none, none] O
  unfold m_law
  walk_at "PR02 W0"
  refine ⟨ns, 0, rfl, fun p1 _ _ _ _ hp1 => ?_⟩
  walk_at "PR02 W0"
  refine ⟨p1, rfl, ⟨_, _, _, _, put_same⟩, fun u d O1 u0 u1 d0 d1 upd1 => ?_⟩
  walk_at "PR02 W0"
  have h1 : Fr u d := ⟨by omega, by omega, d0, by omega⟩
  obtain ⟨l1, l2, l3, l4, l5⟩ := lowP_ok (u := u) h1.z
  have bt : Bd 200 (lowP u d).1 := h1.bu.le l5
  have bb : Bd 200 (lowP u d).2 := h1.bd.le (by omega)
  have el : shr u d = shr (lowP u d).1 (lowP u d).2 := shr_eq h1.z l1 l3
  have nt : (lowP u d).1.natAbs < 10 ^ 60 := by
    have e := big_nat
    generalize (10 ^ 60 : Nat) = N at *
    omega
  have nb : (lowP u d).2.natAbs < 10 ^ 60 := by
    have e := big_nat
    generalize (10 ^ 60 : Nat) = N at *
    omega
  refine ⟨u, d, rfl, Sz.fr h1, ?_⟩
  have hread := read_shTxt l1 l2 nt nb
  have hself := (low_self l1).mpr l2
  have epr : pr (lowP u d) = .tup [.int (lowP u d).1, .int (lowP u d).2] := rfl
  rw [epr]
  clear epr
  have pb := l1
  generalize (lowP u d).1 = t at *
  generalize (lowP u d).2 = b at *
  have ct : Bd 1500 t := bt.mono (by decide)
  have cb : Bd 1500 b := bb.mono (by decide)
  walk_at "PR02 W0"
  refine w_s1 ct ?_
  walk_at "PR02 W0"
  refine w_s2 ct ?_
  walk_at "PR02 W0"
  refine w_s1 cb ?_
  refine w_s3 ct cb ?_
  walk_at "PR02 W0"
  refine ⟨ns, 1, rfl, fun p2 _ _ _ _ hp2 => ?_⟩
  walk_at "PR02 W0"
  refine ⟨p2, t, b, rfl, ⟨_, _, _, _, put_same⟩, bt, bb, fun y O2 hy upd2 => ?_⟩
  walk_at "PR02 W0"
  intro q hq'
  refine make_shr hq' h1.z (h1.bd.mono (by decide)) ?_
  rw [el]
  walk_at "PR02 W0"
  refine ⟨ns, 2, rfl, fun p3 _ _ _ _ hp3 => ?_⟩
  walk_at "PR02 W0"
  refine ⟨p3, 6, rfl, ⟨_, _, _, _, put_same⟩, by decide, by decide, fun r O3 r0 r1 upd3 => ?_⟩
  walk_at "PR02 W0"
  refine w_rng1 (by omega) ?_
  have rn : r.toNat ≤ 5 := by omega
  refine w_forN (fun n lo Γ O4 => ∃ (i : Nat) (X Y : Int) (k : Option D), i + n ≤ 5 ∧ X = t ^ (i + 1) ∧ Y = b ^ (i + 1) ∧ Bd (200 * (i + 1)) X ∧ Bd (200 * (i + 1)) Y ∧ Γ = [some (.lst (ns.map D.int)), some (.int u), some (.int d), some (.tup [.int t, .int b]), some (.str (shTxt t b)), some (.str y), some (shr t b), some (shr X Y), some (.tup [.int X, .int Y]), k, none]) (fun _ _ _ _ _ => trivial) ?_ ?_ _ _ _ _ ⟨0, t, b, none, by omega, pow1 t, pow1 b, bt, bb, rfl⟩
  · rintro n lo K hK Γ O4 ⟨i, X, Y, k, hi, hX, hY, bX, bY, rfl⟩
    have pY : 0 < Y := by rw [hY]; exact Int.pow_pos pb
    walk_at "PR02 W0"
    refine ⟨X, Y, t, b, rfl, ⟨pY, bX.mono (by omega), bY.mono (by omega)⟩, ⟨pb, bt.mono (by decide), bb.mono (by decide)⟩, ?_⟩
    walk_at "PR02 W0"
    refine w_fMul (mul4 (bX.mono (by omega)) (bt.mono (by decide))) ?_
    walk_at "PR02 W0"
    refine w_fMul (mul4 (bY.mono (by omega)) (bb.mono (by decide))) ?_
    walk_at "PR02 W0"
    exact hK _ _ ⟨i + 1, X * t, Y * b, _, by omega, by rw [Int.pow_succ _ (i + 1), hX], by rw [Int.pow_succ _ (i + 1), hY], (bX.mul bt).mono (by omega), (bY.mul bb).mono (by omega), rfl⟩
  · rintro lo Γ O4 ⟨i, X, Y, k, hi, hX, hY, bX, bY, rfl⟩
    have pY : 0 < Y := by rw [hY]; exact Int.pow_pos pb
    have cX : Bd 1500 X := bX.mono (by omega)
    have cY : Bd 1500 Y := bY.mono (by omega)
    have gXY : Int.gcd X Y = 1 := by rw [hX, hY]; exact cop_pow l2 _
    have sXY := (low_self pY).mpr gXY
    have e0 : ∀ z : Str, (!decide (z = z)) = false := fun z => by simp
    walk_at "PR02 W0"
    refine w_strO ?_
    refine ⟨t, b, rfl, pb, ct, cb, trivial, ?_⟩
    rw [hself.1, hself.2]
    walk_at "PR02 W0"
    rw [e0]
    walk_at "PR02 W0"
    refine w_strO ?_
    refine ⟨X, Y, rfl, pY, cX, cY, trivial, ?_⟩
    rw [sXY.1, sXY.2]
    walk_at "PR02 W0"
    refine w_s1 cX ?_
    walk_at "PR02 W0"
    refine w_s2 cX ?_
    walk_at "PR02 W0"
    refine w_s1 cY ?_
    refine w_s3 cX cY ?_
    walk_at "PR02 W0"
    rw [e0]
    walk_at "PR02 W0"
    refine ⟨y, rfl, hy, fun O5 => ?_⟩
    walk_at "PR02 W0"
    refine ⟨_, rfl, len_shTxt ct cb, fun O6 => ?_⟩
    walk_at "PR02 W0"
    refine ⟨y, rfl, hy, fun O7 => ?_⟩
    walk_at "PR02 W0"
    refine w_s1 cX ?_
    walk_at "PR02 W0"
    refine w_s2 cX ?_
    walk_at "PR02 W0"
    refine w_s1 cY ?_
    refine w_s3 cX cY ?_
    walk_at "PR02 W0"
    refine ⟨_, rfl, len_shTxt cX cY, fun O8 => ?_⟩
    walk_at "PR02 W0"
    refine ⟨_, rfl, len_shTxt ct cb, .inr ⟨t, b, hread, ?_⟩⟩
    walk_at "PR02 W0"
    refine ⟨t, b, t, b, rfl, pb, pb, l2, rfl, ?_⟩
    walk_at "PR02 W0"
    refine ⟨t, b, t, b, rfl, pb, pb, l2, rfl, ?_⟩
    walk_at "PR02 W0"
    refine w_strO ?_
    refine ⟨t, b, rfl, pb, ct, cb, trivial, ?_⟩
    rw [hself.1, hself.2]
    walk_at "PR02 W0"
    show fEq false (.str (shTxt t b)) (.str (shTxt t b)) O8 (orFz P)
    refine w_fEqS ?_
    have e : decide (shTxt t b = shTxt t b) = true := by simp
    rw [e]
    exact w_fz (hq _)
end K02

namespace L3
open PySem PySem.Spec PyProof.Rows L2

/-! ## what a def leans on, one list at a time -/
section
variable (P : Program) (w : World) (K : PySem.W.Frag) (mg : Str → Option Value) (base : Heap)
/-- a def that may be called -/
def FnG (k : Nat) (q : Str × Nat × FSpec) : Prop := ∃ k' f fd ps, k' ≤ k ∧ FnOk P w K mg base (L2.CX P w) k' f fd ps (spOf K q.2.1 q.2.2) ∧ mg q.1 = some (.ref f) ∧ PySem.W.keepIn K (.ref f) = true ∧ Binds K fd ps []
def MkG (k : Nat) (q : Str × Nat × FSpec × List D) : Prop := ∃ k' f fd ps dvs ds, k' + 1 ≤ k ∧ Mk K (He.ga K q.1) f ∧ FnOk P w K mg base (L2.CX P w) k' f fd ps (spOf K (q.2.1 + 1 + q.2.2.2.length) q.2.2.1) ∧ mg q.1 = some (.ref (He.ga K q.1)) ∧ Binds K fd ps ds ∧ Vals dvs ds ∧ ∀ H, Iss K H dvs q.2.2.2
def MwG (k : Nat) (q : Str × Nat × Str × FSpec) : Prop := ∃ k' f fd ps, k' + 1 ≤ k ∧ Mk K (He.ga K q.1) f ∧ FnOk P w K mg base (L2.CX P w) k' f fd ps (spOf K (q.2.1 + 2) q.2.2.2) ∧ mg q.1 = some (.ref (He.ga K q.1)) ∧ KBn K fd ps (q.2.1 + 1) [q.2.2.1] (fun us ws => us ++ ws) (fun vs zs => vs ++ zs)
/-- a class's own method -/
def MtG (k : Nat) (q : Str × Str × Nat × FSpec) : Prop := ∃ k' f fd ps, k' ≤ k ∧ Cls K (He.ga K q.2.1) ∧ Meth K (He.ga K q.2.1) q.1 f ∧ FnOk P w K mg base (L2.CX P w) k' f fd ps (spOf K (q.2.2.1 + 1) q.2.2.2) ∧ Binds K fd ps []
/-- a staticmethod -/
def SmG (k : Nat) (q : Str × Str × Nat × FSpec) : Prop := ∃ k' p g fd ps, k' ≤ k ∧ SmC K (He.ga K q.2.1) q.1 p g ∧ SmI K (He.ga K q.2.1) q.1 p g ∧ FnOk P w K mg base (L2.CX P w) k' g fd ps (spOf K q.2.2.1 q.2.2.2) ∧ Binds K fd ps [] ∧ mg q.2.1 = some (.ref (He.ga K q.2.1))
/-- a class's own text -/
def SoG (k : Nat) (q : Str × FSpec) : Prop := ∃ k' f fd ps, k' + 2 ≤ k ∧ FnOk P w K mg base (L2.CX P w) k' f fd ps (spOf K 1 q.2) ∧ Binds K fd ps [] ∧ PySem.W.findIn K (.ref (He.ga K q.1)) "__str__" = some (some (.ref f)) ∧ PySem.W.isFn K (.ref f) = true
/-- a constant of the module -/
def CsG (q : Str × D) : Prop := ∃ v u, mg q.1 = some u ∧ RelV v u ∧ ∀ H, Is K H v q.2
/-- a class's own operator -/
def OwG (k : Nat) (C : Str) (q : Str × FSpec) : Prop := ∃ k' f fd ps, k' ≤ k ∧ FnOk P w K mg base (L2.CX P w) k' f fd ps (spOf K 2 q.2) ∧ Binds K fd ps [] ∧ PySem.W.selfFirst K (He.ga K C) = true ∧ PySem.W.findIn K (.ref (He.ga K C)) q.1 = some (some (.ref f)) ∧ PySem.W.isFn K (.ref f) = true
end
def All {α : Type} (p : α → Prop) : List α → Prop
  | [] => True
  | a :: r => p a ∧ All p r
theorem All.mem {α : Type} {p : α → Prop} : ∀ {l : List α}, All p l → ∀ x ∈ l, p x
  | _ :: _, h, _, .head _ => h.1
  | _ :: _, h, x, .tail _ m => All.mem h.2 x m
theorem lookup_mem {β : Type} {x : Str} {v : β} : ∀ {l : List (Str × β)}, l.lookup x = some v → (x, v) ∈ l
  | [], h => by cases h
  | (y, u) :: r, h => by
    rw [List.lookup_cons] at h
    cases q : (x == y) with
    | true =>
      rw [q] at h
      cases h
      rw [beq_iff_eq.mp q]
      exact List.mem_cons_self
    | false =>
      rw [q] at h
      exact List.mem_cons_of_mem _ (lookup_mem h)
section
variable {c : CI} {P : Program} {w : World} {K : PySem.W.Frag} {mg : Str → Option Value} {base : Heap} {k : Nat}
theorem FnG.up {q : Str × Nat × FSpec} {k k' : Nat} (h : FnG P w K mg base k q) (e : k ≤ k') : FnG P w K mg base k' q := by
  obtain ⟨a, f, fd, ps, l, r⟩ := h
  exact ⟨a, f, fd, ps, Nat.le_trans l e, r⟩
theorem MkG.up {q : Str × Nat × FSpec × List D} {k k' : Nat} (h : MkG P w K mg base k q) (e : k ≤ k') : MkG P w K mg base k' q := by
  obtain ⟨a, f, fd, ps, dv, ds, l, r⟩ := h
  exact ⟨a, f, fd, ps, dv, ds, Nat.le_trans l e, r⟩
theorem MwG.up {q : Str × Nat × Str × FSpec} {k k' : Nat} (h : MwG P w K mg base k q) (e : k ≤ k') : MwG P w K mg base k' q := by
  obtain ⟨a, f, fd, ps, l, r⟩ := h
  exact ⟨a, f, fd, ps, Nat.le_trans l e, r⟩
theorem MtG.up {q : Str × Str × Nat × FSpec} {k k' : Nat} (h : MtG P w K mg base k q) (e : k ≤ k') : MtG P w K mg base k' q := by
  obtain ⟨a, f, fd, ps, l, r⟩ := h
  exact ⟨a, f, fd, ps, Nat.le_trans l e, r⟩
theorem SmG.up {q : Str × Str × Nat × FSpec} {k k' : Nat} (h : SmG P w K mg base k q) (e : k ≤ k') : SmG P w K mg base k' q := by
  obtain ⟨a, p, g, fd, ps, l, r⟩ := h
  exact ⟨a, p, g, fd, ps, Nat.le_trans l e, r⟩
theorem SoG.up {q : Str × FSpec} {k k' : Nat} (h : SoG P w K mg base k q) (e : k ≤ k') : SoG P w K mg base k' q := by
  obtain ⟨a, f, fd, ps, l, r⟩ := h
  exact ⟨a, f, fd, ps, Nat.le_trans l e, r⟩
theorem OwG.up {C : Str} {q : Str × FSpec} {k k' : Nat} (h : OwG P w K mg base k C q) (e : k ≤ k') : OwG P w K mg base k' C q := by
  obtain ⟨a, f, fd, ps, l, r⟩ := h
  exact ⟨a, f, fd, ps, Nat.le_trans l e, r⟩
/-- what all defs of a text share -/
structure GB (tb : List (Str × Str)) (oc es er fr : List Str) (b : Str) (K : PySem.W.Frag) (mg : Str → Option Value) : Prop where
  tab : AtOk K tb
  ocl : ∀ x ∈ oc, OEq K (He.ga K x) ∧ mg x = some (.ref (He.ga K x))
  exs : XcT K es
  exg : ∀ x ∈ es, mg x = some (.ref (He.ga K x))
  exa : ∀ x ∈ er, XcAt K mg x
  exb : es ≠ [] → mg b = some (.ref (He.ga K b)) ∧ ∀ C ∈ es, PySem.W.exmOne K (.ref (He.ga K C)) (.ref (He.ga K b)) = some true
  free : ∀ x ∈ fr, mg x = none
theorem Glob.of (B : GB c.tab c.ocl c.exs c.exr c.free c.base K mg) (f : All (FnG P w K mg base k) c.fns) (m : All (MkG P w K mg base k) c.mks) (mw : All (MwG P w K mg base k) c.mkw) (mt : All (MtG P w K mg base k) c.mth) (cs : All (CsG K mg) c.cst) (sm : All (SmG P w K mg base k) c.sts) (so : ∀ q, c.stro = some q → SoG P w K mg base k q)
    (o : ∀ o, c.own = some o → All (OwG P w K mg base k o.C) o.ops ∧ OwG P w K mg base k o.C ("__eq__", o.eq) ∧ o.C ∈ c.ocl) (g : c.gcd = true → mg "gcd" = some (.builtin "math.gcd")) : Glob c P w K mg base k where
  fns := fun x n S h => f.mem (x, n, S) (lookup_mem h)
  mks := fun q h => m.mem q h
  mkw := fun q h => mw.mem q h
  mth := fun m C n S h => mt.mem (m, C, n, S) (lookup_mem h)
  cst := fun x d h => cs.mem (x, d) (lookup_mem h)
  sts := fun m C n S h => sm.mem (m, C, n, S) (lookup_mem h)
  stro := fun C S h => so (C, S) h
  tab := B.tab
  ocl := fun x h => ⟨(B.ocl x h).1.oc, (B.ocl x h).2⟩
  exs := B.exs
  exg := B.exg
  exa := B.exa
  exb := B.exb
  free := B.free
  own := fun q h => ⟨fun op S e => (o q h).1.mem (PySem.dunder op.info.2, S) (lookup_mem e), (o q h).2.1, (B.ocl _ (o q h).2.2).1⟩
  gcd := g
end
/-- the script, as it comes -/
theorem law_start {K : PySem.W.Frag} {S : FSpec} {H : Hp} {a : Addr} (ns : List Int) (hO : Only H) (hS : SqL K H a (ns.map V.int)) (h : ∀ P : PV, (∀ O', P (.bl true) O') → S [.lst (ns.map D.int)] (fun _ => none) (fun _ _ _ => False) P) :
    [V.ref a].length = 1 ∧ ∃ H0 O ds P, Iss K H0 [V.ref a] ds ∧ Sta K H0 O H ∧ S ds O (fun _ _ _ => False) P ∧ LinkV K H0 P (fun v _ => v = .bl true) := by
  have ii : Iss K H (ns.map V.int) (ns.map D.int) := by
    refine ⟨by simp, fun i v d e1 e2 => ?_⟩
    rw [List.getElem?_map] at e1 e2
    cases q : ns[i]? with
    | none => rw [q] at e1; cases e1
    | some n => rw [q] at e1 e2; cases e1; cases e2; exact .int n
  refine ⟨rfl, H, fun _ => none, _, fun d _ => d = .bl true, .cons (.lst hS ii.1 ii.2) .nil, ⟨Same.refl _, fun p o e => by cases e⟩, h _ fun _ => rfl, ?_⟩
  intro H1 v d O' H' s is st e
  subst e
  cases is
  rfl
theorem so_none {p : Str × FSpec → Prop} : ∀ q, (none : Option (Str × FSpec)) = some q → p q := fun _ h => nomatch h
theorem so_some {a : Str × FSpec} {p : Str × FSpec → Prop} (h : p a) : ∀ q, some a = some q → p q := fun _ e => by cases e; exact h
theorem own_none {p : OwnI → Prop} : ∀ o, (none : Option OwnI) = some o → p o := fun _ h => nomatch h
theorem own_some {q : OwnI} {p : OwnI → Prop} (h : p q) : ∀ o, some q = some o → p o := fun _ e => by cases e; exact h
theorem gcd_no {p : Prop} : false = true → p := fun h => nomatch h
theorem cs_int {K : PySem.W.Frag} {h : Heap} {mg : Str → Option Value} (X : K.In h) (G : h.Ns mainGlobals mg) {x : Str} {i : Int} (c : (He.Fa.int x i).ok K = true) : CsG K mg (x, .int i) := by
  obtain ⟨t, e⟩ := He.int_ok X G c
  exact ⟨.int i, _, e, ⟨t, rfl⟩, fun H => .int i⟩
theorem cs_str {K : PySem.W.Frag} {h : Heap} {mg : Str → Option Value} (X : K.In h) (G : h.Ns mainGlobals mg) {x z : Str} (c : (He.Fa.str x z).ok K = true) : CsG K mg (x, .str z) := by
  obtain ⟨t, e⟩ := He.str_ok X G c
  exact ⟨.str z, _, e, ⟨t, rfl⟩, fun H => .str z⟩
end L3

namespace K02
open PySem PySem.Spec PyProof.Rows L2 L3
/-! Printed by gen.py: the law's text and its readings. -/
def topS (i : Nat) : Stmt := PySem.Challenge.pw_oddsward_k02_share_texts.main.body.getD i (.Pass ⟨0, 0, 0, 0⟩)
def freeN : List Str := ["ValueError", "abs", "bool", "int", "isinstance", "len", "max", "range", "str"]
abbrev s_Share_init : Stmt := (inClass (topS 15) 0)
def ci_Share_init : CI := { N := ["self", "top", "bottom", "divisor"], sc := defScope s_Share_init, tab := t_tab, ocl := ["Share"], exs := t_exs, exr := ["BadShare"], free := freeN, gcd := true }
theorem sc_Share_init : FnScope ci_Share_init.N ["self", "top", "bottom"] (defScope s_Share_init) := ⟨rfl, rfl, rfl, by decide +kernel, rfl, by decide +kernel, by decide +kernel⟩
theorem c_Share_init : (comp 80 ci_Share_init).Ss (defBody s_Share_init) = some m_Share_init := by kernel_rfl
abbrev s_Share_mul : Stmt := (inClass (topS 15) 3)
def ci_Share_mul : CI := { N := ["self", "other"], sc := defScope s_Share_mul, tab := t_tab, ocl := ["Share"], exs := t_exs, exr := ["BadShare"], free := freeN, mks := [("Share", 2, sp_Share_init, [])] }
theorem sc_Share_mul : FnScope ci_Share_mul.N ["self", "other"] (defScope s_Share_mul) := ⟨rfl, rfl, rfl, by decide +kernel, rfl, by decide +kernel, by decide +kernel⟩
theorem c_Share_mul : (comp 80 ci_Share_mul).Ss (defBody s_Share_mul) = some m_Share_mul := by kernel_rfl
abbrev s_Share_eq : Stmt := (inClass (topS 15) 4)
def ci_Share_eq : CI := { N := ["self", "other"], sc := defScope s_Share_eq, tab := t_tab, ocl := ["Share"], exs := t_exs, exr := ["BadShare"], free := freeN }
theorem sc_Share_eq : FnScope ci_Share_eq.N ["self", "other"] (defScope s_Share_eq) := ⟨rfl, rfl, rfl, by decide +kernel, rfl, by decide +kernel, by decide +kernel⟩
theorem c_Share_eq : (comp 80 ci_Share_eq).Ss (defBody s_Share_eq) = some m_Share_eq := by kernel_rfl
abbrev s_Share_str : Stmt := (inClass (topS 15) 5)
def ci_Share_str : CI := { N := ["self"], sc := defScope s_Share_str, tab := t_tab, ocl := ["Share"], exs := t_exs, exr := ["BadShare"], free := freeN }
theorem sc_Share_str : FnScope ci_Share_str.N ["self"] (defScope s_Share_str) := ⟨rfl, rfl, rfl, by decide +kernel, rfl, by decide +kernel, by decide +kernel⟩
theorem c_Share_str : (comp 80 ci_Share_str).Ss (defBody s_Share_str) = some m_Share_str := by kernel_rfl
abbrev s_is_unsigned : Stmt := (topS 16)
def ci_is_unsigned : CI := { N := ["text"], sc := defScope s_is_unsigned, tab := t_tab, ocl := ["Share"], exs := t_exs, exr := ["BadShare"], free := freeN, cst := [("MOST_DIGITS", (.int 60))] }
theorem sc_is_unsigned : FnScope ci_is_unsigned.N ["text"] (defScope s_is_unsigned) := ⟨rfl, rfl, rfl, by decide +kernel, rfl, by decide +kernel, by decide +kernel⟩
theorem c_is_unsigned : (comp 80 ci_is_unsigned).Ss (defBody s_is_unsigned) = some m_is_unsigned := by kernel_rfl
abbrev s_Share_parse : Stmt := (inClass (topS 15) 7)
def ci_Share_parse : CI := { N := ["text", "top", "_", "bottom", "share"], sc := defScope s_Share_parse, tab := t_tab, ocl := ["Share"], exs := t_exs, exr := ["BadShare"], free := freeN, fns := [("is_unsigned", 1, sp_is_unsigned)], mks := [("Share", 2, sp_Share_init, [])], stro := some ("Share", sp_Share_str) }
theorem sc_Share_parse : FnScope ci_Share_parse.N ["text"] (defScope s_Share_parse) := ⟨rfl, rfl, rfl, by decide +kernel, rfl, by decide +kernel, by decide +kernel⟩
theorem c_Share_parse : (comp 80 ci_Share_parse).Ss (defBody s_Share_parse) = some m_Share_parse := by kernel_rfl
abbrev s_law_int : Stmt := (topS 18)
def ci_law_int : CI := { N := ["x"], sc := defScope s_law_int, tab := t_tab, ocl := ["Share"], exs := t_exs, exr := ["BadShare"], free := freeN }
theorem sc_law_int : FnScope ci_law_int.N ["x"] (defScope s_law_int) := ⟨rfl, rfl, rfl, by decide +kernel, rfl, by decide +kernel, by decide +kernel⟩
theorem c_law_int : (comp 80 ci_law_int).Ss (defBody s_law_int) = some m_law_int := by kernel_rfl
abbrev s_law_pool : Stmt := (topS 19)
def ci_law_pool : CI := { N := ["script", "at", "cell", "kind"], sc := defScope s_law_pool, tab := t_tab, ocl := ["Share"], exs := t_exs, exr := ["BadShare"], free := freeN }
theorem sc_law_pool : FnScope ci_law_pool.N ["script", "at"] (defScope s_law_pool) := ⟨rfl, rfl, rfl, by decide +kernel, rfl, by decide +kernel, by decide +kernel⟩
theorem c_law_pool : (comp 80 ci_law_pool).Ss (defBody s_law_pool) = some m_law_pool := by kernel_rfl
abbrev s_law_stirred : Stmt := (topS 20)
def ci_law_stirred : CI := { N := ["script", "at", "pool", "cell"], sc := defScope s_law_stirred, tab := t_tab, ocl := ["Share"], exs := t_exs, exr := ["BadShare"], free := freeN, fns := [("_law_pool", 2, sp_law_pool)] }
theorem sc_law_stirred : FnScope ci_law_stirred.N ["script", "at"] (defScope s_law_stirred) := ⟨rfl, rfl, rfl, by decide +kernel, rfl, by decide +kernel, by decide +kernel⟩
theorem c_law_stirred : (comp 80 ci_law_stirred).Ss (defBody s_law_stirred) = some m_law_stirred := by kernel_rfl
abbrev s_law_draw : Stmt := (topS 21)
def ci_law_draw : CI := { N := ["pool", "many", "got", "x"], sc := defScope s_law_draw, tab := t_tab, ocl := ["Share"], exs := t_exs, exr := ["BadShare"], free := freeN }
theorem sc_law_draw : FnScope ci_law_draw.N ["pool", "many"] (defScope s_law_draw) := ⟨rfl, rfl, rfl, by decide +kernel, rfl, by decide +kernel, by decide +kernel⟩
theorem c_law_draw : (comp 80 ci_law_draw).Ss (defBody s_law_draw) = some m_law_draw := by kernel_rfl
abbrev s_law_size : Stmt := (topS 22)
def ci_law_size : CI := { N := ["pool", "kind", "total", "k"], sc := defScope s_law_size, tab := t_tab, ocl := ["Share"], exs := t_exs, exr := ["BadShare"], free := freeN, fns := [("_law_draw", 2, sp_law_draw)] }
theorem sc_law_size : FnScope ci_law_size.N ["pool"] (defScope s_law_size) := ⟨rfl, rfl, rfl, by decide +kernel, rfl, by decide +kernel, by decide +kernel⟩
theorem c_law_size : (comp 80 ci_law_size).Ss (defBody s_law_size) = some m_law_size := by kernel_rfl
abbrev s_law_fraction : Stmt := (topS 23)
def ci_law_fraction : CI := { N := ["pool", "up", "down", "k"], sc := defScope s_law_fraction, tab := t_tab, ocl := ["Share"], exs := t_exs, exr := ["BadShare"], free := freeN, fns := [("_law_draw", 2, sp_law_draw), ("_law_size", 1, sp_law_size)] }
theorem sc_law_fraction : FnScope ci_law_fraction.N ["pool"] (defScope s_law_fraction) := ⟨rfl, rfl, rfl, by decide +kernel, rfl, by decide +kernel, by decide +kernel⟩
theorem c_law_fraction : (comp 80 ci_law_fraction).Ss (defBody s_law_fraction) = some m_law_fraction := by kernel_rfl
abbrev s_law_low : Stmt := (topS 24)
def ci_law_low : CI := { N := ["up", "down", "x", "y"], sc := defScope s_law_low, tab := t_tab, ocl := ["Share"], exs := t_exs, exr := ["BadShare"], free := freeN }
theorem sc_law_low : FnScope ci_law_low.N ["up", "down"] (defScope s_law_low) := ⟨rfl, rfl, rfl, by decide +kernel, rfl, by decide +kernel, by decide +kernel⟩
theorem c_law_low : (comp 80 ci_law_low).Ss (defBody s_law_low) = some m_law_low := by kernel_rfl
abbrev s_law_sign : Stmt := (topS 25)
def ci_law_sign : CI := { N := ["pool", "signs"], sc := defScope s_law_sign, tab := t_tab, ocl := ["Share"], exs := t_exs, exr := ["BadShare"], free := freeN, fns := [("_law_draw", 2, sp_law_draw)] }
theorem sc_law_sign : FnScope ci_law_sign.N ["pool"] (defScope s_law_sign) := ⟨rfl, rfl, rfl, by decide +kernel, rfl, by decide +kernel, by decide +kernel⟩
theorem c_law_sign : (comp 80 ci_law_sign).Ss (defBody s_law_sign) = some m_law_sign := by kernel_rfl
abbrev s_law_changed : Stmt := (topS 26)
def ci_law_changed : CI := { N := ["pool", "text", "at", "way", "sign"], sc := defScope s_law_changed, tab := t_tab, ocl := ["Share"], exs := t_exs, exr := ["BadShare"], free := freeN, fns := [("_law_sign", 1, sp_law_sign), ("_law_draw", 2, sp_law_draw)] }
theorem sc_law_changed : FnScope ci_law_changed.N ["pool", "text"] (defScope s_law_changed) := ⟨rfl, rfl, rfl, by decide +kernel, rfl, by decide +kernel, by decide +kernel⟩
theorem c_law_changed : (comp 80 ci_law_changed).Ss (defBody s_law_changed) = some m_law_changed := by kernel_rfl
abbrev s_law_odd_text : Stmt := (topS 27)
def ci_law_odd_text : CI := { N := ["pool", "top", "low", "whole", "odd"], sc := defScope s_law_odd_text, tab := t_tab, ocl := ["Share"], exs := t_exs, exr := ["BadShare"], free := freeN, fns := [("_law_draw", 2, sp_law_draw)] }
theorem sc_law_odd_text : FnScope ci_law_odd_text.N ["pool", "top", "low"] (defScope s_law_odd_text) := ⟨rfl, rfl, rfl, by decide +kernel, rfl, by decide +kernel, by decide +kernel⟩
theorem c_law_odd_text : (comp 80 ci_law_odd_text).Ss (defBody s_law_odd_text) = some m_law_odd_text := by kernel_rfl
abbrev s_law_long_text : Stmt := (topS 28)
def ci_law_long_text : CI := { N := ["pool", "size", "many"], sc := defScope s_law_long_text, tab := t_tab, ocl := ["Share"], exs := t_exs, exr := ["BadShare"], free := freeN, fns := [("_law_draw", 2, sp_law_draw)] }
theorem sc_law_long_text : FnScope ci_law_long_text.N ["pool"] (defScope s_law_long_text) := ⟨rfl, rfl, rfl, by decide +kernel, rfl, by decide +kernel, by decide +kernel⟩
theorem c_law_long_text : (comp 80 ci_law_long_text).Ss (defBody s_law_long_text) = some m_law_long_text := by kernel_rfl
abbrev s_law_second_text : Stmt := (topS 29)
def ci_law_second_text : CI := { N := ["pool", "low", "text", "way", "k"], sc := defScope s_law_second_text, tab := t_tab, ocl := ["Share"], exs := t_exs, exr := ["BadShare"], free := freeN, fns := [("_law_draw", 2, sp_law_draw), ("_law_sign", 1, sp_law_sign), ("_law_long_text", 1, sp_law_long_text), ("_law_odd_text", 3, sp_law_odd_text), ("_law_changed", 2, sp_law_changed)] }
theorem sc_law_second_text : FnScope ci_law_second_text.N ["pool", "low"] (defScope s_law_second_text) := ⟨rfl, rfl, rfl, by decide +kernel, rfl, by decide +kernel, by decide +kernel⟩
theorem c_law_second_text : (comp 80 ci_law_second_text).Ss (defBody s_law_second_text) = some m_law_second_text := by kernel_rfl
abbrev s_law_digits : Stmt := (topS 30)
def ci_law_digits : CI := { N := ["word", "sign"], sc := defScope s_law_digits, tab := t_tab, ocl := ["Share"], exs := t_exs, exr := ["BadShare"], free := freeN }
theorem sc_law_digits : FnScope ci_law_digits.N ["word"] (defScope s_law_digits) := ⟨rfl, rfl, rfl, by decide +kernel, rfl, by decide +kernel, by decide +kernel⟩
theorem c_law_digits : (comp 80 ci_law_digits).Ss (defBody s_law_digits) = some m_law_digits := by kernel_rfl
abbrev s_law_read : Stmt := (topS 31)
def ci_law_read : CI := { N := ["text", "at", "top", "minus", "up", "down"], sc := defScope s_law_read, tab := t_tab, ocl := ["Share"], exs := t_exs, exr := ["BadShare"], free := freeN, fns := [("_law_low", 2, sp_law_low), ("_law_digits", 1, sp_law_digits)] }
theorem sc_law_read : FnScope ci_law_read.N ["text"] (defScope s_law_read) := ⟨rfl, rfl, rfl, by decide +kernel, rfl, by decide +kernel, by decide +kernel⟩
theorem c_law_read : (comp 80 ci_law_read).Ss (defBody s_law_read) = some m_law_read := by kernel_rfl
abbrev s_law_fields : Stmt := (topS 32)
def ci_law_fields : CI := { N := ["told", "due"], sc := defScope s_law_fields, tab := t_tab, ocl := ["Share"], exs := t_exs, exr := ["BadShare"], free := freeN, fns := [("_law_int", 1, sp_law_int)] }
theorem sc_law_fields : FnScope ci_law_fields.N ["told", "due"] (defScope s_law_fields) := ⟨rfl, rfl, rfl, by decide +kernel, rfl, by decide +kernel, by decide +kernel⟩
theorem c_law_fields : (comp 80 ci_law_fields).Ss (defBody s_law_fields) = some m_law_fields := by kernel_rfl
abbrev s_law_refused : Stmt := (topS 33)
def ci_law_refused : CI := { N := ["text", "good", "e"], sc := defScope s_law_refused, tab := t_tab, ocl := ["Share"], exs := t_exs, exr := ["BadShare"], free := freeN, sts := [("parse", "Share", 1, sp_Share_parse)] }
theorem sc_law_refused : FnScope ci_law_refused.N ["text"] (defScope s_law_refused) := ⟨rfl, rfl, rfl, by decide +kernel, rfl, by decide +kernel, by decide +kernel⟩
theorem c_law_refused : (comp 80 ci_law_refused).Ss (defBody s_law_refused) = some m_law_refused := by kernel_rfl
abbrev s_law_text_holds : Stmt := (topS 34)
def ci_law_text_holds : CI := { N := ["text", "due", "told"], sc := defScope s_law_text_holds, tab := t_tab, ocl := ["Share"], exs := t_exs, exr := ["BadShare"], free := freeN, fns := [("_law_fields", 2, sp_law_fields), ("_law_refused", 1, sp_law_refused), ("_law_read", 1, sp_law_read)], sts := [("parse", "Share", 1, sp_Share_parse)], stro := some ("Share", sp_Share_str) }
theorem sc_law_text_holds : FnScope ci_law_text_holds.N ["text"] (defScope s_law_text_holds) := ⟨rfl, rfl, rfl, by decide +kernel, rfl, by decide +kernel, by decide +kernel⟩
theorem c_law_text_holds : (comp 80 ci_law_text_holds).Ss (defBody s_law_text_holds) = some m_law_text_holds := by kernel_rfl
abbrev s_law : Stmt := (topS 35)
def ci_law : CI := { N := ["script", "up", "down", "low", "text", "second", "one", "product", "due", "k", "again"], sc := defScope s_law, tab := t_tab, ocl := ["Share"], exs := t_exs, exr := ["BadShare"], free := freeN, fns := [("_law_fields", 2, sp_law_fields), ("_law_text_holds", 1, sp_law_text_holds), ("_law_draw", 2, sp_law_draw), ("_law_stirred", 2, sp_law_stirred), ("_law_second_text", 2, sp_law_second_text), ("_law_low", 2, sp_law_low), ("_law_fraction", 1, sp_law_fraction)], mks := [("Share", 2, sp_Share_init, [])], sts := [("parse", "Share", 1, sp_Share_parse)], stro := some ("Share", sp_Share_str), own := some t_own }
theorem sc_law : FnScope ci_law.N ["script"] (defScope s_law) := ⟨rfl, rfl, rfl, by decide +kernel, rfl, by decide +kernel, by decide +kernel⟩
theorem c_law : (comp 80 ci_law).Ss (defBody s_law) = some m_law := by kernel_rfl
def d_Share_init : He5.DefA := ⟨(fun K => He.fAd K ("Share", some "__init__")), "__init__", "Share.__init__", defArgs s_Share_init, defBody s_Share_init, defScope s_Share_init, [.int 1], []⟩
def d_Share_mul : He5.DefA := ⟨(fun K => He.fAd K ("Share", some "__mul__")), "__mul__", "Share.__mul__", defArgs s_Share_mul, defBody s_Share_mul, defScope s_Share_mul, [], []⟩
def d_Share_eq : He5.DefA := ⟨(fun K => He.fAd K ("Share", some "__eq__")), "__eq__", "Share.__eq__", defArgs s_Share_eq, defBody s_Share_eq, defScope s_Share_eq, [], []⟩
def d_Share_str : He5.DefA := ⟨(fun K => He.fAd K ("Share", some "__str__")), "__str__", "Share.__str__", defArgs s_Share_str, defBody s_Share_str, defScope s_Share_str, [], []⟩
def d_is_unsigned : He5.DefA := ⟨(fun K => He.fAd K ("is_unsigned", none)), "is_unsigned", "is_unsigned", defArgs s_is_unsigned, defBody s_is_unsigned, defScope s_is_unsigned, [], []⟩
def d_Share_parse : He5.DefA := ⟨(fun K => He5.wf K (He.ga K "Share") "staticmethod" "parse"), "parse", "Share.parse", defArgs s_Share_parse, defBody s_Share_parse, defScope s_Share_parse, [], []⟩
def d_law_int : He5.DefA := ⟨(fun K => He.fAd K ("_law_int", none)), "_law_int", "_law_int", defArgs s_law_int, defBody s_law_int, defScope s_law_int, [], []⟩
def d_law_pool : He5.DefA := ⟨(fun K => He.fAd K ("_law_pool", none)), "_law_pool", "_law_pool", defArgs s_law_pool, defBody s_law_pool, defScope s_law_pool, [], []⟩
def d_law_stirred : He5.DefA := ⟨(fun K => He.fAd K ("_law_stirred", none)), "_law_stirred", "_law_stirred", defArgs s_law_stirred, defBody s_law_stirred, defScope s_law_stirred, [], []⟩
def d_law_draw : He5.DefA := ⟨(fun K => He.fAd K ("_law_draw", none)), "_law_draw", "_law_draw", defArgs s_law_draw, defBody s_law_draw, defScope s_law_draw, [], []⟩
def d_law_size : He5.DefA := ⟨(fun K => He.fAd K ("_law_size", none)), "_law_size", "_law_size", defArgs s_law_size, defBody s_law_size, defScope s_law_size, [], []⟩
def d_law_fraction : He5.DefA := ⟨(fun K => He.fAd K ("_law_fraction", none)), "_law_fraction", "_law_fraction", defArgs s_law_fraction, defBody s_law_fraction, defScope s_law_fraction, [], []⟩
def d_law_low : He5.DefA := ⟨(fun K => He.fAd K ("_law_low", none)), "_law_low", "_law_low", defArgs s_law_low, defBody s_law_low, defScope s_law_low, [], []⟩
def d_law_sign : He5.DefA := ⟨(fun K => He.fAd K ("_law_sign", none)), "_law_sign", "_law_sign", defArgs s_law_sign, defBody s_law_sign, defScope s_law_sign, [], []⟩
def d_law_changed : He5.DefA := ⟨(fun K => He.fAd K ("_law_changed", none)), "_law_changed", "_law_changed", defArgs s_law_changed, defBody s_law_changed, defScope s_law_changed, [], []⟩
def d_law_odd_text : He5.DefA := ⟨(fun K => He.fAd K ("_law_odd_text", none)), "_law_odd_text", "_law_odd_text", defArgs s_law_odd_text, defBody s_law_odd_text, defScope s_law_odd_text, [], []⟩
def d_law_long_text : He5.DefA := ⟨(fun K => He.fAd K ("_law_long_text", none)), "_law_long_text", "_law_long_text", defArgs s_law_long_text, defBody s_law_long_text, defScope s_law_long_text, [], []⟩
def d_law_second_text : He5.DefA := ⟨(fun K => He.fAd K ("_law_second_text", none)), "_law_second_text", "_law_second_text", defArgs s_law_second_text, defBody s_law_second_text, defScope s_law_second_text, [], []⟩
def d_law_digits : He5.DefA := ⟨(fun K => He.fAd K ("_law_digits", none)), "_law_digits", "_law_digits", defArgs s_law_digits, defBody s_law_digits, defScope s_law_digits, [], []⟩
def d_law_read : He5.DefA := ⟨(fun K => He.fAd K ("_law_read", none)), "_law_read", "_law_read", defArgs s_law_read, defBody s_law_read, defScope s_law_read, [], []⟩
def d_law_fields : He5.DefA := ⟨(fun K => He.fAd K ("_law_fields", none)), "_law_fields", "_law_fields", defArgs s_law_fields, defBody s_law_fields, defScope s_law_fields, [], []⟩
def d_law_refused : He5.DefA := ⟨(fun K => He.fAd K ("_law_refused", none)), "_law_refused", "_law_refused", defArgs s_law_refused, defBody s_law_refused, defScope s_law_refused, [], []⟩
def d_law_text_holds : He5.DefA := ⟨(fun K => He.fAd K ("_law_text_holds", none)), "_law_text_holds", "_law_text_holds", defArgs s_law_text_holds, defBody s_law_text_holds, defScope s_law_text_holds, [], []⟩
def d_law : He5.DefA := ⟨(fun K => He.fAd K ("law", none)), "law", "law", defArgs s_law, defBody s_law, defScope s_law, [], []⟩
def fn : List He5.DefA := [d_Share_init, d_Share_mul, d_Share_eq, d_Share_str, d_is_unsigned, d_Share_parse, d_law_int, d_law_pool, d_law_stirred, d_law_draw, d_law_size, d_law_fraction, d_law_low, d_law_sign, d_law_changed, d_law_odd_text, d_law_long_text, d_law_second_text, d_law_digits, d_law_read, d_law_fields, d_law_refused, d_law_text_holds, d_law]
def fa : List He.Fa := [.cls "Share", .glo "Share", .glo "BadShare", .glo "BadText", .glo "BadBook", .glo "BadMove", .glo "BadProgram", .glo "BadPlan", .glo "Unfit", .glo "TooLarge", .glo "BadEdit", .exm "BadShare" "OddsError" true, .exm "BadText" "OddsError" true, .exm "BadBook" "OddsError" true, .exm "BadMove" "OddsError" true, .exm "BadProgram" "OddsError" true, .exm "BadPlan" "OddsError" true, .exm "Unfit" "OddsError" true, .exm "TooLarge" "OddsError" true, .exm "BadEdit" "OddsError" true, .noat "Share" "top", .noat "Share" "bottom", .exc "BadShare", .glo "OddsError", .free "ValueError", .free "abs", .free "bool", .free "int", .free "isinstance", .free "len", .free "max", .free "range", .free "str", .meth "Share" "__mul__", .meth "Share" "__eq__", .meth "Share" "__str__", .glo "law", .mkr "Share", .int "MOST_DIGITS" 60, .glo "is_unsigned", .glo "_law_int", .glo "_law_pool", .glo "_law_stirred", .glo "_law_draw", .glo "_law_size", .glo "_law_fraction", .glo "_law_low", .glo "_law_sign", .glo "_law_changed", .glo "_law_odd_text", .glo "_law_long_text", .glo "_law_second_text", .glo "_law_digits", .glo "_law_read", .glo "_law_fields", .glo "_law_refused", .glo "_law_text_holds"]
def pB (K : PySem.W.Frag) : Bool := (["Share"] : List Str).all (oclB K) && (objB K && (xctB K t_exs && (smB K "Share" "parse" && (gcdB K "gcd" "math.gcd" && (PySem.W.selfFirst K (He.ga K "Share"))))))
theorem gb {K : PySem.W.Frag} {h : Heap} {mg : Str → Option Value} (X : K.In h) (G : h.Ns mainGlobals mg) (c : SaysX fa fn pB K) : GB t_tab ["Share"] t_exs ["BadShare"] freeN "OddsError" K mg := by
  obtain ⟨hb1, hb⟩ := He.ba c.more
  obtain ⟨hb2, hb⟩ := He.ba hb
  have ho : ∀ x ∈ (["Share"] : List Str), Cls K (He.ga K x) := All.mem (p := fun x => Cls K (He.ga K x)) (l := ["Share"]) ⟨He.cls_ok (c.fact 0 (f := .cls "Share") rfl), trivial⟩
  have hg : ∀ x ∈ (["Share"] : List Str), mg x = some (.ref (He.ga K x)) := All.mem (p := fun x => mg x = some (.ref (He.ga K x))) (l := ["Share"]) ⟨(He.glo_ok X G (c.fact 1 (f := .glo "Share") rfl)), trivial⟩
  have hxg : ∀ x ∈ t_exs, mg x = some (.ref (He.ga K x)) := All.mem (p := fun x => mg x = some (.ref (He.ga K x))) (l := t_exs) ⟨(He.glo_ok X G (c.fact 2 (f := .glo "BadShare") rfl)), (He.glo_ok X G (c.fact 3 (f := .glo "BadText") rfl)), (He.glo_ok X G (c.fact 4 (f := .glo "BadBook") rfl)), (He.glo_ok X G (c.fact 5 (f := .glo "BadMove") rfl)), (He.glo_ok X G (c.fact 6 (f := .glo "BadProgram") rfl)), (He.glo_ok X G (c.fact 7 (f := .glo "BadPlan") rfl)), (He.glo_ok X G (c.fact 8 (f := .glo "Unfit") rfl)), (He.glo_ok X G (c.fact 9 (f := .glo "TooLarge") rfl)), (He.glo_ok X G (c.fact 10 (f := .glo "BadEdit") rfl)), trivial⟩
  have hxm : ∀ x ∈ t_exs, PySem.W.exmOne K (.ref (He.ga K x)) (.ref (He.ga K "OddsError")) = some true := All.mem (p := fun x => PySem.W.exmOne K (.ref (He.ga K x)) (.ref (He.ga K "OddsError")) = some true) (l := t_exs) ⟨He.exm_ok (c.fact 11 (f := .exm "BadShare" "OddsError" true) rfl), He.exm_ok (c.fact 12 (f := .exm "BadText" "OddsError" true) rfl), He.exm_ok (c.fact 13 (f := .exm "BadBook" "OddsError" true) rfl), He.exm_ok (c.fact 14 (f := .exm "BadMove" "OddsError" true) rfl), He.exm_ok (c.fact 15 (f := .exm "BadProgram" "OddsError" true) rfl), He.exm_ok (c.fact 16 (f := .exm "BadPlan" "OddsError" true) rfl), He.exm_ok (c.fact 17 (f := .exm "Unfit" "OddsError" true) rfl), He.exm_ok (c.fact 18 (f := .exm "TooLarge" "OddsError" true) rfl), He.exm_ok (c.fact 19 (f := .exm "BadEdit" "OddsError" true) rfl), trivial⟩
  refine ⟨All.mem (p := fun (q : Str × Str) => Cls K (He.ga K q.1) ∧ NoAttr K (He.ga K q.1) q.2) (l := t_tab) ⟨⟨He.cls_ok (c.fact 0 (f := .cls "Share") rfl), He.noat_ok (c.fact 20 (f := .noat "Share" "top") rfl)⟩, ⟨He.cls_ok (c.fact 0 (f := .cls "Share") rfl), He.noat_ok (c.fact 21 (f := .noat "Share" "bottom") rfl)⟩, trivial⟩, fun x hx => ⟨ocl_ok (ho x hx) (List.all_eq_true.mp hb1 x hx) hb2, hg x hx⟩, xct_ok (He.ba hb).1 hb2, hxg, All.mem (p := fun x => XcAt K mg x) (l := ["BadShare"]) ⟨xca_ok (c.fact 22 (f := .exc "BadShare") rfl) (He.glo_ok X G (c.fact 2 (f := .glo "BadShare") rfl)), trivial⟩, fun _ => ⟨(He.glo_ok X G (c.fact 23 (f := .glo "OddsError") rfl)), hxm⟩, All.mem (p := fun x => mg x = none) (l := freeN) ⟨He.free_ok X G (c.fact 24 (f := .free "ValueError") rfl), He.free_ok X G (c.fact 25 (f := .free "abs") rfl), He.free_ok X G (c.fact 26 (f := .free "bool") rfl), He.free_ok X G (c.fact 27 (f := .free "int") rfl), He.free_ok X G (c.fact 28 (f := .free "isinstance") rfl), He.free_ok X G (c.fact 29 (f := .free "len") rfl), He.free_ok X G (c.fact 30 (f := .free "max") rfl), He.free_ok X G (c.fact 31 (f := .free "range") rfl), He.free_ok X G (c.fact 32 (f := .free "str") rfl), trivial⟩⟩
/-- the law's promise, of the script alone -/
def spL (K : PySem.W.Frag) : Sp := fun vs H Q _ => vs.length = 1 ∧ ∃ H0 O ds P, Iss K H0 vs ds ∧ Sta K H0 O H ∧ sp_law ds O (fun _ _ _ => False) P ∧ LinkV K H0 P Q
theorem facts {P : Program} {w : World} {K : PySem.W.Frag} {h : Heap} {mg : Str → Option Value} {f : Addr} (X : K.In h) (G : h.Ns mainGlobals mg) (hfa : mg ("law" : Str) = some (.ref f)) (c : SaysX fa fn pB K) :
    ∃ fd : FuncData, (∀ (s : Shared) (v : Value), BindsTo s fd ⟨[v], []⟩ [("script", v)]) ∧ ∀ b : Heap, K.In b → b.Ns mainGlobals mg → FnOk P w K mg b CX0 7 f fd ["script"] (spL K) := by
  have B := gb X G c
  have hgcd : mg "gcd" = some (.builtin "math.gcd") := PySem.W.mg_of X G (of_decide_eq_true (He.ba (He.ba (He.ba (He.ba (He.ba c.more).2).2).2).2).1)
  obtain ⟨fd_Share_init, F_Share_init⟩ := c.def_ 0 (d := d_Share_init) rfl
  obtain ⟨fd_Share_mul, F_Share_mul⟩ := c.def_ 1 (d := d_Share_mul) rfl
  have n_Share_mul : Binds K fd_Share_mul ["self", "other"] [] := FunD.bindsN (ps := ["self", "other"]) F_Share_mul fun _ _ _ _ _ _ us hl => match us, hl with | [_, _], _ => rfl
  have m_Share_mul := He.meth_ok (c.fact 33 (f := .meth "Share" "__mul__") rfl)
  obtain ⟨fd_Share_eq, F_Share_eq⟩ := c.def_ 2 (d := d_Share_eq) rfl
  have n_Share_eq : Binds K fd_Share_eq ["self", "other"] [] := FunD.bindsN (ps := ["self", "other"]) F_Share_eq fun _ _ _ _ _ _ us hl => match us, hl with | [_, _], _ => rfl
  have m_Share_eq := He.meth_ok (c.fact 34 (f := .meth "Share" "__eq__") rfl)
  obtain ⟨fd_Share_str, F_Share_str⟩ := c.def_ 3 (d := d_Share_str) rfl
  have n_Share_str : Binds K fd_Share_str ["self"] [] := FunD.bindsN (ps := ["self"]) F_Share_str fun _ _ _ _ _ _ us hl => match us, hl with | [_], _ => rfl
  have m_Share_str := He.meth_ok (c.fact 35 (f := .meth "Share" "__str__") rfl)
  obtain ⟨fd_is_unsigned, F_is_unsigned⟩ := c.def_ 4 (d := d_is_unsigned) rfl
  have n_is_unsigned : Binds K fd_is_unsigned ["text"] [] := FunD.bindsN (ps := ["text"]) F_is_unsigned fun _ _ _ _ _ _ us hl => match us, hl with | [_], _ => rfl
  obtain ⟨fd_Share_parse, F_Share_parse⟩ := c.def_ 5 (d := d_Share_parse) rfl
  have n_Share_parse : Binds K fd_Share_parse ["text"] [] := FunD.bindsN (ps := ["text"]) F_Share_parse fun _ _ _ _ _ _ us hl => match us, hl with | [_], _ => rfl
  obtain ⟨fd_law_int, F_law_int⟩ := c.def_ 6 (d := d_law_int) rfl
  have n_law_int : Binds K fd_law_int ["x"] [] := FunD.bindsN (ps := ["x"]) F_law_int fun _ _ _ _ _ _ us hl => match us, hl with | [_], _ => rfl
  obtain ⟨fd_law_pool, F_law_pool⟩ := c.def_ 7 (d := d_law_pool) rfl
  have n_law_pool : Binds K fd_law_pool ["script", "at"] [] := FunD.bindsN (ps := ["script", "at"]) F_law_pool fun _ _ _ _ _ _ us hl => match us, hl with | [_, _], _ => rfl
  obtain ⟨fd_law_stirred, F_law_stirred⟩ := c.def_ 8 (d := d_law_stirred) rfl
  have n_law_stirred : Binds K fd_law_stirred ["script", "at"] [] := FunD.bindsN (ps := ["script", "at"]) F_law_stirred fun _ _ _ _ _ _ us hl => match us, hl with | [_, _], _ => rfl
  obtain ⟨fd_law_draw, F_law_draw⟩ := c.def_ 9 (d := d_law_draw) rfl
  have n_law_draw : Binds K fd_law_draw ["pool", "many"] [] := FunD.bindsN (ps := ["pool", "many"]) F_law_draw fun _ _ _ _ _ _ us hl => match us, hl with | [_, _], _ => rfl
  obtain ⟨fd_law_size, F_law_size⟩ := c.def_ 10 (d := d_law_size) rfl
  have n_law_size : Binds K fd_law_size ["pool"] [] := FunD.bindsN (ps := ["pool"]) F_law_size fun _ _ _ _ _ _ us hl => match us, hl with | [_], _ => rfl
  obtain ⟨fd_law_fraction, F_law_fraction⟩ := c.def_ 11 (d := d_law_fraction) rfl
  have n_law_fraction : Binds K fd_law_fraction ["pool"] [] := FunD.bindsN (ps := ["pool"]) F_law_fraction fun _ _ _ _ _ _ us hl => match us, hl with | [_], _ => rfl
  obtain ⟨fd_law_low, F_law_low⟩ := c.def_ 12 (d := d_law_low) rfl
  have n_law_low : Binds K fd_law_low ["up", "down"] [] := FunD.bindsN (ps := ["up", "down"]) F_law_low fun _ _ _ _ _ _ us hl => match us, hl with | [_, _], _ => rfl
  obtain ⟨fd_law_sign, F_law_sign⟩ := c.def_ 13 (d := d_law_sign) rfl
  have n_law_sign : Binds K fd_law_sign ["pool"] [] := FunD.bindsN (ps := ["pool"]) F_law_sign fun _ _ _ _ _ _ us hl => match us, hl with | [_], _ => rfl
  obtain ⟨fd_law_changed, F_law_changed⟩ := c.def_ 14 (d := d_law_changed) rfl
  have n_law_changed : Binds K fd_law_changed ["pool", "text"] [] := FunD.bindsN (ps := ["pool", "text"]) F_law_changed fun _ _ _ _ _ _ us hl => match us, hl with | [_, _], _ => rfl
  obtain ⟨fd_law_odd_text, F_law_odd_text⟩ := c.def_ 15 (d := d_law_odd_text) rfl
  have n_law_odd_text : Binds K fd_law_odd_text ["pool", "top", "low"] [] := FunD.bindsN (ps := ["pool", "top", "low"]) F_law_odd_text fun _ _ _ _ _ _ us hl => match us, hl with | [_, _, _], _ => rfl
  obtain ⟨fd_law_long_text, F_law_long_text⟩ := c.def_ 16 (d := d_law_long_text) rfl
  have n_law_long_text : Binds K fd_law_long_text ["pool"] [] := FunD.bindsN (ps := ["pool"]) F_law_long_text fun _ _ _ _ _ _ us hl => match us, hl with | [_], _ => rfl
  obtain ⟨fd_law_second_text, F_law_second_text⟩ := c.def_ 17 (d := d_law_second_text) rfl
  have n_law_second_text : Binds K fd_law_second_text ["pool", "low"] [] := FunD.bindsN (ps := ["pool", "low"]) F_law_second_text fun _ _ _ _ _ _ us hl => match us, hl with | [_, _], _ => rfl
  obtain ⟨fd_law_digits, F_law_digits⟩ := c.def_ 18 (d := d_law_digits) rfl
  have n_law_digits : Binds K fd_law_digits ["word"] [] := FunD.bindsN (ps := ["word"]) F_law_digits fun _ _ _ _ _ _ us hl => match us, hl with | [_], _ => rfl
  obtain ⟨fd_law_read, F_law_read⟩ := c.def_ 19 (d := d_law_read) rfl
  have n_law_read : Binds K fd_law_read ["text"] [] := FunD.bindsN (ps := ["text"]) F_law_read fun _ _ _ _ _ _ us hl => match us, hl with | [_], _ => rfl
  obtain ⟨fd_law_fields, F_law_fields⟩ := c.def_ 20 (d := d_law_fields) rfl
  have n_law_fields : Binds K fd_law_fields ["told", "due"] [] := FunD.bindsN (ps := ["told", "due"]) F_law_fields fun _ _ _ _ _ _ us hl => match us, hl with | [_, _], _ => rfl
  obtain ⟨fd_law_refused, F_law_refused⟩ := c.def_ 21 (d := d_law_refused) rfl
  have n_law_refused : Binds K fd_law_refused ["text"] [] := FunD.bindsN (ps := ["text"]) F_law_refused fun _ _ _ _ _ _ us hl => match us, hl with | [_], _ => rfl
  obtain ⟨fd_law_text_holds, F_law_text_holds⟩ := c.def_ 22 (d := d_law_text_holds) rfl
  have n_law_text_holds : Binds K fd_law_text_holds ["text"] [] := FunD.bindsN (ps := ["text"]) F_law_text_holds fun _ _ _ _ _ _ us hl => match us, hl with | [_], _ => rfl
  obtain ⟨fd_law, F_law⟩ := c.def_ 23 (d := d_law) rfl
  have e := hfa.symm.trans (He.glo_ok X G (c.fact 36 (f := .glo "law") rfl))
  cases e
  have bL := FunD.bindsA (ps := ["script"]) F_law fun _ _ _ _ _ _ us hl => match us, hl with | [_], _ => rfl
  have mk_Share := He.mkr_ok (c.fact 37 (f := .mkr "Share") rfl)
  obtain ⟨ds_Share2, v_Share2, b_Share2⟩ := FunD.binds1 (ps := ["self", "top", "bottom"]) F_Share_init 3 1 (by intro z; cases z) (by rfl) fun _ _ _ _ _ _ _ us its h1 h2 => match us, its, h1, h2 with | [_, _, _], [_], _, _ => ⟨_, rfl, rfl⟩
  have c_MOST_DIGITS_ : CsG K mg ("MOST_DIGITS", (.int 60)) := cs_int X G (c.fact 38 (f := .int "MOST_DIGITS" 60) rfl)
  have sm_Share_parse : smB K "Share" "parse" = true := (He.ba (He.ba (He.ba (He.ba c.more).2).2).2).1
  refine ⟨fd_law, fun s v => bL s [v] rfl, fun b hb hG => ?_⟩
  have R_Share_init : FnOk P w K mg b (L2.CX P w) 1 _ fd_Share_init ["self", "top", "bottom"] (spOf K 3 sp_Share_init) := def3 (c := ci_Share_init) (k := 0) F_Share_init sc_Share_init rfl rfl rfl c_Share_init b_Share_init (Glob.of B trivial trivial trivial trivial trivial trivial so_none own_none (fun _ => hgcd))
  have M_Share2 : MkG P w K mg b 2 ("Share", 2, sp_Share_init, []) := ⟨_, _, _, _, _, _, Nat.le_refl _, mk_Share, R_Share_init, (He.glo_ok X G (c.fact 1 (f := .glo "Share") rfl)), b_Share2, v_Share2, fun _ => .nil⟩
  have R_Share_mul : FnOk P w K mg b (L2.CX P w) 3 _ fd_Share_mul ["self", "other"] (spOf K 2 sp_Share_mul) := def3 (c := ci_Share_mul) (k := 2) F_Share_mul sc_Share_mul rfl rfl rfl c_Share_mul b_Share_mul (Glob.of B trivial ⟨M_Share2.up (by decide), trivial⟩ trivial trivial trivial trivial so_none own_none gcd_no)
  have O_Share_mul : OwG P w K mg b 3 "Share" ("__mul__", sp_Share_mul) := ⟨_, _, _, _, Nat.le_refl _, R_Share_mul, n_Share_mul, (He.ba (He.ba (He.ba (He.ba (He.ba c.more).2).2).2).2).2, m_Share_mul.at_, m_Share_mul.fn⟩
  have R_Share_eq : FnOk P w K mg b (L2.CX P w) 1 _ fd_Share_eq ["self", "other"] (spOf K 2 sp_Share_eq) := def3 (c := ci_Share_eq) (k := 0) F_Share_eq sc_Share_eq rfl rfl rfl c_Share_eq b_Share_eq (Glob.of B trivial trivial trivial trivial trivial trivial so_none own_none gcd_no)
  have O_Share_eq : OwG P w K mg b 1 "Share" ("__eq__", sp_Share_eq) := ⟨_, _, _, _, Nat.le_refl _, R_Share_eq, n_Share_eq, (He.ba (He.ba (He.ba (He.ba (He.ba c.more).2).2).2).2).2, m_Share_eq.at_, m_Share_eq.fn⟩
  have R_Share_str : FnOk P w K mg b (L2.CX P w) 1 _ fd_Share_str ["self"] (spOf K 1 sp_Share_str) := def3 (c := ci_Share_str) (k := 0) F_Share_str sc_Share_str rfl rfl rfl c_Share_str b_Share_str (Glob.of B trivial trivial trivial trivial trivial trivial so_none own_none gcd_no)
  have U_Share_str : SoG P w K mg b 3 ("Share", sp_Share_str) := ⟨_, _, _, _, Nat.le_refl _, R_Share_str, n_Share_str, m_Share_str.at_, m_Share_str.fn⟩
  have R_is_unsigned : FnOk P w K mg b (L2.CX P w) 1 _ fd_is_unsigned ["text"] (spOf K 1 sp_is_unsigned) := def3 (c := ci_is_unsigned) (k := 0) F_is_unsigned sc_is_unsigned rfl rfl rfl c_is_unsigned b_is_unsigned (Glob.of B trivial trivial trivial trivial ⟨c_MOST_DIGITS_, trivial⟩ trivial so_none own_none gcd_no)
  have G_is_unsigned : FnG P w K mg b 1 ("is_unsigned", 1, sp_is_unsigned) := ⟨_, _, _, _, Nat.le_refl _, R_is_unsigned, (He.glo_ok X G (c.fact 39 (f := .glo "is_unsigned") rfl)), F_is_unsigned.kp, n_is_unsigned⟩
  have R_Share_parse : FnOk P w K mg b (L2.CX P w) 4 _ fd_Share_parse ["text"] (spOf K 1 sp_Share_parse) := def3 (c := ci_Share_parse) (k := 3) F_Share_parse sc_Share_parse rfl rfl rfl c_Share_parse b_Share_parse (Glob.of B ⟨G_is_unsigned.up (by decide), trivial⟩ ⟨M_Share2.up (by decide), trivial⟩ trivial trivial trivial trivial (so_some (U_Share_str.up (by decide))) own_none gcd_no)
  have S_Share_parse : SmG P w K mg b 4 ("parse", "Share", 1, sp_Share_parse) := ⟨_, _, _, _, _, Nat.le_refl _, (sm_ok sm_Share_parse).1, (sm_ok sm_Share_parse).2, R_Share_parse, n_Share_parse, (He.glo_ok X G (c.fact 1 (f := .glo "Share") rfl))⟩
  have R_law_int : FnOk P w K mg b (L2.CX P w) 1 _ fd_law_int ["x"] (spOf K 1 sp_law_int) := def3 (c := ci_law_int) (k := 0) F_law_int sc_law_int rfl rfl rfl c_law_int b_law_int (Glob.of B trivial trivial trivial trivial trivial trivial so_none own_none gcd_no)
  have G_law_int : FnG P w K mg b 1 ("_law_int", 1, sp_law_int) := ⟨_, _, _, _, Nat.le_refl _, R_law_int, (He.glo_ok X G (c.fact 40 (f := .glo "_law_int") rfl)), F_law_int.kp, n_law_int⟩
  have R_law_pool : FnOk P w K mg b (L2.CX P w) 1 _ fd_law_pool ["script", "at"] (spOf K 2 sp_law_pool) := def3 (c := ci_law_pool) (k := 0) F_law_pool sc_law_pool rfl rfl rfl c_law_pool b_law_pool (Glob.of B trivial trivial trivial trivial trivial trivial so_none own_none gcd_no)
  have G_law_pool : FnG P w K mg b 1 ("_law_pool", 2, sp_law_pool) := ⟨_, _, _, _, Nat.le_refl _, R_law_pool, (He.glo_ok X G (c.fact 41 (f := .glo "_law_pool") rfl)), F_law_pool.kp, n_law_pool⟩
  have R_law_stirred : FnOk P w K mg b (L2.CX P w) 2 _ fd_law_stirred ["script", "at"] (spOf K 2 sp_law_stirred) := def3 (c := ci_law_stirred) (k := 1) F_law_stirred sc_law_stirred rfl rfl rfl c_law_stirred b_law_stirred (Glob.of B ⟨G_law_pool.up (by decide), trivial⟩ trivial trivial trivial trivial trivial so_none own_none gcd_no)
  have G_law_stirred : FnG P w K mg b 2 ("_law_stirred", 2, sp_law_stirred) := ⟨_, _, _, _, Nat.le_refl _, R_law_stirred, (He.glo_ok X G (c.fact 42 (f := .glo "_law_stirred") rfl)), F_law_stirred.kp, n_law_stirred⟩
  have R_law_draw : FnOk P w K mg b (L2.CX P w) 1 _ fd_law_draw ["pool", "many"] (spOf K 2 sp_law_draw) := def3 (c := ci_law_draw) (k := 0) F_law_draw sc_law_draw rfl rfl rfl c_law_draw b_law_draw (Glob.of B trivial trivial trivial trivial trivial trivial so_none own_none gcd_no)
  have G_law_draw : FnG P w K mg b 1 ("_law_draw", 2, sp_law_draw) := ⟨_, _, _, _, Nat.le_refl _, R_law_draw, (He.glo_ok X G (c.fact 43 (f := .glo "_law_draw") rfl)), F_law_draw.kp, n_law_draw⟩
  have R_law_size : FnOk P w K mg b (L2.CX P w) 2 _ fd_law_size ["pool"] (spOf K 1 sp_law_size) := def3 (c := ci_law_size) (k := 1) F_law_size sc_law_size rfl rfl rfl c_law_size b_law_size (Glob.of B ⟨G_law_draw.up (by decide), trivial⟩ trivial trivial trivial trivial trivial so_none own_none gcd_no)
  have G_law_size : FnG P w K mg b 2 ("_law_size", 1, sp_law_size) := ⟨_, _, _, _, Nat.le_refl _, R_law_size, (He.glo_ok X G (c.fact 44 (f := .glo "_law_size") rfl)), F_law_size.kp, n_law_size⟩
  have R_law_fraction : FnOk P w K mg b (L2.CX P w) 3 _ fd_law_fraction ["pool"] (spOf K 1 sp_law_fraction) := def3 (c := ci_law_fraction) (k := 2) F_law_fraction sc_law_fraction rfl rfl rfl c_law_fraction b_law_fraction (Glob.of B ⟨G_law_draw.up (by decide), G_law_size.up (by decide), trivial⟩ trivial trivial trivial trivial trivial so_none own_none gcd_no)
  have G_law_fraction : FnG P w K mg b 3 ("_law_fraction", 1, sp_law_fraction) := ⟨_, _, _, _, Nat.le_refl _, R_law_fraction, (He.glo_ok X G (c.fact 45 (f := .glo "_law_fraction") rfl)), F_law_fraction.kp, n_law_fraction⟩
  have R_law_low : FnOk P w K mg b (L2.CX P w) 1 _ fd_law_low ["up", "down"] (spOf K 2 sp_law_low) := def3 (c := ci_law_low) (k := 0) F_law_low sc_law_low rfl rfl rfl c_law_low b_law_low (Glob.of B trivial trivial trivial trivial trivial trivial so_none own_none gcd_no)
  have G_law_low : FnG P w K mg b 1 ("_law_low", 2, sp_law_low) := ⟨_, _, _, _, Nat.le_refl _, R_law_low, (He.glo_ok X G (c.fact 46 (f := .glo "_law_low") rfl)), F_law_low.kp, n_law_low⟩
  have R_law_sign : FnOk P w K mg b (L2.CX P w) 2 _ fd_law_sign ["pool"] (spOf K 1 sp_law_sign) := def3 (c := ci_law_sign) (k := 1) F_law_sign sc_law_sign rfl rfl rfl c_law_sign b_law_sign (Glob.of B ⟨G_law_draw.up (by decide), trivial⟩ trivial trivial trivial trivial trivial so_none own_none gcd_no)
  have G_law_sign : FnG P w K mg b 2 ("_law_sign", 1, sp_law_sign) := ⟨_, _, _, _, Nat.le_refl _, R_law_sign, (He.glo_ok X G (c.fact 47 (f := .glo "_law_sign") rfl)), F_law_sign.kp, n_law_sign⟩
  have R_law_changed : FnOk P w K mg b (L2.CX P w) 3 _ fd_law_changed ["pool", "text"] (spOf K 2 sp_law_changed) := def3 (c := ci_law_changed) (k := 2) F_law_changed sc_law_changed rfl rfl rfl c_law_changed b_law_changed (Glob.of B ⟨G_law_sign.up (by decide), G_law_draw.up (by decide), trivial⟩ trivial trivial trivial trivial trivial so_none own_none gcd_no)
  have G_law_changed : FnG P w K mg b 3 ("_law_changed", 2, sp_law_changed) := ⟨_, _, _, _, Nat.le_refl _, R_law_changed, (He.glo_ok X G (c.fact 48 (f := .glo "_law_changed") rfl)), F_law_changed.kp, n_law_changed⟩
  have R_law_odd_text : FnOk P w K mg b (L2.CX P w) 2 _ fd_law_odd_text ["pool", "top", "low"] (spOf K 3 sp_law_odd_text) := def3 (c := ci_law_odd_text) (k := 1) F_law_odd_text sc_law_odd_text rfl rfl rfl c_law_odd_text b_law_odd_text (Glob.of B ⟨G_law_draw.up (by decide), trivial⟩ trivial trivial trivial trivial trivial so_none own_none gcd_no)
  have G_law_odd_text : FnG P w K mg b 2 ("_law_odd_text", 3, sp_law_odd_text) := ⟨_, _, _, _, Nat.le_refl _, R_law_odd_text, (He.glo_ok X G (c.fact 49 (f := .glo "_law_odd_text") rfl)), F_law_odd_text.kp, n_law_odd_text⟩
  have R_law_long_text : FnOk P w K mg b (L2.CX P w) 2 _ fd_law_long_text ["pool"] (spOf K 1 sp_law_long_text) := def3 (c := ci_law_long_text) (k := 1) F_law_long_text sc_law_long_text rfl rfl rfl c_law_long_text b_law_long_text (Glob.of B ⟨G_law_draw.up (by decide), trivial⟩ trivial trivial trivial trivial trivial so_none own_none gcd_no)
  have G_law_long_text : FnG P w K mg b 2 ("_law_long_text", 1, sp_law_long_text) := ⟨_, _, _, _, Nat.le_refl _, R_law_long_text, (He.glo_ok X G (c.fact 50 (f := .glo "_law_long_text") rfl)), F_law_long_text.kp, n_law_long_text⟩
  have R_law_second_text : FnOk P w K mg b (L2.CX P w) 4 _ fd_law_second_text ["pool", "low"] (spOf K 2 sp_law_second_text) := def3 (c := ci_law_second_text) (k := 3) F_law_second_text sc_law_second_text rfl rfl rfl c_law_second_text b_law_second_text (Glob.of B ⟨G_law_draw.up (by decide), G_law_sign.up (by decide), G_law_long_text.up (by decide), G_law_odd_text.up (by decide), G_law_changed.up (by decide), trivial⟩ trivial trivial trivial trivial trivial so_none own_none gcd_no)
  have G_law_second_text : FnG P w K mg b 4 ("_law_second_text", 2, sp_law_second_text) := ⟨_, _, _, _, Nat.le_refl _, R_law_second_text, (He.glo_ok X G (c.fact 51 (f := .glo "_law_second_text") rfl)), F_law_second_text.kp, n_law_second_text⟩
  have R_law_digits : FnOk P w K mg b (L2.CX P w) 1 _ fd_law_digits ["word"] (spOf K 1 sp_law_digits) := def3 (c := ci_law_digits) (k := 0) F_law_digits sc_law_digits rfl rfl rfl c_law_digits b_law_digits (Glob.of B trivial trivial trivial trivial trivial trivial so_none own_none gcd_no)
  have G_law_digits : FnG P w K mg b 1 ("_law_digits", 1, sp_law_digits) := ⟨_, _, _, _, Nat.le_refl _, R_law_digits, (He.glo_ok X G (c.fact 52 (f := .glo "_law_digits") rfl)), F_law_digits.kp, n_law_digits⟩
  have R_law_read : FnOk P w K mg b (L2.CX P w) 2 _ fd_law_read ["text"] (spOf K 1 sp_law_read) := def3 (c := ci_law_read) (k := 1) F_law_read sc_law_read rfl rfl rfl c_law_read b_law_read (Glob.of B ⟨G_law_low.up (by decide), G_law_digits.up (by decide), trivial⟩ trivial trivial trivial trivial trivial so_none own_none gcd_no)
  have G_law_read : FnG P w K mg b 2 ("_law_read", 1, sp_law_read) := ⟨_, _, _, _, Nat.le_refl _, R_law_read, (He.glo_ok X G (c.fact 53 (f := .glo "_law_read") rfl)), F_law_read.kp, n_law_read⟩
  have R_law_fields : FnOk P w K mg b (L2.CX P w) 2 _ fd_law_fields ["told", "due"] (spOf K 2 sp_law_fields) := def3 (c := ci_law_fields) (k := 1) F_law_fields sc_law_fields rfl rfl rfl c_law_fields b_law_fields (Glob.of B ⟨G_law_int.up (by decide), trivial⟩ trivial trivial trivial trivial trivial so_none own_none gcd_no)
  have G_law_fields : FnG P w K mg b 2 ("_law_fields", 2, sp_law_fields) := ⟨_, _, _, _, Nat.le_refl _, R_law_fields, (He.glo_ok X G (c.fact 54 (f := .glo "_law_fields") rfl)), F_law_fields.kp, n_law_fields⟩
  have R_law_refused : FnOk P w K mg b (L2.CX P w) 5 _ fd_law_refused ["text"] (spOf K 1 sp_law_refused) := def3 (c := ci_law_refused) (k := 4) F_law_refused sc_law_refused rfl rfl rfl c_law_refused b_law_refused (Glob.of B trivial trivial trivial trivial trivial ⟨S_Share_parse.up (by decide), trivial⟩ so_none own_none gcd_no)
  have G_law_refused : FnG P w K mg b 5 ("_law_refused", 1, sp_law_refused) := ⟨_, _, _, _, Nat.le_refl _, R_law_refused, (He.glo_ok X G (c.fact 55 (f := .glo "_law_refused") rfl)), F_law_refused.kp, n_law_refused⟩
  have R_law_text_holds : FnOk P w K mg b (L2.CX P w) 6 _ fd_law_text_holds ["text"] (spOf K 1 sp_law_text_holds) := def3 (c := ci_law_text_holds) (k := 5) F_law_text_holds sc_law_text_holds rfl rfl rfl c_law_text_holds b_law_text_holds (Glob.of B ⟨G_law_fields.up (by decide), G_law_refused.up (by decide), G_law_read.up (by decide), trivial⟩ trivial trivial trivial trivial ⟨S_Share_parse.up (by decide), trivial⟩ (so_some (U_Share_str.up (by decide))) own_none gcd_no)
  have G_law_text_holds : FnG P w K mg b 6 ("_law_text_holds", 1, sp_law_text_holds) := ⟨_, _, _, _, Nat.le_refl _, R_law_text_holds, (He.glo_ok X G (c.fact 56 (f := .glo "_law_text_holds") rfl)), F_law_text_holds.kp, n_law_text_holds⟩
  have R_law := def3L (c := ci_law) (P := P) (w := w) (base := b) (k := 6) F_law sc_law rfl rfl rfl c_law b_law (Glob.of B ⟨G_law_fields.up (by decide), G_law_text_holds.up (by decide), G_law_draw.up (by decide), G_law_stirred.up (by decide), G_law_second_text.up (by decide), G_law_low.up (by decide), G_law_fraction.up (by decide), trivial⟩ ⟨M_Share2.up (by decide), trivial⟩ trivial trivial trivial ⟨S_Share_parse.up (by decide), trivial⟩ (so_some (U_Share_str.up (by decide))) (own_some ⟨⟨O_Share_mul.up (by decide), trivial⟩, O_Share_eq.up (by decide), by decide⟩) gcd_no)
  exact R_law
def loose0 : List Str := ["_wall", "OddsError", "BadShare", "BadText", "BadBook", "BadMove", "BadProgram", "BadPlan", "Unfit", "TooLarge", "BadEdit", "MOST_DIGITS", "Share", "is_unsigned", "_law_int", "_law_pool", "_law_stirred", "_law_draw", "_law_size", "_law_fraction", "_law_low", "_law_sign", "_law_changed", "_law_odd_text"]
def loose1 : List Str := ["_law_long_text", "_law_second_text", "_law_digits", "_law_read", "_law_fields", "_law_refused", "_law_text_holds"]
def loose : List Str := loose0 ++ loose1
def ob (s : PySem.W.SharedT) : He.AlD := obsXG 5 fa fn pB (HandSHeadRun.getT s)
theorem ob_eq (s : PySem.W.SharedT) : ob s = (hookX 5 fa fn pB).obs s.abs := obsXG_eq (HandSHeadRun.getT_eq s)
end K02

namespace K02
open PySem PySem.Spec PyProof.Rows L2 L3
theorem run (w : World) : HandSHeadRun.RunEqI (PySem.W.OpenLaw.row PySem.Challenge.rw_oddsward_k02_share_texts) (PySem.W.view (PySem.W.OpenLaw.row PySem.Challenge.rw_oddsward_k02_share_texts).prog [0, 35]) (hookX 5 fa fn pB) ob 5000 loose w := by
  unfold HandSHeadRun.RunEqI
  kernel_rfl
end K02

open PySem PySem.W PySem.Calls PyProof.Rows
theorem PySem.Challenge.cw_oddsward_k02_share_texts_holds : PySem.Challenge.rw_oddsward_k02_share_texts.Holds := by
  w_on; o_law
  refine HandSHeadRun.head_imp (r := OpenLaw.row PySem.Challenge.rw_oddsward_k02_share_texts) (q := view (OpenLaw.row PySem.Challenge.rw_oddsward_k02_share_texts).prog [0, 35]) (H := L3.hookX 5 K02.fa K02.fn K02.pB) (ob := K02.ob) (M := 5000) (loose := K02.loose) (d := HandSHeadRun.topDef (OpenLaw.row PySem.Challenge.rw_oddsward_k02_share_texts).prog 35) (kwd := []) K02.ob_eq
    K02.run (by kernel_rfl) (by kernel_rfl) (by kernel_rfl) (by rfl) (by first | assumption | decide +kernel) (by decide +kernel) ⟨rfl, rfl, rfl, rfl, rfl, by decide +kernel⟩ ?hw ?hc
  case hw => w_witness2
  case hc =>
    refine L2.walk_ofE (l := PySem.Challenge.rw_oddsward_k02_share_texts) (n := 63) (k := 7) (x := "script") (CX := L2.CX0) rfl (by decide) (by kernel_rfl) ⟨rfl, by decide, by decide⟩ ?F (fun _ _ _ _ z => z)
    intro w mg fa h Y G hmg0
    obtain ⟨K, KX, c⟩ := Y
    have hmg : mg ("law" : PySem.Str) = some (.ref fa) := by
      have e : (HandSHeadRun.topDef (OpenLaw.row PySem.Challenge.rw_oddsward_k02_share_texts).prog 35).name = ("law" : PySem.Str) := by kernel_rfl
      rw [← e]
      exact hmg0
    obtain ⟨fd, hb, hF⟩ := K02.facts (P := (PySem.Challenge.rw_oddsward_k02_share_texts).prog) (w := w) KX G hmg c
    refine ⟨K, fd, K02.spL K, KX, hb, fun H a ns hl hO hS => ?_, hF⟩
    exact L3.law_start ns hO hS fun P hP => ⟨ns, rfl, fun O' => hP O'⟩
