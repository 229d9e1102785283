import PyProof.Rows.All
import HandS.ForMost
import HandS.ForExc
import HandS.Flow
import HandS.Wide
import HandS.WideBits
import HandS.Zip
import HandS.TupAny
import HandS.TupMul
import HandS.Walk
import HandS.IsInst
import HandS.Deep
import KE.DataAny
import HandS.CallSlots
import HandS.ExcOwn
import HandS.Iter
import HandS.Conv
import HandS.Gcd
import KE.GoesZip
import HandS.Zip0
import Open.Row
import PySem.Challenge.RW_oneofeachpair_k30_papers_or_rows
set_option Elab.async false
set_option linter.all false
set_option maxRecDepth 100000
/-! PF 1: pure data, what a value in the heap stands for, the state of a body's names. -/
namespace PF
open PySem PySem.Spec PyProof.Rows L2

/-- pure data -/
inductive D where
  | non | bl (b : Bool) | int (i : Int) | str (x : Str) | tup (ds : List D) | lst (ds : List D) | klst (ds : List D) | obj (c : Nat) (ds : List D)
/-- an exception: its class, its fields -/
structure Er where
  cls : Nat
  pay : List D
abbrev Sg := L2.St
abbrev R (α : Type) : Type := Except (Option Er) α
def orS {α : Type} : Option α → R α
  | some a => .ok a
  | none => .error none
@[simp] theorem orS_some {α : Type} (a : α) : orS (some a) = .ok a := Eq.trans rfl rfl
@[simp] theorem orS_none {α : Type} : orS (none : Option α) = .error none := Eq.trans rfl rfl
@[simp] theorem bind_ok {α β : Type} (a : α) (f : α → R β) : (Except.ok a >>= f) = f a := Eq.trans rfl rfl
@[simp] theorem bind_er {α β : Type} (e : Option Er) (f : α → R β) : ((Except.error e : R α) >>= f) = .error e := Eq.trans rfl rfl
@[simp] theorem pure_ok {α : Type} (a : α) : (pure a : R α) = .ok a := Eq.trans rfl rfl

/-- own classes: addresses, fields in order -/
structure CT where
  adr : Nat → Addr
  fld : Nat → List Str

def noH : Hp := fun _ => none
abbrev Ad := Addr → Prop

mutual
inductive Rep (K : PySem.W.Frag) (T : CT) (N : Ad) (H : Hp) : V → D → Prop
  | non : Rep K T N H .non .non
  | bl (b : Bool) : Rep K T N H (.bl b) (.bl b)
  | int (i : Int) : Rep K T N H (.int i) (.int i)
  | str (x : Str) : Rep K T N H (.str x) (.str x)
  | tup {a : Addr} {vs : List V} {ds : List D} : ((Rd H a (.tup vs) ∧ ¬ N a) ∨ SqT K noH a vs) → Reps K T N H vs ds → Rep K T N H (.ref a) (.tup ds)
  | lst {a : Addr} {vs : List V} {ds : List D} : H a = some (.lst vs) → ¬ N a → Reps K T N H vs ds → Rep K T N H (.ref a) (.lst ds)
  | klst {a : Addr} {vs : List V} {ds : List D} : ((Rd H a (.lst vs) ∧ ¬ N a) ∨ SqL K noH a vs) → Reps K T N H vs ds → Rep K T N H (.ref a) (.klst ds)
  | obj {a dx : Addr} {c : Nat} {vs : List V} {ds : List D} : H a = some (.ins (T.adr c) dx ((T.fld c).zip vs)) → ¬ N a → vs.length = (T.fld c).length → Reps K T N H vs ds → Rep K T N H (.ref a) (.obj c ds)
inductive Reps (K : PySem.W.Frag) (T : CT) (N : Ad) (H : Hp) : List V → List D → Prop
  | nil : Reps K T N H [] []
  | cons {v : V} {vs : List V} {d : D} {ds : List D} : Rep K T N H v d → Reps K T N H vs ds → Reps K T N H (v :: vs) (d :: ds)
end

/-- what is kept from one state to the next: all but what is owned; what is owned newly is new -/
def Stp (N : Ad) (H : Hp) (N' : Ad) (H' : Hp) : Prop := (∀ a o, ¬ N a → H a = some o → H' a = some o) ∧ ∀ a, N' a → N a ∨ H a = none
theorem Stp.refl (N : Ad) (H : Hp) : Stp N H N H := ⟨fun _ _ _ h => h, fun _ h => .inl h⟩
theorem Stp.out {N N' : Ad} {H H' : Hp} (s : Stp N H N' H') {a : Addr} {o : HO} (n : ¬ N a) (h : H a = some o) : ¬ N' a := fun z =>
  (s.2 a z).elim n fun e => by rw [h] at e; cases e
theorem Stp.trans {N N1 N2 : Ad} {H H1 H2 : Hp} (s : Stp N H N1 H1) (t : Stp N1 H1 N2 H2) : Stp N H N2 H2 :=
  ⟨fun a o n h => t.1 a o (s.out n h) (s.1 a o n h), fun a z => by
    rcases t.2 a z with y | y
    · exact s.2 a y
    · by_cases n : N a
      · exact .inl n
      · refine .inr ?_
        cases q : H a with
        | none => rfl
        | some o =>
          have := s.1 a o n q
          rw [y] at this; cases this⟩
theorem Stp.same {N : Ad} {H H' : Hp} (s : Same H H') : Stp N H N H' := ⟨fun a o _ h => s a o h, fun _ h => .inl h⟩
theorem Stp.less {N N' : Ad} {H : Hp} (h : ∀ a, N' a → N a) : Stp N H N' H := ⟨fun _ _ _ e => e, fun a z => .inl (h a z)⟩
theorem Stp.or {N N' M : Ad} {H H' : Hp} (s : Stp N H N' H') : Stp (fun a => N a ∨ M a) H (fun a => N' a ∨ M a) H' :=
  ⟨fun a o n h => s.1 a o (fun z => n (.inl z)) h, fun a z => by
    rcases z with z | z
    · rcases s.2 a z with y | y
      · exact .inl (.inl y)
      · exact .inr y
    · exact .inl (.inr z)⟩

theorem stp_rd {N N' : Ad} {H H' : Hp} (s : Stp N H N' H') {a : Addr} {o : HO} (h : Rd H a o ∧ ¬ N a) : Rd H' a o ∧ ¬ N' a := by
  obtain ⟨h, n⟩ := h
  rcases h with h | ⟨ob, h⟩
  · exact ⟨.inl (s.1 _ _ n h), s.out n h⟩
  · exact ⟨.inr ⟨ob, s.1 _ _ n h⟩, s.out n h⟩
section
variable {K : PySem.W.Frag} {T : CT} {N N' : Ad} {H H' : Hp}
mutual
theorem Rep.step (s : Stp N H N' H') : ∀ {v : V} {d : D}, Rep K T N H v d → Rep K T N' H' v d
  | _, _, .non => .non
  | _, _, .bl b => .bl b
  | _, _, .int i => .int i
  | _, _, .str x => .str x
  | _, _, .tup h r => .tup (h.elim (fun z => .inl (stp_rd s z)) .inr) (Reps.step s r)
  | _, _, .lst h n r => .lst (s.1 _ _ n h) (s.out n h) (Reps.step s r)
  | _, _, .klst h r => .klst (h.elim (fun z => .inl (stp_rd s z)) .inr) (Reps.step s r)
  | _, _, .obj h n l r => .obj (s.1 _ _ n h) (s.out n h) l (Reps.step s r)
theorem Reps.step (s : Stp N H N' H') : ∀ {vs : List V} {ds : List D}, Reps K T N H vs ds → Reps K T N' H' vs ds
  | _, _, .nil => .nil
  | _, _, .cons h r => .cons (Rep.step s h) (Reps.step s r)
end
theorem Rep.same (s : Same H H') {v : V} {d : D} (r : Rep K T N H v d) : Rep K T N H' v d := r.step (.same s)
theorem Reps.same (s : Same H H') {vs : List V} {ds : List D} (r : Reps K T N H vs ds) : Reps K T N H' vs ds := r.step (.same s)
theorem Reps.length : ∀ {vs : List V} {ds : List D}, Reps K T N H vs ds → vs.length = ds.length
  | _, _, .nil => rfl
  | _, _, .cons _ r => congrArg (· + 1) (Reps.length r)
theorem Reps.get : ∀ {vs : List V} {ds : List D} {i : Nat} {d : D}, Reps K T N H vs ds → ds[i]? = some d → ∃ v, vs[i]? = some v ∧ Rep K T N H v d
  | _, _, _, _, .nil, e => by simp at e
  | _, _, 0, _, .cons h _, e => by simp at e; subst e; exact ⟨_, rfl, h⟩
  | _, _, i + 1, d, .cons _ r, e => Reps.get (i := i) (d := d) r (by simpa using e)
theorem Reps.get' : ∀ {vs : List V} {ds : List D} {i : Nat} {v : V}, Reps K T N H vs ds → vs[i]? = some v → ∃ d, ds[i]? = some d ∧ Rep K T N H v d
  | _, _, _, _, .nil, e => by simp at e
  | _, _, 0, _, .cons h _, e => by simp at e; subst e; exact ⟨_, rfl, h⟩
  | _, _, i + 1, v, .cons _ r, e => Reps.get' (i := i) (v := v) r (by simpa using e)
theorem Reps.append : ∀ {vs ws : List V} {ds es : List D}, Reps K T N H vs ds → Reps K T N H ws es → Reps K T N H (vs ++ ws) (ds ++ es)
  | _, _, _, _, .nil, q => q
  | _, _, _, _, .cons h r, q => .cons h (Reps.append r q)
theorem Reps.take : ∀ {vs : List V} {ds : List D} (n : Nat), Reps K T N H vs ds → Reps K T N H (vs.take n) (ds.take n)
  | _, _, 0, _ => .nil
  | _, _, _ + 1, .nil => .nil
  | _, _, n + 1, .cons h r => .cons h (Reps.take n r)
theorem Reps.drop : ∀ {vs : List V} {ds : List D} (n : Nat), Reps K T N H vs ds → Reps K T N H (vs.drop n) (ds.drop n)
  | _, _, 0, r => r
  | _, _, _ + 1, .nil => .nil
  | _, _, n + 1, .cons _ r => Reps.drop n r
theorem Reps.set {v : V} {d : D} (r : Rep K T N H v d) : ∀ {vs : List V} {ds : List D} (i : Nat), Reps K T N H vs ds → Reps K T N H (vs.set i v) (ds.set i d)
  | _, _, _, .nil => .nil
  | _, _, 0, .cons _ t => .cons r t
  | _, _, i + 1, .cons q t => .cons q (Reps.set r i t)
theorem Reps.rep {v : V} {d : D} (r : Rep K T N H v d) : ∀ n : Nat, Reps K T N H (List.replicate n v) (List.replicate n d)
  | 0 => .nil
  | n + 1 => .cons r (Reps.rep r n)
theorem Reps.rev : ∀ {vs : List V} {ds : List D}, Reps K T N H vs ds → Reps K T N H vs.reverse ds.reverse
  | _, _, .nil => .nil
  | _, _, .cons h r => by
    rw [List.reverse_cons, List.reverse_cons]
    exact (Reps.rev r).append (.cons h .nil)
theorem sq_noT {a : Addr} {vs : List V} (h : SqT K noH a vs) : SqT K H a vs := by
  rcases h with (h | ⟨o, h⟩) | h
  · cases h
  · cases h
  · exact .inr h
theorem sq_noL {a : Addr} {vs : List V} (h : SqL K noH a vs) : SqL K H a vs := by
  rcases h with (h | ⟨o, h⟩) | h
  · cases h
  · cases h
  · exact .inr h
theorem Rep.tupD {v : V} {ds : List D} (r : Rep K T N H v (.tup ds)) : ∃ a vs, v = .ref a ∧ SqT K H a vs ∧ Reps K T N H vs ds := by
  cases r with
  | tup h r => exact ⟨_, _, rfl, h.elim (fun z => .inl z.1) sq_noT, r⟩
theorem Rep.lstD {v : V} {ds : List D} (r : Rep K T N H v (.lst ds)) : ∃ a vs, v = .ref a ∧ SqL K H a vs ∧ Reps K T N H vs ds := by
  cases r with
  | lst h n r => exact ⟨_, _, rfl, .of h, r⟩
theorem Rep.lstH {v : V} {ds : List D} (r : Rep K T N H v (.lst ds)) : ∃ a vs, v = .ref a ∧ H a = some (.lst vs) ∧ ¬ N a ∧ Reps K T N H vs ds := by
  cases r with
  | lst h n r => exact ⟨_, _, rfl, h, n, r⟩
theorem Rep.klstD {v : V} {ds : List D} (r : Rep K T N H v (.klst ds)) : ∃ a vs, v = .ref a ∧ SqL K H a vs ∧ Reps K T N H vs ds := by
  cases r with
  | klst h r => exact ⟨_, _, rfl, h.elim (fun z => .inl z.1) sq_noL, r⟩
theorem Rep.intD {v : V} {i : Int} (r : Rep K T N H v (.int i)) : v = .int i := by cases r; rfl
theorem Rep.blD {v : V} {b : Bool} (r : Rep K T N H v (.bl b)) : v = .bl b := by cases r; rfl
theorem Rep.strD {v : V} {x : Str} (r : Rep K T N H v (.str x)) : v = .str x := by cases r; rfl
theorem Rep.nonD {v : V} (r : Rep K T N H v .non) : v = .non := by cases r; rfl
theorem Reps.nilD {vs : List V} (r : Reps K T N H vs []) : vs = [] := by cases r; rfl
theorem Reps.consD {vs : List V} {d : D} {ds : List D} (r : Reps K T N H vs (d :: ds)) : ∃ v ws, vs = v :: ws ∧ Rep K T N H v d ∧ Reps K T N H ws ds := by
  cases r with
  | cons h t => exact ⟨_, _, rfl, h, t⟩
/- data without lists and objects needs no exclusion -/
mutual
def flat : D → Bool
  | .tup ds => flats ds
  | .lst _ => false
  | .klst _ => false
  | .obj _ _ => false
  | _ => true
def flats : List D → Bool
  | [] => true
  | d :: ds => flat d && flats ds
end
mutual
theorem Rep.flat (hN : ∀ a, N' a → ∃ xs, H a = some (.lst xs)) : ∀ {v : V} {d : D}, PF.flat d = true → Rep K T N H v d → Rep K T N' H v d
  | _, _, _, .non => .non
  | _, _, _, .bl b => .bl b
  | _, _, _, .int i => .int i
  | _, _, _, .str x => .str x
  | _, _, e, .tup h r => .tup (h.elim (fun z => .inl ⟨z.1, fun n => by
      obtain ⟨xs, e⟩ := hN _ n
      rcases z.1 with q | ⟨o, q⟩ <;> (rw [e] at q; cases q)⟩) .inr) (Reps.flat hN e r)
  | _, _, e, .lst _ _ _ => absurd e Bool.false_ne_true
  | _, _, e, .klst _ _ => absurd e Bool.false_ne_true
  | _, _, e, .obj _ _ _ _ => absurd e Bool.false_ne_true
theorem Reps.flat (hN : ∀ a, N' a → ∃ xs, H a = some (.lst xs)) : ∀ {vs : List V} {ds : List D}, PF.flats ds = true → Reps K T N H vs ds → Reps K T N' H vs ds
  | _, _, _, .nil => .nil
  | _, _, e, .cons h r => .cons (Rep.flat hN (Bool.and_eq_true_iff.mp e).1 h) (Reps.flat hN (Bool.and_eq_true_iff.mp e).2 r)
end
end

/-! ### the state of a body's names -/
inductive Sl where
  | un | val (d : D) | own (ds : List D)
abbrev Rho := List Sl
def ownAt (σ : Sg) (ρ : Rho) (i : Nat) (a : Addr) : Prop := σ[i]? = some (some (.ref a)) ∧ ∃ ds, ρ[i]? = some (.own ds)
def Own (σ : Sg) (ρ : Rho) : Ad := fun a => ∃ i, ownAt σ ρ i a
def Exc (N0 : Ad) (σ : Sg) (ρ : Rho) : Ad := fun a => Own σ ρ a ∨ N0 a
structure RS (K : PySem.W.Frag) (T : CT) (N0 : Ad) (σ : Sg) (H : Hp) (ρ : Rho) : Prop where
  len : σ.length = ρ.length
  dom0 : ∀ a, N0 a → ∃ xs, H a = some (.lst xs)
  disj : ∀ a, N0 a → ¬ Own σ ρ a
  vals : ∀ (i : Nat) (d : D), ρ[i]? = some (.val d) → ∃ v, σ[i]? = some (some v) ∧ Rep K T (Exc N0 σ ρ) H v d
  owns : ∀ (i : Nat) (ds : List D), ρ[i]? = some (.own ds) → ∃ a vs, σ[i]? = some (some (.ref a)) ∧ H a = some (.lst vs) ∧ Reps K T (Exc N0 σ ρ) H vs ds
  apart : ∀ i j a, ownAt σ ρ i a → ownAt σ ρ j a → i = j
section
variable {K : PySem.W.Frag} {T : CT} {N0 : Ad} {H H' : Hp} {σ : Sg} {ρ : Rho} {i : Nat}
theorem RS.dom (r : RS K T N0 σ H ρ) {a : Addr} (h : Exc N0 σ ρ a) : ∃ xs, H a = some (.lst xs) := by
  rcases h with ⟨i, h1, ds, h2⟩ | h
  · obtain ⟨b, vs, e, h3, _⟩ := r.owns i ds h2
    rw [h1] at e
    cases e
    exact ⟨_, h3⟩
  · exact r.dom0 a h
theorem RS.fresh (r : RS K T N0 σ H ρ) {a : Addr} (h : H a = none) : ¬ Exc N0 σ ρ a := fun z => by
  obtain ⟨xs, e⟩ := r.dom z
  rw [h] at e; cases e
theorem RS.same (r : RS K T N0 σ H ρ) (s : Same H H') : RS K T N0 σ H' ρ :=
  ⟨r.len, fun a h => let ⟨xs, e⟩ := r.dom0 a h; ⟨xs, s _ _ e⟩, r.disj, fun i d e => let ⟨v, h1, h2⟩ := r.vals i d e; ⟨v, h1, h2.same s⟩,
    fun i ds e => let ⟨a, vs, h1, h2, h3⟩ := r.owns i ds e; ⟨a, vs, h1, s _ _ h2, h3.same s⟩, r.apart⟩
theorem ownAt_lose {x : Option V} {y : Sl} (hy : ∀ ds, y ≠ .own ds) {a : Addr} {j : Nat} (h : ownAt (σ.set i x) (ρ.set i y) j a) : ownAt σ ρ j a := by
  obtain ⟨h1, ds, h2⟩ := h
  by_cases hj : i = j
  · subst hj
    by_cases hl : i < ρ.length
    · rw [List.getElem?_set_self hl] at h2
      exact absurd (Option.some.inj h2) (hy ds)
    · rw [List.getElem?_eq_none (by simpa using hl)] at h2; cases h2
  · rw [List.getElem?_set_ne hj] at h1 h2
    exact ⟨h1, ds, h2⟩
/-- a name gets a value (or none) that is not its own list -/
theorem RS.setX (r : RS K T N0 σ H ρ) {x : Option V} {y : Sl} (hy : ∀ ds, y ≠ .own ds) (h : ∀ d, y = .val d → ∃ v, x = some v ∧ Rep K T (Exc N0 σ ρ) H v d) :
    RS K T N0 (σ.set i x) H (ρ.set i y) ∧ Stp (Own σ ρ) H (Own (σ.set i x) (ρ.set i y)) H := by
  have less : Stp (Exc N0 σ ρ) H (Exc N0 (σ.set i x) (ρ.set i y)) H := .less fun a z => z.elim (fun ⟨j, q⟩ => .inl ⟨j, ownAt_lose hy q⟩) .inr
  refine ⟨⟨by simpa using r.len, r.dom0, fun a n ⟨j, q⟩ => r.disj a n ⟨j, ownAt_lose hy q⟩, fun j e hj => ?_, fun j ds hj => ?_, fun j k a h1 h2 => r.apart j k a (ownAt_lose hy h1) (ownAt_lose hy h2)⟩,
    .less fun a ⟨j, q⟩ => ⟨j, ownAt_lose hy q⟩⟩
  · by_cases hij : i = j
    · subst hij
      by_cases hl : i < ρ.length
      · rw [List.getElem?_set_self hl] at hj
        obtain ⟨v, h1, h2⟩ := h e (Option.some.inj hj)
        exact ⟨v, by rw [List.getElem?_set_self (by rw [r.len]; exact hl), h1], h2.step less⟩
      · rw [List.getElem?_eq_none (by simpa using hl)] at hj; cases hj
    · rw [List.getElem?_set_ne hij] at hj ⊢
      obtain ⟨w, h1, h2⟩ := r.vals j e hj
      exact ⟨w, h1, h2.step less⟩
  · by_cases hij : i = j
    · subst hij
      by_cases hl : i < ρ.length
      · rw [List.getElem?_set_self hl] at hj
        exact absurd (Option.some.inj hj) (hy ds)
      · rw [List.getElem?_eq_none (by simpa using hl)] at hj; cases hj
    · rw [List.getElem?_set_ne hij] at hj ⊢
      obtain ⟨a, vs, h1, h2, h3⟩ := r.owns j ds hj
      exact ⟨a, vs, h1, h2, h3.step less⟩
theorem RS.setV (r : RS K T N0 σ H ρ) {v : V} {d : D} (h : Rep K T (Exc N0 σ ρ) H v d) :
    RS K T N0 (σ.set i (some v)) H (ρ.set i (.val d)) ∧ Stp (Own σ ρ) H (Own (σ.set i (some v)) (ρ.set i (.val d))) H :=
  r.setX (fun _ z => nomatch z) fun e he => by cases he; exact ⟨v, rfl, h⟩
theorem RS.drop (r : RS K T N0 σ H ρ) {x : Option V} : RS K T N0 (σ.set i x) H (ρ.set i .un) ∧ Stp (Own σ ρ) H (Own (σ.set i x) (ρ.set i .un)) H :=
  r.setX (fun _ z => nomatch z) fun e he => nomatch he
theorem own_setO {p a : Addr} {ds : List D} (h : Own (σ.set i (some (.ref p))) (ρ.set i (.own ds)) a) : a = p ∨ Own σ ρ a := by
  obtain ⟨j, h1, es, h2⟩ := h
  by_cases hj : i = j
  · subst hj
    by_cases hl : i < σ.length
    · rw [List.getElem?_set_self hl] at h1; cases h1; exact .inl rfl
    · rw [List.getElem?_eq_none (by simpa using hl)] at h1; cases h1
  · rw [List.getElem?_set_ne hj] at h1 h2
    exact .inr ⟨j, h1, es, h2⟩
/-- a name gets a new list of its own -/
theorem RS.setO (r : RS K T N0 σ H ρ) {p : Addr} {vs : List V} {ds : List D} (hp : H p = none) (s : Same H H') (hl : H' p = some (.lst vs)) (h : Reps K T (fun a => Exc N0 σ ρ a ∨ a = p) H' vs ds) :
    RS K T N0 (σ.set i (some (.ref p))) H' (ρ.set i (.own ds)) ∧ Stp (Own σ ρ) H (Own (σ.set i (some (.ref p))) (ρ.set i (.own ds))) H' := by
  have no : ¬ Own σ ρ p := fun z => r.fresh hp (.inl z)
  have no0 : ¬ N0 p := fun z => r.fresh hp (.inr z)
  have st : Stp (Exc N0 σ ρ) H (Exc N0 (σ.set i (some (.ref p))) (ρ.set i (.own ds))) H' := ⟨fun a o _ e => s a o e, fun a z => by
    rcases z with z | z
    · rcases own_setO z with e | z
      · subst e; exact .inr hp
      · exact .inl (.inl z)
    · exact .inl (.inr z)⟩
  have less : Stp (fun a => Exc N0 σ ρ a ∨ a = p) H' (Exc N0 (σ.set i (some (.ref p))) (ρ.set i (.own ds))) H' := .less fun a z => by
    rcases z with z | z
    · rcases own_setO z with e | z
      · exact .inr e
      · exact .inl (.inl z)
    · exact .inl (.inr z)
  refine ⟨⟨by simpa using r.len, fun a n => let ⟨xs, e⟩ := r.dom0 a n; ⟨xs, s _ _ e⟩, fun a n z => ?_, fun j e hj => ?_, fun j es hj => ?_, fun j k a h1 h2 => ?_⟩, ⟨fun a o _ e => s a o e, fun a z => ?_⟩⟩
  · rcases own_setO z with e | z
    · subst e; exact no0 n
    · exact r.disj a n z
  · by_cases hij : i = j
    · subst hij
      by_cases hl : i < ρ.length
      · rw [List.getElem?_set_self hl] at hj; cases hj
      · rw [List.getElem?_eq_none (by simpa using hl)] at hj; cases hj
    · rw [List.getElem?_set_ne hij] at hj ⊢
      obtain ⟨w, h1, h2⟩ := r.vals j e hj
      exact ⟨w, h1, h2.step st⟩
  · by_cases hij : i = j
    · subst hij
      by_cases hl' : i < ρ.length
      · rw [List.getElem?_set_self hl'] at hj
        cases hj
        exact ⟨p, vs, by rw [List.getElem?_set_self (by rw [r.len]; exact hl')], hl, h.step less⟩
      · rw [List.getElem?_eq_none (by simpa using hl')] at hj; cases hj
    · rw [List.getElem?_set_ne hij] at hj ⊢
      obtain ⟨a, ws, h1, h2, h3⟩ := r.owns j es hj
      exact ⟨a, ws, h1, s _ _ h2, h3.step st⟩
  · obtain ⟨a1, es1, b1⟩ := h1
    obtain ⟨a2, es2, b2⟩ := h2
    by_cases e1 : i = j
    · by_cases e2 : i = k
      · rw [← e1, ← e2]
      · subst e1
        rw [List.getElem?_set_ne e2] at a2 b2
        by_cases hl : i < σ.length
        · rw [List.getElem?_set_self hl] at a1
          cases a1
          exact (no ⟨k, a2, es2, b2⟩).elim
        · rw [List.getElem?_eq_none (by simpa using hl)] at a1; cases a1
    · rw [List.getElem?_set_ne e1] at a1 b1
      by_cases e2 : i = k
      · subst e2
        by_cases hl : i < σ.length
        · rw [List.getElem?_set_self hl] at a2
          cases a2
          exact (no ⟨j, a1, es1, b1⟩).elim
        · rw [List.getElem?_eq_none (by simpa using hl)] at a2; cases a2
      · rw [List.getElem?_set_ne e2] at a2 b2
        exact r.apart j k a ⟨a1, es1, b1⟩ ⟨a2, es2, b2⟩
  · rcases own_setO z with e | z
    · subst e; exact .inr hp
    · exact .inl z
/-- the own list of a name is changed -/
theorem RS.mutO (r : RS K T N0 σ H ρ) {p : Addr} {ds0 ds : List D} {vs : List V} (hi : ρ[i]? = some (.own ds0)) (hs : σ[i]? = some (some (.ref p))) (h : Reps K T (Exc N0 σ ρ) H vs ds) :
    RS K T N0 σ (upd H p (.lst vs)) (ρ.set i (.own ds)) ∧ Stp (Own σ ρ) H (Own σ (ρ.set i (.own ds))) (upd H p (.lst vs)) := by
  have hl : i < ρ.length := (List.getElem?_eq_some_iff.mp hi).1
  have oeq : ∀ a j, ownAt σ (ρ.set i (.own ds)) j a ↔ ownAt σ ρ j a := fun a j => by
    constructor
    · rintro ⟨h1, es, h2⟩
      by_cases hij : i = j
      · subst hij; exact ⟨h1, ds0, hi⟩
      · rw [List.getElem?_set_ne hij] at h2; exact ⟨h1, es, h2⟩
    · rintro ⟨h1, es, h2⟩
      by_cases hij : i = j
      · subst hij; exact ⟨h1, ds, by rw [List.getElem?_set_self hl]⟩
      · exact ⟨h1, es, by rw [List.getElem?_set_ne hij]; exact h2⟩
  have Oeq : Own σ (ρ.set i (.own ds)) = Own σ ρ := funext fun a => propext ⟨fun ⟨j, z⟩ => ⟨j, (oeq a j).mp z⟩, fun ⟨j, z⟩ => ⟨j, (oeq a j).mpr z⟩⟩
  have op : Own σ ρ p := ⟨i, hs, ds0, hi⟩
  have st : Stp (Exc N0 σ ρ) H (Exc N0 σ ρ) (upd H p (.lst vs)) := ⟨fun a o n e => by
    rw [upd_ne (fun z => n (by rw [z]; exact .inl op))]; exact e, fun a z => .inl z⟩
  have st' : Stp (Own σ ρ) H (Own σ ρ) (upd H p (.lst vs)) := ⟨fun a o n e => by
    rw [upd_ne (fun z => n (by rw [z]; exact op))]; exact e, fun a z => .inl z⟩
  have Eeq : Exc N0 σ (ρ.set i (.own ds)) = Exc N0 σ ρ := funext fun a => by unfold Exc; rw [Oeq]
  refine ⟨⟨by simpa using r.len, fun a n => ?_, fun a n => by rw [Oeq]; exact r.disj a n, fun j e hj => ?_, fun j es hj => ?_, fun j k a h1 h2 => r.apart j k a ((oeq a j).mp h1) ((oeq a k).mp h2)⟩, by rw [Oeq]; exact st'⟩
  · obtain ⟨xs, e⟩ := r.dom0 a n
    exact ⟨xs, by rw [upd_ne (fun z => r.disj a n (by rw [z]; exact op))]; exact e⟩
  · rw [Eeq]
    by_cases hij : i = j
    · subst hij
      rw [List.getElem?_set_self hl] at hj; cases hj
    · rw [List.getElem?_set_ne hij] at hj
      obtain ⟨w, h1, h2⟩ := r.vals j e hj
      exact ⟨w, h1, h2.step st⟩
  · rw [Eeq]
    by_cases hij : i = j
    · subst hij
      rw [List.getElem?_set_self hl] at hj
      cases hj
      exact ⟨p, vs, hs, upd_same, h.step st⟩
    · rw [List.getElem?_set_ne hij] at hj
      obtain ⟨a, ws, h1, h2, h3⟩ := r.owns j es hj
      have ne : a ≠ p := fun z => hij (r.apart i j p ⟨hs, ds0, hi⟩ ⟨by rw [← z]; exact h1, es, hj⟩)
      exact ⟨a, ws, h1, by rw [upd_ne ne]; exact h2, h3.step st⟩
/-- names are frozen: what was own is shared from here on -/
def frz1 : Sl → Sl
  | .own ds => .val (.lst ds)
  | s => s
def frzAll (ρ : Rho) : Rho := ρ.map frz1
theorem own_frz {a : Addr} : ¬ Own σ (frzAll ρ) a := fun ⟨i, _, ds, h⟩ => by
  unfold frzAll at h
  rw [List.getElem?_map] at h
  cases q : ρ[i]? with
  | none => rw [q] at h; cases h
  | some s =>
    rw [q] at h
    cases s <;> cases h
theorem RS.frz (r : RS K T N0 σ H ρ) : RS K T N0 σ H (frzAll ρ) := by
  have less : Stp (Exc N0 σ ρ) H (Exc N0 σ (frzAll ρ)) H := .less fun a z => z.elim (fun y => (own_frz y).elim) .inr
  refine ⟨by unfold frzAll; simpa using r.len, r.dom0, fun a _ z => own_frz z, fun j e hj => ?_, fun j es hj => ?_, fun j k a h1 h2 => (own_frz ⟨j, h1⟩).elim⟩
  · unfold frzAll at hj
    rw [List.getElem?_map] at hj
    cases q : ρ[j]? with
    | none => rw [q] at hj; cases hj
    | some s =>
      rw [q] at hj
      cases s with
      | un => cases hj
      | val d =>
        cases hj
        obtain ⟨v, h1, h2⟩ := r.vals j _ q
        exact ⟨v, h1, h2.step less⟩
      | own ds =>
        cases hj
        obtain ⟨a, vs, h1, h2, h3⟩ := r.owns j _ q
        refine ⟨_, h1, .lst h2 (fun z => ?_) (h3.step less)⟩
        rcases z with z | z
        · exact own_frz z
        · exact r.disj a z ⟨j, h1, ds, q⟩
  · unfold frzAll at hj
    rw [List.getElem?_map] at hj
    cases q : ρ[j]? with
    | none => rw [q] at hj; cases hj
    | some s => rw [q] at hj; cases s <;> cases hj
/-- one name is frozen -/
def frzAt (ρ : Rho) (i : Nat) : Rho := match ρ[i]? with
  | some (.own ds) => ρ.set i (.val (.lst ds))
  | _ => ρ
theorem set_self {α : Type} {l : List α} {i : Nat} {x : α} (h : l[i]? = some x) : l.set i x = l := by
  apply List.ext_getElem?
  intro j
  by_cases e : i = j
  · subst e
    rw [List.getElem?_set_self (List.getElem?_eq_some_iff.mp h).1, h]
  · rw [List.getElem?_set_ne e]
theorem RS.frzI (r : RS K T N0 σ H ρ) : RS K T N0 σ H (frzAt ρ i) ∧ Stp (Own σ ρ) H (Own σ (frzAt ρ i)) H := by
  unfold frzAt
  split
  · rename_i ds q
    obtain ⟨p, vs, h1, h2, h3⟩ := r.owns i ds q
    have hl : i < ρ.length := (List.getElem?_eq_some_iff.mp q).1
    have hy : ∀ es, Sl.val (.lst ds) ≠ .own es := fun _ z => nomatch z
    have oeq : ∀ a j, ownAt σ (ρ.set i (.val (.lst ds))) j a → ownAt σ ρ j a ∧ i ≠ j := fun a j => by
      rintro ⟨h1, es, h2⟩
      by_cases hij : i = j
      · subst hij
        rw [List.getElem?_set_self hl] at h2; cases h2
      · rw [List.getElem?_set_ne hij] at h2; exact ⟨⟨h1, es, h2⟩, hij⟩
    have less : Stp (Exc N0 σ ρ) H (Exc N0 σ (ρ.set i (.val (.lst ds)))) H := .less fun a z => z.elim (fun ⟨j, y⟩ => .inl ⟨j, (oeq a j y).1⟩) .inr
    have less' : Stp (Own σ ρ) H (Own σ (ρ.set i (.val (.lst ds)))) H := .less fun a ⟨j, y⟩ => ⟨j, (oeq a j y).1⟩
    refine ⟨⟨by simpa using r.len, r.dom0, fun a n ⟨j, y⟩ => r.disj a n ⟨j, (oeq a j y).1⟩, fun j e hj => ?_, fun j es hj => ?_, fun j k a h1 h2 => r.apart j k a (oeq a j h1).1 (oeq a k h2).1⟩, less'⟩
    · by_cases hij : i = j
      · subst hij
        rw [List.getElem?_set_self hl] at hj
        cases hj
        refine ⟨_, h1, .lst h2 (fun z => ?_) (h3.step less)⟩
        rcases z with ⟨k, z⟩ | z
        · exact (oeq p k z).2 (r.apart i k p ⟨h1, ds, q⟩ (oeq p k z).1)
        · exact r.disj p z ⟨i, h1, ds, q⟩
      · rw [List.getElem?_set_ne hij] at hj
        obtain ⟨w, h1, h2⟩ := r.vals j e hj
        exact ⟨w, h1, h2.step less⟩
    · by_cases hij : i = j
      · subst hij
        rw [List.getElem?_set_self hl] at hj; cases hj
      · rw [List.getElem?_set_ne hij] at hj
        obtain ⟨a, ws, h1, h2, h3⟩ := r.owns j es hj
        exact ⟨a, ws, h1, h2, h3.step less⟩
  · exact ⟨r, .refl _ _⟩
/-- one more excluded list -/
theorem RS.more (r : RS K T N0 σ H ρ) {p : Addr} {vs : List V} (hp : H p = none) (s : Same H H') (hl : H' p = some (.lst vs)) : RS K T (fun a => N0 a ∨ a = p) σ H' ρ := by
  have no : ¬ Own σ ρ p := fun z => r.fresh hp (.inl z)
  have st : Stp (Exc N0 σ ρ) H (Exc (fun a => N0 a ∨ a = p) σ ρ) H' := ⟨fun a o _ e => s a o e, fun a z => by
    rcases z with z | z | z
    · exact .inl (.inl z)
    · exact .inl (.inr z)
    · subst z; exact .inr hp⟩
  refine ⟨r.len, fun a n => ?_, fun a n z => ?_, fun i d e => let ⟨v, h1, h2⟩ := r.vals i d e; ⟨v, h1, h2.step st⟩, fun i ds e => let ⟨a, vs, h1, h2, h3⟩ := r.owns i ds e; ⟨a, vs, h1, s _ _ h2, h3.step st⟩, r.apart⟩
  · rcases n with n | n
    · obtain ⟨xs, e⟩ := r.dom0 a n
      exact ⟨xs, s _ _ e⟩
    · subst n; exact ⟨_, hl⟩
  · rcases n with n | n
    · exact r.disj a n z
    · subst n; exact no z
/-- a list that is excluded is changed -/
theorem RS.mut0 (r : RS K T N0 σ H ρ) {p : Addr} {vs : List V} (n : N0 p) : RS K T N0 σ (upd H p (.lst vs)) ρ := by
  have st : Stp (Exc N0 σ ρ) H (Exc N0 σ ρ) (upd H p (.lst vs)) := ⟨fun a o m e => by
    rw [upd_ne (fun z => m (by rw [z]; exact .inr n))]; exact e, fun a z => .inl z⟩
  refine ⟨r.len, fun a m => ?_, r.disj, fun i d e => let ⟨v, h1, h2⟩ := r.vals i d e; ⟨v, h1, h2.step st⟩, fun i ds e => let ⟨a, vs', h1, h2, h3⟩ := r.owns i ds e; ⟨a, vs', h1, ?_, h3.step st⟩, r.apart⟩
  · by_cases z : a = p
    · subst z; exact ⟨_, upd_same⟩
    · rw [upd_ne z]; exact r.dom0 a m
  · have ne : a ≠ p := fun z => r.disj p n (by rw [← z]; exact ⟨i, h1, ds, e⟩)
    rw [upd_ne ne]; exact h2
end
end PF

set_option Elab.async false
set_option linter.all false
set_option maxRecDepth 100000
/-! PF 2: what an expression means; the bind; names, constants, operators, tests. -/
namespace PF
open PySem PySem.Spec PyProof.Rows L2

/-! ### what is wanted -/
def RepX (K : PySem.W.Frag) (T : CT) (N : Ad) (H : Hp) (cls : Value) (dd : Option Addr) (e : Er) : Prop :=
  cls = .ref (T.adr e.cls) ∧ ((dd = none ∧ e.pay = []) ∨ ∃ d vs, dd = some d ∧ H d = some (.xd ((T.fld e.cls).zip vs)) ∧ Reps K T N H vs e.pay)
def Wx (K : PySem.W.Frag) (T : CT) (N : Ad) (W : WX) (σ : Sg) (H : Hp) (e : Er) : Prop := ∀ H' cls dd, Same H H' → RepX K T N H' cls dd e → W cls dd σ H'
def PG {α : Type} (W : Er → Prop) (r : R α) (S : α → Prop) : Prop := match r with
  | .ok a => S a
  | .error (some e) => W e
  | .error none => False
section
variable {α β : Type} {W W' : Er → Prop} {S S' : α → Prop}
@[simp] theorem PG_ok {a : α} : PG W (.ok a) S = S a := rfl
@[simp] theorem PG_er {e : Er} : PG W (.error (some e)) S = W e := rfl
@[simp] theorem PG_no : PG W (.error none) S = False := rfl
theorem PG.bind {r : R α} {f : α → R β} {S : β → Prop} (h : PG W (r >>= f) S) : PG W r fun a => PG W (f a) S := by
  rcases r with (_ | e) | a
  · exact h
  · exact h
  · exact h
theorem PG.mono {r : R α} (h : PG W r S) (hW : ∀ e, W e → W' e) (hS : ∀ a, r = .ok a → S a → S' a) : PG W' r S' := by
  rcases r with (_ | e) | a
  · exact h
  · exact hW e h
  · exact hS a rfl h
theorem PG.orS {o : Option α} (h : PG W (orS o) S) : ∃ a, o = some a ∧ S a := by
  cases o with
  | none => exact h.elim
  | some a => exact ⟨a, rfl, h⟩
end
def OkD (K : PySem.W.Frag) (T : CT) (N : Ad) (Q : VK) (d : D) (H : Hp) : Prop := ∀ v H', Same H H' → Rep K T N H' v d → Q v H'
def OkB (Q : Bool → Hp → Prop) (b : Bool) (H : Hp) : Prop := ∀ H', Same H H' → Q b H'
def OkL (K : PySem.W.Frag) (T : CT) (N : Ad) (Q : List V → Hp → Prop) (ds : List D) (H : Hp) : Prop := ∀ vs H', Same H H' → Reps K T N H' vs ds → Q vs H'
def tD (K : PySem.W.Frag) (T : CT) (W : WX) (f : Rho → R D) : TE := fun σ H Q => ∃ N0 ρ, RS K T N0 σ H ρ ∧ PG (Wx K T (Exc N0 σ ρ) W σ H) (f ρ) fun d => OkD K T (Exc N0 σ ρ) Q d H
def tB' (K : PySem.W.Frag) (T : CT) (W : WX) (f : Rho → R Bool) : TT := fun σ H Q => ∃ N0 ρ, RS K T N0 σ H ρ ∧ PG (Wx K T (Exc N0 σ ρ) W σ H) (f ρ) fun b => OkB Q b H
def tA' (K : PySem.W.Frag) (T : CT) (W : WX) (f : Rho → R (List D)) : TA := fun σ H Q => ∃ N0 ρ, RS K T N0 σ H ρ ∧ PG (Wx K T (Exc N0 σ ρ) W σ H) (f ρ) fun ds => OkL K T (Exc N0 σ ρ) Q ds H
section
variable {K : PySem.W.Frag} {T : CT} {W : WX} {N : Ad} {N0 : Ad} {H H' : Hp} {σ : Sg} {ρ : Rho}
theorem OkD.same {Q : VK} {d : D} (s : Same H H') (h : OkD K T N Q d H) : OkD K T N Q d H' := fun v H2 s2 r => h v H2 (s.trans s2) r
theorem OkB.same {Q : Bool → Hp → Prop} {b : Bool} (s : Same H H') (h : OkB Q b H) : OkB Q b H' := fun H2 s2 => h H2 (s.trans s2)
theorem OkL.same {Q : List V → Hp → Prop} {ds : List D} (s : Same H H') (h : OkL K T N Q ds H) : OkL K T N Q ds H' := fun v H2 s2 r => h v H2 (s.trans s2) r
theorem Wx.same {e : Er} (s : Same H H') (h : Wx K T N W σ H e) : Wx K T N W σ H' e := fun H2 c d s2 r => h H2 c d (s.trans s2) r
theorem tD.mono {f : Rho → R D} {Q Q' : VK} (h : tD K T W f σ H Q) (q : ∀ v H', Q v H' → Q' v H') : tD K T W f σ H Q' := by
  obtain ⟨N0, ρ, r, p⟩ := h
  exact ⟨N0, ρ, r, p.mono (fun _ h => h) fun a _ h v H' s rp => q v H' (h v H' s rp)⟩
theorem tB'.mono {f : Rho → R Bool} {Q Q' : Bool → Hp → Prop} (h : tB' K T W f σ H Q) (q : ∀ v H', Q v H' → Q' v H') : tB' K T W f σ H Q' := by
  obtain ⟨N0, ρ, r, p⟩ := h
  exact ⟨N0, ρ, r, p.mono (fun _ h => h) fun a _ h H' s => q a H' (h H' s)⟩
theorem tA'.mono {f : Rho → R (List D)} {Q Q' : List V → Hp → Prop} (h : tA' K T W f σ H Q) (q : ∀ v H', Q v H' → Q' v H') : tA' K T W f σ H Q' := by
  obtain ⟨N0, ρ, r, p⟩ := h
  exact ⟨N0, ρ, r, p.mono (fun _ h => h) fun a _ h v H' s rp => q v H' (h v H' s rp)⟩
/-- THE BIND: an expression is read, then the rest -/
theorem stepD {β : Type} {f : Rho → R D} {g : D → R β} {S : β → Hp → Prop} (r : RS K T N0 σ H ρ) (hS : ∀ b H H', Same H H' → S b H → S b H')
    (h : PG (Wx K T (Exc N0 σ ρ) W σ H) (f ρ >>= g) fun b => S b H) :
    tD K T W f σ H fun v H1 => Same H H1 ∧ RS K T N0 σ H1 ρ ∧ ∃ d, f ρ = .ok d ∧ Rep K T (Exc N0 σ ρ) H1 v d ∧ PG (Wx K T (Exc N0 σ ρ) W σ H1) (g d) fun b => S b H1 :=
  ⟨N0, ρ, r, h.bind.mono (fun _ h => h) fun d e p v H1 s rp => ⟨s, r.same s, d, e, rp, p.mono (fun _ h => h.same s) fun b _ h => hS b _ _ s h⟩⟩
theorem stepB {β : Type} {f : Rho → R Bool} {g : Bool → R β} {S : β → Hp → Prop} (r : RS K T N0 σ H ρ) (hS : ∀ b H H', Same H H' → S b H → S b H')
    (h : PG (Wx K T (Exc N0 σ ρ) W σ H) (f ρ >>= g) fun b => S b H) :
    tB' K T W f σ H fun v H1 => Same H H1 ∧ RS K T N0 σ H1 ρ ∧ f ρ = .ok v ∧ PG (Wx K T (Exc N0 σ ρ) W σ H1) (g v) fun b => S b H1 :=
  ⟨N0, ρ, r, h.bind.mono (fun _ h => h) fun d e p H1 s => ⟨s, r.same s, e, p.mono (fun _ h => h.same s) fun b _ h => hS b _ _ s h⟩⟩
theorem stepA {β : Type} {f : Rho → R (List D)} {g : List D → R β} {S : β → Hp → Prop} (r : RS K T N0 σ H ρ) (hS : ∀ b H H', Same H H' → S b H → S b H')
    (h : PG (Wx K T (Exc N0 σ ρ) W σ H) (f ρ >>= g) fun b => S b H) :
    tA' K T W f σ H fun vs H1 => Same H H1 ∧ RS K T N0 σ H1 ρ ∧ ∃ ds, f ρ = .ok ds ∧ Reps K T (Exc N0 σ ρ) H1 vs ds ∧ PG (Wx K T (Exc N0 σ ρ) W σ H1) (g ds) fun b => S b H1 :=
  ⟨N0, ρ, r, h.bind.mono (fun _ h => h) fun d e p v H1 s rp => ⟨s, r.same s, d, e, rp, p.mono (fun _ h => h.same s) fun b _ h => hS b _ _ s h⟩⟩
theorem stepDD {f : Rho → R D} {g : D → R D} {Q : VK} (r : RS K T N0 σ H ρ) (h : PG (Wx K T (Exc N0 σ ρ) W σ H) (f ρ >>= g) fun d => OkD K T N Q d H) :
    tD K T W f σ H (fun v H1 => Same H H1 ∧ RS K T N0 σ H1 ρ ∧ ∃ d, f ρ = .ok d ∧ Rep K T (Exc N0 σ ρ) H1 v d ∧ PG (Wx K T (Exc N0 σ ρ) W σ H1) (g d) fun d => OkD K T N Q d H1) :=
  stepD (S := fun d H => OkD K T N Q d H) r (fun _ _ _ s h => h.same s) h
theorem stepDB {f : Rho → R D} {g : D → R Bool} {Q : Bool → Hp → Prop} (r : RS K T N0 σ H ρ) (h : PG (Wx K T (Exc N0 σ ρ) W σ H) (f ρ >>= g) fun d => OkB Q d H) :
    tD K T W f σ H (fun v H1 => Same H H1 ∧ RS K T N0 σ H1 ρ ∧ ∃ d, f ρ = .ok d ∧ Rep K T (Exc N0 σ ρ) H1 v d ∧ PG (Wx K T (Exc N0 σ ρ) W σ H1) (g d) fun d => OkB Q d H1) :=
  stepD (S := fun d H => OkB Q d H) r (fun _ _ _ s h => h.same s) h
theorem stepDL {f : Rho → R D} {g : D → R (List D)} {Q : List V → Hp → Prop} (r : RS K T N0 σ H ρ) (h : PG (Wx K T (Exc N0 σ ρ) W σ H) (f ρ >>= g) fun d => OkL K T N Q d H) :
    tD K T W f σ H (fun v H1 => Same H H1 ∧ RS K T N0 σ H1 ρ ∧ ∃ d, f ρ = .ok d ∧ Rep K T (Exc N0 σ ρ) H1 v d ∧ PG (Wx K T (Exc N0 σ ρ) W σ H1) (g d) fun d => OkL K T N Q d H1) :=
  stepD (S := fun d H => OkL K T N Q d H) r (fun _ _ _ s h => h.same s) h
theorem stepBD {f : Rho → R Bool} {g : Bool → R D} {Q : VK} (r : RS K T N0 σ H ρ) (h : PG (Wx K T (Exc N0 σ ρ) W σ H) (f ρ >>= g) fun d => OkD K T N Q d H) :
    tB' K T W f σ H (fun v H1 => Same H H1 ∧ RS K T N0 σ H1 ρ ∧ f ρ = .ok v ∧ PG (Wx K T (Exc N0 σ ρ) W σ H1) (g v) fun d => OkD K T N Q d H1) :=
  stepB (S := fun d H => OkD K T N Q d H) r (fun _ _ _ s h => h.same s) h
theorem stepBB {f : Rho → R Bool} {g : Bool → R Bool} {Q : Bool → Hp → Prop} (r : RS K T N0 σ H ρ) (h : PG (Wx K T (Exc N0 σ ρ) W σ H) (f ρ >>= g) fun d => OkB Q d H) :
    tB' K T W f σ H (fun v H1 => Same H H1 ∧ RS K T N0 σ H1 ρ ∧ f ρ = .ok v ∧ PG (Wx K T (Exc N0 σ ρ) W σ H1) (g v) fun d => OkB Q d H1) :=
  stepB (S := fun d H => OkB Q d H) r (fun _ _ _ s h => h.same s) h
theorem stepBL {f : Rho → R Bool} {g : Bool → R (List D)} {Q : List V → Hp → Prop} (r : RS K T N0 σ H ρ) (h : PG (Wx K T (Exc N0 σ ρ) W σ H) (f ρ >>= g) fun d => OkL K T N Q d H) :
    tB' K T W f σ H (fun v H1 => Same H H1 ∧ RS K T N0 σ H1 ρ ∧ f ρ = .ok v ∧ PG (Wx K T (Exc N0 σ ρ) W σ H1) (g v) fun d => OkL K T N Q d H1) :=
  stepB (S := fun d H => OkL K T N Q d H) r (fun _ _ _ s h => h.same s) h
theorem stepAD {f : Rho → R (List D)} {g : (List D) → R D} {Q : VK} (r : RS K T N0 σ H ρ) (h : PG (Wx K T (Exc N0 σ ρ) W σ H) (f ρ >>= g) fun d => OkD K T N Q d H) :
    tA' K T W f σ H (fun vs H1 => Same H H1 ∧ RS K T N0 σ H1 ρ ∧ ∃ ds, f ρ = .ok ds ∧ Reps K T (Exc N0 σ ρ) H1 vs ds ∧ PG (Wx K T (Exc N0 σ ρ) W σ H1) (g ds) fun d => OkD K T N Q d H1) :=
  stepA (S := fun d H => OkD K T N Q d H) r (fun _ _ _ s h => h.same s) h
theorem stepAB {f : Rho → R (List D)} {g : (List D) → R Bool} {Q : Bool → Hp → Prop} (r : RS K T N0 σ H ρ) (h : PG (Wx K T (Exc N0 σ ρ) W σ H) (f ρ >>= g) fun d => OkB Q d H) :
    tA' K T W f σ H (fun vs H1 => Same H H1 ∧ RS K T N0 σ H1 ρ ∧ ∃ ds, f ρ = .ok ds ∧ Reps K T (Exc N0 σ ρ) H1 vs ds ∧ PG (Wx K T (Exc N0 σ ρ) W σ H1) (g ds) fun d => OkB Q d H1) :=
  stepA (S := fun d H => OkB Q d H) r (fun _ _ _ s h => h.same s) h
theorem stepAL {f : Rho → R (List D)} {g : (List D) → R (List D)} {Q : List V → Hp → Prop} (r : RS K T N0 σ H ρ) (h : PG (Wx K T (Exc N0 σ ρ) W σ H) (f ρ >>= g) fun d => OkL K T N Q d H) :
    tA' K T W f σ H (fun vs H1 => Same H H1 ∧ RS K T N0 σ H1 ρ ∧ ∃ ds, f ρ = .ok ds ∧ Reps K T (Exc N0 σ ρ) H1 vs ds ∧ PG (Wx K T (Exc N0 σ ρ) W σ H1) (g ds) fun d => OkL K T N Q d H1) :=
  stepA (S := fun d H => OkL K T N Q d H) r (fun _ _ _ s h => h.same s) h
end

/-! ### weaker readings -/
theorem weakE {X : Cx} {e : Expr} {t t' : TE} (h : PE X e t) (w : ∀ σ H Q, t' σ H Q → t σ H Q) : PE X e t' := ⟨fun pins s σ H Q I q => h.run pins s σ H Q I (w σ H Q q)⟩
theorem weakT {X : Cx} {e : Expr} {t t' : TT} (h : PT X e t) (w : ∀ σ H Q, t' σ H Q → t σ H Q) : PT X e t' := ⟨fun pins s σ H Q I q => h.run pins s σ H Q I (w σ H Q q)⟩
theorem weakW {X : Cx} {e : Expr} {t t' : TT} (h : PW X e t) (w : ∀ σ H Q, t' σ H Q → t σ H Q) : PW X e t' := ⟨fun wh pins s σ H Q I q => h.run wh pins s σ H Q I (w σ H Q q)⟩
theorem weakA {X : Cx} {es : List Expr} {t t' : TA} (h : PA X es t) (w : ∀ σ H Q, t' σ H Q → t σ H Q) : PA X es t' := ⟨fun pos pins s σ H Q I q => h.run pos pins s σ H Q I (w σ H Q q)⟩
theorem weakS {X : Cx} {st : Stmt} {t t' : TS} (h : PS X st t) (w : ∀ D σ H, t' D σ H → t D σ H) : PS X st t' := ⟨fun pins s σ H D I q => h.run pins s σ H D I (w D σ H q)⟩
theorem weakSs {X : Cx} {st : List Stmt} {t t' : TS} (h : PSs X st t) (w : ∀ D σ H, t' D σ H → t D σ H) : PSs X st t' := ⟨fun pins s σ H D I q => h.run pins s σ H D I (w D σ H q)⟩
theorem weakO {X : Cx} {f : Value → Value → Sem Value} {r r' : R2} (h : OpR X f r) (w : ∀ x y H Q, r' x y H Q → r x y H Q) : OpR X f r' := fun pins s σ H x y v u Q I rx ry q => h pins s σ H x y v u Q I rx ry (w x y H Q q)
theorem weakU {X : Cx} {f : Value → Sem Value} {r r' : V → Hp → VK → Prop} (h : UnR X f r) (w : ∀ x H Q, r' x H Q → r x H Q) : UnR X f r' := fun pins s σ H x v Q I rx q => h pins s σ H x v Q I rx (w x H Q q)
theorem weakC {X : Cx} {f : Value} {r r' : List V → Hp → VK → Prop} (h : CallR X f r) (w : ∀ x H Q, r' x H Q → r x H Q) : CallR X f r' := fun pins s σ H x v Q I rx q => h pins s σ H x v Q I rx (w x H Q q)
theorem weakI {X : Cx} {r r' : R2} (h : IxR X r) (w : ∀ x y H Q, r' x y H Q → r x y H Q) : IxR X r' := fun value slice pins s σ H x y v u Q I rx ry q => h value slice pins s σ H x y v u Q I rx ry (w x y H Q q)

/-! ### the meanings -/
abbrev EE := Rho → R D
abbrev ET := Rho → R Bool
abbrev EL := Rho → R (List D)
def eV (i : Nat) : EE := fun ρ => match ρ[i]? with
  | some (.val d) => .ok d
  | _ => .error none
def eK (d : D) : EE := fun _ => .ok d
def e1 (g : D → Option D) (a : EE) : EE := fun ρ => a ρ >>= fun x => orS (g x)
def e2 (g : D → D → Option D) (a b : EE) : EE := fun ρ => a ρ >>= fun x => b ρ >>= fun y => orS (g x y)
def c2 (g : D → D → Option Bool) (a b : EE) : ET := fun ρ => a ρ >>= fun x => b ρ >>= fun y => orS (g x y)
def eC2 (g : D → D → Option Bool) (a b : EE) : EE := fun ρ => a ρ >>= fun x => b ρ >>= fun y => orS ((g x y).map D.bl)
def lNil : EL := fun _ => .ok []
def lCons (a : EE) (l : EL) : EL := fun ρ => a ρ >>= fun x => l ρ >>= fun xs => .ok (x :: xs)

section
variable {X : Cx} {T : CT} {W : WX} {a b : Expr} {fa fb : EE} {pos : Pos}
theorem d_var (i : Nat) {x : Str} (hN : X.N[i]? = some x := by rfl) (hv : Vis X.env.scope x := by first | exact Or.inl rfl | exact Or.inr (Or.inl rfl) | exact Or.inr (Or.inr rfl)) (hd : (x == ("__debug__" : Str)) = false := by decide)
    (hcd : (x == ("__classdict__" : Str)) = false := by decide) : PE X (.Name x pos) (tD X.K T W (eV i)) :=
  weakE (pe_var hN hv hd hcd) fun σ H Q h => by
    obtain ⟨N0, ρ, r, p⟩ := h
    unfold eV at p
    split at p
    · rename_i d e
      obtain ⟨v, h1, h2⟩ := r.vals i d e
      exact ⟨v, h1, p v H (.refl H) h2⟩
    · exact p.elim
theorem d_const {e : Expr} {v : V} {d : D} (h : PE X e (tC v)) (r : ∀ K N H, Rep K T N H v d) : PE X e (tD X.K T W (eK d)) :=
  weakE h fun σ H Q q => by
    obtain ⟨N0, ρ, _, p⟩ := q
    exact p v H (.refl H) (r _ _ _)
theorem d_int {i j} : PE X (.Constant (.int i) j pos) (tD X.K T W (eK (.int i))) := d_const pe_int fun _ _ _ => .int i
theorem d_bl {i j} : PE X (.Constant (.bool i) j pos) (tD X.K T W (eK (.bl i))) := d_const pe_bl fun _ _ _ => .bl i
theorem d_non {j} : PE X (.Constant .none j pos) (tD X.K T W (eK .non)) := d_const pe_non fun _ _ _ => .non
theorem d_str {x j} : PE X (.Constant (.str x) j pos) (tD X.K T W (eK (.str x))) := d_const pe_str fun _ _ _ => .str x
theorem d_glob {x : Str} {v : V} {d : D} {u : Value} (hg : Gl X x) (hm : X.mg x = some u) (rv : RelV v u) (r : ∀ K N H, Rep K T N H v d) (hd : (x == ("__debug__" : Str)) = false := by decide) : PE X (.Name x pos) (tD X.K T W (eK d)) :=
  d_const (pe_glob hg hm rv hd) r

/-- a set of excluded addresses that stands: lists -/
def DomL (N : Ad) (H : Hp) : Prop := ∀ a, N a → ∃ xs, H a = some (.lst xs)
theorem DomL.same {N : Ad} {H H' : Hp} (d : DomL N H) (s : Same H H') : DomL N H' := fun a h => let ⟨xs, e⟩ := d a h; ⟨xs, s _ _ e⟩
theorem DomL.fresh {N : Ad} {H : Hp} (d : DomL N H) {p : Addr} (h : H p = none) : ¬ N p := fun z => by
  obtain ⟨xs, e⟩ := d p z
  rw [h] at e; cases e
theorem rs_dom {K : PySem.W.Frag} {N0 : Ad} {H : Hp} {σ : Sg} {ρ : Rho} (r : RS K T N0 σ H ρ) : DomL (Exc N0 σ ρ) H := fun _ h => r.dom h
/-- a two-place operation by data -/
def rD2 (K : PySem.W.Frag) (T : CT) (g : D → D → Option D) : R2 := fun x y H Q => ∃ N dx dy d, DomL N H ∧ Rep K T N H x dx ∧ Rep K T N H y dy ∧ g dx dy = some d ∧ OkD K T N Q d H
def rD1 (K : PySem.W.Frag) (T : CT) (g : D → Option D) : V → Hp → VK → Prop := fun x H Q => ∃ N dx d, DomL N H ∧ Rep K T N H x dx ∧ g dx = some d ∧ OkD K T N Q d H
def Op2 (X : Cx) (T : CT) (f : Value → Value → Sem Value) (g : D → D → Option D) : Prop := OpR X f (rD2 X.K T g)
def Cm2 (X : Cx) (T : CT) (f : Value → Value → Sem Value) (g : D → D → Option Bool) : Prop := OpR X f (rD2 X.K T fun x y => (g x y).map D.bl)
def Ix2 (X : Cx) (T : CT) (g : D → D → Option D) : Prop := IxR X (rD2 X.K T g)
def Un1 (X : Cx) (T : CT) (f : Value → Sem Value) (g : D → Option D) : Prop := UnR X f (rD1 X.K T g)
theorem two {K : PySem.W.Frag} {g : D → D → Option D} {r : R2} (hr : ∀ x y H Q, rD2 K T g x y H Q → r x y H Q) {σ : Sg} {H : Hp} {Q : VK} (h : tD K T W (e2 g fa fb) σ H Q) :
    tOp r (tD K T W fa) (tD K T W fb) σ H Q := by
  obtain ⟨N0, ρ, rs, p⟩ := h
  unfold e2 at p
  refine (stepDD rs p).mono fun v H1 ⟨s1, r1, dx, _, x1, p1⟩ => ?_
  refine (stepDD r1 p1).mono fun u H2 ⟨s2, r2, dy, _, x2, p2⟩ => ?_
  obtain ⟨d, e, q⟩ := p2.orS
  exact hr _ _ _ _ ⟨_, dx, dy, d, rs_dom r2, x1.same s2, x2, e, q⟩
theorem d_op2 {op : Operator} {g : D → D → Option D} (ho : Op2 X T (binaryOp op) g) (ha : PE X a (tD X.K T W fa)) (hb : PE X b (tD X.K T W fb)) : PE X (.BinOp a op b pos) (tD X.K T W (e2 g fa fb)) :=
  weakE (pe_op ho ha hb) fun _ _ _ h => two (fun _ _ _ _ z => z) h
theorem d_ix {g : D → D → Option D} (ho : Ix2 X T g) (ha : PE X a (tD X.K T W fa)) (hb : PE X b (tD X.K T W fb)) (hs : PlainIx b := by exact fun _ _ => rfl) : PE X (.Subscript a b pos) (tD X.K T W (e2 g fa fb)) :=
  weakE (pe_ix ho ha hb hs) fun _ _ _ h => two (fun _ _ _ _ z => z) h
theorem d_un {op : UnaryOp} {g : D → Option D} (ho : Un1 X T (unaryOp op) g) (ha : PE X a (tD X.K T W fa)) : PE X (.UnaryOp op a pos) (tD X.K T W (e1 g fa)) :=
  weakE (pe_un ho ha) fun σ H Q h => by
    obtain ⟨N0, ρ, rs, p⟩ := h
    unfold e1 at p
    refine (stepDD rs p).mono fun v H1 ⟨s1, r1, dx, _, x1, p1⟩ => ?_
    obtain ⟨d, e, q⟩ := p1.orS
    exact ⟨_, dx, d, rs_dom r1, x1, e, q⟩
theorem d_cmp {op : CmpOp} {g : D → D → Option Bool} (ho : Cm2 X T (compareOp op) g) (ha : PE X a (tD X.K T W fa)) (hb : PE X b (tD X.K T W fb)) (hm : behindInMarks op b = false := by first | exact nomark _ | rfl) :
    PE X (.Compare a [op] [b] pos) (tD X.K T W (eC2 g fa fb)) :=
  weakE (pe_cmpR ho ha hb hm) fun _ _ _ h => two (fun _ _ _ _ z => z) h
theorem t_cmp {op : CmpOp} {g : D → D → Option Bool} (ho : Cm2 X T (compareOp op) g) (ha : PE X a (tD X.K T W fa)) (hb : PE X b (tD X.K T W fb)) (hm : behindInMarks op b = false := by first | exact nomark _ | rfl) :
    PT X (.Compare a [op] [b] pos) (tB' X.K T W (c2 g fa fb)) :=
  weakT (pt_cmpR ho ha hb hm) fun σ H Q h => by
    obtain ⟨N0, ρ, rs, p⟩ := h
    unfold c2 at p
    refine (stepDB rs p).mono fun v H1 ⟨s1, r1, dx, _, x1, p1⟩ => ?_
    refine (stepDB r1 p1).mono fun u H2 ⟨s2, r2, dy, _, x2, p2⟩ => ?_
    obtain ⟨d, e, q⟩ := p2.orS
    refine ⟨_, dx, dy, .bl d, rs_dom r2, x1.same s2, x2, congrArg (Option.map D.bl) e, fun v' H' s r => ⟨d, ?_, q H' s⟩⟩
    cases r
    rfl
/-- a chain of two comparisons -/
def eCh (g g' : D → D → Option Bool) (a b c : EE) : ET := fun ρ => a ρ >>= fun x => b ρ >>= fun y => orS (g x y) >>= fun k => if k then c ρ >>= fun z => orS (g' y z) else .ok false
theorem t_chain {c : Expr} {fc : EE} {op op' : CmpOp} {g g' : D → D → Option Bool} (ho : Cm2 X T (compareOp op) g) (ho' : Cm2 X T (compareOp op') g') (ha : PE X a (tD X.K T W fa)) (hb : PE X b (tD X.K T W fb)) (hc : PE X c (tD X.K T W fc)) (hm : lastMarks [op, op'] [b, c] = false := by rfl) :
    PT X (.Compare a [op, op'] [b, c] pos) (tB' X.K T W (eCh g g' fa fb fc)) :=
  weakT (pt_chain ho ho' ha hb hc hm) fun σ H Q h => by
    obtain ⟨N0, ρ, rs, p⟩ := h
    unfold eCh at p
    refine (stepDB rs p).mono fun v H1 ⟨s1, r1, dx, _, x1, p1⟩ => ?_
    refine (stepDB r1 p1).mono fun u H2 ⟨s2, r2, dy, _, x2, p2⟩ => ?_
    obtain ⟨k, e, q⟩ := p2.bind.orS
    refine ⟨_, dx, dy, .bl k, rs_dom r2, x1.same s2, x2, congrArg (Option.map D.bl) e, fun v' H' s r => ?_⟩
    cases r
    have r2' := r2.same s
    refine ⟨k, rfl, ?_⟩
    cases k with
    | false =>
      rw [if_neg (by decide)]
      exact ⟨false, rfl, q H' s⟩
    | true =>
      rw [if_pos rfl]
      have q' : PG (Wx X.K T (Exc N0 σ ρ) W σ H') (fc ρ >>= fun z => orS (g' dy z)) fun b => OkB Q b H' := PG.mono (show PG _ (fc ρ >>= fun z => orS (g' dy z)) _ from q) (fun _ h => Wx.same s h) fun _ _ h => OkB.same s h
      refine (stepDB r2' q').mono fun w' H3 ⟨s3, r3, dz, _, x3, p3⟩ => ?_
      obtain ⟨m, e', q3⟩ := p3.orS
      refine ⟨_, dy, dz, .bl m, rs_dom r3, (x2.same s).same s3, x3, congrArg (Option.map D.bl) e', fun v'' H'' s'' r'' => ⟨m, ?_, q3 H'' s''⟩⟩
      cases r''
      rfl
/-- is None -/
def isNon : D → Bool
  | .non => true
  | _ => false
def eIsN (a : EE) : ET := fun ρ => a ρ >>= fun x => .ok (isNon x)
def eNotN (a : EE) : ET := fun ρ => a ρ >>= fun x => .ok (!isNon x)
theorem rep_non {K : PySem.W.Frag} {N : Ad} {H : Hp} {v : V} {d : D} (r : Rep K T N H v d) : decide (v = .non) = isNon d := by
  cases r <;> rfl
theorem rep_nonN {K : PySem.W.Frag} {N : Ad} {H : Hp} {v : V} {d : D} (r : Rep K T N H v d) : (!decide (v = .non)) = !isNon d := by
  cases r <;> rfl
theorem t_isN {j pos'} (ha : PE X a (tD X.K T W fa)) : PT X (.Compare a [.Is] [.Constant .none j pos'] pos) (tB' X.K T W (eIsN fa)) :=
  weakT (pt_cmp (pc_isN ha)) fun σ H Q h => by
    obtain ⟨N0, ρ, rs, p⟩ := h
    unfold eIsN at p
    refine (stepDB rs p).mono fun v H1 ⟨s1, r1, dx, _, x1, p1⟩ => ⟨_, rfl, ?_⟩
    have q : OkB Q (isNon dx) H1 := p1
    rw [← rep_non x1] at q
    exact q H1 (.refl _)
theorem t_notN {j pos'} (ha : PE X a (tD X.K T W fa)) : PT X (.Compare a [.IsNot] [.Constant .none j pos'] pos) (tB' X.K T W (eNotN fa)) :=
  weakT (pt_cmp (pc_notN ha)) fun σ H Q h => by
    obtain ⟨N0, ρ, rs, p⟩ := h
    unfold eNotN at p
    refine (stepDB rs p).mono fun v H1 ⟨s1, r1, dx, _, x1, p1⟩ => ⟨_, rfl, ?_⟩
    have q : OkB Q (!isNon dx) H1 := p1
    rw [← rep_nonN x1] at q
    exact q H1 (.refl _)
/-- a test as a value -/
def eB (c : ET) : EE := fun ρ => c ρ >>= fun b => .ok (.bl b)
theorem d_isN {j pos'} (ha : PE X a (tD X.K T W fa)) : PE X (.Compare a [.Is] [.Constant .none j pos'] pos) (tD X.K T W (eB (eIsN fa))) :=
  weakE (pe_cmp (pc_isN ha)) fun σ H Q h => by
    obtain ⟨N0, ρ, rs, p⟩ := h
    have p' : PG (Wx X.K T (Exc N0 σ ρ) W σ H) (fa ρ >>= fun x => .ok (.bl (isNon x))) fun d => OkD X.K T (Exc N0 σ ρ) Q d H := by
      unfold eB eIsN at p
      rcases hf : fa ρ with (_ | e) | x <;> (rw [hf] at p; exact p)
    refine (stepDD rs p').mono fun v H1 ⟨s1, r1, dx, _, x1, p1⟩ => ?_
    have q : OkD X.K T (Exc N0 σ ρ) Q (.bl (isNon dx)) H1 := p1
    rw [← rep_non x1] at q
    exact q _ H1 (.refl _) (.bl _)
theorem d_notN {j pos'} (ha : PE X a (tD X.K T W fa)) : PE X (.Compare a [.IsNot] [.Constant .none j pos'] pos) (tD X.K T W (eB (eNotN fa))) :=
  weakE (pe_cmp (pc_notN ha)) fun σ H Q h => by
    obtain ⟨N0, ρ, rs, p⟩ := h
    have p' : PG (Wx X.K T (Exc N0 σ ρ) W σ H) (fa ρ >>= fun x => .ok (.bl (!isNon x))) fun d => OkD X.K T (Exc N0 σ ρ) Q d H := by
      unfold eB eNotN at p
      rcases hf : fa ρ with (_ | e) | x <;> (rw [hf] at p; exact p)
    refine (stepDD rs p').mono fun v H1 ⟨s1, r1, dx, _, x1, p1⟩ => ?_
    have q : OkD X.K T (Exc N0 σ ρ) Q (.bl (!isNon dx)) H1 := p1
    rw [← rep_nonN x1] at q
    exact q _ H1 (.refl _) (.bl _)
/-! ### truth, and, or, not, if -/
def truth : D → Option Bool
  | .non => some false
  | .bl b => some b
  | .int i => some (i != 0)
  | .str x => if x.length ≤ 16777216 then some ((x.length : Int) != 0) else none
  | .tup ds => some (!ds.isEmpty)
  | .lst ds => some (!ds.isEmpty)
  | .klst ds => some (!ds.isEmpty)
  | .obj _ _ => none
theorem isE_len {α β : Type} {xs : List α} {ys : List β} (h : xs.length = ys.length) : xs.isEmpty = ys.isEmpty := by
  cases xs <;> cases ys <;> first | rfl | cases h
theorem rep_tru {K : PySem.W.Frag} {N : Ad} {H : Hp} {v : V} {d : D} {k : Bool} (r : Rep K T N H v d) (h : truth d = some k) : TruV K v H k := by
  cases r with
  | non => cases h; exact rfl
  | bl b => cases h; exact rfl
  | int i => cases h; exact rfl
  | str x =>
    have h' : (if x.length ≤ 16777216 then some ((x.length : Int) != 0) else none) = some k := h
    by_cases hx : x.length ≤ 16777216
    · rw [if_pos hx] at h'
      cases h'
      exact ⟨by rw [sizeLine_eq]; exact hx, rfl⟩
    · rw [if_neg hx] at h'
      cases h'
  | tup h1 r1 =>
    cases h
    exact .inr (.inl ⟨_, h1.elim (fun z => .inl z.1) sq_noT, by rw [isE_len r1.length]⟩)
  | lst h1 n r1 =>
    cases h
    exact .inl ⟨_, .of h1, by rw [isE_len r1.length]⟩
  | klst h1 r1 =>
    cases h
    exact .inl ⟨_, h1.elim (fun z => .inl z.1) sq_noL, by rw [isE_len r1.length]⟩
  | obj _ _ _ _ => cases h
def tTru (a : EE) : ET := fun ρ => a ρ >>= fun x => orS (truth x)
theorem t_truth (ha : PE X a (tD X.K T W fa)) (he : ∀ whole, isTrue a X.env whole = (do let v ← whole; standAt a.pos; holding [v] (truthy v)) := by intro _; rfl) : PT X a (tB' X.K T W (tTru fa)) :=
  weakT (pt_truth ha he) fun σ H Q h => by
    obtain ⟨N0, ρ, rs, p⟩ := h
    unfold tTru at p
    refine (stepDB rs p).mono fun v H1 ⟨s1, r1, dx, _, x1, p1⟩ => ?_
    obtain ⟨k, e, q⟩ := p1.orS
    exact ⟨k, rep_tru x1 e, q H1 (.refl _)⟩
def tAnd' (a b : ET) : ET := fun ρ => a ρ >>= fun k => if k then b ρ else .ok false
def tOr' (a b : ET) : ET := fun ρ => a ρ >>= fun k => if k then .ok true else b ρ
def tNot' (a : ET) : ET := fun ρ => a ρ >>= fun k => .ok (!k)
def eIf (c : ET) (a b : EE) : EE := fun ρ => c ρ >>= fun k => if k then a ρ else b ρ
def eAnd (a b : EE) : EE := fun ρ => a ρ >>= fun x => orS (truth x) >>= fun k => if k then b ρ else .ok x
def eOr (a b : EE) : EE := fun ρ => a ρ >>= fun x => orS (truth x) >>= fun k => if k then .ok x else b ρ
variable {ca cb : ET} {rest : List Expr}
theorem t_and1 (ha : PT X a (tB' X.K T W ca)) : PW X (.BoolOp .And [a] pos) (tB' X.K T W ca) := pw_and1 ha
theorem t_or1 (ha : PT X a (tB' X.K T W ca)) : PW X (.BoolOp .Or [a] pos) (tB' X.K T W ca) := pw_or1 ha
theorem t_and (ha : PT X a (tB' X.K T W ca)) (hb : PW X (.BoolOp .And (b :: rest) pos) (tB' X.K T W cb)) : PW X (.BoolOp .And (a :: b :: rest) pos) (tB' X.K T W (tAnd' ca cb)) :=
  weakW (pw_and ha hb) fun σ H Q h => by
    obtain ⟨N0, ρ, rs, p⟩ := h
    unfold tAnd' at p
    refine (stepBB rs p).mono fun k H1 ⟨s1, r1, _, p1⟩ => ?_
    cases k with
    | true => exact ⟨N0, ρ, r1, p1⟩
    | false => exact p1 H1 (.refl _)
theorem t_or (ha : PT X a (tB' X.K T W ca)) (hb : PW X (.BoolOp .Or (b :: rest) pos) (tB' X.K T W cb)) : PW X (.BoolOp .Or (a :: b :: rest) pos) (tB' X.K T W (tOr' ca cb)) :=
  weakW (pw_or ha hb) fun σ H Q h => by
    obtain ⟨N0, ρ, rs, p⟩ := h
    unfold tOr' at p
    refine (stepBB rs p).mono fun k H1 ⟨s1, r1, _, p1⟩ => ?_
    cases k with
    | false => exact ⟨N0, ρ, r1, p1⟩
    | true => exact p1 H1 (.refl _)
theorem t_not (ha : PT X a (tB' X.K T W ca)) : PT X (.UnaryOp .Not a pos) (tB' X.K T W (tNot' ca)) :=
  weakT (pt_not ha) fun σ H Q h => by
    obtain ⟨N0, ρ, rs, p⟩ := h
    unfold tNot' at p
    exact (stepBB rs p).mono fun k H1 ⟨s1, r1, _, p1⟩ => p1 H1 (.refl _)
theorem d_if {c : Expr} (hc : PT X c (tB' X.K T W ca)) (ha : PE X a (tD X.K T W fa)) (hb : PE X b (tD X.K T W fb)) : PE X (.IfExp c a b pos) (tD X.K T W (eIf ca fa fb)) :=
  weakE (pe_ifExp hc ha hb) fun σ H Q h => by
    obtain ⟨N0, ρ, rs, p⟩ := h
    unfold eIf at p
    refine (stepBD rs p).mono fun k H1 ⟨s1, r1, _, p1⟩ => ?_
    cases k with
    | true => exact ⟨N0, ρ, r1, p1⟩
    | false => exact ⟨N0, ρ, r1, p1⟩
theorem d_one {op} (ha : PE X a (tD X.K T W fa)) : PE X (.BoolOp op [a] pos) (tD X.K T W fa) := pe_one ha
theorem d_and (ha : PE X a (tD X.K T W fa)) (hb : PE X (.BoolOp .And (b :: rest) pos) (tD X.K T W fb)) : PE X (.BoolOp .And (a :: b :: rest) pos) (tD X.K T W (eAnd fa fb)) :=
  weakE (pe_andT ha hb) fun σ H Q h => by
    obtain ⟨N0, ρ, rs, p⟩ := h
    unfold eAnd at p
    refine (stepDD rs p).mono fun v H1 ⟨s1, r1, dx, _, x1, p1⟩ => ?_
    obtain ⟨k, e, q⟩ := p1.bind.orS
    refine ⟨k, rep_tru x1 e, ?_⟩
    cases k with
    | true => exact ⟨N0, ρ, r1, q⟩
    | false => exact q v H1 (.refl _) x1
theorem d_or (ha : PE X a (tD X.K T W fa)) (hb : PE X (.BoolOp .Or (b :: rest) pos) (tD X.K T W fb)) : PE X (.BoolOp .Or (a :: b :: rest) pos) (tD X.K T W (eOr fa fb)) :=
  weakE (pe_orT ha hb) fun σ H Q h => by
    obtain ⟨N0, ρ, rs, p⟩ := h
    unfold eOr at p
    refine (stepDD rs p).mono fun v H1 ⟨s1, r1, dx, _, x1, p1⟩ => ?_
    obtain ⟨k, e, q⟩ := p1.bind.orS
    refine ⟨k, rep_tru x1 e, ?_⟩
    cases k with
    | false => exact ⟨N0, ρ, r1, q⟩
    | true => exact q v H1 (.refl _) x1
def eNot (a : EE) : EE := fun ρ => a ρ >>= fun x => orS (truth x) >>= fun k => .ok (.bl (!k))
theorem d_not (ha : PE X a (tD X.K T W fa)) : PE X (.UnaryOp .Not a pos) (tD X.K T W (eNot fa)) :=
  weakE (pe_notT ha) fun σ H Q h => by
    obtain ⟨N0, ρ, rs, p⟩ := h
    unfold eNot at p
    refine (stepDD rs p).mono fun v H1 ⟨s1, r1, dx, _, x1, p1⟩ => ?_
    obtain ⟨k, e, q⟩ := p1.bind.orS
    exact ⟨k, rep_tru x1 e, q _ H1 (.refl _) (.bl _)⟩
/-! ### arguments, displays -/
variable {es : List Expr} {fs : EL}
theorem l_nil : PA X [] (tA' X.K T W lNil) := weakA pa_nil fun σ H Q h => by
  obtain ⟨N0, ρ, rs, p⟩ := h
  unfold lNil at p
  exact p [] H (.refl _) .nil
theorem l_cons (ha : PE X a (tD X.K T W fa)) (hr : PA X es (tA' X.K T W fs)) (hs : starEach (a :: es) X.env = (false, eval a X.env) :: starEach es X.env := by rfl) : PA X (a :: es) (tA' X.K T W (lCons fa fs)) :=
  weakA (pa_cons ha hr hs) fun σ H Q h => by
    obtain ⟨N0, ρ, rs, p⟩ := h
    unfold lCons at p
    refine (stepDL rs p).mono fun v H1 ⟨s1, r1, dx, _, x1, p1⟩ => ?_
    refine (stepAL r1 p1).mono fun vs H2 ⟨s2, r2, ds, _, x2, p2⟩ => ?_
    exact p2 (v :: vs) H2 (.refl _) (.cons (x1.same s2) x2)
theorem same_new {H : Hp} {p : Addr} {o : HO} (h : H p = none) : Same H (upd H p o) := fun b x e => by
  rw [upd_ne (ne_of_none e h)]
  exact e
theorem new_tup {K : PySem.W.Frag} {N : Ad} {H : Hp} {Q : VK} {vs : List V} {ds : List D} {p : Addr} (d : DomL N H) (hp : H p = none) (r : Reps K T N H vs ds) (q : OkD K T N Q (.tup ds) H) : Q (.ref p) (upd H p (.tup vs)) :=
  q _ _ (same_new hp) (.tup (.inl ⟨.inl upd_same, d.fresh hp⟩) (r.same (same_new hp)))
theorem new_lst {K : PySem.W.Frag} {N : Ad} {H : Hp} {Q : VK} {vs : List V} {ds : List D} {p : Addr} (d : DomL N H) (hp : H p = none) (r : Reps K T N H vs ds) (q : OkD K T N Q (.lst ds) H) : Q (.ref p) (upd H p (.lst vs)) :=
  q _ _ (same_new hp) (.lst upd_same (d.fresh hp) (r.same (same_new hp)))
def small (n : Nat) : Bool := decide (n ≤ 16777216)
theorem small_line {n : Nat} (h : small n = true) : n ≤ sizeLine := by rw [sizeLine_eq]; exact of_decide_eq_true h
def eTup (l : EL) : EE := fun ρ => l ρ >>= fun ds => if small ds.length then .ok (.tup ds) else .error none
def eLst (l : EL) : EE := fun ρ => l ρ >>= fun ds => if small ds.length then .ok (.lst ds) else .error none
theorem d_tup {x1} (h : PA X es (tA' X.K T W fs)) : PE X (.Tuple es x1 pos) (tD X.K T W (eTup fs)) :=
  weakE (pe_tup h) fun σ H Q h => by
    obtain ⟨N0, ρ, rs, p⟩ := h
    unfold eTup at p
    refine (stepAD rs p).mono fun vs H1 ⟨s1, r1, ds, _, x1, p1⟩ => ?_
    split at p1
    · exact ⟨by rw [x1.length]; exact small_line (by assumption), fun p hp => new_tup (rs_dom r1) hp x1 p1⟩
    · exact p1.elim
theorem d_lst (h : PA X es (tA' X.K T W fs)) : PE X (.List es pos) (tD X.K T W (eLst fs)) :=
  weakE (pe_lst h) fun σ H Q h => by
    obtain ⟨N0, ρ, rs, p⟩ := h
    unfold eLst at p
    refine (stepAD rs p).mono fun vs H1 ⟨s1, r1, ds, _, x1, p1⟩ => ?_
    split at p1
    · exact ⟨by rw [x1.length]; exact small_line (by assumption), fun p hp => new_lst (rs_dom r1) hp x1 p1⟩
    · exact p1.elim
end
end PF

set_option Elab.async false
set_option linter.all false
set_option maxRecDepth 100000
/-! PF 3: the operators and built-ins over data. -/
namespace PF
open PySem PySem.Spec PyProof.Rows L2

/-! ### plain data for == -/
mutual
def toPy : D → Option PyData
  | .non => some .none
  | .bl b => some (.bool b)
  | .int i => some (.int i)
  | .str x => some (.str x)
  | .tup ds => (toPys ds).map .tuple
  | .lst ds => (toPys ds).map .list
  | .klst ds => (toPys ds).map .list
  | .obj _ _ => none
def toPys : List D → Option (List PyData)
  | [] => some []
  | d :: ds => match toPy d, toPys ds with
    | some p, some ps => some (p :: ps)
    | _, _ => none
end
section
variable {K : PySem.W.Frag} {T : CT} {N : Ad} {H : Hp}
mutual
theorem Rep.dp : ∀ {v : V} {d : D}, Rep K T N H v d → ∀ {p : PyData}, toPy d = some p → Dp K H v p
  | _, _, .non, _, e => by cases e; exact .non
  | _, _, .bl b, _, e => by cases e; exact .bl b
  | _, _, .int i, _, e => by cases e; exact .int i
  | _, _, .str x, _, e => by cases e; exact .str x
  | _, _, .tup h r, p, e => by
    obtain ⟨ps, e1, e2⟩ := Option.map_eq_some_iff.mp (show (toPys _).map PyData.tuple = some p from e)
    cases e2
    exact .tup (h.elim (fun z => .inl z.1) sq_noT) (Reps.dp r e1)
  | _, _, .lst h n r, p, e => by
    obtain ⟨ps, e1, e2⟩ := Option.map_eq_some_iff.mp (show (toPys _).map PyData.list = some p from e)
    cases e2
    exact .lst (.of h) (Reps.dp r e1)
  | _, _, .klst h r, p, e => by
    obtain ⟨ps, e1, e2⟩ := Option.map_eq_some_iff.mp (show (toPys _).map PyData.list = some p from e)
    cases e2
    exact .lst (h.elim (fun z => .inl z.1) sq_noL) (Reps.dp r e1)
theorem Reps.dp : ∀ {vs : List V} {ds : List D}, Reps K T N H vs ds → ∀ {ps : List PyData}, toPys ds = some ps → DpAll K H vs ps
  | _, _, .nil, _, e => by cases e; exact .nil
  | _, _, .cons (d := d) (ds := ds) h r, ps, e => by
    cases h1 : toPy d with
    | none => rw [toPys, h1] at e; cases e
    | some p =>
      cases h2 : toPys ds with
      | none => rw [toPys, h1, h2] at e; cases e
      | some qs =>
        rw [toPys, h1, h2] at e
        cases e
        exact .cons (Rep.dp h h1) (Reps.dp r h2)
end
end

/-! ### the operators -/
def mulOk (i j : Int) : Bool := decide (-(2 ^ 64) < i ∧ i < 2 ^ 64) || decide (-(2 ^ 64) < j ∧ j < 2 ^ 64) || decide (i.natAbs.log2 + j.natAbs.log2 < 1000000)
def addD : D → D → Option D
  | .int i, .int j => some (.int (i + j))
  | .int i, .bl b => some (.int (i + b2i b))
  | .str a, .str b => if small (a.length + b.length) then some (.str (a ++ b)) else none
  | .lst a, .lst b => if small (a.length + b.length) then some (.lst (a ++ b)) else none
  | .tup a, .tup b => if small (a.length + b.length) then some (.tup (a ++ b)) else none
  | _, _ => none
def subD : D → D → Option D
  | .int i, .int j => some (.int (i - j))
  | _, _ => none
def mulD : D → D → Option D
  | .int i, .int j => if mulOk i j then some (.int (i * j)) else none
  | .lst a, .int k => if decide (0 ≤ k) && small (a.length * k.toNat) && small k.toNat then some (.lst (List.replicate k.toNat a).flatten) else none
  | _, _ => none
def divOk (j : Int) : Bool := decide (j ≠ 0 ∧ j.natAbs.log2 < 9000)
def divD : D → D → Option D
  | .int i, .int j => if divOk j then some (.int (i.fdiv j)) else none
  | _, _ => none
def modD : D → D → Option D
  | .int i, .int j => if decide (j ≠ 0) then some (.int (i.fmod j)) else none
  | _, _ => none
def powD : D → D → Option D
  | .int i, .int j => if decide (0 ≤ j ∧ j ≤ 1000000 ∧ i.natAbs < 2 ^ 64) then some (.int (i ^ j.toNat)) else none
  | _, _ => none
def shlD : D → D → Option D
  | .int i, .int j => if decide (0 ≤ j ∧ j ≤ 1000000 ∧ i.natAbs < 2 ^ 64) then some (.int (i * 2 ^ j.toNat)) else none
  | _, _ => none
def shrD : D → D → Option D
  | .int i, .int j => if decide (0 ≤ j) then some (.int (i / 2 ^ j.toNat)) else none
  | _, _ => none
def bitD (f : Int → Int → Int) : D → D → Option D
  | .int i, .int j => some (.int (f i j))
  | _, _ => none
def negD : D → Option D
  | .int i => some (.int (-i))
  | _ => none
def cmpD (f : Int → Int → Bool) : D → D → Option Bool
  | .int i, .int j => some (f i j)
  | _, _ => none
def eqD (a b : D) : Option Bool := match toPy a, toPy b with
  | some p, some q => if SeqAt.shaped p && SeqAt.shaped q then some (PyData.eqv p q) else none
  | _, _ => none
def neD (a b : D) : Option Bool := (eqD a b).map not
section
variable {X : Cx} {T : CT}
theorem fin1 {K : PySem.W.Frag} {N : Ad} {H : Hp} {Q : VK} {v : V} {d : D} (q : OkD K T N Q d H) (r : Rep K T N H v d) : Q v H := q v H (.refl H) r
theorem o_add : Op2 X T (binaryOp .Add) addD := by
  refine weakO (OpR.or op_add (OpR.or op_add_ib (OpR.or op_add_str (OpR.or op_cat op_catA)))) fun x y H Q h => ?_
  obtain ⟨N, dx, dy, d, dom, rx, ry, e, q⟩ := h
  cases rx <;> cases ry <;> first
    | (cases e; done)
    | skip
  · rename_i i b
    cases e
    exact .inr (.inl ⟨_, _, rfl, rfl, fin1 q (.int _)⟩)
  · rename_i i j
    cases e
    exact .inl ⟨_, _, rfl, rfl, fin1 q (.int _)⟩
  · rename_i a b
    have e' : (if small (a.length + b.length) then some (D.str (a ++ b)) else none) = some d := e
    split at e'
    · cases e'
      exact .inr (.inr (.inl ⟨_, _, rfl, rfl, small_line (by assumption), fin1 q (.str _)⟩))
    · cases e'
  · rename_i a va da ha ra b vb db hb rb
    have e' : (if small (da.length + db.length) then some (D.tup (da ++ db)) else none) = some d := e
    split at e'
    · cases e'
      refine .inr (.inr (.inr (.inr ⟨a, b, va, vb, rfl, rfl, ha.elim (fun z => .inl z.1) sq_noT, hb.elim (fun z => .inl z.1) sq_noT, ?_, fun e0 => ?_, fun _ e0 => ?_, fun _ _ p hp => ?_⟩)))
      · rw [ra.length, rb.length]; exact small_line (by assumption)
      · subst e0
        cases ra
        exact fin1 q (.tup hb rb)
      · subst e0
        cases rb
        rw [List.append_nil] at q
        exact fin1 q (.tup ha ra)
      · exact new_tup dom hp (ra.append rb) q
    · cases e'
  · rename_i a va da ha na ra b vb db hb nb rb
    have e' : (if small (da.length + db.length) then some (D.lst (da ++ db)) else none) = some d := e
    split at e'
    · cases e'
      refine .inr (.inr (.inr (.inl ⟨a, b, va, vb, rfl, rfl, ha, hb, ?_, fun p hp => ?_⟩)))
      · rw [ra.length, rb.length]; exact small_line (by assumption)
      · exact new_lst dom hp (ra.append rb) q
    · cases e'
theorem o_sub : Op2 X T (binaryOp .Sub) subD := by
  refine weakO op_sub fun x y H Q h => ?_
  obtain ⟨N, dx, dy, d, dom, rx, ry, e, q⟩ := h
  cases rx <;> cases ry <;> first
    | (cases e; done)
    | skip
  cases e
  exact ⟨_, _, rfl, rfl, fin1 q (.int _)⟩
theorem op_mulA : OpR X (binaryOp .Mult) (rI (fun i j => mulOk i j = true) fun i j => .int (i * j)) := by
  refine weakO (OpR.or op_mul op_mulW) fun x y H Q h => ?_
  obtain ⟨i, j, hx, hy, hc, q⟩ := h
  have hc : mulOk i j = true := hc
  unfold mulOk at hc
  rw [Bool.or_eq_true, Bool.or_eq_true, decide_eq_true_eq, decide_eq_true_eq, decide_eq_true_eq] at hc
  rcases hc with (hc | hc) | hc
  · exact .inl ⟨i, j, hx, hy, .inl hc, q⟩
  · exact .inl ⟨i, j, hx, hy, .inr hc, q⟩
  · exact .inr ⟨i, j, hx, hy, hc, q⟩
theorem Reps.flatten {K : PySem.W.Frag} {N : Ad} {H : Hp} {vs : List V} {ds : List D} (r : Reps K T N H vs ds) : ∀ n : Nat, Reps K T N H (List.replicate n vs).flatten (List.replicate n ds).flatten
  | 0 => .nil
  | n + 1 => by
    rw [List.replicate_succ, List.replicate_succ, List.flatten_cons, List.flatten_cons]
    exact r.append (Reps.flatten r n)
theorem op_fdivG : OpR X (binaryOp .FloorDiv) (rI (fun _ j => j ≠ 0 ∧ j.natAbs.log2 < 9000) fun i j => .int (i.fdiv j)) := opI fun i j _ _ _ _ _ hc q =>
  floordiv_int hc.1 q (.inl (PyProof.noPylong_of_log2 hc.2))
theorem o_div : Op2 X T (binaryOp .FloorDiv) divD := by
  refine weakO op_fdivG fun x y H Q h => ?_
  obtain ⟨N, dx, dy, d, dom, rx, ry, e, q⟩ := h
  cases rx <;> cases ry <;> first
    | (cases e; done)
    | skip
  rename_i i j
  have e' : (if divOk j then some (D.int (i.fdiv j)) else none) = some d := e
  split at e'
  · rename_i h
    cases e'
    exact ⟨_, _, rfl, rfl, of_decide_eq_true h, fin1 q (.int _)⟩
  · cases e'
theorem o_mod : Op2 X T (binaryOp .Mod) modD := by
  refine weakO op_modN fun x y H Q h => ?_
  obtain ⟨N, dx, dy, d, dom, rx, ry, e, q⟩ := h
  cases rx <;> cases ry <;> first
    | (cases e; done)
    | skip
  rename_i i j
  have e' : (if decide (j ≠ 0) then some (D.int (i.fmod j)) else none) = some d := e
  split at e'
  · rename_i h
    cases e'
    exact ⟨_, _, rfl, rfl, of_decide_eq_true h, fin1 q (.int _)⟩
  · cases e'
theorem o_pow : Op2 X T (binaryOp .Pow) powD := by
  refine weakO op_pow fun x y H Q h => ?_
  obtain ⟨N, dx, dy, d, dom, rx, ry, e, q⟩ := h
  cases rx <;> cases ry <;> first
    | (cases e; done)
    | skip
  rename_i i j
  have e' : (if decide (0 ≤ j ∧ j ≤ 1000000 ∧ i.natAbs < 2 ^ 64) then some (D.int (i ^ j.toNat)) else none) = some d := e
  split at e'
  · rename_i h
    cases e'
    exact ⟨_, _, rfl, rfl, (show 0 ≤ j ∧ j ≤ 1000000 ∧ i.natAbs < 2 ^ 64 from of_decide_eq_true h), fin1 q (.int _)⟩
  · cases e'
theorem o_shl : Op2 X T (binaryOp .LShift) shlD := by
  refine weakO op_shl fun x y H Q h => ?_
  obtain ⟨N, dx, dy, d, dom, rx, ry, e, q⟩ := h
  cases rx <;> cases ry <;> first
    | (cases e; done)
    | skip
  rename_i i j
  have e' : (if decide (0 ≤ j ∧ j ≤ 1000000 ∧ i.natAbs < 2 ^ 64) then some (D.int (i * 2 ^ j.toNat)) else none) = some d := e
  split at e'
  · rename_i h
    cases e'
    exact ⟨_, _, rfl, rfl, (show 0 ≤ j ∧ j ≤ 1000000 ∧ i.natAbs < 2 ^ 64 from of_decide_eq_true h), fin1 q (.int _)⟩
  · cases e'
theorem o_shr : Op2 X T (binaryOp .RShift) shrD := by
  refine weakO op_shr fun x y H Q h => ?_
  obtain ⟨N, dx, dy, d, dom, rx, ry, e, q⟩ := h
  cases rx <;> cases ry <;> first
    | (cases e; done)
    | skip
  rename_i i j
  have e' : (if decide (0 ≤ j) then some (D.int (i / 2 ^ j.toNat)) else none) = some d := e
  split at e'
  · rename_i h
    cases e'
    exact ⟨_, _, rfl, rfl, of_decide_eq_true h, fin1 q (.int _)⟩
  · cases e'
theorem o_bit {f : Int → Int → Int} {op : Operator} (h : OpR X (binaryOp op) (rI0 fun i j => .int (f i j))) : Op2 X T (binaryOp op) (bitD f) := by
  refine weakO h fun x y H Q h => ?_
  obtain ⟨N, dx, dy, d, dom, rx, ry, e, q⟩ := h
  cases rx <;> cases ry <;> first
    | (cases e; done)
    | skip
  cases e
  exact ⟨_, _, rfl, rfl, fin1 q (.int _)⟩
theorem o_and : Op2 X T (binaryOp .BitAnd) (bitD Builtin.bitAnd) := o_bit op_and
theorem o_or : Op2 X T (binaryOp .BitOr) (bitD Builtin.bitOr) := o_bit op_or
theorem o_xor : Op2 X T (binaryOp .BitXor) (bitD Builtin.bitXor) := o_bit op_xor
theorem o_neg : Un1 X T (unaryOp .USub) negD := by
  refine weakU un_neg fun x H Q h => ?_
  obtain ⟨N, dx, d, dom, rx, e, q⟩ := h
  cases rx <;> first
    | (cases e; done)
    | skip
  cases e
  exact ⟨_, rfl, fin1 q (.int _)⟩
theorem o_cmp {f : Int → Int → Bool} {op : CmpOp} (h : OpR X (compareOp op) (rI0 fun i j => .bl (f i j))) : Cm2 X T (compareOp op) (cmpD f) := by
  refine weakO h fun x y H Q h => ?_
  obtain ⟨N, dx, dy, d, dom, rx, ry, e, q⟩ := h
  cases rx <;> cases ry <;> first
    | (cases e; done)
    | skip
  cases e
  exact ⟨_, _, rfl, rfl, fin1 q (.bl _)⟩
theorem o_lt : Cm2 X T (compareOp .Lt) (cmpD fun i j => decide (i < j)) := o_cmp op_lt
theorem o_le : Cm2 X T (compareOp .LtE) (cmpD fun i j => decide (i ≤ j)) := o_cmp op_le
theorem o_gt : Cm2 X T (compareOp .Gt) (cmpD fun i j => decide (j < i)) := o_cmp op_gt
theorem o_ge : Cm2 X T (compareOp .GtE) (cmpD fun i j => decide (j ≤ i)) := o_cmp op_ge
theorem o_eq (hu : X.A.units + 64 < cLine) : Cm2 X T (compareOp .Eq) eqD := by
  refine weakO (op_eqD hu) fun x y H Q h => ?_
  obtain ⟨N, dx, dy, d, dom, rx, ry, e, q⟩ := h
  unfold eqD at e
  dsimp only at e
  split at e
  · rename_i p1 p2 e1 e2
    split at e
    · rename_i hs
      rw [Bool.and_eq_true] at hs
      cases e
      exact ⟨p1, p2, rx.dp e1, ry.dp e2, hs.1, hs.2, fin1 q (.bl _)⟩
    · cases e
  · cases e
theorem o_ne (hu : X.A.units + 64 < cLine) : Cm2 X T (compareOp .NotEq) neD := by
  refine weakO (op_neD hu) fun x y H Q h => ?_
  obtain ⟨N, dx, dy, d, dom, rx, ry, e, q⟩ := h
  unfold neD eqD at e
  dsimp only at e
  split at e
  · rename_i p1 p2 e1 e2
    split at e
    · rename_i hs
      rw [Bool.and_eq_true] at hs
      cases e
      exact ⟨p1, p2, rx.dp e1, ry.dp e2, hs.1, hs.2, fin1 q (.bl _)⟩
    · cases e
  · cases e
/-! ### in -/
def inD (a b : D) : Option Bool := match toPy a, b with
  | some p, .lst ds => match toPys ds with
    | some ps => if SeqAt.shaped p && SeqAt.shaped (.list ps) then some (ps.any fun z => PyData.eqv z p) else none
    | none => none
  | some p, .klst ds => match toPys ds with
    | some ps => if SeqAt.shaped p && SeqAt.shaped (.list ps) then some (ps.any fun z => PyData.eqv z p) else none
    | none => none
  | _, _ => none
/-! ### items -/
def ixD : D → D → Option D
  | .tup ds, .int i => atI ds i
  | .lst ds, .int i => atI ds i
  | .klst ds, .int i => atI ds i
  | .str x, .int i => if small x.length then (atI x.cps.toList i).map fun c => .str ⟨#[c]⟩ else none
  | _, _ => none
theorem Reps.atI {K : PySem.W.Frag} {N : Ad} {H : Hp} {vs : List V} {ds : List D} {i : Int} {d : D} (r : Reps K T N H vs ds) (h : L2.atI ds i = some d) : ∃ v, L2.atI vs i = some v ∧ Rep K T N H v d := by
  unfold L2.atI at h ⊢
  rw [r.length]
  cases hj : ixN ds.length i with
  | none => rw [hj] at h; cases h
  | some j =>
    rw [hj] at h
    exact r.get (i := j) (show ds[j]? = some d from h)
theorem i_ix : Ix2 X T ixD := by
  refine weakI ix_seq fun x y H Q h => ?_
  obtain ⟨N, dx, dy, d, dom, rx, ry, e, q⟩ := h
  cases rx <;> cases ry <;> first
    | (cases e; done)
    | skip
  · rename_i x i
    have e' : (if small x.length then (atI x.cps.toList i).map (fun c => D.str ⟨#[c]⟩) else none) = some d := e
    split at e'
    · obtain ⟨c, h1, h2⟩ := Option.map_eq_some_iff.mp e'
      cases h2
      exact .inr (.inr ⟨_, _, c, rfl, rfl, small_line (by assumption), h1, fin1 q (.str _)⟩)
    · cases e'
  · rename_i a vs ds h r i
    obtain ⟨v, h1, h2⟩ := r.atI (show L2.atI ds i = some d from e)
    exact .inr (.inl ⟨a, vs, i, v, rfl, rfl, h.elim (fun z => .inl z.1) sq_noT, h1, fin1 q h2⟩)
  · rename_i a vs ds h n r i
    obtain ⟨v, h1, h2⟩ := r.atI (show L2.atI ds i = some d from e)
    exact .inl ⟨a, vs, i, v, rfl, rfl, .of h, h1, fin1 q h2⟩
  · rename_i a vs ds h r i
    obtain ⟨v, h1, h2⟩ := r.atI (show L2.atI ds i = some d from e)
    exact .inl ⟨a, vs, i, v, rfl, rfl, h.elim (fun z => .inl z.1) sq_noL, h1, fin1 q h2⟩
end
end PF

set_option Elab.async false
set_option linter.all false
set_option maxRecDepth 100000
/-! PF 4: calls, what is walked, comprehensions. -/
namespace PF
open PySem PySem.Spec PyProof.Rows L2

/-! ### own defs -/
def ConX (K : PySem.W.Frag) (T : CT) (N : Ad) (E : XK) (H : Hp) (e : Er) : Prop := ∀ H' cls dd, Same H H' → RepX K T N H' cls dd e → E cls dd H'
/-- a def's promise: n arguments, its meaning F -/
def spD (K : PySem.W.Frag) (T : CT) (n : Nat) (F : List D → R D) : Sp := fun vs H Q E => vs.length = n ∧ ∃ N ds, DomL N H ∧ Reps K T N H vs ds ∧ PG (ConX K T N E H) (F ds) fun d => OkD K T N Q d H
def eCall (n : Nat) (F : List D → R D) (fs : EL) : EE := fun ρ => fs ρ >>= fun ds => if ds.length = n then F ds else .error none
def eC (g : List D → Option D) (fs : EL) : EE := fun ρ => fs ρ >>= fun ds => orS (g ds)
def rDC (K : PySem.W.Frag) (T : CT) (g : List D → Option D) : List V → Hp → VK → Prop := fun xs H Q => ∃ N ds d, DomL N H ∧ Reps K T N H xs ds ∧ g ds = some d ∧ OkD K T N Q d H
def Bc (X : Cx) (T : CT) (f : Value) (g : List D → Option D) : Prop := CallR X f (rDC X.K T g)
section
variable {X : Cx} {T : CT} {W : WX} {a b : Expr} {fa fb : EE} {pos p : Pos} {e : Expr} {es : List Expr} {fs : EL} {k : Nat} {f : Addr} {fd : FuncData} {ps : List Str} {x : Str} {id : String}
theorem d_call {n : Nat} {F : List D → R D} (Fn : FnOk X.prog X.w X.K X.mg X.base (L2.CX X.prog X.w) k f fd ps (spD X.K T n F)) (tk : Takes X W) (hr : Room k X.A) (hg : Gl X x) (hm : X.mg x = some (.ref f)) (hk : PySem.W.keepIn X.K (.ref f) = true)
    (hb : Binds X.K fd ps []) (ha : PA X (e :: es) (tA' X.K T W fs)) (hdb : (x == ("__debug__" : Str)) = false := by decide) (he : starEach (e :: es) X.env = (false, eval e X.env) :: starEach es X.env := by rfl) (hpl : (backTo pos (starEach es X.env)).any (·.1) = false := by rfl) :
    PE X (.Call (.Name x p) (e :: es) [] pos) (tD X.K T W (eCall n F fs)) :=
  weakE (pe_callSD (E := fun σ => WE W σ) Fn hr hg hm hk hb .nil (fun σ => passAt tk σ) ha hdb he hpl) fun σ H Q h => by
    obtain ⟨N0, ρ, rs, p⟩ := h
    unfold eCall at p
    refine (stepAD rs p).mono fun vs H1 ⟨s1, r1, ds, _, x1, p1⟩ => ?_
    show spD _ _ _ _ (vs ++ []) H1 Q (WE W σ)
    rw [List.append_nil]
    split at p1
    · rename_i hn
      exact ⟨by rw [x1.length]; exact hn, _, ds, rs_dom r1, x1, p1⟩
    · exact p1.elim
theorem d_callB {g : List D → Option D} (hc : Bc X T (.builtin id) g) (hg : Gl X x) (hm : X.mg x = none) (hv : bootBuiltins x = some (.builtin id)) (ha : PA X (e :: es) (tA' X.K T W fs)) (hn : x ≠ "__name__" := by decide) (hdb : (x == ("__debug__" : Str)) = false := by decide)
    (he : starEach (e :: es) X.env = (false, eval e X.env) :: starEach es X.env := by rfl) (hpl : (backTo pos (starEach es X.env)).any (·.1) = false := by rfl) : PE X (.Call (.Name x p) (e :: es) [] pos) (tD X.K T W (eC g fs)) :=
  weakE (pe_callB hc hg hm hv ha hn hdb he hpl) fun σ H Q h => by
    obtain ⟨N0, ρ, rs, p⟩ := h
    unfold eC at p
    refine (stepAD rs p).mono fun vs H1 ⟨s1, r1, ds, _, x1, p1⟩ => ?_
    obtain ⟨d, e, q⟩ := p1.orS
    exact ⟨_, ds, d, rs_dom r1, x1, e, q⟩
theorem d_callTy {g : List D → Option D} (hc : Bc X T (.type id) g) (hg : Gl X x) (hm : X.mg x = none) (hv : bootBuiltins x = some (.type id)) (ha : PA X (e :: es) (tA' X.K T W fs)) (hn : x ≠ "__name__" := by decide) (hdb : (x == ("__debug__" : Str)) = false := by decide)
    (he : starEach (e :: es) X.env = (false, eval e X.env) :: starEach es X.env := by rfl) (hpl : (backTo pos (starEach es X.env)).any (·.1) = false := by rfl) : PE X (.Call (.Name x p) (e :: es) [] pos) (tD X.K T W (eC g fs)) :=
  weakE (pe_callTy hc hg hm hv ha hn hdb he hpl) fun σ H Q h => by
    obtain ⟨N0, ρ, rs, p⟩ := h
    unfold eC at p
    refine (stepAD rs p).mono fun vs H1 ⟨s1, r1, ds, _, x1, p1⟩ => ?_
    obtain ⟨d, e, q⟩ := p1.orS
    exact ⟨_, ds, d, rs_dom r1, x1, e, q⟩
/-! ### built-ins -/
def lenD : List D → Option D
  | [.str x] => if small x.length then some (.int x.length) else none
  | [.tup ds] => some (.int ds.length)
  | [.lst ds] => some (.int ds.length)
  | [.klst ds] => some (.int ds.length)
  | _ => none
def absD : List D → Option D
  | [.int i] => some (.int (if i < 0 then -i else i))
  | _ => none
def maxD : List D → Option D
  | [.int i, .int j] => some (.int (if j > i then j else i))
  | _ => none
def minD : List D → Option D
  | [.int i, .int j] => some (.int (if j < i then j else i))
  | _ => none
def intD : List D → Option D
  | [.int i] => some (.int i)
  | [.bl k] => some (.int (if k then 1 else 0))
  | _ => none
def listD : List D → Option D
  | [.tup ds] => some (.lst ds)
  | [.lst ds] => some (.lst ds)
  | [.klst ds] => some (.lst ds)
  | _ => none
def tupleD : List D → Option D
  | [.tup ds] => some (.tup ds)
  | [.lst ds] => some (.tup ds)
  | [.klst ds] => some (.tup ds)
  | _ => none
def dInts : List D → Option (List Int)
  | [] => some []
  | .int i :: ds => (dInts ds).map (i :: ·)
  | _ => none
def dBls : List D → Option (List Bool)
  | [] => some []
  | .bl i :: ds => (dBls ds).map (i :: ·)
  | _ => none
def sumD : List D → Option D
  | [.lst ds] => (dInts ds).map fun ns => .int ns.sum
  | _ => none
theorem one_rep {K : PySem.W.Frag} {N : Ad} {H : Hp} {xs : List V} {d : D} (r : Reps K T N H xs [d]) : ∃ v, xs = [v] ∧ Rep K T N H v d := by
  obtain ⟨v, ws, e, h, t⟩ := r.consD
  cases t
  exact ⟨v, e, h⟩
theorem two_rep {K : PySem.W.Frag} {N : Ad} {H : Hp} {xs : List V} {d d2 : D} (r : Reps K T N H xs [d, d2]) : ∃ v u, xs = [v, u] ∧ Rep K T N H v d ∧ Rep K T N H u d2 := by
  obtain ⟨v, ws, e, h, t⟩ := r.consD
  obtain ⟨u, e2, h2⟩ := one_rep t
  subst e2
  exact ⟨v, u, e, h, h2⟩
theorem Reps.dInts {K : PySem.W.Frag} {N : Ad} {H : Hp} : ∀ {vs : List V} {ds : List D}, Reps K T N H vs ds → ∀ {ns : List Int}, PF.dInts ds = some ns → vs = ns.map V.int
  | _, _, .nil, _, e => by cases e; rfl
  | _, _, .cons h r, ns, e => by
    cases h <;> first
      | (obtain ⟨ms, h1, h2⟩ := Option.map_eq_some_iff.mp (show (PF.dInts _).map _ = some ns from e)
         subst h2
         rw [Reps.dInts r h1]
         rfl)
      | cases e
theorem Reps.dBls {K : PySem.W.Frag} {N : Ad} {H : Hp} : ∀ {vs : List V} {ds : List D}, Reps K T N H vs ds → ∀ {ns : List Bool}, PF.dBls ds = some ns → vs = ns.map V.bl
  | _, _, .nil, _, e => by cases e; rfl
  | _, _, .cons h r, ns, e => by
    cases h <;> first
      | (obtain ⟨ms, h1, h2⟩ := Option.map_eq_some_iff.mp (show (PF.dBls _).map _ = some ns from e)
         subst h2
         rw [Reps.dBls r h1]
         rfl)
      | cases e
theorem b_len : Bc X T (.builtin "len") lenD := by
  refine weakC call_len fun xs H Q h => ?_
  obtain ⟨N, ds, d, dom, r, e, q⟩ := h
  unfold lenD at e
  split at e
  · obtain ⟨v, rfl, r1⟩ := one_rep r
    split at e
    · cases e
      cases r1
      exact ⟨_, _, rfl, ⟨small_line (by assumption), rfl⟩, fin1 q (.int _)⟩
    · cases e
  · obtain ⟨v, rfl, r1⟩ := one_rep r
    cases e
    obtain ⟨a, vs, rfl, h1, r2⟩ := r1.tupD
    refine ⟨_, _, rfl, .inr ⟨vs, h1, rfl⟩, ?_⟩
    rw [r2.length]
    exact fin1 q (.int _)
  · obtain ⟨v, rfl, r1⟩ := one_rep r
    cases e
    obtain ⟨a, vs, rfl, h1, r2⟩ := r1.lstD
    refine ⟨_, _, rfl, .inl ⟨vs, h1, rfl⟩, ?_⟩
    rw [r2.length]
    exact fin1 q (.int _)
  · obtain ⟨v, rfl, r1⟩ := one_rep r
    cases e
    obtain ⟨a, vs, rfl, h1, r2⟩ := r1.klstD
    refine ⟨_, _, rfl, .inl ⟨vs, h1, rfl⟩, ?_⟩
    rw [r2.length]
    exact fin1 q (.int _)
  · cases e
theorem b_abs : Bc X T (.builtin "abs") absD := by
  refine weakC call_abs fun xs H Q h => ?_
  obtain ⟨N, ds, d, dom, r, e, q⟩ := h
  unfold absD at e
  split at e
  · obtain ⟨v, rfl, r1⟩ := one_rep r
    cases e
    cases r1
    exact ⟨_, rfl, fin1 q (.int _)⟩
  · cases e
theorem b_max (hc : X.calm = true) : Bc X T (.builtin "max") maxD := by
  refine weakC (call_max2 hc) fun xs H Q h => ?_
  obtain ⟨N, ds, d, dom, r, e, q⟩ := h
  unfold maxD at e
  split at e
  · obtain ⟨v, u, rfl, r1, r2⟩ := two_rep r
    cases e
    cases r1
    cases r2
    exact ⟨_, _, rfl, fin1 q (.int _)⟩
  · cases e
theorem b_min (hc : X.calm = true) : Bc X T (.builtin "min") minD := by
  refine weakC (call_min2 hc) fun xs H Q h => ?_
  obtain ⟨N, ds, d, dom, r, e, q⟩ := h
  unfold minD at e
  split at e
  · obtain ⟨v, u, rfl, r1, r2⟩ := two_rep r
    cases e
    cases r1
    cases r2
    exact ⟨_, _, rfl, fin1 q (.int _)⟩
  · cases e
theorem b_int : Bc X T (.type "int") intD := by
  refine weakC call_int1 fun xs H Q h => ?_
  obtain ⟨N, ds, d, dom, r, e, q⟩ := h
  unfold intD at e
  split at e
  · obtain ⟨v, rfl, r1⟩ := one_rep r
    cases e
    cases r1
    exact .inl ⟨_, rfl, fin1 q (.int _)⟩
  · obtain ⟨v, rfl, r1⟩ := one_rep r
    cases e
    cases r1
    exact .inr ⟨_, rfl, fin1 q (.int _)⟩
  · cases e
theorem b_list : Bc X T (.type "list") listD := by
  refine weakC call_list_of fun xs H Q h => ?_
  obtain ⟨N, ds, d, dom, r, e, q⟩ := h
  unfold listD at e
  split at e
  · obtain ⟨v, rfl, r1⟩ := one_rep r
    cases e
    obtain ⟨a, vs, rfl, h1, r2⟩ := r1.tupD
    exact ⟨_, vs, rfl, .inr h1, fun l hl => new_lst dom hl r2 q⟩
  · obtain ⟨v, rfl, r1⟩ := one_rep r
    cases e
    obtain ⟨a, vs, rfl, h1, r2⟩ := r1.lstD
    exact ⟨_, vs, rfl, .inl h1, fun l hl => new_lst dom hl r2 q⟩
  · obtain ⟨v, rfl, r1⟩ := one_rep r
    cases e
    obtain ⟨a, vs, rfl, h1, r2⟩ := r1.klstD
    exact ⟨_, vs, rfl, .inl h1, fun l hl => new_lst dom hl r2 q⟩
  · cases e
theorem b_tuple : Bc X T (.type "tuple") tupleD := by
  refine weakC call_tuple_of fun xs H Q h => ?_
  obtain ⟨N, ds, d, dom, r, e, q⟩ := h
  unfold tupleD at e
  split at e
  · obtain ⟨v, rfl, r1⟩ := one_rep r
    cases e
    obtain ⟨a, vs, rfl, h1, r2⟩ := id r1.tupD
    exact ⟨_, vs, rfl, .inr ⟨h1, fin1 q r1⟩⟩
  · obtain ⟨v, rfl, r1⟩ := one_rep r
    cases e
    obtain ⟨a, vs, rfl, h1, r2⟩ := r1.lstD
    exact ⟨_, vs, rfl, .inl ⟨h1, fun l hl => new_tup dom hl r2 q⟩⟩
  · obtain ⟨v, rfl, r1⟩ := one_rep r
    cases e
    obtain ⟨a, vs, rfl, h1, r2⟩ := r1.klstD
    exact ⟨_, vs, rfl, .inl ⟨h1, fun l hl => new_tup dom hl r2 q⟩⟩
  · cases e
theorem b_sum (hc : X.calm = true) : Bc X T (.builtin "sum") sumD := by
  refine weakC (cr_sum hc) fun xs H Q h => ?_
  obtain ⟨N, ds, d, dom, r, e, q⟩ := h
  unfold sumD at e
  split at e
  · obtain ⟨v, rfl, r1⟩ := one_rep r
    obtain ⟨ns, h1, h2⟩ := Option.map_eq_some_iff.mp e
    subst h2
    obtain ⟨a, vs, rfl, h3, r2⟩ := r1.lstD
    rw [r2.dInts h1] at h3
    exact ⟨_, ns, rfl, h3, fin1 q (.int _)⟩
  · cases e
/-- any, all: of truth values or of dInts -/
def tvs (ds : List D) : Option (List Bool) := match dBls ds with
  | some bs => some bs
  | none => (dInts ds).map fun ns => ns.map (· != 0)
def anyD : List D → Option D
  | [.lst ds] => (tvs ds).map fun bs => .bl (bs.any fun b => b)
  | [.tup ds] => (tvs ds).map fun bs => .bl (bs.any fun b => b)
  | _ => none
def allD : List D → Option D
  | [.lst ds] => (tvs ds).map fun bs => .bl (bs.all fun b => b)
  | [.tup ds] => (tvs ds).map fun bs => .bl (bs.all fun b => b)
  | _ => none
/-- the plain data of such items -/
theorem tvs_py {K : PySem.W.Frag} {N : Ad} {H : Hp} {vs : List V} {ds : List D} (r : Reps K T N H vs ds) {bs : List Bool} (h : tvs ds = some bs) :
    ∃ ps, DpAll K H vs ps ∧ PyData.plainAll ps = true ∧ (∀ x ∈ ps, x.fits63) ∧ ps.map PyData.truthy = bs := by
  have go1 : ∀ bs : List Bool, DpAll K H (bs.map V.bl) (bs.map PyData.bool) ∧ PyData.plainAll (bs.map PyData.bool) = true ∧ (∀ x ∈ bs.map PyData.bool, x.fits63) ∧ (bs.map PyData.bool).map PyData.truthy = bs := by
    intro bs
    induction bs with
    | nil => exact ⟨.nil, rfl, (fun _ z => nomatch z), rfl⟩
    | cons b bs ih =>
      obtain ⟨h1, h2, h3, h4⟩ := ih
      refine ⟨.cons (.bl b) h1, by simp [PyData.plainAll, PyData.plain, h2], fun x hx => ?_, by simp only [List.map_cons]; rw [h4]; rfl⟩
      rcases List.mem_cons.mp hx with e | hx
      · subst e; simp [PyData.fits63]
      · exact h3 x hx
  have go2 : ∀ ns : List Int, DpAll K H (ns.map V.int) (ns.map PyData.int) ∧ PyData.plainAll (ns.map PyData.int) = true ∧ (∀ x ∈ ns.map PyData.int, x.fits63) ∧ (ns.map PyData.int).map PyData.truthy = ns.map (· != 0) := by
    intro ns
    induction ns with
    | nil => exact ⟨.nil, rfl, (fun _ z => nomatch z), rfl⟩
    | cons b bs ih =>
      obtain ⟨h1, h2, h3, h4⟩ := ih
      refine ⟨.cons (.int b) h1, by simp [PyData.plainAll, PyData.plain, h2], fun x hx => ?_, by simp only [List.map_cons]; rw [h4]; rfl⟩
      rcases List.mem_cons.mp hx with e | hx
      · subst e; simp [PyData.fits63]
      · exact h3 x hx
  unfold tvs at h
  split at h
  · rename_i cs hb
    cases h
    rw [r.dBls hb]
    exact ⟨_, go1 _⟩
  · obtain ⟨ns, h1, h2⟩ := Option.map_eq_some_iff.mp h
    subst h2
    rw [r.dInts h1]
    exact ⟨_, go2 _⟩
theorem any_map {α : Type} (f : α → Bool) (l : List α) : (l.map f).any (fun b => b) = l.any f := by
  induction l with
  | nil => rfl
  | cons x l ih => rw [List.map_cons, List.any_cons, List.any_cons, ih]
theorem all_map' {α : Type} (f : α → Bool) (l : List α) : (l.map f).all (fun b => b) = l.all f := by
  induction l with
  | nil => rfl
  | cons x l ih => rw [List.map_cons, List.all_cons, List.all_cons, ih]
theorem b_any (hc : X.calm = true) : Bc X T (.builtin "any") anyD := by
  intro pins s σ H xs us Q I rv h
  obtain ⟨N, ds, d, dom, r, e, q⟩ := h
  unfold anyD at e
  split at e
  · obtain ⟨v, rfl, r1⟩ := one_rep r
    obtain ⟨u, rfl, r2⟩ := vals1 rv
    obtain ⟨bs, h1, h2⟩ := Option.map_eq_some_iff.mp e
    obtain ⟨a, vs, rfl, h3, r4⟩ := r1.lstD
    cases r2
    obtain ⟨ps, g1, g2, g3, g4⟩ := tvs_py r4 h1
    obtain ⟨its, w1, w2, _⟩ := I.list h3
    obtain ⟨as, w3⟩ := Dp.readsAll I ps _ its g1 w1
    refine PySem.W.any_list_data (I.ok.hd hc) w2.isList (show ReadsAll s.heap its.toArray.toList ps as from w3) g2 g3 fun h' tk hk => ⟨.bl _, H, I.kept hk, rfl, ?_⟩
    rw [← any_map, g4]
    subst h2
    exact fin1 q (.bl _)
  · obtain ⟨v, rfl, r1⟩ := one_rep r
    obtain ⟨u, rfl, r2⟩ := vals1 rv
    obtain ⟨bs, h1, h2⟩ := Option.map_eq_some_iff.mp e
    obtain ⟨a, vs, rfl, h3, r4⟩ := r1.tupD
    cases r2
    obtain ⟨ps, g1, g2, g3, g4⟩ := tvs_py r4 h1
    obtain ⟨its, w1, w2, _⟩ := I.tuple h3
    obtain ⟨as, w3⟩ := Dp.readsAll I ps _ its g1 w1
    refine PySem.W.any_tuple_data (I.ok.hd hc) (show s.heap.IsTuple a its.toArray from w2) (show ReadsAll s.heap its.toArray.toList ps as from w3) g2 g3 fun h' tk hk => ⟨.bl _, H, I.kept hk, rfl, ?_⟩
    rw [← any_map, g4]
    subst h2
    exact fin1 q (.bl _)
  · cases e
theorem b_all (hc : X.calm = true) : Bc X T (.builtin "all") allD := by
  intro pins s σ H xs us Q I rv h
  obtain ⟨N, ds, d, dom, r, e, q⟩ := h
  unfold allD at e
  split at e
  · obtain ⟨v, rfl, r1⟩ := one_rep r
    obtain ⟨u, rfl, r2⟩ := vals1 rv
    obtain ⟨bs, h1, h2⟩ := Option.map_eq_some_iff.mp e
    obtain ⟨a, vs, rfl, h3, r4⟩ := r1.lstD
    cases r2
    obtain ⟨ps, g1, g2, g3, g4⟩ := tvs_py r4 h1
    obtain ⟨its, w1, w2, _⟩ := I.list h3
    obtain ⟨as, w3⟩ := Dp.readsAll I ps _ its g1 w1
    refine PySem.W.all_list_data (I.ok.hd hc) w2.isList (show ReadsAll s.heap its.toArray.toList ps as from w3) g2 g3 fun h' tk hk => ⟨.bl _, H, I.kept hk, rfl, ?_⟩
    rw [← all_map', g4]
    subst h2
    exact fin1 q (.bl _)
  · obtain ⟨v, rfl, r1⟩ := one_rep r
    obtain ⟨u, rfl, r2⟩ := vals1 rv
    obtain ⟨bs, h1, h2⟩ := Option.map_eq_some_iff.mp e
    obtain ⟨a, vs, rfl, h3, r4⟩ := r1.tupD
    cases r2
    obtain ⟨ps, g1, g2, g3, g4⟩ := tvs_py r4 h1
    obtain ⟨its, w1, w2, _⟩ := I.tuple h3
    obtain ⟨as, w3⟩ := Dp.readsAll I ps _ its g1 w1
    refine PySem.W.all_tuple_data (I.ok.hd hc) (show s.heap.IsTuple a its.toArray from w2) (show ReadsAll s.heap its.toArray.toList ps as from w3) g2 g3 fun h' tk hk => ⟨.bl _, H, I.kept hk, rfl, ?_⟩
    rw [← all_map', g4]
    subst h2
    exact fin1 q (.bl _)
  · cases e
/-! ### isinstance of a built-in type -/
def tyD (n : String) : D → Option Bool
  | .non => some (n == "NoneType")
  | .bl _ => some (n == "bool" || n == "int")
  | .int _ => some (n == "int")
  | .str _ => some (n == "str")
  | .tup _ => some (n == "tuple")
  | .lst _ => some (n == "list")
  | .klst _ => some (n == "list")
  | .obj _ _ => none
/-! ### own lists, borrowed or read by an item -/
def eBor (f : EE) : EE := fun ρ => match f (frzAll ρ) with
  | .ok d => if flat d then .ok d else .error none
  | .error (some e) => if flats e.pay then .error (some e) else .error none
  | .error none => .error none
theorem RepX.flat {K : PySem.W.Frag} {N N' : Ad} {H : Hp} {cls : Value} {dd : Option Addr} {er : Er} (hN : DomL N' H) (h : flats er.pay = true) (r : RepX K T N H cls dd er) : RepX K T N' H cls dd er := by
  obtain ⟨h1, h2⟩ := r
  refine ⟨h1, h2.imp id ?_⟩
  rintro ⟨d, vs, e1, e2, e3⟩
  exact ⟨d, vs, e1, e2, Reps.flat hN h e3⟩
theorem d_bor (ha : PE X a (tD X.K T W fa)) : PE X a (tD X.K T W (eBor fa)) :=
  weakE ha fun σ H Q h => by
    obtain ⟨N0, ρ, rs, p⟩ := h
    refine ⟨N0, frzAll ρ, rs.frz, ?_⟩
    unfold eBor at p
    rcases hf : fa (frzAll ρ) with (_ | er) | d
    · rw [hf] at p; exact p
    · rw [hf] at p
      dsimp only at p
      split at p
      · rename_i hfl
        exact fun H' cls dd s r => p H' cls dd s (RepX.flat ((rs_dom rs).same s) hfl r)
      · exact p.elim
    · rw [hf] at p
      dsimp only at p
      split at p
      · rename_i hfl
        exact fun v H' s r => p v H' s (Rep.flat ((rs_dom rs).same s) hfl r)
      · exact p.elim
end
end PF

set_option Elab.async false
set_option linter.all false
set_option maxRecDepth 100000
/-! PF 5: own items, targets, what is walked, comprehensions. -/
namespace PF
open PySem PySem.Spec PyProof.Rows L2
section
variable {X : Cx} {T : CT} {W : WX} {a b : Expr} {fa fb : EE} {pos p : Pos} {e : Expr} {es : List Expr} {fs : EL} {x : Str}
/-! ### an item of an own list -/
def eOwn (i : Nat) (b : EE) : EE := fun ρ => match ρ[i]? with
  | some (.own ds) => b ρ >>= fun y => orS (ixD (.lst ds) y)
  | some (.val d) => b ρ >>= fun y => orS (ixD d y)
  | _ => .error none
theorem d_ixO (i : Nat) {px : Pos} (hb : PE X b (tD X.K T W fb)) (hN : X.N[i]? = some x := by rfl) (hv : Vis X.env.scope x := by first | exact Or.inl rfl | exact Or.inr (Or.inl rfl) | exact Or.inr (Or.inr rfl)) (hs : PlainIx b := by exact fun _ _ => rfl) (hd : (x == ("__debug__" : Str)) = false := by decide)
    (hcd : (x == ("__classdict__" : Str)) = false := by decide) : PE X (.Subscript (.Name x px) b pos) (tD X.K T W (eOwn i fb)) :=
  weakE (t := fun σ H Q => tOp (rIxL X.K) (tVar i) (tD X.K T W fb) σ H Q ∨ tOp (rD2 X.K T ixD) (tVar i) (tD X.K T W fb) σ H Q)
    ⟨fun pins s σ H Q I h => h.elim (fun h => (pe_ix ix_list (pe_var hN hv hd hcd) hb hs).run pins s σ H Q I h) fun h => (pe_ix i_ix (pe_var hN hv hd hcd) hb hs).run pins s σ H Q I h⟩ fun σ H Q h => by
    obtain ⟨N0, ρ, rs, p⟩ := h
    unfold eOwn at p
    split at p
    · rename_i ds hi
      obtain ⟨a, vs, h1, h2, h3⟩ := rs.owns i ds hi
      refine .inl ⟨_, h1, (stepDD rs p).mono fun u H1 ⟨s1, r1, dy, _, x1, p1⟩ => ?_⟩
      obtain ⟨d, e, q⟩ := p1.orS
      obtain ⟨k, rfl⟩ : ∃ k, dy = .int k := by
        cases dy <;> first
          | exact ⟨_, rfl⟩
          | cases e
      cases x1
      obtain ⟨v, g1, g2⟩ := (h3.same s1).atI (show L2.atI ds k = some d from e)
      exact ⟨a, vs, k, v, rfl, rfl, .of (s1 _ _ h2), g1, fin1 q g2⟩
    · rename_i d0 hi
      obtain ⟨v, h1, h2⟩ := rs.vals i d0 hi
      refine .inr ⟨_, h1, (stepDD rs p).mono fun u H1 ⟨s1, r1, dy, _, x1, p1⟩ => ?_⟩
      obtain ⟨d, e, q⟩ := p1.orS
      exact ⟨_, d0, dy, d, rs_dom r1, h2.same s1, x1, e, q⟩
    · exact p.elim
/-! ### targets -/
def Frm (is : List Nat) (σ σ' : Sg) : Prop := σ'.length = σ.length ∧ ∀ j, j ∉ is → σ'[j]? = σ[j]?
theorem Frm.refl (is : List Nat) (σ : Sg) : Frm is σ σ := ⟨rfl, fun _ _ => rfl⟩
theorem Frm.trans {is js : List Nat} {σ σ1 σ2 : Sg} (f : Frm is σ σ1) (g : Frm js σ1 σ2) : Frm (is ++ js) σ σ2 := ⟨g.1.trans f.1, fun j h => by
  rw [List.mem_append, not_or] at h
  exact (g.2 j h.2).trans (f.2 j h.1)⟩
def tG (K : PySem.W.Frag) (T : CT) (is : List Nat) (asg : D → Rho → R Rho) : TG := fun v σ H Q => ∃ N0 ρ d ρ', RS K T N0 σ H ρ ∧ Rep K T (Exc N0 σ ρ) H v d ∧ asg d ρ = .ok ρ' ∧
  ∀ σ', RS K T N0 σ' H ρ' → Stp (Own σ ρ) H (Own σ' ρ') H → Frm is σ σ' → Q σ' H
def tGs (K : PySem.W.Frag) (T : CT) (is : List Nat) (asg : List D → Rho → R Rho) : TGs := fun vs σ H Q => ∃ N0 ρ ds ρ', RS K T N0 σ H ρ ∧ Reps K T (Exc N0 σ ρ) H vs ds ∧ asg ds ρ = .ok ρ' ∧
  ∀ σ', RS K T N0 σ' H ρ' → Stp (Own σ ρ) H (Own σ' ρ') H → Frm is σ σ' → Q σ' H
def aName (i : Nat) : D → Rho → R Rho := fun d ρ => .ok (ρ.set i (.val d))
def aNil : List D → Rho → R Rho
  | [], ρ => .ok ρ
  | _, _ => .error none
def aCons (a : D → Rho → R Rho) (as : List D → Rho → R Rho) : List D → Rho → R Rho
  | d :: ds, ρ => a d ρ >>= as ds
  | [], _ => .error none
def aTup (as : List D → Rho → R Rho) : D → Rho → R Rho
  | .tup ds, ρ => as ds ρ
  | _, _ => .error none
theorem weakG {tg : Expr} {t t' : TG} (h : L2.PG X tg t) (w : ∀ v σ H Q, t' v σ H Q → t v σ H Q) : L2.PG X tg t' := ⟨fun pins s σ H v u Q I r q => h.run pins s σ H v u Q I r (w v σ H Q q)⟩
def AFr (is : List Nat) (asg : D → Rho → R Rho) : Prop := ∀ d ρ ρ', asg d ρ = .ok ρ' → ∀ j, j ∉ is → ρ'[j]? = ρ[j]?
def AFrs (is : List Nat) (n : Nat) (asg : List D → Rho → R Rho) : Prop := ∀ ds ρ ρ', asg ds ρ = .ok ρ' → ds.length = n ∧ ∀ j, j ∉ is → ρ'[j]? = ρ[j]?
structure Tgt (X : Cx) (T : CT) (tg : Expr) (is : List Nat) (asg : D → Rho → R Rho) : Prop where
  pg : L2.PG X tg (tG X.K T is asg)
  fr : AFr is asg
structure Tgts (X : Cx) (T : CT) (tgs : List Expr) (is : List Nat) (n : Nat) (asg : List D → Rho → R Rho) : Prop where
  pg : PGs X tgs (tGs X.K T is asg)
  fr : AFrs is n asg
theorem g_name (i : Nat) (hn : X.N.Nodup) (hi : X.N[i]? = some x := by rfl) (hx : Loc X.env.scope x := by first | exact Or.inl rfl | exact Or.inr rfl) (hf : X.fn x = true ∨ X.env.scope.names.lookup x = some .local := by first | exact .inl rfl | exact .inr rfl | assumption) :
    Tgt X T (.Name x pos) [i] (aName i) :=
  ⟨weakG (pg_name hn hi hx hf) fun v σ H Q h => by
    obtain ⟨N0, ρ, d, ρ', rs, rp, e, q⟩ := h
    cases e
    obtain ⟨r1, st⟩ := rs.setV (i := i) rp
    exact q _ r1 st ⟨by simp, fun j hj => List.getElem?_set_ne (fun z => hj (by simp [z]))⟩, fun d ρ ρ' e j hj => by
    cases e
    exact List.getElem?_set_ne (fun z => hj (by simp [z]))⟩
theorem gs_nil : Tgts X T [] [] 0 aNil := ⟨⟨fun pins s σ H vs us Q I r h => pgs_nil.run pins s σ H vs us Q I r (by
    obtain ⟨N0, ρ, ds, ρ', rs, rp, e, q⟩ := h
    cases ds with
    | nil =>
      cases e
      exact ⟨rp.nilD, q _ rs (.refl _ _) (.refl _ _)⟩
    | cons d ds => cases e)⟩, fun ds ρ ρ' e => by
    cases ds with
    | nil =>
      cases e
      exact ⟨rfl, fun _ _ => rfl⟩
    | cons d ds => cases e⟩
theorem gs_cons {is js : List Nat} {n : Nat} {ag : D → Rho → R Rho} {as : List D → Rho → R Rho} (h1 : Tgt X T e is ag) (h2 : Tgts X T es js n as)
    (hs : (assignEach (e :: es) X.env).map (·.2) = assign e X.env :: (assignEach es X.env).map (·.2) := by rfl) : Tgts X T (e :: es) (is ++ js) (n + 1) (aCons ag as) :=
  ⟨⟨fun pins s σ H vs us Q I r h => (pgs_cons h1.pg h2.pg hs).run pins s σ H vs us Q I r (by
    obtain ⟨N0, ρ, ds, ρ', rs, rp, e, q⟩ := h
    cases ds with
    | nil => cases e
    | cons d ds =>
      obtain ⟨v, ws, rfl, rv, rw'⟩ := rp.consD
      have e' : (ag d ρ >>= as ds) = .ok ρ' := e
      cases h3 : ag d ρ with
      | error er => rw [h3] at e'; cases e'
      | ok ρ1 =>
        rw [h3] at e'
        exact ⟨v, ws, rfl, N0, ρ, d, ρ1, rs, rv, h3, fun σ1 r1 st1 f1 => ⟨N0, ρ1, ds, ρ', r1, rw'.step (st1.or), e', fun σ2 r2 st2 f2 => q σ2 r2 (st1.trans st2) (f1.trans f2)⟩⟩)⟩, fun ds ρ ρ' e => by
    cases ds with
    | nil => cases e
    | cons d ds =>
      have e' : (ag d ρ >>= as ds) = .ok ρ' := e
      cases h3 : ag d ρ with
      | error er => rw [h3] at e'; cases e'
      | ok ρ1 =>
        rw [h3] at e'
        obtain ⟨k1, k2⟩ := h2.fr ds ρ1 ρ' e'
        refine ⟨congrArg (· + 1) k1, fun j hj => ?_⟩
        rw [List.mem_append, not_or] at hj
        exact (k2 j hj.2).trans (h1.fr d ρ ρ1 h3 j hj.1)⟩
theorem g_tup {is : List Nat} {as : List D → Rho → R Rho} {kk : Nat} {n : Nat} (hc : X.calm = true) (h : Tgts X T es is n as)
    (hn : (assignEach es X.env).length = n := by rfl) (hst : (assignEach es X.env).findIdx? (·.1) = none := by rfl) : Tgt X T (.Tuple es kk pos) is (aTup as) :=
  ⟨weakG (pg_tup hc h.pg hn hst) fun v σ H Q q => by
    obtain ⟨N0, ρ, d, ρ', rs, rp, e, q⟩ := q
    cases d <;> first
      | (cases e; done)
      | skip
    rename_i ds
    obtain ⟨a, vs, rfl, h1, h2⟩ := rp.tupD
    have e' : as ds ρ = .ok ρ' := e
    exact ⟨a, vs, rfl, h1, by rw [h2.length]; exact (h.fr ds ρ ρ' e').1, N0, ρ, ds, ρ', rs, h2, e', q⟩, fun d ρ ρ' e => by
    cases d <;> first
      | (cases e; done)
      | skip
    exact (h.fr _ ρ ρ' e).2⟩

/-! ### what is walked -/
/-- the walk yields these data, while all that is not owned stands -/
def Itg (K : PySem.W.Frag) (T : CT) (N : Ad) (H1 : Hp) (J : It) (ds : List D) : Prop := ∀ N' H' (i : Nat), Stp N H1 N' H' → DomL N' H' →
  (∀ d, ds[i]? = some d → J.go i H' ∧ ∀ x H2, J.yld i H' x H2 → Same H' H2 ∧ Rep K T N' H2 x d) ∧ (i = ds.length → J.stop i H')
def tI (K : PySem.W.Frag) (T : CT) (W : WX) (f : EL) : TI := fun σ H R => ∃ N0 ρ, RS K T N0 σ H ρ ∧ PG (Wx K T (Exc N0 σ ρ) W σ H) (f ρ) fun ds => ∀ J H', Same H H' → Itg K T (Exc N0 σ ρ) H' J ds → R J H'
theorem weakPI {tg it : Expr} {t t' : TI} (h : PI X tg it t) (w : ∀ σ H R, t' σ H R → t σ H R) : PI X tg it t' := ⟨fun pins s σ H R I q => h.run pins s σ H R I (w σ H R q)⟩
def iterD : D → Option (List D)
  | .tup ds => some ds
  | .lst ds => some ds
  | .klst ds => some ds
  | .str z => some (z.cps.toList.map fun c => .str ⟨#[c]⟩)
  | _ => none
def iSeq (a : EE) : EL := fun ρ => a ρ >>= fun d => orS (iterD d)
theorem itg_list {K : PySem.W.Frag} {N : Ad} {H1 : Hp} {q : Addr} {ds : List D} (h : ∀ N' H', Stp N H1 N' H' → ∃ vs, SqL K H' q vs ∧ Reps K T N' H' vs ds) : Itg K T N H1 (Itl K q) ds := fun N' H' i st dom => by
  obtain ⟨vs, h1, h2⟩ := h N' H' st
  refine ⟨fun d hd => ?_, fun hl => ⟨vs, h1, by rw [h2.length]; omega⟩⟩
  obtain ⟨v, e1, e2⟩ := h2.get hd
  refine ⟨⟨vs, v, h1, e1⟩, fun x H2 ⟨ey, y⟩ => ?_⟩
  subst ey
  have := y vs h1
  rw [e1] at this
  cases this
  exact ⟨.refl _, e2⟩
theorem itg_tup {K : PySem.W.Frag} {N : Ad} {H1 : Hp} {q : Addr} {ds : List D} (h : ∀ N' H', Stp N H1 N' H' → ∃ vs, SqT K H' q vs ∧ Reps K T N' H' vs ds) : Itg K T N H1 (Itt K q) ds := fun N' H' i st dom => by
  obtain ⟨vs, h1, h2⟩ := h N' H' st
  refine ⟨fun d hd => ?_, fun hl => ⟨vs, h1, by rw [h2.length]; omega⟩⟩
  obtain ⟨v, e1, e2⟩ := h2.get hd
  refine ⟨⟨vs, v, h1, e1⟩, fun x H2 ⟨ey, y⟩ => ?_⟩
  subst ey
  have := y vs h1
  rw [e1] at this
  cases this
  exact ⟨.refl _, e2⟩
theorem itg_rep {K : PySem.W.Frag} {N : Ad} {H1 : Hp} {q : Addr} {ds : List D} (r : Rep K T N H1 (.ref q) (.lst ds) ∨ Rep K T N H1 (.ref q) (.klst ds)) : ∀ N' H', Stp N H1 N' H' → ∃ vs, SqL K H' q vs ∧ Reps K T N' H' vs ds := fun N' H' st => by
  rcases r with r | r
  · obtain ⟨a, vs, e, h1, h2⟩ := (r.step st).lstD
    cases e
    exact ⟨vs, h1, h2⟩
  · obtain ⟨a, vs, e, h1, h2⟩ := (r.step st).klstD
    cases e
    exact ⟨vs, h1, h2⟩
theorem itg_repT {K : PySem.W.Frag} {N : Ad} {H1 : Hp} {q : Addr} {ds : List D} (r : Rep K T N H1 (.ref q) (.tup ds)) : ∀ N' H', Stp N H1 N' H' → ∃ vs, SqT K H' q vs ∧ Reps K T N' H' vs ds := fun N' H' st => by
  obtain ⟨a, vs, e, h1, h2⟩ := (r.step st).tupD
  cases e
  exact ⟨vs, h1, h2⟩
theorem i_seq {tg : Expr} (ha : PE X a (tD X.K T W fa)) : PI X tg a (tI X.K T W (iSeq fa)) :=
  weakPI (t := fun σ H R => iList X.K (tD X.K T W fa) σ H R ∨ iTup X.K (tD X.K T W fa) σ H R ∨ iStr (tD X.K T W fa) σ H R)
    ⟨fun pins s σ H R I h => h.elim (fun h => (pi_list ha).run pins s σ H R I h) fun h => h.elim (fun h => (pi_tup ha).run pins s σ H R I h) fun h => (pi_str ha).run pins s σ H R I h⟩ fun σ H R h => by
    obtain ⟨N0, ρ, rs, p⟩ := h
    unfold iSeq at p
    have base : ∀ {t : V → Hp → Prop}, (∀ v H1 d ds, Same H H1 → RS X.K T N0 σ H1 ρ → fa ρ = .ok d → iterD d = some ds → Rep X.K T (Exc N0 σ ρ) H1 v d → (∀ J H', Same H1 H' → Itg X.K T (Exc N0 σ ρ) H' J ds → R J H') → t v H1) →
        tD X.K T W fa σ H t := fun {t} k => ⟨N0, ρ, rs, p.bind.mono (fun _ h => h) fun d e p1 v H1 s rp => by
          obtain ⟨ds, e1, q⟩ := p1.orS
          exact k v H1 d ds s (rs.same s) e e1 rp fun J H' s' g => q J H' (s.trans s') g⟩
    rcases hf : fa ρ with er | d
    · refine .inl (base fun v H1 d ds _ _ e => ?_)
      rw [hf] at e; cases e
    · cases d
      case tup ds =>
        refine .inr (.inl (base fun v H1 d ds s r e e1 rp k => ?_))
        rw [hf] at e; cases e
        cases e1
        obtain ⟨q, vs, rfl, h1, h2⟩ := id rp.tupD
        exact ⟨q, rfl, ⟨vs, h1⟩, k _ H1 (.refl _) (itg_tup (itg_repT rp))⟩
      case lst ds =>
        refine .inl (base fun v H1 d ds s r e e1 rp k => ?_)
        rw [hf] at e; cases e
        cases e1
        obtain ⟨q, vs, rfl, h1, h2⟩ := id rp.lstD
        exact ⟨q, rfl, ⟨vs, h1⟩, k _ H1 (.refl _) (itg_list (itg_rep (.inl rp)))⟩
      case klst ds =>
        refine .inl (base fun v H1 d ds s r e e1 rp k => ?_)
        rw [hf] at e; cases e
        cases e1
        obtain ⟨q, vs, rfl, h1, h2⟩ := id rp.klstD
        exact ⟨q, rfl, ⟨vs, h1⟩, k _ H1 (.refl _) (itg_list (itg_rep (.inr rp)))⟩
      case str z =>
        refine .inr (.inr (base fun v H1 d ds s r e e1 rp k => ?_))
        rw [hf] at e; cases e
        cases e1
        cases rp
        refine ⟨z, rfl, k _ H1 (.refl _) fun N' H' i st dom => ⟨fun d hd => ?_, fun hl => ?_⟩⟩
        · rw [List.getElem?_map] at hd
          obtain ⟨c, h1, h2⟩ := Option.map_eq_some_iff.mp hd
          subst h2
          refine ⟨(by
            have := (List.getElem?_eq_some_iff.mp h1).1
            show i < z.cps.size
            simpa using this), fun x H2 hy => ?_⟩
          obtain ⟨ey, c', h3, h4⟩ := hy
          subst ey h4
          have : z.cps[i]? = some c := by simpa using h1
          rw [this] at h3
          cases h3
          exact ⟨.refl _, .str _⟩
        · show z.cps.size ≤ i
          have hl : i = z.cps.size := by simpa using hl
          omega
      all_goals
        refine .inl (base fun v H1 d ds s r e e1 rp k => ?_)
        rw [hf] at e; cases e
        cases e1
/-- range -/
def rgD (lo : Int) (n : Nat) : List D := (List.range n).map fun i => .int (lo + (i : Nat))
theorem itg_rng {K : PySem.W.Frag} {N : Ad} {H1 : Hp} {lo : Int} {n : Nat} : Itg K T N H1 (Itr lo n) (rgD lo n) := fun N' H' i st dom => by
  unfold rgD
  refine ⟨fun d hd => ?_, fun hl => by
    show n ≤ i
    have hl : i = n := by simpa using hl
    omega⟩
  rw [List.getElem?_map] at hd
  obtain ⟨c, h1, h2⟩ := Option.map_eq_some_iff.mp hd
  subst h2
  obtain ⟨h3, h4⟩ := List.getElem?_eq_some_iff.mp h1
  rw [List.getElem_range] at h4
  subst h4
  refine ⟨(by
    show i < n
    simpa using h3), fun x H2 hy => ?_⟩
  obtain ⟨e1, e2⟩ := hy
  subst e1 e2
  exact ⟨.refl _, .int _⟩
def bnd (i : Int) : Bool := decide (-(2 ^ 62) ≤ i ∧ i < 2 ^ 62)
def rangeD1 : List D → Option (List D)
  | [.int j] => if bnd j then some (rgD 0 j.toNat) else none
  | _ => none
def rangeD2 : List D → Option (List D)
  | [.int i, .int j] => if bnd i && bnd j then some (rgD i (j - i).toNat) else none
  | _ => none
def iCall (g : List D → Option (List D)) (fs : EL) : EL := fun ρ => fs ρ >>= fun ds => orS (g ds)
theorem callI {wi : TA → TI} {g : List D → Option (List D)} {tg it : Expr} (h : PI X tg it (fun σ H R => tA' X.K T W fs σ H fun vs H1 => ∃ N ds out, DomL N H1 ∧ Reps X.K T N H1 vs ds ∧ g ds = some out ∧ ∀ J H', Same H1 H' → Itg X.K T N H' J out → R J H')) :
    PI X tg it (tI X.K T W (iCall g fs)) :=
  weakPI h fun σ H R h => by
    obtain ⟨N0, ρ, rs, p⟩ := h
    unfold iCall at p
    refine ⟨N0, ρ, rs, p.bind.mono (fun _ h => h) fun ds e p1 vs H1 s rp => ?_⟩
    obtain ⟨out, e1, q⟩ := p1.orS
    exact ⟨_, ds, out, rs_dom (rs.same s), rp, e1, fun J H' s' g => q J H' (s.trans s') g⟩
theorem monoPI {tg it : Expr} {t t' : TI} (h : PI X tg it t) (w : ∀ σ H R, t' σ H R → t σ H R) : PI X tg it t' := weakPI h w
theorem i_rng1 {tg : Expr} (hg : Gl X "range") (hm : X.mg "range" = none) (ha : PA X [a] (tA' X.K T W fs)) (hs : starEach [a] X.env = [(false, eval a X.env)] := by rfl) : PI X tg (.Call (.Name "range" p) [a] [] pos) (tI X.K T W (iCall rangeD1 fs)) :=
  callI (wi := fun _ _ _ _ => True) (monoPI (pi_range1 hg hm ha hs) fun σ H R h => h.mono fun vs H1 q => by
    obtain ⟨N, ds, out, dom, rp, e1, q⟩ := q
    unfold rangeD1 at e1
    split at e1
    · obtain ⟨v, rfl, r1⟩ := one_rep rp
      cases r1
      split at e1
      · rename_i hb
        cases e1
        have hb' := of_decide_eq_true hb
        exact ⟨_, rfl, hb'.1, hb'.2, q _ H1 (.refl _) itg_rng⟩
      · cases e1
    · cases e1)
theorem i_rng2 {tg : Expr} (hg : Gl X "range") (hm : X.mg "range" = none) (ha : PA X [a, b] (tA' X.K T W fs)) (hs : starEach [a, b] X.env = [(false, eval a X.env), (false, eval b X.env)] := by rfl) (hs2 : starEach [b] X.env = [(false, eval b X.env)] := by rfl) :
    PI X tg (.Call (.Name "range" p) [a, b] [] pos) (tI X.K T W (iCall rangeD2 fs)) :=
  callI (wi := fun _ _ _ _ => True) (monoPI (pi_range2 hg hm ha hs hs2) fun σ H R h => h.mono fun vs H1 q => by
    obtain ⟨N, ds, out, dom, rp, e1, q⟩ := q
    unfold rangeD2 at e1
    split at e1
    · obtain ⟨v, u, rfl, r1, r2⟩ := two_rep rp
      cases r1
      cases r2
      split at e1
      · rename_i hb
        rw [Bool.and_eq_true] at hb
        cases e1
        have h1 := of_decide_eq_true hb.1
        have h2 := of_decide_eq_true hb.2
        exact ⟨_, _, rfl, ⟨h1.1, h1.2, h2.1, h2.2⟩, q _ H1 (.refl _) itg_rng⟩
      · cases e1
    · cases e1)
/-- zip of two lists, of two tuples (mixed: PF 6) -/
def zipD : List D → Option (List D)
  | [.lst a, .lst b] => some (List.zipWith (fun x y => .tup [x, y]) a b)
  | [.tup a, .tup b] => some (List.zipWith (fun x y => .tup [x, y]) a b)
  | _ => none
theorem itg_pair {K : PySem.W.Frag} {N : Ad} {H1 : Hp} {J : It} {as bs : List D}
    (hgo : ∀ N' H' (i : Nat), Stp N H1 N' H' → i < min as.length bs.length → J.go i H' ∧ ∀ v H2, J.yld i H' v H2 → ∃ P x y d e, v = .ref P ∧ H' P = none ∧ H2 = upd H' P (.tup [x, y]) ∧ as[i]? = some d ∧ bs[i]? = some e ∧ Rep K T N' H' x d ∧ Rep K T N' H' y e)
    (hst : ∀ N' H' (i : Nat), Stp N H1 N' H' → i = min as.length bs.length → J.stop i H') : Itg K T N H1 J (List.zipWith (fun x y => .tup [x, y]) as bs) := fun N' H' i st dom => by
  refine ⟨fun d hd => ?_, fun hl => hst N' H' i st (by simpa using hl)⟩
  have hi : i < min as.length bs.length := by
    have := (List.getElem?_eq_some_iff.mp hd).1
    simpa using this
  obtain ⟨g1, g2⟩ := hgo N' H' i st hi
  refine ⟨g1, fun v H2 hy => ?_⟩
  obtain ⟨P, x, y, d1, d2, rfl, hP, rfl, h1, h2, r1, r2⟩ := g2 v H2 hy
  rw [List.getElem?_zipWith, h1, h2] at hd
  cases hd
  exact ⟨same_new hP, .tup (.inl ⟨.inl upd_same, dom.fresh hP⟩) (.cons (r1.same (same_new hP)) (.cons (r2.same (same_new hP)) .nil))⟩
theorem i_zip {elts : List Expr} {kk : Nat} {tpos : Pos} (hg : Gl X "zip") (hm : X.mg "zip" = none) (ha : PA X [a, b] (tA' X.K T W fs))
    (hs : starEach [a, b] X.env = (false, eval a X.env) :: starEach [b] X.env := by rfl) (hpl : (backTo pos (starEach [b] X.env)).any (·.1) = false := by rfl) :
    PI X (.Tuple elts kk tpos) (.Call (.Name "zip" p) [a, b] [] pos) (tI X.K T W (iCall zipD fs)) :=
  callI (wi := fun _ _ _ _ => True) (monoPI (RZ.pi_zipA hg hm ha hs hpl) fun σ H R h => h.mono fun vs H1 q => by
    obtain ⟨N, ds, out, dom, rp, e1, q⟩ := q
    unfold zipD at e1
    split at e1
    · rename_i as bs
      obtain ⟨v, u, rfl, r1, r2⟩ := two_rep rp
      cases e1
      obtain ⟨p1, v1, rfl, h1, h2⟩ := id r1.lstD
      obtain ⟨p2, v2, rfl, h3, h4⟩ := id r2.lstD
      refine ⟨p1, p2, v1, v2, rfl, .inl ⟨h1, h3, q _ H1 (.refl _) (itg_pair (fun N' H' i st hi => ?_) fun N' H' i st hi => ?_)⟩⟩
      · obtain ⟨w1, k1, k2⟩ := itg_rep (.inl r1) N' H' st
        obtain ⟨w2, k3, k4⟩ := itg_rep (.inl r2) N' H' st
        have hd := List.getElem?_eq_getElem (show i < as.length by omega)
        have he := List.getElem?_eq_getElem (show i < bs.length by omega)
        obtain ⟨x, x1, x2⟩ := k2.get hd
        obtain ⟨y, y1, y2⟩ := k4.get he
        refine ⟨⟨w1, w2, x, y, k1, k3, x1, y1⟩, fun v H2 hy => ?_⟩
        obtain ⟨P, x', y', g1, g2, g3, g4, g5⟩ := hy
        have e1 := g4 _ k1
        have e2 := g5 _ k3
        rw [x1] at e1
        rw [y1] at e2
        cases e1
        cases e2
        exact ⟨P, x, y, _, _, g1, g2, g3, hd, he, x2, y2⟩
      · obtain ⟨w1, k1, k2⟩ := itg_rep (.inl r1) N' H' st
        obtain ⟨w2, k3, k4⟩ := itg_rep (.inl r2) N' H' st
        exact ⟨w1, w2, k1, k3, by rw [k2.length, k4.length]; omega⟩
    · rename_i as bs
      obtain ⟨v, u, rfl, r1, r2⟩ := two_rep rp
      cases e1
      obtain ⟨p1, v1, rfl, h1, h2⟩ := id r1.tupD
      obtain ⟨p2, v2, rfl, h3, h4⟩ := id r2.tupD
      refine ⟨p1, p2, v1, v2, rfl, .inr ⟨h1, h3, q _ H1 (.refl _) (itg_pair (fun N' H' i st hi => ?_) fun N' H' i st hi => ?_)⟩⟩
      · obtain ⟨w1, k1, k2⟩ := itg_repT r1 N' H' st
        obtain ⟨w2, k3, k4⟩ := itg_repT r2 N' H' st
        have hd := List.getElem?_eq_getElem (show i < as.length by omega)
        have he := List.getElem?_eq_getElem (show i < bs.length by omega)
        obtain ⟨x, x1, x2⟩ := k2.get hd
        obtain ⟨y, y1, y2⟩ := k4.get he
        refine ⟨⟨w1, w2, x, y, k1, k3, x1, y1⟩, fun v H2 hy => ?_⟩
        obtain ⟨P, x', y', g1, g2, g3, g4, g5⟩ := hy
        have e1 := g4 _ k1
        have e2 := g5 _ k3
        rw [x1] at e1
        rw [y1] at e2
        cases e1
        cases e2
        exact ⟨P, x, y, _, _, g1, g2, g3, hd, he, x2, y2⟩
      · obtain ⟨w1, k1, k2⟩ := itg_repT r1 N' H' st
        obtain ⟨w2, k3, k4⟩ := itg_repT r2 N' H' st
        exact ⟨w1, w2, k1, k3, by rw [k2.length, k4.length]; omega⟩
    · cases e1)
/-- enumerate of a list -/
def enumGo : Nat → List D → List D
  | _, [] => []
  | n, d :: ds => .tup [.int n, d] :: enumGo (n + 1) ds
def enumD : List D → Option (List D)
  | [.lst a] => some (enumGo 0 a)
  | _ => none
theorem enum_zip : ∀ (n : Nat) (ds : List D), enumGo n ds = List.zipWith (fun x y => .tup [x, y]) ((List.range' n ds.length).map fun i => D.int (i : Nat)) ds
  | _, [] => rfl
  | n, d :: ds => by
    rw [enumGo, enum_zip (n + 1) ds, List.length_cons, List.range'_succ, List.map_cons, List.zipWith_cons_cons]
theorem i_enum {elts : List Expr} {kk : Nat} {tpos : Pos} (hg : Gl X "enumerate") (hm : X.mg "enumerate" = none) (ha : PA X [a] (tA' X.K T W fs)) (hs : starEach [a] X.env = [(false, eval a X.env)] := by rfl) :
    PI X (.Tuple elts kk tpos) (.Call (.Name "enumerate" p) [a] [] pos) (tI X.K T W (iCall enumD fs)) :=
  callI (wi := fun _ _ _ _ => True) (monoPI (pi_enum hg hm ha hs) fun σ H R h => h.mono fun vs H1 q => by
    obtain ⟨N, ds, out, dom, rp, e1, q⟩ := q
    unfold enumD at e1
    split at e1
    · rename_i as
      obtain ⟨v, rfl, r1⟩ := one_rep rp
      cases e1
      obtain ⟨p1, v1, rfl, h1, h2⟩ := id r1.lstD
      refine ⟨p1, v1, rfl, h1, q _ H1 (.refl _) ?_⟩
      rw [enum_zip]
      refine itg_pair (fun N' H' i st hi => ?_) fun N' H' i st hi => ?_
      · have hi' : i < as.length := by simp at hi; exact hi
        obtain ⟨w1, k1, k2⟩ := itg_rep (.inl r1) N' H' st
        have hd := List.getElem?_eq_getElem hi'
        obtain ⟨x, x1, x2⟩ := k2.get hd
        refine ⟨⟨w1, x, k1, x1⟩, fun v H2 hy => ?_⟩
        obtain ⟨P, y, g1, g2, g3, g4⟩ := hy
        have e1 := g4 _ k1
        rw [x1] at e1
        cases e1
        refine ⟨P, .int (i : Nat), x, .int (i : Nat), _, g1, g2, g3, ?_, hd, .int _, x2⟩
        rw [List.getElem?_map, List.getElem?_range' (by simpa using hi')]
        simp
      · obtain ⟨w1, k1, k2⟩ := itg_rep (.inl r1) N' H' st
        exact ⟨w1, k1, by rw [k2.length]; simp at hi; omega⟩
    · cases e1)
end
end PF

set_option Elab.async false
set_option linter.all false
set_option maxRecDepth 100000
/-! PF 6: comprehensions. -/
namespace PF
open PySem PySem.Spec PyProof.Rows L2
def Wn : WX := fun _ _ _ _ => False
def noX {α : Type} : R α → R α
  | .ok a => .ok a
  | .error _ => .error none
@[simp] theorem noX_ok {α : Type} (a : α) : noX (.ok a : R α) = .ok a := Eq.trans rfl rfl
theorem noX_some {α : Type} {r : R α} {a : α} (h : noX r = .ok a) : r = .ok a := by
  rcases r with _ | a
  · cases h
  · exact h
def wipeR (ρ : Rho) : List Nat → Rho
  | [] => ρ
  | v :: vs => (wipeR ρ vs).set v .un
def isOwn : Option Sl → Bool
  | some (.own _) => true
  | _ => false
def okW (ρ : Rho) (vs : List Nat) : Bool := vs.all fun i => !isOwn ρ[i]?
def compL (asg : D → Rho → R Rho) (tst : ET) (elt : EE) (ρ : Rho) : List D → R (List D)
  | [] => .ok []
  | d :: ds => asg d ρ >>= fun ρ' => tst ρ' >>= fun b => if b then elt ρ' >>= fun y => compL asg tst elt ρ ds >>= fun r => .ok (y :: r) else compL asg tst elt ρ ds
def nComp (it : EL) (asg : D → Rho → R Rho) (tst : ET) (elt : EE) (vs : List Nat) : EL := fun ρ => it ρ >>= fun ds => if okW ρ vs then noX (compL asg tst elt (wipeR ρ vs) ds) >>= fun out => if small out.length then .ok out else .error none else .error none
/-! ### expressions that make a new list -/
def OkN (K : PySem.W.Frag) (T : CT) (N : Ad) (Q : VK) (ds : List D) (H : Hp) : Prop := ∀ p vs H', H p = none → Same H H' → H' p = some (.lst vs) → Reps K T (fun a => N a ∨ a = p) H' vs ds → Q (.ref p) H'
def tN (K : PySem.W.Frag) (T : CT) (W : WX) (f : EL) : TE := fun σ H Q => ∃ N0 ρ, RS K T N0 σ H ρ ∧ PG (Wx K T (Exc N0 σ ρ) W σ H) (f ρ) fun ds => OkN K T (Exc N0 σ ρ) Q ds H
def eNew (f : EL) : EE := fun ρ => f ρ >>= fun ds => .ok (.lst ds)
theorem OkN.of {K : PySem.W.Frag} {T : CT} {N : Ad} {Q : VK} {ds : List D} {H : Hp} (dom : DomL N H) (q : OkD K T N Q (.lst ds) H) : OkN K T N Q ds H := fun p vs H' hp s hl r =>
  q _ _ s (.lst hl (dom.fresh hp) (r.step (.less fun a z => .inl z)))
theorem OkN.same {K : PySem.W.Frag} {T : CT} {N : Ad} {Q : VK} {ds : List D} {H H' : Hp} (s : Same H H') (q : OkN K T N Q ds H) : OkN K T N Q ds H' := fun p vs H2 hp s2 hl r => q p vs H2 (s.free hp) (s.trans s2) hl r
theorem OkN.now {K : PySem.W.Frag} {T : CT} {N : Ad} {Q : VK} {ds : List D} {H : Hp} {vs : List V} {p : Addr} (dom : DomL N H) (hp : H p = none) (r : Reps K T N H vs ds) (q : OkN K T N Q ds H) : Q (.ref p) (upd H p (.lst vs)) :=
  q p vs _ hp (same_new hp) upd_same (r.step ⟨fun a o _ e => same_new hp a o e, fun a z => z.imp id fun e => by rw [e]; exact hp⟩)
theorem d_new {X : Cx} {T : CT} {W : WX} {e : Expr} {f : EL} (h : PE X e (tN X.K T W f)) : PE X e (tD X.K T W (eNew f)) :=
  weakE h fun σ H Q q => by
    obtain ⟨N0, ρ, rs, p⟩ := q
    unfold eNew at p
    exact ⟨N0, ρ, rs, p.bind.mono (fun _ h => h) fun ds _ q => OkN.of (rs_dom rs) q⟩
def tTrue : ET := fun _ => .ok true

theorem wipe_in {σ : Sg} {j : Nat} : ∀ {vs : List Nat}, j ∈ vs → (wipe σ vs)[j]? = if j < σ.length then some none else none
  | [], h => nomatch h
  | v :: vs, h => by
    unfold wipe
    by_cases e : v = j
    · subst e
      by_cases hl : v < σ.length
      · rw [List.getElem?_set_self (by rw [wipe_length]; exact hl), if_pos hl]
      · rw [List.getElem?_eq_none (by rw [List.length_set, wipe_length]; omega), if_neg hl]
    · rw [List.getElem?_set_ne e]
      rcases List.mem_cons.mp h with h | h
      · exact absurd h.symm e
      · exact wipe_in h
theorem wipe_notin {σ : Sg} {j : Nat} : ∀ {vs : List Nat}, j ∉ vs → (wipe σ vs)[j]? = σ[j]?
  | [], _ => rfl
  | v :: vs, h => by
    unfold wipe
    rw [List.mem_cons, not_or] at h
    rw [List.getElem?_set_ne (fun e => h.1 e.symm)]
    exact wipe_notin h.2
theorem wipeR_length (ρ : Rho) : ∀ vs : List Nat, (wipeR ρ vs).length = ρ.length
  | [] => rfl
  | v :: vs => by unfold wipeR; rw [List.length_set, wipeR_length ρ vs]
theorem wipeR_in {ρ : Rho} {j : Nat} : ∀ {vs : List Nat}, j ∈ vs → (wipeR ρ vs)[j]? = if j < ρ.length then some .un else none
  | [], h => nomatch h
  | v :: vs, h => by
    unfold wipeR
    by_cases e : v = j
    · subst e
      by_cases hl : v < ρ.length
      · rw [List.getElem?_set_self (by rw [wipeR_length]; exact hl), if_pos hl]
      · rw [List.getElem?_eq_none (by rw [List.length_set, wipeR_length]; omega), if_neg hl]
    · rw [List.getElem?_set_ne e]
      rcases List.mem_cons.mp h with h | h
      · exact absurd h.symm e
      · exact wipeR_in h
theorem wipeR_notin {ρ : Rho} {j : Nat} : ∀ {vs : List Nat}, j ∉ vs → (wipeR ρ vs)[j]? = ρ[j]?
  | [], _ => rfl
  | v :: vs, h => by
    unfold wipeR
    rw [List.mem_cons, not_or] at h
    rw [List.getElem?_set_ne (fun e => h.1 e.symm)]
    exact wipeR_notin h.2
section
variable {K : PySem.W.Frag} {T : CT} {N0 : Ad} {H : Hp} {σ : Sg} {ρ : Rho}
theorem RS.wipe (r : RS K T N0 σ H ρ) : ∀ vs : List Nat, RS K T N0 (L2.wipe σ vs) H (wipeR ρ vs)
  | [] => r
  | v :: vs => by
    unfold L2.wipe wipeR
    exact (RS.drop (RS.wipe r vs)).1
theorem own_wipe {vs : List Nat} (h : okW ρ vs = true) (a : Addr) : Own (L2.wipe σ vs) (wipeR ρ vs) a ↔ Own σ ρ a := by
  unfold okW at h
  rw [List.all_eq_true] at h
  constructor
  · rintro ⟨j, h1, ds, h2⟩
    by_cases hj : j ∈ vs
    · rw [wipeR_in hj] at h2
      split at h2 <;> cases h2
    · rw [wipe_notin hj] at h1
      rw [wipeR_notin hj] at h2
      exact ⟨j, h1, ds, h2⟩
  · rintro ⟨j, h1, ds, h2⟩
    have hj : j ∉ vs := fun z => by
      have := h j z
      rw [h2] at this
      cases this
    exact ⟨j, by rw [wipe_notin hj]; exact h1, ds, by rw [wipeR_notin hj]; exact h2⟩
theorem wipe_frm {vs is : List Nat} {σ2 : Sg} (hs : ∀ i ∈ is, i ∈ vs) (f : Frm is (L2.wipe σ vs) σ2) : L2.wipe σ2 vs = L2.wipe σ vs := by
  apply List.ext_getElem?
  intro j
  have hl : σ2.length = σ.length := f.1.trans (wipe_length σ vs)
  by_cases hj : j ∈ vs
  · rw [wipe_in hj, wipe_in hj, hl]
  · rw [wipe_notin hj, f.2 j (fun z => hj (hs j z))]
end
section
variable {X : Cx} {T : CT} {W : WX}
theorem ts_nil : PTs X [] (tB' X.K T W tTrue) := ⟨fun pins s σ H Q I h => pts_nil.run pins s σ H Q I (by
  obtain ⟨N0, ρ, rs, p⟩ := h
  exact p H (.refl _))⟩
theorem compL_cons {asg : D → Rho → R Rho} {tst : ET} {elt : EE} {ρ : Rho} {d : D} {ds out : List D} (h : compL asg tst elt ρ (d :: ds) = .ok out) :
    ∃ ρ' b, asg d ρ = .ok ρ' ∧ tst ρ' = .ok b ∧ ((b = true ∧ ∃ y r, elt ρ' = .ok y ∧ compL asg tst elt ρ ds = .ok r ∧ out = y :: r) ∨ (b = false ∧ compL asg tst elt ρ ds = .ok out)) := by
  unfold compL at h
  cases h1 : asg d ρ with
  | error er => rw [h1] at h; cases h
  | ok ρ' =>
    rw [h1] at h
    have h : (tst ρ' >>= fun b => if b then elt ρ' >>= fun y => compL asg tst elt ρ ds >>= fun r => .ok (y :: r) else compL asg tst elt ρ ds) = .ok out := h
    cases h2 : tst ρ' with
    | error er => rw [h2] at h; cases h
    | ok b =>
      rw [h2] at h
      have h : (if b then elt ρ' >>= fun y => compL asg tst elt ρ ds >>= fun r => .ok (y :: r) else compL asg tst elt ρ ds) = .ok out := h
      refine ⟨ρ', b, rfl, h2, ?_⟩
      cases b with
      | false => exact .inr ⟨rfl, h⟩
      | true =>
        have h : (elt ρ' >>= fun y => compL asg tst elt ρ ds >>= fun r => .ok (y :: r)) = .ok out := h
        cases h3 : elt ρ' with
        | error er => rw [h3] at h; cases h
        | ok y =>
          rw [h3] at h
          have h : (compL asg tst elt ρ ds >>= fun r => .ok (y :: r)) = .ok out := h
          cases h4 : compL asg tst elt ρ ds with
          | error er => rw [h4] at h; cases h
          | ok r =>
            rw [h4] at h
            cases h
            exact .inl ⟨rfl, y, r, rfl, rfl, rfl⟩
/-- the turns of a comprehension, over data -/
theorem comp_read {fi : EL} {is vs : List Nat} {asg : D → Rho → R Rho} {ft : ET} {fe : EE} (fr : AFr is asg) (hw : ∀ i ∈ is, i ∈ vs) {σ : Sg} {H : Hp} {Q : VK} (h : tN X.K T W (nComp fi asg ft fe vs) σ H Q) :
    tLc (tI X.K T W fi) (tG X.K T is asg) (tB' X.K T Wn ft) (tD X.K T Wn fe) vs σ H Q := by
  obtain ⟨N0, ρ, rs, p⟩ := h
  unfold nComp at p
  refine ⟨N0, ρ, rs, p.bind.mono (fun _ h => h) fun ds e p1 J H1 s hJ => fun Da hD => ?_⟩
  split at p1
  case isFalse => exact p1.elim
  rename_i hok
  have p2 := p1.bind
  cases hc : noX (compL asg ft fe (wipeR ρ vs) ds) with
  | error er =>
    rw [hc] at p2
    cases hq : compL asg ft fe (wipeR ρ vs) ds with
    | error e2 =>
      rw [hq] at hc
      cases hc
      exact p2.elim
    | ok a => rw [hq] at hc; cases hc
  | ok out =>
    rw [hc] at p2
    have hc := noX_some hc
    have p3 : PG (Wx X.K T (Exc N0 σ ρ) W σ H) (if small out.length then Except.ok out else Except.error none) fun ds => OkN X.K T (Exc N0 σ ρ) Q ds H := p2
    split at p3
    case isFalse => exact p3.elim
    rename_i hsm
    have q : OkN X.K T (Exc N0 σ ρ) Q out H := p3
    have rs1 := rs.same s
    have hN : ¬ Exc N0 σ ρ Da := rs1.fresh hD
    have r0 := (rs1.wipe vs).more (vs := []) hD (same_new hD) upd_same
    -- the excluded within the block
    have inN : ∀ a, Exc (fun a => N0 a ∨ a = Da) (wipe σ vs) (wipeR ρ vs) a → Exc N0 σ ρ a ∨ a = Da := fun a z => by
      rcases z with z | z | z
      · exact .inl (.inl ((own_wipe hok a).mp z))
      · exact .inl (.inr z)
      · exact .inr z
    have outN : ∀ a, Exc N0 σ ρ a → Exc (fun a => N0 a ∨ a = Da) (wipe σ vs) (wipeR ρ vs) a := fun a z => by
      rcases z with z | z
      · exact .inl ((own_wipe hok a).mpr z)
      · exact .inr (.inl z)
    have stp : ∀ {H'}, Same H1 H' → Stp (Exc N0 σ ρ) H1 (Exc (fun a => N0 a ∨ a = Da) (wipe σ vs) (wipeR ρ vs)) H' := fun s' => ⟨fun a o _ e => s' a o e, fun a z => by
      rcases inN a z with z | z
      · exact .inl z
      · subst z; exact .inr hD⟩
    let Wd : Nat → Nat → Hp → Prop := fun i m H' => m = ds.length - i ∧ i ≤ ds.length ∧ ∃ acc dn rest, RS X.K T (fun a => N0 a ∨ a = Da) (wipe σ vs) H' (wipeR ρ vs) ∧ Same H1 H' ∧ H' Da = some (.lst acc) ∧
      Reps X.K T (Exc (fun a => N0 a ∨ a = Da) (wipe σ vs) (wipeR ρ vs)) H' acc dn ∧ compL asg ft fe (wipeR ρ vs) (ds.drop i) = .ok rest ∧ dn ++ rest = out
    refine ⟨Wd, ⟨ds.length, rfl, Nat.zero_le _, [], [], out, r0, same_new hD, upd_same, .nil, hc, rfl⟩, ?_⟩
    rintro i m H2 ⟨rfl, hi, acc, dn, rest, r2, s2, hacc, rep, hr, ho⟩
    have hJ2 := hJ _ H2 i (stp s2) (rs_dom r2)
    by_cases hlt : i < ds.length
    · refine .inr ?_
      have hd := List.getElem?_eq_getElem hlt
      obtain ⟨go, yl⟩ := hJ2.1 _ hd
      rw [List.drop_eq_getElem_cons hlt] at hr
      obtain ⟨ρ', b, e1, e2, e3⟩ := compL_cons hr
      refine ⟨go, fun H' => Wd (i + 1) (ds.length - (i + 1)) H', fun H' w => ⟨_, by omega, w⟩, fun x H3 hy => ?_⟩
      obtain ⟨s3, rx⟩ := yl x H3 hy
      have r3 := r2.same s3
      refine ⟨_, _, _, ρ', r3, rx, e1, fun σ2 r4 st4 f4 => ⟨wipe_frm hw f4, _, ρ', r4, ?_⟩⟩
      rw [e2]
      intro H4 s4
      have r5 := r4.same s4
      rcases e3 with ⟨rfl, y, r', g1, g2, g3⟩ | ⟨rfl, g2⟩
      · rw [if_pos rfl]
        refine ⟨_, ρ', r5, ?_⟩
        rw [g1]
        intro v H5 s5 rv
        have s25 : Same H2 H5 := (s3.trans s4).trans s5
        refine ⟨acc, s25 _ _ hacc, ?_, rfl, hlt, acc ++ [v], dn ++ [y], r', ?_, ?_, upd_same, ?_, g2, ?_⟩
        · have hl := small_line hsm
          rw [rep.length]
          have : out.length = dn.length + (1 + r'.length) := by rw [← ho, g3]; simp; omega
          omega
        · exact (r2.same s25).mut0 (.inr rfl)
        · intro a o e
          rw [upd_ne (ne_of_none e hD)]
          exact s25 _ _ (s2 _ _ e)
        · have st : Stp (Exc (fun a => N0 a ∨ a = Da) (wipe σ vs) (wipeR ρ vs)) H5 (Exc (fun a => N0 a ∨ a = Da) (wipe σ vs) (wipeR ρ vs)) (upd H5 Da (.lst (acc ++ [v]))) :=
            ⟨fun a o n e => by rw [upd_ne (fun z => n (by rw [z]; exact .inr (.inr rfl)))]; exact e, fun a z => .inl z⟩
          refine Reps.append ((rep.same s25).step st) (.cons (Rep.step st (rv.step (.less fun a z => ?_))) .nil)
          rcases z with ⟨j, z1, es, z2⟩ | z
          · have hj : j ∉ is := fun z => by
              have := wipeR_in (ρ := ρ) (hw j z)
              rw [this] at z2
              split at z2 <;> cases z2
            exact .inl ⟨j, by rw [f4.2 j hj]; exact z1, es, by rw [fr _ _ _ e1 j hj]; exact z2⟩
          · exact .inr z
        · rw [← ho, g3]; simp
      · rw [if_neg (by decide)]
        have s24 : Same H2 H4 := s3.trans s4
        exact ⟨rfl, hlt, acc, dn, rest, r2.same s24, s2.trans s24, s24 _ _ hacc, rep.same s24, g2, ho⟩
    · refine .inl ⟨hJ2.2 (by omega), ?_⟩
      have e0 : ds.drop i = [] := List.drop_of_length_le (by omega)
      rw [e0] at hr
      cases hr
      rw [List.append_nil] at ho
      subst ho
      refine q _ _ _ (s.free hD) (s.trans s2) hacc (rep.step (.less fun a z => ?_))
      rcases z with z | z
      · exact outN a z
      · exact .inr (.inr z)
theorem n_comp {vs : List Nat} {elt tg iter : Expr} {ifs : List Expr} {scope : Scope} {own : List (Str × Nat)} {pos : Pos} {fi : EL} {is : List Nat} {asg : D → Rho → R Rho} {ft : ET} {fe : EE} (hc : X.calm = true) (hN : X.N.Nodup) (hi : PI X tg iter (tI X.K T W fi)) (ok : BlkOk X.N X.env.scope scope own)
    (hg : ∀ (s : Shared) (H : Hp) (C : Addr) (cl : List (Str × Addr)) (fp : List Addr), Tgt (X.blk s H scope (compEnvC scope cl C X.env) fp) T tg is asg) (ht : ∀ (s : Shared) (H : Hp) (C : Addr) (cl : List (Str × Addr)) (fp : List Addr), PTs (X.blk s H scope (compEnvC scope cl C X.env) fp) ifs (tB' X.K T Wn ft))
    (he : ∀ (s : Shared) (H : Hp) (C : Addr) (cl : List (Str × Addr)) (fp : List Addr), PE (X.blk s H scope (compEnvC scope cl C X.env) fp) elt (tD X.K T Wn fe)) (hw : ∀ i ∈ is, i ∈ own.map (·.2) := by decide) (hs : ∀ x, foldedSetIterable iter X.env x = pure x := by intro _; rfl) (hvs : own.map (·.2) = vs := by rfl) :
    PE X (.ListComp elt [⟨tg, iter, ifs, 0⟩] scope pos) (tN X.K T W (nComp fi asg ft fe vs)) :=
  hvs ▸ ⟨fun pins s σ H Q I h => (pe_lc hc hN hi ok (fun s H C cl fp => (hg s H C cl fp).pg) ht he hs).run pins s σ H Q I (comp_read (hg s H X.env.locals [] []).fr hw h)⟩
/- other new lists -/
variable {a b : Expr} {fa fb : EE} {pos : Pos} {es : List Expr} {fs : EL}
def nLst (l : EL) : EL := fun ρ => l ρ >>= fun ds => if small ds.length then .ok ds else .error none
theorem n_lst (h : PA X es (tA' X.K T W fs)) : PE X (.List es pos) (tN X.K T W (nLst fs)) :=
  weakE (pe_lst h) fun σ H Q h => by
    obtain ⟨N0, ρ, rs, p⟩ := h
    unfold nLst at p
    refine (stepA (S := fun ds H => OkN X.K T (Exc N0 σ ρ) Q ds H) rs (fun _ _ _ s h => h.same s) p).mono fun vs H1 ⟨s1, r1, ds, _, x1, p1⟩ => ?_
    split at p1
    · exact ⟨by rw [x1.length]; exact small_line (by assumption), fun p hp => OkN.now (rs_dom r1) hp x1 p1⟩
    · exact p1.elim
def n2 (g : D → D → Option (List D)) (a b : EE) : EL := fun ρ => a ρ >>= fun x => b ρ >>= fun y => orS (g x y)
def catN : D → D → Option (List D)
  | .lst a, .lst b => if small (a.length + b.length) then some (a ++ b) else none
  | _, _ => none
def repN : D → D → Option (List D)
  | .lst a, .int k => if decide (k < 2 ^ 62) && small (a.length * k.toNat) && decide (-(2 ^ 62) < k) then some (List.replicate k.toNat a).flatten else none
  | _, _ => none
theorem twoN {K : PySem.W.Frag} {g : D → D → Option (List D)} {r : R2} (hr : ∀ x y H Q N dx dy ds, DomL N H → Rep K T N H x dx → Rep K T N H y dy → g dx dy = some ds → OkN K T N Q ds H → r x y H Q) {σ : Sg} {H : Hp} {Q : VK} (h : tN K T W (n2 g fa fb) σ H Q) :
    tOp r (tD K T W fa) (tD K T W fb) σ H Q := by
  obtain ⟨N0, ρ, rs, p⟩ := h
  unfold n2 at p
  refine (stepD (S := fun ds H => OkN K T (Exc N0 σ ρ) Q ds H) rs (fun _ _ _ s h => h.same s) p).mono fun v H1 ⟨s1, r1, dx, _, x1, p1⟩ => ?_
  refine (stepD (S := fun ds H => OkN K T (Exc N0 σ ρ) Q ds H) r1 (fun _ _ _ s h => h.same s) p1).mono fun u H2 ⟨s2, r2, dy, _, x2, p2⟩ => ?_
  obtain ⟨d, e, q⟩ := p2.orS
  exact hr _ _ _ _ _ _ _ _ (rs_dom r2) (x1.same s2) x2 e q
theorem n_cat (ha : PE X a (tD X.K T W fa)) (hb : PE X b (tD X.K T W fb)) : PE X (.BinOp a .Add b pos) (tN X.K T W (n2 catN fa fb)) :=
  weakE (pe_op op_cat ha hb) fun σ H Q h => twoN (fun x y H Q N dx dy ds dom rx ry e q => by
    unfold catN at e
    split at e
    · split at e
      · cases e
        obtain ⟨p1, v1, rfl, h1, n1, r1⟩ := rx.lstH
        obtain ⟨p2, v2, rfl, h2, n2, r2⟩ := ry.lstH
        exact ⟨p1, p2, v1, v2, rfl, rfl, h1, h2, by rw [r1.length, r2.length]; exact small_line (by assumption), fun p hp => OkN.now dom hp (r1.append r2) q⟩
      · cases e
    · cases e) h
theorem n_rep (ha : PE X a (tD X.K T W fa)) (hb : PE X b (tD X.K T W fb)) : PE X (.BinOp a .Mult b pos) (tN X.K T W (n2 repN fa fb)) :=
  weakE (pe_op op_rep ha hb) fun σ H Q h => twoN (fun x y H Q N dx dy ds dom rx ry e q => by
    unfold repN at e
    split at e
    · rename_i as k
      split at e
      · rename_i hb
        rw [Bool.and_eq_true, Bool.and_eq_true, decide_eq_true_eq, decide_eq_true_eq] at hb
        cases e
        obtain ⟨p1, v1, rfl, h1, n1, r1⟩ := rx.lstH
        cases ry
        refine ⟨p1, k, v1, rfl, rfl, h1, by omega, by omega, by rw [r1.length]; exact small_line hb.1.2, fun p hp => OkN.now dom hp (r1.flatten _) q⟩
      · cases e
    · cases e) h
/-- list(x) -/
def seqN : List D → Option (List D)
  | [.tup ds] => some ds
  | [.lst ds] => some ds
  | [.klst ds] => some ds
  | _ => none
def nC (g : List D → Option (List D)) (fs : EL) : EL := fun ρ => fs ρ >>= fun ds => orS (g ds)
theorem n_list {p : Pos} (hg : Gl X "list") (hm : X.mg "list" = none) (ha : PA X [a] (tA' X.K T W fs)) (he : starEach [a] X.env = (false, eval a X.env) :: starEach [] X.env := by rfl) (hpl : (backTo pos (starEach [] X.env)).any (·.1) = false := by rfl) :
    PE X (.Call (.Name "list" p) [a] [] pos) (tN X.K T W (nC seqN fs)) :=
  weakE (pe_callTy call_list_of hg hm (by decide +kernel) ha (by decide) (by decide) he hpl) fun σ H Q h => by
    obtain ⟨N0, ρ, rs, p⟩ := h
    unfold nC at p
    refine (stepA (S := fun ds H => OkN X.K T (Exc N0 σ ρ) Q ds H) rs (fun _ _ _ s h => h.same s) p).mono fun vs H1 ⟨s1, r1, ds, _, x1, p1⟩ => ?_
    obtain ⟨out, e, q⟩ := p1.orS
    unfold seqN at e
    split at e
    · obtain ⟨v, rfl, rv⟩ := one_rep x1
      cases e
      obtain ⟨q1, v1, rfl, h1, h2⟩ := rv.tupD
      exact ⟨_, v1, rfl, .inr h1, fun l hl => OkN.now (rs_dom r1) hl h2 q⟩
    · obtain ⟨v, rfl, rv⟩ := one_rep x1
      cases e
      obtain ⟨q1, v1, rfl, h1, h2⟩ := rv.lstD
      exact ⟨_, v1, rfl, .inl h1, fun l hl => OkN.now (rs_dom r1) hl h2 q⟩
    · obtain ⟨v, rfl, rv⟩ := one_rep x1
      cases e
      obtain ⟨q1, v1, rfl, h1, h2⟩ := rv.klstD
      exact ⟨_, v1, rfl, .inl h1, fun l hl => OkN.now (rs_dom r1) hl h2 q⟩
    · cases e
/-- borrowed: the items hold no list -/
def nBor (f : EL) : EL := fun ρ => match f (frzAll ρ) with
  | .ok ds => if flats ds then .ok ds else .error none
  | .error _ => .error none
theorem n_bor {e : Expr} (ha : PE X e (tN X.K T W fs)) : PE X e (tN X.K T W (nBor fs)) :=
  weakE ha fun σ H Q h => by
    obtain ⟨N0, ρ, rs, p⟩ := h
    refine ⟨N0, frzAll ρ, rs.frz, ?_⟩
    unfold nBor at p
    rcases hf : fs (frzAll ρ) with er | ds
    · rw [hf] at p; exact p.elim
    · rw [hf] at p
      dsimp only at p
      split at p
      · rename_i hfl
        exact fun q vs H' hq s hl r => p q vs H' hq s hl (Reps.flat (fun a z => by
          rcases z with z | z
          · exact ((rs_dom rs).same s) a z
          · exact ⟨vs, by rw [z]; exact hl⟩) hfl r)
      · exact p.elim
end
end PF

set_option Elab.async false
set_option linter.all false
set_option maxRecDepth 100000
/-! PF 7: statements, loops, defs. -/
namespace PF
open PySem PySem.Spec PyProof.Rows L2
inductive Fl where
  | nx | bk | ct | rt (d : D)
abbrev ES := Rho → R (Fl × Rho)
def WxS (K : PySem.W.Frag) (T : CT) (N0 : Ad) (σ : Sg) (ρ : Rho) (W : WX) (H : Hp) (e : Er) : Prop := ∀ σ' H' N' cls dd, Stp (Own σ ρ) H N' H' → RepX K T (fun a => N' a ∨ N0 a) H' cls dd e → W cls dd σ' H'
/-- what a return gives: any value, or a new list that is the caller's own -/
abbrev RK := PySem.W.Frag → CT → Ad → Ad → Hp → V → D → Prop
def rkV : RK := fun K T N' N0 H v d => Rep K T (fun a => N' a ∨ N0 a) H v d
def rkN : RK := fun K T N' N0 H v d => ∃ p vs ds, v = .ref p ∧ d = .lst ds ∧ N' p ∧ H p = some (.lst vs) ∧ Reps K T (fun a => N' a ∨ N0 a) H vs ds
def OkS (Z : RK) (K : PySem.W.Frag) (T : CT) (N0 : Ad) (σ : Sg) (ρ : Rho) (D : Ends) (H : Hp) (o : Fl × Rho) : Prop := match o.1 with
  | .nx => ∀ σ' H', RS K T N0 σ' H' o.2 → Stp (Own σ ρ) H (Own σ' o.2) H' → D.nx σ' H'
  | .bk => ∀ σ' H', RS K T N0 σ' H' o.2 → Stp (Own σ ρ) H (Own σ' o.2) H' → D.bk σ' H'
  | .ct => ∀ σ' H', RS K T N0 σ' H' o.2 → Stp (Own σ ρ) H (Own σ' o.2) H' → D.ct σ' H'
  | .rt d => ∀ v H' N', Stp (Own σ ρ) H N' H' → Z K T N' N0 H' v d → D.rt v H'
def tS (Z : RK) (K : PySem.W.Frag) (T : CT) (W : WX) (f : ES) : TS := fun D σ H => ∃ N0 ρ, RS K T N0 σ H ρ ∧ PG (WxS K T N0 σ ρ W H) (f ρ) (OkS Z K T N0 σ ρ D H)
section
variable {Z : RK} {K : PySem.W.Frag} {T : CT} {W : WX} {N0 : Ad} {H H' H1 : Hp} {σ σ1 : Sg} {ρ ρ1 : Rho} {Dn : Ends}
theorem OkS.step {o : Fl × Rho} (st : Stp (Own σ ρ) H (Own σ1 ρ1) H1) (h : OkS Z K T N0 σ ρ Dn H o) : OkS Z K T N0 σ1 ρ1 Dn H1 o := by
  obtain ⟨fl, ρ2⟩ := o
  cases fl with
  | nx => exact fun σ' H' r s => h σ' H' r (st.trans s)
  | bk => exact fun σ' H' r s => h σ' H' r (st.trans s)
  | ct => exact fun σ' H' r s => h σ' H' r (st.trans s)
  | rt d => exact fun v H' N' s r => h v H' N' (st.trans s) r
theorem WxS.step {e : Er} (st : Stp (Own σ ρ) H (Own σ1 ρ1) H1) (h : WxS K T N0 σ ρ W H e) : WxS K T N0 σ1 ρ1 W H1 e := fun σ' H' N' c d s r => h σ' H' N' c d (st.trans s) r
theorem WxS.ex {e : Er} (h : WxS K T N0 σ ρ W H e) : Wx K T (Exc N0 σ ρ) W σ H e := fun H' c d s r => h σ H' (Own σ ρ) c d (.same s) r
theorem stp {r : R (Fl × Rho)} (st : Stp (Own σ ρ) H (Own σ1 ρ1) H1) (h : PG (WxS K T N0 σ ρ W H) r (OkS Z K T N0 σ ρ Dn H)) : PG (WxS K T N0 σ1 ρ1 W H1) r (OkS Z K T N0 σ1 ρ1 Dn H1) :=
  h.mono (fun _ h => h.step st) fun _ _ h => h.step st
/-- an expression ahead of a statement's rest -/
theorem seD {f : EE} {g : D → R (Fl × Rho)} (r : RS K T N0 σ H ρ) (h : PG (WxS K T N0 σ ρ W H) (f ρ >>= g) (OkS Z K T N0 σ ρ Dn H)) :
    tD K T W f σ H fun v H1 => Same H H1 ∧ RS K T N0 σ H1 ρ ∧ ∃ d, f ρ = .ok d ∧ Rep K T (Exc N0 σ ρ) H1 v d ∧ PG (WxS K T N0 σ ρ W H1) (g d) (OkS Z K T N0 σ ρ Dn H1) :=
  ⟨N0, ρ, r, h.bind.mono (fun _ h => h.ex) fun d e p v H1 s rp => ⟨s, r.same s, d, e, rp, stp (.same s) p⟩⟩
theorem seB {f : ET} {g : Bool → R (Fl × Rho)} (r : RS K T N0 σ H ρ) (h : PG (WxS K T N0 σ ρ W H) (f ρ >>= g) (OkS Z K T N0 σ ρ Dn H)) :
    tB' K T W f σ H fun b H1 => Same H H1 ∧ RS K T N0 σ H1 ρ ∧ f ρ = .ok b ∧ PG (WxS K T N0 σ ρ W H1) (g b) (OkS Z K T N0 σ ρ Dn H1) :=
  ⟨N0, ρ, r, h.bind.mono (fun _ h => h.ex) fun d e p H1 s => ⟨s, r.same s, e, stp (.same s) p⟩⟩
theorem seA {f : EL} {g : List D → R (Fl × Rho)} (r : RS K T N0 σ H ρ) (h : PG (WxS K T N0 σ ρ W H) (f ρ >>= g) (OkS Z K T N0 σ ρ Dn H)) :
    tA' K T W f σ H fun vs H1 => Same H H1 ∧ RS K T N0 σ H1 ρ ∧ ∃ ds, f ρ = .ok ds ∧ Reps K T (Exc N0 σ ρ) H1 vs ds ∧ PG (WxS K T N0 σ ρ W H1) (g ds) (OkS Z K T N0 σ ρ Dn H1) :=
  ⟨N0, ρ, r, h.bind.mono (fun _ h => h.ex) fun d e p v H1 s rp => ⟨s, r.same s, d, e, rp, stp (.same s) p⟩⟩
theorem seN {f : EL} {g : List D → R (Fl × Rho)} (r : RS K T N0 σ H ρ) (h : PG (WxS K T N0 σ ρ W H) (f ρ >>= g) (OkS Z K T N0 σ ρ Dn H)) :
    tN K T W f σ H fun v H1 => Same H H1 ∧ RS K T N0 σ H1 ρ ∧ ∃ ds p vs, f ρ = .ok ds ∧ v = .ref p ∧ H p = none ∧ H1 p = some (.lst vs) ∧ Reps K T (fun a => Exc N0 σ ρ a ∨ a = p) H1 vs ds ∧ PG (WxS K T N0 σ ρ W H1) (g ds) (OkS Z K T N0 σ ρ Dn H1) :=
  ⟨N0, ρ, r, h.bind.mono (fun _ h => h.ex) fun d e q p vs H1 hp s hl rp => ⟨s, r.same s, d, p, vs, e, rfl, hp, hl, rp, stp (.same s) q⟩⟩
end
section
variable {Z : RK} {X : Cx} {T : CT} {W : WX} {a b : Expr} {fa fb : EE} {pos p pos' : Pos} {e : Expr} {es : List Expr} {fs fl : EL} {x : Str} {st : Stmt} {sts : List Stmt} {f g : ES} {i : Nat}
/-! ### blocks -/
def sNil : ES := fun ρ => .ok (.nx, ρ)
def sSeq (f g : ES) : ES := fun ρ => f ρ >>= fun o => match o.1 with
  | .nx => g o.2
  | _ => .ok o
theorem s_nil : PSs X [] (tS Z X.K T W sNil) := weakSs pss_nil fun D σ H h => by
  obtain ⟨N0, ρ, rs, q⟩ := h
  exact q σ H rs (.refl _ _)
theorem s_cons (h1 : PS X st (tS Z X.K T W f)) (h2 : PSs X sts (tS Z X.K T W g)) : PSs X (st :: sts) (tS Z X.K T W (sSeq f g)) :=
  weakSs (pss_cons h1 h2) fun D σ H h => by
    obtain ⟨N0, ρ, rs, q⟩ := h
    unfold sSeq at q
    refine ⟨N0, ρ, rs, q.bind.mono (fun _ h => h) fun o _ q => ?_⟩
    obtain ⟨k, ρ1⟩ := o
    cases k with
    | nx => exact fun σ' H' r s => ⟨N0, ρ1, r, stp s q⟩
    | bk => exact q
    | ct => exact q
    | rt d => exact q
theorem s_one (h1 : PS X st (tS Z X.K T W f)) : PSs X [st] (tS Z X.K T W f) := pss_one h1
theorem s_pass : PS X (.Pass pos) (tS Z X.K T W sNil) := weakS ps_pass fun D σ H h => by
  obtain ⟨N0, ρ, rs, q⟩ := h
  exact q σ H rs (.refl _ _)
def sBrk : ES := fun ρ => .ok (.bk, ρ)
def sCnt : ES := fun ρ => .ok (.ct, ρ)
theorem s_break : PS X (.Break pos) (tS Z X.K T W sBrk) := weakS ps_break fun D σ H h => by
  obtain ⟨N0, ρ, rs, q⟩ := h
  exact q σ H rs (.refl _ _)
theorem s_continue : PS X (.Continue pos) (tS Z X.K T W sCnt) := weakS ps_continue fun D σ H h => by
  obtain ⟨N0, ρ, rs, q⟩ := h
  exact q σ H rs (.refl _ _)
/-! ### return, stores -/
def sRet (a : EE) : ES := fun ρ => a ρ >>= fun d => .ok (.rt d, ρ)
theorem s_ret (ha : PE X a (tD X.K T W fa)) : PS X (.Return (some a) pos) (tS rkV X.K T W (sRet fa)) :=
  weakS (ps_ret ha) fun D σ H h => by
    obtain ⟨N0, ρ, rs, q⟩ := h
    unfold sRet at q
    exact (seD rs q).mono fun v H1 ⟨s, r1, d, _, rp, q1⟩ => q1 v H1 _ (.refl _ _) rp
def sRetN : ES := fun ρ => .ok (.rt .non, ρ)
theorem s_retN : PS X (.Return none pos) (tS rkV X.K T W sRetN) := weakS ps_retN fun D σ H h => by
  obtain ⟨N0, ρ, rs, q⟩ := h
  exact q .non H _ (.refl _ _) .non
def sDrop (a : EE) : ES := fun ρ => a ρ >>= fun _ => .ok (.nx, ρ)
theorem s_expr (ha : PE X a (tD X.K T W fa)) (hs : swapsWith a none pos.line X.env = pure false := by rfl) : PS X (.Expr a pos) (tS Z X.K T W (sDrop fa)) :=
  weakS (ps_expr ha hs) fun D σ H h => by
    obtain ⟨N0, ρ, rs, q⟩ := h
    unfold sDrop at q
    exact (seD rs q).mono fun v H1 ⟨s, r1, d, _, rp, q1⟩ => q1 σ H1 r1 (.refl _ _)
def sSet (i : Nat) (a : EE) : ES := fun ρ => a ρ >>= fun d => .ok (.nx, ρ.set i (.val d))
def sSetN (i : Nat) (a : EL) : ES := fun ρ => a ρ >>= fun ds => .ok (.nx, ρ.set i (.own ds))
def sAsg (asg : D → Rho → R Rho) (a : EE) : ES := fun ρ => a ρ >>= fun d => noX (asg d ρ) >>= fun ρ' => .ok (.nx, ρ')
theorem setV_read {D : Ends} {σ : Sg} {H : Hp} (h : tS Z X.K T W (sSet i fa) D σ H) : tAsg (tD X.K T W fa) (gName i) D σ H := by
  obtain ⟨N0, ρ, rs, q⟩ := h
  unfold sSet at q
  refine (seD rs q).mono fun v H1 ⟨s, r1, d, _, rp, q1⟩ => ?_
  obtain ⟨r2, st⟩ := r1.setV (i := i) rp
  exact q1 _ H1 r2 st
theorem setN_read {D : Ends} {σ : Sg} {H : Hp} (h : tS Z X.K T W (sSetN i fl) D σ H) : tAsg (tN X.K T W fl) (gName i) D σ H := by
  obtain ⟨N0, ρ, rs, q⟩ := h
  unfold sSetN at q
  have h' : tN X.K T W fl σ H fun v H1 => gName i v σ H1 D.nx := by
    refine ⟨N0, ρ, rs, q.bind.mono (fun _ h => h.ex) fun ds e q p vs H1 hp s hl rp => ?_⟩
    obtain ⟨r2, st⟩ := rs.setO (i := i) hp s hl rp
    exact q _ H1 r2 st
  exact h'
theorem s_set (i : Nat) (hn : X.N.Nodup) (ha : PE X a (tD X.K T W fa)) (hi : X.N[i]? = some x := by rfl) (hx : Loc X.env.scope x := by first | exact Or.inl rfl | exact Or.inr rfl) (hs : swapsWith a (some (.Name x pos')) pos.line X.env = pure false := by rfl)
    (hf : X.fn x = true ∨ X.env.scope.names.lookup x = some .local := by first | exact .inl rfl | exact .inr rfl | assumption) : PS X (.Assign [.Name x pos'] a pos) (tS Z X.K T W (sSet i fa)) :=
  weakS (ps_set hn hi hx ha hs hf) fun D σ H h => setV_read h
theorem s_setN (i : Nat) (hn : X.N.Nodup) (ha : PE X a (tN X.K T W fl)) (hi : X.N[i]? = some x := by rfl) (hx : Loc X.env.scope x := by first | exact Or.inl rfl | exact Or.inr rfl) (hs : swapsWith a (some (.Name x pos')) pos.line X.env = pure false := by rfl)
    (hf : X.fn x = true ∨ X.env.scope.names.lookup x = some .local := by first | exact .inl rfl | exact .inr rfl | assumption) : PS X (.Assign [.Name x pos'] a pos) (tS Z X.K T W (sSetN i fl)) :=
  weakS (ps_set hn hi hx ha hs hf) fun D σ H h => setN_read h
/- name = [.. for ..] on one line, the name no cell -/
section
variable {elt tg iter : Expr} {ifs : List Expr} {scope : Scope} {own : List (Str × Nat)} {fi : EL} {is : List Nat} {asg : D → Rho → R Rho} {ft : ET} {fe : EE}
theorem lc_read {D : Ends} {σ : Sg} {H : Hp} {vs : List Nat} (fr : AFr is asg) (hw : ∀ i ∈ is, i ∈ vs) (h : tAsg (tN X.K T W (nComp fi asg ft fe vs)) (gName i) D σ H) : tAsg (tLc (tI X.K T W fi) (tG X.K T is asg) (tB' X.K T Wn ft) (tD X.K T Wn fe) vs) (gName i) D σ H := by
  have h' : tN X.K T W (nComp fi asg ft fe vs) σ H fun v H1 => gName i v σ H1 D.nx := h
  exact comp_read fr hw h'
theorem s_setLcN (i : Nat) {vs : List Nat} {py : Pos} {y : Str} (hc : X.calm = true) (hN : X.N.Nodup) (hy : X.N[i]? = some y) (hyl : X.env.scope.names.lookup y = some .local) (hsw : swapsWith (.ListComp elt [⟨tg, iter, ifs, 0⟩] scope pos) (some (.Name y py)) pos'.line X.env = pure true)
    (hi : PI X tg iter (tI X.K T W fi)) (ok : BlkOk X.N X.env.scope scope own)
    (hg : ∀ (s : Shared) (H : Hp) (C : Addr) (cl : List (Str × Addr)) (fp : List Addr), Tgt (X.blk s H scope (compEnvC scope cl C X.env) fp) T tg is asg) (ht : ∀ (s : Shared) (H : Hp) (C : Addr) (cl : List (Str × Addr)) (fp : List Addr), PTs (X.blk s H scope (compEnvC scope cl C X.env) fp) ifs (tB' X.K T Wn ft))
    (he : ∀ (s : Shared) (H : Hp) (C : Addr) (cl : List (Str × Addr)) (fp : List Addr), PE (X.blk s H scope (compEnvC scope cl C X.env) fp) elt (tD X.K T Wn fe)) (hw : ∀ i ∈ is, i ∈ own.map (·.2) := by decide) (hs : ∀ x, foldedSetIterable iter X.env x = pure x := by intro _; rfl) (hvs : own.map (·.2) = vs := by rfl) :
    PS X (.Assign [.Name y py] (.ListComp elt [⟨tg, iter, ifs, 0⟩] scope pos) pos') (tS Z X.K T W (sSetN i (nComp fi asg ft fe vs))) :=
  hvs ▸ ⟨fun pins s σ H D I h => (ps_setLc hc hN hy hyl hsw hi ok (fun s H C cl fp => (hg s H C cl fp).pg) ht he hs).run pins s σ H D I (lc_read (hg s H X.env.locals [] []).fr hw (setN_read h))⟩
theorem new_read {f : EL} {σ : Sg} {H : Hp} {Q : VK} (q : tD X.K T W (eNew f) σ H Q) : tN X.K T W f σ H Q := by
  obtain ⟨N0, ρ, rs, p⟩ := q
  unfold eNew at p
  exact ⟨N0, ρ, rs, p.bind.mono (fun _ h => h) fun ds _ q => OkN.of (rs_dom rs) q⟩
theorem s_setLc (i : Nat) {vs : List Nat} {py : Pos} {y : Str} (hc : X.calm = true) (hN : X.N.Nodup) (hy : X.N[i]? = some y) (hyl : X.env.scope.names.lookup y = some .local) (hsw : swapsWith (.ListComp elt [⟨tg, iter, ifs, 0⟩] scope pos) (some (.Name y py)) pos'.line X.env = pure true)
    (hi : PI X tg iter (tI X.K T W fi)) (ok : BlkOk X.N X.env.scope scope own)
    (hg : ∀ (s : Shared) (H : Hp) (C : Addr) (cl : List (Str × Addr)) (fp : List Addr), Tgt (X.blk s H scope (compEnvC scope cl C X.env) fp) T tg is asg) (ht : ∀ (s : Shared) (H : Hp) (C : Addr) (cl : List (Str × Addr)) (fp : List Addr), PTs (X.blk s H scope (compEnvC scope cl C X.env) fp) ifs (tB' X.K T Wn ft))
    (he : ∀ (s : Shared) (H : Hp) (C : Addr) (cl : List (Str × Addr)) (fp : List Addr), PE (X.blk s H scope (compEnvC scope cl C X.env) fp) elt (tD X.K T Wn fe)) (hw : ∀ i ∈ is, i ∈ own.map (·.2) := by decide) (hs : ∀ x, foldedSetIterable iter X.env x = pure x := by intro _; rfl) (hvs : own.map (·.2) = vs := by rfl) :
    PS X (.Assign [.Name y py] (.ListComp elt [⟨tg, iter, ifs, 0⟩] scope pos) pos') (tS Z X.K T W (sSet i (eNew (nComp fi asg ft fe vs)))) :=
  hvs ▸ ⟨fun pins s σ H D I h => (ps_setLc hc hN hy hyl hsw hi ok (fun s H C cl fp => (hg s H C cl fp).pg) ht he hs).run pins s σ H D I (lc_read (hg s H X.env.locals [] []).fr hw (by
    have h1 : tD X.K T W (eNew (nComp fi asg ft fe (own.map (·.2)))) σ H fun v H1 => gName i v σ H1 D.nx := setV_read h
    exact new_read h1))⟩
end
theorem s_asg {tg : Expr} {is : List Nat} {asg : D → Rho → R Rho} (ha : PE X a (tD X.K T W fa)) (hg : Tgt X T tg is asg) (hs : swapsWithSole [tg] a pos.line X.env = pure false := by rfl) (hw : swappedStores [tg] a X.env = pure none := by rfl)
    (h1 : (assignEach [tg] X.env).map (·.2) = [assign tg X.env] := by rfl) : PS X (.Assign [tg] a pos) (tS Z X.K T W (sAsg asg fa)) :=
  weakS (ps_asg ha hg.pg hs hw h1) fun D σ H h => by
    obtain ⟨N0, ρ, rs, q⟩ := h
    unfold sAsg at q
    refine (seD rs q).mono fun v H1 ⟨s, r1, d, _, rp, q1⟩ => ?_
    cases h3 : asg d ρ with
    | error er =>
      rw [h3] at q1
      exact q1.elim
    | ok ρ' =>
      rw [h3] at q1
      exact ⟨N0, ρ, d, ρ', r1, rp, h3, fun σ' r' st' f' => q1 σ' H1 r' st'⟩
/-! ### if, loops -/
def sIf (c : ET) (f g : ES) : ES := fun ρ => c ρ >>= fun b => if b then f ρ else g ρ
theorem s_if {c : Expr} {sa sb : List Stmt} {fc : ET} (hc : PT X c (tB' X.K T W fc)) (ha : PSs X sa (tS Z X.K T W f)) (hb : PSs X sb (tS Z X.K T W g)) : PS X (.If c sa sb pos) (tS Z X.K T W (sIf fc f g)) :=
  weakS (ps_if hc ha hb) fun D σ H h => by
    obtain ⟨N0, ρ, rs, q⟩ := h
    unfold sIf at q
    refine (seB rs q).mono fun k H1 ⟨s, r1, _, q1⟩ => ?_
    cases k with
    | true => exact ⟨N0, ρ, r1, q1⟩
    | false => exact ⟨N0, ρ, r1, q1⟩
def sWhile (c : ET) (f : ES) : Nat → ES
  | 0 => fun _ => .error none
  | n + 1 => fun ρ => c ρ >>= fun b => if b then f ρ >>= fun o => match o.1 with
      | .nx => sWhile c f n o.2
      | .ct => sWhile c f n o.2
      | .bk => .ok (.nx, o.2)
      | .rt d => .ok (.rt d, o.2)
    else .ok (.nx, ρ)
theorem s_while {c : Expr} {body : List Stmt} {fc : ET} (n : Nat) (hp : PassesOwn (model X.prog X.w) X.A X.env X.xe) (hc : PT X c (tB' X.K T W fc)) (hb : PSs X body (tS Z X.K T W f)) : PS X (.While c body [] pos) (tS Z X.K T W (sWhile fc f n)) :=
  weakS (ps_while hp hc hb) fun D σ H h => by
    obtain ⟨N0, ρ, rs, q⟩ := h
    refine ⟨fun m σ' H' => ∃ ρ', RS X.K T N0 σ' H' ρ' ∧ PG (WxS X.K T N0 σ' ρ' W H') (sWhile fc f m ρ') (OkS Z X.K T N0 σ' ρ' D H'), ⟨n, ρ, rs, q⟩, ?_⟩
    rintro m σ' H' ⟨ρ', r, q⟩
    cases m with
    | zero => exact q.elim
    | succ m =>
      unfold sWhile at q
      refine (seB r q).mono fun k H1 ⟨s, r1, _, q1⟩ => ?_
      cases k with
      | false => exact q1 σ' H1 r1 (.refl _ _)
      | true =>
        rw [if_pos rfl] at q1 ⊢
        refine ⟨fun σ2 H2 => ∃ ρ2, RS X.K T N0 σ2 H2 ρ2 ∧ PG (WxS X.K T N0 σ2 ρ2 W H2) (sWhile fc f m ρ2) (OkS Z X.K T N0 σ2 ρ2 D H2), fun σ2 H2 w => ⟨m, Nat.lt_succ_self m, w⟩, N0, ρ', r1, q1.bind.mono (fun _ h => h) fun o _ q2 => ?_⟩
        obtain ⟨fl, ρ2⟩ := o
        cases fl with
        | nx => exact fun σ2 H2 r2 st => ⟨ρ2, r2, stp st q2⟩
        | ct => exact fun σ2 H2 r2 st => ⟨ρ2, r2, stp st q2⟩
        | bk => exact q2
        | rt d => exact q2
def forL (asg : D → Rho → R Rho) (f : ES) : List D → ES
  | [], ρ => .ok (.nx, ρ)
  | d :: ds, ρ => noX (asg d ρ) >>= fun ρ1 => f ρ1 >>= fun o => match o.1 with
    | .nx => forL asg f ds o.2
    | .ct => forL asg f ds o.2
    | .bk => .ok (.nx, o.2)
    | .rt d => .ok (.rt d, o.2)
def sFor (it : EL) (asg : D → Rho → R Rho) (f : ES) : ES := fun ρ => it ρ >>= fun ds => forL asg f ds ρ
theorem s_for {tg iter : Expr} {body : List Stmt} {fi : EL} {is : List Nat} {asg : D → Rho → R Rho} (hp : PassesOwn (model X.prog X.w) X.A X.env X.xe) (hc : X.calm = true) (hi : PI X tg iter (tI X.K T W fi)) (hg : Tgt X T tg is asg) (hb : PSs X body (tS Z X.K T W f))
    (hs : ∀ x, foldedSetIterable iter X.env x = pure x := by intro _; rfl) : PS X (.For tg iter body [] pos) (tS Z X.K T W (sFor fi asg f)) :=
  weakS (ps_for hp hc hi hg.pg hb hs) fun D σ H h => by
    obtain ⟨N0, ρ, rs, q⟩ := h
    unfold sFor at q
    refine ⟨N0, ρ, rs, q.bind.mono (fun _ h => h.ex) fun ds _ q1 J H1 s hJ => ?_⟩
    have q1 := stp (σ1 := σ) (ρ1 := ρ) (H1 := H1) (.same s) q1
    let Wd : Nat → Nat → Sg → Hp → Prop := fun i m σ' H' => m = ds.length - i ∧ i ≤ ds.length ∧ ∃ ρ', RS X.K T N0 σ' H' ρ' ∧ Stp (Own σ ρ) H1 (Own σ' ρ') H' ∧ PG (WxS X.K T N0 σ' ρ' W H') (forL asg f (ds.drop i) ρ') (OkS Z X.K T N0 σ' ρ' D H')
    refine ⟨Wd, ⟨ds.length, rfl, Nat.zero_le _, ρ, rs.same s, .refl _ _, q1⟩, ?_⟩
    rintro i m σ' H' ⟨rfl, hi, ρ', r, st, q2⟩
    have hJ2 := hJ _ H' i st.or (rs_dom r)
    by_cases hlt : i < ds.length
    · refine .inr ?_
      have hd := List.getElem?_eq_getElem hlt
      obtain ⟨go, yl⟩ := hJ2.1 _ hd
      rw [List.drop_eq_getElem_cons hlt] at q2
      unfold forL at q2
      refine ⟨go, fun σ2 H2 => Wd (i + 1) (ds.length - (i + 1)) σ2 H2, fun σ2 H2 w => ⟨_, by omega, w⟩, fun v H2 hy => ?_⟩
      obtain ⟨s2, rx⟩ := yl v H2 hy
      have r2 := r.same s2
      cases h3 : asg ds[i] ρ' with
      | error er => rw [h3] at q2; exact q2.elim
      | ok ρ1 =>
        rw [h3] at q2
        refine ⟨N0, ρ', _, ρ1, r2, rx, h3, fun σ3 r3 st3 _ => ⟨N0, ρ1, r3, ?_⟩⟩
        have st4 : Stp (Own σ' ρ') H' (Own σ3 ρ1) H2 := (Stp.same s2).trans st3
        have q3 : PG (WxS X.K T N0 σ' ρ' W H') (f ρ1 >>= fun o => match o.1 with
          | .nx => forL asg f (ds.drop (i + 1)) o.2
          | .ct => forL asg f (ds.drop (i + 1)) o.2
          | .bk => .ok (.nx, o.2)
          | .rt d => .ok (.rt d, o.2)) (OkS Z X.K T N0 σ' ρ' D H') := q2
        have q4 := (stp st4 q3).bind
        refine q4.mono (fun _ h => h) fun o _ q5 => ?_
        obtain ⟨fl, ρ2⟩ := o
        cases fl with
        | nx => exact fun σ5 H5 r5 st5 => ⟨rfl, hlt, ρ2, r5, (st.trans st4).trans st5, stp st5 q5⟩
        | ct => exact fun σ5 H5 r5 st5 => ⟨rfl, hlt, ρ2, r5, (st.trans st4).trans st5, stp st5 q5⟩
        | bk => exact q5
        | rt d => exact q5
    · refine .inl ⟨hJ2.2 (by omega), ?_⟩
      have e0 : ds.drop i = [] := List.drop_of_length_le (by omega)
      rw [e0] at q2
      exact q2 σ' H' r (.refl _ _)
/-! ### own lists changed -/
def sApp (i : Nat) (a : EE) : ES := fun ρ => match ρ[i]? with
  | some (.own ds) => a ρ >>= fun d => if small (ds.length + 1) then .ok (.nx, ρ.set i (.own (ds ++ [d]))) else .error none
  | _ => .error none
theorem s_app (i : Nat) {apos cpos : Pos} (ha : PE X a (tD X.K T W fa)) (hN : X.N[i]? = some x := by rfl) (hv : Vis X.env.scope x := by first | exact Or.inl rfl | exact Or.inr (Or.inl rfl) | exact Or.inr (Or.inr rfl)) (hd : (x == ("__debug__" : Str)) = false := by decide)
    (hcd : (x == ("__classdict__" : Str)) = false := by decide) (hse : starEach (a :: []) X.env = (false, eval a X.env) :: starEach [] X.env := by rfl)
    (hbase : attributeBase (.Name x p) "append" X.env (eval (.Name x p) X.env) = eval (.Name x p) X.env := by rfl)
    (hfew : ((backTo cpos (starEach [a] X.env)).all (fun x => !x.1) && (backToKw cpos (keywordEach [] X.env)).all (fun x => x.1.isSome) && decide ([a].length + ([] : List Keyword).length + (if ([] : List Keyword).isEmpty then 0 else 1) < 30)) = true := by rfl)
    (hline : (apos.endLine == cpos.line) = true := by rfl) (hplain : (backTo cpos (starEach [] X.env)).any (·.1) = false := by rfl)
    (hs : swapsWith (.Call (.Attribute (.Name x p) "append" apos) [a] [] cpos) none pos.line X.env = pure false := by rfl) :
    PS X (.Expr (.Call (.Attribute (.Name x p) "append" apos) [a] [] cpos) pos) (tS Z X.K T W (sApp i fa)) :=
  have h1 : PE X (.Call (.Attribute (.Name x p) "append" apos) [a] [] cpos) (tBM X.K "list" rAppend (tVar i) (tCons (tD X.K T W fa) tNil)) := pe_bm PySem.F.plainAttrs_list PySem.F.slot_list_append PySem.F.type_list_append mt_append (pv i hN hv hd hcd) (pa_cons ha pa_nil hse) hbase hfew hline hse hplain
  weakS (ps_expr h1 hs) fun D σ H h => by
    obtain ⟨N0, ρ, rs, q⟩ := h
    unfold sApp at q
    split at q
    case h_2 => exact q.elim
    rename_i ds hi
    obtain ⟨l, vs, g1, g2, g3⟩ := rs.owns i ds hi
    refine ⟨_, g1, .inl ⟨rfl, _, .inl (.inl g2)⟩, (seD rs q).mono fun v H1 ⟨s, r1, d, _, rp, q1⟩ => ?_⟩
    split at q1
    case isFalse => exact q1.elim
    rename_i hsm
    have hz := small_line hsm
    have g4 := s _ _ g2
    obtain ⟨r2, st⟩ := r1.mutO (ds := ds ++ [d]) hi g1 ((g3.same s).append (.cons rp .nil))
    exact ⟨l, vs, v, rfl, rfl, g4, by rw [g3.length]; omega, q1 σ _ r2 st⟩
def sExt (i : Nat) (a : EE) : ES := fun ρ => match ρ[i]? with
  | some (.own ds) => a ρ >>= fun d => match d with
    | .lst es => if small (ds.length + es.length) then .ok (.nx, ρ.set i (.own (ds ++ es))) else .error none
    | _ => .error none
  | _ => .error none
theorem s_ext (i : Nat) {apos cpos : Pos} (ha : PE X a (tD X.K T W fa)) (hN : X.N[i]? = some x := by rfl) (hv : Vis X.env.scope x := by first | exact Or.inl rfl | exact Or.inr (Or.inl rfl) | exact Or.inr (Or.inr rfl)) (hd : (x == ("__debug__" : Str)) = false := by decide)
    (hcd : (x == ("__classdict__" : Str)) = false := by decide) (hse : starEach (a :: []) X.env = (false, eval a X.env) :: starEach [] X.env := by rfl)
    (hbase : attributeBase (.Name x p) "extend" X.env (eval (.Name x p) X.env) = eval (.Name x p) X.env := by rfl)
    (hfew : ((backTo cpos (starEach [a] X.env)).all (fun x => !x.1) && (backToKw cpos (keywordEach [] X.env)).all (fun x => x.1.isSome) && decide ([a].length + ([] : List Keyword).length + (if ([] : List Keyword).isEmpty then 0 else 1) < 30)) = true := by rfl)
    (hline : (apos.endLine == cpos.line) = true := by rfl) (hplain : (backTo cpos (starEach [] X.env)).any (·.1) = false := by rfl)
    (hs : swapsWith (.Call (.Attribute (.Name x p) "extend" apos) [a] [] cpos) none pos.line X.env = pure false := by rfl) :
    PS X (.Expr (.Call (.Attribute (.Name x p) "extend" apos) [a] [] cpos) pos) (tS Z X.K T W (sExt i fa)) :=
  have h1 : PE X (.Call (.Attribute (.Name x p) "extend" apos) [a] [] cpos) (tBM X.K "list" rExtend (tVar i) (tCons (tD X.K T W fa) tNil)) := pe_bm PySem.F.plainAttrs_list PySem.F.slot_list_extend PySem.F.type_list_extend mt_extend (pv i hN hv hd hcd) (pa_cons ha pa_nil hse) hbase hfew hline hse hplain
  weakS (ps_expr h1 hs) fun D σ H h => by
    obtain ⟨N0, ρ, rs, q⟩ := h
    unfold sExt at q
    split at q
    case h_2 => exact q.elim
    rename_i ds hi
    obtain ⟨l, vs, g1, g2, g3⟩ := rs.owns i ds hi
    refine ⟨_, g1, .inl ⟨rfl, _, .inl (.inl g2)⟩, (seD rs q).mono fun v H1 ⟨s, r1, d, _, rp, q1⟩ => ?_⟩
    split at q1
    case h_2 => exact q1.elim
    rename_i es _
    split at q1
    case isFalse => exact q1.elim
    rename_i hsm
    have hz := small_line hsm
    have g4 := s _ _ g2
    obtain ⟨b, ws, rfl, k1, k2, k3⟩ := rp.lstH
    obtain ⟨r2, st⟩ := r1.mutO (ds := ds ++ es) hi g1 ((g3.same s).append k3)
    exact ⟨l, b, vs, ws, rfl, rfl, g4, k1, by rw [g3.length, k3.length]; exact hz, q1 σ _ r2 st⟩
def sSetI (i : Nat) (b a : EE) : ES := fun ρ => match ρ[i]? with
  | some (.own ds) => a ρ >>= fun d => b ρ >>= fun k => match k with
    | .int z => match ixN ds.length z with
      | some j => .ok (.nx, ρ.set i (.own (ds.set j d)))
      | none => .error none
    | _ => .error none
  | _ => .error none
theorem setI_read {D : Ends} {σ : Sg} {H : Hp} (h : tS Z X.K T W (sSetI i fb fa) D σ H) : tAsg (tD X.K T W fa) (gSub (tVar i) (tD X.K T W fb) rSetL) D σ H := by
  obtain ⟨N0, ρ, rs, q⟩ := h
  unfold sSetI at q
  split at q
  case h_2 => exact q.elim
  rename_i ds hi
  obtain ⟨l, vs, g1, g2, g3⟩ := rs.owns i ds hi
  refine (seD rs q).mono fun v H1 ⟨s, r1, d, _, rp, q1⟩ => ⟨_, g1, (seD r1 q1).mono fun u H2 ⟨s2, r2, k, _, rk, q2⟩ => ?_⟩
  split at q2
  case h_2 => exact q2.elim
  rename_i z _
  split at q2
  case h_2 => exact q2.elim
  rename_i j hj
  have s' := s.trans s2
  cases rk
  obtain ⟨r3, st⟩ := r2.mutO (ds := ds.set j d) hi g1 ((g3.same s').set (rp.same s2) j)
  exact ⟨l, vs, z, j, rfl, rfl, s' _ _ g2, by rw [g3.length]; exact hj, q2 σ _ r3 st⟩
theorem s_setI (i : Nat) {spos : Pos} (ha : PE X a (tD X.K T W fa)) (hb : PE X b (tD X.K T W fb)) (hN : X.N[i]? = some x := by rfl) (hv : Vis X.env.scope x := by first | exact Or.inl rfl | exact Or.inr (Or.inl rfl) | exact Or.inr (Or.inr rfl)) (hd : (x == ("__debug__" : Str)) = false := by decide)
    (hcd : (x == ("__classdict__" : Str)) = false := by decide) (hs : swapsWithSole [.Subscript (.Name x p) b spos] a pos.line X.env = pure false := by rfl) (hw : swappedStores [.Subscript (.Name x p) b spos] a X.env = pure none := by rfl)
    (h1 : (assignEach [.Subscript (.Name x p) b spos] X.env).map (·.2) = [assign (.Subscript (.Name x p) b spos) X.env] := by rfl)
    (hq : ∀ v, assign (.Subscript (.Name x p) b spos) X.env v = (do
      let ov ← holding [v] (eval (.Name x p) X.env)
      let iv ← holding [v, ov] (eval b X.env)
      standAt spos
      holding [v, ov, iv] (setItem ov iv v)
      release [v, ov, iv] []) := by intro _; rfl) : PS X (.Assign [.Subscript (.Name x p) b spos] a pos) (tS Z X.K T W (sSetI i fb fa)) :=
  weakS (ps_asg ha (pg_sub (pe_var hN hv hd hcd) hb set_list hq) hs hw h1) fun D σ H h => setI_read h
/-! ### x op= e -/
def sAug (i : Nat) (g : D → D → Option D) (a : EE) : ES := fun ρ => match ρ[i]? with
  | some (.val d) => a ρ >>= fun y => orS (g d y) >>= fun z => .ok (.nx, ρ.set i (.val z))
  | _ => .error none
def iaddD : D → D → Option D
  | .int i, .int j => some (.int (i + j))
  | .str a, .str b => if small (a.length + b.length) then some (.str (a ++ b)) else none
  | _, _ => none
theorem o_iadd : Op2 X T (inplaceOp .Add) iaddD := by
  refine weakO (OpR.or iop_add iop_add_str) fun x y H Q h => ?_
  obtain ⟨N, dx, dy, d, dom, rx, ry, e, q⟩ := h
  cases rx <;> cases ry <;> first
    | (cases e; done)
    | skip
  · cases e
    exact .inl ⟨_, _, rfl, rfl, fin1 q (.int _)⟩
  · rename_i a b
    have e' : (if small (a.length + b.length) then some (D.str (a ++ b)) else none) = some d := e
    split at e'
    · cases e'
      exact .inr ⟨_, _, rfl, rfl, small_line (by assumption), fin1 q (.str _)⟩
    · cases e'
theorem o_isub : Op2 X T (inplaceOp .Sub) subD := by
  refine weakO (opI0 fun _ _ _ _ _ _ _ q => isub_int q : OpR X (inplaceOp .Sub) (rI0 fun i j => .int (i - j))) fun x y H Q h => ?_
  obtain ⟨N, dx, dy, d, dom, rx, ry, e, q⟩ := h
  cases rx <;> cases ry <;> first
    | (cases e; done)
    | skip
  cases e
  exact ⟨_, _, rfl, rfl, fin1 q (.int _)⟩
theorem s_aug (i : Nat) {op : Operator} {g : D → D → Option D} (hn : X.N.Nodup) (ho : Op2 X T (inplaceOp op) g) (ha : PE X a (tD X.K T W fa)) (hi : X.N[i]? = some x := by rfl) (hx : Loc X.env.scope x := by first | exact Or.inl rfl | exact Or.inr rfl)
    (hf : X.fn x = true ∨ X.env.scope.names.lookup x = some .local := by first | exact .inl rfl | exact .inr rfl | assumption) : PS X (.AugAssign (.Name x pos') op a pos) (tS Z X.K T W (sAug i g fa)) :=
  weakS (ps_aug (ti := rD2 X.K T g) hn hi hx ha (fun pins s σ H x y v u Q I rx ry h => ho pins s σ H x y v u Q I rx ry h) hf) fun D σ H h => by
    obtain ⟨N0, ρ, rs, q⟩ := h
    unfold sAug at q
    split at q
    case h_2 => exact q.elim
    rename_i d hd
    obtain ⟨v, g1, g2⟩ := rs.vals i d hd
    refine ⟨v, g1, (seD rs q).mono fun u H1 ⟨s, r1, y, _, rp, q1⟩ => ?_⟩
    obtain ⟨z, e, q2⟩ := q1.bind.orS
    refine ⟨_, d, y, z, rs_dom r1, g2.same s, rp, e, fun w H2 s2 rw' => ?_⟩
    obtain ⟨r2, st⟩ := (r1.same s2).setV (i := i) rw'
    have q3 : OkS Z X.K T N0 σ ρ D H1 (.nx, ρ.set i (.val z)) := q2
    exact q3 _ H2 r2 ((Stp.same s2).trans st)
/-! ### frozen from here on -/
def sFrz (i : Nat) (f : ES) : ES := fun ρ => f (frzAt ρ i)
theorem s_frz (i : Nat) (h : PSs X sts (tS Z X.K T W f)) : PSs X sts (tS Z X.K T W (sFrz i f)) :=
  weakSs h fun D σ H h => by
    obtain ⟨N0, ρ, rs, q⟩ := h
    obtain ⟨r1, st⟩ := rs.frzI (i := i)
    exact ⟨N0, frzAt ρ i, r1, stp st q⟩
end
/-! ### a def -/
def dDef (n : Nat) (f : ES) (ds : List D) : R D := f (ds.map .val ++ List.replicate (n - ds.length) .un) >>= fun o => match o.1 with
  | .rt d => .ok d
  | .nx => .ok .non
  | _ => .error none
section
variable {P : Program} {w : World} {K : PySem.W.Frag} {T : CT} {mg : Str → Option Value} {base : Heap} {x qual : Str} {st : Stmt} {f : Addr} {fd : FuncData} {N ps : List Str} {k : Nat} {fb : ES}
theorem rs_start {N0 : Ad} {H : Hp} {vs : List V} {ds : List D} {n : Nat} (dom : DomL N0 H) (r : Reps K T N0 H vs ds) :
    RS K T N0 (vs.map some ++ List.replicate (n - vs.length) none) H (ds.map .val ++ List.replicate (n - ds.length) .un) ∧ ∀ a, ¬ Own (vs.map some ++ List.replicate (n - vs.length) none) (ds.map .val ++ List.replicate (n - ds.length) Sl.un) a := by
  have at_ : ∀ (i : Nat) (s : Sl), (ds.map Sl.val ++ List.replicate (n - ds.length) Sl.un)[i]? = some s → (∃ d, ds[i]? = some d ∧ s = .val d) ∨ s = .un := fun i s h => by
    rw [List.getElem?_append] at h
    split at h
    · rw [List.getElem?_map] at h
      obtain ⟨d, h1, h2⟩ := Option.map_eq_some_iff.mp h
      exact .inl ⟨d, h1, h2.symm⟩
    · rw [List.getElem?_replicate] at h
      split at h
      · cases h; exact .inr rfl
      · cases h
  have no : ∀ a, ¬ Own (vs.map some ++ List.replicate (n - vs.length) none) (ds.map .val ++ List.replicate (n - ds.length) Sl.un) a := fun a ⟨i, _, es, h⟩ => by
    rcases at_ i _ h with ⟨d, _, e⟩ | e <;> cases e
  have less : Stp N0 H (Exc N0 (vs.map some ++ List.replicate (n - vs.length) none) (ds.map .val ++ List.replicate (n - ds.length) .un)) H := .less fun a z => z.elim (fun y => (no a y).elim) id
  refine ⟨⟨by simp [r.length], dom, fun a _ => no a, fun i d h => ?_, fun i es h => ?_, fun i j a h1 _ => (no a ⟨i, h1⟩).elim⟩, no⟩
  · rcases at_ i _ h with ⟨d', h1, e⟩ | e
    · cases e
      obtain ⟨v, g1, g2⟩ := r.get h1
      refine ⟨v, ?_, g2.step less⟩
      have hl : i < vs.length := (List.getElem?_eq_some_iff.mp g1).1
      rw [List.getElem?_append_left (by simpa using hl), List.getElem?_map, g1]
      rfl
    · cases e
  · rcases at_ i _ h with ⟨d', h1, e⟩ | e <;> cases e
theorem fnD (F : Fun K x qual st f fd) (S : FnScope N ps (defScope st))
    (hbody : ∀ (cdv : Value) (A : Around) (outer : List Env) (s : Shared) (H : Hp) (E : XK), Room k (A.deeper (envOfC qual (defScope st) s.heap.objs.size f cdv)) →
      PSs (cxOf (L2.CX P w) P w K mg base N qual (defScope st) f cdv A outer s H E) (defBody st) (tS rkV K T (fun c d _ H => E c d H) fb)) :
    FnOk P w K mg base (L2.CX P w) (k + 1) f fd ps (spD K T ps.length (dDef N.length fb)) := by
  refine F.okX S (fun vs H Q E h => h.1) (fun cdv A outer s H vs Q E hr h => ⟨_, hbody cdv A outer s H E hr, ?_⟩)
  obtain ⟨hl, N0, ds, dom, r, q⟩ := h
  obtain ⟨rs, no⟩ := rs_start (n := N.length) dom r
  unfold dDef at q
  refine ⟨N0, _, rs, q.bind.mono (fun e h σ' H' N' c d s rx => ?_) fun o _ q1 => ?_⟩
  · have s' : Same H H' := fun a o e => s.1 a o (no a) e
    refine h H' c d s' ⟨rx.1, rx.2.imp id ?_⟩
    rintro ⟨d, vs, e1, e2, e3⟩
    exact ⟨d, vs, e1, e2, e3.step (.less fun a z => .inr z)⟩
  · obtain ⟨fl, ρ'⟩ := o
    cases fl with
    | nx => exact fun σ' H' r' s => fin1 (OkD.same (fun a o e => s.1 a o (no a) e) q1) .non
    | bk => exact q1.elim
    | ct => exact q1.elim
    | rt d => exact fun v H' N' s rp => q1 v H' (fun a o e => s.1 a o (no a) e) (rp.step (.less fun a z => .inr z))
end
end PF

set_option Elab.async false
set_option linter.all false
set_option maxRecDepth 100000
/-! PF 8: slices, in, borrowed tests, isinstance, stores to several places. -/
namespace PF
open PySem PySem.Spec PyProof.Rows L2
section
variable {X : Cx} {T : CT} {W : WX} {a b : Expr} {fa fb : EE} {pos p pos' p2 : Pos} {e : Expr} {es : List Expr} {fs fl : EL} {x : Str} {st : Stmt} {sts : List Stmt} {f g : ES} {i : Nat}
/-! ### slices -/
abbrev EO := Rho → R (Option Int)
def oNone : EO := fun _ => .ok none
def oSome (a : EE) : EO := fun ρ => a ρ >>= fun d => match d with
  | .int i => .ok (some i)
  | _ => .error none
def tO (K : PySem.W.Frag) (T : CT) (W : WX) (f : EO) : TO := fun σ H Q => ∃ N0 ρ, RS K T N0 σ H ρ ∧ PG (Wx K T (Exc N0 σ ρ) W σ H) (f ρ) fun o => ∀ H', Same H H' → Q o H'
theorem weakPO {o : Option Expr} {t t' : TO} (h : PO X o t) (w : ∀ σ H Q, t' σ H Q → t σ H Q) : PO X o t' := ⟨fun pins s σ H Q I q => h.run pins s σ H Q I (w σ H Q q)⟩
theorem o_none : PO X none (tO X.K T W oNone) := weakPO po_none fun σ H Q h => by
  obtain ⟨N0, ρ, rs, q⟩ := h
  exact q H (.refl _)
theorem o_some (ha : PE X a (tD X.K T W fa)) : PO X (some a) (tO X.K T W (oSome fa)) := weakPO (po_some ha) fun σ H Q h => by
  obtain ⟨N0, ρ, rs, q⟩ := h
  unfold oSome at q
  refine (stepD (S := fun o H1 => ∀ H', Same H1 H' → Q o H') rs (fun o H1 H2 s k H' s' => k H' (s.trans s')) q).mono fun v H1 ⟨s, r1, d, _, rp, q1⟩ => ?_
  split at q1
  · cases rp
    exact ⟨_, rfl, q1 H1 (.refl _)⟩
  · exact q1.elim
def cutD {α : Type} (ds : List α) (lo hi : Option Int) : List α := (ds.drop (HT.sIx ds.length 0 lo)).take (HT.sIx ds.length ds.length hi - HT.sIx ds.length 0 lo)
theorem Reps.cut {K : PySem.W.Frag} {N : Ad} {H : Hp} {vs : List V} {ds : List D} (r : Reps K T N H vs ds) (lo hi : Option Int) : Reps K T N H (cutV vs lo hi) (cutD ds lo hi) := by
  unfold cutV cutD
  rw [r.length]
  exact (r.drop _).take _
def sliceD (d : D) (lo hi : Option Int) : Option D := match d with
  | .tup ds => some (.tup (cutD ds lo hi))
  | .lst ds => some (.lst (cutD ds lo hi))
  | .klst ds => some (.lst (cutD ds lo hi))
  | _ => none
def eSl (a : EE) (lo hi : EO) : EE := fun ρ => a ρ >>= fun d => lo ρ >>= fun l => hi ρ >>= fun u => orS (sliceD d l u)
theorem d_slice {lo hi : Option Expr} {fo fh : EO} (ha : PE X a (tD X.K T W fa)) (hl : PO X lo (tO X.K T W fo)) (hh : PO X hi (tO X.K T W fh)) : PE X (.Subscript a (.Slice lo hi none p2) pos) (tD X.K T W (eSl fa fo fh)) :=
  weakE (pe_slice (SlR.or sl_tupA sl_list) ha hl hh) fun σ H Q h => by
    obtain ⟨N0, ρ, rs, q⟩ := h
    unfold eSl at q
    refine (stepDD rs q).mono fun v H1 hh => ?_
    obtain ⟨s1, r1, d, hfd, rp, q1⟩ := hh
    clear hfd
    refine ⟨N0, ρ, r1, q1.bind.mono (fun _ h => h) fun l _ q2 H2 s2 => ?_⟩
    refine ⟨N0, ρ, r1.same s2, q2.bind.mono (fun _ h => h.same s2) fun u _ q3 H3 s3 => ?_⟩
    obtain ⟨d', e, q4⟩ := q3.orS
    replace rp := (rp.same s2).same s3
    have dom := rs_dom ((r1.same s2).same s3)
    have q5 : OkD X.K T (Exc N0 σ ρ) Q d' H3 := OkD.same (s2.trans s3) q4
    cases d <;> first
      | (cases e; done)
      | skip
    · rename_i ds
      cases e
      obtain ⟨w, vs, rfl, h1, h2⟩ := id rp.tupD
      refine .inl ⟨w, vs, rfl, h1, fun hw => ?_, fun _ p hp => new_tup dom hp (h2.cut l u) q5⟩
      have hc : cutD ds l u = ds := by
        rw [h2.length] at hw
        unfold cutD
        rw [hw.1, hw.2, List.drop_zero, Nat.sub_zero, List.take_length]
      rw [hc] at q5
      exact fin1 q5 rp
    · cases e
      obtain ⟨w, vs, rfl, h1, h2⟩ := id rp.lstD
      exact .inr ⟨w, vs, rfl, h1, fun p hp => new_lst dom hp (h2.cut l u) q5⟩
    · cases e
      obtain ⟨w, vs, rfl, h1, h2⟩ := id rp.klstD
      exact .inr ⟨w, vs, rfl, h1, fun p hp => new_lst dom hp (h2.cut l u) q5⟩
/-! ### in -/
def inSt (a b : Str) : Bool := !(Builtin.Str.occurrences b a 0 b.length 1).isEmpty
def inC (a b : D) : Option Bool := match a, b with
  | .str x, .str y => some (inSt x y)
  | a, .tup ds => match toPy a, toPys ds with
    | some p, some ps => if SeqAt.shaped p && SeqAt.shaped (.tuple ps) then some (ps.any fun z => PyData.eqv z p) else none
    | _, _ => none
  | a, .lst ds => match toPy a, toPys ds with
    | some p, some ps => if SeqAt.shaped p && SeqAt.shaped (.list ps) then some (ps.any fun z => PyData.eqv z p) else none
    | _, _ => none
  | a, .klst ds => match toPy a, toPys ds with
    | some p, some ps => if SeqAt.shaped p && SeqAt.shaped (.list ps) then some (ps.any fun z => PyData.eqv z p) else none
    | _, _ => none
  | _, _ => none
def ninC (a b : D) : Option Bool := (inC a b).map not
theorem op_inT (hu : X.A.units + 65 < cLine) : OpR X (compareOp .In) (fun x y H Q => ∃ d ds, Dp X.K H x d ∧ Dp X.K H y (.tuple ds) ∧ SeqAt.shaped d = true ∧ SeqAt.shaped (.tuple ds) = true ∧ Q (.bl (ds.any fun z => PyData.eqv z d)) H) := by
  intro pins s σ H x y v u Q I rx ry h
  obtain ⟨d, ds, hd, he, sd, se, q⟩ := h
  obtain ⟨as, r1⟩ := Dp.reads I d x v hd rx
  obtain ⟨bs, r2⟩ := Dp.reads I (.tuple ds) y u he ry
  exact SeqAt.in_tuple_reads r2 r1 (SeqAt.canLay_of_shaped se) (SeqAt.canLay_of_shaped sd) (room_in_shaped sd hu) ⟨.bl _, H, I, rfl, q⟩
theorem op_ninT (hu : X.A.units + 65 < cLine) : OpR X (compareOp .NotIn) (fun x y H Q => ∃ d ds, Dp X.K H x d ∧ Dp X.K H y (.tuple ds) ∧ SeqAt.shaped d = true ∧ SeqAt.shaped (.tuple ds) = true ∧ Q (.bl (!ds.any fun z => PyData.eqv z d)) H) := by
  intro pins s σ H x y v u Q I rx ry h
  obtain ⟨d, ds, hd, he, sd, se, q⟩ := h
  obtain ⟨as, r1⟩ := Dp.reads I d x v hd rx
  obtain ⟨bs, r2⟩ := Dp.reads I (.tuple ds) y u he ry
  exact SeqAt.notIn_tuple_reads r2 r1 (SeqAt.canLay_of_shaped se) (SeqAt.canLay_of_shaped sd) (room_in_shaped sd hu) ⟨.bl _, H, I, rfl, q⟩
theorem inC_tup {a : D} {ds : List D} {k : Bool} (h : inC a (.tup ds) = some k) : ∃ q qs, toPy a = some q ∧ toPys ds = some qs ∧ SeqAt.shaped q = true ∧ SeqAt.shaped (.tuple qs) = true ∧ k = qs.any fun z => PyData.eqv z q := by
  have h' : (match toPy a, toPys ds with
    | some p, some ps => if SeqAt.shaped p && SeqAt.shaped (.tuple ps) then some (ps.any fun z => PyData.eqv z p) else none
    | _, _ => none) = some k := by cases a <;> exact h
  split at h'
  · split at h'
    · rename_i h1 h2 h3
      cases h'
      rw [Bool.and_eq_true] at h3
      exact ⟨_, _, h1, h2, h3.1, h3.2, rfl⟩
    · cases h'
  · cases h'
theorem inC_lst {a : D} {ds : List D} {k : Bool} (h : inC a (.lst ds) = some k ∨ inC a (.klst ds) = some k) : ∃ q qs, toPy a = some q ∧ toPys ds = some qs ∧ SeqAt.shaped q = true ∧ SeqAt.shaped (.list qs) = true ∧ k = qs.any fun z => PyData.eqv z q := by
  have h' : (match toPy a, toPys ds with
    | some p, some ps => if SeqAt.shaped p && SeqAt.shaped (.list ps) then some (ps.any fun z => PyData.eqv z p) else none
    | _, _ => none) = some k := by rcases h with h | h <;> (cases a <;> exact h)
  split at h'
  · split at h'
    · rename_i h1 h2 h3
      cases h'
      rw [Bool.and_eq_true] at h3
      exact ⟨_, _, h1, h2, h3.1, h3.2, rfl⟩
    · cases h'
  · cases h'
theorem o_in (hu : X.A.units + 65 < cLine) : Cm2 X T (compareOp .In) inC := by
  refine weakO (OpR.or op_in_str (OpR.or (op_inD hu) (op_inT hu))) fun x y H Q h => ?_
  obtain ⟨N, dx, dy, d, dom, rx, ry, e, q⟩ := h
  obtain ⟨k, e1, rfl⟩ := Option.map_eq_some_iff.mp e
  replace q := fin1 q (.bl k)
  clear e
  rename inC dx dy = some k => e
  cases dy
  case str y' =>
    cases dx <;> first
      | (cases e; done)
      | skip
    cases e
    cases rx
    cases ry
    exact .inl ⟨_, _, rfl, rfl, q⟩
  case tup ds =>
    obtain ⟨r, rs, h1, h2, h3, h4, rfl⟩ := inC_tup e
    exact .inr (.inr ⟨r, rs, rx.dp h1, ry.dp (congrArg (Option.map PyData.tuple) h2), h3, h4, q⟩)
  case lst ds =>
    obtain ⟨r, rs, h1, h2, h3, h4, rfl⟩ := inC_lst (.inl e)
    exact .inr (.inl ⟨r, rs, rx.dp h1, ry.dp (congrArg (Option.map PyData.list) h2), h3, h4, q⟩)
  case klst ds =>
    obtain ⟨r, rs, h1, h2, h3, h4, rfl⟩ := inC_lst (.inr e)
    exact .inr (.inl ⟨r, rs, rx.dp h1, ry.dp (congrArg (Option.map PyData.list) h2), h3, h4, q⟩)
  all_goals (cases dx <;> cases e)
theorem o_nin (hu : X.A.units + 65 < cLine) : Cm2 X T (compareOp .NotIn) ninC := by
  refine weakO (OpR.or op_notin_str (OpR.or (op_notInD hu) (op_ninT hu))) fun x y H Q h => ?_
  obtain ⟨N, dx, dy, d, dom, rx, ry, e, q⟩ := h
  obtain ⟨k', e1, rfl⟩ := Option.map_eq_some_iff.mp e
  obtain ⟨k, e2, rfl⟩ := Option.map_eq_some_iff.mp e1
  replace q := fin1 q (.bl (!k))
  clear e e1
  rename inC dx dy = some k => e
  cases dy
  case str y' =>
    cases dx <;> first
      | (cases e; done)
      | skip
    cases e
    cases rx
    cases ry
    exact .inl ⟨_, _, rfl, rfl, q⟩
  case tup ds =>
    obtain ⟨r, rs, h1, h2, h3, h4, rfl⟩ := inC_tup e
    exact .inr (.inr ⟨r, rs, rx.dp h1, ry.dp (congrArg (Option.map PyData.tuple) h2), h3, h4, q⟩)
  case lst ds =>
    obtain ⟨r, rs, h1, h2, h3, h4, rfl⟩ := inC_lst (.inl e)
    exact .inr (.inl ⟨r, rs, rx.dp h1, ry.dp (congrArg (Option.map PyData.list) h2), h3, h4, q⟩)
  case klst ds =>
    obtain ⟨r, rs, h1, h2, h3, h4, rfl⟩ := inC_lst (.inr e)
    exact .inr (.inl ⟨r, rs, rx.dp h1, ry.dp (congrArg (Option.map PyData.list) h2), h3, h4, q⟩)
  all_goals (cases dx <;> cases e)
/-! ### borrowed tests, chains as values -/
def tBor (f : ET) : ET := fun ρ => match f (frzAll ρ) with
  | .ok b => .ok b
  | .error (some e) => if flats e.pay then .error (some e) else .error none
  | .error none => .error none
theorem t_bor {ft : ET} (ha : PT X a (tB' X.K T W ft)) : PT X a (tB' X.K T W (tBor ft)) :=
  weakT ha fun σ H Q h => by
    obtain ⟨N0, ρ, rs, q⟩ := h
    refine ⟨N0, frzAll ρ, rs.frz, ?_⟩
    unfold tBor at q
    rcases hf : ft (frzAll ρ) with (_ | er) | k
    · rw [hf] at q; exact q
    · rw [hf] at q
      dsimp only at q
      split at q
      · rename_i hfl
        exact fun H' cls dd s r => q H' cls dd s (RepX.flat ((rs_dom rs).same s) hfl r)
      · exact q.elim
    · rw [hf] at q
      exact q
def eChV (g g' : D → D → Option Bool) (a b c : EE) : EE := eB (eCh g g' a b c)
/-! ### isinstance(x, T), T a built-in type; of x no own object -/
def isiD (n : String) (d : D) : Option D := (tyD n d).map D.bl
theorem ty_of {K : PySem.W.Frag} {N : Ad} {H : Hp} {v : V} {d : D} {n : String} {k : Bool} (r : Rep K T N H v d) (h : tyD n d = some k)
    (hn : n = "int" ∨ n = "bool" ∨ n = "str" ∨ n = "tuple" ∨ n = "list") : ∃ t, TyX K H v t ∧ PySem.W.kitOne K t (.type n) = some k := by
  have go : ∀ m : String, (m = "NoneType" ∨ m = "bool" ∨ m = "int" ∨ m = "str" ∨ m = "tuple" ∨ m = "list") → PySem.W.kitOne K (.type m) (.type n) = some (n == m || (m == "bool" && n == "int")) := fun m hm => by
    refine kit_ty ?_
    rcases hm with rfl | rfl | rfl | rfl | rfl | rfl <;> rcases hn with rfl | rfl | rfl | rfl | rfl <;> decide +kernel
  cases r with
  | non =>
    cases h
    refine ⟨_, .base .non, ?_⟩
    rw [go _ (.inl rfl)]
    simp
  | bl b =>
    cases h
    refine ⟨_, .base (.bl b), ?_⟩
    rw [go _ (.inr (.inl rfl))]
    simp
  | int i =>
    cases h
    refine ⟨_, .base (.int i), ?_⟩
    rw [go _ (.inr (.inr (.inl rfl)))]
    simp
  | str i =>
    cases h
    refine ⟨_, .base (.str i), ?_⟩
    rw [go _ (.inr (.inr (.inr (.inl rfl))))]
    simp
  | tup h1 r1 =>
    cases h
    refine ⟨.type "tuple", ?_, ?_⟩
    · rcases h1 with ⟨h1 | ⟨o, h1⟩, _⟩ | (h1 | ⟨o, h1⟩) | ⟨o, its, m, h1, h2, _⟩
      · exact .base (.tup h1)
      · exact .fTuple h1
      · cases h1
      · cases h1
      · exact .kTuple h1 h2
    · rw [go _ (.inr (.inr (.inr (.inr (.inl rfl)))))]
      simp
  | lst h1 n1 r1 =>
    cases h
    refine ⟨.type "list", .base (.lst h1), ?_⟩
    rw [go _ (.inr (.inr (.inr (.inr (.inr rfl)))))]
    simp
  | klst h1 r1 =>
    cases h
    refine ⟨.type "list", ?_, ?_⟩
    · rcases h1 with ⟨h1 | ⟨o, h1⟩, _⟩ | (h1 | ⟨o, h1⟩) | ⟨o, its, m, h1, h2, _⟩
      · exact .base (.lst h1)
      · exact .base (.frz h1)
      · cases h1
      · cases h1
      · exact .kList h1 h2
    · rw [go _ (.inr (.inr (.inr (.inr (.inr rfl)))))]
      simp
  | obj _ _ _ _ => cases h
theorem d_isi {n : String} {y : Str} {py : Pos} (hn : n = "int" ∨ n = "bool" ∨ n = "str" ∨ n = "tuple" ∨ n = "list") (hg : Gl X "isinstance") (hm : X.mg "isinstance" = none) (hgy : Gl X y) (hmy : X.mg y = none) (hvy : bootBuiltins y = some (.type n)) (ha : PE X a (tD X.K T W fa))
    (hny : y ≠ "__name__" := by decide) (hdy : (y == ("__debug__" : Str)) = false := by decide)
    (he : starEach [a, .Name y py] X.env = (false, eval a X.env) :: starEach [.Name y py] X.env := by rfl) (he2 : starEach [.Name y py] X.env = (false, eval (.Name y py) X.env) :: starEach [] X.env := by rfl) (hpl : (backTo pos (starEach [.Name y py] X.env)).any (·.1) = false := by rfl) :
    PE X (.Call (.Name "isinstance" p) [a, .Name y py] [] pos) (tD X.K T W (e1 (isiD n) fa)) :=
  weakE (pe_callB call_isi hg hm (by decide +kernel) (pa_cons ha (pa_cons (pe_bltn (v := .ty n) hgy hmy hvy rfl hny hdy) pa_nil he2) he) (by decide) (by decide) he hpl) fun σ H Q h => by
    obtain ⟨N0, ρ, rs, q⟩ := h
    unfold e1 at q
    refine (stepDD rs q).mono fun v H1 ⟨s1, r1, d, _, rp, q1⟩ => ?_
    obtain ⟨d', e, q2⟩ := q1.orS
    obtain ⟨k, h1, rfl⟩ := Option.map_eq_some_iff.mp e
    obtain ⟨t, h2, h3⟩ := ty_of rp h1 hn
    exact ⟨v, .ty n, t, _, k, rfl, .ty n, h2, h3, fin1 q2 (.bl k)⟩
/-! ### list(range(..)) -/
def tRg (K : PySem.W.Frag) (T : CT) (W : WX) (f : Rho → R (Int × Int)) : L2.St → Hp → (Int → Int → Hp → Prop) → Prop := fun σ H Q => ∃ N0 ρ, RS K T N0 σ H ρ ∧ PG (Wx K T (Exc N0 σ ρ) W σ H) (f ρ) fun o => ∀ H', Same H H' → Q o.1 o.2 H'
def rgOk (a b : Int) : Bool := bnd a && bnd b && small (b - a).toNat
def nRg1 (a : EE) : EL := fun ρ => a ρ >>= fun d => match d with
  | .int j => if rgOk 0 j then .ok (rgD 0 j.toNat) else .error none
  | _ => .error none
theorem reps_rg {K : PySem.W.Frag} {N : Ad} {H : Hp} (lo hi : Int) : Reps K T N H (rgV lo hi) (rgD lo (hi - lo).toNat) := by
  unfold rgV rgD
  generalize List.range (hi - lo).toNat = l
  induction l with
  | nil => exact .nil
  | cons n l ih => exact .cons (.int _) ih
theorem n_listRg1 {p3 pos3 : Pos} (hc : X.calm = true) (hg : Gl X "list") (hm : X.mg "list" = none) (hg2 : Gl X "range") (hm2 : X.mg "range" = none) (ha : PE X a (tD X.K T W fa)) (na : starEach [a] X.env = (false, eval a X.env) :: starEach [] X.env := by rfl)
    (na2 : starEach [.Call (.Name "range" p3) [a] [] pos3] X.env = (false, eval (.Call (.Name "range" p3) [a] [] pos3) X.env) :: starEach [] X.env := by rfl) :
    PE X (.Call (.Name "list" p) [.Call (.Name "range" p3) [a] [] pos3] [] pos) (tN X.K T W (nRg1 fa)) :=
  weakE (pe_listRg hc hg hm (prg_1 hg2 hm2 ha na) na2) fun σ H Q h => by
    obtain ⟨N0, ρ, rs, q⟩ := h
    unfold nRg1 at q
    refine (stepD (S := fun ds H => OkN X.K T (Exc N0 σ ρ) Q ds H) rs (fun _ _ _ s h => h.same s) q).mono fun v H1 ⟨s1, r1, d, _, rp, q1⟩ => ?_
    split at q1
    case h_2 => exact q1.elim
    split at q1
    case isFalse => exact q1.elim
    rename_i i _ hk
    unfold rgOk at hk
    rw [Bool.and_eq_true, Bool.and_eq_true] at hk
    have h1 := of_decide_eq_true hk.1.1
    have h2 := of_decide_eq_true hk.1.2
    have h3 := of_decide_eq_true hk.2
    cases rp
    refine ⟨_, rfl, ⟨h1.1, h1.2, h2.1, h2.2, h3⟩, fun l hl => ?_⟩
    have q3 : OkN X.K T (Exc N0 σ ρ) Q (rgD 0 _) H1 := q1
    refine OkN.now (rs_dom r1) hl ?_ q3
    have := reps_rg (K := X.K) (T := T) (N := Exc N0 σ ρ) (H := H1) 0 i
    rw [Int.sub_zero] at this
    exact this
/-! ### gcd -/
def gcdD : List D → Option D
  | [.int a, .int b] => some (.int (Nat.gcd a.natAbs b.natAbs : Nat))
  | _ => none
theorem b_gcd : Bc X T (.builtin "math.gcd") gcdD := by
  refine weakC cr_gcd fun xs H Q h => ?_
  obtain ⟨N, ds, d, dom, r, e, q⟩ := h
  unfold gcdD at e
  split at e
  · obtain ⟨v, u, rfl, r1, r2⟩ := two_rep r
    cases e
    cases r1
    cases r2
    exact ⟨_, _, rfl, fin1 q (.int _)⟩
  · cases e
theorem d_callG {id : String} {gf : List D → Option D} (hc : Bc X T (.builtin id) gf) (hg : Gl X x) (hm : X.mg x = some (.builtin id)) (ha : PA X (e :: es) (tA' X.K T W fs)) (hdb : (x == ("__debug__" : Str)) = false := by decide)
    (he : starEach (e :: es) X.env = (false, eval e X.env) :: starEach es X.env := by rfl) (hpl : (backTo pos (starEach es X.env)).any (·.1) = false := by rfl) : PE X (.Call (.Name x p) (e :: es) [] pos) (tD X.K T W (eC gf fs)) :=
  weakE (pe_callBfun hc hg hm ha hdb he hpl) fun σ H Q h => by
    obtain ⟨N0, ρ, rs, p⟩ := h
    unfold eC at p
    refine (stepAD rs p).mono fun vs H1 ⟨s1, r1, ds, _, x1, p1⟩ => ?_
    obtain ⟨d, e, q⟩ := p1.orS
    exact ⟨_, ds, d, rs_dom r1, x1, e, q⟩
/-! ### stores to several places: a[i], b[j] = x, y -/
def tM (K : PySem.W.Frag) (T : CT) (W : WX) (asg : D → Rho → R Rho) : TG := fun v σ H Q => ∃ N0 ρ d, RS K T N0 σ H ρ ∧ Rep K T (Exc N0 σ ρ) H v d ∧ PG (fun _ => False) (noX (asg d ρ)) fun ρ' => ∀ σ' H', RS K T N0 σ' H' ρ' → Stp (Own σ ρ) H (Own σ' ρ') H' → Q σ' H'
def tMs (K : PySem.W.Frag) (T : CT) (W : WX) (asg : List D → Rho → R Rho) : TGs := fun vs σ H Q => ∃ N0 ρ ds, RS K T N0 σ H ρ ∧ Reps K T (Exc N0 σ ρ) H vs ds ∧ PG (fun _ => False) (noX (asg ds ρ)) fun ρ' => ∀ σ' H', RS K T N0 σ' H' ρ' → Stp (Own σ ρ) H (Own σ' ρ') H' → Q σ' H'
theorem noX_bind {α β : Type} {r : R α} {k : α → R β} {S : β → Prop} (h : PG (fun _ => False) (noX (r >>= k)) S) : ∃ a, r = .ok a ∧ PG (fun _ => False) (noX (k a)) S := by
  rcases r with er | a
  · exact h.elim
  · exact ⟨a, rfl, h⟩
def aSub (i : Nat) (b : EE) : D → Rho → R Rho := fun d ρ => match ρ[i]? with
  | some (.own ds) => b ρ >>= fun k => match k with
    | .int z => match ixN ds.length z with
      | some j => .ok (ρ.set i (.own (ds.set j d)))
      | none => .error none
    | _ => .error none
  | _ => .error none
theorem m_sub (i : Nat) {spos : Pos} (hb : PE X b (tD X.K T W fb)) (hN : X.N[i]? = some x := by rfl) (hv : Vis X.env.scope x := by first | exact Or.inl rfl | exact Or.inr (Or.inl rfl) | exact Or.inr (Or.inr rfl)) (hd : (x == ("__debug__" : Str)) = false := by decide)
    (hcd : (x == ("__classdict__" : Str)) = false := by decide)
    (hq : ∀ v, assign (.Subscript (.Name x p) b spos) X.env v = (do
      let ov ← holding [v] (eval (.Name x p) X.env)
      let iv ← holding [v, ov] (eval b X.env)
      standAt spos
      holding [v, ov, iv] (setItem ov iv v)
      release [v, ov, iv] []) := by intro _; rfl) : L2.PG X (.Subscript (.Name x p) b spos) (tM X.K T W (aSub i fb)) :=
  weakG (pg_sub (pe_var hN hv hd hcd) hb set_list hq) fun v σ H Q h => by
    obtain ⟨N0, ρ, d, rs, rp, q⟩ := h
    unfold aSub at q
    split at q
    case h_2 => exact q.elim
    rename_i ds hi
    obtain ⟨l, vs, g1, g2, g3⟩ := rs.owns i ds hi
    obtain ⟨k, hk, q1⟩ := noX_bind q
    clear q
    obtain ⟨z, rfl⟩ : ∃ z, k = .int z := by
      cases k <;> first
        | exact ⟨_, rfl⟩
        | exact q1.elim
    refine ⟨_, g1, N0, ρ, rs, ?_⟩
    rw [hk]
    intro u H2 s2 rk
    have q2 : PG (fun _ => False) (noX (match ixN ds.length z with
      | some j => .ok (ρ.set i (.own (ds.set j d)))
      | none => .error none)) fun ρ' => ∀ σ' H', RS X.K T N0 σ' H' ρ' → Stp (Own σ ρ) H (Own σ' ρ') H' → Q σ' H' := q1
    cases hj : ixN ds.length z with
    | none => rw [hj] at q2; exact q2.elim
    | some j =>
      rw [hj] at q2
      cases rk
      obtain ⟨r3, st⟩ := (rs.same s2).mutO (ds := ds.set j d) hi g1 ((g3.same s2).set (rp.same s2) j)
      exact ⟨l, vs, z, j, rfl, rfl, s2 _ _ g2, by rw [g3.length]; exact hj, q2 σ _ r3 ((Stp.same s2).trans st)⟩
theorem ms_nil : PGs X [] (tMs X.K T W aNil) := ⟨fun pins s σ H vs us Q I r h => pgs_nil.run pins s σ H vs us Q I r (by
  obtain ⟨N0, ρ, ds, rs, rp, q⟩ := h
  cases ds with
  | nil => exact ⟨rp.nilD, q σ H rs (.refl _ _)⟩
  | cons d ds => exact q.elim)⟩
theorem ms_cons {ag : D → Rho → R Rho} {as : List D → Rho → R Rho} (h1 : L2.PG X e (tM X.K T W ag)) (h2 : PGs X es (tMs X.K T W as))
    (hs : (assignEach (e :: es) X.env).map (·.2) = assign e X.env :: (assignEach es X.env).map (·.2) := by rfl) : PGs X (e :: es) (tMs X.K T W (aCons ag as)) :=
  ⟨fun pins s σ H vs us Q I r h => (pgs_cons h1 h2 hs).run pins s σ H vs us Q I r (by
    obtain ⟨N0, ρ, ds, rs, rp, q⟩ := h
    cases ds with
    | nil => exact q.elim
    | cons d ds =>
      obtain ⟨v, ws, rfl, rv, rw'⟩ := rp.consD
      have q' : PG (fun _ => False) (noX (ag d ρ >>= as ds)) _ := q
      obtain ⟨ρ1, h3, q2⟩ := noX_bind q'
      refine ⟨v, ws, rfl, N0, ρ, d, rs, rv, ?_⟩
      rw [h3]
      intro σ1 H1 r1 st1
      exact ⟨N0, ρ1, ds, r1, rw'.step st1.or, q2.mono (fun _ h => h) fun ρ' _ q3 σ2 H2 r2 st2 => q3 σ2 H2 r2 (st1.trans st2)⟩)⟩
def sAsgM (as : List D → Rho → R Rho) (l : EL) : ES := fun ρ => l ρ >>= fun ds => noX (as ds ρ) >>= fun ρ' => .ok (.nx, ρ')
theorem s_asgM {Z : RK} {ts : List Expr} {kt k2 : Nat} {pt pt2 : Pos} {as : List D → Rho → R Rho} {n : Nat} (hc : X.calm = true) (hl : PA X es (tA' X.K T W fl)) (hg : PGs X ts (tMs X.K T W as)) (hln : ∀ ds ρ ρ', as ds ρ = .ok ρ' → ds.length = n) (hsm : n ≤ 100)
    (hn : (assignEach ts X.env).length = n := by rfl) (hst : (assignEach ts X.env).findIdx? (·.1) = none := by rfl)
    (hs : swapsWithSole [.Tuple ts kt pt] (.Tuple es k2 pt2) pos.line X.env = pure false := by rfl) (hw : swappedStores [.Tuple ts kt pt] (.Tuple es k2 pt2) X.env = pure none := by rfl)
    (h1 : (assignEach [.Tuple ts kt pt] X.env).map (·.2) = [assign (.Tuple ts kt pt) X.env] := by rfl) : PS X (.Assign [.Tuple ts kt pt] (.Tuple es k2 pt2) pos) (tS Z X.K T W (sAsgM as fl)) :=
  weakS (ps_asg (pe_tup hl) (pg_tup hc hg hn hst) hs hw h1) fun D σ H h => by
    obtain ⟨N0, ρ, rs, q⟩ := h
    unfold sAsgM at q
    refine (seA rs q).mono fun vs H1 ⟨s, r1, ds, _, rp, q1⟩ => ?_
    cases h3 : as ds ρ with
    | error er =>
      rw [h3] at q1
      exact q1.elim
    | ok ρ' =>
      rw [h3] at q1
      have hlen := hln ds ρ ρ' h3
      refine ⟨by rw [rp.length, hlen, sizeLine_eq]; omega, fun P hP => ⟨P, vs, rfl, .of upd_same, by rw [rp.length]; exact hlen, N0, ρ, ds, r1.same (same_new hP), rp.same (same_new hP), ?_⟩⟩
      rw [h3]
      exact fun σ' H' r' st' => q1 σ' H' r' ((Stp.same (same_new hP)).trans st')
theorem aCons_n {ag : D → Rho → R Rho} {as : List D → Rho → R Rho} {n : Nat} (h : ∀ ds ρ ρ', as ds ρ = .ok ρ' → ds.length = n) : ∀ ds ρ ρ', aCons ag as ds ρ = .ok ρ' → ds.length = n + 1 := fun ds ρ ρ' e => by
  cases ds with
  | nil => cases e
  | cons d ds =>
    have e' : (ag d ρ >>= as ds) = .ok ρ' := e
    cases h3 : ag d ρ with
    | error er => rw [h3] at e'; cases e'
    | ok ρ1 =>
      rw [h3] at e'
      exact congrArg (· + 1) (h ds ρ1 ρ' e')
theorem aNil_n : ∀ ds ρ ρ', aNil ds ρ = .ok ρ' → ds.length = 0 := fun ds ρ ρ' e => by
  cases ds with
  | nil => rfl
  | cons d ds => cases e
end
end PF

set_option Elab.async false
set_option linter.all false
set_option maxRecDepth 100000
/-! PF 9: what the top has left, the law's end. -/
namespace PF
open PySem PySem.Spec PyProof.Rows L2
def FU : Nat := 1000000000000000000
/-- a def of the text's top -/
structure DefF (K : PySem.W.Frag) (mg : Str → Option Value) (x : Str) (st : Stmt) (ps : List Str) where
  f : Addr
  fd : FuncData
  F : Fun K x x st f fd
  b : Binds K fd ps []
  g : mg x = some (.ref f)
section
variable {K : PySem.W.Frag} {h : Heap} {mg : Str → Option Value}
def defF_mk {x : Str} {st : Stmt} {ps : List Str} {f : Addr} {oc : Value} {od an : Option Addr} {osl : Array (Option Value)} {kV doc pm cdv ct : Value} (X : K.In h) (G : h.Ns mainGlobals mg) (a : PySem.W.nsIn K mainGlobals x = some (some (.ref f)))
    (l : K.lookup f = some ⟨oc, od, .func (PySem.W.fnOf x x (defArgs st) (defBody st) (defScope st) .none kV doc pm an cdv ct), osl⟩) (c : PySem.W.codeIn K cdv x = true) (k : PySem.W.keepIn K (.ref f) = true)
    (hb : ∀ (kV doc pm : Value) (an : Option Addr) (cdv ct : Value) (us : List Value), us.length = ps.length → bindArgs (PySem.W.fnOf x x (defArgs st) (defBody st) (defScope st) .none kV doc pm an cdv ct) ⟨us, []⟩ = pure (ps.zip us)) : DefF K mg x st ps :=
  ⟨f, _, fun_mk (st := st) l c k, (fun_mk (st := st) l c k).binds (ps := ps) hb, PySem.W.mg_of X G a⟩
/-- what is wanted of the law -/
def spL (K : PySem.W.Frag) : Sp := fun vs H Q _ => ∃ (a : Addr) (ns : List Int), vs = [.ref a] ∧ SqL K H a (ns.map V.int) ∧ ns.length ≤ 63 ∧ ∀ H', Q (.bl true) H'
theorem reps_ints {K : PySem.W.Frag} {C : CT} {N : Ad} {H : Hp} : ∀ ns : List Int, Reps K C N H (ns.map V.int) (ns.map D.int)
  | [] => .nil
  | n :: ns => .cons (.int n) (reps_ints ns)
theorem law_imp {P : Program} {w : World} {C : CT} {base : Heap} {k : Nat} {f : Addr} {fd : FuncData} {ps : List Str} {m : List D → R D} (F : FnOk P w K mg base (L2.CX P w) k f fd ps (spD K C 1 m)) (hm : ∀ ns : List Int, ns.length ≤ 63 → m [.klst (ns.map D.int)] = .ok (.bl true)) :
    FnOk P w K mg base (L2.CX P w) k f fd ps (spL K) :=
  F.imp fun vs H Q E h => by
    obtain ⟨a, ns, rfl, hS, hl, q⟩ := h
    refine ⟨rfl, fun _ => False, [.klst (ns.map D.int)], (fun _ z => z.elim), .cons (.klst (hS.elim (fun z => .inl ⟨z, fun z => z⟩) fun z => .inr (.inr z)) (reps_ints ns)) .nil, ?_⟩
    rw [hm ns hl]
    intro v H' s r
    cases r
    exact q H'
theorem cx_end {P : Program} {w : World} {H : Hp} {s : Shared} {e : Value} {s' : Shared} (h : L2.CX P w [] H s (fun _ _ _ => False) e s') : False := by
  obtain ⟨_, _, _, _, _, _, _, _, _, _, _, _, z⟩ := h
  exact z
end
section
variable {X : Cx} {T : CT}
theorem o_mul : Op2 X T (binaryOp .Mult) mulD := by
  refine weakO (OpR.or op_mulA op_rep) fun x y H Q h => ?_
  obtain ⟨N, dx, dy, d, dom, rx, ry, e, q⟩ := h
  cases rx <;> cases ry <;> first
    | (cases e; done)
    | skip
  · rename_i i j
    have e' : (if mulOk i j then some (D.int (i * j)) else none) = some d := e
    split at e'
    · cases e'
      exact .inl ⟨_, _, rfl, rfl, by assumption, fin1 q (.int _)⟩
    · cases e'
  · rename_i a va da ha na ra k
    have e' : (if decide (0 ≤ k) && small (da.length * k.toNat) && small k.toNat then some (D.lst (List.replicate k.toNat da).flatten) else none) = some d := e
    split at e'
    · rename_i hb
      rw [Bool.and_eq_true, Bool.and_eq_true, decide_eq_true_eq] at hb
      cases e'
      refine .inr ⟨a, k, va, rfl, rfl, ha, by omega, by have := small_line hb.2; unfold small at hb; simp at hb; omega, by rw [ra.length]; exact small_line hb.1.2, fun p hp => ?_⟩
      exact new_lst dom hp (ra.flatten _) q
    · cases e'
end
section
variable {P : Program} {w : World} {K : PySem.W.Frag} {T : CT} {mg : Str → Option Value} {base : Heap} {x qual : Str} {st : Stmt} {f : Addr} {fd : FuncData} {k : Nat}
theorem fnDN {N ps : List Str} {fb : ES} {n : Nat} {m : List D → R D} (F : Fun K x qual st f fd) (S : FnScope N ps (defScope st)) (hn : ps.length = n) (hm : m = dDef N.length fb)
    (hbody : ∀ (cdv : Value) (A : Around) (outer : List Env) (s : Shared) (H : Hp) (E : XK), Room k (A.deeper (envOfC qual (defScope st) s.heap.objs.size f cdv)) →
      PSs (cxOf (L2.CX P w) P w K mg base N qual (defScope st) f cdv A outer s H E) (defBody st) (tS rkV K T (fun c d _ H => E c d H) fb)) :
    FnOk P w K mg base (L2.CX P w) (k + 1) f fd ps (spD K T n m) := by
  subst hn
  subst hm
  exact fnD F S hbody
end
/-! ### what the built-in names stand for -/
theorem bt_len : bootBuiltins "len" = some (.builtin "len") := by decide +kernel
theorem bt_abs : bootBuiltins "abs" = some (.builtin "abs") := by decide +kernel
theorem bt_max : bootBuiltins "max" = some (.builtin "max") := by decide +kernel
theorem bt_min : bootBuiltins "min" = some (.builtin "min") := by decide +kernel
theorem bt_sum : bootBuiltins "sum" = some (.builtin "sum") := by decide +kernel
theorem bt_any : bootBuiltins "any" = some (.builtin "any") := by decide +kernel
theorem bt_all : bootBuiltins "all" = some (.builtin "all") := by decide +kernel
theorem bt_int : bootBuiltins "int" = some (.type "int") := by decide +kernel
theorem bt_list : bootBuiltins "list" = some (.type "list") := by decide +kernel
theorem bt_tuple : bootBuiltins "tuple" = some (.type "tuple") := by decide +kernel
theorem bt_bool : bootBuiltins "bool" = some (.type "bool") := by decide +kernel
theorem bt_str : bootBuiltins "str" = some (.type "str") := by decide +kernel
end PF

set_option Elab.async false
set_option linter.all false
set_option maxRecDepth 100000
/-! PF 10: reckoning with meanings. -/
namespace PF
open PySem PySem.Spec PyProof.Rows L2
theorem forL_inv {asg : D → Rho → R Rho} {f : ES} (I : List D → Rho → Prop) : ∀ (ds : List D) (ρ : Rho), I ds ρ →
    (∀ d ds ρ, I (d :: ds) ρ → ∃ ρ', (noX (asg d ρ) >>= f) = .ok (.nx, ρ') ∧ I ds ρ') → ∃ ρ', forL asg f ds ρ = .ok (.nx, ρ') ∧ I [] ρ'
  | [], ρ, h, _ => ⟨ρ, rfl, h⟩
  | d :: ds, ρ, h, hs => by
    obtain ⟨ρ1, h1, h2⟩ := hs d ds ρ h
    obtain ⟨ρ2, h3, h4⟩ := forL_inv I ds ρ1 h2 hs
    refine ⟨ρ2, ?_, h4⟩
    cases h5 : noX (asg d ρ) with
    | error e => rw [h5] at h1; cases h1
    | ok ρ3 =>
      rw [h5, bind_ok] at h1
      rw [forL, h5, bind_ok, h1, bind_ok]
      exact h3
/-- a walk that may give its answer early -/
theorem forL_or {asg : D → Rho → R Rho} {f : ES} (I : List D → Rho → Prop) (Q : D → Prop) : ∀ (ds : List D) (ρ : Rho), I ds ρ →
    (∀ d ds ρ, I (d :: ds) ρ → (∃ ρ', (noX (asg d ρ) >>= f) = .ok (.nx, ρ') ∧ I ds ρ') ∨ ∃ x ρ', (noX (asg d ρ) >>= f) = .ok (.rt x, ρ') ∧ Q x) →
    (∃ ρ', forL asg f ds ρ = .ok (.nx, ρ') ∧ I [] ρ') ∨ ∃ x ρ', forL asg f ds ρ = .ok (.rt x, ρ') ∧ Q x
  | [], ρ, h, _ => .inl ⟨ρ, rfl, h⟩
  | d :: ds, ρ, h, hs => by
    cases h5 : noX (asg d ρ) with
    | error e => rcases hs d ds ρ h with ⟨ρ1, h1, h2⟩ | ⟨x, ρ1, h1, h2⟩ <;> rw [h5] at h1 <;> cases h1
    | ok ρ3 =>
      rcases hs d ds ρ h with ⟨ρ1, h1, h2⟩ | ⟨x, ρ1, h1, h2⟩
      · rw [h5, bind_ok] at h1
        rw [forL, h5, bind_ok, h1, bind_ok]
        exact forL_or I Q ds ρ1 h2 hs
      · rw [h5, bind_ok] at h1
        rw [forL, h5, bind_ok, h1, bind_ok]
        exact .inr ⟨x, ρ1, rfl, h2⟩
theorem compL_map {asg : D → Rho → R Rho} {elt : EE} {ρ : Rho} {g : D → D} : ∀ (ds : List D), (∀ d ∈ ds, (asg d ρ >>= elt) = .ok (g d)) → compL asg tTrue elt ρ ds = .ok (ds.map g)
  | [], _ => rfl
  | d :: ds, h => by
    have h1 := h d (List.mem_cons_self ..)
    have h2 := compL_map ds (fun x hx => h x (List.mem_cons_of_mem _ hx))
    cases h3 : asg d ρ with
    | error e => rw [h3] at h1; cases h1
    | ok ρ1 =>
      rw [h3, bind_ok] at h1
      rw [compL, h3, bind_ok]
      show (Except.ok true >>= _) = _
      rw [bind_ok, if_pos rfl, h1, bind_ok, h2]
      rfl
theorem compL_ints {asg : D → Rho → R Rho} {elt : EE} {ρ : Rho} {g : Int → D} (xs : List Int) (h : ∀ x ∈ xs, (asg (.int x) ρ >>= elt) = .ok (g x)) : compL asg tTrue elt ρ (xs.map D.int) = .ok (xs.map g) := by
  rw [compL_map (g := fun d => match d with | .int x => g x | _ => d) _ fun d hd => ?_]
  · rw [List.map_map]; rfl
  · obtain ⟨x, hx, rfl⟩ := List.mem_map.mp hd
    exact h x hx
theorem compL_of {α : Type} {asg : D → Rho → R Rho} {elt : EE} {ρ : Rho} {e : α → D} {g : α → D} : ∀ (xs : List α), (∀ x ∈ xs, (asg (e x) ρ >>= elt) = .ok (g x)) → compL asg tTrue elt ρ (xs.map e) = .ok (xs.map g)
  | [], _ => rfl
  | x :: xs, h => by
    have h1 := h x (List.mem_cons_self ..)
    have h2 := compL_of xs (fun x hx => h x (List.mem_cons_of_mem _ hx))
    cases h3 : asg (e x) ρ with
    | error e => rw [h3] at h1; cases h1
    | ok ρ1 =>
      rw [h3, bind_ok] at h1
      rw [List.map_cons, compL, h3, bind_ok]
      show (Except.ok true >>= _) = _
      rw [bind_ok, if_pos rfl, h1, bind_ok, h2]
      rfl
theorem mulOk_r {i j : Int} (h : -(2 ^ 64) < j ∧ j < 2 ^ 64) : mulOk i j = true := by
  unfold mulOk
  rw [Bool.or_eq_true, Bool.or_eq_true]
  exact .inl (.inr (decide_eq_true h))
theorem mulOk_l {i j : Int} (h : -(2 ^ 64) < i ∧ i < 2 ^ 64) : mulOk i j = true := by
  unfold mulOk
  rw [Bool.or_eq_true, Bool.or_eq_true]
  exact .inl (.inl (decide_eq_true h))
theorem mulOk_w {i j : Int} (h : i.natAbs.log2 + j.natAbs.log2 < 1000000) : mulOk i j = true := by
  unfold mulOk
  rw [Bool.or_eq_true]
  exact .inr (decide_eq_true h)
theorem mulD_r {i j : Int} (h : -(2 ^ 64) < j ∧ j < 2 ^ 64) : mulD (.int i) (.int j) = some (.int (i * j)) := by rw [mulD, if_pos (mulOk_r h)]
theorem mulD_l {i j : Int} (h : -(2 ^ 64) < i ∧ i < 2 ^ 64) : mulD (.int i) (.int j) = some (.int (i * j)) := by rw [mulD, if_pos (mulOk_l h)]
theorem mulD_w {i j : Int} (h : i.natAbs.log2 + j.natAbs.log2 < 1000000) : mulD (.int i) (.int j) = some (.int (i * j)) := by rw [mulD, if_pos (mulOk_w h)]
theorem ixN_nat {n k : Nat} (h : k < n) : ixN n (k : Int) = some k := by
  unfold ixN
  split <;> simp_all <;> omega
theorem atI_nat {α : Type} {ds : List α} {k : Nat} (h : k < ds.length) : atI ds (k : Int) = some ds[k] := by
  unfold atI
  rw [ixN_nat h, Option.bind_some, List.getElem?_eq_getElem h]
theorem atI_map {α β : Type} {xs : List α} {e : α → β} {k : Nat} (h : k < xs.length) : atI (xs.map e) (k : Int) = some (e xs[k]) := by
  rw [atI_nat (by simpa using h), List.getElem_map]
theorem atI_pos {α β : Type} {xs : List α} {e : α → β} {k : Int} (h0 : 0 ≤ k) (h : k < xs.length) : atI (xs.map e) k = some (e (xs[k.toNat]'(by omega))) := by
  have := atI_map (e := e) (k := k.toNat) (xs := xs) (by omega)
  rwa [Int.toNat_of_nonneg h0] at this
theorem rg_ints (lo : Int) (n : Nat) : ∀ d ∈ rgD lo n, ∃ k : Nat, k < n ∧ d = .int (lo + k) := fun d hd => by
  unfold rgD at hd
  obtain ⟨k, h1, rfl⟩ := List.mem_map.mp hd
  exact ⟨k, List.mem_range.mp h1, rfl⟩
theorem rg_len (lo : Int) (n : Nat) : (rgD lo n).length = n := by unfold rgD; simp
theorem rg_eq (n : Nat) : rgD 0 n = (List.range n).map fun i => D.int (i : Nat) := by
  unfold rgD; simp
theorem range1_nat {n : Nat} (h : n < 2 ^ 62) : rangeD1 [.int (n : Int)] = some (rgD 0 n) := by
  have : bnd (n : Int) = true := by unfold bnd; exact decide_eq_true (by omega)
  rw [rangeD1, if_pos this]; rfl
theorem bnd_of {i : Int} (h : -(2 ^ 62) ≤ i ∧ i < 2 ^ 62) : bnd i = true := by unfold bnd; exact decide_eq_true h
theorem small_of {n : Nat} (h : n ≤ 16777216) : small n = true := by unfold small; exact decide_eq_true h
theorem divD_of {i j : Int} (h : j ≠ 0) (h2 : j.natAbs.log2 < 9000) : divD (.int i) (.int j) = some (.int (i.fdiv j)) := by
  have : divOk j = true := by unfold divOk; exact decide_eq_true ⟨h, h2⟩
  rw [divD, if_pos this]
theorem modD_of {i j : Int} (h : j ≠ 0) : modD (.int i) (.int j) = some (.int (i.fmod j)) := by
  rw [modD, if_pos (decide_eq_true h)]
theorem fmod_rng (i : Int) {j : Int} (h : 0 < j) : 0 ≤ i.fmod j ∧ i.fmod j < j := ⟨Int.fmod_nonneg_of_pos i h, Int.fmod_lt_of_pos i h⟩
@[simp] theorem eV_s (i : Nat) (ρ : Rho) : eV i ρ = (match ρ[i]? with | some (.val d) => .ok d | _ => .error none) := Eq.trans rfl rfl
@[simp] theorem eK_s (d : D) (ρ : Rho) : eK d ρ = (.ok d) := Eq.trans rfl rfl
@[simp] theorem e1_s (g : D → Option D) (a : EE) (ρ : Rho) : e1 g a ρ = (a ρ >>= fun x => orS (g x)) := Eq.trans rfl rfl
@[simp] theorem e2_s (g : D → D → Option D) (a b : EE) (ρ : Rho) : e2 g a b ρ = (a ρ >>= fun x => b ρ >>= fun y => orS (g x y)) := Eq.trans rfl rfl
@[simp] theorem c2_s (g : D → D → Option Bool) (a b : EE) (ρ : Rho) : c2 g a b ρ = (a ρ >>= fun x => b ρ >>= fun y => orS (g x y)) := Eq.trans rfl rfl
@[simp] theorem eC2_s (g : D → D → Option Bool) (a b : EE) (ρ : Rho) : eC2 g a b ρ = (a ρ >>= fun x => b ρ >>= fun y => orS ((g x y).map D.bl)) := Eq.trans rfl rfl
@[simp] theorem lNil_s (ρ : Rho) : lNil ρ = (.ok []) := Eq.trans rfl rfl
@[simp] theorem lCons_s (a : EE) (l : EL) (ρ : Rho) : lCons a l ρ = (a ρ >>= fun x => l ρ >>= fun xs => .ok (x :: xs)) := Eq.trans rfl rfl
@[simp] theorem eIsN_s (a : EE) (ρ : Rho) : eIsN a ρ = (a ρ >>= fun x => .ok (isNon x)) := Eq.trans rfl rfl
@[simp] theorem eNotN_s (a : EE) (ρ : Rho) : eNotN a ρ = (a ρ >>= fun x => .ok (!isNon x)) := Eq.trans rfl rfl
@[simp] theorem eB_s (c : ET) (ρ : Rho) : eB c ρ = (c ρ >>= fun b => .ok (.bl b)) := Eq.trans rfl rfl
@[simp] theorem tTru_s (a : EE) (ρ : Rho) : tTru a ρ = (a ρ >>= fun x => orS (truth x)) := Eq.trans rfl rfl
@[simp] theorem tAndp_s (a b : ET) (ρ : Rho) : tAnd' a b ρ = (a ρ >>= fun k => if k then b ρ else .ok false) := Eq.trans rfl rfl
@[simp] theorem tOrp_s (a b : ET) (ρ : Rho) : tOr' a b ρ = (a ρ >>= fun k => if k then .ok true else b ρ) := Eq.trans rfl rfl
@[simp] theorem tNotp_s (a : ET) (ρ : Rho) : tNot' a ρ = (a ρ >>= fun k => .ok (!k)) := Eq.trans rfl rfl
@[simp] theorem eIf_s (c : ET) (a b : EE) (ρ : Rho) : eIf c a b ρ = (c ρ >>= fun k => if k then a ρ else b ρ) := Eq.trans rfl rfl
@[simp] theorem eAnd_s (a b : EE) (ρ : Rho) : eAnd a b ρ = (a ρ >>= fun x => orS (truth x) >>= fun k => if k then b ρ else .ok x) := Eq.trans rfl rfl
@[simp] theorem eOr_s (a b : EE) (ρ : Rho) : eOr a b ρ = (a ρ >>= fun x => orS (truth x) >>= fun k => if k then .ok x else b ρ) := Eq.trans rfl rfl
@[simp] theorem eNot_s (a : EE) (ρ : Rho) : eNot a ρ = (a ρ >>= fun x => orS (truth x) >>= fun k => .ok (.bl (!k))) := Eq.trans rfl rfl
@[simp] theorem eTup_s (l : EL) (ρ : Rho) : eTup l ρ = (l ρ >>= fun ds => if small ds.length then .ok (.tup ds) else .error none) := Eq.trans rfl rfl
@[simp] theorem eCall_s (n : Nat) (F : List D → R D) (l : EL) (ρ : Rho) : eCall n F l ρ = (l ρ >>= fun ds => if ds.length = n then F ds else .error none) := Eq.trans rfl rfl
@[simp] theorem eC_s (g : List D → Option D) (l : EL) (ρ : Rho) : eC g l ρ = (l ρ >>= fun ds => orS (g ds)) := Eq.trans rfl rfl
@[simp] theorem eNew_s (l : EL) (ρ : Rho) : eNew l ρ = (l ρ >>= fun ds => .ok (.lst ds)) := Eq.trans rfl rfl
@[simp] theorem nLst_s (l : EL) (ρ : Rho) : nLst l ρ = (l ρ >>= fun ds => if small ds.length then .ok ds else .error none) := Eq.trans rfl rfl
@[simp] theorem n2_s (g : D → D → Option (List D)) (a b : EE) (ρ : Rho) : n2 g a b ρ = (a ρ >>= fun x => b ρ >>= fun y => orS (g x y)) := Eq.trans rfl rfl
@[simp] theorem nC_s (g : List D → Option (List D)) (l : EL) (ρ : Rho) : nC g l ρ = (l ρ >>= fun ds => orS (g ds)) := Eq.trans rfl rfl
@[simp] theorem iSeq_s (a : EE) (ρ : Rho) : iSeq a ρ = (a ρ >>= fun d => orS (iterD d)) := Eq.trans rfl rfl
@[simp] theorem iCall_s (g : List D → Option (List D)) (l : EL) (ρ : Rho) : iCall g l ρ = (l ρ >>= fun ds => orS (g ds)) := Eq.trans rfl rfl
@[simp] theorem nComp_s (it : EL) (asg : D → Rho → R Rho) (tst : ET) (elt : EE) (vs : List Nat) (ρ : Rho) : nComp it asg tst elt vs ρ = (it ρ >>= fun ds => if okW ρ vs then noX (compL asg tst elt (wipeR ρ vs) ds) >>= fun out => if small out.length then .ok out else .error none else .error none) := Eq.trans rfl rfl
@[simp] theorem aName_s (i : Nat) (d : D) (ρ : Rho) : aName i d ρ = (.ok (ρ.set i (.val d))) := Eq.trans rfl rfl
@[simp] theorem sNil_s (ρ : Rho) : sNil ρ = (.ok (.nx, ρ)) := Eq.trans rfl rfl
@[simp] theorem sBrk_s (ρ : Rho) : sBrk ρ = (.ok (.bk, ρ)) := Eq.trans rfl rfl
@[simp] theorem sCnt_s (ρ : Rho) : sCnt ρ = (.ok (.ct, ρ)) := Eq.trans rfl rfl
@[simp] theorem sSeq_s (f g : ES) (ρ : Rho) : sSeq f g ρ = (f ρ >>= fun o => match o.1 with | .nx => g o.2 | _ => .ok o) := Eq.trans rfl rfl
@[simp] theorem sRet_s (a : EE) (ρ : Rho) : sRet a ρ = (a ρ >>= fun d => .ok (.rt d, ρ)) := Eq.trans rfl rfl
@[simp] theorem sRetN_s (ρ : Rho) : sRetN ρ = (.ok (.rt .non, ρ)) := Eq.trans rfl rfl
@[simp] theorem sDrop_s (a : EE) (ρ : Rho) : sDrop a ρ = (a ρ >>= fun _ => .ok (.nx, ρ)) := Eq.trans rfl rfl
@[simp] theorem sSet_s (i : Nat) (a : EE) (ρ : Rho) : sSet i a ρ = (a ρ >>= fun d => .ok (.nx, ρ.set i (.val d))) := Eq.trans rfl rfl
@[simp] theorem sSetN_s (i : Nat) (a : EL) (ρ : Rho) : sSetN i a ρ = (a ρ >>= fun ds => .ok (.nx, ρ.set i (.own ds))) := Eq.trans rfl rfl
@[simp] theorem sAsg_s (asg : D → Rho → R Rho) (a : EE) (ρ : Rho) : sAsg asg a ρ = (a ρ >>= fun d => noX (asg d ρ) >>= fun ρ' => .ok (.nx, ρ')) := Eq.trans rfl rfl
@[simp] theorem sIf_s (c : ET) (f g : ES) (ρ : Rho) : sIf c f g ρ = (c ρ >>= fun b => if b then f ρ else g ρ) := Eq.trans rfl rfl
@[simp] theorem sFor_s (it : EL) (asg : D → Rho → R Rho) (f : ES) (ρ : Rho) : sFor it asg f ρ = (it ρ >>= fun ds => forL asg f ds ρ) := Eq.trans rfl rfl
@[simp] theorem sFrz_s (i : Nat) (f : ES) (ρ : Rho) : sFrz i f ρ = (f (frzAt ρ i)) := Eq.trans rfl rfl
@[simp] theorem sAsgM_s (as : List D → Rho → R Rho) (l : EL) (ρ : Rho) : sAsgM as l ρ = (l ρ >>= fun ds => noX (as ds ρ) >>= fun ρ' => .ok (.nx, ρ')) := Eq.trans rfl rfl
@[simp] theorem aNil_s (ρ : Rho) : aNil [] ρ = .ok ρ := Eq.trans rfl rfl
@[simp] theorem aCons_s (a : D → Rho → R Rho) (as : List D → Rho → R Rho) (d : D) (ds : List D) (ρ : Rho) : aCons a as (d :: ds) ρ = (a d ρ >>= as ds) := Eq.trans rfl rfl
@[simp] theorem aTup_s (as : List D → Rho → R Rho) (ds : List D) (ρ : Rho) : aTup as (.tup ds) ρ = as ds ρ := Eq.trans rfl rfl
@[simp] theorem dDef_s (n : Nat) (f : ES) (ds : List D) : dDef n f ds = (f (ds.map .val ++ List.replicate (n - ds.length) .un) >>= fun o => match o.1 with | .rt d => .ok d | .nx => .ok .non | _ => .error none) := Eq.trans rfl rfl
@[simp] theorem addD_ii (i j : Int) : addD (.int i) (.int j) = some (.int (i + j)) := Eq.trans rfl rfl
@[simp] theorem subD_ii (i j : Int) : subD (.int i) (.int j) = some (.int (i - j)) := Eq.trans rfl rfl
@[simp] theorem negD_i (i : Int) : negD (.int i) = some (.int (-i)) := Eq.trans rfl rfl
@[simp] theorem cmpD_ii (f : Int → Int → Bool) (i j : Int) : cmpD f (.int i) (.int j) = some (f i j) := Eq.trans rfl rfl
@[simp] theorem intD_i (i : Int) : PF.intD [.int i] = some (.int i) := Eq.trans rfl rfl
@[simp] theorem intD_b (b : Bool) : PF.intD [.bl b] = some (.int (if b then 1 else 0)) := Eq.trans rfl rfl
@[simp] theorem lenD_t (ds : List D) : lenD [.tup ds] = some (.int ds.length) := Eq.trans rfl rfl
@[simp] theorem lenD_l (ds : List D) : lenD [.lst ds] = some (.int ds.length) := Eq.trans rfl rfl
@[simp] theorem lenD_k (ds : List D) : lenD [.klst ds] = some (.int ds.length) := Eq.trans rfl rfl
@[simp] theorem truth_b (b : Bool) : truth (.bl b) = some b := Eq.trans rfl rfl
@[simp] theorem iterD_t (ds : List D) : iterD (.tup ds) = some ds := Eq.trans rfl rfl
@[simp] theorem iterD_l (ds : List D) : iterD (.lst ds) = some ds := Eq.trans rfl rfl
@[simp] theorem iterD_k (ds : List D) : iterD (.klst ds) = some ds := Eq.trans rfl rfl
@[simp] theorem seqN_t (ds : List D) : seqN [.tup ds] = some ds := Eq.trans rfl rfl
@[simp] theorem seqN_l (ds : List D) : seqN [.lst ds] = some ds := Eq.trans rfl rfl
@[simp] theorem seqN_k (ds : List D) : seqN [.klst ds] = some ds := Eq.trans rfl rfl
@[simp] theorem tupleD_t (ds : List D) : tupleD [.tup ds] = some (.tup ds) := Eq.trans rfl rfl
@[simp] theorem tupleD_l (ds : List D) : tupleD [.lst ds] = some (.tup ds) := Eq.trans rfl rfl
@[simp] theorem tupleD_k (ds : List D) : tupleD [.klst ds] = some (.tup ds) := Eq.trans rfl rfl
@[simp] theorem listD_t (ds : List D) : listD [.tup ds] = some (.lst ds) := Eq.trans rfl rfl
@[simp] theorem listD_l (ds : List D) : listD [.lst ds] = some (.lst ds) := Eq.trans rfl rfl
@[simp] theorem listD_k (ds : List D) : listD [.klst ds] = some (.lst ds) := Eq.trans rfl rfl
@[simp] theorem ixD_t (ds : List D) (i : Int) : ixD (.tup ds) (.int i) = atI ds i := Eq.trans rfl rfl
@[simp] theorem ixD_l (ds : List D) (i : Int) : ixD (.lst ds) (.int i) = atI ds i := Eq.trans rfl rfl
@[simp] theorem ixD_k (ds : List D) (i : Int) : ixD (.klst ds) (.int i) = atI ds i := Eq.trans rfl rfl
@[simp] theorem isNon_n : isNon .non = true := Eq.trans rfl rfl
@[simp] theorem isNon_i (i : Int) : isNon (.int i) = false := Eq.trans rfl rfl
@[simp] theorem isNon_t (ds : List D) : isNon (.tup ds) = false := Eq.trans rfl rfl
@[simp] theorem eqD_ii (i j : Int) : eqD (.int i) (.int j) = some (i == j) := Eq.trans rfl rfl
@[simp] theorem neD_ii (i j : Int) : neD (.int i) (.int j) = some (!(i == j)) := Eq.trans rfl rfl
@[simp] theorem eqD_bb (i j : Bool) : eqD (.bl i) (.bl j) = some (i == j) := Eq.trans rfl rfl
@[simp] theorem catN_ll (a b : List D) : catN (.lst a) (.lst b) = if small (a.length + b.length) then some (a ++ b) else none := Eq.trans rfl rfl
theorem forL_nil (asg : D → Rho → R Rho) (f : ES) (ρ : Rho) : forL asg f [] ρ = .ok (.nx, ρ) := rfl
theorem log_of {n k : Nat} (h : n < 2 ^ k) (h0 : 0 < k) : n.log2 < k := by
  by_cases e : n = 0
  · subst e; rw [Nat.log2_zero]; exact h0
  · exact (Nat.log2_lt e).mpr h
theorem divD_c (i : Int) {j : Int} (h : 0 < j) (h2 : j < 18446744073709551616) : divD (.int i) (.int j) = some (.int (i.fdiv j)) :=
  divD_of (by omega) (Nat.lt_of_lt_of_le (log_of (k := 64) (by omega) (by omega)) (by omega))
theorem mulD_k (i : Int) {j : Int} (h : -18446744073709551616 < j) (h2 : j < 18446744073709551616) : mulD (.int i) (.int j) = some (.int (i * j)) := mulD_r ⟨by omega, by omega⟩

@[simp] theorem pow10_18 : powD (.int 10) (.int 18) = some (.int 1000000000000000000) := Eq.trans rfl rfl
@[simp] theorem pow10_9 : powD (.int 10) (.int 9) = some (.int 1000000000) := Eq.trans rfl rfl
@[simp] theorem pow10_12 : powD (.int 10) (.int 12) = some (.int 1000000000000) := Eq.trans rfl rfl
@[simp] theorem pow10_6 : powD (.int 10) (.int 6) = some (.int 1000000) := Eq.trans rfl rfl
@[simp] theorem pow10_30 : powD (.int 10) (.int 30) = some (.int 1000000000000000000000000000000) := Eq.trans rfl rfl

@[simp] theorem small_0 : small 0 = true := Eq.trans rfl rfl
@[simp] theorem small_1 : small 1 = true := Eq.trans rfl rfl
@[simp] theorem small_2 : small 2 = true := Eq.trans rfl rfl
@[simp] theorem small_3 : small 3 = true := Eq.trans rfl rfl
@[simp] theorem small_4 : small 4 = true := Eq.trans rfl rfl
@[simp] theorem small_5 : small 5 = true := Eq.trans rfl rfl
theorem forL_idx {asg : D → Rho → R Rho} {f : ES} (I : Nat → Rho → Prop) (ds : List D) (ρ : Rho) (h0 : I 0 ρ)
    (hs : ∀ (i : Nat) (h : i < ds.length) (ρ : Rho), I i ρ → ∃ ρ', (noX (asg ds[i] ρ) >>= f) = .ok (.nx, ρ') ∧ I (i + 1) ρ') : ∃ ρ', forL asg f ds ρ = .ok (.nx, ρ') ∧ I ds.length ρ' := by
  obtain ⟨ρ', h1, i, h2, h3, h4⟩ := forL_inv (asg := asg) (f := f) (fun rest ρ => ∃ i, i ≤ ds.length ∧ rest = ds.drop i ∧ I i ρ) ds ρ ⟨0, by omega, rfl, h0⟩ (by
    rintro d rest ρ ⟨i, h1, h2, h3⟩
    have hi : i < ds.length := by
      by_cases z : i < ds.length
      · exact z
      · rw [List.drop_eq_nil_of_le (by omega)] at h2; cases h2
    rw [List.drop_eq_getElem_cons hi] at h2
    cases h2
    obtain ⟨ρ', e, h4⟩ := hs i hi ρ h3
    exact ⟨ρ', e, i + 1, hi, rfl, h4⟩)
  have : ds.length ≤ i := by
    have := congrArg List.length h3
    rw [List.length_drop] at this
    simp at this; omega
  obtain rfl : i = ds.length := by omega
  exact ⟨ρ', h1, h4⟩
theorem forL_idxr {asg : D → Rho → R Rho} {f : ES} (I : Nat → Rho → Prop) (Q : D → Prop) (ds : List D) (ρ : Rho) (h0 : I 0 ρ)
    (hs : ∀ (i : Nat) (h : i < ds.length) (ρ : Rho), I i ρ → (∃ ρ', (noX (asg ds[i] ρ) >>= f) = .ok (.nx, ρ') ∧ I (i + 1) ρ') ∨ ∃ x ρ', (noX (asg ds[i] ρ) >>= f) = .ok (.rt x, ρ') ∧ Q x) :
    (∃ ρ', forL asg f ds ρ = .ok (.nx, ρ') ∧ I ds.length ρ') ∨ ∃ x ρ', forL asg f ds ρ = .ok (.rt x, ρ') ∧ Q x := by
  rcases forL_or (asg := asg) (f := f) (fun rest ρ => ∃ i, i ≤ ds.length ∧ rest = ds.drop i ∧ I i ρ) Q ds ρ ⟨0, by omega, rfl, h0⟩ (by
    rintro d rest ρ ⟨i, h1, h2, h3⟩
    have hi : i < ds.length := by
      by_cases z : i < ds.length
      · exact z
      · rw [List.drop_eq_nil_of_le (by omega)] at h2; cases h2
    rw [List.drop_eq_getElem_cons hi] at h2
    cases h2
    rcases hs i hi ρ h3 with ⟨ρ', e, h4⟩ | h
    · exact .inl ⟨ρ', e, i + 1, hi, rfl, h4⟩
    · exact .inr h) with ⟨ρ', h1, i, h2, h3, h4⟩ | h
  · have : ds.length ≤ i := by
      have := congrArg List.length h3
      rw [List.length_drop] at this
      simp at this; omega
    obtain rfl : i = ds.length := by omega
    exact .inl ⟨ρ', h1, h4⟩
  · exact .inr h
theorem enum_len : ∀ (n : Nat) (ds : List D), (enumGo n ds).length = ds.length
  | _, [] => rfl
  | n, d :: ds => by rw [enumGo, List.length_cons, enum_len, List.length_cons]
theorem enum_get : ∀ (n : Nat) (ds : List D) (i : Nat) (h : i < (enumGo n ds).length) (h' : i < ds.length), (enumGo n ds)[i] = .tup [.int ((n + i : Nat) : Int), ds[i]]
  | n, d :: ds, 0, _, _ => rfl
  | n, d :: ds, i + 1, h, h' => by
    have := enum_get (n + 1) ds i (by simpa [enumGo] using h) (by simpa using h')
    simp only [enumGo, List.getElem_cons_succ]
    rw [this, show n + 1 + i = n + (i + 1) by omega]
theorem atI_getD {α β : Type} {xs : List α} {e : α → β} {k : Nat} (x0 : α) (h : k < xs.length) : atI (xs.map e) (k : Int) = some (e (xs.getD k x0)) := by
  rw [atI_map h, List.getD_eq_getElem?_getD, List.getElem?_eq_getElem h]; rfl
@[simp] theorem enumD_l (ds : List D) : enumD [.lst ds] = some (enumGo 0 ds) := Eq.trans rfl rfl
theorem zip_get {as bs : List D} {i : Nat} (h : i < (List.zipWith (fun x y => D.tup [x, y]) as bs).length) (h1 : i < as.length) (h2 : i < bs.length) : (List.zipWith (fun x y => D.tup [x, y]) as bs)[i] = .tup [as[i], bs[i]] := by
  rw [List.getElem_zipWith]
@[simp] theorem zipD_l (as bs : List D) : zipD [.lst as, .lst bs] = some (List.zipWith (fun x y => .tup [x, y]) as bs) := Eq.trans rfl rfl
@[simp] theorem zipD_t (as bs : List D) : zipD [.tup as, .tup bs] = some (List.zipWith (fun x y => .tup [x, y]) as bs) := Eq.trans rfl rfl
/-- the item at a place -/
def at0 {α : Type} [Inhabited α] (xs : List α) (i : Nat) : α := xs.getD i default
theorem at0_get {α : Type} [Inhabited α] {xs : List α} {i : Nat} (h : i < xs.length) : xs[i] = at0 xs i := by
  unfold at0; rw [List.getD_eq_getElem?_getD, List.getElem?_eq_getElem h]; rfl
theorem at0_mem {α : Type} [Inhabited α] {xs : List α} {i : Nat} (h : i < xs.length) : at0 xs i ∈ xs := by
  rw [← at0_get h]; exact List.getElem_mem _
theorem at0_of_mem {α : Type} [Inhabited α] {xs : List α} {x : α} (h : x ∈ xs) : ∃ i, i < xs.length ∧ at0 xs i = x := by
  obtain ⟨i, h1, h2⟩ := List.mem_iff_getElem.mp h
  exact ⟨i, h1, by rw [← at0_get h1]; exact h2⟩
theorem atI_at0 {α β : Type} [Inhabited α] {xs : List α} {e : α → β} {k : Nat} (h : k < xs.length) : atI (xs.map e) (k : Int) = some (e (at0 xs k)) := atI_getD _ h
theorem at0_map {α β : Type} [Inhabited α] [Inhabited β] {xs : List α} {f : α → β} {k : Nat} (h : k < xs.length) : at0 (xs.map f) k = f (at0 xs k) := by
  rw [← at0_get (xs := xs.map f) (by simpa using h), ← at0_get h, List.getElem_map]
theorem at0_range {n k : Nat} (h : k < n) : at0 (List.range n) k = k := by
  rw [← at0_get (by simpa using h), List.getElem_range]
theorem at0_set_ne {α : Type} [Inhabited α] {xs : List α} {i k : Nat} {x : α} (h : k ≠ i) : at0 (xs.set i x) k = at0 xs k := by
  unfold at0; rw [List.getD_eq_getElem?_getD, List.getD_eq_getElem?_getD, List.getElem?_set_ne (by omega)]
theorem at0_set {α : Type} [Inhabited α] {xs : List α} {i : Nat} {x : α} (h : i < xs.length) : at0 (xs.set i x) i = x := by
  unfold at0; rw [List.getD_eq_getElem?_getD, List.getElem?_set_self h]; rfl
theorem ext_at0 {α : Type} [Inhabited α] {xs ys : List α} (h : xs.length = ys.length) (h2 : ∀ i, i < xs.length → at0 xs i = at0 ys i) : xs = ys := by
  apply List.ext_getElem h
  intro i a b
  rw [at0_get a, at0_get b]; exact h2 i a
theorem map_at0 {α β : Type} [Inhabited α] (xs : List α) (f : α → β) : xs.map f = (List.range xs.length).map fun i => f (at0 xs i) := by
  apply List.ext_getElem (by simp)
  intro i a b
  simp only [List.getElem_map, List.getElem_range]
  rw [at0_get]
theorem while_hist {σ : Type} {c : ET} {f : ES} (I : σ → Rho → Prop) (Step : σ → σ → Prop) (Start : σ → Prop) (Post : Fl × Rho → Prop) (K : Nat)
    (hb : ∀ (S : Nat → σ) (k : Nat), (∀ i, i < k → Step (S i) (S (i + 1))) → Start (S 0) → k < K)
    (hs : ∀ s ρ, I s ρ → (c ρ = .ok false ∧ Post (.nx, ρ)) ∨ (c ρ = .ok true ∧ ((∃ ρ' s', f ρ = .ok (.nx, ρ') ∧ I s' ρ' ∧ Step s s') ∨ ∃ d ρ', f ρ = .ok (.rt d, ρ') ∧ Post (.rt d, ρ')))) :
    ∀ (n : Nat) (S : Nat → σ) (k : Nat) (ρ : Rho), (∀ i, i < k → Step (S i) (S (i + 1))) → Start (S 0) → I (S k) ρ → K ≤ k + n → ∃ o, sWhile c f n ρ = .ok o ∧ Post o
  | 0, S, k, ρ, h1, h2, _, h4 => by have := hb S k h1 h2; omega
  | n + 1, S, k, ρ, h1, h2, h3, h4 => by
    rcases hs _ ρ h3 with ⟨e, p⟩ | ⟨e, ⟨ρ', s', e2, i2, st⟩ | ⟨d, ρ', e2, p⟩⟩
    · exact ⟨_, by show (c ρ >>= _) = _; rw [e, bind_ok]; rfl, p⟩
    · obtain ⟨o, h5, h6⟩ := while_hist I Step Start Post K hb hs n (fun i => if i ≤ k then S i else s') (k + 1) ρ' (fun i hi => by
        by_cases z : i < k
        · show Step (if i ≤ k then S i else s') (if i + 1 ≤ k then S (i + 1) else s')
          rw [if_pos (by omega), if_pos (by omega)]; exact h1 i z
        · obtain rfl : i = k := by omega
          show Step (if i ≤ i then S i else s') (if i + 1 ≤ i then S (i + 1) else s')
          rw [if_pos (by omega), if_neg (by omega)]; exact st) (by
          show Start (if 0 ≤ k then S 0 else s')
          rw [if_pos (by omega)]; exact h2) (by
          show I (if k + 1 ≤ k then S (k + 1) else s') ρ'
          rw [if_neg (by omega)]; exact i2) (by omega)
      exact ⟨o, by show (c ρ >>= _) = _; rw [e, bind_ok]; show (f ρ >>= _) = _; rw [e2, bind_ok]; exact h5, h6⟩
    · exact ⟨_, by show (c ρ >>= _) = _; rw [e, bind_ok]; show (f ρ >>= _) = _; rw [e2, bind_ok], p⟩
theorem flat_rep {α : Type} (x : α) : ∀ n : Nat, (List.replicate n [x]).flatten = List.replicate n x
  | 0 => rfl
  | n + 1 => by rw [List.replicate_succ, List.flatten_cons, flat_rep x n, List.replicate_succ]; rfl
theorem rep_one {x : D} {n : Nat} (h : n ≤ 1000000) : repN (.lst [x]) (.int (n : Int)) = some (List.replicate n x) := by
  have h1 : decide ((n : Int) < 2 ^ 62) = true := decide_eq_true (by omega)
  have h2 : decide (-(2 ^ 62) < (n : Int)) = true := decide_eq_true (by omega)
  rw [repN, h1, h2, Int.toNat_natCast, List.length_singleton, Nat.one_mul, small_of (by omega), Bool.true_and, Bool.true_and, if_pos rfl, flat_rep]
theorem flats_ints : ∀ xs : List Int, flats (xs.map D.int) = true
  | [] => rfl
  | x :: xs => by rw [List.map_cons, flats, flats_ints xs]; rfl
@[simp] theorem flat_int (i : Int) : flat (.int i) = true := Eq.trans rfl rfl
@[simp] theorem flat_non : flat .non = true := Eq.trans rfl rfl
@[simp] theorem frz1_own (ds : List D) : frz1 (.own ds) = .val (.lst ds) := Eq.trans rfl rfl
@[simp] theorem frz1_val (d : D) : frz1 (.val d) = .val d := Eq.trans rfl rfl
@[simp] theorem frz1_un : frz1 .un = .un := Eq.trans rfl rfl
@[simp] theorem isOwn_val (d : D) : isOwn (some (.val d)) = false := Eq.trans rfl rfl
@[simp] theorem isOwn_un : isOwn (some .un) = false := Eq.trans rfl rfl
theorem rgOk_nat {n : Nat} (h : n ≤ 1000000) : rgOk 0 (n : Int) = true := by
  unfold rgOk
  rw [bnd_of (by omega), bnd_of (by omega), Int.sub_zero, Int.toNat_natCast, small_of (by omega)]; rfl
@[simp] theorem isi_tt (ds : List D) : isiD "tuple" (.tup ds) = some (.bl true) := by simp [isiD, tyD]
@[simp] theorem isi_ss (x : Str) : isiD "str" (.str x) = some (.bl true) := by simp [isiD, tyD]
@[simp] theorem isi_ii (x : Int) : isiD "int" (.int x) = some (.bl true) := by simp [isiD, tyD]
@[simp] theorem isi_bi (x : Int) : isiD "bool" (.int x) = some (.bl false) := by simp [isiD, tyD]
@[simp] theorem isi_bb (x : Bool) : isiD "bool" (.bl x) = some (.bl true) := by simp [isiD, tyD]
@[simp] theorem isi_ib (x : Bool) : isiD "int" (.bl x) = some (.bl true) := by simp [isiD, tyD]
theorem atI_0 {α : Type} (a : α) (l : List α) : atI (a :: l) 0 = some a := by
  have := atI_nat (ds := a :: l) (k := 0) (by simp)
  simpa using this
theorem atI_1 {α : Type} (a b : α) (l : List α) : atI (a :: b :: l) 1 = some b := by
  have := atI_nat (ds := a :: b :: l) (k := 1) (by simp)
  simpa using this
theorem atI_2 {α : Type} (a b c : α) (l : List α) : atI (a :: b :: c :: l) 2 = some c := by
  have := atI_nat (ds := a :: b :: c :: l) (k := 2) (by simp)
  simpa using this
theorem dInts_of : ∀ xs : List Int, dInts (xs.map D.int) = some xs
  | [] => rfl
  | x :: xs => by rw [List.map_cons, dInts, dInts_of xs]; rfl
theorem dBls_of {α : Type} (p : α → Bool) : ∀ xs : List α, dBls (xs.map fun a => D.bl (p a)) = some (xs.map p)
  | [] => rfl
  | x :: xs => by rw [List.map_cons, dBls, dBls_of p xs]; rfl
theorem sumD_of (xs : List Int) : sumD [.lst (xs.map D.int)] = some (.int xs.sum) := by rw [sumD, dInts_of]; rfl
theorem sumD_map {α : Type} (xs : List α) (f : α → Int) : sumD [.lst (xs.map fun a => D.int (f a))] = some (.int (xs.map f).sum) := by
  have := sumD_of (xs.map f)
  rwa [List.map_map] at this
theorem allD_of {α : Type} (p : α → Bool) (xs : List α) : allD [.lst (xs.map fun a => D.bl (p a))] = some (.bl (xs.all p)) := by
  rw [allD, tvs, dBls_of]; simp [List.all_map, Function.comp_def]
theorem anyD_of {α : Type} (p : α → Bool) (xs : List α) : anyD [.lst (xs.map fun a => D.bl (p a))] = some (.bl (xs.any p)) := by
  rw [anyD, tvs, dBls_of]; simp [List.any_map, Function.comp_def]
theorem zip_ints {xs ys : List Int} {n : Nat} (h1 : xs.length = n) (h2 : ys.length = n) : List.zipWith (fun x y => D.tup [x, y]) (xs.map D.int) (ys.map D.int) = (List.range n).map fun i => D.tup [.int (at0 xs i), .int (at0 ys i)] := by
  apply List.ext_getElem (by simp [h1, h2])
  intro i x1 x2
  have : i < n := by simpa using x2
  rw [List.getElem_zipWith]
  simp only [List.getElem_map, List.getElem_range]
  rw [at0_get, at0_get]
end PF

set_option Elab.async false
set_option linter.all false
set_option maxRecDepth 100000
set_option maxHeartbeats 4000000
/-! PF 11: more operators: tuple * n. -/
namespace PF
open PySem PySem.Spec PyProof.Rows L2
theorem tuple_mul1 (l : Addr) (items : Array Value) (n : Nat) (dd : Option Addr) (sl : Array (Option Value)) (u : Tok) :
    Meets (Builtin.«tuple.__mul__» ⟨[.ref l, .int 1 u], []⟩) (fun _ R s => s.heap.get? l = some { cls := .type "tuple", dict := dd, data := .seq items n, slots := sl } ∧ R (.ok (.ret (Value.ref l))) s) :=
  .of_wp fun prog w A R s h => by
    obtain ⟨hp, g, d, tk, os⟩ := s
    obtain ⟨hl, h⟩ := h
    have f1 := AutoSeq1.idx_int
    have c1 : (items.isEmpty || (1 : Int) == 1) = true := by simp
    wp_walk using wpAny_loadPart' hl
    repeat (first
      | (refine wpAny_ite_false (decide_eq_false (by decide)) ?_; wp_walk using wpAny_loadPart' hl)
      | (refine wpAny_ite_true (decide_eq_true (by rw [c1])) ?_; wp_walk using wpAny_loadPart' hl))
    exact ⟨_, rfl, h⟩
theorem tuple_mul0 (l : Addr) (items : Array Value) (n : Nat) (dd : Option Addr) (sl : Array (Option Value)) (k : Int) (u : Tok) (h0 : (decide (k < -(2 ^ 63)) || decide (k ≥ 2 ^ 63)) = false) (h1 : (items.isEmpty || k == 1) = false) (h2 : (decide (k ≤ 0) || items.isEmpty) = true) :
    Meets (Builtin.«tuple.__mul__» ⟨[.ref l, .int k u], []⟩) (fun _ R s => s.heap.get? l = some { cls := .type "tuple", dict := dd, data := .seq items n, slots := sl } ∧
      R (.ok (.ret (Value.ref s.heap.objs.size))) { s with heap := s.heap.push { cls := Value.type "tuple", data := Data.seq #[] }, toks := s.toks }) :=
  .of_wp fun prog w A R s h => by
    obtain ⟨hp, g, d, tk, os⟩ := s
    obtain ⟨hl, h⟩ := h
    have f1 := AutoSeq1.idx_int
    wp_walk using wpAny_loadPart' hl
    repeat (first
      | (refine wpAny_ite_false (decide_eq_false (by rw [h0]; exact Bool.false_ne_true)) ?_; wp_walk using wpAny_loadPart' hl)
      | (refine wpAny_ite_false (decide_eq_false (by rw [h1]; exact Bool.false_ne_true)) ?_; wp_walk using wpAny_loadPart' hl)
      | (refine wpAny_ite_true (decide_eq_true (by rw [h2])) ?_; wp_walk using wpAny_loadPart' hl))
    exact ⟨_, rfl, h⟩
section
variable {X : Cx} {T : CT}
theorem op_repT1 : OpR X (binaryOp .Mult) (fun x y H Q => ∃ l xs, x = .ref l ∧ y = .int 1 ∧ SqT X.K H l xs ∧ Q (.ref l) H) := by
  intro pins s σ H x y v u Q I rx ry h
  obtain ⟨l, xs, rfl, rfl, hT, q⟩ := h
  cases rx
  obtain ⟨t, rfl⟩ := ry
  obtain ⟨its, r, ⟨⟨cls, dd, data, sl⟩, ho, hc, n, hd⟩, hs⟩ := I.tuple hT
  simp only at hc hd
  subst hc hd
  refine wpAny_binaryOp_repeat_ref (T := "tuple") (U := "int") (by decide) ⟨_, ho, rfl⟩ (fun s' => typeIs_int s' 1 t) noFill_tuple_mul F.fills_int_mul F.slot_int_rmul repeat_tuple F.slot_int_index.lookup
    (call_meets F.slot_int_rmul (typeIs_int s 1 t) F.entry_int_rmul (F.args_int_rmul_2 _ _) (int_rmul_tuple 1 t l its.toArray n dd sl)
      ⟨ho, rfl, ⟨_, ho, rfl⟩, call_meets F.slot_tuple_mul ⟨_, ho, rfl⟩ F.entry_tuple_mul (F.args_tuple_mul_2 _ _) (tuple_mul1 l its.toArray n dd sl t) ⟨ho, ?_⟩⟩)
  exact ⟨.ref l, H, I, rfl, q⟩
theorem op_repT0 : OpR X (binaryOp .Mult) (fun x y H Q => ∃ l k xs, x = .ref l ∧ y = .int k ∧ SqT X.K H l xs ∧ xs ≠ [] ∧ -1000 ≤ k ∧ k ≤ 0 ∧ ∀ p, H p = none → Q (.ref p) (upd H p (.tup []))) := by
  intro pins s σ H x y v u Q I rx ry h
  obtain ⟨l, k, xs, rfl, rfl, hT, hne, h1, h2, q⟩ := h
  cases rx
  obtain ⟨t, rfl⟩ := ry
  obtain ⟨its, r, ⟨⟨cls, dd, data, sl⟩, ho, hc, n, hd⟩, hs⟩ := I.tuple hT
  simp only at hc hd
  subst hc hd
  have hn : its ≠ [] := fun e => hne (by
    have hle : its.length = xs.length := r.length.symm
    rw [e] at hle
    exact List.eq_nil_of_length_eq_zero hle.symm)
  have hi : its.toArray.isEmpty = false := by
    cases its with
    | nil => exact absurd rfl hn
    | cons a b => rfl
  have c0 : (decide (k < -(2 ^ 63)) || decide (k ≥ 2 ^ 63)) = false := by
    rw [decide_eq_false (by omega), decide_eq_false (by omega)] <;> rfl
  have c1 : (its.toArray.isEmpty || k == 1) = false := by
    rw [hi, Bool.false_or]
    exact beq_eq_false_iff_ne.mpr (by omega)
  have c2 : (decide (k ≤ 0) || its.toArray.isEmpty) = true := by
    rw [decide_eq_true h2]; rfl
  refine wpAny_binaryOp_repeat_ref (T := "tuple") (U := "int") (by decide) ⟨_, ho, rfl⟩ (fun s' => typeIs_int s' k t) noFill_tuple_mul F.fills_int_mul F.slot_int_rmul repeat_tuple F.slot_int_index.lookup
    (call_meets F.slot_int_rmul (typeIs_int s k t) F.entry_int_rmul (F.args_int_rmul_2 _ _) (int_rmul_tuple k t l its.toArray n dd sl)
      ⟨ho, rfl, ⟨_, ho, rfl⟩, call_meets F.slot_tuple_mul ⟨_, ho, rfl⟩ F.entry_tuple_mul (F.args_tuple_mul_2 _ _) (tuple_mul0 l its.toArray n dd sl k t c0 c1 c2) ⟨ho, ?_⟩⟩)
  refine ⟨.ref s.heap.objs.size, _, I.laid (t' := s.toks) (o := .tup []) (fun b ob q => Heap.get?_push_of_some _ q) (Nat.le_refl _) ?_, rfl, q _ (I.hok.fresh (Nat.le_refl _))⟩
  exact ⟨by simp, [], .nil, IsTup.new _ _⟩
def mulT : D → D → Option D
  | .tup ds, .int k => if !ds.isEmpty && decide (0 ≤ k ∧ k ≤ 1000) && decide (ds.length ≤ 1000) then some (.tup (List.replicate k.toNat ds).flatten) else none
  | _, _ => none
theorem o_mulT : Op2 X T (binaryOp .Mult) mulT := by
  refine weakO (OpR.or op_repT (OpR.or op_repT1 op_repT0)) fun x y H Q h => ?_
  obtain ⟨N, dx, dy, d, dom, rx, ry, e, q⟩ := h
  cases rx <;> cases ry <;> first
    | (cases e; done)
    | skip
  rename_i a va da ha ra k
  have e' : (if !da.isEmpty && decide (0 ≤ k ∧ k ≤ 1000) && decide (da.length ≤ 1000) then some (D.tup (List.replicate k.toNat da).flatten) else none) = some d := e
  split at e'
  · rename_i hb
    rw [Bool.and_eq_true, Bool.and_eq_true, decide_eq_true_eq, decide_eq_true_eq] at hb
    cases e'
    have hl := ra.length
    have hne : va ≠ [] := fun e => by
      subst e
      have : da = [] := List.eq_nil_of_length_eq_zero (by simpa using hl.symm)
      subst this
      simp at hb
    have hT : SqT X.K H a va := ha.elim (fun z => .inl z.1) sq_noT
    by_cases h2 : 2 ≤ k
    · exact .inl ⟨a, k, va, rfl, rfl, hT, hne, h2, by omega, by omega, fun p hp => new_tup dom hp (ra.flatten _) q⟩
    · by_cases h1 : k = 1
      · subst h1
        refine .inr (.inl ⟨a, va, rfl, rfl, hT, ?_⟩)
        have : (List.replicate (1 : Int).toNat da).flatten = da := by simp
        rw [this] at q
        exact fin1 q (.tup ha ra)
      · obtain rfl : k = 0 := by omega
        exact .inr (.inr ⟨a, 0, va, rfl, rfl, hT, hne, by omega, by omega, fun p hp => new_tup dom hp .nil q⟩)
  · cases e'
end
end PF

set_option Elab.async false
set_option linter.all false
set_option maxRecDepth 100000
set_option maxHeartbeats 4000000
/-! PF 12: zip of a list and a tuple, in either order. -/
namespace PF
open PySem PySem.Spec PyProof.Rows L2
/-- a side of a zip: true is a tuple -/
def KIt (b : Bool) (h : Heap) (it l : Addr) (i : Nat) : Prop := match b with
  | true => h.IsTupleIter it l i
  | false => h.IsListIter it l i
def KSq (b : Bool) (h : Heap) (l : Addr) (xs : Array Value) : Prop := match b with
  | true => h.IsTuple l xs
  | false => h.IsList l xs
def SqK (b : Bool) (K : PySem.W.Frag) (H : Hp) (a : Addr) (xs : List V) : Prop := match b with
  | true => SqT K H a xs
  | false => SqL K H a xs
theorem draws_tup {prog : Program} {w : World} {A : Around} (hh : A.handled = none) (it l : Addr) (hne : l ≠ it) (items : Array Value) :
    Draws prog w A it [it, l] items.size (fun i v => items[i]? = some v) (fun i h => h.IsTupleIter it l i ∧ h.IsTuple l items) where
  live := fun _ _ st => let ⟨o, ho, _⟩ := st.1; ⟨o, ho⟩
  frame := fun _ _ _ st hk => ⟨st.1.at fun o e => hk it (by simp) o e, let ⟨o, ho, r⟩ := st.2; ⟨o, hk l (by simp) o ho, r⟩⟩
  item := fun i s Q E hi st hQ => by
    refine RZ.nextOf_tuple_item st.1 st.2 (x := items[i]) (by simp [hi]) fun h' hit' hs' => ?_
    exact hQ _ h' s.toks (by simp [hi]) ⟨hit', let ⟨o, ho, r⟩ := st.2; ⟨o, hs'.extBut _ _ hne ho, r⟩⟩ hs'
  done := fun s Q E st hE => RZ.nextOf_tuple_end hh st.1 st.2 (by simp) hE
theorem draws_k (b : Bool) {prog : Program} {w : World} {A : Around} (hh : A.handled = none) (it l : Addr) (hne : l ≠ it) (items : Array Value) :
    Draws prog w A it [it, l] items.size (fun i v => items[i]? = some v) (fun i h => KIt b h it l i ∧ KSq b h l items) := match b with
  | true => draws_tup hh it l hne items
  | false => Draws.list hh it l hne items
theorem kit_at {b : Bool} {h h' : Heap} {it l : Addr} {i : Nat} (x : KIt b h it l i) (k : ∀ o, h.get? it = some o → h'.get? it = some o) : KIt b h' it l i := match b, x with
  | true, x => Heap.IsTupleIter.at x k
  | false, x => Heap.IsListIter.at x k
theorem kit_obj {b : Bool} {h : Heap} {it l : Addr} {i : Nat} (x : KIt b h it l i) : ∃ o, h.get? it = some o ∧ ∀ v, o.data ≠ .cell v := match b, x with
  | true, ⟨o, e, _, d⟩ => ⟨o, e, fun v q => by rw [d] at q; cases q⟩
  | false, ⟨o, e, _, d⟩ => ⟨o, e, fun v q => by rw [d] at q; cases q⟩
theorem ksq_at {b : Bool} {X : Cx} {pins : List (Addr × Obj)} {σ : L2.St} {H : Hp} {s : Shared} (I : Inv X pins σ H s) {a : Addr} {xs : List V} (h : SqK b X.K H a xs) : ∃ its : List Value, Vals xs its ∧ KSq b s.heap a its.toArray ∧ a < s.heap.objs.size := match b, h with
  | true, h => by
    obtain ⟨its, r, p, _⟩ := I.tuple h
    obtain ⟨o, ho, _⟩ := id p
    exact ⟨its, r, p, Heap.lt_size ho⟩
  | false, h => by
    obtain ⟨its, r, p, _⟩ := I.list h
    exact ⟨its, r, p.isList, p.lt⟩
theorem sqk_inj {b : Bool} {X : Cx} {pins : List (Addr × Obj)} {σ : L2.St} {H : Hp} {s : Shared} (I : Inv X pins σ H s) {a : Addr} {xs ys : List V} (h : SqK b X.K H a xs) (h2 : SqK b X.K H a ys) : xs = ys := match b, h, h2 with
  | true, h, h2 => I.tuple_inj h h2
  | false, h, h2 => I.list_inj h h2
def ItzK (b c : Bool) (K : PySem.W.Frag) (l1 l2 : Addr) : It :=
  ⟨fun i H => ∃ (xs ys : List V) (x y : V), SqK b K H l1 xs ∧ SqK c K H l2 ys ∧ xs[i]? = some x ∧ ys[i]? = some y,
    fun i H v H' => ∃ T x y, v = .ref T ∧ H T = none ∧ H' = upd H T (.tup [x, y]) ∧ (∀ xs, SqK b K H l1 xs → xs[i]? = some x) ∧ ∀ ys, SqK c K H l2 ys → ys[i]? = some y,
    fun i H => ∃ xs ys : List V, SqK b K H l1 xs ∧ SqK c K H l2 ys ∧ (xs.length = i ∧ i ≤ ys.length ∨ i ≤ xs.length ∧ ys.length = i)⟩
theorem sep_of {z TI TO i1 i2 l1 l2 : Addr} (D : ZipApart z TI TO i1 i2 l1 l2) : ZipSep2 z TI TO i1 i2 [i1, l1] [i2, l2] where
  TIz := D.TIz
  TOz := D.TOz
  TITO := D.TITO
  TIi1 := D.TIi1
  mem1 := by simp
  zf1 := by simp only [List.mem_cons, List.not_mem_nil, or_false, not_or]; exact ⟨fun e => D.i1z e.symm, fun e => D.l1z e.symm⟩
  Tf1 := by simp only [List.mem_cons, List.not_mem_nil, or_false, not_or]; exact ⟨D.TOi1, fun e => D.l1TO e.symm⟩
  TIi2 := D.TIi2
  mem2 := by simp
  zf2 := by simp only [List.mem_cons, List.not_mem_nil, or_false, not_or]; exact ⟨fun e => D.i2z e.symm, fun e => D.l2z e.symm⟩
  Tf2 := by simp only [List.mem_cons, List.not_mem_nil, or_false, not_or]; exact ⟨D.TOi2, fun e => D.l2TO e.symm⟩
  sep1_2 := by simp only [List.mem_cons, List.not_mem_nil, or_false, not_or]; exact ⟨D.i12, fun e => D.l2i1 e.symm⟩
  sep2_1 := by simp only [List.mem_cons, List.not_mem_nil, or_false, not_or]; exact ⟨fun e => D.i12 e.symm, fun e => D.l1i2 e.symm⟩
theorem turn_zipK (b c : Bool) {P : Program} {w : World} {K : PySem.W.Frag} {elts : List Expr} {kk : Nat} {tpos : Pos} {l1 l2 z TI TO i1 i2 : Addr} (D : ZipApart z TI TO i1 i2 l1 l2) :
    Turn P w K (.Tuple elts kk tpos) (ItzK b c K l1 l2) [z, TI, TO, i1, i2] z (fun i h => IsZip h z TI TO .none ∧ IsPair h TI (.ref i1) (.ref i2) ∧ (∃ x y, IsPair h TO x y) ∧ KIt b h i1 l1 i ∧ KIt c h i2 l2 i) where
  mem := by simp
  obj := fun i h st q hq => by
    obtain ⟨hz, hTI, ⟨x, y, hTO⟩, k1, k2⟩ := st
    simp only [List.mem_cons, List.not_mem_nil, or_false] at hq
    rcases hq with rfl | rfl | rfl | rfl | rfl
    · exact ⟨_, hz, fun v q => nomatch q⟩
    · exact ⟨_, hTI, fun v q => nomatch q⟩
    · exact ⟨_, hTO, fun v q => nomatch q⟩
    · exact kit_obj k1
    · exact kit_obj k2
  keep := fun i h h' st k => by
    obtain ⟨hz, hTI, ⟨x, y, hTO⟩, k1, k2⟩ := st
    exact ⟨k z (by simp) _ hz, k TI (by simp) _ hTI, ⟨x, y, k TO (by simp) _ hTO⟩, kit_at k1 fun o q => k i1 (by simp) o q, kit_at k2 fun o q => k i2 (by simp) o q⟩
  item := by
    intro X hP hw hK hc i pins s σ H E I hf st hg
    subst hP hw hK
    obtain ⟨hz, hTI, ⟨x0, y0, hTO⟩, k1, k2⟩ := st
    obtain ⟨xs, ys, x, y, q1, q2, hx, hy⟩ := hg
    obtain ⟨its, r1, p1, _⟩ := ksq_at I q1
    obtain ⟨its2, r2, p2, _⟩ := ksq_at I q2
    obtain ⟨u, hu, ru⟩ := r1.get hx
    obtain ⟨u2, hu2, ru2⟩ := r2.get hy
    have hzl : z < s.heap.objs.size := Heap.lt_size hz
    have g1 : i < its.toArray.size := by simpa using (List.getElem?_eq_some_iff.mp hu).1
    have g2 : i < its2.toArray.size := by simpa using (List.getElem?_eq_some_iff.mp hu2).1
    refine wpAny_pyNext_zipD2_item (sep_of D) (draws_k b (show X.A.in1.handled = none from I.ok.hd hc) i1 l1 D.l1i1 its.toArray) (draws_k c (show X.A.in1.handled = none from I.ok.hd hc) i2 l2 D.l2i2 its2.toArray) hz hTI hTO ⟨k1, p1⟩ ⟨k2, p2⟩ g1 g2 fun v1 v2 h' tk e1 e2 hz' hTO' s1 s2 hT hsz hk => ?_
    have e1 : v1 = u := by
      have : its[i]? = some v1 := by simpa using e1
      rw [hu] at this; cases this; rfl
    have e2 : v2 = u2 := by
      have : its2[i]? = some v2 := by simpa using e2
      rw [hu2] at this; cases this; rfl
    subst e1 e2
    refine ⟨_, rfl, wpAny_letOwnedTupleGo_zip (s := { s with heap := h', toks := tk }) hz' fun h2 hz2 sb => ?_⟩
    have hT2 : h2.get? s.heap.objs.size = some { cls := .type "tuple", data := .seq #[v1, v2] } := (sb.2 _ (Nat.ne_of_gt hzl)).trans hT
    have new : ObjOk X.prog X.w (upd H s.heap.objs.size (.tup [x, y])) h2 s.heap.objs.size (.tup [x, y]) :=
      ⟨by show 2 ≤ sizeLine; decide, [v1, v2], .cons ru (.cons ru2 .nil), ⟨_, hT2, rfl, _, rfl⟩⟩
    have I1 : Inv X pins σ (upd H s.heap.objs.size (.tup [x, y])) { s with heap := h2, toks := tk } :=
      I.turnedNew (t' := tk) (ch := [z, TI, TO, i1, i2]) (fun c o hb q => by
        simp only [List.mem_cons, List.not_mem_nil, or_false, not_or] at hb
        exact (sb.2 c hb.1).trans (hk c o hb.1 hb.2.2.1 hb.2.2.2.1 hb.2.2.2.2 q)) hf (Nat.le_refl _) new
    refine ⟨.ref s.heap.objs.size, _, I1, rfl, ⟨_, x, y, rfl, I.hok.fresh (Nat.le_refl _), rfl, fun l hl => by rw [sqk_inj I hl q1]; exact hx, fun l hl => by rw [sqk_inj I hl q2]; exact hy⟩, ⟨hz2, ?_, ⟨v1, v2, ?_⟩, ?_, ?_⟩, fun q hq => ?_⟩
    · exact (sb.2 _ D.TIz).trans (hk _ _ D.TIz D.TITO D.TIi1 D.TIi2 hTI)
    · exact (sb.2 _ D.TOz).trans hTO'
    · exact kit_at s1.1 fun o q => (sb.2 _ D.i1z).trans q
    · exact kit_at s2.1 fun o q => (sb.2 _ D.i2z).trans q
    · have hlt : q < s.heap.objs.size := by
        simp only [List.mem_cons, List.not_mem_nil, or_false] at hq
        rcases hq with rfl | rfl | rfl | rfl | rfl
        · exact hzl
        · exact Heap.lt_size hTI
        · exact Heap.lt_size hTO
        · obtain ⟨_, e1, _⟩ := kit_obj k1; exact Heap.lt_size e1
        · obtain ⟨_, e2, _⟩ := kit_obj k2; exact Heap.lt_size e2
      rw [upd_ne (Nat.ne_of_lt hlt)]
      exact (hf q hq).1
  done := by
    intro X hP hw hK hc i pins s σ H E I hf st hg
    subst hP hw hK
    obtain ⟨hz, hTI, ⟨x0, y0, hTO⟩, k1, k2⟩ := st
    obtain ⟨xs, ys, q1, q2, hend⟩ := hg
    obtain ⟨its, r1, p1, _⟩ := ksq_at I q1
    obtain ⟨its2, r2, p2, _⟩ := ksq_at I q2
    have n1 := r1.length
    have n2 := r2.length
    have z1 : its.toArray.size = xs.length := by rw [List.size_toArray]; omega
    have z2 : its2.toArray.size = ys.length := by rw [List.size_toArray]; omega
    refine wpAny_pyNext_zipD2_end (sep_of D) (draws_k b (show X.A.in1.handled = none from I.ok.hd hc) i1 l1 D.l1i1 its.toArray) (draws_k c (show X.A.in1.handled = none from I.ok.hd hc) i2 l2 D.l2i2 its2.toArray) hz hTI hTO (i := i) ⟨k1, p1⟩ ⟨k2, p2⟩ (by omega) (by omega) (by omega) fun h' tk hk => ⟨rfl, I.turnedL (t' := tk) (ch := [z, TI, TO, i1, i2]) (fun c o hb q => by
      simp only [List.mem_cons, List.not_mem_nil, or_false, not_or] at hb
      exact hk c o hb.1 hb.2.2.1 hb.2.2.2.1 hb.2.2.2.2 q) hf⟩
  self := fun A i s Q E st h => wpAny_pyIter_zip st.1 h
abbrev itN (b : Bool) : String := if b then "tuple_iterator" else "list_iterator"
abbrev zk1 (b : Bool) (h : Heap) (l1 : Addr) : Heap := h.push { cls := .type (itN b), data := .fields #[.ref l1, .int 0 0] }
abbrev zk2 (b c : Bool) (h : Heap) (l1 l2 : Addr) : Heap := (zk1 b h l1).push { cls := .type (itN c), data := .fields #[.ref l2, .int 0 0] }
abbrev zk3 (b c : Bool) (h : Heap) (l1 l2 : Addr) : Heap := (zk2 b c h l1 l2).push { cls := .type "tuple", data := .seq #[.ref h.objs.size, .ref (zk1 b h l1).objs.size] }
abbrev zk4 (b c : Bool) (h : Heap) (l1 l2 : Addr) : Heap := (zk3 b c h l1 l2).push { cls := .type "tuple", data := .seq #[.none, .none] }
abbrev zk5 (b c : Bool) (h : Heap) (l1 l2 : Addr) : Heap := (zk4 b c h l1 l2).push { cls := .type "zip", data := .fields #[.none, .bool false, .bool false, .ref (zk2 b c h l1 l2).objs.size, .ref (zk3 b c h l1 l2).objs.size] }
theorem meets_zipLT (l1 l2 : Addr) (xs ys : Array Value) :
    Meets (Builtin.«zip.__new__» ⟨[.type "zip", .ref l1, .ref l2], []⟩) (fun _ R s => (s.heap.IsList l1 xs ∧ s.heap.IsTuple l2 ys) ∧
      R (.ok (.ret (.ref (zk4 false true s.heap l1 l2).objs.size))) { s with heap := zk5 false true s.heap l1 l2 }) :=
  .of_wp fun prog w A R s h => by
    obtain ⟨hp, g, d, tk, os⟩ := s
    obtain ⟨⟨hl1, hl2⟩, h⟩ := h
    have hsub := sub_zip
    have q1 : Heap.IsList (Shared.heap ⟨hp, g, d, tk, os⟩) l1 xs := hl1
    have q2 : Heap.IsTuple (Shared.heap ⟨hp.push { cls := .type "list_iterator", data := .fields #[.ref l1, .int 0 0] }, g, d, tk, os⟩) l2 ys := Heap.IsTuple.push hl2 _
    wp_walk using wpAny_pyIter_list q1, wpAny_pyIter_tuple q2
    exact ⟨_, rfl, h⟩
theorem meets_zipTL (l1 l2 : Addr) (xs ys : Array Value) :
    Meets (Builtin.«zip.__new__» ⟨[.type "zip", .ref l1, .ref l2], []⟩) (fun _ R s => (s.heap.IsTuple l1 xs ∧ s.heap.IsList l2 ys) ∧
      R (.ok (.ret (.ref (zk4 true false s.heap l1 l2).objs.size))) { s with heap := zk5 true false s.heap l1 l2 }) :=
  .of_wp fun prog w A R s h => by
    obtain ⟨hp, g, d, tk, os⟩ := s
    obtain ⟨⟨hl1, hl2⟩, h⟩ := h
    have hsub := sub_zip
    have q1 : Heap.IsTuple (Shared.heap ⟨hp, g, d, tk, os⟩) l1 xs := hl1
    have q2 : Heap.IsList (Shared.heap ⟨hp.push { cls := .type "tuple_iterator", data := .fields #[.ref l1, .int 0 0] }, g, d, tk, os⟩) l2 ys := Heap.IsList.push hl2 _
    wp_walk using wpAny_pyIter_tuple q1, wpAny_pyIter_list q2
    exact ⟨_, rfl, h⟩
theorem zk_get {h h' : Heap} {o : Obj} {a : Addr} {x : Obj} (e : h.get? a = some x) : (h.push o).get? a = some x := Heap.get?_push_of_some _ e
section
variable {prog : Program} {w : World} {A : Around} {E : Value → Shared → Prop} {s : Shared}
theorem call_zipK (b c : Bool) {l1 l2 : Addr} {Pre : Shared → Prop} {Q : Value → Shared → Prop} (hm : Meets (Builtin.«zip.__new__» ⟨[.type "zip", .ref l1, .ref l2], []⟩) (fun _ R s => Pre s ∧
      R (.ok (.ret (.ref (zk4 b c s.heap l1 l2).objs.size))) { s with heap := zk5 b c s.heap l1 l2 })) (hp : Pre s)
    (h : ∀ h', IsZip h' (s.heap.objs.size + 4) (s.heap.objs.size + 2) (s.heap.objs.size + 3) .none → IsPair h' (s.heap.objs.size + 2) (.ref s.heap.objs.size) (.ref (s.heap.objs.size + 1)) →
      IsPair h' (s.heap.objs.size + 3) .none .none → KIt b h' s.heap.objs.size l1 0 → KIt c h' (s.heap.objs.size + 1) l2 0 →
      (∀ c o, s.heap.get? c = some o → h'.get? c = some o) → Q (.ref (s.heap.objs.size + 4)) { s with heap := h' }) :
    wpAny (model prog w) A (call (.type "zip") [.ref l1, .ref l2]) Q E s := by
  refine callType_new F.called_zip (by decide) (F.typeCall_zip_2 _ _) (F.newCall_zip_2 _ _) (fun obj => F.args_object_init_3 obj _ _) F.entry_zip_new hm ⟨hp, ?_⟩
  have n1 : (zk1 b s.heap l1).objs.size = s.heap.objs.size + 1 := Heap.size_push ..
  have n2 : (zk2 b c s.heap l1 l2).objs.size = s.heap.objs.size + 2 := by rw [Heap.size_push, n1]
  have n3 : (zk3 b c s.heap l1 l2).objs.size = s.heap.objs.size + 3 := by rw [Heap.size_push, n2]
  have n4 : (zk4 b c s.heap l1 l2).objs.size = s.heap.objs.size + 4 := by rw [Heap.size_push, n3]
  have a1 : (zk1 b s.heap l1).get? s.heap.objs.size = some _ := Heap.get?_push_size _ rfl
  have a2 : (zk2 b c s.heap l1 l2).get? (zk1 b s.heap l1).objs.size = some _ := Heap.get?_push_size _ rfl
  have a3 : (zk3 b c s.heap l1 l2).get? (zk2 b c s.heap l1 l2).objs.size = some _ := Heap.get?_push_size _ rfl
  have a4 : (zk4 b c s.heap l1 l2).get? (zk3 b c s.heap l1 l2).objs.size = some _ := Heap.get?_push_size _ rfl
  have a5 : (zk5 b c s.heap l1 l2).get? (zk4 b c s.heap l1 l2).objs.size = some _ := Heap.get?_push_size _ rfl
  have up2 : ∀ {a : Addr} {o : Obj}, (zk2 b c s.heap l1 l2).get? a = some o → (zk5 b c s.heap l1 l2).get? a = some o := fun e => Heap.get?_push_of_some _ (Heap.get?_push_of_some _ (Heap.get?_push_of_some _ e))
  have up1 : ∀ {a : Addr} {o : Obj}, (zk1 b s.heap l1).get? a = some o → (zk5 b c s.heap l1 l2).get? a = some o := fun e => up2 (Heap.get?_push_of_some _ e)
  have b1 := up1 a1
  have b2 := up2 a2
  have b3 : (zk5 b c s.heap l1 l2).get? (zk2 b c s.heap l1 l2).objs.size = some _ := Heap.get?_push_of_some _ (Heap.get?_push_of_some _ a3)
  have b4 : (zk5 b c s.heap l1 l2).get? (zk3 b c s.heap l1 l2).objs.size = some _ := Heap.get?_push_of_some _ a4
  show _ ∧ _
  rw [n2, n3, n4] at a5
  rw [n1, n2] at b3
  rw [n3] at b4
  rw [n1] at b2
  rw [n4]
  exact ⟨⟨_, a5, rfl⟩, h _ a5 b3 b4 (match b, b1 with | true, b1 => ⟨_, b1, rfl, rfl⟩ | false, b1 => ⟨_, b1, rfl, rfl⟩) (match c, b2 with | true, b2 => ⟨_, b2, rfl, rfl⟩ | false, b2 => ⟨_, b2, rfl, rfl⟩) fun q o e => up1 (Heap.get?_push_of_some _ e)⟩
end
end PF

set_option Elab.async false
set_option linter.all false
set_option maxRecDepth 100000
set_option maxHeartbeats 4000000
/-! PF 13: zip of any two of lists and tuples. -/
namespace PF
open PySem PySem.Spec PyProof.Rows L2
def iZipM (K : PySem.W.Frag) (ta : TA) : TI := fun σ H R => ta σ H fun vs H1 => ∃ a b xs ys, vs = [.ref a, .ref b] ∧ ((SqL K H1 a xs ∧ SqT K H1 b ys ∧ R (ItzK false true K a b) H1) ∨ (SqT K H1 a xs ∧ SqL K H1 b ys ∧ R (ItzK true false K a b) H1))
theorem pi_zipM {X : Cx} {e e2 : Expr} {ta : TA} {p pos tpos : Pos} {elts : List Expr} {kk : Nat} (hg : Gl X "zip") (hm : X.mg "zip" = none) (ha : PA X [e, e2] ta)
    (hs : starEach [e, e2] X.env = (false, eval e X.env) :: starEach [e2] X.env := by rfl) (hpl : (backTo pos (starEach [e2] X.env)).any (·.1) = false := by rfl) :
    PI X (.Tuple elts kk tpos) (.Call (.Name "zip" p) [e, e2] [] pos) (iZipM X.K ta) := by
  refine ⟨fun pins s σ H R I h => ?_⟩
  refine Call_ (ld_blt I hg hm PyProof.Rows.boot_zip (PyProof.Rows.callWith_type1 (thn (ha.run pos pins s σ H _ I h) fun us s1 ⟨vs, H1, I1, r1, q1⟩ => ?_) hs hpl))
  obtain ⟨a, b, xs, ys, rfl, q1⟩ := q1
  cases r1 with
  | cons r rr =>
    cases rr with
    | cons r' rr =>
      cases rr
      cases r
      cases r'
      have fr : ∀ c, c ∈ [s1.heap.objs.size + 4, s1.heap.objs.size + 2, s1.heap.objs.size + 3, s1.heap.objs.size, s1.heap.objs.size + 1] → FpOk X pins H1 c := fun c hc => by
        have hle : s1.heap.objs.size ≤ c := by
          simp only [List.mem_cons, List.not_mem_nil, or_false] at hc
          rcases hc with rfl | rfl | rfl | rfl | rfl
          · exact Nat.le_add_right _ _
          · exact Nat.le_add_right _ _
          · exact Nat.le_add_right _ _
          · exact Nat.le_refl _
          · exact Nat.le_add_right _ _
        exact I1.fpOk hle (I1.hok.fresh hle)
      have go : ∀ (k1 k2 : Bool) (its1 its2 : List Value) (Pre : Shared → Prop), a < s1.heap.objs.size → b < s1.heap.objs.size → Meets (Builtin.«zip.__new__» ⟨[.type "zip", .ref a, .ref b], []⟩) (fun _ R s => Pre s ∧
            R (.ok (.ret (.ref (zk4 k1 k2 s.heap a b).objs.size))) { s with heap := zk5 k1 k2 s.heap a b }) → Pre s1 → R (ItzK k1 k2 X.K a b) H1 →
          wpAny (model X.prog X.w) X.A (call (.type "zip") [.ref a, .ref b]) (fun v s2 => wpAny (model X.prog X.w) X.A (pyIter v) (PIE X pins σ (.Tuple elts kk tpos) R) X.xe s2) X.xe s1 := fun k1 k2 its1 its2 Pre la lb hM hP q => by
        refine call_zipK k1 k2 hM hP fun h' hz hTI hTO c1 c2 hk => wpAny_pyIter_zip hz ?_
        have I2 : Inv X pins σ H1 { s1 with heap := h' } := I1.kept (t' := s1.toks) hk
        exact ⟨_, _, _, _, H1, rfl, I2, turn_zipK k1 k2 (PySem.W.ktu_apart s1.heap.objs.size a b la lb), ⟨hz, hTI, ⟨_, _, hTO⟩, c1, c2⟩, fr, q⟩
      rcases q1 with ⟨g1, g2, q⟩ | ⟨g1, g2, q⟩
      · obtain ⟨its, rv, p1, _⟩ := I1.list g1
        obtain ⟨its2, rv2, p2, _⟩ := I1.tuple g2
        obtain ⟨o2, ho2, _⟩ := id p2
        exact go false true its its2 _ p1.lt (Heap.lt_size ho2) (meets_zipLT a b its.toArray its2.toArray) ⟨p1.isList, p2⟩ q
      · obtain ⟨its, rv, p1, _⟩ := I1.tuple g1
        obtain ⟨its2, rv2, p2, _⟩ := I1.list g2
        obtain ⟨o1, ho1, _⟩ := id p1
        exact go true false its its2 _ (Heap.lt_size ho1) p2.lt (meets_zipTL a b its.toArray its2.toArray) ⟨p1, p2.isList⟩ q
end PF

set_option Elab.async false
set_option linter.all false
set_option maxRecDepth 100000
set_option maxHeartbeats 4000000
/-! PF 14: a call that gives a new list of the caller's own; zip of any two sides; recursion. -/
namespace PF
open PySem PySem.Spec PyProof.Rows L2
/-! ### new lists -/
def spDN (K : PySem.W.Frag) (T : CT) (n : Nat) (F : List D → R (List D)) : Sp := fun vs H Q E => vs.length = n ∧ ∃ N ds, DomL N H ∧ Reps K T N H vs ds ∧ PG (ConX K T N E H) (F ds) fun d => OkN K T N Q d H
def nCall (n : Nat) (F : List D → R (List D)) (fs : EL) : EL := fun ρ => fs ρ >>= fun ds => if ds.length = n then F ds else .error none
def asV (F : List D → R (List D)) : List D → R D := fun ds => F ds >>= fun l => .ok (.lst l)
def dDefN (n : Nat) (f : ES) (ds : List D) : R (List D) := f (ds.map .val ++ List.replicate (n - ds.length) .un) >>= fun o => match o.1 with
  | .rt (.lst ds) => .ok ds
  | _ => .error none
section
variable {P : Program} {w : World} {K : PySem.W.Frag} {T : CT} {mg : Str → Option Value} {base : Heap} {x qual : Str} {st : Stmt} {f : Addr} {fd : FuncData} {N ps : List Str} {k : Nat} {fb : ES}
theorem FnOk.asV {n : Nat} {F : List D → R (List D)} (h : FnOk P w K mg base (L2.CX P w) k f fd ps (spDN K T n F)) : FnOk P w K mg base (L2.CX P w) k f fd ps (spD K T n (asV F)) :=
  h.imp fun vs H Q E h => by
    obtain ⟨hl, N, ds, dom, r, q⟩ := h
    unfold PF.asV at q
    exact ⟨hl, N, ds, dom, r, q.bind.mono (fun _ h => h) fun d _ q => OkN.of dom q⟩
theorem fnNo {n : Nat} (hn : ps.length = n) : FnOk P w K mg base (L2.CX P w) k f fd ps (spD K T n fun _ => .error none) :=
  ⟨fun vs H Q E h => h.1.trans hn.symm, fun A outer s H args us vs Q E _ _ _ _ h => by
    obtain ⟨_, _, _, _, _, q⟩ := h
    exact q.elim⟩
theorem fnDNN {n : Nat} {m : List D → R (List D)} (F : Fun K x qual st f fd) (S : FnScope N ps (defScope st)) (hn : ps.length = n) (hm : m = dDefN N.length fb)
    (hbody : ∀ (cdv : Value) (A : Around) (outer : List Env) (s : Shared) (H : Hp) (E : XK), Room k (A.deeper (envOfC qual (defScope st) s.heap.objs.size f cdv)) →
      PSs (cxOf (L2.CX P w) P w K mg base N qual (defScope st) f cdv A outer s H E) (defBody st) (tS rkN K T (fun c d _ H => E c d H) fb)) :
    FnOk P w K mg base (L2.CX P w) (k + 1) f fd ps (spDN K T n m) := by
  subst hn
  subst hm
  refine F.okX S (fun vs H Q E h => h.1) (fun cdv A outer s H vs Q E hr h => ⟨_, hbody cdv A outer s H E hr, ?_⟩)
  obtain ⟨hl, N0, ds, dom, r, q⟩ := h
  obtain ⟨rs, no⟩ := rs_start (n := N.length) dom r
  unfold dDefN at q
  refine ⟨N0, _, rs, q.bind.mono (fun e h σ' H' N' c d s rx => ?_) fun o _ q1 => ?_⟩
  · have s' : Same H H' := fun a o e => s.1 a o (no a) e
    refine h H' c d s' ⟨rx.1, rx.2.imp id ?_⟩
    rintro ⟨d, vs, e1, e2, e3⟩
    exact ⟨d, vs, e1, e2, e3.step (.less fun a z => .inr z)⟩
  · obtain ⟨fl, ρ'⟩ := o
    cases fl with
    | nx => exact q1.elim
    | bk => exact q1.elim
    | ct => exact q1.elim
    | rt d =>
      cases d with
      | lst es =>
        intro v H' N' s rp
        obtain ⟨p, vs, ds', rfl, e, hN, hl2, rr⟩ := rp
        cases e
        refine q1 p vs H' ((s.2 p hN).elim (fun z => (no p z).elim) id) (fun a o e => s.1 a o (no a) e) hl2 (rr.step (.less ?_))
        rintro a (z | rfl)
        · exact .inr z
        · exact .inl hN
      | _ => exact q1.elim
end
section
variable {Z : RK} {X : Cx} {T : CT} {W : WX} {a b : Expr} {fa fb : EE} {pos p : Pos} {e : Expr} {es : List Expr} {fs fl : EL} {k : Nat} {f : Addr} {fd : FuncData} {ps : List Str} {x : Str}
theorem n_call {n : Nat} {F : List D → R (List D)} (Fn : FnOk X.prog X.w X.K X.mg X.base (L2.CX X.prog X.w) k f fd ps (spDN X.K T n F)) (tk : Takes X W) (hr : Room k X.A) (hg : Gl X x) (hm : X.mg x = some (.ref f)) (hk : PySem.W.keepIn X.K (.ref f) = true)
    (hb : Binds X.K fd ps []) (ha : PA X (e :: es) (tA' X.K T W fs)) (hdb : (x == ("__debug__" : Str)) = false := by decide) (he : starEach (e :: es) X.env = (false, eval e X.env) :: starEach es X.env := by rfl) (hpl : (backTo pos (starEach es X.env)).any (·.1) = false := by rfl) :
    PE X (.Call (.Name x p) (e :: es) [] pos) (tN X.K T W (nCall n F fs)) :=
  weakE (pe_callSD (E := fun σ => WE W σ) Fn hr hg hm hk hb .nil (fun σ => passAt tk σ) ha hdb he hpl) fun σ H Q h => by
    obtain ⟨N0, ρ, rs, p⟩ := h
    unfold nCall at p
    refine ⟨N0, ρ, rs, p.bind.mono (fun _ h => h) fun ds _ q vs H1 s1 x1 => ?_⟩
    show spDN _ _ _ _ (vs ++ []) H1 Q (WE W σ)
    rw [List.append_nil]
    split at q
    · rename_i hn
      exact ⟨by rw [x1.length]; exact hn, _, ds, rs_dom (rs.same s1), x1, q.mono (fun e h H2 c d s2 r => h H2 c d (s1.trans s2) r) fun d _ h => OkN.same s1 h⟩
    · exact q.elim
/-- return of an own name, of a new list -/
def sRetO (i : Nat) : ES := fun ρ => match ρ[i]? with
  | some (.own ds) => .ok (.rt (.lst ds), ρ)
  | _ => .error none
theorem s_retO (i : Nat) (hN : X.N[i]? = some x := by rfl) (hv : Vis X.env.scope x := by first | exact Or.inl rfl | exact Or.inr (Or.inl rfl) | exact Or.inr (Or.inr rfl)) (hd : (x == ("__debug__" : Str)) = false := by decide)
    (hcd : (x == ("__classdict__" : Str)) = false := by decide) : PS X (.Return (some (.Name x p)) pos) (tS rkN X.K T W (sRetO i)) :=
  weakS (ps_ret (pv i hN hv hd hcd)) fun D σ H h => by
    obtain ⟨N0, ρ, rs, q⟩ := h
    unfold sRetO at q
    split at q
    case h_2 => exact q.elim
    rename_i ds hi
    obtain ⟨l, vs, g1, g2, g3⟩ := rs.owns i ds hi
    exact ⟨_, g1, q _ H _ (.refl _ _) ⟨l, vs, ds, rfl, rfl, ⟨i, g1, ds, hi⟩, g2, g3⟩⟩
def sRetNw (a : EL) : ES := fun ρ => a ρ >>= fun ds => .ok (.rt (.lst ds), ρ)
theorem s_retNw (ha : PE X a (tN X.K T W fl)) : PS X (.Return (some a) pos) (tS rkN X.K T W (sRetNw fl)) :=
  weakS (ps_ret ha) fun D σ H h => by
    obtain ⟨N0, ρ, rs, q⟩ := h
    unfold sRetNw at q
    refine ⟨N0, ρ, rs, q.bind.mono (fun _ h => h.ex) fun ds e q p vs H1 hp s hl rp => ?_⟩
    refine q (.ref p) H1 (fun a => Own σ ρ a ∨ a = p) ⟨fun a o _ e => s a o e, fun a z => z.imp id fun e => by rw [e]; exact hp⟩ ⟨p, vs, ds, rfl, rfl, .inr rfl, hl, rp.step (.less ?_)⟩
    rintro a ((z | z) | z)
    · exact .inl (.inl z)
    · exact .inr z
    · exact .inl (.inr z)
end
/-! ### zip of any two of lists and tuples -/
def zwD (a b : List D) : List D := List.zipWith (fun x y => .tup [x, y]) a b
def zipMD : List D → Option (List D)
  | [.lst a, .tup b] => some (zwD a b)
  | [.tup a, .lst b] => some (zwD a b)
  | ds => zipD ds
section
variable {X : Cx} {T : CT} {W : WX} {a b : Expr} {fs : EL} {pos p : Pos}
theorem itz_mixed {k1 k2 : Bool} {K : PySem.W.Frag} {N : Ad} {H1 : Hp} {p1 p2 : Addr} {as bs : List D}
    (hL : ∀ N' H', Stp N H1 N' H' → ∃ vs, SqK k1 K H' p1 vs ∧ Reps K T N' H' vs as) (hR : ∀ N' H', Stp N H1 N' H' → ∃ vs, SqK k2 K H' p2 vs ∧ Reps K T N' H' vs bs) : Itg K T N H1 (ItzK k1 k2 K p1 p2) (zwD as bs) :=
  itg_pair (fun N' H' i st hi => by
    obtain ⟨w1, k1, k2⟩ := hL N' H' st
    obtain ⟨w2, k3, k4⟩ := hR N' H' st
    have hd := List.getElem?_eq_getElem (show i < as.length by omega)
    have he := List.getElem?_eq_getElem (show i < bs.length by omega)
    obtain ⟨x, x1, x2⟩ := k2.get hd
    obtain ⟨y, y1, y2⟩ := k4.get he
    refine ⟨⟨w1, w2, x, y, k1, k3, x1, y1⟩, fun v H2 hy => ?_⟩
    obtain ⟨P, x', y', g1, g2, g3, g4, g5⟩ := hy
    have e1 := g4 _ k1
    have e2 := g5 _ k3
    rw [x1] at e1
    rw [y1] at e2
    cases e1
    cases e2
    exact ⟨P, x, y, _, _, g1, g2, g3, hd, he, x2, y2⟩) fun N' H' i st hi => by
    obtain ⟨w1, k1, k2⟩ := hL N' H' st
    obtain ⟨w2, k3, k4⟩ := hR N' H' st
    exact ⟨w1, w2, k1, k3, by rw [k2.length, k4.length]; omega⟩
theorem i_zipM {elts : List Expr} {kk : Nat} {tpos : Pos} (hg : Gl X "zip") (hm : X.mg "zip" = none) (ha : PA X [a, b] (tA' X.K T W fs))
    (hs : starEach [a, b] X.env = (false, eval a X.env) :: starEach [b] X.env := by rfl) (hpl : (backTo pos (starEach [b] X.env)).any (·.1) = false := by rfl) :
    PI X (.Tuple elts kk tpos) (.Call (.Name "zip" p) [a, b] [] pos) (tI X.K T W (iCall zipMD fs)) :=
  weakPI (t := fun σ H R => tI X.K T W (iCall zipD fs) σ H R ∨ iZipM X.K (tA' X.K T W fs) σ H R)
    ⟨fun pins s σ H R I h => h.elim (fun h => (i_zip hg hm ha hs hpl).run pins s σ H R I h) fun h => (pi_zipM hg hm ha hs hpl).run pins s σ H R I h⟩ fun σ H R h => by
    obtain ⟨N0, ρ, rs, p⟩ := h
    have toL : iCall zipMD fs ρ = iCall zipD fs ρ → tI X.K T W (iCall zipD fs) σ H R := fun e => ⟨N0, ρ, rs, by rw [← e]; exact p⟩
    unfold iCall at p
    rcases hf : fs ρ with er | ds
    · exact .inl (toL (by unfold iCall; rw [hf]; rfl))
    · have mix : ∀ {k1 k2 : Bool} {as bs : List D}, zipMD ds = some (zwD as bs) → (∀ vs H1, Same H H1 → RS X.K T N0 σ H1 ρ → Reps X.K T (Exc N0 σ ρ) H1 vs ds → (∀ J H', Same H1 H' → Itg X.K T (Exc N0 σ ρ) H' J (zwD as bs) → R J H') →
          ∃ a b xs ys, vs = [.ref a, .ref b] ∧ ((SqL X.K H1 a xs ∧ SqT X.K H1 b ys ∧ R (ItzK false true X.K a b) H1) ∨ (SqT X.K H1 a xs ∧ SqL X.K H1 b ys ∧ R (ItzK true false X.K a b) H1))) → iZipM X.K (tA' X.K T W fs) σ H R := fun {k1 k2 as bs} e k =>
        ⟨N0, ρ, rs, p.bind.mono (fun _ h => h) fun ds' e' p1 vs H1 s rp => by
          rw [hf] at e'
          cases e'
          rw [e] at p1
          exact k vs H1 s (rs.same s) rp fun J H' s' g => p1 J H' (s.trans s') g⟩
      by_cases z : (∃ as bs, ds = [.lst as, .tup bs]) ∨ ∃ as bs, ds = [.tup as, .lst bs]
      · rcases z with ⟨as, bs, rfl⟩ | ⟨as, bs, rfl⟩
        · refine .inr (mix (k1 := false) (k2 := true) rfl fun vs H1 s r rp q => ?_)
          obtain ⟨v, u, rfl, r1, r2⟩ := two_rep rp
          obtain ⟨p1, v1, rfl, h1, h2⟩ := id r1.lstD
          obtain ⟨p2, v2, rfl, h3, h4⟩ := id r2.tupD
          exact ⟨p1, p2, v1, v2, rfl, .inl ⟨h1, h3, q _ H1 (.refl _) (itz_mixed (k1 := false) (k2 := true) (itg_rep (.inl r1)) (itg_repT r2))⟩⟩
        · refine .inr (mix (k1 := true) (k2 := false) rfl fun vs H1 s r rp q => ?_)
          obtain ⟨v, u, rfl, r1, r2⟩ := two_rep rp
          obtain ⟨p1, v1, rfl, h1, h2⟩ := id r1.tupD
          obtain ⟨p2, v2, rfl, h3, h4⟩ := id r2.lstD
          exact ⟨p1, p2, v1, v2, rfl, .inr ⟨h1, h3, q _ H1 (.refl _) (itz_mixed (k1 := true) (k2 := false) (itg_repT r1) (itg_rep (.inl r2)))⟩⟩
      · refine .inl (toL ?_)
        unfold iCall
        rw [hf]
        show orS (zipMD ds) = orS (zipD ds)
        have : zipMD ds = zipD ds := by
          unfold zipMD
          split
          · exact absurd (.inl ⟨_, _, rfl⟩) z
          · exact absurd (.inr ⟨_, _, rfl⟩) z
          · rfl
        rw [this]
end
end PF

set_option Elab.async false
set_option linter.all false
set_option maxRecDepth 100000
/-! PF 15: reckoning over (List.range n).map. -/
namespace PF
open PySem PySem.Spec PyProof.Rows L2
abbrev rg {α : Type} (n : Nat) (f : Nat → α) : List α := (List.range n).map f
theorem compL_rg {asg : D → Rho → R Rho} {elt : EE} {ρ : Rho} {n : Nat} {e : Nat → D} (g : Nat → D) (h : ∀ i, i < n → (asg (e i) ρ >>= elt) = .ok (g i)) : compL asg tTrue elt ρ ((List.range n).map e) = .ok ((List.range n).map g) :=
  compL_of (List.range n) fun i hi => h i (List.mem_range.mp hi)
theorem compL_if {α : Type} {asg : D → Rho → R Rho} {tst : ET} {elt : EE} {ρ : Rho} {e : α → D} (p : α → Bool) (g : α → D) : ∀ (xs : List α), (∀ x ∈ xs, ∃ ρ', asg (e x) ρ = .ok ρ' ∧ tst ρ' = .ok (p x) ∧ (p x = true → elt ρ' = .ok (g x))) →
    compL asg tst elt ρ (xs.map e) = .ok ((xs.filter p).map g)
  | [], _ => rfl
  | x :: xs, h => by
    obtain ⟨ρ', h1, h2, h3⟩ := h x (List.mem_cons_self ..)
    have h4 := compL_if p g xs fun x hx => h x (List.mem_cons_of_mem _ hx)
    rw [List.map_cons, compL, h1]
    show (tst ρ' >>= _) = _
    rw [h2]
    show (if p x = true then _ else _) = _
    cases hp : p x with
    | true =>
      rw [if_pos rfl, h3 hp, List.filter_cons_of_pos hp]
      show (compL asg tst elt ρ (xs.map e) >>= _) = _
      rw [h4]
      rfl
    | false => rw [if_neg (by simp), h4, List.filter_cons_of_neg (by simp [hp])]
theorem atI_rg {α : Type} {n k : Nat} {f : Nat → α} (h : k < n) : atI ((List.range n).map f) (k : Int) = some (f k) := by
  rw [atI_map (by simpa using h)]
  simp
theorem set_rg {α : Type} (n k : Nat) (f : Nat → α) (x : α) : ((List.range n).map f).set k x = (List.range n).map fun i => if i = k then x else f i := by
  apply List.ext_getElem (by simp)
  intro i h1 h2
  rw [List.getElem_set]
  simp only [List.getElem_map, List.getElem_range]
  by_cases e : k = i
  · rw [if_pos e, if_pos e.symm]
  · rw [if_neg e, if_neg fun w => e w.symm]
theorem eq_rg {α : Type} [Inhabited α] (xs : List α) {n : Nat} (h : xs.length = n) : xs = (List.range n).map (at0 xs) := by
  subst h
  have := map_at0 xs id
  simpa using this
@[simp] theorem zipMD_lt (a b : List D) : zipMD [.lst a, .tup b] = some (List.zipWith (fun x y => .tup [x, y]) a b) := Eq.trans rfl rfl
@[simp] theorem zipMD_tl (a b : List D) : zipMD [.tup a, .lst b] = some (List.zipWith (fun x y => .tup [x, y]) a b) := Eq.trans rfl rfl
@[simp] theorem zipMD_ll (a b : List D) : zipMD [.lst a, .lst b] = some (List.zipWith (fun x y => .tup [x, y]) a b) := Eq.trans rfl rfl
@[simp] theorem zipMD_tt (a b : List D) : zipMD [.tup a, .tup b] = some (List.zipWith (fun x y => .tup [x, y]) a b) := Eq.trans rfl rfl
@[simp] theorem nCall_s (n : Nat) (F : List D → R (List D)) (l : EL) (ρ : Rho) : nCall n F l ρ = (l ρ >>= fun ds => if ds.length = n then F ds else .error none) := Eq.trans rfl rfl
@[simp] theorem asV_s (F : List D → R (List D)) (ds : List D) : asV F ds = (F ds >>= fun l => .ok (.lst l)) := Eq.trans rfl rfl
@[simp] theorem eIsN_c (a : EE) (ρ : Rho) : eIsN a ρ = (a ρ >>= fun x => .ok (isNon x)) := Eq.trans rfl rfl
@[simp] theorem isNon_s (x : Str) : isNon (.str x) = false := Eq.trans rfl rfl
@[simp] theorem isNon_b (x : Bool) : isNon (.bl x) = false := Eq.trans rfl rfl
@[simp] theorem isNon_l (x : List D) : isNon (.lst x) = false := Eq.trans rfl rfl
@[simp] theorem isi_ti (x : Int) : isiD "tuple" (.int x) = some (.bl false) := by simp [isiD, tyD]
@[simp] theorem isi_ts (x : Str) : isiD "tuple" (.str x) = some (.bl false) := by simp [isiD, tyD]
@[simp] theorem isi_si (x : Int) : isiD "str" (.int x) = some (.bl false) := by simp [isiD, tyD]
@[simp] theorem isi_bs (x : Str) : isiD "bool" (.str x) = some (.bl false) := by simp [isiD, tyD]
@[simp] theorem isi_bt (x : List D) : isiD "bool" (.tup x) = some (.bl false) := by simp [isiD, tyD]
@[simp] theorem gcdD_ii (a b : Int) : gcdD [.int a, .int b] = some (.int (Nat.gcd a.natAbs b.natAbs : Nat)) := Eq.trans rfl rfl
theorem ok_ite {b : Bool} {x y : D} : (if b = true then (Except.ok x : R D) else .ok y) = .ok (if b = true then x else y) := by cases b <;> rfl
@[simp] theorem bl_ite {b c : Bool} : (if b = true then (Except.ok (D.bl c) : R D) else .ok (.bl b)) = .ok (.bl (b && c)) := by cases b <;> rfl
@[simp] theorem bl_ite2 {p : Prop} [Decidable p] {c : Bool} : (if p then (Except.ok (D.bl c) : R D) else .ok (.bl false)) = .ok (.bl (decide p && c)) := by by_cases h : p <;> simp [h]
@[simp] theorem bl_ite3 {p : Prop} [Decidable p] {c : Bool} : (if p then (Except.ok (D.bl c) : R D) else .ok (.bl (decide p))) = .ok (.bl (decide p && c)) := by by_cases h : p <;> simp [h]
theorem mulT_1 {x : D} {n : Nat} (h : n ≤ 1000) : mulT (.tup [x]) (.int (n : Int)) = some (.tup ((List.range n).map fun _ => x)) := by
  have h1 : (!([x] : List D).isEmpty && decide (0 ≤ (n : Int) ∧ (n : Int) ≤ 1000) && decide (([x] : List D).length ≤ 1000)) = true := by simp; omega
  have h2 : ((List.range n).map fun _ => x) = List.replicate n x := by
    apply List.ext_getElem (by simp)
    intro i a b
    simp
  rw [mulT, if_pos h1, h2, Int.toNat_natCast, flat_rep]
theorem while_dec {c : ET} {f : ES} (I : Nat → Rho → Prop) (P : Fl × Rho → Prop)
    (step : ∀ m ρ, I m ρ → (c ρ = .ok false ∧ P (.nx, ρ)) ∨ (c ρ = .ok true ∧ ((∃ ρ' m', f ρ = .ok (.nx, ρ') ∧ m' < m ∧ I m' ρ') ∨ ∃ d ρ', f ρ = .ok (.rt d, ρ') ∧ P (.rt d, ρ')))) :
    ∀ (fuel m : Nat) (ρ : Rho), m < fuel → I m ρ → ∃ o, sWhile c f fuel ρ = .ok o ∧ P o
  | 0, _, _, h, _ => by omega
  | k + 1, m, ρ, h, hI => by
    rcases step m ρ hI with ⟨h1, h2⟩ | ⟨h1, ⟨ρ', m', h2, h3, h4⟩ | ⟨d, ρ', h2, h3⟩⟩
    · exact ⟨_, by rw [sWhile]; show (c ρ >>= _) = _; rw [h1]; rfl, h2⟩
    · obtain ⟨o, h5, h6⟩ := while_dec I P step k m' ρ' (by omega) h4
      refine ⟨o, ?_, h6⟩
      rw [sWhile]
      show (c ρ >>= _) = _
      rw [h1]
      show (f ρ >>= _) = _
      rw [h2]
      exact h5
    · refine ⟨_, ?_, h3⟩
      rw [sWhile]
      show (c ρ >>= _) = _
      rw [h1]
      show (f ρ >>= _) = _
      rw [h2]
      rfl
theorem zw_rg (n : Nat) (a b : Nat → D) : List.zipWith (fun x y => D.tup [x, y]) ((List.range n).map a) ((List.range n).map b) = (List.range n).map fun i => .tup [a i, b i] := by
  rw [List.zipWith_map, List.zipWith_self]
theorem sumD_rg (n : Nat) (f : Nat → Int) : sumD [.lst ((List.range n).map fun i => .int (f i))] = some (.int ((List.range n).map f).sum) := sumD_map _ _
theorem allD_rg (n : Nat) (p : Nat → Bool) : allD [.lst ((List.range n).map fun i => .bl (p i))] = some (.bl ((List.range n).all p)) := allD_of _ _
theorem anyD_rg (n : Nat) (p : Nat → Bool) : anyD [.lst ((List.range n).map fun i => .bl (p i))] = some (.bl ((List.range n).any p)) := anyD_of _ _
theorem all_rg {n : Nat} {p : Nat → Bool} (h : ∀ i, i < n → p i = true) : (List.range n).all p = true := by
  rw [List.all_eq_true]
  exact fun i hi => h i (List.mem_range.mp hi)
theorem any_rgF {n : Nat} {p : Nat → Bool} (h : ∀ i, i < n → p i = false) : (List.range n).any p = false := by
  rw [List.any_eq_false]
  exact fun i hi => by simp [h i (List.mem_range.mp hi)]
theorem any_rgT {n : Nat} {p : Nat → Bool} (h : ∃ i, i < n ∧ p i = true) : (List.range n).any p = true := by
  obtain ⟨i, h1, h2⟩ := h
  exact List.any_eq_true.mpr ⟨i, List.mem_range.mpr h1, h2⟩
theorem any_rgE {n : Nat} {p : Nat → Bool} (h : (List.range n).any p = true) : ∃ i, i < n ∧ p i = true := by
  obtain ⟨i, h1, h2⟩ := List.any_eq_true.mp h
  exact ⟨i, List.mem_range.mp h1, h2⟩
theorem any_rgN {n : Nat} {p : Nat → Bool} (h : (List.range n).any p = false) : ∀ i, i < n → p i = false := fun i hi => by
  have := List.any_eq_false.mp h i (List.mem_range.mpr hi)
  simpa using this
/-- sum over a filtered range -/
theorem sum_if (n : Nat) (p : Nat → Bool) (f : Nat → Int) : (((List.range n).filter p).map f).sum = ((List.range n).map fun i => if p i then f i else 0).sum := by
  generalize List.range n = l
  induction l with
  | nil => rfl
  | cons a l ih =>
    cases h : p a <;> simp [h, ih]
end PF

set_option Elab.async false
set_option linter.all false
/-! Alternating forms on rows of whole numbers. -/
namespace Dt
abbrev Vc := Nat → Int
/-! ### sums -/
def sm : Nat → (Nat → Int) → Int
  | 0, _ => 0
  | n + 1, f => sm n f + f n
theorem sm_congr {f g : Nat → Int} : ∀ (n : Nat), (∀ j, j < n → f j = g j) → sm n f = sm n g
  | 0, _ => rfl
  | n + 1, h => by rw [sm, sm, sm_congr n (fun j hj => h j (by omega)), h n (by omega)]
theorem sm_add (f g : Nat → Int) : ∀ n, sm n (fun j => f j + g j) = sm n f + sm n g
  | 0 => rfl
  | n + 1 => by rw [sm, sm, sm, sm_add f g n]; omega
theorem sm_mul (a : Int) (f : Nat → Int) : ∀ n, sm n (fun j => a * f j) = a * sm n f
  | 0 => by simp [sm]
  | n + 1 => by rw [sm, sm, sm_mul a f n, Int.mul_add]
theorem sm_zero {f : Nat → Int} (n : Nat) (h : ∀ j, j < n → f j = 0) : sm n f = 0 := by
  rw [sm_congr n h]
  induction n with
  | zero => rfl
  | succ n ih => rw [sm, ih (fun j hj => h j (by omega))]; rfl
theorem sm_one {f : Nat → Int} {k : Nat} : ∀ (n : Nat), k < n → (∀ j, j < n → j ≠ k → f j = 0) → sm n f = f k
  | 0, h, _ => by omega
  | n + 1, h, z => by
    rw [sm]
    by_cases e : k = n
    · subst e
      rw [sm_zero k (fun j hj => z j (by omega) (by omega))]; omega
    · rw [sm_one n (by omega) (fun j hj => z j (by omega)), z n (by omega) (by omega)]; omega
theorem sm_nonneg {f : Nat → Int} : ∀ (n : Nat), (∀ j, j < n → 0 ≤ f j) → 0 ≤ sm n f
  | 0, _ => by simp [sm]
  | n + 1, h => by rw [sm]; have := sm_nonneg n (fun j hj => h j (by omega)); have := h n (by omega); omega
theorem sm_pos_ex {f : Nat → Int} : ∀ (n : Nat), 0 < sm n f → ∃ j, j < n ∧ 0 < f j
  | 0, h => by simp [sm] at h
  | n + 1, h => by
    rw [sm] at h
    by_cases e : 0 < f n
    · exact ⟨n, by omega, e⟩
    · obtain ⟨j, h1, h2⟩ := sm_pos_ex (f := f) n (by omega)
      exact ⟨j, by omega, h2⟩
theorem sm_comm (f : Nat → Nat → Int) (n : Nat) : ∀ m, sm m (fun i => sm n (fun j => f i j)) = sm n (fun j => sm m (fun i => f i j))
  | 0 => by
    exact (sm_zero n (fun j _ => rfl)).symm
  | m + 1 => by
    rw [sm, sm_comm f n m, ← sm_add]
    rfl
/-! ### one column taken out, with its sign -/
def sel : List Nat → (Nat → List Nat → Int) → Int
  | [], _ => 0
  | c :: cs, f => f c cs - sel cs (fun d ds => f d (c :: ds))
theorem sel_congr : ∀ (cs : List Nat) {f g : Nat → List Nat → Int}, (∀ c r, f c r = g c r) → sel cs f = sel cs g
  | [], _, _, _ => rfl
  | c :: cs, f, g, h => by rw [sel, sel, h, sel_congr cs (fun d ds => h d (c :: ds))]
theorem sel_lin (a b : Int) : ∀ (cs : List Nat) (f g : Nat → List Nat → Int), sel cs (fun c r => a * f c r + b * g c r) = a * sel cs f + b * sel cs g
  | [], f, g => by simp [sel]
  | c :: cs, f, g => by
    rw [sel, sel, sel, sel_lin a b cs (fun d ds => f d (c :: ds)) (fun d ds => g d (c :: ds)), Int.mul_sub, Int.mul_sub]; omega
theorem sel_neg (cs : List Nat) (f : Nat → List Nat → Int) : sel cs (fun c r => - f c r) = - sel cs f := by
  have := sel_lin (-1) 0 cs f f
  rw [sel_congr cs (g := fun c r => (-1) * f c r + 0 * f c r) (fun c r => by omega), this]; omega
theorem sel_add (cs : List Nat) (f g : Nat → List Nat → Int) : sel cs (fun c r => f c r + g c r) = sel cs f + sel cs g := by
  have := sel_lin 1 1 cs f g
  rw [sel_congr cs (g := fun c r => 1 * f c r + 1 * g c r) (fun c r => by omega), this]; omega
theorem sel_sub (cs : List Nat) (f g : Nat → List Nat → Int) : sel cs (fun c r => f c r - g c r) = sel cs f - sel cs g := by
  have := sel_lin 1 (-1) cs f g
  rw [sel_congr cs (g := fun c r => 1 * f c r + (-1) * g c r) (fun c r => by omega), this]; omega
theorem sel_mul (a : Int) (cs : List Nat) (f : Nat → List Nat → Int) : sel cs (fun c r => a * f c r) = a * sel cs f := by
  have := sel_lin a 0 cs f f
  rw [sel_congr cs (g := fun c r => a * f c r + 0 * f c r) (fun c r => by omega), this]; omega
theorem sel_two : ∀ (cs : List Nat) (g : Nat → Nat → List Nat → Int), sel cs (fun c r => sel r (fun d q => g c d q)) = - sel cs (fun c r => sel r (fun d q => g d c q))
  | [], _ => rfl
  | c :: cs, g => by
    have ih := sel_two cs (fun a b q => g a b (c :: q))
    have h1 : sel (c :: cs) (fun c r => sel r (fun d q => g c d q)) = sel cs (fun d q => g c d q) - (sel cs (fun d q => g d c q) - sel cs (fun a r => sel r (fun d q => g a d (c :: q)))) := by
      rw [sel, ← sel_sub cs (fun d q => g d c q) (fun a r => sel r (fun d q => g a d (c :: q)))]; rfl
    have h2 : sel (c :: cs) (fun c r => sel r (fun d q => g d c q)) = sel cs (fun d q => g d c q) - (sel cs (fun d q => g c d q) - sel cs (fun a r => sel r (fun d q => g d a (c :: q)))) := by
      rw [sel, ← sel_sub cs (fun d q => g c d q) (fun a r => sel r (fun d q => g d a (c :: q)))]; rfl
    rw [h1, h2, ih]; omega
/-! ### the form -/
def dt : List Vc → List Nat → Int
  | [], _ => 1
  | r :: rs, cs => sel cs (fun c q => r c * dt rs q)
theorem dt_swap : ∀ (A : List Vc) (a b : Vc) (E : List Vc) (cs : List Nat), dt (A ++ a :: b :: E) cs = - dt (A ++ b :: a :: E) cs
  | [], a, b, E, cs => by
    have h : ∀ a b : Vc, dt (a :: b :: E) cs = sel cs (fun c r => sel r (fun d q => a c * b d * dt E q)) := fun a b => by
      rw [dt]
      refine sel_congr cs fun c r => ?_
      rw [dt, ← sel_mul]
      exact sel_congr r fun d q => by rw [Int.mul_assoc]
    rw [List.nil_append, List.nil_append, h a b, h b a, sel_two]
    congr 1
    exact sel_congr cs fun c r => sel_congr r fun d q => by rw [Int.mul_comm (a d)]
  | x :: A, a, b, E, cs => by
    rw [List.cons_append, List.cons_append, dt, dt, ← sel_neg]
    exact sel_congr cs fun c r => by rw [dt_swap A a b E r, Int.mul_neg]
theorem dt_same : ∀ (B A : List Vc) (a : Vc) (E : List Vc) (cs : List Nat), dt (A ++ a :: (B ++ a :: E)) cs = 0
  | [], A, a, E, cs => by
    have := dt_swap A a a E cs
    rw [List.nil_append]; omega
  | b :: B, A, a, E, cs => by
    rw [List.cons_append, dt_swap]
    have := dt_same B (A ++ [b]) a E cs
    rw [List.append_assoc, List.singleton_append] at this
    rw [this]; rfl
theorem dt_lin (x y : Int) (u v : Vc) : ∀ (V : List Vc) (p : Nat) (cs : List Nat), p < V.length → dt (V.set p (fun t => x * u t + y * v t)) cs = x * dt (V.set p u) cs + y * dt (V.set p v) cs
  | [], _, _, h => by simp at h
  | r :: V, 0, cs, _ => by
    rw [List.set_cons_zero, List.set_cons_zero, List.set_cons_zero, dt, dt, dt, ← sel_lin]
    exact sel_congr cs fun c q => by rw [Int.add_mul, Int.mul_assoc, Int.mul_assoc]
  | r :: V, p + 1, cs, h => by
    rw [List.set_cons_succ, List.set_cons_succ, List.set_cons_succ, dt, dt, dt, ← sel_lin]
    refine sel_congr cs fun c q => ?_
    rw [dt_lin x y u v V p q (by simpa using h), Int.mul_add]
    congr 1 <;> rw [← Int.mul_assoc, ← Int.mul_assoc, Int.mul_comm (r c)]
theorem dt_smul (x : Int) (u : Vc) (V : List Vc) (p : Nat) (cs : List Nat) (h : p < V.length) : dt (V.set p (fun t => x * u t)) cs = x * dt (V.set p u) cs := by
  have := dt_lin x 0 u u V p cs h
  have e : (fun t => x * u t) = (fun t => x * u t + 0 * u t) := by funext t; omega
  rw [e, this]; omega
theorem dt_sum (V : List Vc) (p : Nat) (cs : List Nat) (h : p < V.length) (a : Nat → Int) (u : Nat → Vc) : ∀ m, dt (V.set p (fun t => sm m (fun j => a j * u j t))) cs = sm m (fun j => a j * dt (V.set p (u j)) cs)
  | 0 => by
    have := dt_smul 0 (fun _ => 0) V p cs h
    have e : (fun t : Nat => sm 0 (fun j => a j * u j t)) = (fun t => 0 * (fun _ : Nat => (0 : Int)) t) := by funext t; simp [sm]
    rw [e, this]; simp [sm]
  | m + 1 => by
    have := dt_lin 1 (a m) (fun t => sm m (fun j => a j * u j t)) (u m) V p cs h
    have e : (fun t => sm (m + 1) (fun j => a j * u j t)) = (fun t => 1 * (fun t => sm m (fun j => a j * u j t)) t + a m * u m t) := by funext t; rw [sm]; show _ = 1 * sm m (fun j => a j * u j t) + _; omega
    rw [e, this, dt_sum V p cs h a u m, sm]; omega
theorem split_set {α : Type} (V : List α) {p : Nat} (h : p < V.length) (u : α) : V.set p u = V.take p ++ u :: V.drop (p + 1) := by
  rw [List.set_eq_take_append_cons_drop, if_pos h]
/-- the same vector at two places -/
theorem dt_two_lt (V : List Vc) (cs : List Nat) (u : Vc) {p q : Nat} (hpq : p < q) (hq : q < V.length) (h1 : V[p]? = some u) (h2 : V[q]? = some u) : dt V cs = 0 := by
  have e : V = V.take p ++ u :: ((V.drop (p + 1)).take (q - p - 1) ++ u :: V.drop (q + 1)) := by
    apply List.ext_getElem?
    intro i
    have hl : (List.take p V).length = p := by rw [List.length_take]; omega
    by_cases a1 : i < p
    · rw [List.getElem?_append_left (by rw [hl]; exact a1), List.getElem?_take_of_lt a1]
    · rw [List.getElem?_append_right (by rw [hl]; omega), hl]
      by_cases a2 : i = p
      · subst a2; rw [h1]; simp
      · have : i - p = (i - p - 1) + 1 := by omega
        rw [this, List.getElem?_cons_succ]
        have hl2 : (List.take (q - p - 1) (List.drop (p + 1) V)).length = q - p - 1 := by rw [List.length_take, List.length_drop]; omega
        by_cases a3 : i < q
        · rw [List.getElem?_append_left (by rw [hl2]; omega), List.getElem?_take_of_lt (by omega), List.getElem?_drop]
          congr 1; omega
        · rw [List.getElem?_append_right (by rw [hl2]; omega), hl2]
          by_cases a4 : i = q
          · subst a4; rw [h2]
            have : i - p - 1 - (i - p - 1) = 0 := by omega
            rw [this]; rfl
          · have : i - p - 1 - (q - p - 1) = (i - q - 1) + 1 := by omega
            rw [this, List.getElem?_cons_succ, List.getElem?_drop]
            congr 1; omega
  rw [e]
  exact dt_same _ _ _ _ _
theorem dt_two (V : List Vc) (cs : List Nat) (u : Vc) {p q : Nat} (hpq : p ≠ q) (h1 : V[p]? = some u) (h2 : V[q]? = some u) : dt V cs = 0 := by
  have hp := (List.getElem?_eq_some_iff.mp h1).1
  have hq := (List.getElem?_eq_some_iff.mp h2).1
  by_cases h : p < q
  · exact dt_two_lt V cs u h hq h1 h2
  · exact dt_two_lt V cs u (by omega) hp h2 h1
/-- two places changed for each other -/
theorem dt_exch (V : List Vc) (cs : List Nat) (u v : Vc) {p q : Nat} (hpq : p ≠ q) (hp : p < V.length) (hq : q < V.length) : dt ((V.set p u).set q v) cs = - dt ((V.set p v).set q u) cs := by
  have l1 : ∀ w x : Vc, dt ((V.set p w).set q (fun t => 1 * u t + 1 * v t)) cs = 1 * dt ((V.set p w).set q u) cs + 1 * dt ((V.set p w).set q v) cs := fun w _ => dt_lin 1 1 u v (V.set p w) q cs (by simpa using hq)
  have hz : ∀ w : Vc, dt ((V.set p w).set q w) cs = 0 := fun w => by
    refine dt_two _ cs w hpq ?_ ?_
    · rw [List.getElem?_set_ne (by omega), List.getElem?_set_self hp]
    · rw [List.getElem?_set_self (by simpa using hq)]
  have l2 : ∀ x : Vc, dt ((V.set p (fun t => 1 * u t + 1 * v t)).set q x) cs = 1 * dt ((V.set p u).set q x) cs + 1 * dt ((V.set p v).set q x) cs := fun x => by
    rw [List.set_comm _ _ hpq, List.set_comm _ _ hpq, List.set_comm _ _ hpq]
    exact dt_lin 1 1 u v (V.set q x) p cs (by simpa using hp)
  have h0 := hz (fun t => 1 * u t + 1 * v t)
  rw [l2, l1 u u, l1 v v, hz u, hz v] at h0
  omega
end Dt

set_option Elab.async false
set_option linter.all false
/-! Bland's rule over a cone: tableaus as alternating forms, exact division, no column set comes twice. -/
namespace Dt
theorem sel_zero : ∀ (cs : List Nat) {f : Nat → List Nat → Int}, (∀ c, c ∈ cs → ∀ r, f c r = 0) → sel cs f = 0
  | [], _, _ => rfl
  | c :: cs, f, h => by
    rw [sel, h c (List.mem_cons_self ..), sel_zero cs (fun d hd r => h d (List.mem_cons_of_mem _ hd) (c :: r))]; rfl
def un (k : Nat) : Vc := fun t => if t = k then 1 else 0
theorem dt_units : ∀ (n a : Nat), dt ((List.range' a n).map un) (List.range' a n) = 1
  | 0, _ => rfl
  | n + 1, a => by
    rw [List.range'_succ, List.map_cons, dt, sel, dt_units n (a + 1), sel_zero]
    · simp [un]
    · intro c hc r
      have := (List.mem_range'_1.mp hc).1
      simp [un, show c ≠ a by omega]
def F (n : Nat) (C : List Vc) : Int := dt C (List.range n)
def ph (n : Nat) (e : Int) (C : List Vc) (j : Nat) (w : Vc) : Int := e * F n (C.set j w)
def Sup (n : Nat) (w : Vc) : Prop := ∀ t, n ≤ t → w t = 0
def cl (C : List Vc) (j : Nat) : Vc := C.getD j (fun _ => 0)
structure Tab (n : Nat) (C : List Vc) (e s : Int) : Prop where
  len : C.length = n
  eps : e = 1 ∨ e = -1
  pos : 0 < s
  det : s = e * F n C
  rel : ∀ w, Sup n w → ∀ t, s * w t = sm n fun j => ph n e C j w * cl C j t
theorem cl_get {C : List Vc} {j : Nat} (h : j < C.length) : C[j]? = some (cl C j) := by
  unfold cl; rw [List.getD_eq_getElem?_getD, List.getElem?_eq_getElem h]; rfl
theorem set_cl {C : List Vc} {j : Nat} (h : j < C.length) : C.set j (cl C j) = C := by
  apply List.ext_getElem?
  intro i
  by_cases e : j = i
  · subst e; rw [List.getElem?_set_self h, cl_get h]
  · rw [List.getElem?_set_ne e]
theorem cl_set_ne {C : List Vc} {j c : Nat} (u : Vc) (h : j ≠ c) : cl (C.set c u) j = cl C j := by
  unfold cl; rw [List.getD_eq_getElem?_getD, List.getD_eq_getElem?_getD, List.getElem?_set_ne (by omega)]
theorem cl_set_self {C : List Vc} {c : Nat} (u : Vc) (h : c < C.length) : cl (C.set c u) c = u := by
  unfold cl; rw [List.getD_eq_getElem?_getD, List.getElem?_set_self h]; rfl
theorem F_two {n : Nat} {C : List Vc} {j k : Nat} (hj : j < C.length) (hk : k < C.length) (h : k ≠ j) : F n (C.set j (cl C k)) = 0 := by
  refine dt_two _ _ (cl C k) h ?_ (List.getElem?_set_self hj)
  rw [List.getElem?_set_ne (by omega)]
  exact cl_get hk
theorem ph_sum {n : Nat} {e : Int} {C : List Vc} {j : Nat} (hj : j < C.length) (a : Nat → Int) (u : Nat → Vc) (m : Nat) : ph n e C j (fun t => sm m fun k => a k * u k t) = sm m fun k => a k * ph n e C j (u k) := by
  unfold ph F
  rw [dt_sum _ _ _ hj, ← sm_mul]
  exact sm_congr m fun k _ => by rw [← Int.mul_assoc, ← Int.mul_assoc, Int.mul_comm e]
theorem ph_smul {n : Nat} {e : Int} {C : List Vc} {j : Nat} (hj : j < C.length) (x : Int) (u : Vc) : ph n e C j (fun t => x * u t) = x * ph n e C j u := by
  unfold ph F
  rw [dt_smul _ _ _ _ _ hj, ← Int.mul_assoc, ← Int.mul_assoc, Int.mul_comm e]
section
variable {n : Nat} {C : List Vc} {e s : Int}
theorem Tab.self (T : Tab n C e s) {j : Nat} (h : j < n) : ph n e C j (cl C j) = s := by
  have hj : j < C.length := by rw [T.len]; exact h
  unfold ph; rw [set_cl hj]; exact T.det.symm
theorem Tab.other (T : Tab n C e s) {j k : Nat} (h : j < n) (hk : k < n) (hn : k ≠ j) : ph n e C j (cl C k) = 0 := by
  unfold ph; rw [F_two (by rw [T.len]; exact h) (by rw [T.len]; exact hk) hn, Int.mul_zero]
theorem Tab.fn (T : Tab n C e s) {w : Vc} (h : Sup n w) : (fun t => s * w t) = fun t => sm n fun j => ph n e C j w * cl C j t := funext fun t => T.rel w h t
theorem Tab.plu (T : Tab n C e s) {c j : Nat} {u w : Vc} (hc : c < n) (hj : j < n) (hn : j ≠ c) (hw : Sup n w) :
    s * ph n (-e) (C.set c u) j w = - ph n e C c u * ph n e C j w + ph n e C c w * ph n e C j u := by
  have lc : c < C.length := by rw [T.len]; exact hc
  have lj : j < C.length := by rw [T.len]; exact hj
  have lj' : j < (C.set c u).length := by rw [List.length_set]; exact lj
  rw [← ph_smul lj', T.fn hw, ph_sum lj']
  have h1 : ph n (-e) (C.set c u) j (cl C j) = - ph n e C c u := by
    have : (C.set c u).set j (cl C j) = C.set c u := by
      have := set_cl lj'
      rwa [cl_set_ne u hn] at this
    unfold ph; rw [this, Int.neg_mul]
  have h2 : ph n (-e) (C.set c u) j (cl C c) = ph n e C j u := by
    unfold ph F
    rw [dt_exch C _ u (cl C c) (by omega) lc lj, set_cl lc, Int.neg_mul, Int.mul_neg, Int.neg_neg]
  have h3 : ∀ k, k < n → k ≠ j → k ≠ c → ph n (-e) (C.set c u) j (cl C k) = 0 := fun k hk a b => by
    have := F_two (n := n) (C := C.set c u) (j := j) (k := k) lj' (by rw [List.length_set, T.len]; exact hk) a
    rw [cl_set_ne u b] at this
    unfold ph; rw [this, Int.mul_zero]
  have h4 : sm n (fun k => ph n e C k w * ph n (-e) (C.set c u) j (cl C k)) = sm n (fun k => (if k = j then ph n e C j w * - ph n e C c u else 0) + (if k = c then ph n e C c w * ph n e C j u else 0)) := by
    refine sm_congr n fun k hk => ?_
    by_cases a : k = j
    · subst a
      rw [if_pos rfl, if_neg hn, h1, Int.add_zero]
    · by_cases b : k = c
      · subst b
        rw [if_neg a, if_pos rfl, h2, Int.zero_add]
      · rw [if_neg a, if_neg b, h3 k hk a b, Int.mul_zero]; rfl
  rw [h4, sm_add, sm_one n hj (fun k _ a => if_neg a), sm_one n hc (fun k _ a => if_neg a), if_pos rfl, if_pos rfl, Int.mul_comm (ph n e C j w)]
theorem ph_same {c : Nat} {u w : Vc} : ph n (-e) (C.set c u) c w = - ph n e C c w := by
  unfold ph; rw [List.set_set, Int.neg_mul]
theorem Tab.pivot (T : Tab n C e s) {c : Nat} {u : Vc} (hc : c < n) (hu : Sup n u) (hp : 0 < - ph n e C c u) : Tab n (C.set c u) (-e) (- ph n e C c u) := by
  have lc : c < C.length := by rw [T.len]; exact hc
  refine ⟨by rw [List.length_set]; exact T.len, ?_, hp, by unfold ph; rw [Int.neg_mul], fun w hw t => ?_⟩
  · rcases T.eps with h | h
    · exact .inr (by omega)
    · exact .inl (by omega)
  have hs : s ≠ 0 := by have := T.pos; omega
  apply Int.eq_of_mul_eq_mul_left hs
  rw [← sm_mul]
  have h1 : sm n (fun j => s * (ph n (-e) (C.set c u) j w * cl (C.set c u) j t)) =
      sm n (fun j => (- ph n e C c u * (ph n e C j w * cl C j t) + ph n e C c w * (ph n e C j u * cl C j t)) + (if j = c then - (ph n e C c w * (s * u t)) else 0)) := by
    refine sm_congr n fun j hj => ?_
    by_cases a : j = c
    · subst a
      rw [if_pos rfl, ph_same, cl_set_self u lc]
      have e1 : s * (-ph n e C j w * u t) = - (ph n e C j w * (s * u t)) := by
        rw [Int.neg_mul, Int.mul_neg, Int.mul_left_comm]
      have e2 : - ph n e C j u * (ph n e C j w * cl C j t) + ph n e C j w * (ph n e C j u * cl C j t) = 0 := by
        rw [Int.mul_left_comm (ph n e C j w), Int.neg_mul]; omega
      rw [e1, e2]; omega
    · rw [if_neg a, cl_set_ne u a, ← Int.mul_assoc, T.plu hc hj a hw, Int.add_mul, Int.mul_assoc, Int.mul_assoc]; omega
  rw [h1, sm_add, sm_add, sm_mul, sm_mul, sm_one n hc (fun k _ a => if_neg a), if_pos rfl, ← T.rel w hw t, ← T.rel u hu t]
  have : s * (- ph n e C c u * w t) = - ph n e C c u * (s * w t) := Int.mul_left_comm ..
  omega
end
theorem un_set (n : Nat) {j k : Nat} (hj : j < n) (hk : k < n) : F n (((List.range n).map un).set j (un k)) = if k = j then 1 else 0 := by
  have hl : j < ((List.range n).map un).length := by simpa using hj
  have hc : ∀ i, i < n → cl ((List.range n).map un) i = un i := fun i hi => by
    unfold cl; rw [List.getD_eq_getElem?_getD]; simp [hi]
  have h1 : F n ((List.range n).map un) = 1 := by
    have := dt_units n 0
    rw [← List.range_eq_range'] at this
    exact this
  by_cases a : k = j
  · subst a
    rw [if_pos rfl]
    have := set_cl hl
    rw [hc k hk] at this
    rw [this]; exact h1
  · rw [if_neg a]
    have := F_two (n := n) (C := (List.range n).map un) hl (by simpa using hk) a
    rwa [hc k hk] at this
theorem sup_un {n k : Nat} (h : k < n) : Sup n (un k) := fun t ht => by unfold un; rw [if_neg (by omega)]
theorem sup_sum {n : Nat} {w : Vc} (h : Sup n w) : w = fun t => sm n fun k => w k * un k t := funext fun t => by
  by_cases a : t < n
  · rw [sm_one n a (fun k _ b => by unfold un; rw [if_neg (by omega), Int.mul_zero])]
    unfold un; rw [if_pos rfl, Int.mul_one]
  · rw [h t (by omega), sm_zero n (fun k hk => by unfold un; rw [if_neg (by omega), Int.mul_zero])]
theorem ph_start {n : Nat} {j : Nat} {w : Vc} (hj : j < n) (hw : Sup n w) : ph n 1 ((List.range n).map un) j w = w j := by
  have hl : j < ((List.range n).map un).length := by simpa using hj
  have h := ph_sum (n := n) (e := 1) hl w un n
  rw [← sup_sum hw] at h
  rw [h, sm_one n hj (fun k hk b => by unfold ph; rw [un_set n hj hk, if_neg b]; omega)]
  unfold ph; rw [un_set n hj hj, if_pos rfl]; omega
theorem tab_start (n : Nat) : Tab n ((List.range n).map un) 1 1 := by
  refine ⟨by simp, .inl rfl, by omega, ?_, fun w hw t => ?_⟩
  · have := dt_units n 0
    rw [← List.range_eq_range'] at this
    show 1 = 1 * dt _ _
    rw [this]; rfl
  · have h1 : sm n (fun j => ph n 1 ((List.range n).map un) j w * cl ((List.range n).map un) j t) = sm n (fun k => w k * un k t) := sm_congr n fun j hj => by
      rw [ph_start hj hw]
      congr 1
      unfold cl; rw [List.getD_eq_getElem?_getD]; simp [hj]
    rw [h1, Int.one_mul]
    exact congrFun (sup_sum hw) t
/-- a point for a column: all functionals at once -/
theorem ph_point {n : Nat} {e : Int} {C : List Vc} {j : Nat} (hj : j < C.length) {w : Vc} (hw : Sup n w) : ph n e C j w = sm n fun t => w t * ph n e C j (un t) := by
  have h := ph_sum (n := n) (e := e) hj w un n
  rw [← sup_sum hw] at h
  exact h
/-! ### how large -/
theorem sel_bound (M : Nat) : ∀ (cs : List Nat) (f : Nat → List Nat → Int), (∀ c r, c ∈ cs → r.length + 1 = cs.length → (f c r).natAbs ≤ M) → (sel cs f).natAbs ≤ cs.length * M
  | [], _, _ => by simp [sel]
  | c :: cs, f, h => by
    have h1 := h c cs (List.mem_cons_self ..) (by simp)
    have h2 := sel_bound M cs (fun d ds => f d (c :: ds)) (fun d r hd hr => h d (c :: r) (List.mem_cons_of_mem _ hd) (by simpa using hr))
    rw [sel, List.length_cons, Nat.add_mul]
    omega
theorem dt_bound (L M : Nat) : ∀ (V : List Vc) (cs : List Nat), cs.length ≤ L → (∀ v ∈ V, ∀ t, (v t).natAbs ≤ M) → (dt V cs).natAbs ≤ (L * M) ^ V.length
  | [], _, _, _ => by simp [dt]
  | r :: V, cs, hl, h => by
    rw [dt, List.length_cons, Nat.pow_succ]
    refine Nat.le_trans (sel_bound (M * (L * M) ^ V.length) cs _ fun c q hc hq => ?_) ?_
    · rw [Int.natAbs_mul]
      exact Nat.mul_le_mul (h r (List.mem_cons_self ..) c) (dt_bound L M V q (by omega) fun v hv => h v (List.mem_cons_of_mem _ hv))
    · rw [Nat.mul_comm ((L * M) ^ V.length), Nat.mul_assoc]
      exact Nat.mul_le_mul_right _ hl
theorem ph_bound {n M : Nat} {e : Int} {C : List Vc} {j : Nat} {w : Vc} (he : e = 1 ∨ e = -1) (hl : C.length = n) (hC : ∀ v ∈ C, ∀ t, (v t).natAbs ≤ M) (hw : ∀ t, (w t).natAbs ≤ M) : (ph n e C j w).natAbs ≤ (n * M) ^ n := by
  have h := dt_bound n M (C.set j w) (List.range n) (by simp) (fun v hv => by
    rcases List.mem_or_eq_of_mem_set hv with h | h
    · exact hC v h
    · subst h; exact hw)
  rw [List.length_set, hl] at h
  unfold ph F
  rcases he with he | he <;> subst he
  · rwa [Int.one_mul]
  · rwa [Int.neg_mul, Int.one_mul, Int.natAbs_neg]
theorem sum_sm (f : Nat → Int) : ∀ n, ((List.range n).map f).sum = sm n f
  | 0 => rfl
  | n + 1 => by rw [List.range_succ, List.map_append, List.sum_append, sum_sm f n, sm]; simp
end Dt

set_option Elab.async false
set_option linter.all false
/-! Bland's rule ends. -/
namespace Dt
/-- names with functionals; a goal -/
structure Cn where
  n : Nat
  N : Nat
  fu : Nat → Vc
  g : Vc
  sup : ∀ y, Sup n (fu y)
  supg : Sup n g
/-- the columns' names are good -/
structure Col (Z : Cn) (cs : List Nat) (e s : Int) : Prop where
  tab : Tab Z.n (cs.map Z.fu) e s
  nd : cs.Nodup
  lt : ∀ y ∈ cs, y < Z.N
def pz (Z : Cn) (cs : List Nat) (e : Int) (j : Nat) (w : Vc) : Int := ph Z.n e (cs.map Z.fu) j w
/-- one step: column a enters, name r leaves -/
structure Go (Z : Cn) (cs : List Nat) (e s : Int) (a r : Nat) : Prop where
  col : Col Z cs e s
  ha : a < Z.n
  hr : r < Z.N
  hn : r ∉ cs
  cost : 0 < pz Z cs e a Z.g
  best : ∀ j, j < Z.n → 0 < pz Z cs e j Z.g → cs.getD a 0 ≤ cs.getD j 0
  row : pz Z cs e a (Z.fu r) < 0
  least : ∀ y, y < Z.N → y ∉ cs → pz Z cs e a (Z.fu y) < 0 → r ≤ y
section
variable {Z : Cn} {cs : List Nat} {e s : Int} {a r : Nat}
theorem Col.len (C : Col Z cs e s) : cs.length = Z.n := by have := C.tab.len; simpa using this
theorem Col.cl (C : Col Z cs e s) {j : Nat} (h : j < Z.n) : Dt.cl (cs.map Z.fu) j = Z.fu (cs.getD j 0) := by
  have := C.len
  unfold Dt.cl
  rw [List.getD_eq_getElem?_getD, List.getD_eq_getElem?_getD, List.getElem?_map, List.getElem?_eq_getElem (by omega)]
  rfl
theorem Go.next (G : Go Z cs e s a r) : Col Z (cs.set a r) (-e) (- pz Z cs e a (Z.fu r)) := by
  refine ⟨?_, ?_, ?_⟩
  · rw [List.map_set]
    exact G.col.tab.pivot G.ha (Z.sup r) (by have := G.row; unfold pz at this; omega)
  · have hl := G.col.len
    have ha : a < cs.length := by rw [hl]; exact G.ha
    rw [List.set_eq_take_append_cons_drop, if_pos ha]
    have nd := G.col.nd
    have e1 : cs = cs.take a ++ cs.drop a := (List.take_append_drop a cs).symm
    rw [e1, List.nodup_append] at nd
    obtain ⟨n1, n2, n3⟩ := nd
    rw [List.drop_eq_getElem_cons ha, List.nodup_cons] at n2
    rw [List.nodup_append, List.nodup_cons]
    refine ⟨n1, ⟨fun h => G.hn (List.mem_of_mem_drop h), n2.2⟩, fun x hx y hy => ?_⟩
    rcases List.mem_cons.mp hy with h | h
    · subst h
      rintro rfl
      exact G.hn (List.mem_of_mem_take hx)
    · refine n3 x hx y ?_
      rw [List.drop_eq_getElem_cons ha]
      exact List.mem_cons_of_mem _ h
  · intro y hy
    rcases List.mem_or_eq_of_mem_set hy with h | h
    · exact G.col.lt y h
    · subst h; exact G.hr
theorem Col.at (C : Col Z cs e s) {y : Nat} (h : y ∈ cs) : ∃ j, j < Z.n ∧ cs.getD j 0 = y := by
  obtain ⟨j, h1, h2⟩ := List.mem_iff_getElem.mp h
  refine ⟨j, by rw [← C.len]; exact h1, ?_⟩
  rw [List.getD_eq_getElem?_getD, List.getElem?_eq_getElem h1]; exact h2
theorem Col.mem (C : Col Z cs e s) {j : Nat} (h : j < Z.n) : cs.getD j 0 ∈ cs := by
  have := C.len
  rw [List.getD_eq_getElem?_getD, List.getElem?_eq_getElem (by omega)]
  exact List.getElem_mem _
theorem Col.inj (C : Col Z cs e s) {i j : Nat} (hi : i < Z.n) (hj : j < Z.n) (h : cs.getD i 0 = cs.getD j 0) : i = j := by
  have := C.len
  rw [List.getD_eq_getElem?_getD, List.getElem?_eq_getElem (by omega), List.getD_eq_getElem?_getD, List.getElem?_eq_getElem (by omega)] at h
  exact (List.getElem_inj C.nd).mp h
theorem Col.val (C : Col Z cs e s) {i j : Nat} (hi : i < Z.n) (hj : j < Z.n) : pz Z cs e j (Z.fu (cs.getD i 0)) = if i = j then s else 0 := by
  unfold pz
  rw [← C.cl hi]
  by_cases a : i = j
  · subst a; rw [if_pos rfl]; exact C.tab.self hi
  · rw [if_neg a]; exact C.tab.other hj hi a
/-- membership after a step -/
theorem Go.mem (G : Go Z cs e s a r) (y : Nat) : y ∈ cs.set a r ↔ y = r ∨ (y ∈ cs ∧ y ≠ cs.getD a 0) := by
  have hl := G.col.len
  have ha : a < cs.length := by rw [hl]; exact G.ha
  constructor
  · intro h
    obtain ⟨j, h1, h2⟩ := List.mem_iff_getElem.mp h
    rw [List.getElem_set] at h2
    by_cases b : a = j
    · rw [if_pos b] at h2; exact .inl h2.symm
    · rw [if_neg b] at h2
      rw [List.length_set] at h1
      refine .inr ⟨by rw [← h2]; exact List.getElem_mem _, ?_⟩
      rintro rfl
      refine b (G.col.inj G.ha (by omega) ?_)
      rw [← h2, List.getD_eq_getElem?_getD (l := cs) (i := j), List.getElem?_eq_getElem h1]; rfl
  · rintro (h | ⟨h, h'⟩)
    · subst h; exact List.mem_iff_getElem.mpr ⟨a, by rw [List.length_set]; exact ha, by rw [List.getElem_set_self]⟩
    · obtain ⟨j, h1, h2⟩ := List.mem_iff_getElem.mp h
      refine List.mem_iff_getElem.mpr ⟨j, by rw [List.length_set]; exact h1, ?_⟩
      rw [List.getElem_set, if_neg]
      · exact h2
      · rintro rfl
        refine h' ?_
        rw [List.getD_eq_getElem?_getD, List.getElem?_eq_getElem h1]; exact h2.symm
end
/-- the heart: t enters at p and leaves at q, all that change are at most t -/
theorem bland {Z : Cn} {p q : List Nat} {ep sp eq sq : Int} {ap rp aq t : Nat} (P : Go Z p ep sp ap rp) (Q : Go Z q eq sq aq t) (ht : p.getD ap 0 = t)
    (hf : ∀ y, y ∈ p → (y ∉ q ∨ y = q.getD aq 0) → y ≤ t) : False := by
  have h1 : sp * pz Z q eq aq Z.g = sm Z.n fun j => pz Z p ep j Z.g * pz Z q eq aq (Z.fu (p.getD j 0)) := by
    have ha : aq < (q.map Z.fu).length := by rw [List.length_map, Q.col.len]; exact Q.ha
    unfold pz
    rw [← ph_smul ha, P.col.tab.fn Z.supg, ph_sum ha]
    exact sm_congr _ fun j hj => by rw [P.col.cl hj]
  have h2 : 0 < sp * pz Z q eq aq Z.g := Int.mul_pos P.col.tab.pos Q.cost
  rw [h1] at h2
  obtain ⟨j, hj, h3⟩ := sm_pos_ex _ h2
  have hy := P.col.mem hj
  by_cases c1 : p.getD j 0 = t
  · have : j = ap := P.col.inj hj P.ha (by rw [c1, ht])
    subst this
    rw [c1] at h3
    have := Int.mul_neg_of_pos_of_neg P.cost Q.row
    omega
  · by_cases c2 : p.getD j 0 ∈ q
    · obtain ⟨i, hi, h4⟩ := Q.col.at c2
      rw [← h4, Q.col.val hi Q.ha] at h3
      by_cases c3 : i = aq
      · subst c3
        rw [if_pos rfl] at h3
        have hc : 0 < pz Z p ep j Z.g := by
          by_cases z : 0 < pz Z p ep j Z.g
          · exact z
          · have := Int.mul_le_mul_of_nonneg_right (a := pz Z p ep j Z.g) (b := 0) (c := sq) (by omega) (by have := Q.col.tab.pos; omega)
            omega
        have h5 := P.best j hj hc
        have h6 := hf _ hy (.inr h4.symm)
        rw [ht] at h5
        omega
      · rw [if_neg c3] at h3; omega
    · have h6 := hf _ hy (.inl c2)
      by_cases z : 0 < pz Z p ep j Z.g
      · have h5 := P.best j hj z
        rw [ht] at h5
        omega
      · have h7 : pz Z q eq aq (Z.fu (p.getD j 0)) < 0 := by
          by_cases z2 : pz Z q eq aq (Z.fu (p.getD j 0)) < 0
          · exact z2
          · have := Int.mul_le_mul_of_nonneg_right (a := pz Z p ep j Z.g) (b := 0) (c := pz Z q eq aq (Z.fu (p.getD j 0))) (by omega) (by omega)
            omega
        have := Q.least _ (P.col.lt _ hy) c2 h7
        omega
/-- up and down again -/
theorem updown (b : Nat → Bool) : ∀ k, b 0 = b k → (∃ i, i ≤ k ∧ b i ≠ b 0) → (∃ i, i < k ∧ b i = true ∧ b (i + 1) = false) ∧ ∃ i, i < k ∧ b i = false ∧ b (i + 1) = true := by
  intro k h0 ⟨i, hi, h1⟩
  have mono : ∀ (c : Bool) (lo hi : Nat), lo ≤ hi → b lo = c → b hi = !c → ∃ i, lo ≤ i ∧ i < hi ∧ b i = c ∧ b (i + 1) = !c := by
    intro c lo hi
    induction hi with
    | zero => intro h e1 e2; obtain rfl : lo = 0 := by omega
              rw [e1] at e2; cases c <;> cases e2
    | succ hi ih =>
      intro h e1 e2
      by_cases z : lo = hi + 1
      · subst z; rw [e1] at e2; cases c <;> cases e2
      · by_cases y : b hi = c
        · exact ⟨hi, by omega, by omega, y, e2⟩
        · obtain ⟨i, a1, a2, a3⟩ := ih (by omega) e1 (by cases c <;> cases h : b hi <;> simp_all)
          exact ⟨i, a1, by omega, a3⟩
  have hne : b i = !b 0 := by cases h : b i <;> cases h' : b 0 <;> simp_all
  obtain ⟨i1, a1, a2, a3, a4⟩ := mono (b 0) 0 i (by omega) rfl hne
  obtain ⟨i2, c1, c2, c3, c4⟩ := mono (!b 0) i k hi hne (by rw [← h0]; simp)
  cases h : b 0
  · rw [h] at a3 a4 c3 c4
    exact ⟨⟨i2, c2, c3, c4⟩, ⟨i1, by omega, a3, a4⟩⟩
  · rw [h] at a3 a4 c3 c4
    exact ⟨⟨i1, by omega, a3, a4⟩, ⟨i2, c2, c3, c4⟩⟩
/-- the greatest number with a mark -/
theorem greatest (p : Nat → Prop) (N : Nat) (h : ∃ y, y < N ∧ p y) : ∃ y, y < N ∧ p y ∧ ∀ z, z < N → p z → z ≤ y := by
  induction N with
  | zero => obtain ⟨y, h, _⟩ := h; omega
  | succ N ih =>
    by_cases c : p N
    · exact ⟨N, by omega, c, fun z hz _ => by omega⟩
    · obtain ⟨y, h1, h2⟩ := h
      have hy : y ≠ N := by rintro rfl; exact c h2
      obtain ⟨x, a1, a2, a3⟩ := ih ⟨y, by omega, h2⟩
      refine ⟨x, by omega, a2, fun z hz pz => ?_⟩
      have : z ≠ N := by rintro rfl; exact c pz
      exact a3 z (by omega) pz
theorem no_cycle {Z : Cn} (S : Nat → List Nat) (k : Nat) (hk : 0 < k) (hs : ∀ i, i < k → ∃ e s a r, Go Z (S i) e s a r ∧ S (i + 1) = (S i).set a r)
    (hc : ∀ y, y ∈ S 0 ↔ y ∈ S k) : False := by
  let fick : Nat → Prop := fun y => ∃ i, i ≤ k ∧ (decide (y ∈ S i)) ≠ decide (y ∈ S 0)
  have hb : ∀ y, decide (y ∈ S 0) = decide (y ∈ S k) := fun y => by
    by_cases h : y ∈ S 0
    · rw [decide_eq_true h, decide_eq_true ((hc y).mp h)]
    · rw [decide_eq_false h, decide_eq_false (fun z => h ((hc y).mpr z))]
  obtain ⟨e0, s0, a0, r0, G0, n0⟩ := hs 0 hk
  have hex : ∃ y, y < Z.N ∧ fick y := ⟨r0, G0.hr, 1, by omega, by
    rw [n0, decide_eq_true ((G0.mem r0).mpr (.inl rfl)), decide_eq_false G0.hn]; decide⟩
  obtain ⟨t, ht, ⟨i, hi, hne⟩, hmax⟩ := greatest fick Z.N hex
  obtain ⟨⟨p, hp, p1, p2⟩, ⟨q, hq, q1, q2⟩⟩ := updown (fun i => decide (t ∈ S i)) k (hb t) ⟨i, hi, hne⟩
  obtain ⟨ep, sp, ap, rp, P, np⟩ := hs p hp
  obtain ⟨eq, sq, aq, rq, Q, nq⟩ := hs q hq
  have p1 := of_decide_eq_true p1
  have p2 := of_decide_eq_false p2
  have q1 := of_decide_eq_false q1
  have q2 := of_decide_eq_true q2
  have e1 : (S p).getD ap 0 = t := by
    by_cases z : (S p).getD ap 0 = t
    · exact z
    · exact absurd (by rw [np]; exact (P.mem t).mpr (.inr ⟨p1, fun h => z h.symm⟩)) p2
  have e2 : rq = t := by
    rw [nq] at q2
    rcases (Q.mem t).mp q2 with h | h
    · exact h.symm
    · exact absurd h.1 q1
  subst e2
  refine bland P Q e1 fun y hy h => hmax y (P.col.lt y hy) ?_
  have two : ∀ i j, i ≤ k → j ≤ k → y ∈ S i → y ∉ S j → fick y := fun i j hi hj h1 h2 => by
    by_cases z : y ∈ S 0
    · exact ⟨j, hj, by rw [decide_eq_false h2, decide_eq_true z]; decide⟩
    · exact ⟨i, hi, by rw [decide_eq_true h1, decide_eq_false z]; decide⟩
  rcases h with h | h
  · exact two p q (by omega) (by omega) hy h
  · refine two q (q + 1) (by omega) (by omega) ?_ ?_
    · rw [h]; exact Q.col.mem Q.ha
    · rw [nq]
      intro z
      rcases (Q.mem y).mp z with z | z
      · subst z
        exact Q.hn (by rw [h]; exact Q.col.mem Q.ha)
      · exact z.2 h
/-! ### so many sets only -/
def mask (c : List Nat) : Nat → Nat
  | 0 => 0
  | N + 1 => (if N ∈ c then 2 ^ N else 0) + mask c N
theorem mask_lt (c : List Nat) : ∀ N, mask c N < 2 ^ N
  | 0 => by simp [mask]
  | N + 1 => by
    have := mask_lt c N
    rw [mask, Nat.pow_succ]
    split <;> omega
theorem mask_eq (c d : List Nat) : ∀ N, mask c N = mask d N → ∀ y, y < N → (y ∈ c ↔ y ∈ d)
  | 0, _, y, h => by omega
  | N + 1, h, y, hy => by
    have h1 := mask_lt c N
    have h2 := mask_lt d N
    rw [mask, mask] at h
    have h3 : (N ∈ c ↔ N ∈ d) ∧ mask c N = mask d N := by
      by_cases a : N ∈ c
      · by_cases b : N ∈ d
        · rw [if_pos a, if_pos b] at h
          exact ⟨⟨fun _ => b, fun _ => a⟩, by omega⟩
        · rw [if_pos a, if_neg b] at h; omega
      · by_cases b : N ∈ d
        · rw [if_neg a, if_pos b] at h; omega
        · rw [if_neg a, if_neg b] at h
          exact ⟨⟨fun z => absurd z a, fun z => absurd z b⟩, by omega⟩
    by_cases z : y = N
    · subst z; exact h3.1
    · exact mask_eq c d N h3.2 y (by omega)
theorem pigeon : ∀ (K : Nat) (f : Nat → Nat), (∀ i, i ≤ K → f i < K) → ∃ i j, i < j ∧ j ≤ K ∧ f i = f j
  | 0, f, h => by have := h 0 (by omega); omega
  | K + 1, f, h => by
    by_cases c : ∃ i, i ≤ K ∧ f i = f (K + 1)
    · obtain ⟨i, h1, h2⟩ := c
      exact ⟨i, K + 1, by omega, by omega, h2⟩
    · have c' : ∀ i, i ≤ K → f i ≠ f (K + 1) := fun i hi e => c ⟨i, hi, e⟩
      obtain ⟨i, j, a1, a2, a3⟩ := pigeon K (fun i => if f i > f (K + 1) then f i - 1 else f i) (fun i hi => by
        have h1 := h i (by omega)
        have h2 := h (K + 1) (by omega)
        have h3 := c' i hi
        show (if f i > f (K + 1) then f i - 1 else f i) < K
        split <;> omega)
      refine ⟨i, j, a1, by omega, ?_⟩
      have h3 := c' i (by omega)
      have h4 := c' j (by omega)
      have a3 : (if f i > f (K + 1) then f i - 1 else f i) = (if f j > f (K + 1) then f j - 1 else f j) := a3
      split at a3 <;> split at a3 <;> omega
theorem bland_ends {Z : Cn} (S : Nat → List Nat) (k : Nat) (hs : ∀ i, i < k → ∃ e s a r, Go Z (S i) e s a r ∧ S (i + 1) = (S i).set a r) (h0 : ∀ y ∈ S 0, y < Z.N) : k < 2 ^ Z.N := by
  by_cases hk : k < 2 ^ Z.N
  · exact hk
  · exfalso
    obtain ⟨i, j, a1, a2, a3⟩ := pigeon (2 ^ Z.N) (fun i => mask (S i) Z.N) (fun i _ => mask_lt _ _)
    have hlt : ∀ i, i ≤ k → ∀ y ∈ S i, y < Z.N := fun i hi => by
      cases i with
      | zero => exact h0
      | succ i =>
        obtain ⟨e, s, a, r, G, n⟩ := hs i (by omega)
        rw [n]; exact G.next.lt
    refine no_cycle (Z := Z) (fun x => S (i + x)) (j - i) (by omega) (fun x hx => hs (i + x) (by omega)) fun y => ?_
    show y ∈ S (i + 0) ↔ y ∈ S (i + (j - i))
    rw [Nat.add_zero, show i + (j - i) = j by omega]
    by_cases z : y < Z.N
    · exact mask_eq _ _ _ a3 y z
    · exact ⟨fun h => absurd (hlt i (by omega) y h) z, fun h => absurd (hlt j (by omega) y h) z⟩
end Dt

set_option Elab.async false
set_option linter.all false
/-! k30, plain: papers and rows. -/
namespace Kp
open Dt
theorem sm_le {f g : Nat → Int} : ∀ n, (∀ j, j < n → f j ≤ g j) → sm n f ≤ sm n g
  | 0, _ => Int.le_refl _
  | n + 1, h => by
    rw [sm, sm]
    have := sm_le n fun j hj => h j (by omega)
    have := h n (by omega)
    omega
theorem sm_lt {f g : Nat → Int} {k : Nat} : ∀ n, (∀ j, j < n → f j ≤ g j) → k < n → f k < g k → sm n f < sm n g
  | 0, _, h, _ => by omega
  | n + 1, h, hk, hl => by
    rw [sm, sm]
    have h1 := h n (by omega)
    by_cases e : k = n
    · subst e
      have := sm_le k fun j hj => h j (by omega)
      omega
    · have := sm_lt n (fun j hj => h j (by omega)) (by omega : k < n) hl
      omega
theorem sm_neg (f : Nat → Int) (n : Nat) : sm n (fun j => - f j) = - sm n f := by
  have := sm_mul (-1) f n
  rw [← sm_congr n (f := fun j => -1 * f j) (fun j _ => by omega)]
  omega
theorem sm_abs {f : Nat → Int} {M : Nat} : ∀ n, (∀ j, j < n → (f j).natAbs ≤ M) → (sm n f).natAbs ≤ n * M
  | 0, _ => by simp [sm]
  | n + 1, h => by
    rw [sm, Nat.add_mul]
    have := sm_abs n fun j hj => h j (by omega)
    have := h n (by omega)
    omega
abbrev Tb := Nat → Nat → Int
abbrev Vk := Nat → Int
def colS (n : Nat) (u : Vk) (T : Tb) (j : Nat) : Int := sm n fun i => u i * T i j
def rowS (n : Nat) (T : Tb) (y : Vk) (i : Nat) : Int := sm n fun j => T i j * y j
structure Pap1 (n : Nat) (T : Tb) (u : Vk) : Prop where
  pos : ∀ i, i < n → 0 ≤ u i
  sum : ∀ j, j < n → 1 ≤ colS n u T j
structure Row1 (n : Nat) (T : Tb) (y : Vk) : Prop where
  pos : ∀ i, i < n → 0 ≤ y i
  one : ∃ i, i < n ∧ 0 < y i
  row : ∀ i, i < n → rowS n T y i ≤ 0
structure Pap2 (n : Nat) (T : Tb) (u : Vk) : Prop where
  pos : ∀ i, i < n → 0 ≤ u i
  sum : ∀ j, j < n → 0 ≤ colS n u T j
  one : ∀ j, j < n → 1 ≤ u j + colS n u T j
structure Row2 (n : Nat) (T : Tb) (y : Vk) : Prop where
  pos : ∀ i, i < n → 0 ≤ y i
  row : ∀ i, i < n → rowS n T y i ≤ 0
  one : ∃ i, i < n ∧ 1 ≤ y i ∧ rowS n T y i ≤ -1
theorem Row2.row1 {n : Nat} {T : Tb} {y : Vk} (h : Row2 n T y) : Row1 n T y := ⟨h.pos, let ⟨i, a, b, _⟩ := h.one; ⟨i, a, by omega⟩, h.row⟩
theorem swap (n : Nat) (T : Tb) (u y : Vk) : sm n (fun i => u i * rowS n T y i) = sm n fun j => colS n u T j * y j := by
  have h1 : sm n (fun i => u i * rowS n T y i) = sm n fun i => sm n fun j => u i * (T i j * y j) := sm_congr n fun i _ => by unfold rowS; rw [sm_mul]
  have h2 : sm n (fun j => colS n u T j * y j) = sm n fun j => sm n fun i => u i * (T i j * y j) := sm_congr n fun j _ => by
    unfold colS
    rw [Int.mul_comm, ← sm_mul]
    exact sm_congr n fun i _ => by rw [Int.mul_comm (y j), Int.mul_assoc]
  rw [h1, h2, sm_comm]
theorem le0_mul {a b : Int} (h1 : 0 ≤ a) (h2 : b ≤ 0) : a * b ≤ 0 := by
  have := Int.mul_nonneg h1 (by omega : 0 ≤ -b)
  rw [Int.mul_neg] at this
  omega
theorem no11 {n : Nat} {T : Tb} {u y : Vk} (p : Pap1 n T u) (r : Row1 n T y) : False := by
  have h := swap n T u y
  have h1 : sm n (fun i => u i * rowS n T y i) ≤ sm n fun _ => 0 := sm_le n fun i hi => le0_mul (p.pos i hi) (r.row i hi)
  obtain ⟨k, hk, hp⟩ := r.one
  have h2 : sm n (fun _ => 0) < sm n fun j => colS n u T j * y j := sm_lt n (k := k) (fun j hj => Int.mul_nonneg (by have := p.sum j hj; omega) (r.pos j hj)) hk (Int.mul_pos (by have := p.sum k hk; omega) hp)
  omega
theorem no22 {n : Nat} {T : Tb} {u y : Vk} (p : Pap2 n T u) (r : Row2 n T y) : False := by
  have h := swap n T u y
  obtain ⟨k, hk, h3, h4⟩ := r.one
  have h5 := p.one k hk
  have h6 := p.sum k hk
  have h7 := p.pos k hk
  have h1 : sm n (fun i => u i * rowS n T y i) < sm n fun j => colS n u T j * y j := by
    refine sm_lt n (k := k) (fun j hj => ?_) hk ?_
    · have := le0_mul (p.pos j hj) (r.row j hj)
      have := Int.mul_nonneg (p.sum j hj) (r.pos j hj)
      omega
    · by_cases c : 0 < u k
      · have a : u k * rowS n T y k < 0 := Int.mul_neg_of_pos_of_neg c (by omega)
        have := Int.mul_nonneg h6 (r.pos k hk)
        omega
      · have := le0_mul h7 (r.row k hk)
        have : 0 < colS n u T k * y k := Int.mul_pos (by omega) (by omega)
        omega
  omega
/-! ### quadratic forms -/
def quad (n : Nat) (T : Tb) (y : Vk) : Int := sm n fun i => y i * rowS n T y i
def Psd (n : Nat) (m : Int) (T : Tb) : Prop := ∀ y, m * sm n (fun i => y i * y i) ≤ quad n T y
theorem quad_le {n : Nat} {T : Tb} {y : Vk} (h1 : ∀ i, i < n → 0 ≤ y i) (h2 : ∀ i, i < n → rowS n T y i ≤ 0) : quad n T y ≤ 0 := by
  have := sm_le (f := fun i => y i * rowS n T y i) (g := fun _ => 0) n fun i hi => le0_mul (h1 i hi) (h2 i hi)
  rw [sm_zero (f := fun _ => 0) n fun _ _ => rfl] at this
  exact this
theorem no_row1 {n : Nat} {T : Tb} (p : Psd n 1 T) {y : Vk} (r : Row1 n T y) : False := by
  have h1 := p y
  have h2 := quad_le r.pos r.row
  obtain ⟨k, hk, hp⟩ := r.one
  have h3 : sm n (fun _ => 0) < sm n fun i => y i * y i := sm_lt n (k := k) (fun j hj => Int.mul_nonneg (r.pos j hj) (r.pos j hj)) hk (Int.mul_pos hp hp)
  rw [sm_zero (f := fun _ => 0) n fun _ _ => rfl] at h3
  omega
theorem sq_nonneg (a : Int) : 0 ≤ a * a := by
  rcases Int.le_total 0 a with h | h
  · exact Int.mul_nonneg h h
  · have := Int.mul_nonneg (by omega : 0 ≤ -a) (by omega : 0 ≤ -a)
    rwa [Int.neg_mul_neg] at this
theorem Psd.le {n : Nat} {T : Tb} {m : Int} (h : Psd n m T) (h0 : 0 ≤ m) : Psd n 0 T := fun y => by
  have := h y
  have := Int.mul_nonneg h0 (sm_nonneg (f := fun i => y i * y i) n fun i _ => sq_nonneg _)
  omega
theorem no_row2 {n : Nat} {T : Tb} (p : Psd n 0 T) {y : Vk} (r : Row2 n T y) : False := by
  have h1 := p y
  obtain ⟨k, hk, h3, h4⟩ := r.one
  have h5 : quad n T y < sm n fun _ => 0 := sm_lt n (k := k) (fun i hi => le0_mul (r.pos i hi) (r.row i hi)) hk (Int.mul_neg_of_pos_of_neg (by omega) (by omega))
  rw [sm_zero (f := fun _ => 0) n fun _ _ => rfl] at h5
  omega
theorem Psd.tr {n : Nat} {m : Int} {T : Tb} (p : Psd n m T) : Psd n m fun i j => T j i := fun y => by
  have h := p y
  have e : quad n (fun i j => T j i) y = quad n T y := by
    unfold quad
    rw [swap]
    refine sm_congr n fun i _ => ?_
    rw [Int.mul_comm]
    congr 1
    exact sm_congr n fun j _ => Int.mul_comm _ _
  rw [e]
  exact h
theorem Psd.sg {n : Nat} {m : Int} {T : Tb} (p : Psd n m T) {s : Vk} (hs : ∀ i, i < n → s i * s i = 1) : Psd n m fun i j => s i * s j * T i j := fun y => by
  have h := p fun i => s i * y i
  have e1 : sm n (fun i => s i * y i * (s i * y i)) = sm n fun i => y i * y i := sm_congr n fun i hi => by
    have : s i * y i * (s i * y i) = (s i * s i) * (y i * y i) := by
      rw [Int.mul_assoc, Int.mul_left_comm (y i), ← Int.mul_assoc]
    rw [this, hs i hi, Int.one_mul]
  have e2 : quad n (fun i j => s i * s j * T i j) y = quad n T fun i => s i * y i := by
    unfold quad
    refine sm_congr n fun i _ => ?_
    have : rowS n (fun i j => s i * s j * T i j) y i = s i * rowS n T (fun i => s i * y i) i := by
      unfold rowS
      rw [← sm_mul]
      refine sm_congr n fun j _ => ?_
      simp only [Int.mul_assoc]
      congr 1
      simp only [Int.mul_left_comm, Int.mul_comm]
    rw [this]
    simp only [Int.mul_assoc, Int.mul_left_comm]
  rw [e2, ← e1]
  exact h
theorem quad_add (n : Nat) (A B : Tb) (y : Vk) : quad n (fun i j => A i j + B i j) y = quad n A y + quad n B y := by
  unfold quad
  rw [← sm_add]
  refine sm_congr n fun i _ => ?_
  rw [← Int.mul_add]
  congr 1
  unfold rowS
  rw [← sm_add]
  exact sm_congr n fun j _ => Int.add_mul _ _ _
theorem quad_sq (n : Nat) (f y : Vk) : quad n (fun i j => f i * f j) y = sm n (fun i => f i * y i) * sm n fun i => f i * y i := by
  unfold quad
  rw [← sm_mul]
  refine sm_congr n fun i _ => ?_
  have : rowS n (fun i j => f i * f j) y i = f i * sm n fun i => f i * y i := by
    unfold rowS
    rw [← sm_mul]
    exact sm_congr n fun j _ => Int.mul_assoc _ _ _
  rw [this, ← Int.mul_assoc, Int.mul_comm (y i), Int.mul_comm]
theorem quad_skew {n : Nat} {S : Tb} (h : ∀ i j, i < n → j < n → S i j = - S j i) (y : Vk) : quad n S y = 0 := by
  have e : quad n S y = - quad n S y := by
    conv => lhs; unfold quad; rw [swap]
    unfold quad
    rw [← sm_neg]
    refine sm_congr n fun j hj => ?_
    rw [Int.mul_comm, ← Int.mul_neg]
    congr 1
    unfold colS rowS
    rw [← sm_neg]
    refine sm_congr n fun i hi => ?_
    rw [h i j hi hj, Int.mul_comm, Int.neg_mul]
  omega
theorem quad_diag (n : Nat) (m : Int) (y : Vk) : quad n (fun i j => if i = j then m else 0) y = m * sm n fun i => y i * y i := by
  unfold quad
  rw [← sm_mul]
  refine sm_congr n fun i hi => ?_
  have : rowS n (fun i j => if i = j then m else 0) y i = m * y i := by
    unfold rowS
    rw [sm_one (k := i) n hi fun j hj hne => by show (if i = j then m else 0) * y j = 0; rw [if_neg (fun e => hne e.symm), Int.zero_mul]]
    show (if i = i then m else 0) * y i = _
    rw [if_pos rfl]
  rw [this, Int.mul_left_comm]
theorem psd_sum {n : Nat} {f g : Vk} {S : Tb} {m : Int} (h : ∀ i j, i < n → j < n → S i j = - S j i) {T : Tb} (hT : ∀ i j, i < n → j < n → T i j = f i * f j + g i * g j + S i j + (if i = j then m else 0)) : Psd n m T := fun y => by
  have e : quad n T y = quad n (fun i j => f i * f j + g i * g j + S i j + (if i = j then m else 0)) y := sm_congr n fun i hi => by
    congr 1
    exact sm_congr n fun j hj => by rw [hT i j hi hj]
  rw [e, quad_add n (fun i j => f i * f j + g i * g j + S i j), quad_add n (fun i j => f i * f j + g i * g j), quad_add n (fun i j => f i * f j), quad_sq, quad_sq, quad_skew h, quad_diag]
  have := sq_nonneg (sm n fun i => f i * y i)
  have := sq_nonneg (sm n fun i => g i * y i)
  omega
/-! ### the rounds of the weak paper -/
structure Rnd (n : Nat) (T : Tb) (y im : Vk) : Prop where
  pos : ∀ i, i < n → 0 ≤ y i
  eq : ∀ i, i < n → im i = - rowS n T y i
  ip : ∀ i, i < n → 0 ≤ im i
  ex : ∀ i, i < n → y i = 0 ∨ im i = 0
def mz (n : Nat) (y : Vk) : Int := sm n fun k => if y k = 0 then 1 else 0
theorem mz_rng (n : Nat) (y : Vk) : 0 ≤ mz n y ∧ mz n y ≤ n := by
  refine ⟨sm_nonneg n fun j _ => by split <;> omega, ?_⟩
  have h := sm_abs (f := fun k => if y k = 0 then (1 : Int) else 0) (M := 1) n fun j _ => by split <;> simp
  unfold mz
  omega
theorem mz_le {n : Nat} {y z : Vk} (h : ∀ i, i < n → 0 ≤ y i ∧ y i ≤ z i) : mz n z ≤ mz n y := sm_le n fun i hi => by
  have := h i hi
  by_cases c : z i = 0
  · rw [if_pos c, if_pos (by omega)]; omega
  · rw [if_neg c]; split <;> omega
theorem mz_lt {n : Nat} {y z : Vk} {k : Nat} (h : ∀ i, i < n → 0 ≤ y i ∧ y i ≤ z i) (hk : k < n) (h1 : y k = 0) (h2 : 0 < z k) : mz n z < mz n y := sm_lt n (k := k) (fun i hi => by
  have := h i hi
  by_cases c : z i = 0
  · rw [if_pos c, if_pos (by omega)]; omega
  · rw [if_neg c]; split <;> omega) hk (by rw [if_neg (by omega), if_pos h1]; omega)
def goalS (n : Nat) (T : Tb) (y im : Vk) (t : Nat) : Int := (if y t = 0 then 1 else 0) + sm n fun i => if im i = 0 then - T i t else 0
theorem rowS_add (n : Nat) (T : Tb) (y x : Vk) (i : Nat) : rowS n T (fun t => y t + x t) i = rowS n T y i + rowS n T x i := by
  unfold rowS
  rw [← sm_add]
  exact sm_congr n fun j _ => Int.mul_add _ _ _
theorem round_pt {n : Nat} {T : Tb} {y im x : Vk} (r : Rnd n T y im) (hx : ∀ t, t < n → 0 ≤ x t) (hr : ∀ i, i < n → rowS n T x i ≤ 0) (hg : 1 ≤ sm n fun t => goalS n T y im t * x t) :
    (∀ t, t < n → 0 ≤ y t + x t) ∧ (∀ i, i < n → rowS n T (fun t => y t + x t) i ≤ 0) ∧ mz n (fun t => y t + x t) + mz n (fun i => - rowS n T (fun t => y t + x t) i) < mz n y + mz n im := by
  have hle : ∀ i, i < n → 0 ≤ y i ∧ y i ≤ y i + x i := fun i hi => ⟨r.pos i hi, by have := hx i hi; omega⟩
  have him : ∀ i, i < n → 0 ≤ im i ∧ im i ≤ - rowS n T (fun t => y t + x t) i := fun i hi => ⟨r.ip i hi, by rw [rowS_add]; have := r.eq i hi; have := hr i hi; omega⟩
  refine ⟨fun t ht => by have := hle t ht; omega, fun i hi => by have := him i hi; omega, ?_⟩
  have e : sm n (fun t => goalS n T y im t * x t) = sm n (fun t => if y t = 0 then x t else 0) + sm n fun i => if im i = 0 then - rowS n T x i else 0 := by
    have h1 : sm n (fun i => if im i = 0 then - rowS n T x i else 0) = sm n fun t => (sm n fun i => if im i = 0 then - T i t else 0) * x t := by
      have h2 : sm n (fun i => if im i = 0 then - rowS n T x i else 0) = sm n fun i => sm n fun t => (if im i = 0 then - T i t else 0) * x t := sm_congr n fun i _ => by
        split
        · unfold rowS
          rw [← sm_neg]
          exact sm_congr n fun j _ => (Int.neg_mul _ _).symm
        · exact (sm_zero n fun j _ => Int.zero_mul _).symm
      rw [h2, sm_comm]
      exact sm_congr n fun t _ => by
        rw [Int.mul_comm, ← sm_mul]
        exact sm_congr n fun i _ => Int.mul_comm _ _
    rw [h1, ← sm_add]
    refine sm_congr n fun t _ => ?_
    unfold goalS
    rw [Int.add_mul]
    congr 1
    split <;> simp
  rw [e] at hg
  have h1 := mz_le hle
  have h2 := mz_le him
  by_cases c : 0 < sm n (fun t => if y t = 0 then x t else 0)
  · obtain ⟨k, hk, hp⟩ := sm_pos_ex n c
    split at hp
    · rename_i h0
      have := mz_lt hle hk h0 (by omega)
      omega
    · omega
  · obtain ⟨k, hk, hp⟩ := sm_pos_ex (f := fun i => if im i = 0 then - rowS n T x i else 0) n (by omega)
    split at hp
    · rename_i h0
      have := mz_lt him hk h0 (by rw [rowS_add]; have := r.eq k hk; omega)
      omega
    · omega
theorem round_bar {n : Nat} {T : Tb} {y im u : Vk} {s : Int} (r : Rnd n T y im) (hs : 1 ≤ s) (hu : ∀ i, i < n → 0 ≤ u i) (hb : ∀ t, t < n → s * goalS n T y im t + sm n (fun i => u i * (- T i t)) ≤ 0) :
    Pap2 n T fun i => u i + s * (if im i = 0 then 1 else 0) := by
  have hc : ∀ t, t < n → s * (if y t = 0 then 1 else 0) ≤ colS n (fun i => u i + s * (if im i = 0 then 1 else 0)) T t := fun t ht => by
    have e : colS n (fun i => u i + s * (if im i = 0 then 1 else 0)) T t = - (sm n (fun i => u i * (- T i t)) + s * sm n fun i => if im i = 0 then - T i t else 0) := by
      rw [← sm_mul, ← sm_add, ← sm_neg]
      refine sm_congr n fun i _ => ?_
      rw [Int.add_mul, Int.mul_neg]
      split
      · rw [Int.mul_one, Int.mul_neg]; omega
      · simp
    rw [e]
    have := hb t ht
    unfold goalS at this
    rw [Int.mul_add] at this
    omega
  have hz : ∀ k : Int, 0 ≤ s * (if k = 0 then 1 else 0) := fun k => by split <;> omega
  refine ⟨fun i hi => ?_, fun j hj => ?_, fun j hj => ?_⟩
  · have := hu i hi
    have := hz (im i)
    show 0 ≤ u i + s * _
    omega
  · have := hc j hj
    have := hz (y j)
    omega
  · have h1 := hc j hj
    have h2 := hu j hj
    have h3 := hz (y j)
    have h4 := hz (im j)
    show 1 ≤ u j + s * _ + _
    rcases r.ex j hj with h | h
    · rw [if_pos h] at h1; omega
    · rw [if_pos h] at h4 ⊢; omega
end Kp

set_option Elab.async false
set_option linter.all false
set_option maxRecDepth 100000
namespace Law
open PySem PySem.Spec PyProof.Rows L2 PF
abbrev PP : Program := PySem.Challenge.pw_oneofeachpair_k30_papers_or_rows
def topS (i : Nat) : Stmt := PP.main.body.getD i (.Pass ⟨0, 0, 0, 0⟩)
theorem r65 {k : Nat} {A : Around} (hr : Room k A) : A.units + 65 < cLine := by have := hr.un; omega
def C0 : CT := ⟨fun _ => 0, fun _ => []⟩
abbrev s__law_numbers : Stmt := topS 19
abbrev N__law_numbers : List Str := ["cell", "count", "base", "numbers", "k", "rest", "mixed"]
theorem sc__law_numbers : FnScope N__law_numbers ["cell", "count", "base"] (defScope s__law_numbers) := ⟨rfl, rfl, rfl, by decide +kernel, rfl, by decide +kernel, by decide +kernel⟩
abbrev s__law_cell : Stmt := topS 18
abbrev N__law_cell : List Str := ["script", "k"]
theorem sc__law_cell : FnScope N__law_cell ["script", "k"] (defScope s__law_cell) := ⟨rfl, rfl, rfl, by decide +kernel, rfl, by decide +kernel, by decide +kernel⟩
abbrev s__law_summed : Stmt := topS 28
abbrev N__law_summed : List Str := ["forms", "skews", "size", "more", "table", "i", "row", "j", "item"]
theorem sc__law_summed : FnScope N__law_summed ["forms", "skews", "size", "more"] (defScope s__law_summed) := ⟨rfl, rfl, rfl, by decide +kernel, rfl, by decide +kernel, by decide +kernel⟩
abbrev s__law_paper_row : Stmt := topS 26
abbrev N__law_paper_row : List Str := ["table", "u", "at", "less", "size", "made", "row", "j", "i"]
theorem sc__law_paper_row : FnScope N__law_paper_row ["table", "u", "at", "less"] (defScope s__law_paper_row) := ⟨rfl, rfl, rfl, by decide +kernel, rfl, by decide +kernel, by decide +kernel⟩
abbrev s__law_bar_column : Stmt := topS 27
abbrev N__law_bar_column : List Str := ["table", "y", "at", "less", "size", "made", "i", "row", "item", "j"]
theorem sc__law_bar_column : FnScope N__law_bar_column ["table", "y", "at", "less"] (defScope s__law_bar_column) := ⟨rfl, rfl, rfl, by decide +kernel, rfl, by decide +kernel, by decide +kernel⟩
abbrev s__law_built : Stmt := topS 29
abbrev N__law_built : List Str := ["script", "size", "shape", "kind", "base", "numbers", "table", "weights", "less", "at", "weak", "forms", "made", "a", "i"]
theorem sc__law_built : FnScope N__law_built ["script", "size"] (defScope s__law_built) := ⟨rfl, rfl, rfl, by decide +kernel, rfl, by decide +kernel, by decide +kernel⟩
abbrev s__entering : Stmt := topS 2
abbrev N__entering : List Str := ["names", "costs", "best", "k", "cost"]
theorem sc__entering : FnScope N__entering ["names", "costs"] (defScope s__entering) := ⟨rfl, rfl, rfl, by decide +kernel, rfl, by decide +kernel, by decide +kernel⟩
abbrev s__leaving : Stmt := topS 3
abbrev N__leaving : List Str := ["names", "table", "column", "best", "i", "row"]
theorem sc__leaving : FnScope N__leaving ["names", "table", "column"] (defScope s__leaving) := ⟨rfl, rfl, rfl, by decide +kernel, rfl, by decide +kernel, by decide +kernel⟩
abbrev s__pivot : Stmt := topS 4
abbrev N__pivot : List Str := ["row", "line", "column", "scale", "factor", "head", "made", "a", "b"]
theorem sc__pivot : FnScope N__pivot ["row", "line", "column", "scale"] (defScope s__pivot) := ⟨rfl, rfl, rfl, by decide +kernel, rfl, by decide +kernel, by decide +kernel⟩
abbrev s__placed : Stmt := topS 5
abbrev N__placed : List Str := ["names", "numbers", "size", "made", "name", "number"]
theorem sc__placed : FnScope N__placed ["names", "numbers", "size"] (defScope s__placed) := ⟨rfl, rfl, rfl, by decide +kernel, rfl, by decide +kernel, by decide +kernel⟩
abbrev s_alternative : Stmt := topS 6
abbrev N_alternative : List Str := ["rows", "goal", "size", "table", "costs", "columns", "lines", "scale", "column", "weights", "name", "cost", "at", "line", "head", "found", "row", "i", "k", "item"]
theorem sc_alternative : FnScope N_alternative ["rows", "goal"] (defScope s_alternative) := ⟨rfl, rfl, rfl, by decide +kernel, rfl, by decide +kernel, by decide +kernel⟩
abbrev s__opposite : Stmt := topS 13
abbrev N__opposite : List Str := ["table", "row", "a"]
theorem sc__opposite : FnScope N__opposite ["table"] (defScope s__opposite) := ⟨rfl, rfl, rfl, by decide +kernel, rfl, by decide +kernel, by decide +kernel⟩
abbrev s_primitive : Stmt := topS 10
abbrev N_primitive : List Str := ["vector", "common", "item"]
theorem sc_primitive : FnScope N_primitive ["vector"] (defScope s_primitive) := ⟨rfl, rfl, rfl, by decide +kernel, rfl, by decide +kernel, by decide +kernel⟩
abbrev s_strong_paper : Stmt := topS 14
abbrev N_strong_paper : List Str := ["table", "found"]
theorem sc_strong_paper : FnScope N_strong_paper ["table"] (defScope s_strong_paper) := ⟨rfl, rfl, rfl, by decide +kernel, rfl, by decide +kernel, by decide +kernel⟩
abbrev s__goal : Stmt := topS 15
abbrev N__goal : List Str := ["rows", "y", "image", "goal", "row", "item", "a", "b"]
theorem sc__goal : FnScope N__goal ["rows", "y", "image"] (defScope s__goal) := ⟨rfl, rfl, rfl, by decide +kernel, rfl, by decide +kernel, by decide +kernel⟩
abbrev s_dot : Stmt := topS 8
abbrev N_dot : List Str := ["first", "second", "a", "b"]
theorem sc_dot : FnScope N_dot ["first", "second"] (defScope s_dot) := ⟨rfl, rfl, rfl, by decide +kernel, rfl, by decide +kernel, by decide +kernel⟩
abbrev s_product : Stmt := topS 9
abbrev N_product : List Str := ["matrix", "vector", "row"]
theorem sc_product : FnScope N_product ["matrix", "vector"] (defScope s_product) := ⟨rfl, rfl, rfl, by decide +kernel, rfl, by decide +kernel, by decide +kernel⟩
abbrev s_weak_paper : Stmt := topS 16
abbrev N_weak_paper : List Str := ["table", "rows", "y", "image", "found", "_", "scale", "numbers", "a", "b"]
theorem sc_weak_paper : FnScope N_weak_paper ["table"] (defScope s_weak_paper) := ⟨rfl, rfl, rfl, by decide +kernel, rfl, by decide +kernel, by decide +kernel⟩
abbrev s__law_same : Stmt := topS 23
abbrev N__law_same : List Str := ["found", "due", "a", "b"]
theorem sc__law_same : FnScope N__law_same ["found", "due"] (defScope s__law_same) := ⟨rfl, rfl, rfl, by decide +kernel, rfl, by decide +kernel, by decide +kernel⟩
abbrev s__law_is_integer : Stmt := topS 20
abbrev N__law_is_integer : List Str := ["item"]
theorem sc__law_is_integer : FnScope N__law_is_integer ["item"] (defScope s__law_is_integer) := ⟨rfl, rfl, rfl, by decide +kernel, rfl, by decide +kernel, by decide +kernel⟩
abbrev s__law_is_vector : Stmt := topS 21
abbrev N__law_is_vector : List Str := ["item", "size", "x"]
theorem sc__law_is_vector : FnScope N__law_is_vector ["item", "size"] (defScope s__law_is_vector) := ⟨rfl, rfl, rfl, by decide +kernel, rfl, by decide +kernel, by decide +kernel⟩
abbrev s__law_sums : Stmt := topS 24
abbrev N__law_sums : List Str := ["u", "table", "j", "i"]
theorem sc__law_sums : FnScope N__law_sums ["u", "table"] (defScope s__law_sums) := ⟨rfl, rfl, rfl, by decide +kernel, rfl, by decide +kernel, by decide +kernel⟩
abbrev s__law_dot : Stmt := topS 22
abbrev N__law_dot : List Str := ["first", "second", "a", "b"]
theorem sc__law_dot : FnScope N__law_dot ["first", "second"] (defScope s__law_dot) := ⟨rfl, rfl, rfl, by decide +kernel, rfl, by decide +kernel, by decide +kernel⟩
abbrev s__law_image : Stmt := topS 25
abbrev N__law_image : List Str := ["table", "y", "row"]
theorem sc__law_image : FnScope N__law_image ["table", "y"] (defScope s__law_image) := ⟨rfl, rfl, rfl, by decide +kernel, rfl, by decide +kernel, by decide +kernel⟩
abbrev s__law_strong : Stmt := topS 30
abbrev N__law_strong : List Str := ["found", "table", "a"]
theorem sc__law_strong : FnScope N__law_strong ["found", "table"] (defScope s__law_strong) := ⟨rfl, rfl, rfl, by decide +kernel, rfl, by decide +kernel, by decide +kernel⟩
abbrev s__law_weak : Stmt := topS 31
abbrev N__law_weak : List Str := ["found", "table", "image", "sums", "a", "b"]
theorem sc__law_weak : FnScope N__law_weak ["found", "table"] (defScope s__law_weak) := ⟨rfl, rfl, rfl, by decide +kernel, rfl, by decide +kernel, by decide +kernel⟩
abbrev s__law_judged : Stmt := topS 32
abbrev N__law_judged : List Str := ["table", "strong", "weak", "one", "two"]
theorem sc__law_judged : FnScope N__law_judged ["table", "strong", "weak"] (defScope s__law_judged) := ⟨rfl, rfl, rfl, by decide +kernel, rfl, by decide +kernel, by decide +kernel⟩
abbrev s_turns : Stmt := topS 12
abbrev N_turns : List Str := ["table", "x", "a", "b"]
theorem sc_turns : FnScope N_turns ["table", "x"] (defScope s_turns) := ⟨rfl, rfl, rfl, by decide +kernel, rfl, by decide +kernel, by decide +kernel⟩
abbrev s__law_turned : Stmt := topS 33
abbrev N__law_turned : List Str := ["table", "x", "due", "a", "b"]
theorem sc__law_turned : FnScope N__law_turned ["table", "x"] (defScope s__law_turned) := ⟨rfl, rfl, rfl, by decide +kernel, rfl, by decide +kernel, by decide +kernel⟩
abbrev s_law : Stmt := topS 34
abbrev N_law : List Str := ["script", "size", "table", "strong", "weak", "kept", "mirror", "signs", "other", "told", "drawn", "x", "a", "i", "b", "j"]
theorem sc_law : FnScope N_law ["script"] (defScope s_law) := ⟨rfl, rfl, rfl, by decide +kernel, rfl, by decide +kernel, by decide +kernel⟩
/-! ### the meanings -/
def b__law_numbers : ES := (sSeq (sSetN 3 (nLst lNil))
 (sSeq (sIf (c2 (cmpD fun i j => decide (j ≤ i)) (eV 0) (e2 powD (eK (.int 10)) (eK (.int 18))))
 (sSeq (sSet 5 (e2 subD (eV 0) (e2 powD (eK (.int 10)) (eK (.int 18)))))
 (sSeq (sFor (iCall rangeD1 (lCons (eV 1) lNil)) (aName 4)
 (sSeq (sApp 3 (e2 modD (eC intD (lCons (eV 5) lNil)) (eV 2)))
 (sSet 5 (e2 divD (eV 5) (eV 2)))))
 (sRetO 3)))
 sNil)
 (sSeq (sFor (iCall rangeD1 (lCons (eV 1) lNil)) (aName 4)
 (sSeq (sSet 6 (e2 modD (eC intD (lCons (e2 addD (e2 addD (e2 mulD (eV 0) (eK (.int 48271))) (e2 mulD (eV 4) (eK (.int 69621)))) (eK (.int 12345))) lNil)) (eK (.int 2147483647))))
 (sSeq (sSet 6 (e2 modD (eC intD (lCons (e2 addD (e2 addD (e2 mulD (eV 6) (eK (.int 16807))) (e2 divD (eV 6) (eK (.int 127)))) (e2 mulD (eV 4) (eK (.int 40692)))) lNil)) (eK (.int 2147483399))))
 (sApp 3 (e2 modD (e2 divD (eV 6) (eK (.int 7))) (eV 2))))))
 (sRetO 3))))
def n__law_numbers : List D → R (List D) := dDefN 7 b__law_numbers
def m__law_numbers : List D → R D := asV n__law_numbers
def b__law_cell : ES := (sSeq (sIf (c2 (cmpD fun i j => decide (i < j)) (eV 1) (eC lenD (lCons (eV 0) lNil)))
 (sRet (eC intD (lCons (e2 ixD (eV 0) (eV 1)) lNil)))
 sNil)
 (sRet (e2 mulD (eV 1) (eK (.int 104729)))))
def m__law_cell : List D → R D := dDef 2 b__law_cell
def b__law_summed : ES := (sSeq (sSetN 4 (nLst lNil))
 (sSeq (sFor (iCall rangeD1 (lCons (eV 2) lNil)) (aName 5)
 (sSeq (sSetN 6 (nLst lNil))
 (sSeq (sFor (iCall rangeD1 (lCons (eV 2) lNil)) (aName 7)
 (sSeq (sSet 8 (e2 addD (e2 mulD (e2 ixD (eV 0) (eV 5)) (e2 ixD (eV 0) (eV 7))) (e2 mulD (e2 ixD (eV 0) (e2 addD (eV 2) (eV 5))) (e2 ixD (eV 0) (e2 addD (eV 2) (eV 7))))))
 (sSeq (sIf (c2 (cmpD fun i j => decide (i < j)) (eV 5) (eV 7))
 (sSet 8 (e2 addD (eV 8) (e2 ixD (eV 1) (e2 addD (e2 mulD (eV 5) (eV 2)) (eV 7)))))
 sNil)
 (sSeq (sIf (c2 (cmpD fun i j => decide (i < j)) (eV 7) (eV 5))
 (sSet 8 (e2 subD (eV 8) (e2 ixD (eV 1) (e2 addD (e2 mulD (eV 7) (eV 2)) (eV 5)))))
 sNil)
 (sSeq (sIf (c2 eqD (eV 5) (eV 7))
 (sSet 8 (e2 addD (eV 8) (eV 3)))
 sNil)
 (sApp 6 (eV 8)))))))
 (sApp 4 (eBor (eC tupleD (lCons (eV 6) lNil)))))))
 (sFrz 4 (sRet (eC tupleD (lCons (eV 4) lNil))))))
def m__law_summed : List D → R D := dDef 9 b__law_summed
def b__law_paper_row : ES := (sSeq (sSet 4 (eC lenD (lCons (eV 0) lNil)))
 (sSeq (sSetN 5 (nComp (iSeq (eV 0)) (aName 6) tTrue (eV 6) [6]))
 (sSeq (sSetI 5 (eV 2) (eC tupleD (lCons (eNew (nComp (iCall rangeD1 (lCons (eV 4) lNil)) (aName 7) tTrue (e2 subD (e2 addD (eK (.int 1)) (e2 ixD (eV 3) (eV 7))) (eC sumD (lCons (eNew (nComp (iCall rangeD1 (lCons (eV 4) lNil)) (aName 8) (c2 neD (eV 8) (eV 2)) (e2 mulD (e2 ixD (eV 1) (eV 8)) (e2 ixD (e2 ixD (eV 0) (eV 8)) (eV 7))) [8])) lNil))) [7])) lNil)))
 (sFrz 5 (sRet (eC tupleD (lCons (eV 5) lNil)))))))
def m__law_paper_row : List D → R D := dDef 9 b__law_paper_row
def b__law_bar_column : ES := (sSeq (sSet 4 (eC lenD (lCons (eV 0) lNil)))
 (sSeq (sSetN 5 (nLst lNil))
 (sSeq (sFor (iCall rangeD1 (lCons (eV 4) lNil)) (aName 6)
 (sSeq (sSetN 7 (nComp (iSeq (e2 ixD (eV 0) (eV 6))) (aName 8) tTrue (eV 8) [8]))
 (sSeq (sSetI 7 (eV 2) (e2 subD (e1 negD (e2 ixD (eV 3) (eV 6))) (eC sumD (lCons (eNew (nComp (iCall rangeD1 (lCons (eV 4) lNil)) (aName 9) (c2 neD (eV 9) (eV 2)) (e2 mulD (e2 ixD (e2 ixD (eV 0) (eV 6)) (eV 9)) (e2 ixD (eV 1) (eV 9))) [9])) lNil))))
 (sApp 5 (eBor (eC tupleD (lCons (eV 7) lNil)))))))
 (sFrz 5 (sRet (eC tupleD (lCons (eV 5) lNil)))))))
def m__law_bar_column : List D → R D := dDef 10 b__law_bar_column
def b__law_built : ES := (sSeq (sSet 2 (eC intD (lCons (eCall 2 m__law_cell (lCons (eV 0) (lCons (eK (.int 1)) lNil))) lNil)))
 (sSeq (sSet 3 (e2 modD (eV 2) (eK (.int 7))))
 (sSeq (sSet 4 (e2 ixD (eNew (nLst (lCons (eK (.int 9)) (lCons (eK (.int 3)) (lCons (eK (.int 1000001)) (lCons (e2 powD (eK (.int 10)) (eK (.int 12))) lNil)))))) (e2 modD (e2 divD (eV 2) (eK (.int 7))) (eK (.int 4)))))
 (sSeq (sSet 5 (eNew (nComp (iSeq (eCall 3 m__law_numbers (lCons (eCall 2 m__law_cell (lCons (eV 0) (lCons (eK (.int 2)) lNil))) (lCons (e2 mulD (eV 1) (eV 1)) (lCons (eV 4) lNil))))) (aName 13) tTrue (e2 subD (eV 13) (e2 divD (eV 4) (eK (.int 2)))) [13])))
 (sSeq (sSet 6 (eC tupleD (lCons (eNew (nComp (iCall rangeD1 (lCons (eV 1) lNil)) (aName 14) tTrue (eC tupleD (lCons (eSl (eV 5) (oSome (e2 mulD (eV 14) (eV 1))) (oSome (e2 addD (e2 mulD (eV 14) (eV 1)) (eV 1)))) lNil)) [14])) lNil)))
 (sSeq (sSetN 7 (nCall 3 n__law_numbers (lCons (eCall 2 m__law_cell (lCons (eV 0) (lCons (eK (.int 3)) lNil))) (lCons (eV 1) (lCons (eK (.int 4)) lNil)))))
 (sSeq (sSet 8 (eCall 3 m__law_numbers (lCons (eCall 2 m__law_cell (lCons (eV 0) (lCons (eK (.int 4)) lNil))) (lCons (eV 1) (lCons (eK (.int 3)) lNil)))))
 (sSeq (sSet 9 (e2 modD (eC intD (lCons (eCall 2 m__law_cell (lCons (eV 0) (lCons (eK (.int 5)) lNil))) lNil)) (eV 1)))
 (sSeq (sSetI 7 (eV 9) (eK (.int 1)))
 (sFrz 7 (sSeq (sIf (c2 eqD (eV 3) (eK (.int 1)))
 (sRet (eTup (lCons (eCall 4 m__law_paper_row (lCons (eV 6) (lCons (eV 7) (lCons (eV 9) (lCons (eV 8) lNil))))) (lCons (eK (.str "paper")) (lCons (eK (.str "paper")) (lCons (eK (.bl false)) lNil))))))
 sNil)
 (sSeq (sIf (tOr' (c2 eqD (eV 3) (eK (.int 2))) (c2 eqD (eV 3) (eK (.int 3))))
 (sSeq (sIf (c2 eqD (eV 3) (eK (.int 3)))
 (sSet 8 (eNew (nComp (iCall rangeD1 (lCons (eV 1) lNil)) (aName 14) tTrue (eIf (c2 eqD (e2 ixD (eV 7) (eV 14)) (eK (.int 0))) (e2 ixD (eV 8) (eV 14)) (eK (.int 0))) [14])))
 sNil)
 (sSeq (sSet 10 (eIf (tTru (eC anyD (lCons (eNew (nComp (iCall rangeD1 (lCons (eV 1) lNil)) (aName 14) tTrue (eAnd (eC2 (cmpD fun i j => decide (j < i)) (e2 ixD (eV 7) (eV 14)) (eK (.int 0))) (eC2 (cmpD fun i j => decide (j < i)) (e2 ixD (eV 8) (eV 14)) (eK (.int 0)))) [14])) lNil))) (eK (.str "row")) (eK (.str ""))))
 (sRet (eTup (lCons (eCall 4 m__law_bar_column (lCons (eV 6) (lCons (eV 7) (lCons (eV 9) (lCons (eV 8) lNil))))) (lCons (eK (.str "row")) (lCons (eV 10) (lCons (eK (.bl false)) lNil))))))))
 sNil)
 (sSeq (sIf (c2 (cmpD fun i j => decide (j ≤ i)) (eV 3) (eK (.int 4)))
 (sSeq (sSet 11 (eNew (nComp (iSeq (eCall 3 m__law_numbers (lCons (eCall 2 m__law_cell (lCons (eV 0) (lCons (eK (.int 6)) lNil))) (lCons (e2 mulD (eK (.int 2)) (eV 1)) (lCons (eK (.int 9)) lNil))))) (aName 13) tTrue (e2 subD (eV 13) (eK (.int 4))) [13])))
 (sSeq (sIf (c2 eqD (eV 3) (eK (.int 6)))
 (sSet 11 (e2 mulD (eNew (nLst (lCons (eK (.int 0)) lNil))) (e2 mulD (eK (.int 2)) (eV 1))))
 sNil)
 (sSeq (sSet 12 (eCall 4 m__law_summed (lCons (eV 11) (lCons (eV 5) (lCons (eV 1) (lCons (eC intD (lCons (eC2 eqD (eV 3) (eK (.int 5))) lNil)) lNil))))))
 (sRet (eTup (lCons (eV 12) (lCons (eIf (c2 eqD (eV 3) (eK (.int 5))) (eK (.str "paper")) (eK (.str ""))) (lCons (eK (.str "paper")) (lCons (eK (.bl true)) lNil)))))))))
 sNil)
 (sRet (eTup (lCons (eV 6) (lCons (eK (.str "")) (lCons (eK (.str "")) (lCons (eK (.bl false)) lNil)))))))))))))))))))
def m__law_built : List D → R D := dDef 15 b__law_built
def b__entering : ES := (sSeq (sSet 2 (eK .non))
 (sSeq (sFor (iCall enumD (lCons (eV 1) lNil)) (aTup (aCons (aName 3) (aCons (aName 4) aNil)))
 (sIf (tAnd' (c2 (cmpD fun i j => decide (j < i)) (eV 4) (eK (.int 0))) (tOr' (eIsN (eV 2)) (c2 (cmpD fun i j => decide (i < j)) (e2 ixD (eV 0) (eV 3)) (e2 ixD (eV 0) (eV 2)))))
 (sSet 2 (eV 3))
 sNil))
 (sRet (eV 2))))
def m__entering : List D → R D := dDef 5 b__entering
def b__leaving : ES := (sSeq (sSet 3 (eK .non))
 (sSeq (sFor (iCall enumD (lCons (eV 1) lNil)) (aTup (aCons (aName 4) (aCons (aName 5) aNil)))
 (sIf (tAnd' (c2 (cmpD fun i j => decide (i < j)) (e2 ixD (eV 5) (eV 2)) (eK (.int 0))) (tOr' (eIsN (eV 3)) (c2 (cmpD fun i j => decide (i < j)) (e2 ixD (eV 0) (eV 4)) (e2 ixD (eV 0) (eV 3)))))
 (sSet 3 (eV 4))
 sNil))
 (sRet (eV 3))))
def m__leaving : List D → R D := dDef 6 b__leaving
def b__pivot : ES := (sSeq (sSet 4 (e2 ixD (eV 0) (eV 2)))
 (sSeq (sSet 5 (e1 negD (e2 ixD (eV 1) (eV 2))))
 (sSeq (sSetN 6 (nComp (iCall zipD (lCons (eV 0) (lCons (eV 1) lNil))) (aTup (aCons (aName 7) (aCons (aName 8) aNil))) tTrue (e2 divD (e2 addD (e2 mulD (eV 5) (eV 7)) (e2 mulD (eV 4) (eV 8))) (eV 3)) [7, 8]))
 (sSeq (sSetI 6 (eV 2) (e1 negD (eV 4)))
 (sFrz 6 (sRet (eV 6)))))))
def m__pivot : List D → R D := dDef 9 b__pivot
def b__placed : ES := (sSeq (sSetN 3 (n2 repN (eNew (nLst (lCons (eK (.int 0)) lNil))) (eV 2)))
 (sSeq (sFor (iCall zipD (lCons (eV 0) (lCons (eV 1) lNil))) (aTup (aCons (aName 4) (aCons (aName 5) aNil)))
 (sIf (c2 (cmpD fun i j => decide (i < j)) (eV 4) (eV 2))
 (sSetI 3 (eV 4) (eV 5))
 sNil))
 (sFrz 3 (sRet (eC tupleD (lCons (eV 3) lNil))))))
def m__placed : List D → R D := dDef 6 b__placed
def b_alternative : ES := (sSeq (sSet 2 (eC lenD (lCons (eV 1) lNil)))
 (sSeq (sSetN 3 (nComp (iSeq (eV 0)) (aName 16) tTrue (eC listD (lCons (eV 16) lNil)) [16]))
 (sSeq (sSet 4 (eC listD (lCons (eV 1) lNil)))
 (sSeq (sSetN 5 (nRg1 (eV 2)))
 (sSeq (sSetN 6 (nComp (iCall rangeD1 (lCons (eC lenD (lCons (eV 0) lNil)) lNil)) (aName 17) tTrue (e2 addD (eV 2) (eV 17)) [17]))
 (sSeq (sSet 7 (eK (.int 1)))
 (sSeq (sSet 8 (eBor (eCall 2 m__entering (lCons (eV 5) (lCons (eV 4) lNil)))))
 (sSeq (sWhile (eNotN (eV 8))
 (sSeq (sSet 12 (eBor (eCall 3 m__leaving (lCons (eV 6) (lCons (eV 3) (lCons (eV 8) lNil))))))
 (sSeq (sIf (eIsN (eV 12))
 (sSeq (sSet 15 (eNew (nBor (n2 catN (eNew (nComp (iSeq (eV 3)) (aName 16) tTrue (e2 ixD (eV 16) (eV 8)) [16])) (eNew (nLst (lCons (eV 7) lNil)))))))
 (sFrz 6 (sRet (eTup (lCons (eK (.str "point")) (lCons (eCall 3 m__placed (lCons (e2 addD (eV 6) (eNew (nLst (lCons (eOwn 5 (eV 8)) lNil)))) (lCons (eV 15) (lCons (eV 2) lNil)))) lNil))))))
 sNil)
 (sSeq (sSet 13 (eOwn 3 (eV 12)))
 (sSeq (sSet 14 (e1 negD (e2 ixD (eV 13) (eV 8))))
 (sFrz 3 (sSeq (sSetN 3 (nComp (iCall enumD (lCons (eV 3) lNil)) (aTup (aCons (aName 17) (aCons (aName 16) aNil))) tTrue (eIf (c2 eqD (eV 17) (eV 12)) (eV 13) (eCall 4 m__pivot (lCons (eV 16) (lCons (eV 13) (lCons (eV 8) (lCons (eV 7) lNil)))))) [17, 16]))
 (sSeq (sSet 4 (eCall 4 m__pivot (lCons (eV 4) (lCons (eV 13) (lCons (eV 8) (lCons (eV 7) lNil))))))
 (sSeq (sSetI 3 (eV 12) (eNew (nComp (iCall enumD (lCons (eV 13) lNil)) (aTup (aCons (aName 18) (aCons (aName 19) aNil))) tTrue (eIf (c2 neD (eV 18) (eV 8)) (eV 19) (e1 negD (eV 7))) [18, 19])))
 (sSeq (sAsgM (aCons (aSub 6 (eV 12)) (aCons (aSub 5 (eV 8)) aNil)) (lCons (eOwn 5 (eV 8)) (lCons (eOwn 6 (eV 12)) lNil)))
 (sSeq (sSet 7 (eV 14))
 (sSet 8 (eBor (eCall 2 m__entering (lCons (eV 5) (lCons (eV 4) lNil))))))))))))))) FU)
 (sSeq (sSetN 9 (n2 repN (eNew (nLst (lCons (eK (.int 0)) lNil))) (eC lenD (lCons (eV 0) lNil))))
 (sFrz 5 (sSeq (sFor (iCall zipD (lCons (eV 5) (lCons (eV 4) lNil))) (aTup (aCons (aName 10) (aCons (aName 11) aNil)))
 (sIf (c2 (cmpD fun i j => decide (j ≤ i)) (eV 10) (eV 2))
 (sSetI 9 (e2 subD (eV 10) (eV 2)) (e1 negD (eV 11)))
 sNil))
 (sFrz 9 (sRet (eTup (lCons (eK (.str "bar")) (lCons (eV 7) (lCons (eC tupleD (lCons (eV 9) lNil)) lNil)))))))))))))))))
def m_alternative : List D → R D := dDef 20 b_alternative
def b__opposite : ES := (sRet (eC tupleD (lCons (eNew (nComp (iSeq (eV 0)) (aName 1) tTrue (eC tupleD (lCons (eNew (nComp (iSeq (eV 1)) (aName 2) tTrue (e1 negD (eV 2)) [2])) lNil)) [1])) lNil)))
def m__opposite : List D → R D := dDef 3 b__opposite
def b_primitive : ES := (sSeq (sSet 1 (eK (.int 0)))
 (sSeq (sFor (iSeq (eV 0)) (aName 2)
 (sSet 1 (eC gcdD (lCons (eV 1) (lCons (eV 2) lNil)))))
 (sSeq (sIf (c2 (cmpD fun i j => decide (i ≤ j)) (eV 1) (eK (.int 1)))
 (sRet (eV 0))
 sNil)
 (sRet (eC tupleD (lCons (eNew (nComp (iSeq (eV 0)) (aName 2) tTrue (e2 divD (eV 2) (eV 1)) [2])) lNil))))))
def m_primitive : List D → R D := dDef 3 b_primitive
def b_strong_paper : ES := (sSeq (sSet 1 (eCall 2 m_alternative (lCons (eCall 1 m__opposite (lCons (eV 0) lNil)) (lCons (e2 mulT (eTup (lCons (eK (.int 1)) lNil)) (eC lenD (lCons (eV 0) lNil))) lNil))))
 (sSeq (sIf (c2 eqD (e2 ixD (eV 1) (eK (.int 0))) (eK (.str "bar")))
 (sRet (eTup (lCons (eK (.str "paper")) (lCons (e2 ixD (eV 1) (eK (.int 2))) lNil))))
 sNil)
 (sRet (eTup (lCons (eK (.str "row")) (lCons (eCall 1 m_primitive (lCons (e2 ixD (eV 1) (eK (.int 1))) lNil)) lNil))))))
def m_strong_paper : List D → R D := dDef 2 b_strong_paper
def b__goal : ES := (sSeq (sSet 3 (eNew (nComp (iSeq (eV 1)) (aName 5) tTrue (eC intD (lCons (eC2 eqD (eV 5) (eK (.int 0))) lNil)) [5])))
 (sSeq (sFor (iCall zipMD (lCons (eV 0) (lCons (eV 2) lNil))) (aTup (aCons (aName 4) (aCons (aName 5) aNil)))
 (sIf (c2 eqD (eV 5) (eK (.int 0)))
 (sSet 3 (eNew (nComp (iCall zipMD (lCons (eV 3) (lCons (eV 4) lNil))) (aTup (aCons (aName 6) (aCons (aName 7) aNil))) tTrue (e2 addD (eV 6) (eV 7)) [6, 7])))
 sNil))
 (sRet (eC tupleD (lCons (eV 3) lNil)))))
def m__goal : List D → R D := dDef 8 b__goal
def b_dot : ES := (sRet (eC sumD (lCons (eNew (nComp (iCall zipD (lCons (eV 0) (lCons (eV 1) lNil))) (aTup (aCons (aName 2) (aCons (aName 3) aNil))) tTrue (e2 mulD (eV 2) (eV 3)) [2, 3])) lNil)))
def m_dot : List D → R D := dDef 4 b_dot
def b_product : ES := (sRet (eC tupleD (lCons (eNew (nComp (iSeq (eV 0)) (aName 2) tTrue (eCall 2 m_dot (lCons (eV 2) (lCons (eV 1) lNil))) [2])) lNil)))
def m_product : List D → R D := dDef 3 b_product
def b_weak_paper : ES := (sSeq (sSet 1 (eCall 1 m__opposite (lCons (eV 0) lNil)))
 (sSeq (sSet 2 (e2 mulT (eTup (lCons (eK (.int 0)) lNil)) (eC lenD (lCons (eV 0) lNil))))
 (sSeq (sSet 3 (eV 2))
 (sSeq (sSet 4 (eCall 2 m_alternative (lCons (eV 1) (lCons (eCall 3 m__goal (lCons (eV 1) (lCons (eV 2) (lCons (eV 3) lNil)))) lNil))))
 (sSeq (sWhile (c2 eqD (e2 ixD (eV 4) (eK (.int 0))) (eK (.str "point")))
 (sSeq (sSet 2 (eC tupleD (lCons (eNew (nComp (iCall zipMD (lCons (eV 2) (lCons (e2 ixD (eV 4) (eK (.int 1))) lNil))) (aTup (aCons (aName 8) (aCons (aName 9) aNil))) tTrue (e2 addD (eV 8) (eV 9)) [8, 9])) lNil)))
 (sSeq (sSet 3 (eCall 2 m_product (lCons (eV 1) (lCons (eV 2) lNil))))
 (sSeq (sIf (tTru (eC anyD (lCons (eNew (nComp (iCall zipMD (lCons (eV 2) (lCons (eV 3) lNil))) (aTup (aCons (aName 8) (aCons (aName 9) aNil))) tTrue (eAnd (eC2 (cmpD fun i j => decide (j < i)) (eV 8) (eK (.int 0))) (eC2 (cmpD fun i j => decide (j < i)) (eV 9) (eK (.int 0)))) [8, 9])) lNil)))
 (sRet (eTup (lCons (eK (.str "row")) (lCons (eCall 1 m_primitive (lCons (eV 2) lNil)) lNil))))
 sNil)
 (sSet 4 (eCall 2 m_alternative (lCons (eV 1) (lCons (eCall 3 m__goal (lCons (eV 1) (lCons (eV 2) (lCons (eV 3) lNil)))) lNil))))))) FU)
 (sSeq (sAsg (aTup (aCons (aName 5) (aCons (aName 6) (aCons (aName 7) aNil)))) (eV 4))
 (sRet (eTup (lCons (eK (.str "paper")) (lCons (eC tupleD (lCons (eNew (nComp (iCall zipMD (lCons (eV 7) (lCons (eV 3) lNil))) (aTup (aCons (aName 8) (aCons (aName 9) aNil))) tTrue (e2 addD (eV 8) (e2 mulD (eV 6) (eC intD (lCons (eC2 eqD (eV 9) (eK (.int 0))) lNil)))) [8, 9])) lNil)) lNil))))))))))
def m_weak_paper : List D → R D := dDef 10 b_weak_paper
def b__law_same (r : List D → R D) : ES := (sSeq (sIf (tTru (e1 (isiD "tuple") (eV 1)))
 (sSeq (sIf (tOr' (tNot' (tTru (e1 (isiD "tuple") (eV 0)))) (c2 neD (eC lenD (lCons (eV 0) lNil)) (eC lenD (lCons (eV 1) lNil))))
 (sRet (eK (.bl false)))
 sNil)
 (sRet (eC allD (lCons (eNew (nComp (iCall zipMD (lCons (eV 0) (lCons (eV 1) lNil))) (aTup (aCons (aName 2) (aCons (aName 3) aNil))) tTrue (eCall 2 r (lCons (eV 2) (lCons (eV 3) lNil))) [2, 3])) lNil))))
 sNil)
 (sSeq (sIf (tOr' (eIsN (eV 1)) (tTru (e1 (isiD "bool") (eV 1))))
 (sRet (eIf (eIsN (eV 1)) (eB (eIsN (eV 0))) (eAnd (e1 (isiD "bool") (eV 0)) (eC2 eqD (eV 0) (eV 1)))))
 sNil)
 (sSeq (sIf (tTru (e1 (isiD "str") (eV 1)))
 (sRet (eAnd (e1 (isiD "str") (eV 0)) (eC2 eqD (eV 0) (eV 1))))
 sNil)
 (sRet (eAnd (e1 (isiD "int") (eV 0)) (eAnd (eNot (e1 (isiD "bool") (eV 0))) (eC2 eqD (eV 0) (eV 1))))))))
def r__law_same : Nat → List D → R D
  | 0 => fun _ => .error none
  | k + 1 => dDef 4 (b__law_same (r__law_same k))
def m__law_same : List D → R D := r__law_same 5
def b__law_is_integer : ES := (sRet (eAnd (e1 (isiD "int") (eV 0)) (eNot (e1 (isiD "bool") (eV 0)))))
def m__law_is_integer : List D → R D := dDef 1 b__law_is_integer
def b__law_is_vector : ES := (sRet (eAnd (e1 (isiD "tuple") (eV 0)) (eAnd (eC2 eqD (eC lenD (lCons (eV 0) lNil)) (eV 1)) (eC allD (lCons (eNew (nComp (iSeq (eV 0)) (aName 2) tTrue (eCall 1 m__law_is_integer (lCons (eV 2) lNil)) [2])) lNil)))))
def m__law_is_vector : List D → R D := dDef 3 b__law_is_vector
def b__law_sums : ES := (sRet (eNew (nComp (iCall rangeD1 (lCons (eC lenD (lCons (eV 1) lNil)) lNil)) (aName 2) tTrue (eC sumD (lCons (eNew (nComp (iCall rangeD1 (lCons (eC lenD (lCons (eV 1) lNil)) lNil)) (aName 3) tTrue (e2 mulD (e2 ixD (eV 0) (eV 3)) (e2 ixD (e2 ixD (eV 1) (eV 3)) (eV 2))) [3])) lNil)) [2])))
def m__law_sums : List D → R D := dDef 4 b__law_sums
def b__law_dot : ES := (sRet (eC sumD (lCons (eNew (nComp (iCall zipD (lCons (eV 0) (lCons (eV 1) lNil))) (aTup (aCons (aName 2) (aCons (aName 3) aNil))) tTrue (e2 mulD (eV 2) (eV 3)) [2, 3])) lNil)))
def m__law_dot : List D → R D := dDef 4 b__law_dot
def b__law_image : ES := (sRet (eNew (nComp (iSeq (eV 0)) (aName 2) tTrue (eCall 2 m__law_dot (lCons (eV 2) (lCons (eV 1) lNil))) [2])))
def m__law_image : List D → R D := dDef 3 b__law_image
def b__law_strong : ES := (sSeq (sIf (tOr' (tNot' (tTru (e1 (isiD "tuple") (eV 0)))) (tOr' (c2 neD (eC lenD (lCons (eV 0) lNil)) (eK (.int 2))) (tNot' (tTru (e1 (isiD "str") (e2 ixD (eV 0) (eK (.int 0))))))))
 (sRet (eK (.bl false)))
 sNil)
 (sSeq (sIf (tOr' (tNot' (tTru (eCall 2 m__law_is_vector (lCons (e2 ixD (eV 0) (eK (.int 1))) (lCons (eC lenD (lCons (eV 1) lNil)) lNil))))) (tTru (eC anyD (lCons (eNew (nComp (iSeq (e2 ixD (eV 0) (eK (.int 1)))) (aName 2) tTrue (eC2 (cmpD fun i j => decide (i < j)) (eV 2) (eK (.int 0))) [2])) lNil))))
 (sRet (eK (.bl false)))
 sNil)
 (sSeq (sIf (c2 eqD (e2 ixD (eV 0) (eK (.int 0))) (eK (.str "paper")))
 (sRet (eC allD (lCons (eNew (nComp (iSeq (eCall 2 m__law_sums (lCons (e2 ixD (eV 0) (eK (.int 1))) (lCons (eV 1) lNil)))) (aName 2) tTrue (eC2 (cmpD fun i j => decide (j ≤ i)) (eV 2) (eK (.int 1))) [2])) lNil)))
 sNil)
 (sRet (eAnd (eC2 eqD (e2 ixD (eV 0) (eK (.int 0))) (eK (.str "row"))) (eAnd (eC anyD (lCons (eNew (nComp (iSeq (e2 ixD (eV 0) (eK (.int 1)))) (aName 2) tTrue (eC2 (cmpD fun i j => decide (j < i)) (eV 2) (eK (.int 0))) [2])) lNil)) (eC allD (lCons (eNew (nComp (iSeq (eCall 2 m__law_image (lCons (eV 1) (lCons (e2 ixD (eV 0) (eK (.int 1))) lNil)))) (aName 2) tTrue (eC2 (cmpD fun i j => decide (i ≤ j)) (eV 2) (eK (.int 0))) [2])) lNil))))))))
def m__law_strong : List D → R D := dDef 3 b__law_strong
def b__law_weak : ES := (sSeq (sIf (tOr' (tNot' (tTru (e1 (isiD "tuple") (eV 0)))) (tOr' (c2 neD (eC lenD (lCons (eV 0) lNil)) (eK (.int 2))) (tNot' (tTru (e1 (isiD "str") (e2 ixD (eV 0) (eK (.int 0))))))))
 (sRet (eK (.bl false)))
 sNil)
 (sSeq (sIf (tOr' (tNot' (tTru (eCall 2 m__law_is_vector (lCons (e2 ixD (eV 0) (eK (.int 1))) (lCons (eC lenD (lCons (eV 1) lNil)) lNil))))) (tTru (eC anyD (lCons (eNew (nComp (iSeq (e2 ixD (eV 0) (eK (.int 1)))) (aName 4) tTrue (eC2 (cmpD fun i j => decide (i < j)) (eV 4) (eK (.int 0))) [4])) lNil))))
 (sRet (eK (.bl false)))
 sNil)
 (sSeq (sIf (c2 eqD (e2 ixD (eV 0) (eK (.int 0))) (eK (.str "paper")))
 (sSeq (sSet 3 (eCall 2 m__law_sums (lCons (e2 ixD (eV 0) (eK (.int 1))) (lCons (eV 1) lNil))))
 (sRet (eC allD (lCons (eNew (nComp (iCall zipMD (lCons (e2 ixD (eV 0) (eK (.int 1))) (lCons (eV 3) lNil))) (aTup (aCons (aName 4) (aCons (aName 5) aNil))) tTrue (eAnd (eC2 (cmpD fun i j => decide (j ≤ i)) (eV 5) (eK (.int 0))) (eC2 (cmpD fun i j => decide (j ≤ i)) (e2 addD (eV 4) (eV 5)) (eK (.int 1)))) [4, 5])) lNil))))
 sNil)
 (sSeq (sSet 2 (eCall 2 m__law_image (lCons (eV 1) (lCons (e2 ixD (eV 0) (eK (.int 1))) lNil))))
 (sSeq (sIf (tOr' (c2 neD (e2 ixD (eV 0) (eK (.int 0))) (eK (.str "row"))) (tTru (eC anyD (lCons (eNew (nComp (iSeq (eV 2)) (aName 5) tTrue (eC2 (cmpD fun i j => decide (j < i)) (eV 5) (eK (.int 0))) [5])) lNil))))
 (sRet (eK (.bl false)))
 sNil)
 (sRet (eC anyD (lCons (eNew (nComp (iCall zipMD (lCons (e2 ixD (eV 0) (eK (.int 1))) (lCons (eV 2) lNil))) (aTup (aCons (aName 4) (aCons (aName 5) aNil))) tTrue (eAnd (eC2 (cmpD fun i j => decide (j ≤ i)) (eV 4) (eK (.int 1))) (eC2 (cmpD fun i j => decide (i ≤ j)) (eV 5) (e1 negD (eK (.int 1))))) [4, 5])) lNil))))))))
def m__law_weak : List D → R D := dDef 6 b__law_weak
def b__law_judged : ES := (sSeq (sSet 3 (eCall 1 m_strong_paper (lCons (eV 0) lNil)))
 (sSeq (sSet 4 (eCall 1 m_weak_paper (lCons (eV 0) lNil)))
 (sSeq (sIf (tOr' (tNot' (tTru (eCall 2 m__law_strong (lCons (eV 3) (lCons (eV 0) lNil))))) (tNot' (tTru (eCall 2 m__law_weak (lCons (eV 4) (lCons (eV 0) lNil))))))
 (sRet (eK (.bl false)))
 sNil)
 (sSeq (sIf (tAnd' (c2 neD (eV 1) (eK (.str ""))) (c2 neD (e2 ixD (eV 3) (eK (.int 0))) (eV 1)))
 (sRet (eK (.bl false)))
 sNil)
 (sSeq (sIf (tAnd' (c2 neD (eV 2) (eK (.str ""))) (c2 neD (e2 ixD (eV 4) (eK (.int 0))) (eV 2)))
 (sRet (eK (.bl false)))
 sNil)
 (sRet (eAnd (eCall 2 m__law_same (lCons (eCall 1 m_strong_paper (lCons (eV 0) lNil)) (lCons (eV 3) lNil))) (eCall 2 m__law_same (lCons (eCall 1 m_weak_paper (lCons (eV 0) lNil)) (lCons (eV 4) lNil))))))))))
def m__law_judged : List D → R D := dDef 5 b__law_judged
def b_turns : ES := (sRet (eC tupleD (lCons (eNew (nComp (iCall zipMD (lCons (eV 1) (lCons (eCall 2 m_product (lCons (eV 0) (lCons (eV 1) lNil))) lNil))) (aTup (aCons (aName 2) (aCons (aName 3) aNil))) tTrue (e2 mulD (eV 2) (eV 3)) [2, 3])) lNil)))
def m_turns : List D → R D := dDef 4 b_turns
def b__law_turned : ES := (sSeq (sSet 2 (eC tupleD (lCons (eNew (nComp (iCall zipMD (lCons (eV 1) (lCons (eCall 2 m__law_image (lCons (eV 0) (lCons (eV 1) lNil))) lNil))) (aTup (aCons (aName 3) (aCons (aName 4) aNil))) tTrue (e2 mulD (eV 3) (eV 4)) [3, 4])) lNil)))
 (sRet (eCall 2 m__law_same (lCons (eCall 2 m_turns (lCons (eV 0) (lCons (eV 1) lNil))) (lCons (eV 2) lNil)))))
def m__law_turned : List D → R D := dDef 5 b__law_turned
def b_law : ES := (sSeq (sSet 1 (e2 addD (eK (.int 1)) (e2 modD (eC intD (lCons (eCall 2 m__law_cell (lCons (eV 0) (lCons (eK (.int 0)) lNil))) lNil)) (eK (.int 6)))))
 (sSeq (sAsg (aTup (aCons (aName 2) (aCons (aName 3) (aCons (aName 4) (aCons (aName 5) aNil))))) (eCall 2 m__law_built (lCons (eV 0) (lCons (eV 1) lNil))))
 (sSeq (sIf (tNot' (tTru (eCall 3 m__law_judged (lCons (eV 2) (lCons (eV 3) (lCons (eV 4) lNil))))))
 (sRet (eK (.bl false)))
 sNil)
 (sSeq (sIf (tNot' (tTru (eV 5)))
 (sSeq (sSet 3 (eK (.str "")))
 (sSet 4 (eK (.str ""))))
 sNil)
 (sSeq (sSet 6 (eC tupleD (lCons (eNew (nComp (iCall rangeD1 (lCons (eV 1) lNil)) (aName 13) tTrue (eC tupleD (lCons (eNew (nComp (iCall rangeD1 (lCons (eV 1) lNil)) (aName 15) tTrue (e2 ixD (e2 ixD (eV 2) (eV 15)) (eV 13)) [15])) lNil)) [13])) lNil)))
 (sSeq (sIf (tNot' (tTru (eCall 3 m__law_judged (lCons (eV 6) (lCons (eV 3) (lCons (eV 4) lNil))))))
 (sRet (eK (.bl false)))
 sNil)
 (sSeq (sSet 7 (eNew (nComp (iSeq (eCall 3 m__law_numbers (lCons (eCall 2 m__law_cell (lCons (eV 0) (lCons (eK (.int 7)) lNil))) (lCons (eV 1) (lCons (eK (.int 2)) lNil))))) (aName 12) tTrue (e2 subD (eK (.int 1)) (e2 mulD (eK (.int 2)) (eV 12))) [12])))
 (sSeq (sSet 8 (eC tupleD (lCons (eNew (nComp (iCall rangeD1 (lCons (eV 1) lNil)) (aName 13) tTrue (eC tupleD (lCons (eNew (nComp (iCall rangeD1 (lCons (eV 1) lNil)) (aName 15) tTrue (e2 mulD (e2 mulD (e2 ixD (eV 7) (eV 13)) (e2 ixD (eV 7) (eV 15))) (e2 ixD (e2 ixD (eV 2) (eV 13)) (eV 15))) [15])) lNil)) [13])) lNil)))
 (sSeq (sIf (tNot' (tTru (eCall 3 m__law_judged (lCons (eV 8) (lCons (eV 3) (lCons (eV 4) lNil))))))
 (sRet (eK (.bl false)))
 sNil)
 (sSeq (sSet 9 (eCall 1 m_strong_paper (lCons (eV 8) lNil)))
 (sSeq (sIf (c2 eqD (e2 ixD (eV 9) (eK (.int 0))) (eK (.str "row")))
 (sSeq (sSet 11 (eC tupleD (lCons (eNew (nComp (iCall zipMD (lCons (eV 7) (lCons (e2 ixD (eV 9) (eK (.int 1))) lNil))) (aTup (aCons (aName 12) (aCons (aName 14) aNil))) tTrue (e2 mulD (eV 12) (eV 14)) [12, 14])) lNil)))
 (sIf (tOr' (tNot' (tTru (eCall 2 m__law_turned (lCons (eV 2) (lCons (eV 11) lNil))))) (tTru (eC anyD (lCons (eNew (nComp (iCall zipMD (lCons (eV 11) (lCons (eCall 2 m__law_image (lCons (eV 2) (lCons (eV 11) lNil))) lNil))) (aTup (aCons (aName 12) (aCons (aName 14) aNil))) tTrue (eC2 (cmpD fun i j => decide (j < i)) (e2 mulD (eV 12) (eV 14)) (eK (.int 0))) [12, 14])) lNil))))
 (sRet (eK (.bl false)))
 sNil))
 sNil)
 (sSeq (sSet 10 (eC tupleD (lCons (eNew (nComp (iSeq (eCall 3 m__law_numbers (lCons (eCall 2 m__law_cell (lCons (eV 0) (lCons (eK (.int 8)) lNil))) (lCons (eV 1) (lCons (eK (.int 1000001)) lNil))))) (aName 12) tTrue (e2 subD (eV 12) (eK (.int 500000))) [12])) lNil)))
 (sRet (eAnd (eCall 2 m__law_turned (lCons (eV 2) (lCons (eV 10) lNil))) (eCall 2 m__law_turned (lCons (eV 6) (lCons (eC tupleD (lCons (eNew (nComp (iSeq (eV 10)) (aName 12) tTrue (e2 divD (eV 12) (eK (.int 100000))) [12])) lNil)) lNil)))))))))))))))))
def m_law : List D → R D := dDef 16 b_law
/-! ### the facts -/
structure Tx (K : PySem.W.Frag) (mg : Str → Option Value) where
  d__law_numbers : DefF K mg "_law_numbers" s__law_numbers ["cell", "count", "base"]
  d__law_cell : DefF K mg "_law_cell" s__law_cell ["script", "k"]
  d__law_summed : DefF K mg "_law_summed" s__law_summed ["forms", "skews", "size", "more"]
  d__law_paper_row : DefF K mg "_law_paper_row" s__law_paper_row ["table", "u", "at", "less"]
  d__law_bar_column : DefF K mg "_law_bar_column" s__law_bar_column ["table", "y", "at", "less"]
  d__law_built : DefF K mg "_law_built" s__law_built ["script", "size"]
  d__entering : DefF K mg "_entering" s__entering ["names", "costs"]
  d__leaving : DefF K mg "_leaving" s__leaving ["names", "table", "column"]
  d__pivot : DefF K mg "_pivot" s__pivot ["row", "line", "column", "scale"]
  d__placed : DefF K mg "_placed" s__placed ["names", "numbers", "size"]
  d_alternative : DefF K mg "alternative" s_alternative ["rows", "goal"]
  d__opposite : DefF K mg "_opposite" s__opposite ["table"]
  d_primitive : DefF K mg "primitive" s_primitive ["vector"]
  d_strong_paper : DefF K mg "strong_paper" s_strong_paper ["table"]
  d__goal : DefF K mg "_goal" s__goal ["rows", "y", "image"]
  d_dot : DefF K mg "dot" s_dot ["first", "second"]
  d_product : DefF K mg "product" s_product ["matrix", "vector"]
  d_weak_paper : DefF K mg "weak_paper" s_weak_paper ["table"]
  d__law_same : DefF K mg "_law_same" s__law_same ["found", "due"]
  d__law_is_integer : DefF K mg "_law_is_integer" s__law_is_integer ["item"]
  d__law_is_vector : DefF K mg "_law_is_vector" s__law_is_vector ["item", "size"]
  d__law_sums : DefF K mg "_law_sums" s__law_sums ["u", "table"]
  d__law_dot : DefF K mg "_law_dot" s__law_dot ["first", "second"]
  d__law_image : DefF K mg "_law_image" s__law_image ["table", "y"]
  d__law_strong : DefF K mg "_law_strong" s__law_strong ["found", "table"]
  d__law_weak : DefF K mg "_law_weak" s__law_weak ["found", "table"]
  d__law_judged : DefF K mg "_law_judged" s__law_judged ["table", "strong", "weak"]
  d_turns : DefF K mg "turns" s_turns ["table", "x"]
  d__law_turned : DefF K mg "_law_turned" s__law_turned ["table", "x"]
  d_law : DefF K mg "law" s_law ["script"]
  z_all : mg "all" = none
  z_any : mg "any" = none
  z_bool : mg "bool" = none
  z_enumerate : mg "enumerate" = none
  z_int : mg "int" = none
  z_isinstance : mg "isinstance" = none
  z_len : mg "len" = none
  z_list : mg "list" = none
  z_range : mg "range" = none
  z_str : mg "str" = none
  z_sum : mg "sum" = none
  z_tuple : mg "tuple" = none
  z_zip : mg "zip" = none
  g_gcd : mg "gcd" = some (.builtin "math.gcd")
section
variable {w : World} {K : PySem.W.Frag} {mg : Str → Option Value} {base : Heap}
set_option maxHeartbeats 4000000 in
theorem okN__law_numbers (T : Tx K mg) : FnOk PP w K mg base (L2.CX PP w) 1 T.d__law_numbers.f T.d__law_numbers.fd ["cell", "count", "base"] (spDN K C0 3 n__law_numbers) :=
 PF.fnDNN (k := 0) (N := N__law_numbers) (ps := ["cell", "count", "base"]) (fb := b__law_numbers) T.d__law_numbers.F sc__law_numbers rfl rfl fun cdv A outer s H E hr =>
 (s_cons (s_setN 3 sc__law_numbers.nd (n_lst l_nil))
 (s_cons (s_if (t_cmp o_ge (d_var 0) (d_op2 o_pow d_int d_int))
 (s_cons (s_set 5 sc__law_numbers.nd (d_op2 o_sub (d_var 0) (d_op2 o_pow d_int d_int)))
 (s_cons (s_for (passes_of rfl) rfl (i_rng1 (by rfl) T.z_range (l_cons (d_var 1) l_nil)) (g_name 4 sc__law_numbers.nd)
 (s_cons (s_app 3 (d_op2 o_mod (d_callTy b_int (by rfl) T.z_int bt_int (l_cons (d_var 5) l_nil)) (d_var 2)))
 (s_one (s_set 5 sc__law_numbers.nd (d_op2 o_div (d_var 5) (d_var 2))))))
 (s_one (s_retO 3))))
 s_nil)
 (s_cons (s_for (passes_of rfl) rfl (i_rng1 (by rfl) T.z_range (l_cons (d_var 1) l_nil)) (g_name 4 sc__law_numbers.nd)
 (s_cons (s_set 6 sc__law_numbers.nd (d_op2 o_mod (d_callTy b_int (by rfl) T.z_int bt_int (l_cons (d_op2 o_add (d_op2 o_add (d_op2 o_mul (d_var 0) d_int) (d_op2 o_mul (d_var 4) d_int)) d_int) l_nil)) d_int))
 (s_cons (s_set 6 sc__law_numbers.nd (d_op2 o_mod (d_callTy b_int (by rfl) T.z_int bt_int (l_cons (d_op2 o_add (d_op2 o_add (d_op2 o_mul (d_var 6) d_int) (d_op2 o_div (d_var 6) d_int)) (d_op2 o_mul (d_var 4) d_int)) l_nil)) d_int))
 (s_one (s_app 3 (d_op2 o_mod (d_op2 o_div (d_var 6) d_int) (d_var 2)))))))
 (s_one (s_retO 3)))))
theorem ok__law_numbers (T : Tx K mg) : FnOk PP w K mg base (L2.CX PP w) 1 T.d__law_numbers.f T.d__law_numbers.fd ["cell", "count", "base"] (spD K C0 3 m__law_numbers) := FnOk.asV (okN__law_numbers T)
set_option maxHeartbeats 4000000 in
theorem ok__law_cell (T : Tx K mg) : FnOk PP w K mg base (L2.CX PP w) 1 T.d__law_cell.f T.d__law_cell.fd ["script", "k"] (spD K C0 2 m__law_cell) :=
 PF.fnDN (k := 0) (N := N__law_cell) (ps := ["script", "k"]) (fb := b__law_cell) T.d__law_cell.F sc__law_cell rfl rfl fun cdv A outer s H E hr =>
 (s_cons (s_if (t_cmp o_lt (d_var 1) (d_callB b_len (by rfl) T.z_len bt_len (l_cons (d_var 0) l_nil)))
 (s_one (s_ret (d_callTy b_int (by rfl) T.z_int bt_int (l_cons (d_ix i_ix (d_var 0) (d_var 1)) l_nil))))
 s_nil)
 (s_one (s_ret (d_op2 o_mul (d_var 1) d_int))))
set_option maxHeartbeats 4000000 in
theorem ok__law_summed (T : Tx K mg) : FnOk PP w K mg base (L2.CX PP w) 1 T.d__law_summed.f T.d__law_summed.fd ["forms", "skews", "size", "more"] (spD K C0 4 m__law_summed) :=
 PF.fnDN (k := 0) (N := N__law_summed) (ps := ["forms", "skews", "size", "more"]) (fb := b__law_summed) T.d__law_summed.F sc__law_summed rfl rfl fun cdv A outer s H E hr =>
 (s_cons (s_setN 4 sc__law_summed.nd (n_lst l_nil))
 (s_cons (s_for (passes_of rfl) rfl (i_rng1 (by rfl) T.z_range (l_cons (d_var 2) l_nil)) (g_name 5 sc__law_summed.nd)
 (s_cons (s_setN 6 sc__law_summed.nd (n_lst l_nil))
 (s_cons (s_for (passes_of rfl) rfl (i_rng1 (by rfl) T.z_range (l_cons (d_var 2) l_nil)) (g_name 7 sc__law_summed.nd)
 (s_cons (s_set 8 sc__law_summed.nd (d_op2 o_add (d_op2 o_mul (d_ix i_ix (d_var 0) (d_var 5)) (d_ix i_ix (d_var 0) (d_var 7))) (d_op2 o_mul (d_ix i_ix (d_var 0) (d_op2 o_add (d_var 2) (d_var 5))) (d_ix i_ix (d_var 0) (d_op2 o_add (d_var 2) (d_var 7))))))
 (s_cons (s_if (t_cmp o_lt (d_var 5) (d_var 7))
 (s_one (s_set 8 sc__law_summed.nd (d_op2 o_add (d_var 8) (d_ix i_ix (d_var 1) (d_op2 o_add (d_op2 o_mul (d_var 5) (d_var 2)) (d_var 7))))))
 s_nil)
 (s_cons (s_if (t_cmp o_lt (d_var 7) (d_var 5))
 (s_one (s_set 8 sc__law_summed.nd (d_op2 o_sub (d_var 8) (d_ix i_ix (d_var 1) (d_op2 o_add (d_op2 o_mul (d_var 7) (d_var 2)) (d_var 5))))))
 s_nil)
 (s_cons (s_if (t_cmp (o_eq hr.units) (d_var 5) (d_var 7))
 (s_one (s_set 8 sc__law_summed.nd (d_op2 o_add (d_var 8) (d_var 3))))
 s_nil)
 (s_one (s_app 6 (d_var 8))))))))
 (s_one (s_app 4 (d_bor (d_callTy b_tuple (by rfl) T.z_tuple bt_tuple (l_cons (d_var 6) l_nil))))))))
 (s_frz 4 (s_one (s_ret (d_callTy b_tuple (by rfl) T.z_tuple bt_tuple (l_cons (d_var 4) l_nil)))))))
set_option maxHeartbeats 4000000 in
theorem ok__law_paper_row (T : Tx K mg) : FnOk PP w K mg base (L2.CX PP w) 1 T.d__law_paper_row.f T.d__law_paper_row.fd ["table", "u", "at", "less"] (spD K C0 4 m__law_paper_row) :=
 PF.fnDN (k := 0) (N := N__law_paper_row) (ps := ["table", "u", "at", "less"]) (fb := b__law_paper_row) T.d__law_paper_row.F sc__law_paper_row rfl rfl fun cdv A outer s H E hr =>
 (s_cons (s_set 4 sc__law_paper_row.nd (d_callB b_len (by rfl) T.z_len bt_len (l_cons (d_var 0) l_nil)))
 (s_cons (s_setLcN 5 rfl sc__law_paper_row.nd rfl rfl (sw_true rfl rfl rfl (by decide +kernel)) (i_seq (d_var 0)) (blkOk_by (N := N__law_paper_row) (sc := defScope s__law_paper_row) (own := [("row", 6)]) (by decide +kernel)) (fun _ _ _ _ _ => (g_name 6 sc__law_paper_row.nd)) (fun _ _ _ _ _ => ts_nil) (fun _ _ _ _ _ => (d_var 6)))
 (s_cons (s_setI 5 (d_callTy b_tuple (by rfl) T.z_tuple bt_tuple (l_cons (d_new (n_comp rfl sc__law_paper_row.nd (i_rng1 (by rfl) T.z_range (l_cons (d_var 4) l_nil)) (blkOk_by (N := N__law_paper_row) (sc := defScope s__law_paper_row) (own := [("j", 7)]) (by decide +kernel)) (fun _ _ _ _ _ => (g_name 7 sc__law_paper_row.nd)) (fun _ _ _ _ _ => ts_nil) (fun _ _ _ _ _ => (d_op2 o_sub (d_op2 o_add d_int (d_ix i_ix (d_var 3) (d_var 7))) (d_callB (b_sum rfl) (by rfl) T.z_sum bt_sum (l_cons (d_new (n_comp rfl sc__law_paper_row.nd (i_rng1 (by rfl) T.z_range (l_cons (d_var 4) l_nil)) (blkOk_by (own := [("i", 8)]) (by kernel_rfl)) (fun _ _ _ _ _ => (g_name 8 sc__law_paper_row.nd)) (fun _ _ _ _ _ => (pts_one (t_cmp (o_ne hr.units) (d_var 8) (d_var 2)))) (fun _ _ _ _ _ => (d_op2 o_mul (d_ix i_ix (d_var 1) (d_var 8)) (d_ix i_ix (d_ix i_ix (d_var 0) (d_var 8)) (d_var 7)))))) l_nil)))))) l_nil)) (d_var 2))
 (s_frz 5 (s_one (s_ret (d_callTy b_tuple (by rfl) T.z_tuple bt_tuple (l_cons (d_var 5) l_nil))))))))
set_option maxHeartbeats 4000000 in
theorem ok__law_bar_column (T : Tx K mg) : FnOk PP w K mg base (L2.CX PP w) 1 T.d__law_bar_column.f T.d__law_bar_column.fd ["table", "y", "at", "less"] (spD K C0 4 m__law_bar_column) :=
 PF.fnDN (k := 0) (N := N__law_bar_column) (ps := ["table", "y", "at", "less"]) (fb := b__law_bar_column) T.d__law_bar_column.F sc__law_bar_column rfl rfl fun cdv A outer s H E hr =>
 (s_cons (s_set 4 sc__law_bar_column.nd (d_callB b_len (by rfl) T.z_len bt_len (l_cons (d_var 0) l_nil)))
 (s_cons (s_setN 5 sc__law_bar_column.nd (n_lst l_nil))
 (s_cons (s_for (passes_of rfl) rfl (i_rng1 (by rfl) T.z_range (l_cons (d_var 4) l_nil)) (g_name 6 sc__law_bar_column.nd)
 (s_cons (s_setLcN 7 rfl sc__law_bar_column.nd rfl rfl (sw_true rfl rfl rfl (by decide +kernel)) (i_seq (d_ix i_ix (d_var 0) (d_var 6))) (blkOk_by (N := N__law_bar_column) (sc := defScope s__law_bar_column) (own := [("item", 8)]) (by decide +kernel)) (fun _ _ _ _ _ => (g_name 8 sc__law_bar_column.nd)) (fun _ _ _ _ _ => ts_nil) (fun _ _ _ _ _ => (d_var 8)))
 (s_cons (s_setI 7 (d_op2 o_sub (d_un o_neg (d_ix i_ix (d_var 3) (d_var 6))) (d_callB (b_sum rfl) (by rfl) T.z_sum bt_sum (l_cons (d_new (n_comp rfl sc__law_bar_column.nd (i_rng1 (by rfl) T.z_range (l_cons (d_var 4) l_nil)) (blkOk_by (N := N__law_bar_column) (sc := defScope s__law_bar_column) (own := [("j", 9)]) (by decide +kernel)) (fun _ _ _ _ _ => (g_name 9 sc__law_bar_column.nd)) (fun _ _ _ _ _ => (pts_one (t_cmp (o_ne hr.units) (d_var 9) (d_var 2)))) (fun _ _ _ _ _ => (d_op2 o_mul (d_ix i_ix (d_ix i_ix (d_var 0) (d_var 6)) (d_var 9)) (d_ix i_ix (d_var 1) (d_var 9)))))) l_nil))) (d_var 2))
 (s_one (s_app 5 (d_bor (d_callTy b_tuple (by rfl) T.z_tuple bt_tuple (l_cons (d_var 7) l_nil))))))))
 (s_frz 5 (s_one (s_ret (d_callTy b_tuple (by rfl) T.z_tuple bt_tuple (l_cons (d_var 5) l_nil))))))))
set_option maxHeartbeats 4000000 in
theorem ok__law_built (T : Tx K mg) : FnOk PP w K mg base (L2.CX PP w) 2 T.d__law_built.f T.d__law_built.fd ["script", "size"] (spD K C0 2 m__law_built) :=
 PF.fnDN (k := 1) (N := N__law_built) (ps := ["script", "size"]) (fb := b__law_built) T.d__law_built.F sc__law_built rfl rfl fun cdv A outer s H E hr =>
 (s_cons (s_set 2 sc__law_built.nd (d_callTy b_int (by rfl) T.z_int bt_int (l_cons (d_call (ok__law_cell T) (takes_of rfl rfl rfl rfl) (hr.mono (by decide)) (by rfl) T.d__law_cell.g T.d__law_cell.F.kp T.d__law_cell.b (l_cons (d_var 0) (l_cons d_int l_nil))) l_nil)))
 (s_cons (s_set 3 sc__law_built.nd (d_op2 o_mod (d_var 2) d_int))
 (s_cons (s_set 4 sc__law_built.nd (d_ix i_ix (d_new (n_lst (l_cons d_int (l_cons d_int (l_cons d_int (l_cons (d_op2 o_pow d_int d_int) l_nil)))))) (d_op2 o_mod (d_op2 o_div (d_var 2) d_int) d_int)))
 (s_cons (s_set 5 sc__law_built.nd (d_new (n_comp rfl sc__law_built.nd (i_seq (d_call (ok__law_numbers T) (takes_of rfl rfl rfl rfl) (hr.mono (by decide)) (by rfl) T.d__law_numbers.g T.d__law_numbers.F.kp T.d__law_numbers.b (l_cons (d_call (ok__law_cell T) (takes_of rfl rfl rfl rfl) (hr.mono (by decide)) (by rfl) T.d__law_cell.g T.d__law_cell.F.kp T.d__law_cell.b (l_cons (d_var 0) (l_cons d_int l_nil))) (l_cons (d_op2 o_mul (d_var 1) (d_var 1)) (l_cons (d_var 4) l_nil))))) (blkOk_by (N := N__law_built) (sc := defScope s__law_built) (own := [("a", 13)]) (by decide +kernel)) (fun _ _ _ _ _ => (g_name 13 sc__law_built.nd)) (fun _ _ _ _ _ => ts_nil) (fun _ _ _ _ _ => (d_op2 o_sub (d_var 13) (d_op2 o_div (d_var 4) d_int))))))
 (s_cons (s_set 6 sc__law_built.nd (d_callTy b_tuple (by rfl) T.z_tuple bt_tuple (l_cons (d_new (n_comp rfl sc__law_built.nd (i_rng1 (by rfl) T.z_range (l_cons (d_var 1) l_nil)) (blkOk_by (N := N__law_built) (sc := defScope s__law_built) (own := [("i", 14)]) (by decide +kernel)) (fun _ _ _ _ _ => (g_name 14 sc__law_built.nd)) (fun _ _ _ _ _ => ts_nil) (fun _ _ _ _ _ => (d_callTy b_tuple (by rfl) T.z_tuple bt_tuple (l_cons (d_slice (d_var 5) (o_some (d_op2 o_mul (d_var 14) (d_var 1))) (o_some (d_op2 o_add (d_op2 o_mul (d_var 14) (d_var 1)) (d_var 1)))) l_nil))))) l_nil)))
 (s_cons (s_setN 7 sc__law_built.nd (n_call (okN__law_numbers T) (takes_of rfl rfl rfl rfl) (hr.mono (by decide)) (by rfl) T.d__law_numbers.g T.d__law_numbers.F.kp T.d__law_numbers.b (l_cons (d_call (ok__law_cell T) (takes_of rfl rfl rfl rfl) (hr.mono (by decide)) (by rfl) T.d__law_cell.g T.d__law_cell.F.kp T.d__law_cell.b (l_cons (d_var 0) (l_cons d_int l_nil))) (l_cons (d_var 1) (l_cons d_int l_nil)))))
 (s_cons (s_set 8 sc__law_built.nd (d_call (ok__law_numbers T) (takes_of rfl rfl rfl rfl) (hr.mono (by decide)) (by rfl) T.d__law_numbers.g T.d__law_numbers.F.kp T.d__law_numbers.b (l_cons (d_call (ok__law_cell T) (takes_of rfl rfl rfl rfl) (hr.mono (by decide)) (by rfl) T.d__law_cell.g T.d__law_cell.F.kp T.d__law_cell.b (l_cons (d_var 0) (l_cons d_int l_nil))) (l_cons (d_var 1) (l_cons d_int l_nil)))))
 (s_cons (s_set 9 sc__law_built.nd (d_op2 o_mod (d_callTy b_int (by rfl) T.z_int bt_int (l_cons (d_call (ok__law_cell T) (takes_of rfl rfl rfl rfl) (hr.mono (by decide)) (by rfl) T.d__law_cell.g T.d__law_cell.F.kp T.d__law_cell.b (l_cons (d_var 0) (l_cons d_int l_nil))) l_nil)) (d_var 1)))
 (s_cons (s_setI 7 d_int (d_var 9))
 (s_frz 7 (s_cons (s_if (t_cmp (o_eq hr.units) (d_var 3) d_int)
 (s_one (s_ret (d_tup (l_cons (d_call (ok__law_paper_row T) (takes_of rfl rfl rfl rfl) (hr.mono (by decide)) (by rfl) T.d__law_paper_row.g T.d__law_paper_row.F.kp T.d__law_paper_row.b (l_cons (d_var 6) (l_cons (d_var 7) (l_cons (d_var 9) (l_cons (d_var 8) l_nil))))) (l_cons d_str (l_cons d_str (l_cons d_bl l_nil)))))))
 s_nil)
 (s_cons (s_if ((t_or (t_cmp (o_eq hr.units) (d_var 3) d_int) (t_or1 (t_cmp (o_eq hr.units) (d_var 3) d_int)))).pt
 (s_cons (s_if (t_cmp (o_eq hr.units) (d_var 3) d_int)
 (s_one (s_set 8 sc__law_built.nd (d_new (n_comp rfl sc__law_built.nd (i_rng1 (by rfl) T.z_range (l_cons (d_var 1) l_nil)) (blkOk_by (N := N__law_built) (sc := defScope s__law_built) (own := [("i", 14)]) (by decide +kernel)) (fun _ _ _ _ _ => (g_name 14 sc__law_built.nd)) (fun _ _ _ _ _ => ts_nil) (fun _ _ _ _ _ => (d_if (t_cmp (o_eq hr.units) (d_ix i_ix (d_var 7) (d_var 14)) d_int) (d_ix i_ix (d_var 8) (d_var 14)) d_int))))))
 s_nil)
 (s_cons (s_set 10 sc__law_built.nd (d_if (t_truth (d_callB (b_any rfl) (by rfl) T.z_any bt_any (l_cons (d_new (n_comp rfl sc__law_built.nd (i_rng1 (by rfl) T.z_range (l_cons (d_var 1) l_nil)) (blkOk_by (N := N__law_built) (sc := defScope s__law_built) (own := [("i", 14)]) (by decide +kernel)) (fun _ _ _ _ _ => (g_name 14 sc__law_built.nd)) (fun _ _ _ _ _ => ts_nil) (fun _ _ _ _ _ => (d_and (d_cmp o_gt (d_ix i_ix (d_var 7) (d_var 14)) d_int) (d_one (d_cmp o_gt (d_ix i_ix (d_var 8) (d_var 14)) d_int)))))) l_nil))) d_str d_str))
 (s_one (s_ret (d_tup (l_cons (d_call (ok__law_bar_column T) (takes_of rfl rfl rfl rfl) (hr.mono (by decide)) (by rfl) T.d__law_bar_column.g T.d__law_bar_column.F.kp T.d__law_bar_column.b (l_cons (d_var 6) (l_cons (d_var 7) (l_cons (d_var 9) (l_cons (d_var 8) l_nil))))) (l_cons d_str (l_cons (d_var 10) (l_cons d_bl l_nil)))))))))
 s_nil)
 (s_cons (s_if (t_cmp o_ge (d_var 3) d_int)
 (s_cons (s_setLc 11 rfl sc__law_built.nd rfl rfl (sw_true rfl rfl rfl (by decide +kernel)) (i_seq (d_call (ok__law_numbers T) (takes_of rfl rfl rfl rfl) (hr.mono (by decide)) (by rfl) T.d__law_numbers.g T.d__law_numbers.F.kp T.d__law_numbers.b (l_cons (d_call (ok__law_cell T) (takes_of rfl rfl rfl rfl) (hr.mono (by decide)) (by rfl) T.d__law_cell.g T.d__law_cell.F.kp T.d__law_cell.b (l_cons (d_var 0) (l_cons d_int l_nil))) (l_cons (d_op2 o_mul d_int (d_var 1)) (l_cons d_int l_nil))))) (blkOk_by (N := N__law_built) (sc := defScope s__law_built) (own := [("a", 13)]) (by decide +kernel)) (fun _ _ _ _ _ => (g_name 13 sc__law_built.nd)) (fun _ _ _ _ _ => ts_nil) (fun _ _ _ _ _ => (d_op2 o_sub (d_var 13) d_int)))
 (s_cons (s_if (t_cmp (o_eq hr.units) (d_var 3) d_int)
 (s_one (s_set 11 sc__law_built.nd (d_op2 o_mul (d_new (n_lst (l_cons d_int l_nil))) (d_op2 o_mul d_int (d_var 1)))))
 s_nil)
 (s_cons (s_set 12 sc__law_built.nd (d_call (ok__law_summed T) (takes_of rfl rfl rfl rfl) (hr.mono (by decide)) (by rfl) T.d__law_summed.g T.d__law_summed.F.kp T.d__law_summed.b (l_cons (d_var 11) (l_cons (d_var 5) (l_cons (d_var 1) (l_cons (d_callTy b_int (by rfl) T.z_int bt_int (l_cons (d_cmp (o_eq hr.units) (d_var 3) d_int) l_nil)) l_nil))))))
 (s_one (s_ret (d_tup (l_cons (d_var 12) (l_cons (d_if (t_cmp (o_eq hr.units) (d_var 3) d_int) d_str d_str) (l_cons d_str (l_cons d_bl l_nil))))))))))
 s_nil)
 (s_one (s_ret (d_tup (l_cons (d_var 6) (l_cons d_str (l_cons d_str (l_cons d_bl l_nil))))))))))))))))))))
set_option maxHeartbeats 4000000 in
theorem ok__entering (T : Tx K mg) : FnOk PP w K mg base (L2.CX PP w) 1 T.d__entering.f T.d__entering.fd ["names", "costs"] (spD K C0 2 m__entering) :=
 PF.fnDN (k := 0) (N := N__entering) (ps := ["names", "costs"]) (fb := b__entering) T.d__entering.F sc__entering rfl rfl fun cdv A outer s H E hr =>
 (s_cons (s_set 2 sc__entering.nd d_non)
 (s_cons (s_for (passes_of rfl) rfl (i_enum (by rfl) T.z_enumerate (l_cons (d_var 1) l_nil)) (g_tup rfl (gs_cons (g_name 3 sc__entering.nd) (gs_cons (g_name 4 sc__entering.nd) gs_nil)))
 (s_one (s_if ((t_and (t_cmp o_gt (d_var 4) d_int) (t_and1 ((t_or (t_isN (d_var 2)) (t_or1 (t_cmp o_lt (d_ix i_ix (d_var 0) (d_var 3)) (d_ix i_ix (d_var 0) (d_var 2)))))).pt))).pt
 (s_one (s_set 2 sc__entering.nd (d_var 3)))
 s_nil)))
 (s_one (s_ret (d_var 2)))))
set_option maxHeartbeats 4000000 in
theorem ok__leaving (T : Tx K mg) : FnOk PP w K mg base (L2.CX PP w) 1 T.d__leaving.f T.d__leaving.fd ["names", "table", "column"] (spD K C0 3 m__leaving) :=
 PF.fnDN (k := 0) (N := N__leaving) (ps := ["names", "table", "column"]) (fb := b__leaving) T.d__leaving.F sc__leaving rfl rfl fun cdv A outer s H E hr =>
 (s_cons (s_set 3 sc__leaving.nd d_non)
 (s_cons (s_for (passes_of rfl) rfl (i_enum (by rfl) T.z_enumerate (l_cons (d_var 1) l_nil)) (g_tup rfl (gs_cons (g_name 4 sc__leaving.nd) (gs_cons (g_name 5 sc__leaving.nd) gs_nil)))
 (s_one (s_if ((t_and (t_cmp o_lt (d_ix i_ix (d_var 5) (d_var 2)) d_int) (t_and1 ((t_or (t_isN (d_var 3)) (t_or1 (t_cmp o_lt (d_ix i_ix (d_var 0) (d_var 4)) (d_ix i_ix (d_var 0) (d_var 3)))))).pt))).pt
 (s_one (s_set 3 sc__leaving.nd (d_var 4)))
 s_nil)))
 (s_one (s_ret (d_var 3)))))
set_option maxHeartbeats 4000000 in
theorem ok__pivot (T : Tx K mg) : FnOk PP w K mg base (L2.CX PP w) 1 T.d__pivot.f T.d__pivot.fd ["row", "line", "column", "scale"] (spD K C0 4 m__pivot) :=
 PF.fnDN (k := 0) (N := N__pivot) (ps := ["row", "line", "column", "scale"]) (fb := b__pivot) T.d__pivot.F sc__pivot rfl rfl fun cdv A outer s H E hr =>
 (s_cons (s_set 4 sc__pivot.nd (d_ix i_ix (d_var 0) (d_var 2)))
 (s_cons (s_set 5 sc__pivot.nd (d_un o_neg (d_ix i_ix (d_var 1) (d_var 2))))
 (s_cons (s_setLcN 6 rfl sc__pivot.nd rfl rfl (sw_true rfl rfl rfl (by decide +kernel)) (i_zip (by rfl) T.z_zip (l_cons (d_var 0) (l_cons (d_var 1) l_nil))) (blkOk_by (N := N__pivot) (sc := defScope s__pivot) (own := [("a", 7), ("b", 8)]) (by decide +kernel)) (fun _ _ _ _ _ => (g_tup rfl (gs_cons (g_name 7 sc__pivot.nd) (gs_cons (g_name 8 sc__pivot.nd) gs_nil)))) (fun _ _ _ _ _ => ts_nil) (fun _ _ _ _ _ => (d_op2 o_div (d_op2 o_add (d_op2 o_mul (d_var 5) (d_var 7)) (d_op2 o_mul (d_var 4) (d_var 8))) (d_var 3))))
 (s_cons (s_setI 6 (d_un o_neg (d_var 4)) (d_var 2))
 (s_frz 6 (s_one (s_ret (d_var 6))))))))
set_option maxHeartbeats 4000000 in
theorem ok__placed (T : Tx K mg) : FnOk PP w K mg base (L2.CX PP w) 1 T.d__placed.f T.d__placed.fd ["names", "numbers", "size"] (spD K C0 3 m__placed) :=
 PF.fnDN (k := 0) (N := N__placed) (ps := ["names", "numbers", "size"]) (fb := b__placed) T.d__placed.F sc__placed rfl rfl fun cdv A outer s H E hr =>
 (s_cons (s_setN 3 sc__placed.nd (n_rep (d_new (n_lst (l_cons d_int l_nil))) (d_var 2)))
 (s_cons (s_for (passes_of rfl) rfl (i_zip (by rfl) T.z_zip (l_cons (d_var 0) (l_cons (d_var 1) l_nil))) (g_tup rfl (gs_cons (g_name 4 sc__placed.nd) (gs_cons (g_name 5 sc__placed.nd) gs_nil)))
 (s_one (s_if (t_cmp o_lt (d_var 4) (d_var 2))
 (s_one (s_setI 3 (d_var 5) (d_var 4)))
 s_nil)))
 (s_frz 3 (s_one (s_ret (d_callTy b_tuple (by rfl) T.z_tuple bt_tuple (l_cons (d_var 3) l_nil)))))))
set_option maxHeartbeats 4000000 in
theorem ok_alternative (T : Tx K mg) : FnOk PP w K mg base (L2.CX PP w) 2 T.d_alternative.f T.d_alternative.fd ["rows", "goal"] (spD K C0 2 m_alternative) :=
 PF.fnDN (k := 1) (N := N_alternative) (ps := ["rows", "goal"]) (fb := b_alternative) T.d_alternative.F sc_alternative rfl rfl fun cdv A outer s H E hr =>
 (s_cons (s_set 2 sc_alternative.nd (d_callB b_len (by rfl) T.z_len bt_len (l_cons (d_var 1) l_nil)))
 (s_cons (s_setLcN 3 rfl sc_alternative.nd rfl rfl (sw_true rfl rfl rfl (by decide +kernel)) (i_seq (d_var 0)) (blkOk_by (N := N_alternative) (sc := defScope s_alternative) (own := [("row", 16)]) (by decide +kernel)) (fun _ _ _ _ _ => (g_name 16 sc_alternative.nd)) (fun _ _ _ _ _ => ts_nil) (fun _ _ _ _ _ => (d_callTy b_list (by rfl) T.z_list bt_list (l_cons (d_var 16) l_nil))))
 (s_cons (s_set 4 sc_alternative.nd (d_callTy b_list (by rfl) T.z_list bt_list (l_cons (d_var 1) l_nil)))
 (s_cons (s_setN 5 sc_alternative.nd (n_listRg1 rfl (by rfl) T.z_list (by rfl) T.z_range (d_var 2)))
 (s_cons (s_setLcN 6 rfl sc_alternative.nd rfl rfl (sw_true rfl rfl rfl (by decide +kernel)) (i_rng1 (by rfl) T.z_range (l_cons (d_callB b_len (by rfl) T.z_len bt_len (l_cons (d_var 0) l_nil)) l_nil)) (blkOk_by (N := N_alternative) (sc := defScope s_alternative) (own := [("i", 17)]) (by decide +kernel)) (fun _ _ _ _ _ => (g_name 17 sc_alternative.nd)) (fun _ _ _ _ _ => ts_nil) (fun _ _ _ _ _ => (d_op2 o_add (d_var 2) (d_var 17))))
 (s_cons (s_set 7 sc_alternative.nd d_int)
 (s_cons (s_set 8 sc_alternative.nd (d_bor (d_call (ok__entering T) (takes_of rfl rfl rfl rfl) (hr.mono (by decide)) (by rfl) T.d__entering.g T.d__entering.F.kp T.d__entering.b (l_cons (d_var 5) (l_cons (d_var 4) l_nil)))))
 (s_cons (s_while FU (passes_of rfl) (t_notN (d_var 8))
 (s_cons (s_set 12 sc_alternative.nd (d_bor (d_call (ok__leaving T) (takes_of rfl rfl rfl rfl) (hr.mono (by decide)) (by rfl) T.d__leaving.g T.d__leaving.F.kp T.d__leaving.b (l_cons (d_var 6) (l_cons (d_var 3) (l_cons (d_var 8) l_nil))))))
 (s_cons (s_if (t_isN (d_var 12))
 (s_cons (s_set 15 sc_alternative.nd (d_new (n_bor (n_cat (d_new (n_comp rfl sc_alternative.nd (i_seq (d_var 3)) (blkOk_by (N := N_alternative) (sc := defScope s_alternative) (own := [("row", 16)]) (by decide +kernel)) (fun _ _ _ _ _ => (g_name 16 sc_alternative.nd)) (fun _ _ _ _ _ => ts_nil) (fun _ _ _ _ _ => (d_ix i_ix (d_var 16) (d_var 8))))) (d_new (n_lst (l_cons (d_var 7) l_nil)))))))
 (s_frz 6 (s_one (s_ret (d_tup (l_cons d_str (l_cons (d_call (ok__placed T) (takes_of rfl rfl rfl rfl) (hr.mono (by decide)) (by rfl) T.d__placed.g T.d__placed.F.kp T.d__placed.b (l_cons (d_op2 o_add (d_var 6) (d_new (n_lst (l_cons (d_ixO 5 (d_var 8)) l_nil)))) (l_cons (d_var 15) (l_cons (d_var 2) l_nil)))) l_nil)))))))
 s_nil)
 (s_cons (s_set 13 sc_alternative.nd (d_ixO 3 (d_var 12)))
 (s_cons (s_set 14 sc_alternative.nd (d_un o_neg (d_ix i_ix (d_var 13) (d_var 8))))
 (s_frz 3 (s_cons (s_setLcN 3 rfl sc_alternative.nd rfl rfl (sw_true rfl rfl rfl (by decide +kernel)) (i_enum (by rfl) T.z_enumerate (l_cons (d_var 3) l_nil)) (blkOk_by (N := N_alternative) (sc := defScope s_alternative) (own := [("i", 17), ("row", 16)]) (by decide +kernel)) (fun _ _ _ _ _ => (g_tup rfl (gs_cons (g_name 17 sc_alternative.nd) (gs_cons (g_name 16 sc_alternative.nd) gs_nil)))) (fun _ _ _ _ _ => ts_nil) (fun _ _ _ _ _ => (d_if (t_cmp (o_eq hr.units) (d_var 17) (d_var 12)) (d_var 13) (d_call (ok__pivot T) takes0 (hr.mono (by decide)) (by rfl) T.d__pivot.g T.d__pivot.F.kp T.d__pivot.b (l_cons (d_var 16) (l_cons (d_var 13) (l_cons (d_var 8) (l_cons (d_var 7) l_nil))))))))
 (s_cons (s_set 4 sc_alternative.nd (d_call (ok__pivot T) (takes_of rfl rfl rfl rfl) (hr.mono (by decide)) (by rfl) T.d__pivot.g T.d__pivot.F.kp T.d__pivot.b (l_cons (d_var 4) (l_cons (d_var 13) (l_cons (d_var 8) (l_cons (d_var 7) l_nil))))))
 (s_cons (s_setI 3 (d_new (n_comp rfl sc_alternative.nd (i_enum (by rfl) T.z_enumerate (l_cons (d_var 13) l_nil)) (blkOk_by (N := N_alternative) (sc := defScope s_alternative) (own := [("k", 18), ("item", 19)]) (by decide +kernel)) (fun _ _ _ _ _ => (g_tup rfl (gs_cons (g_name 18 sc_alternative.nd) (gs_cons (g_name 19 sc_alternative.nd) gs_nil)))) (fun _ _ _ _ _ => ts_nil) (fun _ _ _ _ _ => (d_if (t_cmp (o_ne hr.units) (d_var 18) (d_var 8)) (d_var 19) (d_un o_neg (d_var 7)))))) (d_var 12))
 (s_cons (s_asgM rfl (l_cons (d_ixO 5 (d_var 8)) (l_cons (d_ixO 6 (d_var 12)) l_nil)) (ms_cons (m_sub 6 (d_var 12)) (ms_cons (m_sub 5 (d_var 8)) ms_nil)) (aCons_n (aCons_n aNil_n)) (by decide))
 (s_cons (s_set 7 sc_alternative.nd (d_var 14))
 (s_one (s_set 8 sc_alternative.nd (d_bor (d_call (ok__entering T) (takes_of rfl rfl rfl rfl) (hr.mono (by decide)) (by rfl) T.d__entering.g T.d__entering.F.kp T.d__entering.b (l_cons (d_var 5) (l_cons (d_var 4) l_nil)))))))))))))))))
 (s_cons (s_setN 9 sc_alternative.nd (n_rep (d_new (n_lst (l_cons d_int l_nil))) (d_callB b_len (by rfl) T.z_len bt_len (l_cons (d_var 0) l_nil))))
 (s_frz 5 (s_cons (s_for (passes_of rfl) rfl (i_zip (by rfl) T.z_zip (l_cons (d_var 5) (l_cons (d_var 4) l_nil))) (g_tup rfl (gs_cons (g_name 10 sc_alternative.nd) (gs_cons (g_name 11 sc_alternative.nd) gs_nil)))
 (s_one (s_if (t_cmp o_ge (d_var 10) (d_var 2))
 (s_one (s_setI 9 (d_un o_neg (d_var 11)) (d_op2 o_sub (d_var 10) (d_var 2))))
 s_nil)))
 (s_frz 9 (s_one (s_ret (d_tup (l_cons d_str (l_cons (d_var 7) (l_cons (d_callTy b_tuple (by rfl) T.z_tuple bt_tuple (l_cons (d_var 9) l_nil)) l_nil))))))))))))))))))
set_option maxHeartbeats 4000000 in
theorem ok__opposite (T : Tx K mg) : FnOk PP w K mg base (L2.CX PP w) 1 T.d__opposite.f T.d__opposite.fd ["table"] (spD K C0 1 m__opposite) :=
 PF.fnDN (k := 0) (N := N__opposite) (ps := ["table"]) (fb := b__opposite) T.d__opposite.F sc__opposite rfl rfl fun cdv A outer s H E hr =>
 (s_one (s_ret (d_callTy b_tuple (by rfl) T.z_tuple bt_tuple (l_cons (d_new (n_comp rfl sc__opposite.nd (i_seq (d_var 0)) (blkOk_by (N := N__opposite) (sc := defScope s__opposite) (own := [("row", 1)]) (by decide +kernel)) (fun _ _ _ _ _ => (g_name 1 sc__opposite.nd)) (fun _ _ _ _ _ => ts_nil) (fun _ _ _ _ _ => (d_callTy b_tuple (by rfl) T.z_tuple bt_tuple (l_cons (d_new (n_comp rfl sc__opposite.nd (i_seq (d_var 1)) (blkOk_by (own := [("a", 2)]) (by kernel_rfl)) (fun _ _ _ _ _ => (g_name 2 sc__opposite.nd)) (fun _ _ _ _ _ => ts_nil) (fun _ _ _ _ _ => (d_un o_neg (d_var 2))))) l_nil))))) l_nil))))
set_option maxHeartbeats 4000000 in
theorem ok_primitive (T : Tx K mg) : FnOk PP w K mg base (L2.CX PP w) 1 T.d_primitive.f T.d_primitive.fd ["vector"] (spD K C0 1 m_primitive) :=
 PF.fnDN (k := 0) (N := N_primitive) (ps := ["vector"]) (fb := b_primitive) T.d_primitive.F sc_primitive rfl rfl fun cdv A outer s H E hr =>
 (s_cons (s_set 1 sc_primitive.nd d_int)
 (s_cons (s_for (passes_of rfl) rfl (i_seq (d_var 0)) (g_name 2 sc_primitive.nd)
 (s_one (s_set 1 sc_primitive.nd (d_callG b_gcd (by rfl) T.g_gcd (l_cons (d_var 1) (l_cons (d_var 2) l_nil))))))
 (s_cons (s_if (t_cmp o_le (d_var 1) d_int)
 (s_one (s_ret (d_var 0)))
 s_nil)
 (s_one (s_ret (d_callTy b_tuple (by rfl) T.z_tuple bt_tuple (l_cons (d_new (n_comp rfl sc_primitive.nd (i_seq (d_var 0)) (blkOk_by (N := N_primitive) (sc := defScope s_primitive) (own := [("item", 2)]) (by decide +kernel)) (fun _ _ _ _ _ => (g_name 2 sc_primitive.nd)) (fun _ _ _ _ _ => ts_nil) (fun _ _ _ _ _ => (d_op2 o_div (d_var 2) (d_var 1))))) l_nil)))))))
set_option maxHeartbeats 4000000 in
theorem ok_strong_paper (T : Tx K mg) : FnOk PP w K mg base (L2.CX PP w) 3 T.d_strong_paper.f T.d_strong_paper.fd ["table"] (spD K C0 1 m_strong_paper) :=
 PF.fnDN (k := 2) (N := N_strong_paper) (ps := ["table"]) (fb := b_strong_paper) T.d_strong_paper.F sc_strong_paper rfl rfl fun cdv A outer s H E hr =>
 (s_cons (s_set 1 sc_strong_paper.nd (d_call (ok_alternative T) (takes_of rfl rfl rfl rfl) (hr.mono (by decide)) (by rfl) T.d_alternative.g T.d_alternative.F.kp T.d_alternative.b (l_cons (d_call (ok__opposite T) (takes_of rfl rfl rfl rfl) (hr.mono (by decide)) (by rfl) T.d__opposite.g T.d__opposite.F.kp T.d__opposite.b (l_cons (d_var 0) l_nil)) (l_cons (d_op2 o_mulT (d_tup (l_cons d_int l_nil)) (d_callB b_len (by rfl) T.z_len bt_len (l_cons (d_var 0) l_nil))) l_nil))))
 (s_cons (s_if (t_cmp (o_eq hr.units) (d_ix i_ix (d_var 1) d_int) d_str)
 (s_one (s_ret (d_tup (l_cons d_str (l_cons (d_ix i_ix (d_var 1) d_int) l_nil)))))
 s_nil)
 (s_one (s_ret (d_tup (l_cons d_str (l_cons (d_call (ok_primitive T) (takes_of rfl rfl rfl rfl) (hr.mono (by decide)) (by rfl) T.d_primitive.g T.d_primitive.F.kp T.d_primitive.b (l_cons (d_ix i_ix (d_var 1) d_int) l_nil)) l_nil)))))))
set_option maxHeartbeats 4000000 in
theorem ok__goal (T : Tx K mg) : FnOk PP w K mg base (L2.CX PP w) 1 T.d__goal.f T.d__goal.fd ["rows", "y", "image"] (spD K C0 3 m__goal) :=
 PF.fnDN (k := 0) (N := N__goal) (ps := ["rows", "y", "image"]) (fb := b__goal) T.d__goal.F sc__goal rfl rfl fun cdv A outer s H E hr =>
 (s_cons (s_setLc 3 rfl sc__goal.nd rfl rfl (sw_true rfl rfl rfl (by decide +kernel)) (i_seq (d_var 1)) (blkOk_by (N := N__goal) (sc := defScope s__goal) (own := [("item", 5)]) (by decide +kernel)) (fun _ _ _ _ _ => (g_name 5 sc__goal.nd)) (fun _ _ _ _ _ => ts_nil) (fun _ _ _ _ _ => (d_callTy b_int (by rfl) T.z_int bt_int (l_cons (d_cmp (o_eq hr.units) (d_var 5) d_int) l_nil))))
 (s_cons (s_for (passes_of rfl) rfl (i_zipM (by rfl) T.z_zip (l_cons (d_var 0) (l_cons (d_var 2) l_nil))) (g_tup rfl (gs_cons (g_name 4 sc__goal.nd) (gs_cons (g_name 5 sc__goal.nd) gs_nil)))
 (s_one (s_if (t_cmp (o_eq hr.units) (d_var 5) d_int)
 (s_one (s_setLc 3 rfl sc__goal.nd rfl rfl (sw_true rfl rfl rfl (by decide +kernel)) (i_zipM (by rfl) T.z_zip (l_cons (d_var 3) (l_cons (d_var 4) l_nil))) (blkOk_by (N := N__goal) (sc := defScope s__goal) (own := [("a", 6), ("b", 7)]) (by decide +kernel)) (fun _ _ _ _ _ => (g_tup rfl (gs_cons (g_name 6 sc__goal.nd) (gs_cons (g_name 7 sc__goal.nd) gs_nil)))) (fun _ _ _ _ _ => ts_nil) (fun _ _ _ _ _ => (d_op2 o_add (d_var 6) (d_var 7)))))
 s_nil)))
 (s_one (s_ret (d_callTy b_tuple (by rfl) T.z_tuple bt_tuple (l_cons (d_var 3) l_nil))))))
set_option maxHeartbeats 4000000 in
theorem ok_dot (T : Tx K mg) : FnOk PP w K mg base (L2.CX PP w) 1 T.d_dot.f T.d_dot.fd ["first", "second"] (spD K C0 2 m_dot) :=
 PF.fnDN (k := 0) (N := N_dot) (ps := ["first", "second"]) (fb := b_dot) T.d_dot.F sc_dot rfl rfl fun cdv A outer s H E hr =>
 (s_one (s_ret (d_callB (b_sum rfl) (by rfl) T.z_sum bt_sum (l_cons (d_new (n_comp rfl sc_dot.nd (i_zip (by rfl) T.z_zip (l_cons (d_var 0) (l_cons (d_var 1) l_nil))) (blkOk_by (N := N_dot) (sc := defScope s_dot) (own := [("a", 2), ("b", 3)]) (by decide +kernel)) (fun _ _ _ _ _ => (g_tup rfl (gs_cons (g_name 2 sc_dot.nd) (gs_cons (g_name 3 sc_dot.nd) gs_nil)))) (fun _ _ _ _ _ => ts_nil) (fun _ _ _ _ _ => (d_op2 o_mul (d_var 2) (d_var 3))))) l_nil))))
set_option maxHeartbeats 4000000 in
theorem ok_product (T : Tx K mg) : FnOk PP w K mg base (L2.CX PP w) 2 T.d_product.f T.d_product.fd ["matrix", "vector"] (spD K C0 2 m_product) :=
 PF.fnDN (k := 1) (N := N_product) (ps := ["matrix", "vector"]) (fb := b_product) T.d_product.F sc_product rfl rfl fun cdv A outer s H E hr =>
 (s_one (s_ret (d_callTy b_tuple (by rfl) T.z_tuple bt_tuple (l_cons (d_new (n_comp rfl sc_product.nd (i_seq (d_var 0)) (blkOk_by (N := N_product) (sc := defScope s_product) (own := [("row", 2)]) (by decide +kernel)) (fun _ _ _ _ _ => (g_name 2 sc_product.nd)) (fun _ _ _ _ _ => ts_nil) (fun _ _ _ _ _ => (d_call (ok_dot T) takes0 (hr.mono (by decide)) (by rfl) T.d_dot.g T.d_dot.F.kp T.d_dot.b (l_cons (d_var 2) (l_cons (d_var 1) l_nil)))))) l_nil))))
set_option maxHeartbeats 4000000 in
theorem ok_weak_paper (T : Tx K mg) : FnOk PP w K mg base (L2.CX PP w) 3 T.d_weak_paper.f T.d_weak_paper.fd ["table"] (spD K C0 1 m_weak_paper) :=
 PF.fnDN (k := 2) (N := N_weak_paper) (ps := ["table"]) (fb := b_weak_paper) T.d_weak_paper.F sc_weak_paper rfl rfl fun cdv A outer s H E hr =>
 (s_cons (s_set 1 sc_weak_paper.nd (d_call (ok__opposite T) (takes_of rfl rfl rfl rfl) (hr.mono (by decide)) (by rfl) T.d__opposite.g T.d__opposite.F.kp T.d__opposite.b (l_cons (d_var 0) l_nil)))
 (s_cons (s_set 2 sc_weak_paper.nd (d_op2 o_mulT (d_tup (l_cons d_int l_nil)) (d_callB b_len (by rfl) T.z_len bt_len (l_cons (d_var 0) l_nil))))
 (s_cons (s_set 3 sc_weak_paper.nd (d_var 2))
 (s_cons (s_set 4 sc_weak_paper.nd (d_call (ok_alternative T) (takes_of rfl rfl rfl rfl) (hr.mono (by decide)) (by rfl) T.d_alternative.g T.d_alternative.F.kp T.d_alternative.b (l_cons (d_var 1) (l_cons (d_call (ok__goal T) (takes_of rfl rfl rfl rfl) (hr.mono (by decide)) (by rfl) T.d__goal.g T.d__goal.F.kp T.d__goal.b (l_cons (d_var 1) (l_cons (d_var 2) (l_cons (d_var 3) l_nil)))) l_nil))))
 (s_cons (s_while FU (passes_of rfl) (t_cmp (o_eq hr.units) (d_ix i_ix (d_var 4) d_int) d_str)
 (s_cons (s_set 2 sc_weak_paper.nd (d_callTy b_tuple (by rfl) T.z_tuple bt_tuple (l_cons (d_new (n_comp rfl sc_weak_paper.nd (i_zipM (by rfl) T.z_zip (l_cons (d_var 2) (l_cons (d_ix i_ix (d_var 4) d_int) l_nil))) (blkOk_by (N := N_weak_paper) (sc := defScope s_weak_paper) (own := [("a", 8), ("b", 9)]) (by decide +kernel)) (fun _ _ _ _ _ => (g_tup rfl (gs_cons (g_name 8 sc_weak_paper.nd) (gs_cons (g_name 9 sc_weak_paper.nd) gs_nil)))) (fun _ _ _ _ _ => ts_nil) (fun _ _ _ _ _ => (d_op2 o_add (d_var 8) (d_var 9))))) l_nil)))
 (s_cons (s_set 3 sc_weak_paper.nd (d_call (ok_product T) (takes_of rfl rfl rfl rfl) (hr.mono (by decide)) (by rfl) T.d_product.g T.d_product.F.kp T.d_product.b (l_cons (d_var 1) (l_cons (d_var 2) l_nil))))
 (s_cons (s_if (t_truth (d_callB (b_any rfl) (by rfl) T.z_any bt_any (l_cons (d_new (n_comp rfl sc_weak_paper.nd (i_zipM (by rfl) T.z_zip (l_cons (d_var 2) (l_cons (d_var 3) l_nil))) (blkOk_by (N := N_weak_paper) (sc := defScope s_weak_paper) (own := [("a", 8), ("b", 9)]) (by decide +kernel)) (fun _ _ _ _ _ => (g_tup rfl (gs_cons (g_name 8 sc_weak_paper.nd) (gs_cons (g_name 9 sc_weak_paper.nd) gs_nil)))) (fun _ _ _ _ _ => ts_nil) (fun _ _ _ _ _ => (d_and (d_cmp o_gt (d_var 8) d_int) (d_one (d_cmp o_gt (d_var 9) d_int)))))) l_nil)))
 (s_one (s_ret (d_tup (l_cons d_str (l_cons (d_call (ok_primitive T) (takes_of rfl rfl rfl rfl) (hr.mono (by decide)) (by rfl) T.d_primitive.g T.d_primitive.F.kp T.d_primitive.b (l_cons (d_var 2) l_nil)) l_nil)))))
 s_nil)
 (s_one (s_set 4 sc_weak_paper.nd (d_call (ok_alternative T) (takes_of rfl rfl rfl rfl) (hr.mono (by decide)) (by rfl) T.d_alternative.g T.d_alternative.F.kp T.d_alternative.b (l_cons (d_var 1) (l_cons (d_call (ok__goal T) (takes_of rfl rfl rfl rfl) (hr.mono (by decide)) (by rfl) T.d__goal.g T.d__goal.F.kp T.d__goal.b (l_cons (d_var 1) (l_cons (d_var 2) (l_cons (d_var 3) l_nil)))) l_nil)))))))))
 (s_cons (s_asg (d_var 4) (g_tup rfl (gs_cons (g_name 5 sc_weak_paper.nd) (gs_cons (g_name 6 sc_weak_paper.nd) (gs_cons (g_name 7 sc_weak_paper.nd) gs_nil)))))
 (s_one (s_ret (d_tup (l_cons d_str (l_cons (d_callTy b_tuple (by rfl) T.z_tuple bt_tuple (l_cons (d_new (n_comp rfl sc_weak_paper.nd (i_zipM (by rfl) T.z_zip (l_cons (d_var 7) (l_cons (d_var 3) l_nil))) (blkOk_by (N := N_weak_paper) (sc := defScope s_weak_paper) (own := [("a", 8), ("b", 9)]) (by decide +kernel)) (fun _ _ _ _ _ => (g_tup rfl (gs_cons (g_name 8 sc_weak_paper.nd) (gs_cons (g_name 9 sc_weak_paper.nd) gs_nil)))) (fun _ _ _ _ _ => ts_nil) (fun _ _ _ _ _ => (d_op2 o_add (d_var 8) (d_op2 o_mul (d_var 6) (d_callTy b_int (by rfl) T.z_int bt_int (l_cons (d_cmp (o_eq hr.units) (d_var 9) d_int) l_nil))))))) l_nil)) l_nil)))))))))))
set_option maxHeartbeats 4000000 in
theorem okS__law_same (T : Tx K mg) {r : List D → R D} {j : Nat} (hj : 0 ≤ j) (ih : FnOk PP w K mg base (L2.CX PP w) j T.d__law_same.f T.d__law_same.fd ["found", "due"] (spD K C0 2 r)) : FnOk PP w K mg base (L2.CX PP w) (j + 1) T.d__law_same.f T.d__law_same.fd ["found", "due"] (spD K C0 2 (dDef 4 (b__law_same r))) :=
 PF.fnDN (k := j) (N := N__law_same) (ps := ["found", "due"]) (fb := b__law_same r) T.d__law_same.F sc__law_same rfl rfl fun cdv A outer s H E hr =>
 (s_cons (s_if (t_truth (d_isi (n := "tuple") (by decide) (by rfl) T.z_isinstance (by rfl) T.z_tuple bt_tuple (d_var 1)))
 (s_cons (s_if ((t_or (t_not (t_truth (d_isi (n := "tuple") (by decide) (by rfl) T.z_isinstance (by rfl) T.z_tuple bt_tuple (d_var 0)))) (t_or1 (t_cmp (o_ne hr.units) (d_callB b_len (by rfl) T.z_len bt_len (l_cons (d_var 0) l_nil)) (d_callB b_len (by rfl) T.z_len bt_len (l_cons (d_var 1) l_nil)))))).pt
 (s_one (s_ret d_bl))
 s_nil)
 (s_one (s_ret (d_callB (b_all rfl) (by rfl) T.z_all bt_all (l_cons (d_new (n_comp rfl sc__law_same.nd (i_zipM (by rfl) T.z_zip (l_cons (d_var 0) (l_cons (d_var 1) l_nil))) (blkOk_by (N := N__law_same) (sc := defScope s__law_same) (own := [("a", 2), ("b", 3)]) (by decide +kernel)) (fun _ _ _ _ _ => (g_tup rfl (gs_cons (g_name 2 sc__law_same.nd) (gs_cons (g_name 3 sc__law_same.nd) gs_nil)))) (fun _ _ _ _ _ => ts_nil) (fun _ _ _ _ _ => (d_call ih takes0 (hr.mono (by omega)) (by rfl) T.d__law_same.g T.d__law_same.F.kp T.d__law_same.b (l_cons (d_var 2) (l_cons (d_var 3) l_nil)))))) l_nil)))))
 s_nil)
 (s_cons (s_if ((t_or (t_isN (d_var 1)) (t_or1 (t_truth (d_isi (n := "bool") (by decide) (by rfl) T.z_isinstance (by rfl) T.z_bool bt_bool (d_var 1)))))).pt
 (s_one (s_ret (d_if (t_isN (d_var 1)) (d_isN (d_var 0)) (d_and (d_isi (n := "bool") (by decide) (by rfl) T.z_isinstance (by rfl) T.z_bool bt_bool (d_var 0)) (d_one (d_cmp (o_eq hr.units) (d_var 0) (d_var 1)))))))
 s_nil)
 (s_cons (s_if (t_truth (d_isi (n := "str") (by decide) (by rfl) T.z_isinstance (by rfl) T.z_str bt_str (d_var 1)))
 (s_one (s_ret (d_and (d_isi (n := "str") (by decide) (by rfl) T.z_isinstance (by rfl) T.z_str bt_str (d_var 0)) (d_one (d_cmp (o_eq hr.units) (d_var 0) (d_var 1))))))
 s_nil)
 (s_one (s_ret (d_and (d_isi (n := "int") (by decide) (by rfl) T.z_isinstance (by rfl) T.z_int bt_int (d_var 0)) (d_and (d_not (d_isi (n := "bool") (by decide) (by rfl) T.z_isinstance (by rfl) T.z_bool bt_bool (d_var 0))) (d_one (d_cmp (o_eq hr.units) (d_var 0) (d_var 1))))))))))
theorem okR__law_same (T : Tx K mg) : ∀ j, FnOk PP w K mg base (L2.CX PP w) (0 + j) T.d__law_same.f T.d__law_same.fd ["found", "due"] (spD K C0 2 (r__law_same j))
  | 0 => fnNo rfl
  | j + 1 => okS__law_same T (by omega) (okR__law_same T j)
theorem ok__law_same (T : Tx K mg) : FnOk PP w K mg base (L2.CX PP w) 5 T.d__law_same.f T.d__law_same.fd ["found", "due"] (spD K C0 2 m__law_same) := okR__law_same T 5
set_option maxHeartbeats 4000000 in
theorem ok__law_is_integer (T : Tx K mg) : FnOk PP w K mg base (L2.CX PP w) 1 T.d__law_is_integer.f T.d__law_is_integer.fd ["item"] (spD K C0 1 m__law_is_integer) :=
 PF.fnDN (k := 0) (N := N__law_is_integer) (ps := ["item"]) (fb := b__law_is_integer) T.d__law_is_integer.F sc__law_is_integer rfl rfl fun cdv A outer s H E hr =>
 (s_one (s_ret (d_and (d_isi (n := "int") (by decide) (by rfl) T.z_isinstance (by rfl) T.z_int bt_int (d_var 0)) (d_one (d_not (d_isi (n := "bool") (by decide) (by rfl) T.z_isinstance (by rfl) T.z_bool bt_bool (d_var 0)))))))
set_option maxHeartbeats 4000000 in
theorem ok__law_is_vector (T : Tx K mg) : FnOk PP w K mg base (L2.CX PP w) 2 T.d__law_is_vector.f T.d__law_is_vector.fd ["item", "size"] (spD K C0 2 m__law_is_vector) :=
 PF.fnDN (k := 1) (N := N__law_is_vector) (ps := ["item", "size"]) (fb := b__law_is_vector) T.d__law_is_vector.F sc__law_is_vector rfl rfl fun cdv A outer s H E hr =>
 (s_one (s_ret (d_and (d_isi (n := "tuple") (by decide) (by rfl) T.z_isinstance (by rfl) T.z_tuple bt_tuple (d_var 0)) (d_and (d_cmp (o_eq hr.units) (d_callB b_len (by rfl) T.z_len bt_len (l_cons (d_var 0) l_nil)) (d_var 1)) (d_one (d_callB (b_all rfl) (by rfl) T.z_all bt_all (l_cons (d_new (n_comp rfl sc__law_is_vector.nd (i_seq (d_var 0)) (blkOk_by (N := N__law_is_vector) (sc := defScope s__law_is_vector) (own := [("x", 2)]) (by decide +kernel)) (fun _ _ _ _ _ => (g_name 2 sc__law_is_vector.nd)) (fun _ _ _ _ _ => ts_nil) (fun _ _ _ _ _ => (d_call (ok__law_is_integer T) takes0 (hr.mono (by decide)) (by rfl) T.d__law_is_integer.g T.d__law_is_integer.F.kp T.d__law_is_integer.b (l_cons (d_var 2) l_nil))))) l_nil)))))))
set_option maxHeartbeats 4000000 in
theorem ok__law_sums (T : Tx K mg) : FnOk PP w K mg base (L2.CX PP w) 1 T.d__law_sums.f T.d__law_sums.fd ["u", "table"] (spD K C0 2 m__law_sums) :=
 PF.fnDN (k := 0) (N := N__law_sums) (ps := ["u", "table"]) (fb := b__law_sums) T.d__law_sums.F sc__law_sums rfl rfl fun cdv A outer s H E hr =>
 (s_one (s_ret (d_new (n_comp rfl sc__law_sums.nd (i_rng1 (by rfl) T.z_range (l_cons (d_callB b_len (by rfl) T.z_len bt_len (l_cons (d_var 1) l_nil)) l_nil)) (blkOk_by (N := N__law_sums) (sc := defScope s__law_sums) (own := [("j", 2)]) (by decide +kernel)) (fun _ _ _ _ _ => (g_name 2 sc__law_sums.nd)) (fun _ _ _ _ _ => ts_nil) (fun _ _ _ _ _ => (d_callB (b_sum rfl) (by rfl) T.z_sum bt_sum (l_cons (d_new (n_comp rfl sc__law_sums.nd (i_rng1 (by rfl) T.z_range (l_cons (d_callB b_len (by rfl) T.z_len bt_len (l_cons (d_var 1) l_nil)) l_nil)) (blkOk_by (own := [("i", 3)]) (by kernel_rfl)) (fun _ _ _ _ _ => (g_name 3 sc__law_sums.nd)) (fun _ _ _ _ _ => ts_nil) (fun _ _ _ _ _ => (d_op2 o_mul (d_ix i_ix (d_var 0) (d_var 3)) (d_ix i_ix (d_ix i_ix (d_var 1) (d_var 3)) (d_var 2)))))) l_nil)))))))
set_option maxHeartbeats 4000000 in
theorem ok__law_dot (T : Tx K mg) : FnOk PP w K mg base (L2.CX PP w) 1 T.d__law_dot.f T.d__law_dot.fd ["first", "second"] (spD K C0 2 m__law_dot) :=
 PF.fnDN (k := 0) (N := N__law_dot) (ps := ["first", "second"]) (fb := b__law_dot) T.d__law_dot.F sc__law_dot rfl rfl fun cdv A outer s H E hr =>
 (s_one (s_ret (d_callB (b_sum rfl) (by rfl) T.z_sum bt_sum (l_cons (d_new (n_comp rfl sc__law_dot.nd (i_zip (by rfl) T.z_zip (l_cons (d_var 0) (l_cons (d_var 1) l_nil))) (blkOk_by (N := N__law_dot) (sc := defScope s__law_dot) (own := [("a", 2), ("b", 3)]) (by decide +kernel)) (fun _ _ _ _ _ => (g_tup rfl (gs_cons (g_name 2 sc__law_dot.nd) (gs_cons (g_name 3 sc__law_dot.nd) gs_nil)))) (fun _ _ _ _ _ => ts_nil) (fun _ _ _ _ _ => (d_op2 o_mul (d_var 2) (d_var 3))))) l_nil))))
set_option maxHeartbeats 4000000 in
theorem ok__law_image (T : Tx K mg) : FnOk PP w K mg base (L2.CX PP w) 2 T.d__law_image.f T.d__law_image.fd ["table", "y"] (spD K C0 2 m__law_image) :=
 PF.fnDN (k := 1) (N := N__law_image) (ps := ["table", "y"]) (fb := b__law_image) T.d__law_image.F sc__law_image rfl rfl fun cdv A outer s H E hr =>
 (s_one (s_ret (d_new (n_comp rfl sc__law_image.nd (i_seq (d_var 0)) (blkOk_by (N := N__law_image) (sc := defScope s__law_image) (own := [("row", 2)]) (by decide +kernel)) (fun _ _ _ _ _ => (g_name 2 sc__law_image.nd)) (fun _ _ _ _ _ => ts_nil) (fun _ _ _ _ _ => (d_call (ok__law_dot T) takes0 (hr.mono (by decide)) (by rfl) T.d__law_dot.g T.d__law_dot.F.kp T.d__law_dot.b (l_cons (d_var 2) (l_cons (d_var 1) l_nil))))))))
set_option maxHeartbeats 4000000 in
theorem ok__law_strong (T : Tx K mg) : FnOk PP w K mg base (L2.CX PP w) 3 T.d__law_strong.f T.d__law_strong.fd ["found", "table"] (spD K C0 2 m__law_strong) :=
 PF.fnDN (k := 2) (N := N__law_strong) (ps := ["found", "table"]) (fb := b__law_strong) T.d__law_strong.F sc__law_strong rfl rfl fun cdv A outer s H E hr =>
 (s_cons (s_if ((t_or (t_not (t_truth (d_isi (n := "tuple") (by decide) (by rfl) T.z_isinstance (by rfl) T.z_tuple bt_tuple (d_var 0)))) (t_or (t_cmp (o_ne hr.units) (d_callB b_len (by rfl) T.z_len bt_len (l_cons (d_var 0) l_nil)) d_int) (t_or1 (t_not (t_truth (d_isi (n := "str") (by decide) (by rfl) T.z_isinstance (by rfl) T.z_str bt_str (d_ix i_ix (d_var 0) d_int)))))))).pt
 (s_one (s_ret d_bl))
 s_nil)
 (s_cons (s_if ((t_or (t_not (t_truth (d_call (ok__law_is_vector T) (takes_of rfl rfl rfl rfl) (hr.mono (by decide)) (by rfl) T.d__law_is_vector.g T.d__law_is_vector.F.kp T.d__law_is_vector.b (l_cons (d_ix i_ix (d_var 0) d_int) (l_cons (d_callB b_len (by rfl) T.z_len bt_len (l_cons (d_var 1) l_nil)) l_nil))))) (t_or1 (t_truth (d_callB (b_any rfl) (by rfl) T.z_any bt_any (l_cons (d_new (n_comp rfl sc__law_strong.nd (i_seq (d_ix i_ix (d_var 0) d_int)) (blkOk_by (N := N__law_strong) (sc := defScope s__law_strong) (own := [("a", 2)]) (by decide +kernel)) (fun _ _ _ _ _ => (g_name 2 sc__law_strong.nd)) (fun _ _ _ _ _ => ts_nil) (fun _ _ _ _ _ => (d_cmp o_lt (d_var 2) d_int)))) l_nil)))))).pt
 (s_one (s_ret d_bl))
 s_nil)
 (s_cons (s_if (t_cmp (o_eq hr.units) (d_ix i_ix (d_var 0) d_int) d_str)
 (s_one (s_ret (d_callB (b_all rfl) (by rfl) T.z_all bt_all (l_cons (d_new (n_comp rfl sc__law_strong.nd (i_seq (d_call (ok__law_sums T) (takes_of rfl rfl rfl rfl) (hr.mono (by decide)) (by rfl) T.d__law_sums.g T.d__law_sums.F.kp T.d__law_sums.b (l_cons (d_ix i_ix (d_var 0) d_int) (l_cons (d_var 1) l_nil)))) (blkOk_by (N := N__law_strong) (sc := defScope s__law_strong) (own := [("a", 2)]) (by decide +kernel)) (fun _ _ _ _ _ => (g_name 2 sc__law_strong.nd)) (fun _ _ _ _ _ => ts_nil) (fun _ _ _ _ _ => (d_cmp o_ge (d_var 2) d_int)))) l_nil))))
 s_nil)
 (s_one (s_ret (d_and (d_cmp (o_eq hr.units) (d_ix i_ix (d_var 0) d_int) d_str) (d_and (d_callB (b_any rfl) (by rfl) T.z_any bt_any (l_cons (d_new (n_comp rfl sc__law_strong.nd (i_seq (d_ix i_ix (d_var 0) d_int)) (blkOk_by (N := N__law_strong) (sc := defScope s__law_strong) (own := [("a", 2)]) (by decide +kernel)) (fun _ _ _ _ _ => (g_name 2 sc__law_strong.nd)) (fun _ _ _ _ _ => ts_nil) (fun _ _ _ _ _ => (d_cmp o_gt (d_var 2) d_int)))) l_nil)) (d_one (d_callB (b_all rfl) (by rfl) T.z_all bt_all (l_cons (d_new (n_comp rfl sc__law_strong.nd (i_seq (d_call (ok__law_image T) (takes_of rfl rfl rfl rfl) (hr.mono (by decide)) (by rfl) T.d__law_image.g T.d__law_image.F.kp T.d__law_image.b (l_cons (d_var 1) (l_cons (d_ix i_ix (d_var 0) d_int) l_nil)))) (blkOk_by (N := N__law_strong) (sc := defScope s__law_strong) (own := [("a", 2)]) (by decide +kernel)) (fun _ _ _ _ _ => (g_name 2 sc__law_strong.nd)) (fun _ _ _ _ _ => ts_nil) (fun _ _ _ _ _ => (d_cmp o_le (d_var 2) d_int)))) l_nil))))))))))
set_option maxHeartbeats 4000000 in
theorem ok__law_weak (T : Tx K mg) : FnOk PP w K mg base (L2.CX PP w) 3 T.d__law_weak.f T.d__law_weak.fd ["found", "table"] (spD K C0 2 m__law_weak) :=
 PF.fnDN (k := 2) (N := N__law_weak) (ps := ["found", "table"]) (fb := b__law_weak) T.d__law_weak.F sc__law_weak rfl rfl fun cdv A outer s H E hr =>
 (s_cons (s_if ((t_or (t_not (t_truth (d_isi (n := "tuple") (by decide) (by rfl) T.z_isinstance (by rfl) T.z_tuple bt_tuple (d_var 0)))) (t_or (t_cmp (o_ne hr.units) (d_callB b_len (by rfl) T.z_len bt_len (l_cons (d_var 0) l_nil)) d_int) (t_or1 (t_not (t_truth (d_isi (n := "str") (by decide) (by rfl) T.z_isinstance (by rfl) T.z_str bt_str (d_ix i_ix (d_var 0) d_int)))))))).pt
 (s_one (s_ret d_bl))
 s_nil)
 (s_cons (s_if ((t_or (t_not (t_truth (d_call (ok__law_is_vector T) (takes_of rfl rfl rfl rfl) (hr.mono (by decide)) (by rfl) T.d__law_is_vector.g T.d__law_is_vector.F.kp T.d__law_is_vector.b (l_cons (d_ix i_ix (d_var 0) d_int) (l_cons (d_callB b_len (by rfl) T.z_len bt_len (l_cons (d_var 1) l_nil)) l_nil))))) (t_or1 (t_truth (d_callB (b_any rfl) (by rfl) T.z_any bt_any (l_cons (d_new (n_comp rfl sc__law_weak.nd (i_seq (d_ix i_ix (d_var 0) d_int)) (blkOk_by (N := N__law_weak) (sc := defScope s__law_weak) (own := [("a", 4)]) (by decide +kernel)) (fun _ _ _ _ _ => (g_name 4 sc__law_weak.nd)) (fun _ _ _ _ _ => ts_nil) (fun _ _ _ _ _ => (d_cmp o_lt (d_var 4) d_int)))) l_nil)))))).pt
 (s_one (s_ret d_bl))
 s_nil)
 (s_cons (s_if (t_cmp (o_eq hr.units) (d_ix i_ix (d_var 0) d_int) d_str)
 (s_cons (s_set 3 sc__law_weak.nd (d_call (ok__law_sums T) (takes_of rfl rfl rfl rfl) (hr.mono (by decide)) (by rfl) T.d__law_sums.g T.d__law_sums.F.kp T.d__law_sums.b (l_cons (d_ix i_ix (d_var 0) d_int) (l_cons (d_var 1) l_nil))))
 (s_one (s_ret (d_callB (b_all rfl) (by rfl) T.z_all bt_all (l_cons (d_new (n_comp rfl sc__law_weak.nd (i_zipM (by rfl) T.z_zip (l_cons (d_ix i_ix (d_var 0) d_int) (l_cons (d_var 3) l_nil))) (blkOk_by (N := N__law_weak) (sc := defScope s__law_weak) (own := [("a", 4), ("b", 5)]) (by decide +kernel)) (fun _ _ _ _ _ => (g_tup rfl (gs_cons (g_name 4 sc__law_weak.nd) (gs_cons (g_name 5 sc__law_weak.nd) gs_nil)))) (fun _ _ _ _ _ => ts_nil) (fun _ _ _ _ _ => (d_and (d_cmp o_ge (d_var 5) d_int) (d_one (d_cmp o_ge (d_op2 o_add (d_var 4) (d_var 5)) d_int)))))) l_nil)))))
 s_nil)
 (s_cons (s_set 2 sc__law_weak.nd (d_call (ok__law_image T) (takes_of rfl rfl rfl rfl) (hr.mono (by decide)) (by rfl) T.d__law_image.g T.d__law_image.F.kp T.d__law_image.b (l_cons (d_var 1) (l_cons (d_ix i_ix (d_var 0) d_int) l_nil))))
 (s_cons (s_if ((t_or (t_cmp (o_ne hr.units) (d_ix i_ix (d_var 0) d_int) d_str) (t_or1 (t_truth (d_callB (b_any rfl) (by rfl) T.z_any bt_any (l_cons (d_new (n_comp rfl sc__law_weak.nd (i_seq (d_var 2)) (blkOk_by (N := N__law_weak) (sc := defScope s__law_weak) (own := [("b", 5)]) (by decide +kernel)) (fun _ _ _ _ _ => (g_name 5 sc__law_weak.nd)) (fun _ _ _ _ _ => ts_nil) (fun _ _ _ _ _ => (d_cmp o_gt (d_var 5) d_int)))) l_nil)))))).pt
 (s_one (s_ret d_bl))
 s_nil)
 (s_one (s_ret (d_callB (b_any rfl) (by rfl) T.z_any bt_any (l_cons (d_new (n_comp rfl sc__law_weak.nd (i_zipM (by rfl) T.z_zip (l_cons (d_ix i_ix (d_var 0) d_int) (l_cons (d_var 2) l_nil))) (blkOk_by (N := N__law_weak) (sc := defScope s__law_weak) (own := [("a", 4), ("b", 5)]) (by decide +kernel)) (fun _ _ _ _ _ => (g_tup rfl (gs_cons (g_name 4 sc__law_weak.nd) (gs_cons (g_name 5 sc__law_weak.nd) gs_nil)))) (fun _ _ _ _ _ => ts_nil) (fun _ _ _ _ _ => (d_and (d_cmp o_ge (d_var 4) d_int) (d_one (d_cmp o_le (d_var 5) (d_un o_neg d_int))))))) l_nil)))))))))
set_option maxHeartbeats 4000000 in
theorem ok__law_judged (T : Tx K mg) : FnOk PP w K mg base (L2.CX PP w) 6 T.d__law_judged.f T.d__law_judged.fd ["table", "strong", "weak"] (spD K C0 3 m__law_judged) :=
 PF.fnDN (k := 5) (N := N__law_judged) (ps := ["table", "strong", "weak"]) (fb := b__law_judged) T.d__law_judged.F sc__law_judged rfl rfl fun cdv A outer s H E hr =>
 (s_cons (s_set 3 sc__law_judged.nd (d_call (ok_strong_paper T) (takes_of rfl rfl rfl rfl) (hr.mono (by decide)) (by rfl) T.d_strong_paper.g T.d_strong_paper.F.kp T.d_strong_paper.b (l_cons (d_var 0) l_nil)))
 (s_cons (s_set 4 sc__law_judged.nd (d_call (ok_weak_paper T) (takes_of rfl rfl rfl rfl) (hr.mono (by decide)) (by rfl) T.d_weak_paper.g T.d_weak_paper.F.kp T.d_weak_paper.b (l_cons (d_var 0) l_nil)))
 (s_cons (s_if ((t_or (t_not (t_truth (d_call (ok__law_strong T) (takes_of rfl rfl rfl rfl) (hr.mono (by decide)) (by rfl) T.d__law_strong.g T.d__law_strong.F.kp T.d__law_strong.b (l_cons (d_var 3) (l_cons (d_var 0) l_nil))))) (t_or1 (t_not (t_truth (d_call (ok__law_weak T) (takes_of rfl rfl rfl rfl) (hr.mono (by decide)) (by rfl) T.d__law_weak.g T.d__law_weak.F.kp T.d__law_weak.b (l_cons (d_var 4) (l_cons (d_var 0) l_nil)))))))).pt
 (s_one (s_ret d_bl))
 s_nil)
 (s_cons (s_if ((t_and (t_cmp (o_ne hr.units) (d_var 1) d_str) (t_and1 (t_cmp (o_ne hr.units) (d_ix i_ix (d_var 3) d_int) (d_var 1))))).pt
 (s_one (s_ret d_bl))
 s_nil)
 (s_cons (s_if ((t_and (t_cmp (o_ne hr.units) (d_var 2) d_str) (t_and1 (t_cmp (o_ne hr.units) (d_ix i_ix (d_var 4) d_int) (d_var 2))))).pt
 (s_one (s_ret d_bl))
 s_nil)
 (s_one (s_ret (d_and (d_call (ok__law_same T) (takes_of rfl rfl rfl rfl) (hr.mono (by decide)) (by rfl) T.d__law_same.g T.d__law_same.F.kp T.d__law_same.b (l_cons (d_call (ok_strong_paper T) (takes_of rfl rfl rfl rfl) (hr.mono (by decide)) (by rfl) T.d_strong_paper.g T.d_strong_paper.F.kp T.d_strong_paper.b (l_cons (d_var 0) l_nil)) (l_cons (d_var 3) l_nil))) (d_one (d_call (ok__law_same T) (takes_of rfl rfl rfl rfl) (hr.mono (by decide)) (by rfl) T.d__law_same.g T.d__law_same.F.kp T.d__law_same.b (l_cons (d_call (ok_weak_paper T) (takes_of rfl rfl rfl rfl) (hr.mono (by decide)) (by rfl) T.d_weak_paper.g T.d_weak_paper.F.kp T.d_weak_paper.b (l_cons (d_var 0) l_nil)) (l_cons (d_var 4) l_nil))))))))))))
set_option maxHeartbeats 4000000 in
theorem ok_turns (T : Tx K mg) : FnOk PP w K mg base (L2.CX PP w) 3 T.d_turns.f T.d_turns.fd ["table", "x"] (spD K C0 2 m_turns) :=
 PF.fnDN (k := 2) (N := N_turns) (ps := ["table", "x"]) (fb := b_turns) T.d_turns.F sc_turns rfl rfl fun cdv A outer s H E hr =>
 (s_one (s_ret (d_callTy b_tuple (by rfl) T.z_tuple bt_tuple (l_cons (d_new (n_comp rfl sc_turns.nd (i_zipM (by rfl) T.z_zip (l_cons (d_var 1) (l_cons (d_call (ok_product T) (takes_of rfl rfl rfl rfl) (hr.mono (by decide)) (by rfl) T.d_product.g T.d_product.F.kp T.d_product.b (l_cons (d_var 0) (l_cons (d_var 1) l_nil))) l_nil))) (blkOk_by (N := N_turns) (sc := defScope s_turns) (own := [("a", 2), ("b", 3)]) (by decide +kernel)) (fun _ _ _ _ _ => (g_tup rfl (gs_cons (g_name 2 sc_turns.nd) (gs_cons (g_name 3 sc_turns.nd) gs_nil)))) (fun _ _ _ _ _ => ts_nil) (fun _ _ _ _ _ => (d_op2 o_mul (d_var 2) (d_var 3))))) l_nil))))
set_option maxHeartbeats 4000000 in
theorem ok__law_turned (T : Tx K mg) : FnOk PP w K mg base (L2.CX PP w) 6 T.d__law_turned.f T.d__law_turned.fd ["table", "x"] (spD K C0 2 m__law_turned) :=
 PF.fnDN (k := 5) (N := N__law_turned) (ps := ["table", "x"]) (fb := b__law_turned) T.d__law_turned.F sc__law_turned rfl rfl fun cdv A outer s H E hr =>
 (s_cons (s_set 2 sc__law_turned.nd (d_callTy b_tuple (by rfl) T.z_tuple bt_tuple (l_cons (d_new (n_comp rfl sc__law_turned.nd (i_zipM (by rfl) T.z_zip (l_cons (d_var 1) (l_cons (d_call (ok__law_image T) (takes_of rfl rfl rfl rfl) (hr.mono (by decide)) (by rfl) T.d__law_image.g T.d__law_image.F.kp T.d__law_image.b (l_cons (d_var 0) (l_cons (d_var 1) l_nil))) l_nil))) (blkOk_by (N := N__law_turned) (sc := defScope s__law_turned) (own := [("a", 3), ("b", 4)]) (by decide +kernel)) (fun _ _ _ _ _ => (g_tup rfl (gs_cons (g_name 3 sc__law_turned.nd) (gs_cons (g_name 4 sc__law_turned.nd) gs_nil)))) (fun _ _ _ _ _ => ts_nil) (fun _ _ _ _ _ => (d_op2 o_mul (d_var 3) (d_var 4))))) l_nil)))
 (s_one (s_ret (d_call (ok__law_same T) (takes_of rfl rfl rfl rfl) (hr.mono (by decide)) (by rfl) T.d__law_same.g T.d__law_same.F.kp T.d__law_same.b (l_cons (d_call (ok_turns T) (takes_of rfl rfl rfl rfl) (hr.mono (by decide)) (by rfl) T.d_turns.g T.d_turns.F.kp T.d_turns.b (l_cons (d_var 0) (l_cons (d_var 1) l_nil))) (l_cons (d_var 2) l_nil))))))
set_option maxHeartbeats 4000000 in
theorem ok_law (T : Tx K mg) : FnOk PP w K mg base (L2.CX PP w) 7 T.d_law.f T.d_law.fd ["script"] (spD K C0 1 m_law) :=
 PF.fnDN (k := 6) (N := N_law) (ps := ["script"]) (fb := b_law) T.d_law.F sc_law rfl rfl fun cdv A outer s H E hr =>
 (s_cons (s_set 1 sc_law.nd (d_op2 o_add d_int (d_op2 o_mod (d_callTy b_int (by rfl) T.z_int bt_int (l_cons (d_call (ok__law_cell T) (takes_of rfl rfl rfl rfl) (hr.mono (by decide)) (by rfl) T.d__law_cell.g T.d__law_cell.F.kp T.d__law_cell.b (l_cons (d_var 0) (l_cons d_int l_nil))) l_nil)) d_int)))
 (s_cons (s_asg (d_call (ok__law_built T) (takes_of rfl rfl rfl rfl) (hr.mono (by decide)) (by rfl) T.d__law_built.g T.d__law_built.F.kp T.d__law_built.b (l_cons (d_var 0) (l_cons (d_var 1) l_nil))) (g_tup rfl (gs_cons (g_name 2 sc_law.nd) (gs_cons (g_name 3 sc_law.nd) (gs_cons (g_name 4 sc_law.nd) (gs_cons (g_name 5 sc_law.nd) gs_nil))))))
 (s_cons (s_if (t_not (t_truth (d_call (ok__law_judged T) (takes_of rfl rfl rfl rfl) (hr.mono (by decide)) (by rfl) T.d__law_judged.g T.d__law_judged.F.kp T.d__law_judged.b (l_cons (d_var 2) (l_cons (d_var 3) (l_cons (d_var 4) l_nil))))))
 (s_one (s_ret d_bl))
 s_nil)
 (s_cons (s_if (t_not (t_truth (d_var 5)))
 (s_cons (s_set 3 sc_law.nd d_str)
 (s_one (s_set 4 sc_law.nd d_str)))
 s_nil)
 (s_cons (s_set 6 sc_law.nd (d_callTy b_tuple (by rfl) T.z_tuple bt_tuple (l_cons (d_new (n_comp rfl sc_law.nd (i_rng1 (by rfl) T.z_range (l_cons (d_var 1) l_nil)) (blkOk_by (N := N_law) (sc := defScope s_law) (own := [("i", 13)]) (by decide +kernel)) (fun _ _ _ _ _ => (g_name 13 sc_law.nd)) (fun _ _ _ _ _ => ts_nil) (fun _ _ _ _ _ => (d_callTy b_tuple (by rfl) T.z_tuple bt_tuple (l_cons (d_new (n_comp rfl sc_law.nd (i_rng1 (by rfl) T.z_range (l_cons (d_var 1) l_nil)) (blkOk_by (own := [("j", 15)]) (by kernel_rfl)) (fun _ _ _ _ _ => (g_name 15 sc_law.nd)) (fun _ _ _ _ _ => ts_nil) (fun _ _ _ _ _ => (d_ix i_ix (d_ix i_ix (d_var 2) (d_var 15)) (d_var 13))))) l_nil))))) l_nil)))
 (s_cons (s_if (t_not (t_truth (d_call (ok__law_judged T) (takes_of rfl rfl rfl rfl) (hr.mono (by decide)) (by rfl) T.d__law_judged.g T.d__law_judged.F.kp T.d__law_judged.b (l_cons (d_var 6) (l_cons (d_var 3) (l_cons (d_var 4) l_nil))))))
 (s_one (s_ret d_bl))
 s_nil)
 (s_cons (s_set 7 sc_law.nd (d_new (n_comp rfl sc_law.nd (i_seq (d_call (ok__law_numbers T) (takes_of rfl rfl rfl rfl) (hr.mono (by decide)) (by rfl) T.d__law_numbers.g T.d__law_numbers.F.kp T.d__law_numbers.b (l_cons (d_call (ok__law_cell T) (takes_of rfl rfl rfl rfl) (hr.mono (by decide)) (by rfl) T.d__law_cell.g T.d__law_cell.F.kp T.d__law_cell.b (l_cons (d_var 0) (l_cons d_int l_nil))) (l_cons (d_var 1) (l_cons d_int l_nil))))) (blkOk_by (N := N_law) (sc := defScope s_law) (own := [("a", 12)]) (by decide +kernel)) (fun _ _ _ _ _ => (g_name 12 sc_law.nd)) (fun _ _ _ _ _ => ts_nil) (fun _ _ _ _ _ => (d_op2 o_sub d_int (d_op2 o_mul d_int (d_var 12)))))))
 (s_cons (s_set 8 sc_law.nd (d_callTy b_tuple (by rfl) T.z_tuple bt_tuple (l_cons (d_new (n_comp rfl sc_law.nd (i_rng1 (by rfl) T.z_range (l_cons (d_var 1) l_nil)) (blkOk_by (N := N_law) (sc := defScope s_law) (own := [("i", 13)]) (by decide +kernel)) (fun _ _ _ _ _ => (g_name 13 sc_law.nd)) (fun _ _ _ _ _ => ts_nil) (fun _ _ _ _ _ => (d_callTy b_tuple (by rfl) T.z_tuple bt_tuple (l_cons (d_new (n_comp rfl sc_law.nd (i_rng1 (by rfl) T.z_range (l_cons (d_var 1) l_nil)) (blkOk_by (own := [("j", 15)]) (by kernel_rfl)) (fun _ _ _ _ _ => (g_name 15 sc_law.nd)) (fun _ _ _ _ _ => ts_nil) (fun _ _ _ _ _ => (d_op2 o_mul (d_op2 o_mul (d_ix i_ix (d_var 7) (d_var 13)) (d_ix i_ix (d_var 7) (d_var 15))) (d_ix i_ix (d_ix i_ix (d_var 2) (d_var 13)) (d_var 15)))))) l_nil))))) l_nil)))
 (s_cons (s_if (t_not (t_truth (d_call (ok__law_judged T) (takes_of rfl rfl rfl rfl) (hr.mono (by decide)) (by rfl) T.d__law_judged.g T.d__law_judged.F.kp T.d__law_judged.b (l_cons (d_var 8) (l_cons (d_var 3) (l_cons (d_var 4) l_nil))))))
 (s_one (s_ret d_bl))
 s_nil)
 (s_cons (s_set 9 sc_law.nd (d_call (ok_strong_paper T) (takes_of rfl rfl rfl rfl) (hr.mono (by decide)) (by rfl) T.d_strong_paper.g T.d_strong_paper.F.kp T.d_strong_paper.b (l_cons (d_var 8) l_nil)))
 (s_cons (s_if (t_cmp (o_eq hr.units) (d_ix i_ix (d_var 9) d_int) d_str)
 (s_cons (s_set 11 sc_law.nd (d_callTy b_tuple (by rfl) T.z_tuple bt_tuple (l_cons (d_new (n_comp rfl sc_law.nd (i_zipM (by rfl) T.z_zip (l_cons (d_var 7) (l_cons (d_ix i_ix (d_var 9) d_int) l_nil))) (blkOk_by (N := N_law) (sc := defScope s_law) (own := [("a", 12), ("b", 14)]) (by decide +kernel)) (fun _ _ _ _ _ => (g_tup rfl (gs_cons (g_name 12 sc_law.nd) (gs_cons (g_name 14 sc_law.nd) gs_nil)))) (fun _ _ _ _ _ => ts_nil) (fun _ _ _ _ _ => (d_op2 o_mul (d_var 12) (d_var 14))))) l_nil)))
 (s_one (s_if ((t_or (t_not (t_truth (d_call (ok__law_turned T) (takes_of rfl rfl rfl rfl) (hr.mono (by decide)) (by rfl) T.d__law_turned.g T.d__law_turned.F.kp T.d__law_turned.b (l_cons (d_var 2) (l_cons (d_var 11) l_nil))))) (t_or1 (t_truth (d_callB (b_any rfl) (by rfl) T.z_any bt_any (l_cons (d_new (n_comp rfl sc_law.nd (i_zipM (by rfl) T.z_zip (l_cons (d_var 11) (l_cons (d_call (ok__law_image T) (takes_of rfl rfl rfl rfl) (hr.mono (by decide)) (by rfl) T.d__law_image.g T.d__law_image.F.kp T.d__law_image.b (l_cons (d_var 2) (l_cons (d_var 11) l_nil))) l_nil))) (blkOk_by (N := N_law) (sc := defScope s_law) (own := [("a", 12), ("b", 14)]) (by decide +kernel)) (fun _ _ _ _ _ => (g_tup rfl (gs_cons (g_name 12 sc_law.nd) (gs_cons (g_name 14 sc_law.nd) gs_nil)))) (fun _ _ _ _ _ => ts_nil) (fun _ _ _ _ _ => (d_cmp o_gt (d_op2 o_mul (d_var 12) (d_var 14)) d_int)))) l_nil)))))).pt
 (s_one (s_ret d_bl))
 s_nil)))
 s_nil)
 (s_cons (s_set 10 sc_law.nd (d_callTy b_tuple (by rfl) T.z_tuple bt_tuple (l_cons (d_new (n_comp rfl sc_law.nd (i_seq (d_call (ok__law_numbers T) (takes_of rfl rfl rfl rfl) (hr.mono (by decide)) (by rfl) T.d__law_numbers.g T.d__law_numbers.F.kp T.d__law_numbers.b (l_cons (d_call (ok__law_cell T) (takes_of rfl rfl rfl rfl) (hr.mono (by decide)) (by rfl) T.d__law_cell.g T.d__law_cell.F.kp T.d__law_cell.b (l_cons (d_var 0) (l_cons d_int l_nil))) (l_cons (d_var 1) (l_cons d_int l_nil))))) (blkOk_by (N := N_law) (sc := defScope s_law) (own := [("a", 12)]) (by decide +kernel)) (fun _ _ _ _ _ => (g_name 12 sc_law.nd)) (fun _ _ _ _ _ => ts_nil) (fun _ _ _ _ _ => (d_op2 o_sub (d_var 12) d_int)))) l_nil)))
 (s_one (s_ret (d_and (d_call (ok__law_turned T) (takes_of rfl rfl rfl rfl) (hr.mono (by decide)) (by rfl) T.d__law_turned.g T.d__law_turned.F.kp T.d__law_turned.b (l_cons (d_var 2) (l_cons (d_var 10) l_nil))) (d_one (d_call (ok__law_turned T) (takes_of rfl rfl rfl rfl) (hr.mono (by decide)) (by rfl) T.d__law_turned.g T.d__law_turned.F.kp T.d__law_turned.b (l_cons (d_var 6) (l_cons (d_callTy b_tuple (by rfl) T.z_tuple bt_tuple (l_cons (d_new (n_comp rfl sc_law.nd (i_seq (d_var 10)) (blkOk_by (N := N_law) (sc := defScope s_law) (own := [("a", 12)]) (by decide +kernel)) (fun _ _ _ _ _ => (g_name 12 sc_law.nd)) (fun _ _ _ _ _ => ts_nil) (fun _ _ _ _ _ => (d_op2 o_div (d_var 12) d_int)))) l_nil)) l_nil)))))))))))))))))))
end
end Law

set_option Elab.async false
set_option linter.all false
set_option maxRecDepth 100000
namespace Law
open PySem PySem.Spec PyProof.Rows L2 PF
def cellZ (ns : List Int) (k : Int) : Int := if h : 0 ≤ k ∧ k < ns.length then ns[k.toNat]'(by omega) else k * 104729
theorem cell_is (ns : List Int) (k : Int) (hk : 0 ≤ k) : m__law_cell [.klst (ns.map D.int), .int k] = .ok (.int (cellZ ns k)) := by
  unfold m__law_cell b__law_cell cellZ
  by_cases h : k < ns.length
  · simp [h, hk, atI_pos hk h]
  · simp [h, mulD_k]
theorem numbersN_is (cell : Int) (count : Nat) (base : Int) (hc : count ≤ 1000000) (hb : 0 < base) (hb2 : base < 18446744073709551616) :
    ∃ xs : List Int, n__law_numbers [.int cell, .int count, .int base] = .ok (xs.map .int) ∧ xs.length = count ∧ ∀ x ∈ xs, 0 ≤ x ∧ x < base := by
  have hb0 : base ≠ 0 := by omega
  obtain ⟨ρ1, hl1, xs1, a1, r1, c1, rfl, hx1, hy1⟩ := forL_inv (asg := aName 4) (f := sSeq (sApp 3 (e2 modD (eC PF.intD (lCons (eV 5) lNil)) (eV 2))) (sSet 5 (e2 divD (eV 5) (eV 2))))
    (fun ds ρ => ∃ (xs : List Int) (a : Sl) (r : Int) (c : Sl), ρ = [.val (.int cell), .val (.int count), .val (.int base), .own (xs.map .int), a, .val (.int r), c] ∧ xs.length + ds.length = count ∧ ∀ x ∈ xs, 0 ≤ x ∧ x < base)
    (rgD 0 count) [.val (.int cell), .val (.int count), .val (.int base), .own [], .un, .val (.int (cell - 1000000000000000000)), .un] ⟨[], _, _, _, rfl, by simp [rg_len], by simp⟩ (by
      rintro d ds _ ⟨xs, a, r, c, rfl, h1, h2⟩
      have hs : small (xs.length + 1) = true := small_of (by simp at h1; omega)
      simp [sApp, modD_of hb0, hs, divD_c r hb hb2]
      refine ⟨xs ++ [r.fmod base], by simp, by simp; simp at h1; omega, ?_⟩
      intro x hx
      rcases List.mem_append.mp hx with h | h
      · exact h2 x h
      · obtain rfl := List.mem_singleton.mp h
        exact fmod_rng r hb)
  obtain ⟨ρ2, hl2, xs2, a2, r2, c2, rfl, hx2, -, hy2⟩ := forL_inv (asg := aName 4) (f := (sSeq (sSet 6 (e2 modD (eC PF.intD (lCons (e2 addD (e2 addD (e2 mulD (eV 0) (eK (.int 48271))) (e2 mulD (eV 4) (eK (.int 69621)))) (eK (.int 12345))) lNil)) (eK (.int 2147483647))))
     (sSeq (sSet 6 (e2 modD (eC PF.intD (lCons (e2 addD (e2 addD (e2 mulD (eV 6) (eK (.int 16807))) (e2 divD (eV 6) (eK (.int 127)))) (e2 mulD (eV 4) (eK (.int 40692)))) lNil)) (eK (.int 2147483399))))
     (sApp 3 (e2 modD (e2 divD (eV 6) (eK (.int 7))) (eV 2))))))
    (fun ds ρ => ∃ (xs : List Int) (a : Sl) (r : Sl) (c : Sl), ρ = [.val (.int cell), .val (.int count), .val (.int base), .own (xs.map .int), a, r, c] ∧ xs.length + ds.length = count ∧ (∀ d ∈ ds, ∃ k : Nat, k < count ∧ d = .int (0 + (k : Int))) ∧ ∀ x ∈ xs, 0 ≤ x ∧ x < base)
    (rgD 0 count) [.val (.int cell), .val (.int count), .val (.int base), .own [], .un, .un, .un] ⟨[], _, _, _, rfl, by simp [rg_len], rg_ints 0 count, by simp⟩ (by
      rintro d ds _ ⟨xs, a, r, c, rfl, h1, h3, h2⟩
      have hs : small (xs.length + 1) = true := small_of (by simp at h1; omega)
      obtain ⟨k, hk, rfl⟩ := h3 d (List.mem_cons_self ..)
      simp [sApp, modD_of, hb0, hs, mulD_k, divD_c]
      refine ⟨xs ++ [(((((cell * 48271 + (k : Int) * 69621 + 12345).fmod 2147483647 * 16807 + ((cell * 48271 + (k : Int) * 69621 + 12345).fmod 2147483647).fdiv 127 + (k : Int) * 40692).fmod 2147483399).fdiv 7).fmod base)], by simp, by simp; simp at h1; omega, fun d hd => by have := h3 d (List.mem_cons_of_mem _ hd); simpa using this, ?_⟩
      intro x hx
      rcases List.mem_append.mp hx with h | h
      · exact h2 x h
      · obtain rfl := List.mem_singleton.mp h
        exact fmod_rng _ hb)
  unfold n__law_numbers b__law_numbers dDefN
  by_cases hcell : (1000000000000000000 : Int) ≤ cell
  · refine ⟨xs1, ?_, by simpa using hx1, hy1⟩
    simp [hcell, range1_nat (n := count) (by omega), hl1, sRetO]
  · refine ⟨xs2, ?_, by simpa using hx2, hy2⟩
    simp [hcell, range1_nat (n := count) (by omega), hl2, sRetO]
theorem numbers_is (cell : Int) (count : Nat) (base : Int) (hc : count ≤ 1000000) (hb : 0 < base) (hb2 : base < 18446744073709551616) :
    ∃ xs : List Int, m__law_numbers [.int cell, .int count, .int base] = .ok (.lst (xs.map .int)) ∧ xs.length = count ∧ ∀ x ∈ xs, 0 ≤ x ∧ x < base := by
  obtain ⟨xs, h1, h2⟩ := numbersN_is cell count base hc hb hb2
  exact ⟨xs, by unfold m__law_numbers asV; rw [h1]; rfl, h2⟩
end Law

set_option Elab.async false
set_option linter.all false
set_option maxRecDepth 100000
namespace Law
open PySem PySem.Spec PyProof.Rows L2 PF
abbrev nI (y : Nat) : D := .int (y : Int)
/-- the place with the least name among those with a mark -/
def Best (P : Nat → Prop) (names : List Nat) (m : Nat) (r : D) : Prop :=
  (r = .non ∧ ∀ j, j < m → ¬ P j) ∨ ∃ k, k < m ∧ r = .int (k : Nat) ∧ P k ∧ ∀ j, j < m → P j → at0 names k ≤ at0 names j
theorem Best.step {P : Nat → Prop} {names : List Nat} {i : Nat} {b : D} (h : Best P names i b) :
    (¬ P i → Best P names (i + 1) b) ∧ (P i → (b = .non ∨ ∃ k : Nat, b = .int k ∧ k < i ∧ at0 names i < at0 names k) → Best P names (i + 1) (.int i)) ∧
    (∀ k : Nat, b = .int k → k < i → ¬ at0 names i < at0 names k → Best P names (i + 1) b) := by
  refine ⟨fun hp => ?_, fun hp hb => ?_, fun k hk _ hlt => ?_⟩
  · rcases h with ⟨e, h⟩ | ⟨k, h1, h2, h3, h4⟩
    · exact .inl ⟨e, fun j hj => if z : j = i then z ▸ hp else h j (by omega)⟩
    · exact .inr ⟨k, by omega, h2, h3, fun j hj pj => if z : j = i then absurd (z ▸ pj) hp else h4 j (by omega) pj⟩
  · refine .inr ⟨i, by omega, rfl, hp, fun j hj pj => ?_⟩
    by_cases z : j = i
    · subst z; exact Nat.le_refl _
    · rcases h with ⟨e, h⟩ | ⟨k, h1, h2, h3, h4⟩
      · exact absurd pj (h j (by omega))
      · rcases hb with hb | ⟨k', e', h5, h6⟩
        · subst hb; cases h2
        · rw [h2] at e'
          cases e'
          have := h4 j (by omega) pj
          omega
  · rcases h with ⟨e, h⟩ | ⟨k', h1, h2, h3, h4⟩
    · subst e; cases hk
    · rw [h2] at hk
      cases hk
      exact .inr ⟨k, by omega, h2, h3, fun j hj pj => if z : j = i then by subst z; omega else h4 j (by omega) pj⟩
theorem entering_is (cols : List Nat) (costs : List Int) (h : cols.length = costs.length) :
    ∃ r, m__entering [.lst (cols.map nI), .lst (costs.map D.int)] = .ok r ∧ Best (fun j => 0 < at0 costs j) cols costs.length r := by
  obtain ⟨ρ, h1, b, x, y, rfl, hb⟩ := forL_idx (asg := aTup (aCons (aName 3) (aCons (aName 4) aNil)))
    (f := (sIf (tAnd' (c2 (cmpD fun i j => decide (j < i)) (eV 4) (eK (.int 0))) (tOr' (eIsN (eV 2)) (c2 (cmpD fun i j => decide (i < j)) (e2 ixD (eV 0) (eV 3)) (e2 ixD (eV 0) (eV 2)))))
      (sSet 2 (eV 3)) sNil))
    (fun i ρ => ∃ b x y, ρ = [.val (.lst (cols.map nI)), .val (.lst (costs.map D.int)), .val b, x, y] ∧ Best (fun j => 0 < at0 costs j) cols i b)
    (enumGo 0 (costs.map D.int)) [.val (.lst (cols.map nI)), .val (.lst (costs.map D.int)), .val .non, .un, .un] ⟨_, _, _, rfl, .inl ⟨rfl, fun j hj => by omega⟩⟩ (by
      rintro i hi _ ⟨b, x, y, rfl, hb⟩
      have hi' : i < costs.length := by rw [enum_len, List.length_map] at hi; exact hi
      rw [enum_get 0 _ i hi (by simpa using hi')]
      obtain ⟨s1, s2, s3⟩ := hb.step
      have hg : costs[i] = at0 costs i := at0_get hi'
      have a1 := atI_at0 (e := nI) (xs := cols) (k := i) (by omega)
      by_cases c : 0 < at0 costs i
      · rcases hb with ⟨e, hb'⟩ | ⟨k, k1, k2, k3, k4⟩
        · subst e
          simp [hg, c]
          exact s2 c (.inl rfl)
        · subst k2
          have a2 := atI_at0 (e := nI) (xs := cols) (k := k) (by omega)
          by_cases z : at0 cols i < at0 cols k
          · simp [hg, c, a1, a2, nI, z]
            exact s2 c (.inr ⟨k, rfl, k1, z⟩)
          · simp [hg, c, a1, a2, nI, z]
            exact s3 k rfl k1 z
      · simp [hg, c]
        exact s1 c)
  refine ⟨b, ?_, by simpa [enum_len] using hb⟩
  unfold m__entering b__entering
  simp [h1]

abbrev lI (row : List Int) : D := .lst (row.map D.int)
theorem leaving_is (lines : List Nat) (table : List (List Int)) (a : Nat) (h : lines.length = table.length) (ha : ∀ i, i < table.length → a < (at0 table i).length) :
    ∃ r, m__leaving [.lst (lines.map nI), .lst (table.map lI), .int (a : Int)] = .ok r ∧ Best (fun j => at0 (at0 table j) a < 0) lines table.length r := by
  obtain ⟨ρ, h1, b, x, y, rfl, hb⟩ := forL_idx (asg := aTup (aCons (aName 4) (aCons (aName 5) aNil)))
    (f := (sIf (tAnd' (c2 (cmpD fun i j => decide (i < j)) (e2 ixD (eV 5) (eV 2)) (eK (.int 0))) (tOr' (eIsN (eV 3)) (c2 (cmpD fun i j => decide (i < j)) (e2 ixD (eV 0) (eV 4)) (e2 ixD (eV 0) (eV 3)))))
      (sSet 3 (eV 4)) sNil))
    (fun i ρ => ∃ b x y, ρ = [.val (.lst (lines.map nI)), .val (.lst (table.map lI)), .val (.int (a : Int)), .val b, x, y] ∧ Best (fun j => at0 (at0 table j) a < 0) lines i b)
    (enumGo 0 (table.map lI)) [.val (.lst (lines.map nI)), .val (.lst (table.map lI)), .val (.int (a : Int)), .val .non, .un, .un] ⟨_, _, _, rfl, .inl ⟨rfl, fun j hj => by omega⟩⟩ (by
      rintro i hi _ ⟨b, x, y, rfl, hb⟩
      have hi' : i < table.length := by rw [enum_len, List.length_map] at hi; exact hi
      rw [enum_get 0 _ i hi (by simpa using hi')]
      obtain ⟨s1, s2, s3⟩ := hb.step
      have hg : table[i] = at0 table i := at0_get hi'
      have a0 := atI_at0 (e := D.int) (ha i hi')
      have a1 := atI_at0 (e := nI) (xs := lines) (k := i) (by omega)
      by_cases c : at0 (at0 table i) a < 0
      · rcases hb with ⟨e, hb'⟩ | ⟨k, k1, k2, k3, k4⟩
        · subst e
          simp [hg, c, a0]
          exact s2 c (.inl rfl)
        · subst k2
          have a2 := atI_at0 (e := nI) (xs := lines) (k := k) (by omega)
          by_cases z : at0 lines i < at0 lines k
          · simp [hg, c, a0, a1, a2, nI, z]
            exact s2 c (.inr ⟨k, rfl, k1, z⟩)
          · simp [hg, c, a0, a1, a2, nI, z]
            exact s3 k rfl k1 z
      · simp [hg, c, a0]
        exact s1 c)
  refine ⟨b, ?_, by simpa [enum_len] using hb⟩
  unfold m__leaving b__leaving
  simp [h1]
/-! ### the pivot -/
def Bd (x : Int) : Prop := x.natAbs < 2 ^ 2000
theorem Bd.mul {x y : Int} (hx : Bd x) (hy : Bd y) : mulOk x y = true := by
  refine mulOk_w ?_
  have h1 := log_of (k := 2000) hx (by omega)
  have h2 := log_of (k := 2000) hy (by omega)
  omega
theorem Bd.mulD {x y : Int} (hx : Bd x) (hy : Bd y) : PF.mulD (.int x) (.int y) = some (.int (x * y)) := by rw [PF.mulD, if_pos (hx.mul hy)]
theorem Bd.divD {x : Int} (y : Int) (h : Bd x) (h0 : x ≠ 0) : PF.divD (.int y) (.int x) = some (.int (y.fdiv x)) :=
  divD_of h0 (Nat.lt_of_lt_of_le (log_of (k := 2000) h (by omega)) (by omega))
theorem Bd.neg {x : Int} (h : Bd x) : Bd (-x) := by unfold Bd at *; rwa [Int.natAbs_neg]
theorem pivot_is (n : Nat) (row line : List Int) (c : Nat) (s : Int) (h1 : row.length = n) (h2 : line.length = n) (hc : c < n) (hn : n ≤ 1000) (hb : ∀ i, i < n → Bd (at0 row i)) (hb2 : ∀ i, i < n → Bd (at0 line i)) (hs : Bd s) (h0 : s ≠ 0) :
    m__pivot [.lst (row.map D.int), .lst (line.map D.int), .int (c : Int), .int s] = .ok (lI ((List.range n).map fun j => if j = c then - at0 row c else (- at0 line c * at0 row j + at0 row c * at0 line j).fdiv s)) := by
  have a1 := atI_at0 (e := D.int) (xs := row) (k := c) (by omega)
  have a2 := atI_at0 (e := D.int) (xs := line) (k := c) (by omega)
  have hz : List.zipWith (fun x y => D.tup [x, y]) (row.map D.int) (line.map D.int) = (List.range n).map fun j => D.tup [.int (at0 row j), .int (at0 line j)] := by
    apply List.ext_getElem (by simp [h1, h2])
    intro i x1 x2
    have : i < n := by simpa using x2
    rw [List.getElem_zipWith]
    simp only [List.getElem_map, List.getElem_range]
    rw [at0_get, at0_get]
  have hcomp := compL_of (asg := aTup (aCons (aName 7) (aCons (aName 8) aNil))) (elt := (e2 divD (e2 addD (e2 mulD (eV 5) (eV 7)) (e2 mulD (eV 4) (eV 8))) (eV 3)))
    (ρ := [.val (.lst (row.map D.int)), .val (.lst (line.map D.int)), .val (.int (c : Int)), .val (.int s), .val (.int (at0 row c)), .val (.int (- at0 line c)), .un, .un, .un])
    (e := fun j => D.tup [.int (at0 row j), .int (at0 line j)]) (g := fun j => D.int ((- at0 line c * at0 row j + at0 row c * at0 line j).fdiv s)) (List.range n) (fun j hj => by
      have hj := List.mem_range.mp hj
      simp [(hb2 c hc).neg.mulD (hb j hj), (hb c hc).mulD (hb2 j hj), hs.divD _ h0])
  have hsm := small_of (n := n) (by omega)
  unfold m__pivot b__pivot
  simp [a1, a2, hz, okW, wipeR, isOwn, hcomp, hsm, sSetI, ixN_nat hc, frzAt]
  apply List.ext_getElem (by simp)
  intro i x1 x2
  rw [List.getElem_set]
  simp only [List.getElem_map, List.getElem_range, Function.comp]
  by_cases z : c = i
  · subst z; simp
  · rw [if_neg z, if_neg (by omega)]
theorem placed_is (names : List Nat) (nums : List Int) (n : Nat) (hl : names.length = nums.length) (hn : n ≤ 1000000) (nd : ∀ i j, i < names.length → j < names.length → at0 names i = at0 names j → i = j) :
    ∃ x : List Int, m__placed [.lst (names.map nI), .lst (nums.map D.int), .int (n : Int)] = .ok (.tup (x.map D.int)) ∧ x.length = n ∧ ∀ t, t < n → (∀ i, i < nums.length → at0 names i = t → at0 x t = at0 nums i) ∧ ((∀ i, i < nums.length → at0 names i ≠ t) → at0 x t = 0) := by
  obtain ⟨ρ, h1, x, u, v, rfl, hx, hy⟩ := forL_idx (asg := aTup (aCons (aName 4) (aCons (aName 5) aNil)))
    (f := (sIf (c2 (cmpD fun i j => decide (i < j)) (eV 4) (eV 2)) (sSetI 3 (eV 4) (eV 5)) sNil))
    (fun i ρ => ∃ (x : List Int) (u v : Sl), ρ = [.val (.lst (names.map nI)), .val (.lst (nums.map D.int)), .val (.int (n : Int)), .own (x.map D.int), u, v] ∧ x.length = n ∧
      ∀ t, t < n → (∀ j, j < i → at0 names j = t → at0 x t = at0 nums j) ∧ ((∀ j, j < i → at0 names j ≠ t) → at0 x t = 0))
    ((List.range nums.length).map fun i => .tup [nI (at0 names i), .int (at0 nums i)]) [.val (.lst (names.map nI)), .val (.lst (nums.map D.int)), .val (.int (n : Int)), .own ((List.replicate n (0 : Int)).map D.int), .un, .un]
    ⟨List.replicate n 0, _, _, rfl, by simp, fun t ht => ⟨fun j hj => by omega, fun _ => by rw [← at0_get (by simpa using ht)]; simp⟩⟩ (by
      rintro i hi _ ⟨x, u, v, rfl, hx, hy⟩
      have hi' : i < nums.length := by simpa using hi
      by_cases c : at0 names i < n
      · refine ⟨[.val (.lst (names.map nI)), .val (.lst (nums.map D.int)), .val (.int (n : Int)), .own ((x.set (at0 names i) (at0 nums i)).map D.int), .val (nI (at0 names i)), .val (.int (at0 nums i))], ?_, x.set (at0 names i) (at0 nums i), _, _, rfl, by simpa using hx, fun t ht => ⟨fun j hj e => ?_, fun hno => ?_⟩⟩
        · simp [sSetI, c, nI, ixN_nat (n := x.length) (by rw [hx]; exact c), List.map_set]
        · by_cases z : at0 names i = t
          · have : j = i := nd j i (by omega) (by omega) (by rw [e, z])
            subst this; subst z
            exact at0_set (by rw [hx]; exact ht)
          · rw [at0_set_ne (by omega)]
            refine (hy t ht).1 j ?_ e
            have : j ≠ i := by rintro rfl; exact z e
            omega
        · rw [at0_set_ne (fun z => hno i (by omega) z.symm)]
          exact (hy t ht).2 fun j hj => hno j (by omega)
      · refine ⟨[.val (.lst (names.map nI)), .val (.lst (nums.map D.int)), .val (.int (n : Int)), .own (x.map D.int), .val (nI (at0 names i)), .val (.int (at0 nums i))], ?_, x, _, _, rfl, hx, fun t ht => ⟨fun j hj e => ?_, fun hno => ?_⟩⟩
        · simp [c, nI]
        · refine (hy t ht).1 j ?_ e
          have : j ≠ i := by rintro rfl; omega
          omega
        · exact (hy t ht).2 fun j hj => hno j (by omega))
  refine ⟨x, ?_, hx, by simpa using hy⟩
  have hz : List.zipWith (fun x y => D.tup [x, y]) (names.map nI) (nums.map D.int) = (List.range nums.length).map fun i => D.tup [nI (at0 names i), .int (at0 nums i)] := by
    apply List.ext_getElem (by simp [hl])
    intro i x1 x2
    have : i < nums.length := by simpa using x2
    rw [List.getElem_zipWith]
    simp only [List.getElem_map, List.getElem_range]
    rw [at0_get, at0_get]
  have hsm := small_of (n := n) (by omega)
  have hrep := rep_one (x := .int 0) (n := n) (by omega)
  unfold m__placed b__placed
  simp [hrep, hz]
  rw [List.map_replicate] at h1
  simp [h1, frzAt]
end Law

set_option Elab.async false
set_option linter.all false
set_option maxRecDepth 100000
namespace Law
open PySem PySem.Spec PyProof.Rows L2 PF
def bodyA : ES := (sSeq (sSet 12 (eBor (eCall 3 m__leaving (lCons (eV 6) (lCons (eV 3) (lCons (eV 8) lNil))))))
 (sSeq (sIf (eIsN (eV 12))
 (sSeq (sSet 15 (eNew (nBor (n2 catN (eNew (nComp (iSeq (eV 3)) (aName 16) tTrue (e2 ixD (eV 16) (eV 8)) [16])) (eNew (nLst (lCons (eV 7) lNil)))))))
 (sFrz 6 (sRet (eTup (lCons (eK (.str "point")) (lCons (eCall 3 m__placed (lCons (e2 addD (eV 6) (eNew (nLst (lCons (eOwn 5 (eV 8)) lNil)))) (lCons (eV 15) (lCons (eV 2) lNil)))) lNil))))))
 sNil)
 (sSeq (sSet 13 (eOwn 3 (eV 12)))
 (sSeq (sSet 14 (e1 negD (e2 ixD (eV 13) (eV 8))))
 (sFrz 3 (sSeq (sSetN 3 (nComp (iCall enumD (lCons (eV 3) lNil)) (aTup (aCons (aName 17) (aCons (aName 16) aNil))) tTrue (eIf (c2 eqD (eV 17) (eV 12)) (eV 13) (eCall 4 m__pivot (lCons (eV 16) (lCons (eV 13) (lCons (eV 8) (lCons (eV 7) lNil)))))) [17, 16]))
 (sSeq (sSet 4 (eCall 4 m__pivot (lCons (eV 4) (lCons (eV 13) (lCons (eV 8) (lCons (eV 7) lNil))))))
 (sSeq (sSetI 3 (eV 12) (eNew (nComp (iCall enumD (lCons (eV 13) lNil)) (aTup (aCons (aName 18) (aCons (aName 19) aNil))) tTrue (eIf (c2 neD (eV 18) (eV 8)) (eV 19) (e1 negD (eV 7))) [18, 19])))
 (sSeq (sAsgM (aCons (aSub 6 (eV 12)) (aCons (aSub 5 (eV 8)) aNil)) (lCons (eOwn 5 (eV 8)) (lCons (eOwn 6 (eV 12)) lNil)))
 (sSeq (sSet 7 (eV 14))
 (sSet 8 (eBor (eCall 2 m__entering (lCons (eV 5) (lCons (eV 4) lNil)))))))))))))))
def headA : ET := eNotN (eV 8)
abbrev ro (R G : D) (n : Nat) (table : List (List Int)) (costs : List Int) (cols lines : List Nat) (s : Int) (col : D) (a b c d : Sl) : Rho :=
  [.val R, .val G, .val (.int (n : Int)), .own (table.map lI), .val (lI costs), .own (cols.map nI), .own (lines.map nI), .val (.int s), .val col, .un, .un, .un, a, b, c, d, .un, .un, .un, .un]
theorem body_go {R G : D} {n m : Nat} {table : List (List Int)} {costs : List Int} {cols lines : List Nat} {s : Int} {v12 v13 v14 v15 : Sl} {a i : Nat} {new : Nat → List Int} {newc : List Int} {col : D} (hm : m ≤ 1000) (hn : n ≤ 1000)
    (ht : table.length = m) (hlm : lines.length = m) (hcm : cols.length = n) (hi : i < m) (ha : a < n) (hln : (at0 table i).length = n)
    (hl : m__leaving [.lst (lines.map nI), .lst (table.map lI), .int (a : Int)] = .ok (.int (i : Int)))
    (hpv : ∀ j, j < m → j ≠ i → m__pivot [lI (at0 table j), lI (at0 table i), .int (a : Int), .int s] = .ok (lI (new j)))
    (hpc : m__pivot [lI costs, lI (at0 table i), .int (a : Int), .int s] = .ok (lI newc))
    (hent : m__entering [.lst ((cols.set a (at0 lines i)).map nI), lI newc] = .ok col) (hfc : flat col = true) :
    bodyA (ro R G n table costs cols lines s (.int (a : Int)) v12 v13 v14 v15) = .ok (.nx, ro R G n ((List.range m).map fun j => if j = i then ((List.range n).map fun k => if k = a then -s else at0 (at0 table i) k) else new j) newc (cols.set a (at0 lines i)) (lines.set i (at0 cols a))
      (- at0 (at0 table i) a) col (.val (.int (i : Int))) (.val (lI (at0 table i))) (.val (.int (- at0 (at0 table i) a))) v15) := by
  have e1 := atI_at0 (e := lI) (xs := table) (k := i) (by omega)
  have e2 := atI_at0 (e := D.int) (xs := at0 table i) (k := a) (by omega)
  have e3 := atI_at0 (e := nI) (xs := cols) (k := a) (by omega)
  have e4 := atI_at0 (e := nI) (xs := lines) (k := i) (by omega)
  have z1 : enumGo 0 (table.map lI) = (List.range m).map fun (j : Nat) => D.tup [.int (j : Int), lI (at0 table j)] := by
    apply List.ext_getElem (by simp [enum_len, ht])
    intro k x1 x2
    have hk : k < m := by simpa using x2
    rw [enum_get 0 _ k x1 (by simpa [ht] using hk)]
    simp only [List.getElem_map, List.getElem_range, Nat.zero_add]
    rw [at0_get]
  have z2 : enumGo 0 ((at0 table i).map D.int) = (List.range n).map fun (j : Nat) => D.tup [.int (j : Int), .int (at0 (at0 table i) j)] := by
    apply List.ext_getElem (by simp [enum_len, hln])
    intro k x1 x2
    have hk : k < n := by simpa using x2
    rw [enum_get 0 _ k x1 (by simpa [hln] using hk)]
    simp only [List.getElem_map, List.getElem_range, Nat.zero_add]
    rw [at0_get]
  unfold bodyA
  have hm0 := small_of (n := m) (by omega)
  have hn0 := small_of (n := n) (by omega)
  simp [hl, e1, e2, e3, e4, frzAll, frzAt, okW, wipeR, z1, z2, eBor, nBor, eOwn, sSetI, aSub, ht, hlm, hcm, ixN_nat, hi, ha]
  rw [compL_of (e := fun (j : Nat) => D.tup [.int (j : Int), lI (at0 table j)]) (g := fun j => lI (if j = i then at0 table i else new j)) (List.range m) ?c1]
  case c1 =>
    intro j hj
    have hj := List.mem_range.mp hj
    by_cases z : j = i
    · subst z; simp
    · have z' : ¬ ((j : Int) = (i : Int)) := by omega
      simp [z, z', hpv j hj z]
  simp [hm0, hpc]
  rw [compL_of (e := fun (j : Nat) => D.tup [.int (j : Int), .int (at0 (at0 table i) j)]) (g := fun j => .int (if j = a then -s else at0 (at0 table i) j)) (List.range n) ?c2]
  case c2 =>
    intro j hj
    have hj := List.mem_range.mp hj
    by_cases z : j = a
    · subst z; simp
    · have z' : ¬ ((j : Int) = (a : Int)) := by omega
      simp [z, z']
  simp [hn0, hi, ixN_nat, e3, e4, hlm, hcm, ha, aSub, ← List.map_set, hent, hfc]
  apply List.ext_getElem (by simp)
  intro k x1 x2
  rw [List.getElem_set]
  simp only [List.getElem_map, List.getElem_range, Function.comp]
  by_cases z : i = k
  · subst z
    rw [if_pos rfl, if_pos rfl]
    simp [lI]
  · rw [if_neg z, if_neg (by omega), if_neg (by omega)]
theorem body_stop {R G : D} {n m : Nat} {table : List (List Int)} {costs : List Int} {cols lines : List Nat} {s : Int} {v12 v13 v14 v15 : Sl} {a : Nat} {p : D} (hm : m ≤ 1000) (hn : n ≤ 1000)
    (ht : table.length = m) (hlm : lines.length = m) (hcm : cols.length = n) (ha : a < n) (hln : ∀ i, i < m → a < (at0 table i).length)
    (hl : m__leaving [.lst (lines.map nI), .lst (table.map lI), .int (a : Int)] = .ok .non)
    (hp : m__placed [.lst ((lines ++ [at0 cols a]).map nI), .lst (((List.range m).map (fun i => at0 (at0 table i) a) ++ [s]).map D.int), .int (n : Int)] = .ok p) :
    ∃ ρ', bodyA (ro R G n table costs cols lines s (.int (a : Int)) v12 v13 v14 v15) = .ok (.rt (.tup [.str "point", p]), ρ') := by
  have e3 := atI_at0 (e := nI) (xs := cols) (k := a) (by omega)
  have hm0 := small_of (n := m) (by omega)
  have hm1 := small_of (n := m + 1) (by omega)
  unfold bodyA
  simp [hl, e3, frzAll, frzAt, okW, wipeR, eBor, nBor, eOwn, ht, hlm, hcm, ha]
  rw [show table.map lI = (List.range m).map fun i => lI (at0 table i) by rw [← ht]; exact map_at0 table lI,
    compL_of (e := fun i => lI (at0 table i)) (g := fun i => D.int (at0 (at0 table i) a)) (List.range m) ?c1]
  case c1 =>
    intro j hj
    have hj := List.mem_range.mp hj
    have e2 := atI_at0 (e := D.int) (xs := at0 table j) (k := a) (hln j hj)
    simp [e2]
  have hfl := flats_ints ((List.range m).map (fun i => at0 (at0 table i) a) ++ [s])
  simp [Function.comp_def] at hfl hp
  simp [hm0, hm1, hfl, addD, hlm, hp]
end Law

set_option Elab.async false
set_option linter.all false
set_option maxRecDepth 100000
namespace Law
open PySem PySem.Spec PyProof.Rows L2 PF
open Dt (sm Sup pz Cn Col Go)
structure Dom (rows : List (List Int)) (goal : List Int) : Prop where
  n1 : 1 ≤ goal.length
  n2 : goal.length ≤ 10
  m2 : rows.length ≤ 14
  rl : ∀ i, i < rows.length → (at0 rows i).length = goal.length
  rb : ∀ i t, i < rows.length → t < goal.length → (at0 (at0 rows i) t).natAbs ≤ 2 ^ 100
  gb : ∀ t, t < goal.length → (at0 goal t).natAbs ≤ 2 ^ 100
def fuV (rows : List (List Int)) (goal : List Int) (y : Nat) : Dt.Vc := fun t => if t < goal.length then (if y < goal.length then (if t = y then 1 else 0) else if y < goal.length + rows.length then at0 (at0 rows (y - goal.length)) t else 0) else 0
def Zo (rows : List (List Int)) (goal : List Int) : Cn where
  n := goal.length
  N := goal.length + rows.length
  fu := fuV rows goal
  g := fun t => if t < goal.length then at0 goal t else 0
  sup := fun y t ht => by unfold fuV; rw [if_neg (by omega)]
  supg := fun t ht => if_neg (by omega)
theorem fu_bound {rows : List (List Int)} {goal : List Int} (d : Dom rows goal) (y t : Nat) : ((Zo rows goal).fu y t).natAbs ≤ 2 ^ 100 := by
  show (fuV rows goal y t).natAbs ≤ 2 ^ 100
  unfold fuV
  split
  · split
    · split <;> simp
    · split
      · exact d.rb _ _ (by omega) (by assumption)
      · simp
  · simp
theorem g_bound {rows : List (List Int)} {goal : List Int} (d : Dom rows goal) (t : Nat) : ((Zo rows goal).g t).natAbs ≤ 2 ^ 100 := by
  show (if t < goal.length then at0 goal t else 0).natAbs ≤ 2 ^ 100
  split
  · exact d.gb _ (by assumption)
  · simp
theorem pow_le_big {n : Nat} (h : n ≤ 10) : (n * 2 ^ 100) ^ n < 2 ^ 2000 := by
  have h1 : (n * 2 ^ 100) ^ n ≤ (10 * 2 ^ 100) ^ n := Nat.pow_le_pow_left (Nat.mul_le_mul_right _ h) n
  have h2 : (10 * 2 ^ 100) ^ n ≤ (10 * 2 ^ 100) ^ 10 := Nat.pow_le_pow_right (by decide) h
  have h3 : (10 * 2 ^ 100) ^ 10 < 2 ^ 2000 := by decide +kernel
  exact Nat.lt_of_le_of_lt (Nat.le_trans h1 h2) h3
section
variable {rows : List (List Int)} {goal : List Int} {cols lines : List Nat} {e s : Int}
theorem pz_bd (d : Dom rows goal) (C : Col (Zo rows goal) cols e s) (j : Nat) {w : Dt.Vc} (hw : ∀ t, (w t).natAbs ≤ 2 ^ 100) : Bd (pz (Zo rows goal) cols e j w) := by
  unfold Bd pz
  refine Nat.lt_of_le_of_lt (Dt.ph_bound (M := 2 ^ 100) C.tab.eps C.tab.len (fun v hv t => ?_) hw) (pow_le_big d.n2)
  obtain ⟨y, _, rfl⟩ := List.mem_map.mp hv
  exact fu_bound d y t
theorem s_bd (d : Dom rows goal) (C : Col (Zo rows goal) cols e s) : Bd s := by
  have h0 : 0 < (Zo rows goal).n := d.n1
  have := C.val h0 h0
  rw [if_pos rfl] at this
  rw [← this]
  exact pz_bd d C _ (fu_bound d _)
end
structure Inv (Z : Cn) (m : Nat) (cols lines : List Nat) (e s : Int) : Prop where
  col : Col Z cols e s
  ll : lines.length = m
  inj : ∀ i j, i < m → j < m → at0 lines i = at0 lines j → i = j
  lt : ∀ i, i < m → at0 lines i < Z.N ∧ at0 lines i ∉ cols
  all : ∀ y, y < Z.N → y ∈ cols ∨ ∃ i, i < m ∧ at0 lines i = y
def tabOf (Z : Cn) (m : Nat) (cols lines : List Nat) (e : Int) : List (List Int) := (List.range m).map fun i => (List.range Z.n).map fun j => pz Z cols e j (Z.fu (at0 lines i))
def cosOf (Z : Cn) (cols : List Nat) (e : Int) : List Int := (List.range Z.n).map fun j => pz Z cols e j Z.g
section
variable {Z : Cn} {m : Nat} {cols lines : List Nat} {e s : Int}
theorem tab_len : (tabOf Z m cols lines e).length = m := by simp [tabOf]
theorem cos_len : (cosOf Z cols e).length = Z.n := by simp [cosOf]
theorem tab_row {i : Nat} (h : i < m) : at0 (tabOf Z m cols lines e) i = (List.range Z.n).map fun j => pz Z cols e j (Z.fu (at0 lines i)) := by
  unfold tabOf; rw [at0_map (by simpa using h), at0_range h]
theorem tab_at {i j : Nat} (h : i < m) (hj : j < Z.n) : at0 (at0 (tabOf Z m cols lines e) i) j = pz Z cols e j (Z.fu (at0 lines i)) := by
  rw [tab_row h, at0_map (by simpa using hj), at0_range hj]
theorem cos_at {j : Nat} (hj : j < Z.n) : at0 (cosOf Z cols e) j = pz Z cols e j Z.g := by
  unfold cosOf; rw [at0_map (by simpa using hj), at0_range hj]
theorem pz_next {a r : Nat} (G : Go Z cols e s a r) {k : Nat} (hk : k < Z.n) {w : Dt.Vc} (hw : Sup Z.n w) :
    pz Z (cols.set a r) (-e) k w = if k = a then - pz Z cols e a w else (- pz Z cols e a (Z.fu r) * pz Z cols e k w + pz Z cols e a w * pz Z cols e k (Z.fu r)).fdiv s := by
  unfold pz
  rw [List.map_set]
  by_cases c : k = a
  · subst c; rw [if_pos rfl]; exact Dt.ph_same
  · rw [if_neg c, ← G.col.tab.plu G.ha hk c hw]
    have := G.col.tab.pos
    rw [Int.mul_fdiv_cancel_left _ (by omega)]
theorem go_of (V : Inv Z m cols lines e s) {a i : Nat} (ha : a < Z.n) (hi : i < m) (h1 : 0 < pz Z cols e a Z.g) (h2 : ∀ j, j < Z.n → 0 < pz Z cols e j Z.g → at0 cols a ≤ at0 cols j)
    (h3 : pz Z cols e a (Z.fu (at0 lines i)) < 0) (h4 : ∀ j, j < m → pz Z cols e a (Z.fu (at0 lines j)) < 0 → at0 lines i ≤ at0 lines j) : Go Z cols e s a (at0 lines i) :=
  ⟨V.col, ha, (V.lt i hi).1, (V.lt i hi).2, h1, h2, h3, fun y hy hn hneg => by
    rcases V.all y hy with h | ⟨j, hj, rfl⟩
    · exact absurd h hn
    · exact h4 j hj hneg⟩
theorem inv_next (V : Inv Z m cols lines e s) {a i : Nat} (hi : i < m) (G : Go Z cols e s a (at0 lines i)) : Inv Z m (cols.set a (at0 lines i)) (lines.set i (at0 cols a)) (-e) (- pz Z cols e a (Z.fu (at0 lines i))) := by
  have hca : at0 cols a ∈ cols := V.col.mem G.ha
  have hne : ∀ k, k < m → at0 lines k ≠ at0 cols a := fun k hk h => (V.lt k hk).2 (h ▸ hca)
  have hat : ∀ k, k < m → at0 (lines.set i (at0 cols a)) k = if k = i then at0 cols a else at0 lines k := fun k hk => by
    by_cases c : k = i
    · subst c; rw [if_pos rfl, at0_set (by rw [V.ll]; exact hk)]
    · rw [if_neg c, at0_set_ne c]
  refine ⟨G.next, by rw [List.length_set]; exact V.ll, fun p q hp hq h => ?_, fun k hk => ?_, fun y hy => ?_⟩
  · rw [hat p hp, hat q hq] at h
    by_cases c : p = i <;> by_cases d : q = i
    · omega
    · rw [if_pos c, if_neg d] at h; exact absurd h.symm (hne q hq)
    · rw [if_neg c, if_pos d] at h; exact absurd h (hne p hp)
    · rw [if_neg c, if_neg d] at h; exact V.inj p q hp hq h
  · rw [hat k hk]
    by_cases c : k = i
    · rw [if_pos c]
      refine ⟨V.col.lt _ hca, fun z => ?_⟩
      rcases (G.mem _).mp z with z | z
      · exact hne i hi z.symm
      · exact z.2 rfl
    · rw [if_neg c]
      refine ⟨(V.lt k hk).1, fun z => ?_⟩
      rcases (G.mem _).mp z with z | z
      · exact c (V.inj k i hk hi z)
      · exact (V.lt k hk).2 z.1
  · rcases V.all y hy with h | ⟨k, hk, rfl⟩
    · by_cases c : y = at0 cols a
      · exact .inr ⟨i, hi, by rw [hat i hi, if_pos rfl, c]⟩
      · exact .inl ((G.mem y).mpr (.inr ⟨h, c⟩))
    · by_cases c : k = i
      · subst c; exact .inl ((G.mem _).mpr (.inl rfl))
      · exact .inr ⟨k, hk, by rw [hat k hk, if_neg c]⟩
theorem tab_next (V : Inv Z m cols lines e s) {a i : Nat} (hi : i < m) (G : Go Z cols e s a (at0 lines i)) :
    (List.range m).map (fun j => if j = i then ((List.range Z.n).map fun k => if k = a then -s else at0 (at0 (tabOf Z m cols lines e) i) k) else
      (List.range Z.n).map fun k => if k = a then - at0 (at0 (tabOf Z m cols lines e) j) a else (- at0 (at0 (tabOf Z m cols lines e) i) a * at0 (at0 (tabOf Z m cols lines e) j) k + at0 (at0 (tabOf Z m cols lines e) j) a * at0 (at0 (tabOf Z m cols lines e) i) k).fdiv s)
      = tabOf Z m (cols.set a (at0 lines i)) (lines.set i (at0 cols a)) (-e) := by
  unfold tabOf
  refine List.map_congr_left fun j hj => ?_
  have hj := List.mem_range.mp hj
  have hpos := V.col.tab.pos
  by_cases c : j = i
  · subst c
    rw [if_pos rfl, at0_set (by rw [V.ll]; exact hj)]
    refine List.map_congr_left fun k hk => ?_
    have hk := List.mem_range.mp hk
    rw [pz_next G hk (Z.sup _)]
    have v1 : ∀ k, k < Z.n → pz Z cols e k (Z.fu (at0 cols a)) = if a = k then s else 0 := fun k hk => V.col.val G.ha hk
    by_cases d : k = a
    · subst d; rw [if_pos rfl, if_pos rfl, v1 k hk, if_pos rfl]
    · rw [if_neg d, if_neg d, v1 k hk, v1 a G.ha, if_pos rfl, if_neg (by omega), Int.mul_zero, Int.zero_add, Int.mul_fdiv_cancel_left _ (by omega)]
      exact tab_at hj hk
  · rw [if_neg c, at0_set_ne c]
    refine List.map_congr_left fun k hk => ?_
    have hk := List.mem_range.mp hk
    rw [pz_next G hk (Z.sup _)]
    have t1 := tab_at (Z := Z) (cols := cols) (lines := lines) (e := e) hj G.ha
    have t2 := tab_at (Z := Z) (cols := cols) (lines := lines) (e := e) hi G.ha
    have t3 := tab_at (Z := Z) (cols := cols) (lines := lines) (e := e) hj hk
    have t4 := tab_at (Z := Z) (cols := cols) (lines := lines) (e := e) hi hk
    unfold tabOf at t1 t2 t3 t4
    rw [t1, t2, t3, t4]
theorem cos_next (V : Inv Z m cols lines e s) {a i : Nat} (hi : i < m) (G : Go Z cols e s a (at0 lines i)) :
    ((List.range Z.n).map fun k => if k = a then - at0 (cosOf Z cols e) a else (- at0 (at0 (tabOf Z m cols lines e) i) a * at0 (cosOf Z cols e) k + at0 (cosOf Z cols e) a * at0 (at0 (tabOf Z m cols lines e) i) k).fdiv s)
      = cosOf Z (cols.set a (at0 lines i)) (-e) := by
  unfold cosOf
  refine List.map_congr_left fun k hk => ?_
  have hk := List.mem_range.mp hk
  rw [pz_next G hk Z.supg]
  have t1 := cos_at (Z := Z) (cols := cols) (e := e) G.ha
  have t3 := cos_at (Z := Z) (cols := cols) (e := e) hk
  unfold cosOf at t1 t3
  rw [t1, t3, tab_at hi G.ha, tab_at hi hk]
end
end Law

set_option Elab.async false
set_option linter.all false
set_option maxRecDepth 100000
namespace Law
open PySem PySem.Spec PyProof.Rows L2 PF
open Dt (sm Sup pz Cn Col Go)
/-- what a point has to be -/
structure PtOk (rows : List (List Int)) (goal x : List Int) : Prop where
  len : x.length = goal.length
  pos : ∀ t, t < goal.length → 0 ≤ at0 x t ∧ Bd (at0 x t)
  row : ∀ i, i < rows.length → 0 ≤ sm goal.length fun t => at0 (at0 rows i) t * at0 x t
  goal : 1 ≤ sm goal.length fun t => at0 goal t * at0 x t
structure BarOk (rows : List (List Int)) (goal : List Int) (s : Int) (u : List Int) : Prop where
  len : u.length = rows.length
  s1 : 1 ≤ s
  sb : Bd s
  pos : ∀ i, i < rows.length → 0 ≤ at0 u i ∧ Bd (at0 u i)
  sum : ∀ t, t < goal.length → s * at0 goal t + sm rows.length (fun i => at0 u i * at0 (at0 rows i) t) ≤ 0
abbrev tI (row : List Int) : D := .tup (row.map D.int)
/-- the state of the loop -/
structure Sg4 where
  cols : List Nat
  lines : List Nat
  e : Int
  s : Int
def Ist (rows : List (List Int)) (goal : List Int) (R G : D) (σ : Sg4) (ρ : Rho) : Prop := Inv (Zo rows goal) rows.length σ.cols σ.lines σ.e σ.s ∧
  ∃ col a b c d, ρ = ro R G goal.length (tabOf (Zo rows goal) rows.length σ.cols σ.lines σ.e) (cosOf (Zo rows goal) σ.cols σ.e) σ.cols σ.lines σ.s col a b c d ∧
    Best (fun j => 0 < at0 (cosOf (Zo rows goal) σ.cols σ.e) j) σ.cols goal.length col
def Stp4 (rows : List (List Int)) (goal : List Int) (σ σ' : Sg4) : Prop := ∃ a r, Go (Zo rows goal) σ.cols σ.e σ.s a r ∧ σ'.cols = σ.cols.set a r
def Pst (rows : List (List Int)) (goal : List Int) (R G : D) (o : Fl × Rho) : Prop :=
  (∃ x : List Int, o.1 = .rt (.tup [.str "point", tI x]) ∧ PtOk rows goal x) ∨
  (o.1 = .nx ∧ ∃ σ : Sg4, Inv (Zo rows goal) rows.length σ.cols σ.lines σ.e σ.s ∧ (∀ j, j < goal.length → pz (Zo rows goal) σ.cols σ.e j (Zo rows goal).g ≤ 0) ∧
    ∃ a b c d, o.2 = ro R G goal.length (tabOf (Zo rows goal) rows.length σ.cols σ.lines σ.e) (cosOf (Zo rows goal) σ.cols σ.e) σ.cols σ.lines σ.s .non a b c d)
theorem best_flat {P : Nat → Prop} {names : List Nat} {m : Nat} {r : D} (h : Best P names m r) : flat r = true := by
  rcases h with ⟨e, _⟩ | ⟨k, _, e, _⟩ <;> subst e <;> rfl
section
variable {rows : List (List Int)} {goal : List Int} {cols lines : List Nat} {e s : Int}
theorem fu_un {y : Nat} (h : y < goal.length) : (Zo rows goal).fu y = Dt.un y := by
  funext t
  show fuV rows goal y t = _
  unfold fuV Dt.un
  by_cases c : t < goal.length
  · rw [if_pos c, if_pos h]
  · rw [if_neg c, if_neg (by omega)]
theorem fu_row {i t : Nat} (h : i < rows.length) (ht : t < goal.length) : (Zo rows goal).fu (goal.length + i) t = at0 (at0 rows i) t := by
  show fuV rows goal _ t = _
  unfold fuV
  rw [if_pos ht, if_neg (by omega), if_pos (by omega), Nat.add_sub_cancel_left]
theorem pt_ok (d : Dom rows goal) (V : Inv (Zo rows goal) rows.length cols lines e s) {a : Nat} (ha : a < goal.length) (hc : 0 < pz (Zo rows goal) cols e a (Zo rows goal).g)
    (hr : ∀ i, i < rows.length → 0 ≤ pz (Zo rows goal) cols e a ((Zo rows goal).fu (at0 lines i))) {x : List Int} (hl : x.length = goal.length)
    (hx : ∀ t, t < goal.length → (∀ i, i < rows.length + 1 → at0 (lines ++ [at0 cols a]) i = t → at0 x t = at0 ((List.range rows.length).map (fun i => pz (Zo rows goal) cols e a ((Zo rows goal).fu (at0 lines i))) ++ [s]) i) ∧ ((∀ i, i < rows.length + 1 → at0 (lines ++ [at0 cols a]) i ≠ t) → at0 x t = 0)) : PtOk rows goal x := by
  have hpos := V.col.tab.pos
  have hla : at0 (lines ++ [at0 cols a]) rows.length = at0 cols a := by
    rw [← at0_get (by simp [V.ll])]
    rw [List.getElem_append_right (by rw [V.ll]; exact Nat.le_refl _)]
    simp
  have hlb : ∀ i, i < rows.length → at0 (lines ++ [at0 cols a]) i = at0 lines i := fun i hi => by
    rw [← at0_get (by simp [V.ll]; omega), List.getElem_append_left (by rw [V.ll]; exact hi), at0_get]
  have hna : at0 ((List.range rows.length).map (fun i => pz (Zo rows goal) cols e a ((Zo rows goal).fu (at0 lines i))) ++ [s]) rows.length = s := by
    rw [← at0_get (by simp), List.getElem_append_right (by simp)]
    simp
  have hnb : ∀ i, i < rows.length → at0 ((List.range rows.length).map (fun i => pz (Zo rows goal) cols e a ((Zo rows goal).fu (at0 lines i))) ++ [s]) i = pz (Zo rows goal) cols e a ((Zo rows goal).fu (at0 lines i)) := fun i hi => by
    rw [← at0_get (by simp; omega), List.getElem_append_left (by simpa using hi)]
    simp
  have hany : ∀ y, y < (Zo rows goal).N → 0 ≤ pz (Zo rows goal) cols e a ((Zo rows goal).fu y) := fun y hy => by
    rcases V.all y hy with h | ⟨i, hi, rfl⟩
    · obtain ⟨j, hj, rfl⟩ := V.col.at h
      rw [V.col.val hj ha]
      split <;> omega
    · exact hr i hi
  have hxt : ∀ t, t < goal.length → at0 x t = pz (Zo rows goal) cols e a (Dt.un t) := fun t ht => by
    obtain ⟨h1, h2⟩ := hx t ht
    rw [← fu_un (rows := rows) ht]
    rcases V.all t (by show t < goal.length + rows.length; omega) with h | ⟨i, hi, he⟩
    · obtain ⟨j, hj, he⟩ := V.col.at h
      have hv := V.col.val hj ha
      rw [he] at hv
      rw [hv]
      by_cases c : j = a
      · subst c
        rw [if_pos rfl]
        have := h1 rows.length (by omega) (by rw [hla]; exact he)
        rw [this, hna]
      · rw [if_neg c]
        refine h2 fun i hi z => ?_
        by_cases w : i < rows.length
        · rw [hlb i w] at z
          exact (V.lt i w).2 (z ▸ h)
        · obtain rfl : i = rows.length := by omega
          rw [hla] at z
          exact c (V.col.inj hj ha (he.trans z.symm))
    · have := h1 i (by omega) (by rw [hlb i hi]; exact he)
      rw [this, hnb i hi, he]
  have hsum : ∀ w : Dt.Vc, Sup (Zo rows goal).n w → sm goal.length (fun t => w t * at0 x t) = pz (Zo rows goal) cols e a w := fun w hw => by
    have hj : a < (cols.map (Zo rows goal).fu).length := by rw [List.length_map, V.col.len]; exact ha
    have := Dt.ph_point (n := (Zo rows goal).n) (e := e) hj hw
    unfold pz
    rw [this]
    exact Dt.sm_congr _ fun t ht => by rw [hxt t ht]; rfl
  refine ⟨hl, fun t ht => ?_, fun i hi => ?_, ?_⟩
  · rw [hxt t ht, ← fu_un (rows := rows) ht]
    exact ⟨hany t (by show t < goal.length + rows.length; omega), pz_bd d V.col _ (fu_bound d _)⟩
  · have h1 := hsum _ ((Zo rows goal).sup (goal.length + i))
    rw [Dt.sm_congr (g := fun t => at0 (at0 rows i) t * at0 x t) _ (fun t ht => by rw [fu_row hi ht])] at h1
    rw [h1]
    exact hany _ (by show _ < goal.length + rows.length; omega)
  · have h1 := hsum _ (Zo rows goal).supg
    rw [Dt.sm_congr (g := fun t => at0 goal t * at0 x t) _ (fun t ht => by show (if t < goal.length then at0 goal t else 0) * _ = _; rw [if_pos ht])] at h1
    rw [h1]; omega
/-- one turn -/
theorem turn (d : Dom rows goal) (R G : D) : ∀ (σ : Sg4) (ρ : Rho), Ist rows goal R G σ ρ → (headA ρ = .ok false ∧ Pst rows goal R G (.nx, ρ)) ∨
    (headA ρ = .ok true ∧ ((∃ ρ' σ', bodyA ρ = .ok (.nx, ρ') ∧ Ist rows goal R G σ' ρ' ∧ Stp4 rows goal σ σ') ∨ ∃ x ρ', bodyA ρ = .ok (.rt x, ρ') ∧ Pst rows goal R G (.rt x, ρ'))) := by
  rintro ⟨cols, lines, e, s⟩ ρ ⟨V, col, v12, v13, v14, v15, rfl, B⟩
  have V : Inv (Zo rows goal) rows.length cols lines e s := V
  have hcl : cols.length = goal.length := V.col.len
  have hm2 := d.m2
  have hn2 := d.n2
  rcases B with ⟨rfl, B⟩ | ⟨a, ha, rfl, B1, B2⟩
  · refine .inl ⟨by simp [headA], .inr ⟨rfl, ⟨cols, lines, e, s⟩, V, fun j hj => ?_, _, _, _, _, rfl⟩⟩
    have h1 : ¬ 0 < at0 (cosOf (Zo rows goal) cols e) j := B j hj
    have h2 : j < (Zo rows goal).n := hj
    rw [cos_at h2] at h1
    exact Int.not_lt.mp h1
  · refine .inr ⟨by simp [headA], ?_⟩
    have hrl : ∀ i, i < rows.length → (at0 (tabOf (Zo rows goal) rows.length cols lines e) i).length = goal.length := fun i hi => by
      rw [tab_row hi]; simp; rfl
    have B1 : 0 < pz (Zo rows goal) cols e a (Zo rows goal).g := by rw [← cos_at ha]; exact B1
    obtain ⟨r, hlv, L⟩ := leaving_is lines (tabOf (Zo rows goal) rows.length cols lines e) a (by rw [tab_len]; exact V.ll) (fun i hi => by rw [tab_len] at hi; rw [hrl i hi]; exact ha)
    rw [tab_len] at L
    rcases L with ⟨rfl, L⟩ | ⟨i, hi, rfl, L1, L2⟩
    · refine .inr ?_
      have hr : ∀ i, i < rows.length → 0 ≤ pz (Zo rows goal) cols e a ((Zo rows goal).fu (at0 lines i)) := fun i hi => by
        have h1 : ¬ at0 (at0 (tabOf (Zo rows goal) rows.length cols lines e) i) a < 0 := L i hi
        rw [tab_at hi ha] at h1
        exact Int.not_lt.mp h1
      obtain ⟨x, hx1, hx2, hx3⟩ := placed_is (lines ++ [at0 cols a]) ((List.range rows.length).map (fun i => at0 (at0 (tabOf (Zo rows goal) rows.length cols lines e) i) a) ++ [s]) goal.length (by simp [V.ll]) (by omega) (fun i j hi hj h => by
        have hca : at0 cols a ∈ cols := V.col.mem ha
        have hla : at0 (lines ++ [at0 cols a]) rows.length = at0 cols a := by
          rw [← at0_get (by simp [V.ll]), List.getElem_append_right (by rw [V.ll]; exact Nat.le_refl _)]
          simp
        have hlb : ∀ i, i < rows.length → at0 (lines ++ [at0 cols a]) i = at0 lines i := fun i hi => by
          rw [← at0_get (by simp [V.ll]; omega), List.getElem_append_left (by rw [V.ll]; exact hi), at0_get]
        simp [V.ll] at hi hj
        by_cases p : i < rows.length <;> by_cases q : j < rows.length
        · rw [hlb i p, hlb j q] at h; exact V.inj i j p q h
        · obtain rfl : j = rows.length := by omega
          rw [hlb i p, hla] at h; exact absurd (h ▸ hca) (V.lt i p).2
        · obtain rfl : i = rows.length := by omega
          rw [hlb j q, hla] at h; exact absurd (h ▸ hca) (V.lt j q).2
        · omega)
      obtain ⟨ρ', hb⟩ := body_stop (R := R) (G := G) (n := goal.length) (m := rows.length) (costs := cosOf (Zo rows goal) cols e) (s := s) (v12 := v12) (v13 := v13) (v14 := v14) (v15 := v15) (by omega) (by omega) tab_len V.ll hcl ha (fun i hi => by rw [hrl i hi]; exact ha) hlv hx1
      refine ⟨_, ρ', hb, .inl ⟨x, rfl, pt_ok d V ha B1 hr hx2 fun t ht => ?_⟩⟩
      obtain ⟨h1, h2⟩ := hx3 t ht
      have hln : ((List.range rows.length).map (fun i => at0 (at0 (tabOf (Zo rows goal) rows.length cols lines e) i) a) ++ [s]).length = rows.length + 1 := by simp
      rw [hln] at h1 h2
      have hsame : (List.range rows.length).map (fun i => at0 (at0 (tabOf (Zo rows goal) rows.length cols lines e) i) a) = (List.range rows.length).map (fun i => pz (Zo rows goal) cols e a ((Zo rows goal).fu (at0 lines i))) :=
        List.map_congr_left fun i hi => tab_at (List.mem_range.mp hi) ha
      rw [hsame] at h1
      exact ⟨h1, h2⟩
    · refine .inl ?_
      have L1 : pz (Zo rows goal) cols e a ((Zo rows goal).fu (at0 lines i)) < 0 := by rw [← tab_at hi ha]; exact L1
      have GG : Go (Zo rows goal) cols e s a (at0 lines i) := go_of V ha hi B1 (fun j hj h => B2 j hj (by show 0 < at0 _ _; rw [cos_at hj]; exact h)) L1 (fun j hj h => L2 j hj (by show at0 _ _ < 0; rw [tab_at hj ha]; exact h))
      have V' := inv_next V hi GG
      have hs0 : s ≠ 0 := by have := V.col.tab.pos; omega
      have hpv : ∀ j, j < rows.length → j ≠ i → m__pivot [lI (at0 (tabOf (Zo rows goal) rows.length cols lines e) j), lI (at0 (tabOf (Zo rows goal) rows.length cols lines e) i), .int (a : Int), .int s] = .ok (lI _) := fun j hj _ =>
        pivot_is goal.length _ _ a s (hrl j hj) (hrl i hi) ha (by omega) (fun k hk => by rw [tab_at hj hk]; exact pz_bd d V.col _ (fu_bound d _)) (fun k hk => by rw [tab_at hi hk]; exact pz_bd d V.col _ (fu_bound d _)) (s_bd d V.col) hs0
      have hpc := pivot_is goal.length (cosOf (Zo rows goal) cols e) (at0 (tabOf (Zo rows goal) rows.length cols lines e) i) a s cos_len (hrl i hi) ha (by omega) (fun k hk => by rw [cos_at hk]; exact pz_bd d V.col _ (g_bound d)) (fun k hk => by rw [tab_at hi hk]; exact pz_bd d V.col _ (fu_bound d _)) (s_bd d V.col) hs0
      have hcn := cos_next V hi GG
      have hcn : ((List.range goal.length).map fun k => if k = a then - at0 (cosOf (Zo rows goal) cols e) a else (- at0 (at0 (tabOf (Zo rows goal) rows.length cols lines e) i) a * at0 (cosOf (Zo rows goal) cols e) k + at0 (cosOf (Zo rows goal) cols e) a * at0 (at0 (tabOf (Zo rows goal) rows.length cols lines e) i) k).fdiv s) = cosOf (Zo rows goal) (cols.set a (at0 lines i)) (-e) := hcn
      rw [hcn] at hpc
      obtain ⟨col', he, hbest⟩ := entering_is (cols.set a (at0 lines i)) (cosOf (Zo rows goal) (cols.set a (at0 lines i)) (-e)) (by rw [List.length_set, cos_len]; exact hcl)
      have hb := body_go (R := R) (G := G) (n := goal.length) (m := rows.length) (v12 := v12) (v13 := v13) (v14 := v14) (v15 := v15) (by omega) (by omega) tab_len V.ll hcl hi ha (hrl i hi) hlv hpv hpc he (best_flat hbest)
      have key : ∀ (T1 T2 : List (List Int)) (s1 s2 : Int) (C : List Int) (c1 l1 : List Nat) (x1 : D) (y1 y2 y3 y4 : Sl), T1 = T2 → s1 = s2 → ro R G goal.length T1 C c1 l1 s1 x1 y1 y2 y3 y4 = ro R G goal.length T2 C c1 l1 s2 x1 y1 y2 y3 y4 := by
        intro _ _ _ _ _ _ _ _ _ _ _ _ h1 h2; rw [h1, h2]
      rw [cos_len] at hbest
      exact ⟨_, ⟨cols.set a (at0 lines i), lines.set i (at0 cols a), -e, - pz (Zo rows goal) cols e a ((Zo rows goal).fu (at0 lines i))⟩, hb,
        ⟨V', col', _, _, _, _, key _ _ _ _ _ _ _ _ _ _ _ _ (tab_next V hi GG) (congrArg Int.neg (tab_at hi ha)), hbest⟩, a, at0 lines i, GG, rfl⟩
end
end Law

set_option Elab.async false
set_option linter.all false
set_option maxRecDepth 100000
namespace Law
open PySem PySem.Spec PyProof.Rows L2 PF
open Dt (sm Sup pz Cn Col Go)
theorem weights_is {R G : D} {T : List D} {costs : List Int} {cols lines : List Nat} {s : Int} {a b c d : Sl} (n m : Nat) (hn : cols.length = n) (hc : costs.length = n) (hlt : ∀ j, j < n → at0 cols j < n + m) (nd : ∀ i j, i < n → j < n → at0 cols i = at0 cols j → i = j) :
    ∃ (u : List Int) (x y : Sl), forL (aTup (aCons (aName 10) (aCons (aName 11) aNil))) (sIf (c2 (cmpD fun i j => decide (j ≤ i)) (eV 10) (eV 2)) (sSetI 9 (e2 subD (eV 10) (eV 2)) (e1 negD (eV 11))) sNil)
      ((List.range n).map fun i => .tup [nI (at0 cols i), .int (at0 costs i)])
      [.val R, .val G, .val (.int (n : Int)), .own T, .val (lI costs), .val (.lst (cols.map nI)), .own (lines.map nI), .val (.int s), .val .non, .own (List.replicate m (.int 0)), .un, .un, a, b, c, d, .un, .un, .un, .un] =
      .ok (.nx, [.val R, .val G, .val (.int (n : Int)), .own T, .val (lI costs), .val (.lst (cols.map nI)), .own (lines.map nI), .val (.int s), .val .non, .own (u.map D.int), x, y, a, b, c, d, .un, .un, .un, .un]) ∧
      u.length = m ∧ ∀ k, k < m → (∀ j, j < n → at0 cols j = n + k → at0 u k = - at0 costs j) ∧ ((∀ j, j < n → at0 cols j ≠ n + k) → at0 u k = 0) := by
  obtain ⟨ρ, h1, u, x, y, rfl, hu, hk⟩ := forL_idx (asg := aTup (aCons (aName 10) (aCons (aName 11) aNil)))
    (f := (sIf (c2 (cmpD fun i j => decide (j ≤ i)) (eV 10) (eV 2)) (sSetI 9 (e2 subD (eV 10) (eV 2)) (e1 negD (eV 11))) sNil))
    (fun i ρ => ∃ (u : List Int) (x y : Sl), ρ = [.val R, .val G, .val (.int (n : Int)), .own T, .val (lI costs), .val (.lst (cols.map nI)), .own (lines.map nI), .val (.int s), .val .non, .own (u.map D.int), x, y, a, b, c, d, .un, .un, .un, .un] ∧ u.length = m ∧
      ∀ k, k < m → (∀ j, j < i → at0 cols j = n + k → at0 u k = - at0 costs j) ∧ ((∀ j, j < i → at0 cols j ≠ n + k) → at0 u k = 0))
    ((List.range n).map fun i => .tup [nI (at0 cols i), .int (at0 costs i)])
    [.val R, .val G, .val (.int (n : Int)), .own T, .val (lI costs), .val (.lst (cols.map nI)), .own (lines.map nI), .val (.int s), .val .non, .own (List.replicate m (.int 0)), .un, .un, a, b, c, d, .un, .un, .un, .un]
    ⟨List.replicate m 0, _, _, by rw [List.map_replicate], by simp, fun t ht => ⟨fun j hj => by omega, fun _ => by rw [← at0_get (by simpa using ht)]; simp⟩⟩ (by
      rintro i hi _ ⟨u, x, y, rfl, hu, hk⟩
      have hi' : i < n := by simpa using hi
      by_cases z : n ≤ at0 cols i
      · have hci := hlt i hi'
        have hsub : ((at0 cols i : Nat) : Int) - (n : Int) = ((at0 cols i - n : Nat) : Int) := by omega
        refine ⟨_, ?_, u.set (at0 cols i - n) (- at0 costs i), .val (nI (at0 cols i)), .val (.int (at0 costs i)), rfl, by simpa using hu, fun k hkm => ⟨fun j hj e => ?_, fun hno => ?_⟩⟩
        · have z' : ((n : Nat) : Int) ≤ ((at0 cols i : Nat) : Int) := by omega
          simp [sSetI, nI, z, hsub, ixN_nat (n := u.length) (k := at0 cols i - n) (by rw [hu]; omega), List.map_set]
        · by_cases w : at0 cols i = n + k
          · have : j = i := nd j i (by omega) hi' (by rw [e, w])
            subst this
            rw [show at0 cols j - n = k by omega]
            exact at0_set (by rw [hu]; exact hkm)
          · rw [at0_set_ne (by omega)]
            refine (hk k hkm).1 j ?_ e
            have : j ≠ i := by rintro rfl; exact w e
            omega
        · rw [at0_set_ne (fun w => hno i (by omega) (by omega))]
          exact (hk k hkm).2 fun j hj => hno j (by omega)
      · refine ⟨[.val R, .val G, .val (.int (n : Int)), .own T, .val (lI costs), .val (.lst (cols.map nI)), .own (lines.map nI), .val (.int s), .val .non, .own (u.map D.int), .val (nI (at0 cols i)), .val (.int (at0 costs i)), a, b, c, d, .un, .un, .un, .un], ?_, u, _, _, rfl, hu, fun k hkm => ⟨fun j hj e => ?_, fun hno => ?_⟩⟩
        · simp [nI, z]
        · refine (hk k hkm).1 j ?_ e
          have : j ≠ i := by rintro rfl; omega
          omega
        · exact (hk k hkm).2 fun j hj => hno j (by omega))
  exact ⟨u, x, y, h1, hu, by simpa using hk⟩
section
variable {rows : List (List Int)} {goal : List Int} {cols lines : List Nat} {e s : Int}
theorem bar_ok (d : Dom rows goal) (V : Inv (Zo rows goal) rows.length cols lines e s) (hc : ∀ j, j < goal.length → pz (Zo rows goal) cols e j (Zo rows goal).g ≤ 0) {u : List Int} (hl : u.length = rows.length)
    (hu : ∀ k, k < rows.length → (∀ j, j < goal.length → at0 cols j = goal.length + k → at0 u k = - at0 (cosOf (Zo rows goal) cols e) j) ∧ ((∀ j, j < goal.length → at0 cols j ≠ goal.length + k) → at0 u k = 0)) : BarOk rows goal s u := by
  have hpos := V.col.tab.pos
  have hlt : ∀ j, j < goal.length → at0 cols j < goal.length + rows.length := fun j hj => V.col.lt _ (V.col.mem hj)
  have hinj : ∀ i j, i < goal.length → j < goal.length → at0 cols i = at0 cols j → i = j := fun i j hi hj h => V.col.inj hi hj h
  have hu' : ∀ k, k < rows.length → at0 u k = sm goal.length fun j => if at0 cols j = goal.length + k then - pz (Zo rows goal) cols e j (Zo rows goal).g else 0 := fun k hk => by
    obtain ⟨h1, h2⟩ := hu k hk
    by_cases z : ∃ j, j < goal.length ∧ at0 cols j = goal.length + k
    · obtain ⟨j, hj, hz⟩ := z
      rw [h1 j hj hz, Dt.sm_one _ hj (fun i hi hne => if_neg fun w => hne (hinj i j hi hj (w.trans hz.symm))), if_pos hz]
      have hj' : j < (Zo rows goal).n := hj
      rw [cos_at hj']
    · rw [h2 fun j hj w => z ⟨j, hj, w⟩, Dt.sm_zero]
      intro j hj
      exact if_neg fun w => z ⟨j, hj, w⟩
  refine ⟨hl, by omega, s_bd d V.col, fun i hi => ?_, fun t ht => ?_⟩
  · obtain ⟨h1, h2⟩ := hu i hi
    by_cases z : ∃ j, j < goal.length ∧ at0 cols j = goal.length + i
    · obtain ⟨j, hj, hz⟩ := z
      have hj' : j < (Zo rows goal).n := hj
      rw [h1 j hj hz, cos_at hj']
      exact ⟨by have := hc j hj; omega, (pz_bd d V.col j (g_bound d)).neg⟩
    · rw [h2 fun j hj w => z ⟨j, hj, w⟩]
      exact ⟨by omega, Nat.two_pow_pos 2000⟩
  · have h1 := V.col.tab.rel _ (Zo rows goal).supg t
    have hg : (Zo rows goal).g t = at0 goal t := if_pos ht
    rw [hg] at h1
    have hcl : ∀ j, j < goal.length → Dt.cl (cols.map (Zo rows goal).fu) j t = (Zo rows goal).fu (at0 cols j) t := fun j hj => by rw [V.col.cl hj]; rfl
    have h2 : sm rows.length (fun i => at0 u i * at0 (at0 rows i) t) = sm goal.length fun j => if goal.length ≤ at0 cols j then - (pz (Zo rows goal) cols e j (Zo rows goal).g * (Zo rows goal).fu (at0 cols j) t) else 0 := by
      rw [Dt.sm_congr (g := fun i => sm goal.length fun j => if at0 cols j = goal.length + i then - (pz (Zo rows goal) cols e j (Zo rows goal).g * (Zo rows goal).fu (at0 cols j) t) else 0), Dt.sm_comm]
      · refine Dt.sm_congr _ fun j hj => ?_
        by_cases z : goal.length ≤ at0 cols j
        · have := hlt j hj
          rw [if_pos z, Dt.sm_one (k := at0 cols j - goal.length) _ (by omega) (fun i hi hne => if_neg (by omega)), if_pos (by omega)]
        · rw [if_neg z, Dt.sm_zero]
          intro i hi
          exact if_neg (by omega)
      · intro i hi
        rw [hu' i hi, Int.mul_comm, ← Dt.sm_mul]
        refine Dt.sm_congr _ fun j hj => ?_
        by_cases z : at0 cols j = goal.length + i
        · rw [if_pos z, if_pos z, z, fu_row hi ht, Int.mul_neg, Int.mul_comm]
        · rw [if_neg z, if_neg z, Int.mul_zero]
    rw [h1, h2]
    have h3 : sm (Zo rows goal).n (fun j => Dt.ph (Zo rows goal).n e (cols.map (Zo rows goal).fu) j (Zo rows goal).g * Dt.cl (cols.map (Zo rows goal).fu) j t) + sm goal.length (fun j => if goal.length ≤ at0 cols j then - (pz (Zo rows goal) cols e j (Zo rows goal).g * (Zo rows goal).fu (at0 cols j) t) else 0)
        = - sm goal.length (fun j => if goal.length ≤ at0 cols j then 0 else - (pz (Zo rows goal) cols e j (Zo rows goal).g * (Zo rows goal).fu (at0 cols j) t)) := by
      have hm1 : ∀ f, - sm goal.length f = sm goal.length (fun j => (-1) * f j) := fun f => by rw [Dt.sm_mul]; omega
      rw [hm1]
      show sm goal.length _ + _ = _
      rw [← Dt.sm_add]
      refine Dt.sm_congr _ fun j hj => ?_
      rw [hcl j hj]
      show pz (Zo rows goal) cols e j (Zo rows goal).g * _ + _ = _
      by_cases z : goal.length ≤ at0 cols j
      · rw [if_pos z, if_pos z]; omega
      · rw [if_neg z, if_neg z]; omega
    rw [h3]
    have h4 := Dt.sm_nonneg (f := fun j => if goal.length ≤ at0 cols j then 0 else - (pz (Zo rows goal) cols e j (Zo rows goal).g * (Zo rows goal).fu (at0 cols j) t)) goal.length (fun j hj => by
      show 0 ≤ if goal.length ≤ at0 cols j then 0 else _
      by_cases z : goal.length ≤ at0 cols j
      · rw [if_pos z]; omega
      · rw [if_neg z, fu_un (by omega)]
        have := hc j hj
        unfold Dt.un
        split
        · rw [Int.mul_one]; omega
        · rw [Int.mul_zero]; omega)
    omega
end
/-- what alternative gives -/
def AltOk (rows : List (List Int)) (goal : List Int) (r : D) : Prop := (∃ x : List Int, r = .tup [.str "point", tI x] ∧ PtOk rows goal x) ∨ ∃ (s : Int) (u : List Int), r = .tup [.str "bar", .int s, tI u] ∧ BarOk rows goal s u
theorem rg_nI (n : Nat) : rgD 0 n = (List.range n).map nI := rg_eq n
theorem alternative_is (rows : List (List Int)) (goal : List Int) (d : Dom rows goal) : ∃ r, m_alternative [.tup (rows.map tI), tI goal] = .ok r ∧ AltOk rows goal r := by
  have hm2 := d.m2
  have hn2 := d.n2
  have hN : (Zo rows goal).N ≤ 24 := by show goal.length + rows.length ≤ 24; omega
  have hmap : (List.range goal.length).map (Zo rows goal).fu = (List.range goal.length).map Dt.un := List.map_congr_left fun y hy => fu_un (List.mem_range.mp hy)
  have V0 : Inv (Zo rows goal) rows.length (List.range goal.length) ((List.range rows.length).map fun i => goal.length + i) 1 1 := by
    refine ⟨⟨?_, List.nodup_range, fun y hy => ?_⟩, by simp, fun i j hi hj h => ?_, fun i hi => ?_, fun y hy => ?_⟩
    · rw [hmap]; exact Dt.tab_start goal.length
    · have := List.mem_range.mp hy
      show y < goal.length + rows.length
      omega
    · rw [at0_map (by simpa using hi), at0_range hi, at0_map (by simpa using hj), at0_range hj] at h; omega
    · rw [at0_map (by simpa using hi), at0_range hi]
      refine ⟨by show _ < goal.length + rows.length; omega, fun z => ?_⟩
      have := List.mem_range.mp z
      omega
    · have hy : y < goal.length + rows.length := hy
      by_cases z : y < goal.length
      · exact .inl (List.mem_range.mpr z)
      · exact .inr ⟨y - goal.length, by omega, by rw [at0_map (by simp; omega), at0_range (by omega)]; omega⟩
  have hc0 : cosOf (Zo rows goal) (List.range goal.length) 1 = goal := by
    refine ext_at0 cos_len fun i hi => ?_
    have hi : i < goal.length := by rw [cos_len] at hi; exact hi
    have hi' : i < (Zo rows goal).n := hi
    rw [cos_at hi']
    unfold pz
    rw [hmap]
    have := Dt.ph_start hi (Zo rows goal).supg
    exact this.trans (if_pos hi)
  have ht0 : tabOf (Zo rows goal) rows.length (List.range goal.length) ((List.range rows.length).map fun i => goal.length + i) 1 = rows := by
    refine ext_at0 tab_len fun i hi => ?_
    have hi : i < rows.length := by rw [tab_len] at hi; exact hi
    rw [tab_row hi]
    refine ext_at0 (by rw [d.rl i hi]; simp; rfl) fun j hj => ?_
    have hj : j < goal.length := by rw [List.length_map, List.length_range] at hj; exact hj
    have hj' : j < (Zo rows goal).n := hj
    rw [at0_map (by simpa using hj'), at0_range hj', at0_map (by simpa using hi), at0_range hi]
    unfold pz
    rw [hmap]
    have := Dt.ph_start hj ((Zo rows goal).sup (goal.length + i))
    exact this.trans (fu_row hi hj)
  obtain ⟨col0, he0, hb0⟩ := entering_is (List.range goal.length) goal (by simp)
  have I0 : Ist rows goal (.tup (rows.map tI)) (tI goal) ⟨List.range goal.length, (List.range rows.length).map fun i => goal.length + i, 1, 1⟩ (ro (.tup (rows.map tI)) (tI goal) goal.length rows goal (List.range goal.length) ((List.range rows.length).map fun i => goal.length + i) 1 col0 .un .un .un .un) :=
    ⟨V0, col0, .un, .un, .un, .un, by show _ = ro _ _ _ (tabOf _ _ _ _ _) (cosOf _ _ _) _ _ _ _ _ _ _ _; rw [ht0, hc0], by show Best (fun j => 0 < at0 (cosOf _ _ _) j) _ _ _; rw [hc0]; exact hb0⟩
  obtain ⟨o, hw, hp⟩ := while_hist (Ist rows goal (.tup (rows.map tI)) (tI goal)) (Stp4 rows goal) (fun σ => ∀ y ∈ σ.cols, y < (Zo rows goal).N) (Pst rows goal (.tup (rows.map tI)) (tI goal)) (2 ^ 24) (fun S k hs h0 => by
      have := Dt.bland_ends (Z := Zo rows goal) (fun i => (S i).cols) k (fun i hi => by
        obtain ⟨a, r, G, e⟩ := hs i hi
        exact ⟨_, _, a, r, G, e⟩) h0
      exact Nat.lt_of_lt_of_le this (Nat.pow_le_pow_right (by decide) hN)) (turn d _ _) FU (fun _ => ⟨List.range goal.length, (List.range rows.length).map fun i => goal.length + i, 1, 1⟩) 0 _ (fun i hi => by omega) V0.col.lt I0 (by decide)
  have hsn := small_of (n := goal.length) (by omega)
  have hsm := small_of (n := rows.length) (by omega)
  have e0 := compL_of (asg := aName 16) (elt := eC PF.listD (lCons (eV 16) lNil)) (ρ := [.val (.tup (rows.map tI)), .val (tI goal), .val (.int (goal.length : Int)), .un, .un, .un, .un, .un, .un, .un, .un, .un, .un, .un, .un, .un, .un, .un, .un, .un]) (e := tI) (g := lI) rows (fun r hr => by simp)
  have e1 := compL_of (asg := aName 17) (elt := e2 addD (eV 2) (eV 17)) (ρ := [.val (.tup (rows.map tI)), .val (tI goal), .val (.int (goal.length : Int)), .own (rows.map lI), .val (lI goal), .own ((List.range goal.length).map nI), .un, .un, .un, .un, .un, .un, .un, .un, .un, .un, .un, .un, .un, .un]) (e := nI) (g := nI ∘ fun i => goal.length + i) (List.range rows.length) (fun r hr => by simp [nI])
  unfold headA bodyA at hw
  unfold m_alternative b_alternative
  have hlen := List.length_map (as := rows) tI
  have hr1 := range1_nat (n := rows.length) (by omega)
  have hrg := rgOk_nat (n := goal.length) (by omega)
  simp only [rg_nI] at hr1
  simp only [ro, List.map_map] at hw
  have hfl := best_flat hb0
  simp [okW, wipeR, e0, hsm, nRg1, hrg, rg_nI, hr1, e1, eBor, frzAll, he0, hfl]
  rw [hw]
  obtain ⟨o1, o2⟩ := o
  rcases hp with ⟨x, rfl, hx⟩ | ⟨rfl, ⟨cols, lines, e, s⟩, V, hneg, a, b, c, d', rfl⟩
  · exact ⟨_, by simp, .inl ⟨x, rfl, hx⟩⟩
  · have V : Inv (Zo rows goal) rows.length cols lines e s := V
    have hcl : cols.length = goal.length := V.col.len
    obtain ⟨u, x, y, hf, hul, hu⟩ := weights_is (R := .tup (rows.map tI)) (G := tI goal) (T := (tabOf (Zo rows goal) rows.length cols lines e).map lI) (costs := cosOf (Zo rows goal) cols e) (cols := cols) (lines := lines) (s := s) (a := a) (b := b) (c := c) (d := d') goal.length rows.length hcl cos_len
      (fun j hj => V.col.lt _ (V.col.mem hj)) (fun i j hi hj h => V.col.inj hi hj h)
    have hz : List.zipWith (fun x y => D.tup [x, y]) (cols.map nI) ((cosOf (Zo rows goal) cols e).map D.int) = (List.range goal.length).map fun i => D.tup [nI (at0 cols i), .int (at0 (cosOf (Zo rows goal) cols e) i)] := by
      apply List.ext_getElem (by simp [hcl, cos_len]; exact Nat.min_self _)
      intro i x1 x2
      have : i < goal.length := by simpa using x2
      rw [List.getElem_zipWith]
      simp only [List.getElem_map, List.getElem_range]
      rw [at0_get, at0_get]
    have hrep := rep_one (x := .int 0) (n := rows.length) (by omega)
    refine ⟨.tup [.str "bar", .int s, tI u], ?_, .inr ⟨s, u, rfl, bar_ok d V hneg hul hu⟩⟩
    simp [hrep, frzAt, hz, hf]
end Law

set_option Elab.async false
set_option linter.all false
set_option maxRecDepth 100000
namespace Law
open PySem PySem.Spec PyProof.Rows L2 PF
open Dt (sm)
open Kp
abbrev vT (n : Nat) (f : Nat → Int) : D := .tup ((List.range n).map fun i => .int (f i))
abbrev vL (n : Nat) (f : Nat → Int) : D := .lst ((List.range n).map fun i => .int (f i))
abbrev mT (n : Nat) (T : Nat → Nat → Int) : D := .tup ((List.range n).map fun i => vT n (T i))
def Sz (x : Int) : Prop := x.natAbs < 2 ^ 4000
theorem Sz.mulOk {x y : Int} (hx : Sz x) (hy : Sz y) : mulOk x y = true := by
  refine mulOk_w ?_
  have h1 := log_of (k := 4000) hx (by omega)
  have h2 := log_of (k := 4000) hy (by omega)
  omega
theorem Sz.mulD {x y : Int} (hx : Sz x) (hy : Sz y) : PF.mulD (.int x) (.int y) = some (.int (x * y)) := by rw [PF.mulD, if_pos (hx.mulOk hy)]
theorem Sz.neg {x : Int} (h : Sz x) : Sz (-x) := by unfold Sz at *; rwa [Int.natAbs_neg]
theorem Sz.sm {f : Nat → Int} {n : Nat} : True := trivial
theorem dotp_is {n : Nat} {a b : Nat → Int} (hn : n ≤ 1000) (ha : ∀ i, i < n → Sz (a i)) (hb : ∀ i, i < n → Sz (b i)) : m_dot [vT n a, vT n b] = .ok (.int (sm n fun i => a i * b i)) := by
  have hs := small_of (n := n) (by omega)
  unfold m_dot b_dot
  simp [okW, wipeR, zw_rg]
  rw [compL_rg (fun i => .int (a i * b i))]
  · simp [hs, sumD_rg, Dt.sum_sm]
  · intro i hi
    simp [(ha i hi).mulD (hb i hi)]
theorem law_dot : m__law_dot = m_dot := rfl
theorem product_is {n : Nat} {T : Tb} {y : Vk} (hn : n ≤ 1000) (ha : ∀ i j, i < n → j < n → Sz (T i j)) (hb : ∀ i, i < n → Sz (y i)) : m_product [mT n T, vT n y] = .ok (vT n (rowS n T y)) := by
  have hs := small_of (n := n) (by omega)
  unfold m_product b_product
  simp [okW, wipeR]
  rw [compL_rg (fun i => .int (rowS n T y i))]
  · simp [hs]
  · intro i hi
    have := dotp_is hn (fun j hj => ha i j hi hj) hb
    simp [this]
    rfl
theorem image_is {n : Nat} {T : Tb} {y : Vk} (hn : n ≤ 1000) (ha : ∀ i j, i < n → j < n → Sz (T i j)) (hb : ∀ i, i < n → Sz (y i)) : m__law_image [mT n T, vT n y] = .ok (vL n (rowS n T y)) := by
  have hs := small_of (n := n) (by omega)
  unfold m__law_image b__law_image
  simp [okW, wipeR]
  rw [compL_rg (fun i => .int (rowS n T y i))]
  · simp [hs]
  · intro i hi
    have := dotp_is hn (fun j hj => ha i j hi hj) hb
    simp [law_dot, this]
    rfl
theorem sums_is {n : Nat} {T : Tb} {u : Vk} (hn : n ≤ 1000) (ha : ∀ i j, i < n → j < n → Sz (T i j)) (hb : ∀ i, i < n → Sz (u i)) : m__law_sums [vT n u, mT n T] = .ok (vL n (colS n u T)) := by
  have hs := small_of (n := n) (by omega)
  have hr := range1_nat (n := n) (by omega)
  rw [rg_eq] at hr
  unfold m__law_sums b__law_sums
  simp [okW, wipeR, hr]
  rw [compL_rg (fun j => .int (colS n u T j))]
  · simp [hs]
  · intro j hj
    simp [okW, wipeR, hr]
    rw [compL_rg (fun i => .int (u i * T i j))]
    · simp [hs, sumD_rg, Dt.sum_sm]
      rfl
    · intro i hi
      simp [atI_rg hi, atI_rg hj, (hb i hi).mulD (ha i j hi hj)]
theorem opposite_is {n : Nat} {T : Tb} (hn : n ≤ 1000) : m__opposite [mT n T] = .ok (mT n fun i j => - T i j) := by
  have hs := small_of (n := n) (by omega)
  unfold m__opposite b__opposite
  simp [okW, wipeR]
  rw [compL_rg (fun i => vT n fun j => - T i j)]
  · simp [hs]
  · intro i hi
    simp [okW, wipeR]
    rw [compL_rg (fun j => .int (- T i j))]
    · simp [hs]
    · intro j hj
      simp
theorem primitive_is {n : Nat} {y : Vk} (hn : n ≤ 1000) (hy : ∀ i, i < n → Sz (y i)) : ∃ z : Vk, m_primitive [vT n y] = .ok (vT n z) ∧ ∃ g : Int, 1 ≤ g ∧ ∀ i, i < n → y i = g * z i := by
  have hs := small_of (n := n) (by omega)
  obtain ⟨ρ, h1, c, a, rfl, ho, hc, hz⟩ := forL_idx (asg := aName 2) (f := sSet 1 (eC gcdD (lCons (eV 1) (lCons (eV 2) lNil))))
    (fun i ρ => ∃ (c : Nat) (a : Sl), ρ = [.val (vT n y), .val (.int (c : Int)), a] ∧ isOwn (some a) = false ∧ (∀ k, k < i → (c : Int) ∣ y k) ∧ (0 < c → c < 2 ^ 4000))
    ((List.range n).map fun i => .int (y i)) [.val (vT n y), .val (.int ((0 : Nat) : Int)), .un] ⟨0, _, rfl, rfl, fun k hk => by omega, fun h => by omega⟩ (by
      rintro i hi _ ⟨c, a, rfl, _, hc, hz⟩
      have hi : i < n := by simpa using hi
      refine ⟨_, by simp; rfl, Nat.gcd c (y i).natAbs, _, rfl, rfl, fun k hk => ?_, fun hp => ?_⟩
      · by_cases e : k = i
        · subst e
          exact Int.ofNat_dvd_left.mpr (Nat.gcd_dvd_right _ _)
        · exact Int.dvd_trans (Int.ofNat_dvd.mpr (Nat.gcd_dvd_left _ _)) (hc k (by omega))
      · by_cases e : c = 0
        · subst e
          rw [Nat.gcd_zero_left]
          exact hy i hi
        · exact Nat.lt_of_le_of_lt (Nat.gcd_le_left _ (by omega)) (hz (by omega)))
  have h1' : forL (aName 2) (sSet 1 (eC gcdD (lCons (eV 1) (lCons (eV 2) lNil)))) ((List.range n).map fun i => .int (y i)) [.val (vT n y), .val (.int 0), .un] = .ok (.nx, [.val (vT n y), .val (.int (c : Int)), a]) := h1
  by_cases hle : c ≤ 1
  · have hle' : (c : Int) ≤ 1 := by omega
    refine ⟨y, ?_, 1, by omega, fun i _ => by omega⟩
    unfold m_primitive b_primitive
    simp [h1', hle, hle']
  · have hle' : ¬ (c : Int) ≤ 1 := by omega
    refine ⟨fun i => (y i).fdiv c, ?_, c, by omega, fun i hi => ?_⟩
    · unfold m_primitive b_primitive
      simp [h1', hle, hle', okW, wipeR, ho]
      rw [compL_rg (fun i => .int ((y i).fdiv c))]
      · simp [hs]
      · intro i hi
        have hl : c.log2 < 9000 := Nat.lt_trans (log_of (k := 4000) (hz (by omega)) (by omega)) (by omega)
        have := divD_of (i := y i) (j := (c : Int)) (by omega) (by simpa using hl)
        simp [this]
    · obtain ⟨k, hk⟩ := hc i (by simpa using hi)
      show y i = c * (y i).fdiv c
      rw [hk, Int.mul_fdiv_cancel_left _ (by omega)]
theorem goal_is {n : Nat} {R : Tb} {y im : Vk} (hn : n ≤ 1000) : m__goal [mT n R, vT n y, vT n im] = .ok (vT n fun t => (if y t = 0 then 1 else 0) + sm n fun i => if im i = 0 then R i t else 0) := by
  have hs := small_of (n := n) (by omega)
  obtain ⟨ρ, h1, a, b, rfl⟩ := forL_idx (asg := aTup (aCons (aName 4) (aCons (aName 5) aNil)))
    (f := (sIf (c2 eqD (eV 5) (eK (.int 0)))
      (sSet 3 (eNew (nComp (iCall zipMD (lCons (eV 3) (lCons (eV 4) lNil))) (aTup (aCons (aName 6) (aCons (aName 7) aNil))) tTrue (e2 addD (eV 6) (eV 7)) [6, 7]))) sNil))
    (fun i ρ => ∃ (a b : Sl), ρ = [.val (mT n R), .val (vT n y), .val (vT n im), .val (vL n fun t => (if y t = 0 then 1 else 0) + sm i fun k => if im k = 0 then R k t else 0), a, b, .un, .un])
    ((List.range n).map fun i => .tup [vT n (R i), .int (im i)]) [.val (mT n R), .val (vT n y), .val (vT n im), .val (vL n fun t => (if y t = 0 then 1 else 0) + sm 0 fun k => if im k = 0 then R k t else 0), .un, .un, .un, .un] ⟨_, _, rfl⟩ (by
      rintro i hi _ ⟨a, b, rfl⟩
      have hi : i < n := by simpa using hi
      by_cases c : im i = 0
      · refine ⟨_, ?_, .val (vT n (R i)), .val (.int (im i)), rfl⟩
        simp [c, okW, wipeR, zw_rg]
        rw [compL_rg (fun t => .int (((if y t = 0 then 1 else 0) + sm i fun k => if im k = 0 then R k t else 0) + R i t))]
        · simp [hs, sm, c, Int.add_assoc]
        · intro t ht
          simp
      · refine ⟨_, ?_, .val (vT n (R i)), .val (.int (im i)), rfl⟩
        simp [c, sm])
  unfold m__goal b__goal
  simp [okW, wipeR, zw_rg]
  rw [compL_rg (fun t => .int (if y t = 0 then 1 else 0))]
  · simp [hs]
    simp [sm] at h1
    rw [h1]
    simp
  · intro t ht
    by_cases c : y t = 0 <;> simp [c]
end Law

set_option Elab.async false
set_option linter.all false
set_option maxRecDepth 100000
namespace Law
open PySem PySem.Spec PyProof.Rows L2 PF
open Dt (sm)
open Kp
theorem Bd.sz {x : Int} (h : Bd x) : Sz x := Nat.lt_of_lt_of_le h (Nat.pow_le_pow_right (by decide) (by decide))
theorem Sz_100 {x : Int} (h : x.natAbs ≤ 2 ^ 100) : Sz x := Nat.lt_of_le_of_lt h (Nat.pow_lt_pow_right (by decide) (by decide))
theorem tI_v {n : Nat} {x : List Int} (h : x.length = n) : tI x = vT n (at0 x) := by
  show D.tup _ = D.tup _
  congr 1
  conv => lhs; rw [eq_rg x h]
  rw [List.map_map]
  rfl
def AltF (n : Nat) (R : Tb) (g : Vk) (r : D) : Prop :=
  (∃ x : Vk, r = .tup [.str "point", vT n x] ∧ (∀ t, t < n → 0 ≤ x t ∧ Bd (x t)) ∧ (∀ i, i < n → 0 ≤ rowS n R x i) ∧ 1 ≤ sm n fun t => g t * x t) ∨
  (∃ (s : Int) (u : Vk), r = .tup [.str "bar", .int s, vT n u] ∧ 1 ≤ s ∧ Bd s ∧ (∀ i, i < n → 0 ≤ u i ∧ Bd (u i)) ∧ ∀ t, t < n → s * g t + colS n u R t ≤ 0)
theorem at0_rg {α : Type} [Inhabited α] {n k : Nat} {f : Nat → α} (h : k < n) : at0 ((List.range n).map f) k = f k := by
  rw [at0_map (by simpa using h), at0_range h]
theorem alt_is {n : Nat} {R : Tb} {g : Vk} (h1 : 1 ≤ n) (h2 : n ≤ 10) (hR : ∀ i j, i < n → j < n → (R i j).natAbs ≤ 2 ^ 100) (hg : ∀ i, i < n → (g i).natAbs ≤ 2 ^ 100) :
    ∃ r, m_alternative [mT n R, vT n g] = .ok r ∧ AltF n R g r := by
  have hrow : ∀ i, i < n → at0 ((List.range n).map fun i => (List.range n).map (R i)) i = (List.range n).map (R i) := fun i hi => at0_rg hi
  have d : Dom ((List.range n).map fun i => (List.range n).map (R i)) ((List.range n).map g) := by
    refine ⟨by simpa using h1, by simpa using h2, by simp; omega, fun i hi => ?_, fun i t hi ht => ?_, fun t ht => ?_⟩
    · have hi : i < n := by simpa using hi
      rw [hrow i hi]; simp
    · have hi : i < n := by simpa using hi
      have ht : t < n := by simpa using ht
      rw [hrow i hi, at0_rg ht]
      exact hR i t hi ht
    · have ht : t < n := by simpa using ht
      rw [at0_rg ht]
      exact hg t ht
  obtain ⟨r, e, h⟩ := alternative_is _ _ d
  have e1 : D.tup (((List.range n).map fun i => (List.range n).map (R i)).map tI) = mT n R := by
    show D.tup _ = D.tup _
    congr 1
    rw [List.map_map]
    refine List.map_congr_left fun i _ => ?_
    show D.tup _ = D.tup _
    rw [List.map_map]
    rfl
  have e2 : tI ((List.range n).map g) = vT n g := by
    show D.tup _ = D.tup _
    rw [List.map_map]
    rfl
  rw [e1, e2] at e
  refine ⟨r, e, ?_⟩
  rcases h with ⟨x, rfl, hp⟩ | ⟨s, u, rfl, hb⟩
  · have hl : x.length = n := by rw [hp.len]; simp
    refine .inl ⟨at0 x, by rw [tI_v hl], fun t ht => hp.pos t (by simpa using ht), fun i hi => ?_, ?_⟩
    · have := hp.row i (by simpa using hi)
      rw [hrow i hi] at this
      simp only [List.length_map, List.length_range] at this
      unfold rowS
      rwa [Dt.sm_congr n fun t ht => by rw [at0_rg ht]] at this
    · have := hp.goal
      simp only [List.length_map, List.length_range] at this
      rwa [Dt.sm_congr n fun t ht => by rw [at0_rg ht]] at this
  · have hl : u.length = n := by rw [hb.len]; simp
    refine .inr ⟨s, at0 u, by rw [tI_v hl], hb.s1, hb.sb, fun i hi => hb.pos i (by simpa using hi), fun t ht => ?_⟩
    have := hb.sum t (by simpa using ht)
    simp only [List.length_map, List.length_range] at this
    rw [at0_rg ht, Dt.sm_congr n fun i hi => by rw [hrow i hi, at0_rg ht]] at this
    exact this
/-! ### multiples -/
theorem pos_of {g a : Int} (hg : 1 ≤ g) (h : 0 < g * a) : 0 < a := by
  rcases Int.lt_or_le 0 a with h1 | h1
  · exact h1
  · have := le0_mul (by omega : 0 ≤ g) h1
    omega
theorem nn_of {g a : Int} (hg : 1 ≤ g) (h : 0 ≤ g * a) : 0 ≤ a := by
  rcases Int.lt_or_le a 0 with h1 | h1
  · have := Int.mul_neg_of_pos_of_neg (by omega : 0 < g) h1
    omega
  · exact h1
theorem np_of {g a : Int} (hg : 1 ≤ g) (h : g * a ≤ 0) : a ≤ 0 := by
  rcases Int.lt_or_le 0 a with h1 | h1
  · have := Int.mul_pos (by omega : 0 < g) h1
    omega
  · exact h1
theorem ng_of {g a : Int} (hg : 1 ≤ g) (h : g * a < 0) : a < 0 := by
  rcases Int.lt_or_le a 0 with h1 | h1
  · exact h1
  · have := Int.mul_nonneg (by omega : 0 ≤ g) h1
    omega
theorem rowS_mul {n : Nat} {T : Tb} {y z : Vk} {g : Int} (h : ∀ i, i < n → y i = g * z i) (i : Nat) : rowS n T y i = g * rowS n T z i := by
  unfold rowS
  rw [← Dt.sm_mul]
  exact Dt.sm_congr n fun j hj => by rw [h j hj, Int.mul_left_comm]
theorem Sz.of_mul {y z g : Int} (hg : 1 ≤ g) (h : y = g * z) (hs : Sz y) : Sz z := by
  unfold Sz at *
  rw [h, Int.natAbs_mul] at hs
  refine Nat.lt_of_le_of_lt ?_ hs
  exact Nat.le_mul_of_pos_left _ (by omega)
theorem Row1.of {n : Nat} {T : Tb} {y z : Vk} {g : Int} (hg : 1 ≤ g) (h : ∀ i, i < n → y i = g * z i) (r : Row1 n T y) : Row1 n T z := by
  refine ⟨fun i hi => nn_of hg (by rw [← h i hi]; exact r.pos i hi), ?_, fun i hi => np_of hg (by rw [← rowS_mul h]; exact r.row i hi)⟩
  obtain ⟨i, hi, hp⟩ := r.one
  exact ⟨i, hi, pos_of hg (by rw [← h i hi]; exact hp)⟩
theorem Row2.of {n : Nat} {T : Tb} {y z : Vk} {g : Int} (hg : 1 ≤ g) (h : ∀ i, i < n → y i = g * z i) (r : Row2 n T y) : Row2 n T z := by
  refine ⟨fun i hi => nn_of hg (by rw [← h i hi]; exact r.pos i hi), fun i hi => np_of hg (by rw [← rowS_mul h]; exact r.row i hi), ?_⟩
  obtain ⟨i, hi, hp, hq⟩ := r.one
  have a := pos_of hg (by rw [← h i hi]; omega : 0 < g * z i)
  have b := ng_of hg (by rw [← rowS_mul h]; omega : g * rowS n T z i < 0)
  exact ⟨i, hi, by omega, by omega⟩
theorem rowS_neg (n : Nat) (T : Tb) (y : Vk) (i : Nat) : rowS n (fun i j => - T i j) y i = - rowS n T y i := by
  unfold rowS
  rw [← sm_neg]
  exact Dt.sm_congr n fun j _ => Int.neg_mul _ _
theorem colS_neg (n : Nat) (T : Tb) (y : Vk) (i : Nat) : colS n y (fun i j => - T i j) i = - colS n y T i := by
  unfold colS
  rw [← sm_neg]
  exact Dt.sm_congr n fun j _ => Int.mul_neg _ _
/-! ### strong papers -/
theorem eq_pt_bar : eqD (.str "point") (.str "bar") = some false := by decide +kernel
theorem eq_bar_bar : eqD (.str "bar") (.str "bar") = some true := by decide +kernel
theorem eq_pt_pt : eqD (.str "point") (.str "point") = some true := by decide +kernel
theorem eq_bar_pt : eqD (.str "bar") (.str "point") = some false := by decide +kernel
def Str1 (n : Nat) (T : Tb) (r : D) : Prop := (∃ u : Vk, r = .tup [.str "paper", vT n u] ∧ (∀ i, i < n → Sz (u i)) ∧ Pap1 n T u) ∨ ∃ y : Vk, r = .tup [.str "row", vT n y] ∧ (∀ i, i < n → Sz (y i)) ∧ Row1 n T y
theorem strong_is {n : Nat} {T : Tb} (h1 : 1 ≤ n) (h2 : n ≤ 10) (hT : ∀ i j, i < n → j < n → (T i j).natAbs ≤ 2 ^ 90) : ∃ r, m_strong_paper [mT n T] = .ok r ∧ Str1 n T r := by
  have ho := opposite_is (n := n) (T := T) (by omega)
  have hm := mulT_1 (x := .int 1) (n := n) (by omega)
  obtain ⟨r, ha, hr⟩ := alt_is (n := n) (R := fun i j => - T i j) (g := fun _ => 1) h1 h2 (fun i j hi hj => by rw [Int.natAbs_neg]; exact Nat.le_trans (hT i j hi hj) (Nat.pow_le_pow_right (by decide) (by decide))) (fun i _ => by decide)
  rcases hr with ⟨x, rfl, hx, hr, hg⟩ | ⟨s, u, rfl, hs, hsb, hu, hb⟩
  · obtain ⟨z, hz, g, hg1, hgz⟩ := primitive_is (n := n) (y := x) (by omega) fun i hi => (hx i hi).2.sz
    refine ⟨.tup [.str "row", vT n z], ?_, .inr ⟨z, rfl, fun i hi => Sz.of_mul hg1 (hgz i hi) (hx i hi).2.sz, Row1.of hg1 hgz ⟨fun i hi => (hx i hi).1, ?_, fun i hi => ?_⟩⟩⟩
    · unfold m_strong_paper b_strong_paper
      simp [ho, hm, ha, atI_0, atI_1, eq_pt_bar, hz]
    · obtain ⟨j, hj, hp⟩ := Dt.sm_pos_ex n (show 0 < sm n fun t => 1 * x t from Int.lt_of_lt_of_le (by decide) hg)
      exact ⟨j, hj, by omega⟩
    · have := hr i hi
      rw [rowS_neg] at this
      omega
  · refine ⟨.tup [.str "paper", vT n u], ?_, .inl ⟨u, rfl, fun i hi => (hu i hi).2.sz, fun i hi => (hu i hi).1, fun j hj => ?_⟩⟩
    · unfold m_strong_paper b_strong_paper
      simp [ho, hm, ha, atI_0, atI_1, atI_2, eq_bar_bar]
    · have : s * 1 + colS n u (fun i j => - T i j) j ≤ 0 := hb j hj
      rw [colS_neg] at this
      omega
end Law

set_option Elab.async false
set_option linter.all false
set_option maxRecDepth 100000
set_option exponentiation.threshold 10000
namespace Law
open PySem PySem.Spec PyProof.Rows L2 PF
open Dt (sm)
open Kp
def Weak1 (n : Nat) (T : Tb) (r : D) : Prop := (∃ u : Vk, r = .tup [.str "paper", vT n u] ∧ (∀ i, i < n → Sz (u i)) ∧ Pap2 n T u) ∨ ∃ y : Vk, r = .tup [.str "row", vT n y] ∧ (∀ i, i < n → Sz (y i)) ∧ Row2 n T y
theorem goalS_bound {n : Nat} {T : Tb} {y im : Vk} (h2 : n ≤ 10) (hT : ∀ i j, i < n → j < n → (T i j).natAbs ≤ 2 ^ 90) {t : Nat} (ht : t < n) : (goalS n T y im t).natAbs ≤ 2 ^ 100 := by
  unfold goalS
  have h := sm_abs (f := fun i => if im i = 0 then - T i t else 0) (M := 2 ^ 90) n fun i hi => by
    show (if im i = 0 then - T i t else 0).natAbs ≤ _
    split
    · rw [Int.natAbs_neg]; exact hT i t hi ht
    · simp
  have h3 : n * 2 ^ 90 ≤ 10 * 2 ^ 90 := Nat.mul_le_mul_right _ h2
  have h4 : (if y t = 0 then (1 : Int) else 0).natAbs ≤ 1 := by split <;> simp
  have h5 := Int.natAbs_add_le (if y t = 0 then (1 : Int) else 0) (sm n fun i => if im i = 0 then - T i t else 0)
  have h6 : 1 + 10 * 2 ^ 90 ≤ 2 ^ 100 := by decide
  omega
def roW (n : Nat) (T : Tb) (y im : Vk) (f : D) : Rho := [.val (mT n T), .val (mT n fun i j => - T i j), .val (vT n y), .val (vT n im), .val f, .un, .un, .un, .un, .un]
def Iw (n : Nat) (T : Tb) (m : Nat) (ρ : Rho) : Prop := ∃ (y im : Vk) (f : D), ρ = roW n T y im f ∧ Rnd n T y im ∧ mz n y + mz n im = m ∧ (∀ i, i < n → (y i).natAbs ≤ (2 * n - m) * 2 ^ 2000) ∧ AltF n (fun i j => - T i j) (goalS n T y im) f
def Pw (n : Nat) (T : Tb) (o : Fl × Rho) : Prop := (∃ z : Vk, o.1 = .rt (.tup [.str "row", vT n z]) ∧ (∀ i, i < n → Sz (z i)) ∧ Row2 n T z) ∨
  (o.1 = .nx ∧ ∃ (y im u : Vk) (s : Int), o.2 = roW n T y im (.tup [.str "bar", .int s, vT n u]) ∧ Rnd n T y im ∧ 1 ≤ s ∧ Bd s ∧ (∀ i, i < n → 0 ≤ u i ∧ Bd (u i)) ∧ ∀ t, t < n → s * goalS n T y im t + colS n u (fun i j => - T i j) t ≤ 0)
theorem weak_is {n : Nat} {T : Tb} (h1 : 1 ≤ n) (h2 : n ≤ 10) (hT : ∀ i j, i < n → j < n → (T i j).natAbs ≤ 2 ^ 90) : ∃ r, m_weak_paper [mT n T] = .ok r ∧ Weak1 n T r := by
  have hs := small_of (n := n) (by omega)
  have ho := opposite_is (n := n) (T := T) (by omega)
  have hm := mulT_1 (x := .int 0) (n := n) (by omega)
  have hR : ∀ i j, i < n → j < n → (- T i j).natAbs ≤ 2 ^ 100 := fun i j hi hj => by rw [Int.natAbs_neg]; exact Nat.le_trans (hT i j hi hj) (Nat.pow_le_pow_right (by decide) (by decide))
  have alt : ∀ y im : Vk, ∃ r, m_alternative [mT n fun i j => - T i j, vT n (goalS n T y im)] = .ok r ∧ AltF n (fun i j => - T i j) (goalS n T y im) r := fun y im =>
    alt_is h1 h2 hR fun t ht => goalS_bound h2 hT ht
  have goal : ∀ y im : Vk, m__goal [mT n fun i j => - T i j, vT n y, vT n im] = .ok (vT n (goalS n T y im)) := fun y im => goal_is (by omega)
  have hcap : (2 * n) * 2 ^ 2000 < 2 ^ 4000 := Nat.lt_of_le_of_lt (Nat.mul_le_mul_right _ (by omega : 2 * n ≤ 20)) (by decide +kernel)
  obtain ⟨f0, hf0, ha0⟩ := alt (fun _ => 0) (fun _ => 0)
  have hg0 := goal (fun _ => 0) (fun _ => 0)
  have r0 : Rnd n T (fun _ => 0) (fun _ => 0) := ⟨fun _ _ => Int.le_refl _, fun i _ => by unfold rowS; rw [Dt.sm_zero]; rfl; intro j _; exact Int.mul_zero _, fun _ _ => Int.le_refl _, fun _ _ => .inl rfl⟩
  have hz := mz_rng n (fun _ => 0)
  obtain ⟨o, hw, hp⟩ := while_dec (c := (c2 eqD (e2 ixD (eV 4) (eK (.int 0))) (eK (.str "point")))) (f := (sSeq (sSet 2 (eC tupleD (lCons (eNew (nComp (iCall zipMD (lCons (eV 2) (lCons (e2 ixD (eV 4) (eK (.int 1))) lNil))) (aTup (aCons (aName 8) (aCons (aName 9) aNil))) tTrue (e2 addD (eV 8) (eV 9)) [8, 9])) lNil)))
   (sSeq (sSet 3 (eCall 2 m_product (lCons (eV 1) (lCons (eV 2) lNil))))
   (sSeq (sIf (tTru (eC anyD (lCons (eNew (nComp (iCall zipMD (lCons (eV 2) (lCons (eV 3) lNil))) (aTup (aCons (aName 8) (aCons (aName 9) aNil))) tTrue (eAnd (eC2 (cmpD fun i j => decide (j < i)) (eV 8) (eK (.int 0))) (eC2 (cmpD fun i j => decide (j < i)) (eV 9) (eK (.int 0)))) [8, 9])) lNil)))
   (sRet (eTup (lCons (eK (.str "row")) (lCons (eCall 1 m_primitive (lCons (eV 2) lNil)) lNil))))
   sNil)
   (sSet 4 (eCall 2 m_alternative (lCons (eV 1) (lCons (eCall 3 m__goal (lCons (eV 1) (lCons (eV 2) (lCons (eV 3) lNil)))) lNil))))))))
    (Iw n T) (Pw n T) (by
      rintro m _ ⟨y, im, f, rfl, r, hmz, hyb, ha⟩
      unfold roW
      rcases ha with ⟨x, rfl, hx, hr, hg⟩ | ⟨s, u, rfl, hsc, hsb, hu, hb⟩
      · refine .inr ⟨by simp [atI_0, eq_pt_pt], ?_⟩
        have hr' : ∀ i, i < n → rowS n T x i ≤ 0 := fun i hi => by have := hr i hi; rw [rowS_neg] at this; omega
        obtain ⟨p1, p2, p3⟩ := round_pt r (fun t ht => (hx t ht).1) hr' hg
        obtain ⟨y', hy'⟩ : ∃ y' : Vk, y' = fun t => y t + x t := ⟨_, rfl⟩
        obtain ⟨v, hv⟩ : ∃ v : Vk, v = fun i => - rowS n T y' i := ⟨_, rfl⟩
        have hyi : ∀ i, y i + x i = y' i := fun i => by rw [hy']
        have hvi : ∀ i, v i = - rowS n T y' i := fun i => by rw [hv]
        rw [← hy', ← hv] at p3
        have q1 : ∀ t, t < n → 0 ≤ y' t := fun t ht => by rw [← hyi]; exact p1 t ht
        have q2 : ∀ i, i < n → rowS n T y' i ≤ 0 := fun i hi => by rw [hy']; exact p2 i hi
        have hmn := mz_rng n y
        have hmi := mz_rng n im
        have hmn' := mz_rng n y'
        have hmi' := mz_rng n v
        have hm' : ∃ m' : Nat, mz n y' + mz n v = m' ∧ m' < m := ⟨(mz n y' + mz n v).toNat, by omega, by omega⟩
        obtain ⟨m', e', lt'⟩ := hm'
        have hyb' : ∀ i, i < n → (y' i).natAbs ≤ (2 * n - m') * 2 ^ 2000 := fun i hi => by
          have a := hyb i hi
          have b : (x i).natAbs < 2 ^ 2000 := (hx i hi).2
          have c := Int.natAbs_add_le (y i) (x i)
          have d : (2 * n - m + 1) * 2 ^ 2000 ≤ (2 * n - m') * 2 ^ 2000 := Nat.mul_le_mul_right _ (by omega)
          rw [Nat.add_mul] at d
          rw [← hyi]
          omega
        have hys : ∀ i, i < n → Sz (y' i) := fun i hi => Nat.lt_of_le_of_lt (Nat.le_trans (hyb' i hi) (Nat.mul_le_mul_right _ (by omega : 2 * n - m' ≤ 2 * n))) hcap
        have hpr := product_is (n := n) (T := fun i j => - T i j) (y := y') (by omega) (fun i j hi hj => Sz_100 (hR i j hi hj)) hys
        have hpe : vT n (rowS n (fun i j => - T i j) y') = vT n v := by
          show D.tup _ = D.tup _
          congr 1
          exact List.map_congr_left fun i _ => by rw [rowS_neg, hvi]
        rw [hpe] at hpr
        obtain ⟨f', hf', ha'⟩ := alt y' v
        have hg' := goal y' v
        obtain ⟨z, hzp, g, hg1, hgz⟩ := primitive_is (n := n) (y := y') (by omega) hys
        have k1 := compL_rg (asg := aTup (aCons (aName 8) (aCons (aName 9) aNil))) (elt := e2 addD (eV 8) (eV 9)) (ρ := roW n T y im (.tup [.str "point", vT n x])) (n := n) (e := fun i => .tup [.int (y i), .int (x i)]) (fun i => .int (y' i)) (fun i hi => by simp [roW, hyi])
        have k2 := compL_rg (asg := aTup (aCons (aName 8) (aCons (aName 9) aNil))) (elt := (eAnd (eC2 (cmpD fun i j => decide (j < i)) (eV 8) (eK (.int 0))) (eC2 (cmpD fun i j => decide (j < i)) (eV 9) (eK (.int 0))))) (ρ := roW n T y' v (.tup [.str "point", vT n x])) (n := n)
          (e := fun i => .tup [.int (y' i), .int (v i)]) (fun i => .bl (decide (0 < y' i) && decide (0 < v i))) (fun i hi => by simp [roW])
        unfold roW at k1 k2
        have a2 := anyD_rg n fun i => decide (0 < y' i) && decide (0 < v i)
        have go : ∀ (F : ES), (sSeq (sSet 2 (eC tupleD (lCons (eNew (nComp (iCall zipMD (lCons (eV 2) (lCons (e2 ixD (eV 4) (eK (.int 1))) lNil))) (aTup (aCons (aName 8) (aCons (aName 9) aNil))) tTrue (e2 addD (eV 8) (eV 9)) [8, 9])) lNil)))
            (sSeq (sSet 3 (eCall 2 m_product (lCons (eV 1) (lCons (eV 2) lNil)))) F)) [.val (mT n T), .val (mT n fun i j => - T i j), .val (vT n y), .val (vT n im), .val (.tup [.str "point", vT n x]), .un, .un, .un, .un, .un] = F [.val (mT n T), .val (mT n fun i j => - T i j), .val (vT n y'), .val (vT n v), .val (.tup [.str "point", vT n x]), .un, .un, .un, .un, .un] := fun F => by
          simp [okW, wipeR, zw_rg, atI_1, k1, hs, hpr]
        rw [go]
        cases hany : (List.range n).any fun i => decide (0 < y' i) && decide (0 < v i) with
        | true =>
          obtain ⟨k, hk, hkk⟩ := any_rgE hany
          rw [Bool.and_eq_true, decide_eq_true_eq, decide_eq_true_eq, hvi] at hkk
          refine .inr ⟨.tup [.str "row", vT n z], roW n T y' v (.tup [.str "point", vT n x]), ?_, .inl ⟨z, rfl, fun i hi => Sz.of_mul hg1 (hgz i hi) (hys i hi), Row2.of hg1 hgz ⟨q1, q2, k, hk, by omega, by omega⟩⟩⟩
          rw [hany] at a2
          simp [okW, wipeR, zw_rg, k2, hs, a2, hzp, roW]
        | false =>
          have hno := any_rgN hany
          refine .inl ⟨_, m', ?_, lt', y', v, f', rfl, ⟨q1, fun i _ => hvi i, fun i hi => by have := q2 i hi; rw [hvi]; omega, fun i hi => ?_⟩, e', hyb', ha'⟩
          · rw [hany] at a2
            simp [okW, wipeR, zw_rg, k2, hs, a2, hg', hf', roW]
          · have := hno i hi
            rw [Bool.and_eq_false_iff, decide_eq_false_iff_not, decide_eq_false_iff_not] at this
            have := q1 i hi
            have := q2 i hi
            have := hvi i
            omega
      · refine .inl ⟨by simp [atI_0, eq_bar_pt], .inr ⟨rfl, y, im, u, s, rfl, r, hsc, hsb, hu, hb⟩⟩) FU (mz n (fun _ => 0) + mz n (fun _ => 0)).toNat _ (by unfold FU; omega) ⟨fun _ => 0, fun _ => 0, f0, rfl, r0, by omega, fun i _ => by simp, ha0⟩
  unfold roW at hw
  obtain ⟨o1, o2⟩ := o
  have hbeg : ∀ F : ES, (sSeq (sSet 1 (eCall 1 m__opposite (lCons (eV 0) lNil)))
     (sSeq (sSet 2 (e2 mulT (eTup (lCons (eK (.int 0)) lNil)) (eC lenD (lCons (eV 0) lNil))))
     (sSeq (sSet 3 (eV 2))
     (sSeq (sSet 4 (eCall 2 m_alternative (lCons (eV 1) (lCons (eCall 3 m__goal (lCons (eV 1) (lCons (eV 2) (lCons (eV 3) lNil)))) lNil)))) F)))) [.val (mT n T), .un, .un, .un, .un, .un, .un, .un, .un, .un] = F [.val (mT n T), .val (mT n fun i j => - T i j), .val (vT n fun _ => 0), .val (vT n fun _ => 0), .val f0, .un, .un, .un, .un, .un] := fun F => by
    simp [ho, hm, hg0, hf0]
  unfold m_weak_paper b_weak_paper
  rw [dDef_s]
  show ∃ r, ((sSeq _ _) [.val (mT n T), .un, .un, .un, .un, .un, .un, .un, .un, .un] >>= _) = _ ∧ _
  rw [hbeg, sSeq_s, hw]
  rcases hp with ⟨z, hz1, hz2, hz3⟩ | ⟨ho1, y, im, u, s, ho2, r, hs1, hsb, hu, hb⟩
  · refine ⟨_, ?_, .inr ⟨z, rfl, hz2, hz3⟩⟩
    have hz1 : o1 = .rt (.tup [.str "row", vT n z]) := hz1
    subst hz1
    rfl
  · have ho1 : o1 = .nx := ho1
    have ho2 : o2 = roW n T y im (.tup [.str "bar", .int s, vT n u]) := ho2
    subst ho1
    subst ho2
    have hp2 := round_bar r hs1 (fun i hi => (hu i hi).1) hb
    have ee := compL_rg (asg := aTup (aCons (aName 8) (aCons (aName 9) aNil))) (elt := (e2 addD (eV 8) (e2 mulD (eV 6) (eC intD (lCons (eC2 eqD (eV 9) (eK (.int 0))) lNil)))))
      (ρ := [.val (mT n T), .val (mT n fun i j => - T i j), .val (vT n y), .val (vT n im), .val (.tup [.str "bar", .int s, vT n u]), .val (.str "bar"), .val (.int s), .val (vT n u), .un, .un]) (n := n) (e := fun i => .tup [.int (u i), .int (im i)]) (fun i => .int (u i + s * (if im i = 0 then 1 else 0))) (fun i hi => by
        by_cases c : im i = 0
        · simp [c, mulD_k]
        · simp [c, mulD_k])
    refine ⟨_, ?_, .inl ⟨fun i => u i + s * (if im i = 0 then 1 else 0), rfl, fun i hi => ?_, hp2⟩⟩
    · simp [roW, okW, wipeR, zw_rg, ee, hs]
    · have a : (u i).natAbs < 2 ^ 2000 := (hu i hi).2
      have b : s.natAbs < 2 ^ 2000 := hsb
      have c : (s * (if im i = 0 then 1 else 0)).natAbs ≤ s.natAbs := by split <;> simp
      have d := Int.natAbs_add_le (u i) (s * (if im i = 0 then 1 else 0))
      have e : 2 ^ 2000 + 2 ^ 2000 < 2 ^ 4000 := by decide +kernel
      show (u i + s * (if im i = 0 then 1 else 0)).natAbs < 2 ^ 4000
      omega
end Law

set_option Elab.async false
set_option linter.all false
set_option maxRecDepth 100000
set_option exponentiation.threshold 10000
namespace Law
open PySem PySem.Spec PyProof.Rows L2 PF
open Dt (sm)
open Kp
theorem int_is (x : Int) : m__law_is_integer [.int x] = .ok (.bl true) := by
  unfold m__law_is_integer b__law_is_integer
  simp
theorem vector_is {n : Nat} (y : Vk) (hn : n ≤ 1000) : m__law_is_vector [vT n y, .int (n : Int)] = .ok (.bl true) := by
  have hs := small_of (n := n) (by omega)
  unfold m__law_is_vector b__law_is_vector
  simp [okW, wipeR]
  rw [compL_rg (fun _ => .bl true)]
  · simp [hs, allD_rg n fun _ => true]
  · intro i hi
    simp [int_is]
theorem sameI (k : Nat) (a : Int) : r__law_same (k + 1) [.int a, .int a] = .ok (.bl true) := by
  unfold r__law_same b__law_same
  simp
theorem sameSt (k : Nat) (a : Str) (h : eqD (.str a) (.str a) = some true) : r__law_same (k + 1) [.str a, .str a] = .ok (.bl true) := by
  unfold r__law_same b__law_same
  simp [h]
theorem sameV (k n : Nat) (y : Vk) (hn : n ≤ 1000) : r__law_same (k + 2) [vT n y, vT n y] = .ok (.bl true) := by
  have hs := small_of (n := n) (by omega)
  rw [r__law_same, b__law_same]
  simp [okW, wipeR, zw_rg]
  rw [compL_rg (fun _ => .bl true)]
  · simp [hs, allD_rg n fun _ => true]
  · intro i hi
    simp [sameI]
theorem same_v (n : Nat) (y : Vk) (hn : n ≤ 1000) : m__law_same [vT n y, vT n y] = .ok (.bl true) := sameV 3 n y hn
theorem same_p (n : Nat) (a : Str) (y : Vk) (hn : n ≤ 1000) (h : eqD (.str a) (.str a) = some true) : m__law_same [.tup [.str a, vT n y], .tup [.str a, vT n y]] = .ok (.bl true) := by
  show r__law_same (4 + 1) _ = _
  rw [r__law_same, b__law_same]
  simp [okW, wipeR, compL, sameSt 3 a h, sameV 2 n y hn, allD, tvs, tTrue, dBls]
theorem eq_paper : eqD (.str "paper") (.str "paper") = some true := by decide +kernel
theorem eq_row : eqD (.str "row") (.str "row") = some true := by decide +kernel
theorem eq_row_paper : eqD (.str "row") (.str "paper") = some false := by decide +kernel
theorem ne_row : neD (.str "row") (.str "row") = some false := by decide +kernel
theorem tup0 (x : Str) (ds : List D) : ixD (.tup (.str x :: ds)) (.int 0) = some (.str x) := atI_0 _ _
theorem rowS_b {n : Nat} {T : Tb} {y : Vk} : True := trivial
theorem law_strong_is {n : Nat} {T : Tb} {r : D} (hn : n ≤ 10) (hT : ∀ i j, i < n → j < n → Sz (T i j)) (h : Str1 n T r) : m__law_strong [r, mT n T] = .ok (.bl true) := by
  have hs := small_of (n := n) (by omega)
  rcases h with ⟨u, rfl, hu, hp⟩ | ⟨y, rfl, hy, hr⟩
  · have hv := vector_is (n := n) u (by omega)
    have hsm := sums_is (n := n) (T := T) (u := u) (by omega) hT hu
    have k1 := compL_rg (asg := aName 2) (elt := (eC2 (cmpD fun i j => decide (i < j)) (eV 2) (eK (.int 0)))) (ρ := [.val (.tup [.str "paper", vT n u]), .val (mT n T), .un]) (n := n) (e := fun i => .int (u i)) (fun _ => .bl false) (fun i hi => by have := hp.pos i hi; simp; omega)
    have k2 := compL_rg (asg := aName 2) (elt := (eC2 (cmpD fun i j => decide (j ≤ i)) (eV 2) (eK (.int 1)))) (ρ := [.val (.tup [.str "paper", vT n u]), .val (mT n T), .un]) (n := n) (e := fun i => .int (colS n u T i)) (fun _ => .bl true) (fun i hi => by have := hp.sum i hi; simp; omega)
    have a1 := anyD_rg n fun _ => false
    rw [any_rgF fun _ _ => rfl] at a1
    have a2 := allD_rg n fun _ => true
    unfold m__law_strong b__law_strong
    simp [okW, wipeR, atI_0, atI_1, hv, k1, k2, hs, a1, a2, hsm, eq_paper]
  · have hv := vector_is (n := n) y (by omega)
    have hsm := image_is (n := n) (T := T) (y := y) (by omega) hT hy
    have k1 := compL_rg (asg := aName 2) (elt := (eC2 (cmpD fun i j => decide (i < j)) (eV 2) (eK (.int 0)))) (ρ := [.val (.tup [.str "row", vT n y]), .val (mT n T), .un]) (n := n) (e := fun i => .int (y i)) (fun _ => .bl false) (fun i hi => by have := hr.pos i hi; simp; omega)
    have k3 := compL_rg (asg := aName 2) (elt := (eC2 (cmpD fun i j => decide (j < i)) (eV 2) (eK (.int 0)))) (ρ := [.val (.tup [.str "row", vT n y]), .val (mT n T), .un]) (n := n) (e := fun i => .int (y i)) (fun i => .bl (decide (0 < y i))) (fun i hi => by simp)
    have k2 := compL_rg (asg := aName 2) (elt := (eC2 (cmpD fun i j => decide (i ≤ j)) (eV 2) (eK (.int 0)))) (ρ := [.val (.tup [.str "row", vT n y]), .val (mT n T), .un]) (n := n) (e := fun i => .int (rowS n T y i)) (fun _ => .bl true) (fun i hi => by have := hr.row i hi; simp; omega)
    have a1 := anyD_rg n fun _ => false
    rw [any_rgF fun _ _ => rfl] at a1
    have a2 := allD_rg n fun _ => true
    have a3 := anyD_rg n fun i => decide (0 < y i)
    rw [any_rgT (by obtain ⟨i, hi, hp⟩ := hr.one; exact ⟨i, hi, decide_eq_true hp⟩)] at a3
    unfold m__law_strong b__law_strong
    simp [okW, wipeR, atI_0, atI_1, hv, k1, k2, k3, hs, a1, a2, a3, hsm, eq_row_paper, eq_row]
theorem law_weak_is {n : Nat} {T : Tb} {r : D} (hn : n ≤ 10) (hT : ∀ i j, i < n → j < n → Sz (T i j)) (h : Weak1 n T r) : m__law_weak [r, mT n T] = .ok (.bl true) := by
  have hs := small_of (n := n) (by omega)
  rcases h with ⟨u, rfl, hu, hp⟩ | ⟨y, rfl, hy, hr⟩
  · have hv := vector_is (n := n) u (by omega)
    have hsm := sums_is (n := n) (T := T) (u := u) (by omega) hT hu
    have k1 := compL_rg (asg := aName 4) (elt := (eC2 (cmpD fun i j => decide (i < j)) (eV 4) (eK (.int 0)))) (ρ := [.val (.tup [.str "paper", vT n u]), .val (mT n T), .un, .un, .un, .un]) (n := n) (e := fun i => .int (u i)) (fun _ => .bl false) (fun i hi => by have := hp.pos i hi; simp; omega)
    have k2 := compL_rg (asg := aTup (aCons (aName 4) (aCons (aName 5) aNil))) (elt := (eAnd (eC2 (cmpD fun i j => decide (j ≤ i)) (eV 5) (eK (.int 0))) (eC2 (cmpD fun i j => decide (j ≤ i)) (e2 addD (eV 4) (eV 5)) (eK (.int 1))))) (ρ := [.val (.tup [.str "paper", vT n u]), .val (mT n T), .un, .val (vL n (colS n u T)), .un, .un]) (n := n) (e := fun i => .tup [.int (u i), .int (colS n u T i)]) (fun _ => .bl true)
      (fun i hi => by have h1 := hp.sum i hi; have h2 := hp.one i hi; simp [h1, h2])
    have a1 := anyD_rg n fun _ => false
    rw [any_rgF fun _ _ => rfl] at a1
    have a2 := allD_rg n fun _ => true
    unfold m__law_weak b__law_weak
    simp [okW, wipeR, atI_0, atI_1, hv, k1, k2, hs, a1, a2, hsm, eq_paper, zw_rg]
  · have hv := vector_is (n := n) y (by omega)
    have hsm := image_is (n := n) (T := T) (y := y) (by omega) hT hy
    have k1 := compL_rg (asg := aName 4) (elt := (eC2 (cmpD fun i j => decide (i < j)) (eV 4) (eK (.int 0)))) (ρ := [.val (.tup [.str "row", vT n y]), .val (mT n T), .un, .un, .un, .un]) (n := n) (e := fun i => .int (y i)) (fun _ => .bl false) (fun i hi => by have := hr.pos i hi; simp; omega)
    have k3 := compL_rg (asg := aName 5) (elt := (eC2 (cmpD fun i j => decide (j < i)) (eV 5) (eK (.int 0)))) (ρ := [.val (.tup [.str "row", vT n y]), .val (mT n T), .val (vL n (rowS n T y)), .un, .un, .un]) (n := n) (e := fun i => .int (rowS n T y i)) (fun i => .bl false) (fun i hi => by have := hr.row i hi; simp; omega)
    have k2 := compL_rg (asg := aTup (aCons (aName 4) (aCons (aName 5) aNil))) (elt := (eAnd (eC2 (cmpD fun i j => decide (j ≤ i)) (eV 4) (eK (.int 1))) (eC2 (cmpD fun i j => decide (i ≤ j)) (eV 5) (e1 negD (eK (.int 1)))))) (ρ := [.val (.tup [.str "row", vT n y]), .val (mT n T), .val (vL n (rowS n T y)), .un, .un, .un]) (n := n) (e := fun i => .tup [.int (y i), .int (rowS n T y i)]) (fun i => .bl (decide (1 ≤ y i) && decide (rowS n T y i ≤ -1)))
      (fun i hi => by simp)
    have a1 := anyD_rg n fun _ => false
    rw [any_rgF fun _ _ => rfl] at a1
    have a3 := anyD_rg n fun i => decide (1 ≤ y i) && decide (rowS n T y i ≤ -1)
    rw [any_rgT (by obtain ⟨i, hi, hp, hq⟩ := hr.one; exact ⟨i, hi, by simp [hp, hq]⟩)] at a3
    unfold m__law_weak b__law_weak
    simp [okW, wipeR, atI_0, atI_1, hv, k1, k2, k3, hs, a1, a3, hsm, eq_row_paper, ne_row, zw_rg]
end Law

set_option Elab.async false
set_option linter.all false
set_option maxRecDepth 100000
set_option exponentiation.threshold 10000
namespace Law
open PySem PySem.Spec PyProof.Rows L2 PF
open Dt (sm)
open Kp
def SOk (n : Nat) (T : Tb) (S : D) : Prop := S = .str "" ∨ (S = .str "paper" ∧ ∀ y, ¬ Row1 n T y) ∨ (S = .str "row" ∧ ∀ u, ¬ Pap1 n T u)
def WOk (n : Nat) (T : Tb) (S : D) : Prop := S = .str "" ∨ (S = .str "paper" ∧ ∀ y, ¬ Row2 n T y) ∨ (S = .str "row" ∧ ∀ u, ¬ Pap2 n T u)
theorem ne_e : neD (.str "") (.str "") = some false := by decide +kernel
theorem ne_pe : neD (.str "paper") (.str "") = some true := by decide +kernel
theorem ne_re : neD (.str "row") (.str "") = some true := by decide +kernel
theorem ne_pp : neD (.str "paper") (.str "paper") = some false := by decide +kernel
theorem T_sz {n : Nat} {T : Tb} (hT : ∀ i j, i < n → j < n → (T i j).natAbs ≤ 2 ^ 90) : ∀ i j, i < n → j < n → Sz (T i j) := fun i j hi hj => Sz_100 (Nat.le_trans (hT i j hi hj) (Nat.pow_le_pow_right (by decide) (by decide)))
theorem judged_is {n : Nat} {T : Tb} {S W : D} (h1 : 1 ≤ n) (h2 : n ≤ 10) (hT : ∀ i j, i < n → j < n → (T i j).natAbs ≤ 2 ^ 90) (hS : SOk n T S) (hW : WOk n T W) : m__law_judged [mT n T, S, W] = .ok (.bl true) := by
  obtain ⟨r, hr, hr2⟩ := strong_is h1 h2 hT
  obtain ⟨q, hq, hq2⟩ := weak_is h1 h2 hT
  have j1 := law_strong_is h2 (T_sz hT) hr2
  have j2 := law_weak_is h2 (T_sz hT) hq2
  have k1 : m__law_same [r, r] = .ok (.bl true) := by
    rcases hr2 with ⟨u, rfl, _⟩ | ⟨u, rfl, _⟩
    · exact same_p n _ u (by omega) eq_paper
    · exact same_p n _ u (by omega) eq_row
  have k2 : m__law_same [q, q] = .ok (.bl true) := by
    rcases hq2 with ⟨u, rfl, _⟩ | ⟨u, rfl, _⟩
    · exact same_p n _ u (by omega) eq_paper
    · exact same_p n _ u (by omega) eq_row
  have c1 : (tAnd' (c2 neD (eV 1) (eK (.str ""))) (c2 neD (e2 ixD (eV 3) (eK (.int 0))) (eV 1))) [.val (mT n T), .val S, .val W, .val r, .val q] = .ok false := by
    rcases hS with rfl | ⟨rfl, hS⟩ | ⟨rfl, hS⟩
    · simp [ne_e]
    · rcases hr2 with ⟨u, rfl, _⟩ | ⟨u, rfl, _, ho⟩
      · simp [ne_pe, atI_0, ne_pp]
      · exact absurd ho (hS u)
    · rcases hr2 with ⟨u, rfl, _, ho⟩ | ⟨u, rfl, _⟩
      · exact absurd ho (hS u)
      · simp [ne_re, atI_0, ne_row]
  have d1 : (tAnd' (c2 neD (eV 2) (eK (.str ""))) (c2 neD (e2 ixD (eV 4) (eK (.int 0))) (eV 2))) [.val (mT n T), .val S, .val W, .val r, .val q] = .ok false := by
    rcases hW with rfl | ⟨rfl, hS⟩ | ⟨rfl, hS⟩
    · simp [ne_e]
    · rcases hq2 with ⟨u, rfl, _⟩ | ⟨u, rfl, _, ho⟩
      · simp [ne_pe, atI_0, ne_pp]
      · exact absurd ho (hS u)
    · rcases hq2 with ⟨u, rfl, _, ho⟩ | ⟨u, rfl, _⟩
      · exact absurd ho (hS u)
      · simp [ne_re, atI_0, ne_row]
  unfold m__law_judged b__law_judged
  rw [dDef_s]
  show ((sSeq _ _) [.val (mT n T), .val S, .val W, .un, .un] >>= _) = _
  rw [sSeq_s, sSet_s, eCall_s, lCons_s, lNil_s]
  show ((((m_strong_paper [mT n T]) >>= _) >>= _) >>= _) = _
  rw [hr]
  show ((sSeq _ _) [.val (mT n T), .val S, .val W, .val r, .un] >>= _) = _
  rw [sSeq_s, sSet_s, eCall_s, lCons_s, lNil_s]
  show ((((m_weak_paper [mT n T]) >>= _) >>= _) >>= _) = _
  rw [hq]
  show ((sSeq _ _) [.val (mT n T), .val S, .val W, .val r, .val q] >>= _) = _
  rw [sSeq_s, sIf_s]
  have b1 : (tOr' (tNot' (tTru (eCall 2 m__law_strong (lCons (eV 3) (lCons (eV 0) lNil))))) (tNot' (tTru (eCall 2 m__law_weak (lCons (eV 4) (lCons (eV 0) lNil)))))) [.val (mT n T), .val S, .val W, .val r, .val q] = .ok false := by
    simp [j1, j2]
  rw [b1]
  show ((sSeq _ _) [.val (mT n T), .val S, .val W, .val r, .val q] >>= _) = _
  rw [sSeq_s, sIf_s, c1]
  show ((sSeq _ _) [.val (mT n T), .val S, .val W, .val r, .val q] >>= _) = _
  rw [sSeq_s, sIf_s, d1]
  simp [hr, hq, k1, k2]
theorem mulD_sw {x y : Int} (hx : Sz x) (hy : y.natAbs < 2 ^ 8000) : PF.mulD (.int x) (.int y) = some (.int (x * y)) := by
  have h1 := log_of (k := 4000) hx (by omega)
  have h2 := log_of (k := 8000) hy (by omega)
  exact mulD_w (by omega)
theorem rowS_sw {n : Nat} {T : Tb} {x : Vk} (h2 : n ≤ 10) (hT : ∀ i j, i < n → j < n → (T i j).natAbs ≤ 2 ^ 90) (hx : ∀ i, i < n → Sz (x i)) {i : Nat} (hi : i < n) : (rowS n T x i).natAbs < 2 ^ 8000 := by
  have h := sm_abs (f := fun j => T i j * x j) (M := 2 ^ 90 * 2 ^ 4000) n fun j hj => by
    show (T i j * x j).natAbs ≤ _
    rw [Int.natAbs_mul]
    exact Nat.mul_le_mul (hT i j hi hj) (Nat.le_of_lt (hx j hj))
  have h3 : n * (2 ^ 90 * 2 ^ 4000) ≤ 10 * (2 ^ 90 * 2 ^ 4000) := Nat.mul_le_mul_right _ h2
  have h4 : 10 * (2 ^ 90 * 2 ^ 4000) < 2 ^ 8000 := by decide +kernel
  exact Nat.lt_of_le_of_lt (Nat.le_trans h h3) h4
theorem turns_is {n : Nat} {T : Tb} {x : Vk} (h2 : n ≤ 10) (hT : ∀ i j, i < n → j < n → (T i j).natAbs ≤ 2 ^ 90) (hx : ∀ i, i < n → Sz (x i)) : m_turns [mT n T, vT n x] = .ok (vT n fun i => x i * rowS n T x i) := by
  have hs := small_of (n := n) (by omega)
  have hp := product_is (n := n) (T := T) (y := x) (by omega) (T_sz hT) hx
  unfold m_turns b_turns
  simp [okW, wipeR, hp, zw_rg]
  rw [compL_rg (fun i => .int (x i * rowS n T x i))]
  · simp [hs]
  · intro i hi
    simp [mulD_sw (hx i hi) (rowS_sw h2 hT hx hi)]
theorem turned_is {n : Nat} {T : Tb} {x : Vk} (h2 : n ≤ 10) (hT : ∀ i j, i < n → j < n → (T i j).natAbs ≤ 2 ^ 90) (hx : ∀ i, i < n → Sz (x i)) : m__law_turned [mT n T, vT n x] = .ok (.bl true) := by
  have hs := small_of (n := n) (by omega)
  have hp := image_is (n := n) (T := T) (y := x) (by omega) (T_sz hT) hx
  have ht := turns_is h2 hT hx
  have hsame := same_v n (fun i => x i * rowS n T x i) (by omega)
  have k1 := compL_rg (asg := aTup (aCons (aName 3) (aCons (aName 4) aNil))) (elt := e2 mulD (eV 3) (eV 4)) (ρ := [.val (mT n T), .val (vT n x), .un, .un, .un]) (n := n) (e := fun i => .tup [.int (x i), .int (rowS n T x i)]) (fun i => .int (x i * rowS n T x i)) (fun i hi => by simp [mulD_sw (hx i hi) (rowS_sw h2 hT hx hi)])
  unfold m__law_turned b__law_turned
  simp [okW, wipeR, hp, zw_rg, k1, hs, ht, hsame]
end Law

set_option Elab.async false
set_option linter.all false
set_option maxRecDepth 100000
set_option exponentiation.threshold 10000
namespace Law
open PySem PySem.Spec PyProof.Rows L2 PF
open Dt (sm)
open Kp
theorem cut_rg {α : Type} (m a b : Nat) (f : Nat → α) (h1 : a ≤ b) (h2 : b ≤ m)   : PF.cutD ((List.range m).map f) (some (a : Int)) (some (b : Int)) = (List.range (b - a)).map fun j => f (a + j) := by
  unfold PF.cutD
  rw [List.length_map, List.length_range, HT.sIx_nat, HT.sIx_nat, Nat.min_eq_left (by omega), Nat.min_eq_left (by omega)]
  apply List.ext_getElem (by simp; omega)
  intro i x1 x2
  simp
theorem numf_is (cell : Int) (count : Nat) (base : Int) (hc : count ≤ 1000000) (hb : 0 < base) (hb2 : base < 18446744073709551616) :
    ∃ f : Vk, m__law_numbers [.int cell, .int (count : Int), .int base] = .ok (vL count f) ∧ n__law_numbers [.int cell, .int (count : Int), .int base] = .ok ((List.range count).map fun i => .int (f i)) ∧ ∀ i, i < count → 0 ≤ f i ∧ f i < base := by
  obtain ⟨xs, h1, h2, h3⟩ := numbersN_is cell count base hc hb hb2
  have e : xs.map D.int = (List.range count).map fun i => D.int (at0 xs i) := by
    conv => lhs; rw [eq_rg xs h2]
    rw [List.map_map]
    rfl
  rw [e] at h1
  refine ⟨at0 xs, ?_, h1, fun i hi => h3 _ (at0_mem (by omega))⟩
  unfold m__law_numbers asV
  rw [h1]
  rfl
theorem flat_v (n : Nat) (f : Vk) : flat (.tup ((List.range n).map fun i => .int (f i))) = true := by
  have := flats_ints ((List.range n).map f)
  rw [List.map_map] at this
  exact this
theorem int_beq (i k : Nat) : (((i : Nat) : Int) == ((k : Nat) : Int)) = decide (i = k) := by
  by_cases h : i = k
  · subst h; simp
  · have : ((i : Nat) : Int) ≠ k := by omega
    simp [h, this]
theorem ne_nat (i k : Nat) : neD (.int (i : Int)) (.int (k : Int)) = some (decide (i ≠ k)) := by
  rw [neD_ii]
  congr 1
  by_cases h : i = k
  · subst h; simp
  · have : ((i : Nat) : Int) ≠ k := by omega
    simp [h, this]
theorem sumif_is {asg : D → Rho → R Rho} {tst : ET} {elt : EE} {ρ : Rho} (n k : Nat) (f : Nat → Int) (h : ∀ i, i < n → ∃ ρ', asg (.int (i : Int)) ρ = .ok ρ' ∧ tst ρ' = .ok (decide (i ≠ k)) ∧ elt ρ' = .ok (.int (f i))) :
    ∃ out, compL asg tst elt ρ ((List.range n).map fun (i : Nat) => .int (i : Int)) = .ok out ∧ out.length ≤ n ∧ sumD [.lst out] = some (.int (sm n fun i => if i = k then 0 else f i)) := by
  refine ⟨_, compL_if (fun i => decide (i ≠ k)) (fun i => .int (f i)) (List.range n) (fun i hi => ?_), ?_, ?_⟩
  · obtain ⟨ρ', h1, h2, h3⟩ := h i (List.mem_range.mp hi)
    exact ⟨ρ', h1, h2, fun _ => h3⟩
  · rw [List.length_map]
    exact Nat.le_trans (List.length_filter_le _ _) (by simp)
  · rw [sumD_map, sum_if, Dt.sum_sm]
    congr 2
    refine Dt.sm_congr n fun i _ => ?_
    by_cases e : i = k <;> simp [e]
def paperT (n : Nat) (T : Tb) (u less : Vk) (a : Nat) : Tb := fun i j => if i = a then 1 + less j - sm n (fun i => if i = a then 0 else u i * T i j) else T i j
theorem paper_row_is {n a : Nat} {T : Tb} {u less : Vk} (h1 : 1 ≤ n) (h2 : n ≤ 10) (ha : a < n) (hT : ∀ i j, i < n → j < n → Sz (T i j)) (hu : ∀ i, i < n → Sz (u i)) : m__law_paper_row [mT n T, vL n u, .int (a : Int), vL n less] = .ok (mT n (paperT n T u less a)) := by
  have hs := small_of (n := n) (by omega)
  have hr := range1_nat (n := n) (by omega)
  rw [rg_eq] at hr
  have hix := ixN_nat (n := n) (k := a) ha
  have k1 := compL_rg (asg := aName 6) (elt := eV 6) (ρ := [.val (mT n T), .val (vL n u), .val (.int (a : Int)), .val (vL n less), .val (.int (n : Int)), .un, .un, .un, .un]) (n := n) (e := fun i => vT n (T i)) (fun i => vT n (T i)) (fun i hi => by simp)
  have k2 := compL_rg (asg := aName 7) (elt := (e2 subD (e2 addD (eK (.int 1)) (e2 ixD (eV 3) (eV 7))) (eC sumD (lCons (eNew (nComp (iCall rangeD1 (lCons (eV 4) lNil)) (aName 8) (c2 neD (eV 8) (eV 2)) (e2 mulD (e2 ixD (eV 1) (eV 8)) (e2 ixD (e2 ixD (eV 0) (eV 8)) (eV 7))) [8])) lNil))))
    (ρ := [.val (mT n T), .val (vL n u), .val (.int (a : Int)), .val (vL n less), .val (.int (n : Int)), .own ((List.range n).map fun i => vT n (T i)), .un, .un, .un]) (n := n) (e := fun (i : Nat) => .int (i : Int)) (fun j => .int (1 + less j - sm n (fun i => if i = a then 0 else u i * T i j))) (fun j hj => by
      obtain ⟨out, q1, q2, q3⟩ := sumif_is (asg := aName 8) (tst := c2 neD (eV 8) (eV 2)) (elt := (e2 mulD (e2 ixD (eV 1) (eV 8)) (e2 ixD (e2 ixD (eV 0) (eV 8)) (eV 7))))
        (ρ := [.val (mT n T), .val (vL n u), .val (.int (a : Int)), .val (vL n less), .val (.int (n : Int)), .own ((List.range n).map fun i => vT n (T i)), .un, .val (.int (j : Int)), .un]) n a (fun i => u i * T i j) (fun i hi => ⟨_, rfl, by simp [int_beq], by simp [atI_rg hi, atI_rg hj, (hu i hi).mulD (hT i j hi hj)]⟩)
      have hso := small_of (n := out.length) (by omega)
      simp [okW, wipeR, hr, q1, hso, q3, atI_rg hj])
  unfold m__law_paper_row b__law_paper_row
  simp [okW, wipeR, k1, hs, hr, k2, sSetI, hix, set_rg, frzAt]
  intro i hi
  by_cases e : i = a
  · simp [e, paperT]
  · simp [e, paperT]
theorem paper_pap {n a : Nat} {T : Tb} {u less : Vk} (ha : a < n) (hua : u a = 1) (hu : ∀ i, i < n → 0 ≤ u i) (hl : ∀ i, i < n → 0 ≤ less i) : Pap1 n (paperT n T u less a) u := by
  refine ⟨hu, fun j hj => ?_⟩
  have e : colS n u (paperT n T u less a) j = sm n (fun i => if i = a then 0 else u i * T i j) + sm n (fun i => if i = a then u i * paperT n T u less a i j else 0) := by
    rw [← Dt.sm_add]
    refine Dt.sm_congr n fun i _ => ?_
    by_cases e : i = a <;> simp [e, paperT]
  rw [e, Dt.sm_one (f := fun i => if i = a then u i * paperT n T u less a i j else 0) (k := a) n ha fun i _ hne => if_neg hne]
  have := hl j hj
  simp [hua, paperT]
  omega
def barT (n : Nat) (T : Tb) (y less : Vk) (a : Nat) : Tb := fun i j => if j = a then - less i - sm n (fun j => if j = a then 0 else T i j * y j) else T i j
theorem bar_col_is {n a : Nat} {T : Tb} {y less : Vk} (h1 : 1 ≤ n) (h2 : n ≤ 10) (ha : a < n) (hT : ∀ i j, i < n → j < n → Sz (T i j)) (hy : ∀ i, i < n → Sz (y i)) : m__law_bar_column [mT n T, vL n y, .int (a : Int), vL n less] = .ok (mT n (barT n T y less a)) := by
  have hs := small_of (n := n) (by omega)
  have hr := range1_nat (n := n) (by omega)
  rw [rg_eq] at hr
  have hix := ixN_nat (n := n) (k := a) ha
  obtain ⟨ρ, h3, x, w, rfl⟩ := forL_idx (asg := aName 6) (f := (sSeq (sSetN 7 (nComp (iSeq (e2 ixD (eV 0) (eV 6))) (aName 8) tTrue (eV 8) [8]))
     (sSeq (sSetI 7 (eV 2) (e2 subD (e1 negD (e2 ixD (eV 3) (eV 6))) (eC sumD (lCons (eNew (nComp (iCall rangeD1 (lCons (eV 4) lNil)) (aName 9) (c2 neD (eV 9) (eV 2)) (e2 mulD (e2 ixD (e2 ixD (eV 0) (eV 6)) (eV 9)) (e2 ixD (eV 1) (eV 9))) [9])) lNil))))
     (sApp 5 (eBor (eC tupleD (lCons (eV 7) lNil)))))))
    (fun i ρ => ∃ (x w : Sl), ρ = [.val (mT n T), .val (vL n y), .val (.int (a : Int)), .val (vL n less), .val (.int (n : Int)), .own ((List.range i).map fun i => vT n (barT n T y less a i)), x, w, .un, .un])
    ((List.range n).map fun (i : Nat) => .int (i : Int)) [.val (mT n T), .val (vL n y), .val (.int (a : Int)), .val (vL n less), .val (.int (n : Int)), .own [], .un, .un, .un, .un] ⟨_, _, rfl⟩ (by
      rintro i hi _ ⟨x, w, rfl⟩
      have hi : i < n := by simpa using hi
      have hs2 := small_of (n := i + 1) (by omega)
      have k1 := compL_rg (asg := aName 8) (elt := eV 8) (ρ := [.val (mT n T), .val (vL n y), .val (.int (a : Int)), .val (vL n less), .val (.int (n : Int)), .own ((List.range i).map fun i => vT n (barT n T y less a i)), .val (.int (i : Int)), w, .un, .un]) (n := n) (e := fun j => .int (T i j)) (fun j => .int (T i j)) (fun j hj => by simp)
      obtain ⟨out, q1, q2, q3⟩ := sumif_is (asg := aName 9) (tst := c2 neD (eV 9) (eV 2)) (elt := (e2 mulD (e2 ixD (e2 ixD (eV 0) (eV 6)) (eV 9)) (e2 ixD (eV 1) (eV 9))))
        (ρ := [.val (mT n T), .val (vL n y), .val (.int (a : Int)), .val (vL n less), .val (.int (n : Int)), .own ((List.range i).map fun i => vT n (barT n T y less a i)), .val (.int (i : Int)), .own ((List.range n).map fun j => .int (T i j)), .un, .un]) n a (fun j => T i j * y j) (fun j hj => ⟨_, rfl, by simp [int_beq], by simp [atI_rg hi, atI_rg hj, (hT i j hi hj).mulD (hy j hj)]⟩)
      have hso := small_of (n := out.length) (by omega)
      refine ⟨[.val (mT n T), .val (vL n y), .val (.int (a : Int)), .val (vL n less), .val (.int (n : Int)), .own ((List.range (i + 1)).map fun i => vT n (barT n T y less a i)), .val (.int (i : Int)), .own ((List.range n).map fun j => .int (barT n T y less a i j)), .un, .un], ?_, _, _, rfl⟩
      have er : (List.range n).map (fun j => if j = a then D.int (- less i - sm n (fun j => if j = a then 0 else T i j * y j)) else D.int (T i j)) = (List.range n).map fun j => .int (barT n T y less a i j) := List.map_congr_left fun j _ => by
        unfold barT
        split <;> rfl
      simp [okW, wipeR, atI_rg hi, k1, hs, sSetI, hix, hr, q1, hso, q3, set_rg, er, sApp, eBor, frzAll, hs2, List.range_succ, flat_v])
  unfold m__law_bar_column b__law_bar_column
  simp [okW, wipeR, hr, h3, frzAt]
theorem bar_row {n a : Nat} {T : Tb} {y less : Vk} (ha : a < n) (hya : y a = 1) (i : Nat) : rowS n (barT n T y less a) y i = - less i := by
  have e : rowS n (barT n T y less a) y i = sm n (fun j => if j = a then 0 else T i j * y j) + sm n (fun j => if j = a then barT n T y less a i j * y j else 0) := by
    rw [← Dt.sm_add]
    refine Dt.sm_congr n fun j _ => ?_
    by_cases e : j = a <;> simp [e, barT]
  rw [e, Dt.sm_one (f := fun j => if j = a then barT n T y less a i j * y j else 0) (k := a) n ha fun j _ hne => if_neg hne]
  simp [hya, barT]
  omega
def sumT (n : Nat) (f sk : Vk) (m : Int) : Tb := fun i j => f i * f j + f (n + i) * f (n + j) + ((if i < j then sk (i * n + j) else 0) - (if j < i then sk (j * n + i) else 0)) + (if i = j then m else 0)
theorem sumT_psd (n : Nat) (f sk : Vk) (m : Int) : Psd n m (sumT n f sk m) :=
  psd_sum (f := f) (g := fun i => f (n + i)) (S := fun i j => (if i < j then sk (i * n + j) else 0) - (if j < i then sk (j * n + i) else 0)) (fun i j _ _ => by
    show (_ - _ : Int) = - (_ - _)
    omega) fun i j _ _ => rfl
end Law

set_option Elab.async false
set_option linter.all false
set_option maxRecDepth 100000
set_option exponentiation.threshold 10000
namespace Law
open PySem PySem.Spec PyProof.Rows L2 PF
open Dt (sm)
open Kp
theorem ij_lt {n i j : Nat} (hi : i < n) (hj : j < n) : i * n + j < n * n := by
  have := Nat.mul_le_mul_right n (by omega : i + 1 ≤ n)
  rw [Nat.add_mul] at this
  omega
theorem castm (i n j : Nat) : ((i : Nat) : Int) * (n : Int) + (j : Int) = ((i * n + j : Nat) : Int) := by omega
theorem casta (n j : Nat) : (n : Int) + (j : Int) = ((n + j : Nat) : Int) := by omega
set_option maxHeartbeats 4000000 in
theorem summed_is {n : Nat} {f sk : Vk} {m : Int} (h1 : 1 ≤ n) (h2 : n ≤ 10) (hf : ∀ i, i < 2 * n → Sz (f i)) : m__law_summed [vL (2 * n) f, vL (n * n) sk, .int (n : Int), .int m] = .ok (mT n (sumT n f sk m)) := by
  have hr := range1_nat (n := n) (by omega)
  rw [rg_eq] at hr
  obtain ⟨ρ, h3, x, y, z, w, rfl⟩ := forL_idx (asg := aName 5) (f := (sSeq (sSetN 6 (nLst lNil))
     (sSeq (sFor (iCall rangeD1 (lCons (eV 2) lNil)) (aName 7)
     (sSeq (sSet 8 (e2 addD (e2 mulD (e2 ixD (eV 0) (eV 5)) (e2 ixD (eV 0) (eV 7))) (e2 mulD (e2 ixD (eV 0) (e2 addD (eV 2) (eV 5))) (e2 ixD (eV 0) (e2 addD (eV 2) (eV 7))))))
     (sSeq (sIf (c2 (cmpD fun i j => decide (i < j)) (eV 5) (eV 7))
     (sSet 8 (e2 addD (eV 8) (e2 ixD (eV 1) (e2 addD (e2 mulD (eV 5) (eV 2)) (eV 7)))))
     sNil)
     (sSeq (sIf (c2 (cmpD fun i j => decide (i < j)) (eV 7) (eV 5))
     (sSet 8 (e2 subD (eV 8) (e2 ixD (eV 1) (e2 addD (e2 mulD (eV 7) (eV 2)) (eV 5)))))
     sNil)
     (sSeq (sIf (c2 eqD (eV 5) (eV 7))
     (sSet 8 (e2 addD (eV 8) (eV 3)))
     sNil)
     (sApp 6 (eV 8)))))))
     (sApp 4 (eBor (eC tupleD (lCons (eV 6) lNil)))))))
    (fun i ρ => ∃ (x y z w : Sl), ρ = [.val (vL (2 * n) f), .val (vL (n * n) sk), .val (.int (n : Int)), .val (.int m), .own ((List.range i).map fun i => vT n (sumT n f sk m i)), x, y, z, w])
    ((List.range n).map fun (i : Nat) => .int (i : Int)) [.val (vL (2 * n) f), .val (vL (n * n) sk), .val (.int (n : Int)), .val (.int m), .own [], .un, .un, .un, .un] ⟨_, _, _, _, rfl⟩ (by
      rintro i hi _ ⟨x, y, z, w, rfl⟩
      have hi : i < n := by simpa using hi
      have hs2 := small_of (n := i + 1) (by omega)
      obtain ⟨ρ, h4, z, w, rfl⟩ := forL_idx (asg := aName 7) (f := (sSeq (sSet 8 (e2 addD (e2 mulD (e2 ixD (eV 0) (eV 5)) (e2 ixD (eV 0) (eV 7))) (e2 mulD (e2 ixD (eV 0) (e2 addD (eV 2) (eV 5))) (e2 ixD (eV 0) (e2 addD (eV 2) (eV 7))))))
         (sSeq (sIf (c2 (cmpD fun i j => decide (i < j)) (eV 5) (eV 7))
         (sSet 8 (e2 addD (eV 8) (e2 ixD (eV 1) (e2 addD (e2 mulD (eV 5) (eV 2)) (eV 7)))))
         sNil)
         (sSeq (sIf (c2 (cmpD fun i j => decide (i < j)) (eV 7) (eV 5))
         (sSet 8 (e2 subD (eV 8) (e2 ixD (eV 1) (e2 addD (e2 mulD (eV 7) (eV 2)) (eV 5)))))
         sNil)
         (sSeq (sIf (c2 eqD (eV 5) (eV 7))
         (sSet 8 (e2 addD (eV 8) (eV 3)))
         sNil)
         (sApp 6 (eV 8)))))))
        (fun j ρ => ∃ (z w : Sl), ρ = [.val (vL (2 * n) f), .val (vL (n * n) sk), .val (.int (n : Int)), .val (.int m), .own ((List.range i).map fun i => vT n (sumT n f sk m i)), .val (.int (i : Int)), .own ((List.range j).map fun j => .int (sumT n f sk m i j)), z, w])
        ((List.range n).map fun (i : Nat) => .int (i : Int)) [.val (vL (2 * n) f), .val (vL (n * n) sk), .val (.int (n : Int)), .val (.int m), .own ((List.range i).map fun i => vT n (sumT n f sk m i)), .val (.int (i : Int)), .own [], z, w] ⟨_, _, rfl⟩ (by
          rintro j hj _ ⟨z, w, rfl⟩
          have hj : j < n := by simpa using hj
          have hs3 := small_of (n := j + 1) (by omega)
          refine ⟨[.val (vL (2 * n) f), .val (vL (n * n) sk), .val (.int (n : Int)), .val (.int m), .own ((List.range i).map fun i => vT n (sumT n f sk m i)), .val (.int (i : Int)), .own ((List.range (j + 1)).map fun j => .int (sumT n f sk m i j)), .val (.int (j : Int)), .val (.int (sumT n f sk m i j))], ?_, _, _, rfl⟩
          have x1 := atI_rg (n := 2 * n) (k := i) (f := fun i => D.int (f i)) (by omega)
          have x2 := atI_rg (n := 2 * n) (k := j) (f := fun i => D.int (f i)) (by omega)
          have x3 := atI_rg (n := 2 * n) (k := n + i) (f := fun i => D.int (f i)) (by omega)
          have x4 := atI_rg (n := 2 * n) (k := n + j) (f := fun i => D.int (f i)) (by omega)
          have x5 := atI_rg (n := n * n) (k := i * n + j) (f := fun i => D.int (sk i)) (ij_lt hi hj)
          have x6 := atI_rg (n := n * n) (k := j * n + i) (f := fun i => D.int (sk i)) (ij_lt hj hi)
          rw [← casta] at x3 x4
          rw [← castm] at x5 x6
          have m1 := (hf i (by omega)).mulD (hf j (by omega))
          have m2 := (hf (n + i) (by omega)).mulD (hf (n + j) (by omega))
          have m3 := mulD_k (i : Int) (j := (n : Int)) (by omega) (by omega)
          have m4 := mulD_k (j : Int) (j := (n : Int)) (by omega) (by omega)
          rcases Nat.lt_trichotomy i j with c | c | c
          · have c1 : (i : Int) < (j : Int) := by omega
            have c2 : ¬ (j : Int) < (i : Int) := by omega
            have c3 : ¬ j < i := by omega
            have c4 : ¬ i = j := by omega
            have c5 : ¬ (i : Int) = (j : Int) := by omega
            simp [x1, x2, m1, x3, x4, m2, c1, c2, m3, x5, c, c3, c4, c5, sApp, hs3, sumT, List.range_succ]
          · subst c
            simp [x1, m1, x3, m2, sApp, hs3, sumT, List.range_succ]
          · have c1 : ¬ (i : Int) < (j : Int) := by omega
            have c2 : (j : Int) < (i : Int) := by omega
            have c3 : ¬ i < j := by omega
            have c4 : ¬ i = j := by omega
            have c5 : ¬ (i : Int) = (j : Int) := by omega
            simp [x1, x2, m1, x3, x4, m2, c1, c2, m4, x6, c, c3, c4, c5, sApp, hs3, sumT, List.range_succ]
            all_goals omega)
      have h4 := h4
      simp only [List.length_map, List.length_range] at h4 ⊢
      refine ⟨[.val (vL (2 * n) f), .val (vL (n * n) sk), .val (.int (n : Int)), .val (.int m), .own ((List.range (i + 1)).map fun i => vT n (sumT n f sk m i)), .val (.int (i : Int)), .own ((List.range n).map fun j => .int (sumT n f sk m i j)), z, w], ?_, _, _, _, _, rfl⟩
      simp [hr, h4, sApp, eBor, frzAll, hs2, List.range_succ, flat_v])
  unfold m__law_summed b__law_summed
  simp [hr, h3, frzAt]
end Law

set_option Elab.async false
set_option linter.all false
set_option maxRecDepth 100000
set_option exponentiation.threshold 10000
namespace Law
open PySem PySem.Spec PyProof.Rows L2 PF
open Dt (sm)
open Kp
theorem base_is (k : Int) : ∃ b : Int, atI [D.int 9, .int 3, .int 1000001, .int 1000000000000] (k.fmod 4) = some (.int b) ∧ 0 < b ∧ b ≤ 1000000000000 := by
  have h := fmod_rng k (j := 4) (by omega)
  generalize k.fmod 4 = r at *
  have : r = 0 ∨ r = 1 ∨ r = 2 ∨ r = 3 := by omega
  rcases this with rfl | rfl | rfl | rfl
  · exact ⟨9, rfl, by omega, by omega⟩
  · exact ⟨3, rfl, by omega, by omega⟩
  · exact ⟨1000001, rfl, by omega, by omega⟩
  · exact ⟨1000000000000, rfl, by omega, by omega⟩
theorem eSl_s (a : EE) (lo hi : EO) (ρ : Rho) : eSl a lo hi ρ = (a ρ >>= fun d => lo ρ >>= fun l => hi ρ >>= fun u => orS (sliceD d l u)) := Eq.trans rfl rfl
theorem oSome_s (a : EE) (ρ : Rho) : oSome a ρ = (a ρ >>= fun d => match d with | .int i => .ok (some i) | _ => .error none) := Eq.trans rfl rfl
theorem slice_l (ds : List D) (l u : Option Int) : sliceD (.lst ds) l u = some (.lst (PF.cutD ds l u)) := Eq.trans rfl rfl
theorem mulD_rep {x : D} {n : Nat} (h : n ≤ 1000) : PF.mulD (.lst [x]) (.int (n : Int)) = some (.lst ((List.range n).map fun _ => x)) := by
  have h1 : (decide (0 ≤ (n : Int)) && small (([x] : List D).length * (n : Int).toNat) && small (n : Int).toNat) = true := by
    rw [Int.toNat_natCast, small_of (by simp; omega), small_of (by omega)]
    simp
  have h2 : ((List.range n).map fun _ => x) = List.replicate n x := by
    apply List.ext_getElem (by simp)
    intro i a b
    simp
  rw [PF.mulD, if_pos h1, h2, Int.toNat_natCast, flat_rep]
theorem map_ite {n : Nat} (p : Nat → Prop) [DecidablePred p] (f g : Vk) : (List.range n).map (fun i => if p i then D.int (f i) else D.int (g i)) = (List.range n).map fun i => .int (if p i then f i else g i) := List.map_congr_left fun i _ => by split <;> rfl
structure Pre (n : Nat) (T : Tb) (u le nu : Vk) (a : Nat) : Prop where
  an : a < n
  ua : u a = 1
  ub : ∀ i, i < n → 0 ≤ u i ∧ u i ≤ 3
  lb : ∀ i, i < n → 0 ≤ le i ∧ le i ≤ 2
  nb : ∀ i, i < n * n → (nu i).natAbs ≤ 1000000000000
  te : ∀ i j, i < n → j < n → T i j = nu (i * n + j)
theorem built_pre (ns : List Int) {n : Nat} (h1 : 1 ≤ n) (h2 : n ≤ 6) : ∃ (T : Tb) (u le nu : Vk) (a : Nat) (k b : Int), Pre n T u le nu a ∧ ∀ F : ES,
    (sSeq (sSet 2 (eC PF.intD (lCons (eCall 2 m__law_cell (lCons (eV 0) (lCons (eK (.int 1)) lNil))) lNil)))
     (sSeq (sSet 3 (e2 modD (eV 2) (eK (.int 7))))
     (sSeq (sSet 4 (e2 ixD (eNew (nLst (lCons (eK (.int 9)) (lCons (eK (.int 3)) (lCons (eK (.int 1000001)) (lCons (e2 powD (eK (.int 10)) (eK (.int 12))) lNil)))))) (e2 modD (e2 divD (eV 2) (eK (.int 7))) (eK (.int 4)))))
     (sSeq (sSet 5 (eNew (nComp (iSeq (eCall 3 m__law_numbers (lCons (eCall 2 m__law_cell (lCons (eV 0) (lCons (eK (.int 2)) lNil))) (lCons (e2 mulD (eV 1) (eV 1)) (lCons (eV 4) lNil))))) (aName 13) tTrue (e2 subD (eV 13) (e2 divD (eV 4) (eK (.int 2)))) [13])))
     (sSeq (sSet 6 (eC tupleD (lCons (eNew (nComp (iCall rangeD1 (lCons (eV 1) lNil)) (aName 14) tTrue (eC tupleD (lCons (eSl (eV 5) (oSome (e2 mulD (eV 14) (eV 1))) (oSome (e2 addD (e2 mulD (eV 14) (eV 1)) (eV 1)))) lNil)) [14])) lNil)))
     (sSeq (sSetN 7 (nCall 3 n__law_numbers (lCons (eCall 2 m__law_cell (lCons (eV 0) (lCons (eK (.int 3)) lNil))) (lCons (eV 1) (lCons (eK (.int 4)) lNil)))))
     (sSeq (sSet 8 (eCall 3 m__law_numbers (lCons (eCall 2 m__law_cell (lCons (eV 0) (lCons (eK (.int 4)) lNil))) (lCons (eV 1) (lCons (eK (.int 3)) lNil)))))
     (sSeq (sSet 9 (e2 modD (eC PF.intD (lCons (eCall 2 m__law_cell (lCons (eV 0) (lCons (eK (.int 5)) lNil))) lNil)) (eV 1)))
     (sSeq (sSetI 7 (eV 9) (eK (.int 1)))
     (sFrz 7 F))))))))))
    [.val (.klst (ns.map D.int)), .val (.int (n : Int)), .un, .un, .un, .un, .un, .un, .un, .un, .un, .un, .un, .un, .un] =
    F [.val (.klst (ns.map D.int)), .val (.int (n : Int)), .val (.int k), .val (.int (k.fmod 7)), .val (.int b), .val (vL (n * n) nu), .val (mT n T), .val (vL n u), .val (vL n le), .val (.int (a : Int)), .un, .un, .un, .un, .un] := by
  have hs := small_of (n := n) (by omega)
  have hnn : n * n ≤ 36 := Nat.mul_le_mul h2 h2
  have hsn := small_of (n := n * n) (by omega)
  have hr := range1_nat (n := n) (by omega)
  rw [rg_eq] at hr
  obtain ⟨b, hb, hb1, hb2⟩ := base_is ((cellZ ns 1).fdiv 7)
  obtain ⟨f, hf, _, hfb⟩ := numf_is (cellZ ns 2) (n * n) b (by omega) hb1 (by omega)
  obtain ⟨w, _, hw, hwb⟩ := numf_is (cellZ ns 3) n 4 (by omega) (by omega) (by omega)
  obtain ⟨le, hl, _, hlb⟩ := numf_is (cellZ ns 4) n 3 (by omega) (by omega) (by omega)
  obtain ⟨a, ha, han⟩ : ∃ a : Nat, (cellZ ns 5).fmod n = a ∧ a < n := by
    have := fmod_rng (cellZ ns 5) (j := (n : Int)) (by omega)
    exact ⟨((cellZ ns 5).fmod n).toNat, by omega, by omega⟩
  have hc : ∀ k : Int, 0 ≤ k → m__law_cell [.klst (ns.map D.int), .int k] = .ok (.int (cellZ ns k)) := fun k hk => cell_is ns k hk
  push_cast at hf
  have hmn := mulD_k (n : Int) (j := (n : Int)) (by omega) (by omega)
  have hn0 : (n : Int) ≠ 0 := by omega
  have hix := ixN_nat (n := n) (k := a) han
  have hmod : modD (.int (cellZ ns 5)) (.int (n : Int)) = some (.int (a : Int)) := by rw [modD_of hn0, ha]
  refine ⟨fun i j => f (i * n + j) - b.fdiv 2, fun i => if i = a then 1 else w i, le, fun i => f i - b.fdiv 2, a, cellZ ns 1, b, ⟨han, if_pos rfl, fun i hi => ?_, fun i hi => ?_, fun i hi => ?_, fun i j _ _ => rfl⟩, fun F => ?_⟩
  · show 0 ≤ (if i = a then 1 else w i) ∧ (if i = a then 1 else w i) ≤ 3
    have := hwb i hi
    split <;> omega
  · have := hlb i hi
    omega
  · have := hfb i hi
    have h3 : 0 ≤ b.fdiv 2 ∧ b.fdiv 2 ≤ b := by
      rw [Int.fdiv_eq_ediv_of_nonneg _ (by omega)]
      omega
    show (f i - b.fdiv 2).natAbs ≤ _
    omega
  · have k1 := fun σ => compL_rg (asg := aName 13) (elt := (e2 subD (eV 13) (e2 divD (eV 4) (eK (.int 2))))) (ρ := [.val (.klst (ns.map D.int)), .val (.int (n : Int)), .val (.int (cellZ ns 1)), σ, .val (.int b), .un, .un, .un, .un, .un, .un, .un, .un, .un, .un]) (n := n * n) (e := fun i => .int (f i)) (fun i => .int (f i - b.fdiv 2)) (fun i hi => by simp [divD_c])
    have k2 := fun σ => compL_rg (asg := aName 14) (elt := (eC tupleD (lCons (eSl (eV 5) (oSome (e2 mulD (eV 14) (eV 1))) (oSome (e2 addD (e2 mulD (eV 14) (eV 1)) (eV 1)))) lNil))) (ρ := [.val (.klst (ns.map D.int)), .val (.int (n : Int)), .val (.int (cellZ ns 1)), σ, .val (.int b), .val (vL (n * n) fun i => f i - b.fdiv 2), .un, .un, .un, .un, .un, .un, .un, .un, .un]) (n := n) (e := fun (i : Nat) => .int (i : Int)) (fun i => vT n fun j => f (i * n + j) - b.fdiv 2) (fun i hi => by
      have hb : i * n + n ≤ n * n := by
        have := Nat.mul_le_mul_right n (by omega : i + 1 ≤ n)
        rw [Nat.add_mul] at this
        omega
      have hcut := cut_rg (n * n) (i * n) (i * n + n) (fun i => D.int (f i - b.fdiv 2)) (by omega) hb
      rw [Nat.add_sub_cancel_left] at hcut
      push_cast at hcut
      have hm := mulD_k (i : Int) (j := (n : Int)) (by omega) (by omega)
      simp [eSl_s, oSome_s, slice_l, hm, hcut])
    have hc1 := hc 1 (by omega)
    have hc2 := hc 2 (by omega)
    have hc3 := hc 3 (by omega)
    have hc4 := hc 4 (by omega)
    have hc5 := hc 5 (by omega)
    simp [hc1, hc2, hc3, hc4, hc5, modD_of, divD_c, hb, hmn, hf, okW, wipeR, k1, hsn, hr, k2, hs, hw, hl, hmod, sSetI, hix, set_rg, frzAt, map_ite]
end Law

set_option Elab.async false
set_option linter.all false
set_option maxRecDepth 100000
set_option exponentiation.threshold 10000
namespace Law
open PySem PySem.Spec PyProof.Rows L2 PF
open Dt (sm)
open Kp
def TB (n : Nat) (T : Tb) : Prop := ∀ i j, i < n → j < n → (T i j).natAbs ≤ 2 ^ 90
def BltOk (n : Nat) (T : Tb) (S W : D) (kept : Bool) : Prop := TB n T ∧ SOk n T S ∧ WOk n T W ∧ (kept = true → (S = .str "" ∨ (S = .str "paper" ∧ Psd n 1 T)) ∧ W = .str "paper" ∧ Psd n 0 T)
def tailB : ES := (sSeq (sIf (c2 eqD (eV 3) (eK (.int 1)))
 (sRet (eTup (lCons (eCall 4 m__law_paper_row (lCons (eV 6) (lCons (eV 7) (lCons (eV 9) (lCons (eV 8) lNil))))) (lCons (eK (.str "paper")) (lCons (eK (.str "paper")) (lCons (eK (.bl false)) lNil))))))
 sNil)
 (sSeq (sIf (tOr' (c2 eqD (eV 3) (eK (.int 2))) (c2 eqD (eV 3) (eK (.int 3))))
 (sSeq (sIf (c2 eqD (eV 3) (eK (.int 3)))
 (sSet 8 (eNew (nComp (iCall rangeD1 (lCons (eV 1) lNil)) (aName 14) tTrue (eIf (c2 eqD (e2 ixD (eV 7) (eV 14)) (eK (.int 0))) (e2 ixD (eV 8) (eV 14)) (eK (.int 0))) [14])))
 sNil)
 (sSeq (sSet 10 (eIf (tTru (eC anyD (lCons (eNew (nComp (iCall rangeD1 (lCons (eV 1) lNil)) (aName 14) tTrue (eAnd (eC2 (cmpD fun i j => decide (j < i)) (e2 ixD (eV 7) (eV 14)) (eK (.int 0))) (eC2 (cmpD fun i j => decide (j < i)) (e2 ixD (eV 8) (eV 14)) (eK (.int 0)))) [14])) lNil))) (eK (.str "row")) (eK (.str ""))))
 (sRet (eTup (lCons (eCall 4 m__law_bar_column (lCons (eV 6) (lCons (eV 7) (lCons (eV 9) (lCons (eV 8) lNil))))) (lCons (eK (.str "row")) (lCons (eV 10) (lCons (eK (.bl false)) lNil))))))))
 sNil)
 (sSeq (sIf (c2 (cmpD fun i j => decide (j ≤ i)) (eV 3) (eK (.int 4)))
 (sSeq (sSet 11 (eNew (nComp (iSeq (eCall 3 m__law_numbers (lCons (eCall 2 m__law_cell (lCons (eV 0) (lCons (eK (.int 6)) lNil))) (lCons (e2 mulD (eK (.int 2)) (eV 1)) (lCons (eK (.int 9)) lNil))))) (aName 13) tTrue (e2 subD (eV 13) (eK (.int 4))) [13])))
 (sSeq (sIf (c2 eqD (eV 3) (eK (.int 6)))
 (sSet 11 (e2 mulD (eNew (nLst (lCons (eK (.int 0)) lNil))) (e2 mulD (eK (.int 2)) (eV 1))))
 sNil)
 (sSeq (sSet 12 (eCall 4 m__law_summed (lCons (eV 11) (lCons (eV 5) (lCons (eV 1) (lCons (eC intD (lCons (eC2 eqD (eV 3) (eK (.int 5))) lNil)) lNil))))))
 (sRet (eTup (lCons (eV 12) (lCons (eIf (c2 eqD (eV 3) (eK (.int 5))) (eK (.str "paper")) (eK (.str ""))) (lCons (eK (.str "paper")) (lCons (eK (.bl true)) lNil)))))))))
 sNil)
 (sRet (eTup (lCons (eV 6) (lCons (eK (.str "")) (lCons (eK (.str "")) (lCons (eK (.bl false)) lNil)))))))))
theorem Sz_3 {x : Int} (h : x.natAbs ≤ 100) : Sz x := Sz_100 (Nat.le_trans h (by decide))
theorem mul_b {x y : Int} {a b : Nat} (h1 : x.natAbs ≤ a) (h2 : y.natAbs ≤ b) : (x * y).natAbs ≤ a * b := by
  rw [Int.natAbs_mul]
  exact Nat.mul_le_mul h1 h2
section
variable {n a : Nat} {T : Tb} {u le nu : Vk}
theorem Pre.tb (P : Pre n T u le nu a) : ∀ i j, i < n → j < n → (T i j).natAbs ≤ 1000000000000 := fun i j hi hj => by rw [P.te i j hi hj]; exact P.nb _ (ij_lt hi hj)
theorem Pre.tsz (P : Pre n T u le nu a) : ∀ i j, i < n → j < n → Sz (T i j) := fun i j hi hj => Sz_100 (Nat.le_trans (P.tb i j hi hj) (by decide))
theorem Pre.usz (P : Pre n T u le nu a) : ∀ i, i < n → Sz (u i) := fun i hi => Sz_3 (by have := P.ub i hi; omega)
theorem paperT_b (h2 : n ≤ 6) (P : Pre n T u le nu a) : TB n (paperT n T u le a) := fun i j hi hj => by
  unfold paperT
  have hc : (1000000000000 : Nat) ≤ 2 ^ 90 := by decide
  have hc2 : (100000000000000 : Nat) ≤ 2 ^ 90 := by decide
  split
  · have h := sm_abs (f := fun i => if i = a then 0 else u i * T i j) (M := 3 * 1000000000000) n fun k hk => by
      show (if k = a then 0 else u k * T k j).natAbs ≤ _
      split
      · simp
      · exact mul_b (by have := P.ub k hk; omega) (P.tb k j hk hj)
    have h3 : n * (3 * 1000000000000) ≤ 6 * (3 * 1000000000000) := Nat.mul_le_mul_right _ h2
    have := P.lb j hj
    omega
  · exact Nat.le_trans (P.tb i j hi hj) hc
theorem barT_b {le : Vk} (h2 : n ≤ 6) (P : Pre n T u le0 nu a) (hl : ∀ i, i < n → 0 ≤ le i ∧ le i ≤ 2) : TB n (barT n T u le a) := fun i j hi hj => by
  unfold barT
  have hc : (1000000000000 : Nat) ≤ 2 ^ 90 := by decide
  have hc2 : (100000000000000 : Nat) ≤ 2 ^ 90 := by decide
  split
  · have h := sm_abs (f := fun j => if j = a then 0 else T i j * u j) (M := 1000000000000 * 3) n fun k hk => by
      show (if k = a then 0 else T i k * u k).natAbs ≤ _
      split
      · simp
      · exact mul_b (P.tb i k hi hk) (by have := P.ub k hk; omega)
    have h3 : n * (1000000000000 * 3) ≤ 6 * (1000000000000 * 3) := Nat.mul_le_mul_right _ h2
    have := hl i hi
    omega
  · exact Nat.le_trans (P.tb i j hi hj) hc
theorem sumT_b {f : Vk} {m : Int} (P : Pre n T u le nu a) (hf : ∀ i, i < 2 * n → (f i).natAbs ≤ 4) (hm : m.natAbs ≤ 1) : TB n (sumT n f nu m) := fun i j hi hj => by
  unfold sumT
  have hc2 : (100000000000000 : Nat) ≤ 2 ^ 90 := by decide
  have h1 := mul_b (hf i (by omega)) (hf j (by omega))
  have h2 := mul_b (hf (n + i) (by omega)) (hf (n + j) (by omega))
  have h3 := P.nb _ (ij_lt hi hj)
  have h4 := P.nb _ (ij_lt hj hi)
  split <;> split <;> split <;> omega
theorem tail_is (ns : List Int) {k b : Int} (h1 : 1 ≤ n) (h2 : n ≤ 6) (P : Pre n T u le nu a) : ∃ (T' : Tb) (S W : D) (kept : Bool) (ρ' : Rho),
    tailB [.val (.klst (ns.map D.int)), .val (.int (n : Int)), .val (.int k), .val (.int (k.fmod 7)), .val (.int b), .val (vL (n * n) nu), .val (mT n T), .val (vL n u), .val (vL n le), .val (.int (a : Int)), .un, .un, .un, .un, .un] = .ok (.rt (.tup [mT n T', S, W, .bl kept]), ρ') ∧ BltOk n T' S W kept := by
  have hs := small_of (n := n) (by omega)
  have hr := range1_nat (n := n) (by omega)
  rw [rg_eq] at hr
  have hk := fmod_rng k (j := 7) (by omega)
  generalize k.fmod 7 = q at *
  by_cases c1 : q = 1
  · subst c1
    have hp := paper_row_is h1 (by omega) P.an P.tsz P.usz (less := le)
    have pp := paper_pap (T := T) (less := le) P.an P.ua (fun i hi => (P.ub i hi).1) (fun i hi => (P.lb i hi).1)
    refine ⟨paperT n T u le a, .str "paper", .str "paper", false, _, by unfold tailB; simp [hp]; rfl, paperT_b h2 P, .inr (.inl ⟨rfl, fun y r => no11 pp r⟩), .inr (.inl ⟨rfl, fun y r => no11 pp r.row1⟩), fun h => by cases h⟩
  by_cases c2' : q = 2 ∨ q = 3
  · obtain ⟨le', hle', hlb, ht⟩ : ∃ le' : Vk, (∀ i, i < n → 0 ≤ le' i ∧ le' i ≤ 2) ∧ (∀ i, i < n → Sz (le' i)) ∧ (sIf (c2 eqD (eV 3) (eK (.int 3)))
        (sSet 8 (eNew (nComp (iCall rangeD1 (lCons (eV 1) lNil)) (aName 14) tTrue (eIf (c2 eqD (e2 ixD (eV 7) (eV 14)) (eK (.int 0))) (e2 ixD (eV 8) (eV 14)) (eK (.int 0))) [14]))) sNil)
        [.val (.klst (ns.map D.int)), .val (.int (n : Int)), .val (.int k), .val (.int q), .val (.int b), .val (vL (n * n) nu), .val (mT n T), .val (vL n u), .val (vL n le), .val (.int (a : Int)), .un, .un, .un, .un, .un] =
        .ok (.nx, [.val (.klst (ns.map D.int)), .val (.int (n : Int)), .val (.int k), .val (.int q), .val (.int b), .val (vL (n * n) nu), .val (mT n T), .val (vL n u), .val (vL n le'), .val (.int (a : Int)), .un, .un, .un, .un, .un]) := by
      have hsz : ∀ x : Int, 0 ≤ x ∧ x ≤ 2 → Sz x := fun x hx => Sz_3 (by omega)
      by_cases c3 : q = 3
      · subst c3
        have hb : ∀ i, i < n → 0 ≤ (if u i = 0 then le i else 0) ∧ (if u i = 0 then le i else 0) ≤ 2 := fun i hi => by have := P.lb i hi; split <;> omega
        refine ⟨fun i => if u i = 0 then le i else 0, hb, fun i hi => hsz _ (hb i hi), ?_⟩
        simp [okW, wipeR, hr]
        rw [compL_rg (fun i => .int (if u i = 0 then le i else 0))]
        · simp [hs]
        · intro i hi
          by_cases e : u i = 0 <;> simp [atI_rg hi, e]
      · exact ⟨le, P.lb, fun i hi => hsz _ (P.lb i hi), by simp [c3]⟩
    have hp := bar_col_is h1 (by omega) P.an P.tsz P.usz (less := le')
    have pr := fun i => bar_row (T := T) (less := le') P.an P.ua i
    have r1 : Row1 n (barT n T u le' a) u := ⟨fun i hi => (P.ub i hi).1, ⟨a, P.an, by rw [P.ua]; decide⟩, fun i hi => by rw [pr]; have := hle' i hi; omega⟩
    have k1 := compL_rg (asg := aName 14) (elt := (eAnd (eC2 (cmpD fun i j => decide (j < i)) (e2 ixD (eV 7) (eV 14)) (eK (.int 0))) (eC2 (cmpD fun i j => decide (j < i)) (e2 ixD (eV 8) (eV 14)) (eK (.int 0)))))
      (ρ := [.val (.klst (ns.map D.int)), .val (.int (n : Int)), .val (.int k), .val (.int q), .val (.int b), .val (vL (n * n) nu), .val (mT n T), .val (vL n u), .val (vL n le'), .val (.int (a : Int)), .un, .un, .un, .un, .un]) (n := n) (e := fun (i : Nat) => .int (i : Int)) (fun i => .bl (decide (0 < u i) && decide (0 < le' i))) (fun i hi => by simp [atI_rg hi])
    have a1 := anyD_rg n fun i => decide (0 < u i) && decide (0 < le' i)
    have go : ∀ S : D, (if ((List.range n).any fun i => decide (0 < u i) && decide (0 < le' i)) = true then D.str "row" else D.str "") = S → ∃ ρ', tailB [.val (.klst (ns.map D.int)), .val (.int (n : Int)), .val (.int k), .val (.int q), .val (.int b), .val (vL (n * n) nu), .val (mT n T), .val (vL n u), .val (vL n le), .val (.int (a : Int)), .un, .un, .un, .un, .un] = .ok (.rt (.tup [mT n (barT n T u le' a), .str "row", S, .bl false]), ρ') := fun S hS => by
      refine ⟨[.val (.klst (ns.map D.int)), .val (.int (n : Int)), .val (.int k), .val (.int q), .val (.int b), .val (vL (n * n) nu), .val (mT n T), .val (vL n u), .val (vL n le'), .val (.int (a : Int)), .val S, .un, .un, .un, .un], ?_⟩
      have e2' : (tOr' (c2 eqD (eV 3) (eK (.int 2))) (c2 eqD (eV 3) (eK (.int 3)))) [.val (.klst (ns.map D.int)), .val (.int (n : Int)), .val (.int k), .val (.int q), .val (.int b), .val (vL (n * n) nu), .val (mT n T), .val (vL n u), .val (vL n le), .val (.int (a : Int)), .un, .un, .un, .un, .un] = .ok true := by
        rcases c2' with rfl | rfl <;> simp
      have e1' : (c2 eqD (eV 3) (eK (.int 1))) [.val (.klst (ns.map D.int)), .val (.int (n : Int)), .val (.int k), .val (.int q), .val (.int b), .val (vL (n * n) nu), .val (mT n T), .val (vL n u), .val (vL n le), .val (.int (a : Int)), .un, .un, .un, .un, .un] = .ok false := by
        simp [c1]
      unfold tailB
      rw [sSeq_s, sIf_s, e1']
      show ((sSeq _ _) _) = _
      rw [sSeq_s, sIf_s, e2']
      show ((sSeq _ _) _ >>= _) = _
      rw [sSeq_s, ht]
      subst hS
      cases hh : (List.range n).any fun i => decide (0 < u i) && decide (0 < le' i) <;> rw [hh] at a1 <;> simp [okW, wipeR, hr, k1, hs, a1, hp]
    cases hh : (List.range n).any fun i => decide (0 < u i) && decide (0 < le' i) with
    | true =>
      obtain ⟨ρ', hg⟩ := go (.str "row") (by rw [hh]; rfl)
      obtain ⟨i, hi, hii⟩ := any_rgE hh
      rw [Bool.and_eq_true, decide_eq_true_eq, decide_eq_true_eq] at hii
      have r2 : Row2 n (barT n T u le' a) u := ⟨r1.pos, r1.row, i, hi, by omega, by rw [pr]; omega⟩
      exact ⟨_, _, _, _, ρ', hg, barT_b h2 P hle', .inr (.inr ⟨rfl, fun v p => no11 p r1⟩), .inr (.inr ⟨rfl, fun v p => no22 p r2⟩), fun h => by cases h⟩
    | false =>
      obtain ⟨ρ', hg⟩ := go (.str "") (by rw [hh]; rfl)
      exact ⟨_, _, _, _, ρ', hg, barT_b h2 P hle', .inr (.inr ⟨rfl, fun v p => no11 p r1⟩), .inl rfl, fun h => by cases h⟩
  by_cases c4 : 4 ≤ q
  · obtain ⟨f, hf, _, hfb⟩ := numf_is (cellZ ns 6) (2 * n) 9 (by omega) (by omega) (by omega)
    have hc6 := cell_is ns 6 (by omega)
    have hs2 := small_of (n := 2 * n) (by omega)
    have hrep := mulD_rep (x := .int 0) (n := 2 * n) (by omega)
    have hm2 : PF.mulD (.int 2) (.int (n : Int)) = some (.int ((2 * n : Nat) : Int)) := by rw [mulD_k 2 (by omega) (by omega)]; push_cast; rfl
    have k1 := compL_rg (asg := aName 13) (elt := (e2 subD (eV 13) (eK (.int 4)))) (ρ := [.val (.klst (ns.map D.int)), .val (.int (n : Int)), .val (.int k), .val (.int q), .val (.int b), .val (vL (n * n) nu), .val (mT n T), .val (vL n u), .val (vL n le), .val (.int (a : Int)), .un, .un, .un, .un, .un]) (n := 2 * n) (e := fun i => .int (f i)) (fun i => .int (f i - 4)) (fun i hi => by simp)
    have d1 : ¬ (q = 2 ∨ q = 3) := c2'
    have d2 : ¬ q = 2 := fun h => d1 (.inl h)
    have d3 : ¬ q = 3 := fun h => d1 (.inr h)
    obtain ⟨g, hg, hgb⟩ : ∃ g : Vk, (if q = 6 then vL (2 * n) (fun _ => 0) else vL (2 * n) fun i => f i - 4) = vL (2 * n) g ∧ ∀ i, i < 2 * n → (g i).natAbs ≤ 4 := by
      by_cases c6 : q = 6
      · exact ⟨fun _ => 0, if_pos c6, fun i _ => by simp⟩
      · exact ⟨fun i => f i - 4, if_neg c6, fun i hi => by have := hfb i hi; show (f i - 4).natAbs ≤ 4; omega⟩
    have hgs : ∀ i, i < 2 * n → Sz (g i) := fun i hi => Sz_3 (by have := hgb i hi; omega)
    have hsum := fun m => summed_is (m := m) h1 (by omega : n ≤ 10) hgs (sk := nu)
    push_cast at hf
    by_cases c5 : q = 5
    · subst c5
      have hg : (vL (2 * n) fun i => f i - 4) = vL (2 * n) g := hg
      have hsum := hsum 1
      rw [← hg] at hsum
      have psd := sumT_psd n g nu 1
      refine ⟨sumT n g nu 1, .str "paper", .str "paper", true, _, by unfold tailB; simp [hc6, hm2, hf, okW, wipeR, k1, hs2, hsum]; rfl, sumT_b P hgb (by decide), .inr (.inl ⟨rfl, fun y r => no_row1 psd r⟩), .inr (.inl ⟨rfl, fun y r => no_row2 (psd.le (by decide)) r⟩), fun _ => ⟨.inr ⟨rfl, psd⟩, rfl, psd.le (by decide)⟩⟩
    · have hsum := hsum 0
      rw [← hg] at hsum
      have psd := sumT_psd n g nu 0
      refine ⟨sumT n g nu 0, .str "", .str "paper", true, [.val (.klst (ns.map D.int)), .val (.int (n : Int)), .val (.int k), .val (.int q), .val (.int b), .val (vL (n * n) nu), .val (mT n T), .val (vL n u), .val (vL n le), .val (.int (a : Int)), .un, .val (if q = 6 then vL (2 * n) (fun _ => 0) else vL (2 * n) fun i => f i - 4), .val (mT n (sumT n g nu 0)), .un, .un], ?_, sumT_b P hgb (by decide), .inl rfl, .inr (.inl ⟨rfl, fun y r => no_row2 psd r⟩), fun _ => ⟨.inl rfl, rfl, psd⟩⟩
      unfold tailB
      push_cast at hrep
      by_cases c6 : q = 6
      · rw [if_pos c6] at hsum ⊢
        subst c6
        simp [hc6, hm2, hf, okW, wipeR, k1, hs2, hrep, hsum]
      · rw [if_neg c6] at hsum ⊢
        simp [c1, d2, d3, c4, c5, c6, hc6, hm2, hf, okW, wipeR, k1, hs2, hsum]
  · have d2 : ¬ q = 2 := fun h => c2' (.inl h)
    have d3 : ¬ q = 3 := fun h => c2' (.inr h)
    refine ⟨T, .str "", .str "", false, _, by unfold tailB; simp [c1, d2, d3, c4]; rfl, fun i j hi hj => Nat.le_trans (P.tb i j hi hj) (by decide), .inl rfl, .inl rfl, fun h => by cases h⟩
end
theorem built_is (ns : List Int) {n : Nat} (h1 : 1 ≤ n) (h2 : n ≤ 6) : ∃ (T : Tb) (S W : D) (kept : Bool), m__law_built [.klst (ns.map D.int), .int (n : Int)] = .ok (.tup [mT n T, S, W, .bl kept]) ∧ BltOk n T S W kept := by
  obtain ⟨T, u, le, nu, a, k, b, P, hF⟩ := built_pre ns h1 h2
  obtain ⟨T', S, W, kept, ρ', ht, ho⟩ := tail_is ns (k := k) (b := b) h1 h2 P
  refine ⟨T', S, W, kept, ?_, ho⟩
  have := hF tailB
  rw [ht] at this
  unfold m__law_built b__law_built
  rw [dDef_s]
  exact (congrArg (· >>= _) this).trans rfl
end Law

set_option Elab.async false
set_option linter.all false
set_option maxRecDepth 100000
set_option exponentiation.threshold 10000
namespace Law
open PySem PySem.Spec PyProof.Rows L2 PF
open Dt (sm)
open Kp
theorem eq_paper_row : eqD (.str "paper") (.str "row") = some false := by decide +kernel
abbrev R30 (sc : D) (n : Nat) (tb S W : D) (kept : Bool) (m sg o t d x : Sl) : Rho := [.val sc, .val (.int (n : Int)), .val tb, .val S, .val W, .val (.bl kept), m, sg, o, t, d, x, .un, .un, .un, .un]
section
variable {sc S W tb : D} {n : Nat} {kept : Bool} {T : Tb} {m sg o t d x : Sl}
theorem judge_st {i : Nat} {Tq : Tb} (h1 : 1 ≤ n) (h2 : n ≤ 6) (hT : TB n Tq) (hS : SOk n Tq S) (hW : WOk n Tq W) (hi : (R30 sc n tb S W kept m sg o t d x)[i]? = some (.val (mT n Tq))) :
    (sIf (tNot' (tTru (eCall 3 m__law_judged (lCons (eV i) (lCons (eV 3) (lCons (eV 4) lNil)))))) (sRet (eK (.bl false))) sNil) (R30 sc n tb S W kept m sg o t d x) = .ok (.nx, R30 sc n tb S W kept m sg o t d x) := by
  have hj := judged_is h1 (by omega) hT hS hW
  simp [hi, hj]
theorem mirror_st (h1 : 1 ≤ n) (h2 : n ≤ 6) : (sSet 6 (eC tupleD (lCons (eNew (nComp (iCall rangeD1 (lCons (eV 1) lNil)) (aName 13) tTrue (eC tupleD (lCons (eNew (nComp (iCall rangeD1 (lCons (eV 1) lNil)) (aName 15) tTrue (e2 ixD (e2 ixD (eV 2) (eV 15)) (eV 13)) [15])) lNil)) [13])) lNil)))
    (R30 sc n (mT n T) S W kept .un .un .un .un .un .un) = .ok (.nx, R30 sc n (mT n T) S W kept (.val (mT n fun i j => T j i)) .un .un .un .un .un) := by
  have hs := small_of (n := n) (by omega)
  have hr := range1_nat (n := n) (by omega)
  rw [rg_eq] at hr
  simp [okW, wipeR, hr]
  rw [compL_rg (fun i => vT n fun j => T j i)]
  · simp [hs]
  · intro i hi
    simp [okW, wipeR, hr]
    rw [compL_rg (fun j => .int (T j i))]
    · simp [hs]
    · intro j hj
      simp [atI_rg hi, atI_rg hj]
theorem signs_st (ns : List Int) (h1 : 1 ≤ n) (h2 : n ≤ 6) : ∃ s : Vk, (∀ i, i < n → s i = 1 ∨ s i = -1) ∧ (sSet 7 (eNew (nComp (iSeq (eCall 3 m__law_numbers (lCons (eCall 2 m__law_cell (lCons (eV 0) (lCons (eK (.int 7)) lNil))) (lCons (eV 1) (lCons (eK (.int 2)) lNil))))) (aName 12) tTrue (e2 subD (eK (.int 1)) (e2 mulD (eK (.int 2)) (eV 12))) [12])))
    (R30 (.klst (ns.map D.int)) n tb S W kept m .un .un .un .un .un) = .ok (.nx, R30 (.klst (ns.map D.int)) n tb S W kept m (.val (vL n s)) .un .un .un .un) := by
  have hs := small_of (n := n) (by omega)
  obtain ⟨f, hf, _, hfb⟩ := numf_is (cellZ ns 7) n 2 (by omega) (by omega) (by omega)
  have hc := cell_is ns 7 (by omega)
  refine ⟨fun i => 1 - 2 * f i, fun i hi => by have := hfb i hi; show (1 - 2 * f i = 1 ∨ 1 - 2 * f i = -1); omega, ?_⟩
  simp [okW, wipeR, hc, hf]
  rw [compL_rg (fun i => .int (1 - 2 * f i))]
  · simp [hs]
  · intro i hi
    have := mulD_l (i := 2) (j := f i) (by omega)
    simp [this]
theorem other_st {s : Vk} (h1 : 1 ≤ n) (h2 : n ≤ 6) (hs1 : ∀ i, i < n → s i = 1 ∨ s i = -1) : (sSet 8 (eC tupleD (lCons (eNew (nComp (iCall rangeD1 (lCons (eV 1) lNil)) (aName 13) tTrue (eC tupleD (lCons (eNew (nComp (iCall rangeD1 (lCons (eV 1) lNil)) (aName 15) tTrue (e2 mulD (e2 mulD (e2 ixD (eV 7) (eV 13)) (e2 ixD (eV 7) (eV 15))) (e2 ixD (e2 ixD (eV 2) (eV 13)) (eV 15))) [15])) lNil)) [13])) lNil)))
    (R30 sc n (mT n T) S W kept m (.val (vL n s)) .un .un .un .un) = .ok (.nx, R30 sc n (mT n T) S W kept m (.val (vL n s)) (.val (mT n fun i j => s i * s j * T i j)) .un .un .un) := by
  have hs := small_of (n := n) (by omega)
  have hr := range1_nat (n := n) (by omega)
  rw [rg_eq] at hr
  simp [okW, wipeR, hr]
  rw [compL_rg (fun i => vT n fun j => s i * s j * T i j)]
  · simp [hs]
  · intro i hi
    simp [okW, wipeR, hr]
    rw [compL_rg (fun j => .int (s i * s j * T i j))]
    · simp [hs]
    · intro j hj
      have b1 := mulD_l (i := s i) (j := s j) (by have := hs1 i hi; omega)
      have b2 := mulD_l (i := s i * s j) (j := T i j) (by rcases hs1 i hi with h | h <;> rcases hs1 j hj with g | g <;> rw [h, g] <;> omega)
      simp [atI_rg hi, atI_rg hj, b1, b2]
theorem drawn_st (ns : List Int) (h1 : 1 ≤ n) (h2 : n ≤ 6) : ∃ y : Vk, (∀ i, i < n → (y i).natAbs ≤ 1000001) ∧ (sSet 10 (eC tupleD (lCons (eNew (nComp (iSeq (eCall 3 m__law_numbers (lCons (eCall 2 m__law_cell (lCons (eV 0) (lCons (eK (.int 8)) lNil))) (lCons (eV 1) (lCons (eK (.int 1000001)) lNil))))) (aName 12) tTrue (e2 subD (eV 12) (eK (.int 500000))) [12])) lNil)))
    (R30 (.klst (ns.map D.int)) n tb S W kept m sg o t .un x) = .ok (.nx, R30 (.klst (ns.map D.int)) n tb S W kept m sg o t (.val (vT n y)) x) := by
  have hs := small_of (n := n) (by omega)
  obtain ⟨f, hf, _, hfb⟩ := numf_is (cellZ ns 8) n 1000001 (by omega) (by omega) (by omega)
  have hc := cell_is ns 8 (by omega)
  refine ⟨fun i => f i - 500000, fun i hi => by have := hfb i hi; show (f i - 500000).natAbs ≤ 1000001; omega, ?_⟩
  simp [okW, wipeR, hc, hf]
  rw [compL_rg (fun i => .int (f i - 500000))]
  · simp [hs]
  · intro i hi
    simp
theorem last_st {y : Vk} (h1 : 1 ≤ n) (h2 : n ≤ 6) (hT : TB n T) (hy : ∀ i, i < n → (y i).natAbs ≤ 1000001) : (sRet (eAnd (eCall 2 m__law_turned (lCons (eV 2) (lCons (eV 10) lNil))) (eCall 2 m__law_turned (lCons (eV 6) (lCons (eC tupleD (lCons (eNew (nComp (iSeq (eV 10)) (aName 12) tTrue (e2 divD (eV 12) (eK (.int 100000))) [12])) lNil)) lNil)))))
    (R30 sc n (mT n T) S W kept (.val (mT n fun i j => T j i)) sg o t (.val (vT n y)) x) = .ok (.rt (.bl true), R30 sc n (mT n T) S W kept (.val (mT n fun i j => T j i)) sg o t (.val (vT n y)) x) := by
  have hs := small_of (n := n) (by omega)
  have hz : ∀ z : Int, z.natAbs ≤ 2000000 → Sz z := fun z hz => Sz_100 (Nat.le_trans hz (by decide))
  have ht1 := turned_is (n := n) (T := T) (x := y) (by omega) hT fun i hi => hz _ (by have := hy i hi; omega)
  have ht2 := turned_is (n := n) (T := fun i j => T j i) (x := fun i => (y i).fdiv 100000) (by omega) (fun i j hi hj => hT j i hj hi) fun i hi => hz _ (by
    have := hy i hi
    rw [Int.fdiv_eq_ediv_of_nonneg _ (by omega)]
    omega)
  have k1 := compL_rg (asg := aName 12) (elt := e2 divD (eV 12) (eK (.int 100000))) (ρ := R30 sc n (mT n T) S W kept (.val (mT n fun i j => T j i)) sg o t (.val (vT n y)) x) (n := n) (e := fun i => .int (y i)) (fun i => .int ((y i).fdiv 100000)) (fun i hi => by simp [divD_c])
  simp [okW, wipeR, ht1, k1, hs, ht2]
theorem told_st {s : Vk} (h1 : 1 ≤ n) (h2 : n ≤ 6) (hT : TB n T) (hs1 : ∀ i, i < n → s i = 1 ∨ s i = -1) : ∃ t' x' : Sl, (sSet 9 (eCall 1 m_strong_paper (lCons (eV 8) lNil))) (R30 sc n (mT n T) S W kept m (.val (vL n s)) (.val (mT n fun i j => s i * s j * T i j)) .un .un .un) = .ok (.nx, R30 sc n (mT n T) S W kept m (.val (vL n s)) (.val (mT n fun i j => s i * s j * T i j)) t' .un .un) ∧
    (sIf (c2 eqD (e2 ixD (eV 9) (eK (.int 0))) (eK (.str "row")))
     (sSeq (sSet 11 (eC tupleD (lCons (eNew (nComp (iCall zipMD (lCons (eV 7) (lCons (e2 ixD (eV 9) (eK (.int 1))) lNil))) (aTup (aCons (aName 12) (aCons (aName 14) aNil))) tTrue (e2 mulD (eV 12) (eV 14)) [12, 14])) lNil)))
     (sIf (tOr' (tNot' (tTru (eCall 2 m__law_turned (lCons (eV 2) (lCons (eV 11) lNil))))) (tTru (eC anyD (lCons (eNew (nComp (iCall zipMD (lCons (eV 11) (lCons (eCall 2 m__law_image (lCons (eV 2) (lCons (eV 11) lNil))) lNil))) (aTup (aCons (aName 12) (aCons (aName 14) aNil))) tTrue (eC2 (cmpD fun i j => decide (j < i)) (e2 mulD (eV 12) (eV 14)) (eK (.int 0))) [12, 14])) lNil))))
     (sRet (eK (.bl false)))
     sNil))
     sNil) (R30 sc n (mT n T) S W kept m (.val (vL n s)) (.val (mT n fun i j => s i * s j * T i j)) t' .un .un) = .ok (.nx, R30 sc n (mT n T) S W kept m (.val (vL n s)) (.val (mT n fun i j => s i * s j * T i j)) t' .un x') := by
  have hs := small_of (n := n) (by omega)
  have hb2 : TB n fun i j => s i * s j * T i j := fun i j hi hj => by
    have := hT i j hi hj
    show (s i * s j * T i j).natAbs ≤ _
    rcases hs1 i hi with h | h <;> rcases hs1 j hj with g | g <;> rw [h, g] <;> simp <;> exact this
  obtain ⟨r, hr, hr2⟩ := strong_is (n := n) h1 (by omega) hb2
  rcases hr2 with ⟨u, rfl, _, _⟩ | ⟨y, rfl, hy, r1⟩
  · exact ⟨.val (.tup [.str "paper", vT n u]), .un, by simp [hr], by simp [atI_0, eq_paper_row]⟩
  · have hxs : ∀ i, i < n → Sz (s i * y i) := fun i hi => by
      have := hy i hi
      rcases hs1 i hi with h | h <;> rw [h]
      · rwa [Int.one_mul]
      · rw [Int.neg_mul, Int.one_mul]; exact this.neg
    have ht := turned_is (n := n) (T := T) (x := fun i => s i * y i) (by omega) hT hxs
    have him := image_is (n := n) (T := T) (y := fun i => s i * y i) (by omega) (T_sz hT) hxs
    have hle : ∀ i, i < n → s i * y i * rowS n T (fun i => s i * y i) i ≤ 0 := fun i hi => by
      have e : s i * y i * rowS n T (fun i => s i * y i) i = y i * rowS n (fun i j => s i * s j * T i j) y i := by
        have : rowS n (fun i j => s i * s j * T i j) y i = s i * rowS n T (fun i => s i * y i) i := by
          unfold rowS
          rw [← Dt.sm_mul]
          refine Dt.sm_congr n fun j _ => ?_
          simp only [Int.mul_assoc]
          congr 1
          simp only [Int.mul_left_comm, Int.mul_comm]
        rw [this, Int.mul_comm (s i) (y i), Int.mul_assoc]
      rw [e]
      exact le0_mul (r1.pos i hi) (r1.row i hi)
    have k1 := compL_rg (asg := aTup (aCons (aName 12) (aCons (aName 14) aNil))) (elt := e2 mulD (eV 12) (eV 14)) (ρ := R30 sc n (mT n T) S W kept m (.val (vL n s)) (.val (mT n fun i j => s i * s j * T i j)) (.val (.tup [.str "row", vT n y])) .un .un) (n := n) (e := fun i => .tup [.int (s i), .int (y i)]) (fun i => .int (s i * y i)) (fun i hi => by
      have := mulD_l (i := s i) (j := y i) (by have := hs1 i hi; omega)
      simp [this])
    have k2 := compL_rg (asg := aTup (aCons (aName 12) (aCons (aName 14) aNil))) (elt := (eC2 (cmpD fun i j => decide (j < i)) (e2 mulD (eV 12) (eV 14)) (eK (.int 0)))) (ρ := R30 sc n (mT n T) S W kept m (.val (vL n s)) (.val (mT n fun i j => s i * s j * T i j)) (.val (.tup [.str "row", vT n y])) .un (.val (vT n fun i => s i * y i))) (n := n) (e := fun i => .tup [.int (s i * y i), .int (rowS n T (fun i => s i * y i) i)]) (fun i => .bl false) (fun i hi => by
      have := mulD_sw (hxs i hi) (rowS_sw (by omega : n ≤ 10) hT hxs hi)
      have h := hle i hi
      simp [this]
      omega)
    have a2 := anyD_rg n fun _ => false
    rw [any_rgF fun _ _ => rfl] at a2
    exact ⟨.val (.tup [.str "row", vT n y]), .val (vT n fun i => s i * y i), by simp [hr], by simp [atI_0, atI_1, eq_row, okW, wipeR, zw_rg, k1, hs, ht, him, k2, a2]⟩
end
end Law

set_option Elab.async false
set_option linter.all false
set_option maxRecDepth 100000
set_option exponentiation.threshold 10000
namespace Law
open PySem PySem.Spec PyProof.Rows L2 PF
open Dt (sm)
open Kp
theorem step {f g : ES} {ρ ρ' : Rho} (h : f ρ = .ok (.nx, ρ')) : sSeq f g ρ = g ρ' := by rw [sSeq_s, h]; rfl
theorem law_true (ns : List Int) (_ : ns.length ≤ 63) : m_law [.klst (ns.map D.int)] = .ok (.bl true) := by
  obtain ⟨n, hn, h1, h2⟩ : ∃ n : Nat, 1 + (cellZ ns 0).fmod 6 = (n : Int) ∧ 1 ≤ n ∧ n ≤ 6 := by
    have := fmod_rng (cellZ ns 0) (j := 6) (by omega)
    exact ⟨(1 + (cellZ ns 0).fmod 6).toNat, by omega, by omega, by omega⟩
  have hc0 := cell_is ns 0 (by omega)
  obtain ⟨T, S, W, kept, hb, hT, hS, hW, hk⟩ := built_is ns h1 h2
  obtain ⟨S', W', hk1, hS1, hW1, hS2, hW2, hS3, hW3⟩ : ∃ S' W' : D, (if kept = true then (S, W) else (D.str "", D.str "")) = (S', W') ∧ SOk n (fun i j => T j i) S' ∧ WOk n (fun i j => T j i) W' ∧ (∀ s : Vk, (∀ i, i < n → s i = 1 ∨ s i = -1) → SOk n (fun i j => s i * s j * T i j) S') ∧ (∀ s : Vk, (∀ i, i < n → s i = 1 ∨ s i = -1) → WOk n (fun i j => s i * s j * T i j) W') ∧ (kept = false → S' = .str "" ∧ W' = .str "") ∧ (kept = true → S' = S ∧ W' = W) := by
    cases hkk : kept with
    | false => exact ⟨.str "", .str "", rfl, .inl rfl, .inl rfl, fun _ _ => .inl rfl, fun _ _ => .inl rfl, fun _ => ⟨rfl, rfl⟩, fun h => by cases h⟩
    | true =>
      obtain ⟨p1, rfl, p3⟩ := hk hkk
      have sq : ∀ s : Vk, (∀ i, i < n → s i = 1 ∨ s i = -1) → ∀ i, i < n → s i * s i = 1 := fun s hs i hi => by rcases hs i hi with h | h <;> rw [h] <;> rfl
      refine ⟨S, .str "paper", rfl, ?_, .inr (.inl ⟨rfl, fun y r => no_row2 p3.tr r⟩), fun s hs => ?_, fun s hs => .inr (.inl ⟨rfl, fun y r => no_row2 (p3.sg (sq s hs)) r⟩), fun h => (by cases h), fun _ => ⟨rfl, rfl⟩⟩
      · rcases p1 with rfl | ⟨rfl, p1⟩
        · exact .inl rfl
        · exact .inr (.inl ⟨rfl, fun y r => no_row1 p1.tr r⟩)
      · rcases p1 with rfl | ⟨rfl, p1⟩
        · exact .inl rfl
        · exact .inr (.inl ⟨rfl, fun y r => no_row1 (p1.sg (sq s hs)) r⟩)
  obtain ⟨s, hs, es⟩ := signs_st (tb := mT n T) (S := S') (W := W') (kept := kept) (m := .val (mT n fun i j => T j i)) ns h1 h2
  have hTs : TB n fun i j => s i * s j * T i j := fun i j hi hj => by
    have := hT i j hi hj
    show (s i * s j * T i j).natAbs ≤ _
    rcases hs i hi with h | h <;> rcases hs j hj with g | g <;> rw [h, g] <;> simp <;> exact this
  obtain ⟨t', x', et, ex⟩ := told_st (sc := .klst (ns.map D.int)) (S := S') (W := W') (kept := kept) (m := .val (mT n fun i j => T j i)) h1 h2 hT hs
  obtain ⟨y, hy, ed⟩ := drawn_st (tb := mT n T) (S := S') (W := W') (kept := kept) (m := .val (mT n fun i j => T j i)) (sg := .val (vL n s)) (o := .val (mT n fun i j => s i * s j * T i j)) (t := t') (x := x') ns h1 h2
  have g1 : (sSet 1 (e2 addD (eK (.int 1)) (e2 modD (eC PF.intD (lCons (eCall 2 m__law_cell (lCons (eV 0) (lCons (eK (.int 0)) lNil))) lNil)) (eK (.int 6))))) [.val (.klst (ns.map D.int)), .un, .un, .un, .un, .un, .un, .un, .un, .un, .un, .un, .un, .un, .un, .un] = .ok (.nx, [.val (.klst (ns.map D.int)), .val (.int (n : Int)), .un, .un, .un, .un, .un, .un, .un, .un, .un, .un, .un, .un, .un, .un]) := by
    simp [hc0, modD_of, hn]
  have g2 : (sAsg (aTup (aCons (aName 2) (aCons (aName 3) (aCons (aName 4) (aCons (aName 5) aNil))))) (eCall 2 m__law_built (lCons (eV 0) (lCons (eV 1) lNil)))) [.val (.klst (ns.map D.int)), .val (.int (n : Int)), .un, .un, .un, .un, .un, .un, .un, .un, .un, .un, .un, .un, .un, .un] = .ok (.nx, R30 (.klst (ns.map D.int)) n (mT n T) S W kept .un .un .un .un .un .un) := by
    simp [hb]
  have g4 : (sIf (tNot' (tTru (eV 5))) (sSeq (sSet 3 (eK (.str ""))) (sSet 4 (eK (.str "")))) sNil) (R30 (.klst (ns.map D.int)) n (mT n T) S W kept .un .un .un .un .un .un) = .ok (.nx, R30 (.klst (ns.map D.int)) n (mT n T) S' W' kept .un .un .un .un .un .un) := by
    cases hkk : kept with
    | false => obtain ⟨rfl, rfl⟩ := hS3 hkk; simp
    | true => obtain ⟨rfl, rfl⟩ := hW3 hkk; simp
  have hfin := last_st (sc := .klst (ns.map D.int)) (S := S') (W := W') (kept := kept) (T := T) (sg := .val (vL n s)) (o := .val (mT n fun i j => s i * s j * T i j)) (t := t') (x := x') (y := y) h1 h2 hT hy
  unfold m_law b_law
  rw [dDef_s]
  show ((sSeq _ _) [.val (.klst (ns.map D.int)), .un, .un, .un, .un, .un, .un, .un, .un, .un, .un, .un, .un, .un, .un, .un] >>= _) = _
  rw [step g1, step g2, step (judge_st (i := 2) h1 h2 hT hS hW rfl), step g4, step (mirror_st h1 h2), step (judge_st (i := 6) h1 h2 (fun i j hi hj => hT j i hj hi) hS1 hW1 rfl), step es, step (other_st h1 h2 hs), step (judge_st (i := 8) h1 h2 hTs (hS2 s hs) (hW2 s hs) rfl), step et, step ex, step ed, hfin]
  rfl
end Law

namespace Law
open PySem PySem.Spec PyProof.Rows L2 PF
theorem all_mk {w : World} {K : PySem.W.Frag} {h : Heap} {mg : Str → Option Value} {fa : Addr} (hm : ∀ ns : List Int, ns.length ≤ 63 → m_law [.klst (ns.map D.int)] = .ok (.bl true)) (X : K.In h) (G : h.Ns mainGlobals mg) (hfa : mg "law" = some (.ref fa))
    {f0 : Addr} {od0 an0 : Option Addr} {sl0 : Array (Option Value)} {oc0 kV0 dc0 pm0 cd0 ct0 : Value} {f1 : Addr} {od1 an1 : Option Addr} {sl1 : Array (Option Value)} {oc1 kV1 dc1 pm1 cd1 ct1 : Value} {f2 : Addr} {od2 an2 : Option Addr} {sl2 : Array (Option Value)} {oc2 kV2 dc2 pm2 cd2 ct2 : Value} {f3 : Addr} {od3 an3 : Option Addr} {sl3 : Array (Option Value)} {oc3 kV3 dc3 pm3 cd3 ct3 : Value} {f4 : Addr} {od4 an4 : Option Addr} {sl4 : Array (Option Value)} {oc4 kV4 dc4 pm4 cd4 ct4 : Value} {f5 : Addr} {od5 an5 : Option Addr} {sl5 : Array (Option Value)} {oc5 kV5 dc5 pm5 cd5 ct5 : Value} {f6 : Addr} {od6 an6 : Option Addr} {sl6 : Array (Option Value)} {oc6 kV6 dc6 pm6 cd6 ct6 : Value} {f7 : Addr} {od7 an7 : Option Addr} {sl7 : Array (Option Value)} {oc7 kV7 dc7 pm7 cd7 ct7 : Value} {f8 : Addr} {od8 an8 : Option Addr} {sl8 : Array (Option Value)} {oc8 kV8 dc8 pm8 cd8 ct8 : Value} {f9 : Addr} {od9 an9 : Option Addr} {sl9 : Array (Option Value)} {oc9 kV9 dc9 pm9 cd9 ct9 : Value} {f10 : Addr} {od10 an10 : Option Addr} {sl10 : Array (Option Value)} {oc10 kV10 dc10 pm10 cd10 ct10 : Value} {f11 : Addr} {od11 an11 : Option Addr} {sl11 : Array (Option Value)} {oc11 kV11 dc11 pm11 cd11 ct11 : Value} {f12 : Addr} {od12 an12 : Option Addr} {sl12 : Array (Option Value)} {oc12 kV12 dc12 pm12 cd12 ct12 : Value} {f13 : Addr} {od13 an13 : Option Addr} {sl13 : Array (Option Value)} {oc13 kV13 dc13 pm13 cd13 ct13 : Value} {f14 : Addr} {od14 an14 : Option Addr} {sl14 : Array (Option Value)} {oc14 kV14 dc14 pm14 cd14 ct14 : Value} {f15 : Addr} {od15 an15 : Option Addr} {sl15 : Array (Option Value)} {oc15 kV15 dc15 pm15 cd15 ct15 : Value} {f16 : Addr} {od16 an16 : Option Addr} {sl16 : Array (Option Value)} {oc16 kV16 dc16 pm16 cd16 ct16 : Value} {f17 : Addr} {od17 an17 : Option Addr} {sl17 : Array (Option Value)} {oc17 kV17 dc17 pm17 cd17 ct17 : Value} {f18 : Addr} {od18 an18 : Option Addr} {sl18 : Array (Option Value)} {oc18 kV18 dc18 pm18 cd18 ct18 : Value} {f19 : Addr} {od19 an19 : Option Addr} {sl19 : Array (Option Value)} {oc19 kV19 dc19 pm19 cd19 ct19 : Value} {f20 : Addr} {od20 an20 : Option Addr} {sl20 : Array (Option Value)} {oc20 kV20 dc20 pm20 cd20 ct20 : Value} {f21 : Addr} {od21 an21 : Option Addr} {sl21 : Array (Option Value)} {oc21 kV21 dc21 pm21 cd21 ct21 : Value} {f22 : Addr} {od22 an22 : Option Addr} {sl22 : Array (Option Value)} {oc22 kV22 dc22 pm22 cd22 ct22 : Value} {f23 : Addr} {od23 an23 : Option Addr} {sl23 : Array (Option Value)} {oc23 kV23 dc23 pm23 cd23 ct23 : Value} {f24 : Addr} {od24 an24 : Option Addr} {sl24 : Array (Option Value)} {oc24 kV24 dc24 pm24 cd24 ct24 : Value} {f25 : Addr} {od25 an25 : Option Addr} {sl25 : Array (Option Value)} {oc25 kV25 dc25 pm25 cd25 ct25 : Value} {f26 : Addr} {od26 an26 : Option Addr} {sl26 : Array (Option Value)} {oc26 kV26 dc26 pm26 cd26 ct26 : Value} {f27 : Addr} {od27 an27 : Option Addr} {sl27 : Array (Option Value)} {oc27 kV27 dc27 pm27 cd27 ct27 : Value} {f28 : Addr} {od28 an28 : Option Addr} {sl28 : Array (Option Value)} {oc28 kV28 dc28 pm28 cd28 ct28 : Value} {f29 : Addr} {od29 an29 : Option Addr} {sl29 : Array (Option Value)} {oc29 kV29 dc29 pm29 cd29 ct29 : Value}
    (a0 : PySem.W.nsIn K mainGlobals "_law_numbers" = some (some (.ref f0))) (l0 : K.lookup f0 = some ⟨oc0, od0, .func (PySem.W.fnOf "_law_numbers" "_law_numbers" (defArgs s__law_numbers) (defBody s__law_numbers) (defScope s__law_numbers) .none kV0 dc0 pm0 an0 cd0 ct0), sl0⟩) (c0 : PySem.W.codeIn K cd0 "_law_numbers" = true) (k0 : PySem.W.keepIn K (.ref f0) = true)
    (a1 : PySem.W.nsIn K mainGlobals "_law_cell" = some (some (.ref f1))) (l1 : K.lookup f1 = some ⟨oc1, od1, .func (PySem.W.fnOf "_law_cell" "_law_cell" (defArgs s__law_cell) (defBody s__law_cell) (defScope s__law_cell) .none kV1 dc1 pm1 an1 cd1 ct1), sl1⟩) (c1 : PySem.W.codeIn K cd1 "_law_cell" = true) (k1 : PySem.W.keepIn K (.ref f1) = true)
    (a2 : PySem.W.nsIn K mainGlobals "_law_summed" = some (some (.ref f2))) (l2 : K.lookup f2 = some ⟨oc2, od2, .func (PySem.W.fnOf "_law_summed" "_law_summed" (defArgs s__law_summed) (defBody s__law_summed) (defScope s__law_summed) .none kV2 dc2 pm2 an2 cd2 ct2), sl2⟩) (c2 : PySem.W.codeIn K cd2 "_law_summed" = true) (k2 : PySem.W.keepIn K (.ref f2) = true)
    (a3 : PySem.W.nsIn K mainGlobals "_law_paper_row" = some (some (.ref f3))) (l3 : K.lookup f3 = some ⟨oc3, od3, .func (PySem.W.fnOf "_law_paper_row" "_law_paper_row" (defArgs s__law_paper_row) (defBody s__law_paper_row) (defScope s__law_paper_row) .none kV3 dc3 pm3 an3 cd3 ct3), sl3⟩) (c3 : PySem.W.codeIn K cd3 "_law_paper_row" = true) (k3 : PySem.W.keepIn K (.ref f3) = true)
    (a4 : PySem.W.nsIn K mainGlobals "_law_bar_column" = some (some (.ref f4))) (l4 : K.lookup f4 = some ⟨oc4, od4, .func (PySem.W.fnOf "_law_bar_column" "_law_bar_column" (defArgs s__law_bar_column) (defBody s__law_bar_column) (defScope s__law_bar_column) .none kV4 dc4 pm4 an4 cd4 ct4), sl4⟩) (c4 : PySem.W.codeIn K cd4 "_law_bar_column" = true) (k4 : PySem.W.keepIn K (.ref f4) = true)
    (a5 : PySem.W.nsIn K mainGlobals "_law_built" = some (some (.ref f5))) (l5 : K.lookup f5 = some ⟨oc5, od5, .func (PySem.W.fnOf "_law_built" "_law_built" (defArgs s__law_built) (defBody s__law_built) (defScope s__law_built) .none kV5 dc5 pm5 an5 cd5 ct5), sl5⟩) (c5 : PySem.W.codeIn K cd5 "_law_built" = true) (k5 : PySem.W.keepIn K (.ref f5) = true)
    (a6 : PySem.W.nsIn K mainGlobals "_entering" = some (some (.ref f6))) (l6 : K.lookup f6 = some ⟨oc6, od6, .func (PySem.W.fnOf "_entering" "_entering" (defArgs s__entering) (defBody s__entering) (defScope s__entering) .none kV6 dc6 pm6 an6 cd6 ct6), sl6⟩) (c6 : PySem.W.codeIn K cd6 "_entering" = true) (k6 : PySem.W.keepIn K (.ref f6) = true)
    (a7 : PySem.W.nsIn K mainGlobals "_leaving" = some (some (.ref f7))) (l7 : K.lookup f7 = some ⟨oc7, od7, .func (PySem.W.fnOf "_leaving" "_leaving" (defArgs s__leaving) (defBody s__leaving) (defScope s__leaving) .none kV7 dc7 pm7 an7 cd7 ct7), sl7⟩) (c7 : PySem.W.codeIn K cd7 "_leaving" = true) (k7 : PySem.W.keepIn K (.ref f7) = true)
    (a8 : PySem.W.nsIn K mainGlobals "_pivot" = some (some (.ref f8))) (l8 : K.lookup f8 = some ⟨oc8, od8, .func (PySem.W.fnOf "_pivot" "_pivot" (defArgs s__pivot) (defBody s__pivot) (defScope s__pivot) .none kV8 dc8 pm8 an8 cd8 ct8), sl8⟩) (c8 : PySem.W.codeIn K cd8 "_pivot" = true) (k8 : PySem.W.keepIn K (.ref f8) = true)
    (a9 : PySem.W.nsIn K mainGlobals "_placed" = some (some (.ref f9))) (l9 : K.lookup f9 = some ⟨oc9, od9, .func (PySem.W.fnOf "_placed" "_placed" (defArgs s__placed) (defBody s__placed) (defScope s__placed) .none kV9 dc9 pm9 an9 cd9 ct9), sl9⟩) (c9 : PySem.W.codeIn K cd9 "_placed" = true) (k9 : PySem.W.keepIn K (.ref f9) = true)
    (a10 : PySem.W.nsIn K mainGlobals "alternative" = some (some (.ref f10))) (l10 : K.lookup f10 = some ⟨oc10, od10, .func (PySem.W.fnOf "alternative" "alternative" (defArgs s_alternative) (defBody s_alternative) (defScope s_alternative) .none kV10 dc10 pm10 an10 cd10 ct10), sl10⟩) (c10 : PySem.W.codeIn K cd10 "alternative" = true) (k10 : PySem.W.keepIn K (.ref f10) = true)
    (a11 : PySem.W.nsIn K mainGlobals "_opposite" = some (some (.ref f11))) (l11 : K.lookup f11 = some ⟨oc11, od11, .func (PySem.W.fnOf "_opposite" "_opposite" (defArgs s__opposite) (defBody s__opposite) (defScope s__opposite) .none kV11 dc11 pm11 an11 cd11 ct11), sl11⟩) (c11 : PySem.W.codeIn K cd11 "_opposite" = true) (k11 : PySem.W.keepIn K (.ref f11) = true)
    (a12 : PySem.W.nsIn K mainGlobals "primitive" = some (some (.ref f12))) (l12 : K.lookup f12 = some ⟨oc12, od12, .func (PySem.W.fnOf "primitive" "primitive" (defArgs s_primitive) (defBody s_primitive) (defScope s_primitive) .none kV12 dc12 pm12 an12 cd12 ct12), sl12⟩) (c12 : PySem.W.codeIn K cd12 "primitive" = true) (k12 : PySem.W.keepIn K (.ref f12) = true)
    (a13 : PySem.W.nsIn K mainGlobals "strong_paper" = some (some (.ref f13))) (l13 : K.lookup f13 = some ⟨oc13, od13, .func (PySem.W.fnOf "strong_paper" "strong_paper" (defArgs s_strong_paper) (defBody s_strong_paper) (defScope s_strong_paper) .none kV13 dc13 pm13 an13 cd13 ct13), sl13⟩) (c13 : PySem.W.codeIn K cd13 "strong_paper" = true) (k13 : PySem.W.keepIn K (.ref f13) = true)
    (a14 : PySem.W.nsIn K mainGlobals "_goal" = some (some (.ref f14))) (l14 : K.lookup f14 = some ⟨oc14, od14, .func (PySem.W.fnOf "_goal" "_goal" (defArgs s__goal) (defBody s__goal) (defScope s__goal) .none kV14 dc14 pm14 an14 cd14 ct14), sl14⟩) (c14 : PySem.W.codeIn K cd14 "_goal" = true) (k14 : PySem.W.keepIn K (.ref f14) = true)
    (a15 : PySem.W.nsIn K mainGlobals "dot" = some (some (.ref f15))) (l15 : K.lookup f15 = some ⟨oc15, od15, .func (PySem.W.fnOf "dot" "dot" (defArgs s_dot) (defBody s_dot) (defScope s_dot) .none kV15 dc15 pm15 an15 cd15 ct15), sl15⟩) (c15 : PySem.W.codeIn K cd15 "dot" = true) (k15 : PySem.W.keepIn K (.ref f15) = true)
    (a16 : PySem.W.nsIn K mainGlobals "product" = some (some (.ref f16))) (l16 : K.lookup f16 = some ⟨oc16, od16, .func (PySem.W.fnOf "product" "product" (defArgs s_product) (defBody s_product) (defScope s_product) .none kV16 dc16 pm16 an16 cd16 ct16), sl16⟩) (c16 : PySem.W.codeIn K cd16 "product" = true) (k16 : PySem.W.keepIn K (.ref f16) = true)
    (a17 : PySem.W.nsIn K mainGlobals "weak_paper" = some (some (.ref f17))) (l17 : K.lookup f17 = some ⟨oc17, od17, .func (PySem.W.fnOf "weak_paper" "weak_paper" (defArgs s_weak_paper) (defBody s_weak_paper) (defScope s_weak_paper) .none kV17 dc17 pm17 an17 cd17 ct17), sl17⟩) (c17 : PySem.W.codeIn K cd17 "weak_paper" = true) (k17 : PySem.W.keepIn K (.ref f17) = true)
    (a18 : PySem.W.nsIn K mainGlobals "_law_same" = some (some (.ref f18))) (l18 : K.lookup f18 = some ⟨oc18, od18, .func (PySem.W.fnOf "_law_same" "_law_same" (defArgs s__law_same) (defBody s__law_same) (defScope s__law_same) .none kV18 dc18 pm18 an18 cd18 ct18), sl18⟩) (c18 : PySem.W.codeIn K cd18 "_law_same" = true) (k18 : PySem.W.keepIn K (.ref f18) = true)
    (a19 : PySem.W.nsIn K mainGlobals "_law_is_integer" = some (some (.ref f19))) (l19 : K.lookup f19 = some ⟨oc19, od19, .func (PySem.W.fnOf "_law_is_integer" "_law_is_integer" (defArgs s__law_is_integer) (defBody s__law_is_integer) (defScope s__law_is_integer) .none kV19 dc19 pm19 an19 cd19 ct19), sl19⟩) (c19 : PySem.W.codeIn K cd19 "_law_is_integer" = true) (k19 : PySem.W.keepIn K (.ref f19) = true)
    (a20 : PySem.W.nsIn K mainGlobals "_law_is_vector" = some (some (.ref f20))) (l20 : K.lookup f20 = some ⟨oc20, od20, .func (PySem.W.fnOf "_law_is_vector" "_law_is_vector" (defArgs s__law_is_vector) (defBody s__law_is_vector) (defScope s__law_is_vector) .none kV20 dc20 pm20 an20 cd20 ct20), sl20⟩) (c20 : PySem.W.codeIn K cd20 "_law_is_vector" = true) (k20 : PySem.W.keepIn K (.ref f20) = true)
    (a21 : PySem.W.nsIn K mainGlobals "_law_sums" = some (some (.ref f21))) (l21 : K.lookup f21 = some ⟨oc21, od21, .func (PySem.W.fnOf "_law_sums" "_law_sums" (defArgs s__law_sums) (defBody s__law_sums) (defScope s__law_sums) .none kV21 dc21 pm21 an21 cd21 ct21), sl21⟩) (c21 : PySem.W.codeIn K cd21 "_law_sums" = true) (k21 : PySem.W.keepIn K (.ref f21) = true)
    (a22 : PySem.W.nsIn K mainGlobals "_law_dot" = some (some (.ref f22))) (l22 : K.lookup f22 = some ⟨oc22, od22, .func (PySem.W.fnOf "_law_dot" "_law_dot" (defArgs s__law_dot) (defBody s__law_dot) (defScope s__law_dot) .none kV22 dc22 pm22 an22 cd22 ct22), sl22⟩) (c22 : PySem.W.codeIn K cd22 "_law_dot" = true) (k22 : PySem.W.keepIn K (.ref f22) = true)
    (a23 : PySem.W.nsIn K mainGlobals "_law_image" = some (some (.ref f23))) (l23 : K.lookup f23 = some ⟨oc23, od23, .func (PySem.W.fnOf "_law_image" "_law_image" (defArgs s__law_image) (defBody s__law_image) (defScope s__law_image) .none kV23 dc23 pm23 an23 cd23 ct23), sl23⟩) (c23 : PySem.W.codeIn K cd23 "_law_image" = true) (k23 : PySem.W.keepIn K (.ref f23) = true)
    (a24 : PySem.W.nsIn K mainGlobals "_law_strong" = some (some (.ref f24))) (l24 : K.lookup f24 = some ⟨oc24, od24, .func (PySem.W.fnOf "_law_strong" "_law_strong" (defArgs s__law_strong) (defBody s__law_strong) (defScope s__law_strong) .none kV24 dc24 pm24 an24 cd24 ct24), sl24⟩) (c24 : PySem.W.codeIn K cd24 "_law_strong" = true) (k24 : PySem.W.keepIn K (.ref f24) = true)
    (a25 : PySem.W.nsIn K mainGlobals "_law_weak" = some (some (.ref f25))) (l25 : K.lookup f25 = some ⟨oc25, od25, .func (PySem.W.fnOf "_law_weak" "_law_weak" (defArgs s__law_weak) (defBody s__law_weak) (defScope s__law_weak) .none kV25 dc25 pm25 an25 cd25 ct25), sl25⟩) (c25 : PySem.W.codeIn K cd25 "_law_weak" = true) (k25 : PySem.W.keepIn K (.ref f25) = true)
    (a26 : PySem.W.nsIn K mainGlobals "_law_judged" = some (some (.ref f26))) (l26 : K.lookup f26 = some ⟨oc26, od26, .func (PySem.W.fnOf "_law_judged" "_law_judged" (defArgs s__law_judged) (defBody s__law_judged) (defScope s__law_judged) .none kV26 dc26 pm26 an26 cd26 ct26), sl26⟩) (c26 : PySem.W.codeIn K cd26 "_law_judged" = true) (k26 : PySem.W.keepIn K (.ref f26) = true)
    (a27 : PySem.W.nsIn K mainGlobals "turns" = some (some (.ref f27))) (l27 : K.lookup f27 = some ⟨oc27, od27, .func (PySem.W.fnOf "turns" "turns" (defArgs s_turns) (defBody s_turns) (defScope s_turns) .none kV27 dc27 pm27 an27 cd27 ct27), sl27⟩) (c27 : PySem.W.codeIn K cd27 "turns" = true) (k27 : PySem.W.keepIn K (.ref f27) = true)
    (a28 : PySem.W.nsIn K mainGlobals "_law_turned" = some (some (.ref f28))) (l28 : K.lookup f28 = some ⟨oc28, od28, .func (PySem.W.fnOf "_law_turned" "_law_turned" (defArgs s__law_turned) (defBody s__law_turned) (defScope s__law_turned) .none kV28 dc28 pm28 an28 cd28 ct28), sl28⟩) (c28 : PySem.W.codeIn K cd28 "_law_turned" = true) (k28 : PySem.W.keepIn K (.ref f28) = true)
    (a29 : PySem.W.nsIn K mainGlobals "law" = some (some (.ref f29))) (l29 : K.lookup f29 = some ⟨oc29, od29, .func (PySem.W.fnOf "law" "law" (defArgs s_law) (defBody s_law) (defScope s_law) .none kV29 dc29 pm29 an29 cd29 ct29), sl29⟩) (c29 : PySem.W.codeIn K cd29 "law" = true) (k29 : PySem.W.keepIn K (.ref f29) = true) (z_all : PySem.W.nsIn K mainGlobals "all" = some none) (z_any : PySem.W.nsIn K mainGlobals "any" = some none) (z_bool : PySem.W.nsIn K mainGlobals "bool" = some none) (z_enumerate : PySem.W.nsIn K mainGlobals "enumerate" = some none) (z_int : PySem.W.nsIn K mainGlobals "int" = some none) (z_isinstance : PySem.W.nsIn K mainGlobals "isinstance" = some none) (z_len : PySem.W.nsIn K mainGlobals "len" = some none) (z_list : PySem.W.nsIn K mainGlobals "list" = some none) (z_range : PySem.W.nsIn K mainGlobals "range" = some none) (z_str : PySem.W.nsIn K mainGlobals "str" = some none) (z_sum : PySem.W.nsIn K mainGlobals "sum" = some none) (z_tuple : PySem.W.nsIn K mainGlobals "tuple" = some none) (z_zip : PySem.W.nsIn K mainGlobals "zip" = some none) (g_gcd : PySem.W.nsIn K mainGlobals "gcd" = some (some (.builtin "math.gcd"))) :
    ∃ fd : FuncData, (∀ (s : Shared) (v : Value), BindsTo s fd ⟨[v], []⟩ [("script", v)]) ∧ ∀ base : Heap, K.In base → base.Ns mainGlobals mg → FnOk PP w K mg base (L2.CX PP w) 7 fa fd ["script"] (spL K) := by
  let T : Tx K mg := ⟨defF_mk (st := s__law_numbers) (ps := ["cell", "count", "base"]) X G a0 l0 c0 k0 fun _ _ _ _ _ _ us hl => match us, hl with | [_, _, _], _ => rfl,
    defF_mk (st := s__law_cell) (ps := ["script", "k"]) X G a1 l1 c1 k1 fun _ _ _ _ _ _ us hl => match us, hl with | [_, _], _ => rfl,
    defF_mk (st := s__law_summed) (ps := ["forms", "skews", "size", "more"]) X G a2 l2 c2 k2 fun _ _ _ _ _ _ us hl => match us, hl with | [_, _, _, _], _ => rfl,
    defF_mk (st := s__law_paper_row) (ps := ["table", "u", "at", "less"]) X G a3 l3 c3 k3 fun _ _ _ _ _ _ us hl => match us, hl with | [_, _, _, _], _ => rfl,
    defF_mk (st := s__law_bar_column) (ps := ["table", "y", "at", "less"]) X G a4 l4 c4 k4 fun _ _ _ _ _ _ us hl => match us, hl with | [_, _, _, _], _ => rfl,
    defF_mk (st := s__law_built) (ps := ["script", "size"]) X G a5 l5 c5 k5 fun _ _ _ _ _ _ us hl => match us, hl with | [_, _], _ => rfl,
    defF_mk (st := s__entering) (ps := ["names", "costs"]) X G a6 l6 c6 k6 fun _ _ _ _ _ _ us hl => match us, hl with | [_, _], _ => rfl,
    defF_mk (st := s__leaving) (ps := ["names", "table", "column"]) X G a7 l7 c7 k7 fun _ _ _ _ _ _ us hl => match us, hl with | [_, _, _], _ => rfl,
    defF_mk (st := s__pivot) (ps := ["row", "line", "column", "scale"]) X G a8 l8 c8 k8 fun _ _ _ _ _ _ us hl => match us, hl with | [_, _, _, _], _ => rfl,
    defF_mk (st := s__placed) (ps := ["names", "numbers", "size"]) X G a9 l9 c9 k9 fun _ _ _ _ _ _ us hl => match us, hl with | [_, _, _], _ => rfl,
    defF_mk (st := s_alternative) (ps := ["rows", "goal"]) X G a10 l10 c10 k10 fun _ _ _ _ _ _ us hl => match us, hl with | [_, _], _ => rfl,
    defF_mk (st := s__opposite) (ps := ["table"]) X G a11 l11 c11 k11 fun _ _ _ _ _ _ us hl => match us, hl with | [_], _ => rfl,
    defF_mk (st := s_primitive) (ps := ["vector"]) X G a12 l12 c12 k12 fun _ _ _ _ _ _ us hl => match us, hl with | [_], _ => rfl,
    defF_mk (st := s_strong_paper) (ps := ["table"]) X G a13 l13 c13 k13 fun _ _ _ _ _ _ us hl => match us, hl with | [_], _ => rfl,
    defF_mk (st := s__goal) (ps := ["rows", "y", "image"]) X G a14 l14 c14 k14 fun _ _ _ _ _ _ us hl => match us, hl with | [_, _, _], _ => rfl,
    defF_mk (st := s_dot) (ps := ["first", "second"]) X G a15 l15 c15 k15 fun _ _ _ _ _ _ us hl => match us, hl with | [_, _], _ => rfl,
    defF_mk (st := s_product) (ps := ["matrix", "vector"]) X G a16 l16 c16 k16 fun _ _ _ _ _ _ us hl => match us, hl with | [_, _], _ => rfl,
    defF_mk (st := s_weak_paper) (ps := ["table"]) X G a17 l17 c17 k17 fun _ _ _ _ _ _ us hl => match us, hl with | [_], _ => rfl,
    defF_mk (st := s__law_same) (ps := ["found", "due"]) X G a18 l18 c18 k18 fun _ _ _ _ _ _ us hl => match us, hl with | [_, _], _ => rfl,
    defF_mk (st := s__law_is_integer) (ps := ["item"]) X G a19 l19 c19 k19 fun _ _ _ _ _ _ us hl => match us, hl with | [_], _ => rfl,
    defF_mk (st := s__law_is_vector) (ps := ["item", "size"]) X G a20 l20 c20 k20 fun _ _ _ _ _ _ us hl => match us, hl with | [_, _], _ => rfl,
    defF_mk (st := s__law_sums) (ps := ["u", "table"]) X G a21 l21 c21 k21 fun _ _ _ _ _ _ us hl => match us, hl with | [_, _], _ => rfl,
    defF_mk (st := s__law_dot) (ps := ["first", "second"]) X G a22 l22 c22 k22 fun _ _ _ _ _ _ us hl => match us, hl with | [_, _], _ => rfl,
    defF_mk (st := s__law_image) (ps := ["table", "y"]) X G a23 l23 c23 k23 fun _ _ _ _ _ _ us hl => match us, hl with | [_, _], _ => rfl,
    defF_mk (st := s__law_strong) (ps := ["found", "table"]) X G a24 l24 c24 k24 fun _ _ _ _ _ _ us hl => match us, hl with | [_, _], _ => rfl,
    defF_mk (st := s__law_weak) (ps := ["found", "table"]) X G a25 l25 c25 k25 fun _ _ _ _ _ _ us hl => match us, hl with | [_, _], _ => rfl,
    defF_mk (st := s__law_judged) (ps := ["table", "strong", "weak"]) X G a26 l26 c26 k26 fun _ _ _ _ _ _ us hl => match us, hl with | [_, _, _], _ => rfl,
    defF_mk (st := s_turns) (ps := ["table", "x"]) X G a27 l27 c27 k27 fun _ _ _ _ _ _ us hl => match us, hl with | [_, _], _ => rfl,
    defF_mk (st := s__law_turned) (ps := ["table", "x"]) X G a28 l28 c28 k28 fun _ _ _ _ _ _ us hl => match us, hl with | [_, _], _ => rfl,
    defF_mk (st := s_law) (ps := ["script"]) X G a29 l29 c29 k29 fun _ _ _ _ _ _ us hl => match us, hl with | [_], _ => rfl,
    PySem.W.mg_none_of X G z_all,
    PySem.W.mg_none_of X G z_any,
    PySem.W.mg_none_of X G z_bool,
    PySem.W.mg_none_of X G z_enumerate,
    PySem.W.mg_none_of X G z_int,
    PySem.W.mg_none_of X G z_isinstance,
    PySem.W.mg_none_of X G z_len,
    PySem.W.mg_none_of X G z_list,
    PySem.W.mg_none_of X G z_range,
    PySem.W.mg_none_of X G z_str,
    PySem.W.mg_none_of X G z_sum,
    PySem.W.mg_none_of X G z_tuple,
    PySem.W.mg_none_of X G z_zip,
    PySem.W.mg_of X G g_gcd⟩
  have e := hfa.symm.trans T.d_law.g
  cases e
  exact ⟨T.d_law.fd, fun s v => .of_eq rfl, fun base _ _ => law_imp (ok_law (base := base) T) hm⟩
end Law
open PySem PySem.W PyProof.Rows in
set_option maxRecDepth 100000 in
set_option maxHeartbeats 0 in
theorem PySem.Challenge.cw_oneofeachpair_k30_papers_or_rows_holds : PySem.Challenge.rw_oneofeachpair_k30_papers_or_rows.Holds := by
  w_on; o_law; k_head; (case hw => w_witness2)
  k_fill
  refine L2.walk_of (l := PySem.Challenge.rw_oneofeachpair_k30_papers_or_rows) (n := 63) (k := 7) (x := "script") (CX := fun w => L2.CX Law.PP w) (sp := fun w => PF.spL _) rfl (by decide) rfl ⟨rfl, by decide, by decide⟩ (fun w h Y => PySem.W.kIn_of Y) ?F (fun _ _ a ns hl _ hS => ⟨a, ns, rfl, hS, hl, fun _ => rfl⟩) fun _ _ _ _ _ h => PF.cx_end h
  case F =>
    intro w mg fa h KX G hmg
    refine' Law.all_mk Law.law_true KX G hmg ?a0 ?l0 ?c0 ?k0 ?a1 ?l1 ?c1 ?k1 ?a2 ?l2 ?c2 ?k2 ?a3 ?l3 ?c3 ?k3 ?a4 ?l4 ?c4 ?k4 ?a5 ?l5 ?c5 ?k5 ?a6 ?l6 ?c6 ?k6 ?a7 ?l7 ?c7 ?k7 ?a8 ?l8 ?c8 ?k8 ?a9 ?l9 ?c9 ?k9 ?a10 ?l10 ?c10 ?k10 ?a11 ?l11 ?c11 ?k11 ?a12 ?l12 ?c12 ?k12 ?a13 ?l13 ?c13 ?k13 ?a14 ?l14 ?c14 ?k14 ?a15 ?l15 ?c15 ?k15 ?a16 ?l16 ?c16 ?k16 ?a17 ?l17 ?c17 ?k17 ?a18 ?l18 ?c18 ?k18 ?a19 ?l19 ?c19 ?k19 ?a20 ?l20 ?c20 ?k20 ?a21 ?l21 ?c21 ?k21 ?a22 ?l22 ?c22 ?k22 ?a23 ?l23 ?c23 ?k23 ?a24 ?l24 ?c24 ?k24 ?a25 ?l25 ?c25 ?k25 ?a26 ?l26 ?c26 ?k26 ?a27 ?l27 ?c27 ?k27 ?a28 ?l28 ?c28 ?k28 ?a29 ?l29 ?c29 ?k29 ?z_all ?z_any ?z_bool ?z_enumerate ?z_int ?z_isinstance ?z_len ?z_list ?z_range ?z_str ?z_sum ?z_tuple ?z_zip ?g_gcd
    (case a0 => k_is)
    (case l0 => k_is)
    (case c0 => k_is)
    (case k0 => k_is)
    (case a1 => k_is)
    (case l1 => k_is)
    (case c1 => k_is)
    (case k1 => k_is)
    (case a2 => k_is)
    (case l2 => k_is)
    (case c2 => k_is)
    (case k2 => k_is)
    (case a3 => k_is)
    (case l3 => k_is)
    (case c3 => k_is)
    (case k3 => k_is)
    (case a4 => k_is)
    (case l4 => k_is)
    (case c4 => k_is)
    (case k4 => k_is)
    (case a5 => k_is)
    (case l5 => k_is)
    (case c5 => k_is)
    (case k5 => k_is)
    (case a6 => k_is)
    (case l6 => k_is)
    (case c6 => k_is)
    (case k6 => k_is)
    (case a7 => k_is)
    (case l7 => k_is)
    (case c7 => k_is)
    (case k7 => k_is)
    (case a8 => k_is)
    (case l8 => k_is)
    (case c8 => k_is)
    (case k8 => k_is)
    (case a9 => k_is)
    (case l9 => k_is)
    (case c9 => k_is)
    (case k9 => k_is)
    (case a10 => k_is)
    (case l10 => k_is)
    (case c10 => k_is)
    (case k10 => k_is)
    (case a11 => k_is)
    (case l11 => k_is)
    (case c11 => k_is)
    (case k11 => k_is)
    (case a12 => k_is)
    (case l12 => k_is)
    (case c12 => k_is)
    (case k12 => k_is)
    (case a13 => k_is)
    (case l13 => k_is)
    (case c13 => k_is)
    (case k13 => k_is)
    (case a14 => k_is)
    (case l14 => k_is)
    (case c14 => k_is)
    (case k14 => k_is)
    (case a15 => k_is)
    (case l15 => k_is)
    (case c15 => k_is)
    (case k15 => k_is)
    (case a16 => k_is)
    (case l16 => k_is)
    (case c16 => k_is)
    (case k16 => k_is)
    (case a17 => k_is)
    (case l17 => k_is)
    (case c17 => k_is)
    (case k17 => k_is)
    (case a18 => k_is)
    (case l18 => k_is)
    (case c18 => k_is)
    (case k18 => k_is)
    (case a19 => k_is)
    (case l19 => k_is)
    (case c19 => k_is)
    (case k19 => k_is)
    (case a20 => k_is)
    (case l20 => k_is)
    (case c20 => k_is)
    (case k20 => k_is)
    (case a21 => k_is)
    (case l21 => k_is)
    (case c21 => k_is)
    (case k21 => k_is)
    (case a22 => k_is)
    (case l22 => k_is)
    (case c22 => k_is)
    (case k22 => k_is)
    (case a23 => k_is)
    (case l23 => k_is)
    (case c23 => k_is)
    (case k23 => k_is)
    (case a24 => k_is)
    (case l24 => k_is)
    (case c24 => k_is)
    (case k24 => k_is)
    (case a25 => k_is)
    (case l25 => k_is)
    (case c25 => k_is)
    (case k25 => k_is)
    (case a26 => k_is)
    (case l26 => k_is)
    (case c26 => k_is)
    (case k26 => k_is)
    (case a27 => k_is)
    (case l27 => k_is)
    (case c27 => k_is)
    (case k27 => k_is)
    (case a28 => k_is)
    (case l28 => k_is)
    (case c28 => k_is)
    (case k28 => k_is)
    (case a29 => k_is)
    (case l29 => k_is)
    (case c29 => k_is)
    (case k29 => k_is)
    (case z_all => k_is)
    (case z_any => k_is)
    (case z_bool => k_is)
    (case z_enumerate => k_is)
    (case z_int => k_is)
    (case z_isinstance => k_is)
    (case z_len => k_is)
    (case z_list => k_is)
    (case z_range => k_is)
    (case z_str => k_is)
    (case z_sum => k_is)
    (case z_tuple => k_is)
    (case z_zip => k_is)
    (case g_gcd => k_is)
