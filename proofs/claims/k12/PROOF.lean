import PyProof.Rows.All
import Wide.All
import OpenK.AllK
import Wide.FinOn
import HandS.ForMost
import HandS.ForExc
import HandS.Walk
import HandS.Wide
import HandS.WideBits
import HandS.Gcd
import HandS.IsInst
import HandS.RaiseMore
import HandS.FStr
import HandS.Defaults
import HandS.ExcInit
import HandS.TryOnly
import HandS.Evl
import HandS.Zip
import HandS.Conv
import HandS.TupAny
import HandS.Flow
import HandS.Style
import HandS.StrMore
import HandS.TupMul
import HandS.Deep
import HandS.TupLe
import HandS.ExcOwn
import HandS.Ends
import HandS.EndBits
import HandS.ExcField
import HandS.ExcIs
import KE.KExcIs
import PySem.Challenge.RW_carryoffice_k12_any_text_as_ratio
set_option Elab.async false
set_option linter.all false
set_option maxRecDepth 100000
set_option maxHeartbeats 4000000
set_option exponentiation.threshold 20000
/-! Mi: data over the hand layer: what stands for what, slots that own a list, states and how they go on. -/
namespace Mi
open PySem L2 Evl

abbrev D := PyData
/-- how a slot holds: a value that never changes; a list of its own; such a list while it is walked; a list of the caller's; that one while it is walked -/
inductive Md where
  | val | own | lock | io | iol
  deriving DecidableEq
def Md.isOwn : Md → Bool
  | .val => false
  | _ => true
def Md.isIo : Md → Bool
  | .io => true
  | .iol => true
  | _ => false
def Md.isLk : Md → Bool
  | .lock => true
  | .iol => true
  | _ => false
structure Slot where
  m : Md
  d : D
abbrev R := List (Option Slot)
/-- what an expression gives: a datum; a new list; the list that a slot owns -/
inductive Res where
  | val (d : D)
  | fresh (xs : List D)
  | slot (i : Nat)
structure Exc where
  cls : Str
  fs : List (Str × D)
inductive Out (α : Type) where
  | ok (a : α)
  | exc (e : Exc)
abbrev M (α : Type) := R → Option (Out α × R)
def ret {α : Type} (a : α) : M α := fun ρ => some (.ok a, ρ)
def bnd {α β : Type} (m : M α) (f : α → M β) : M β := fun ρ => match m ρ with
  | some (.ok a, ρ') => f a ρ'
  | some (.exc e, ρ') => some (.exc e, ρ')
  | none => none
def stuck {α : Type} : M α := fun _ => none

/-! ### what stands for what -/
mutual
inductive Rp (K : PySem.W.Frag) (H : Hp) : V → D → Prop
  | non : Rp K H .non .none
  | bl (b : Bool) : Rp K H (.bl b) (.bool b)
  | int (i : Int) : Rp K H (.int i) (.int i)
  | str (x : Str) : Rp K H (.str x) (.str x)
  | lst {a : Addr} {xs : List V} {ds : List D} : SqL K H a xs → RpAll K H xs ds → Rp K H (.ref a) (.list ds)
  | tup {a : Addr} {xs : List V} {ds : List D} : SqT K H a xs → RpAll K H xs ds → Rp K H (.ref a) (.tuple ds)
  | dct {a : Addr} {kvs : List (Key × V)} {ds : List (D × D)} : Rd H a (.dK kvs) → RpKv K H kvs ds → Rp K H (.ref a) (.dict ds)
inductive RpAll (K : PySem.W.Frag) (H : Hp) : List V → List D → Prop
  | nil : RpAll K H [] []
  | cons {v : V} {vs : List V} {d : D} {ds : List D} : Rp K H v d → RpAll K H vs ds → RpAll K H (v :: vs) (d :: ds)
inductive RpKv (K : PySem.W.Frag) (H : Hp) : List (Key × V) → List (D × D) → Prop
  | nil : RpKv K H [] []
  | cons {k : Key} {v : V} {kvs : List (Key × V)} {c d : D} {ds : List (D × D)} : Rp K H (kV k) c → Rp K H v d → RpKv K H kvs ds → RpKv K H ((k, v) :: kvs) ((c, d) :: ds)
end
section
variable {K : PySem.W.Frag} {H H' Hb Hb' : Hp} {v : V} {vs : List V} {d : D} {ds : List D}
mutual
theorem Rp.mono (e : Ex H H') : ∀ {v : V} {d : D}, Rp K H v d → Rp K H' v d
  | _, _, .non => .non
  | _, _, .bl b => .bl b
  | _, _, .int i => .int i
  | _, _, .str x => .str x
  | _, _, .lst h r => .lst (ex_l e h) (RpAll.mono e r)
  | _, _, .tup h r => .tup (ex_t e h) (RpAll.mono e r)
  | _, _, .dct h r => .dct (ex_rd e h) (RpKv.mono e r)
theorem RpAll.mono (e : Ex H H') : ∀ {vs : List V} {ds : List D}, RpAll K H vs ds → RpAll K H' vs ds
  | _, _, .nil => .nil
  | _, _, .cons a b => .cons (Rp.mono e a) (RpAll.mono e b)
theorem RpKv.mono (e : Ex H H') : ∀ {vs : List (Key × V)} {ds : List (D × D)}, RpKv K H vs ds → RpKv K H' vs ds
  | _, _, .nil => .nil
  | _, _, .cons a b c => .cons (Rp.mono e a) (Rp.mono e b) (RpKv.mono e c)
end
theorem RpAll.length : ∀ {vs : List V} {ds : List D}, RpAll K H vs ds → vs.length = ds.length
  | _, _, .nil => rfl
  | _, _, .cons _ b => congrArg Nat.succ b.length
theorem RpAll.get : ∀ {vs : List V} {ds : List D} {i : Nat} {d : D}, RpAll K H vs ds → ds[i]? = some d → ∃ v, vs[i]? = some v ∧ Rp K H v d
  | _, _, _, _, .nil, e => by simp at e
  | _, _, 0, _, .cons a _, e => by simp at e; subst e; exact ⟨_, rfl, a⟩
  | _, _, i + 1, _, .cons _ b, e => by
    obtain ⟨v, h1, h2⟩ := RpAll.get (i := i) b (by simpa using e)
    exact ⟨v, by simpa using h1, h2⟩
theorem RpAll.getV : ∀ {vs : List V} {ds : List D} {i : Nat} {v : V}, RpAll K H vs ds → vs[i]? = some v → ∃ d, ds[i]? = some d ∧ Rp K H v d
  | _, _, _, _, .nil, e => by simp at e
  | _, _, 0, _, .cons a _, e => by simp at e; subst e; exact ⟨_, rfl, a⟩
  | _, _, i + 1, _, .cons _ b, e => by
    obtain ⟨v, h1, h2⟩ := RpAll.getV (i := i) b (by simpa using e)
    exact ⟨v, by simpa using h1, h2⟩
theorem RpAll.append : ∀ {vs ws : List V} {ds es : List D}, RpAll K H vs ds → RpAll K H ws es → RpAll K H (vs ++ ws) (ds ++ es)
  | _, _, _, _, .nil, b => b
  | _, _, _, _, .cons a r, b => .cons a (r.append b)
theorem RpAll.take : ∀ {vs : List V} {ds : List D} (n : Nat), RpAll K H vs ds → RpAll K H (vs.take n) (ds.take n)
  | _, _, 0, _ => .nil
  | _, _, _ + 1, .nil => .nil
  | _, _, n + 1, .cons a b => .cons a (b.take n)
theorem RpAll.drop : ∀ {vs : List V} {ds : List D} (n : Nat), RpAll K H vs ds → RpAll K H (vs.drop n) (ds.drop n)
  | _, _, 0, r => r
  | _, _, _ + 1, .nil => .nil
  | _, _, n + 1, .cons _ b => b.drop n
theorem RpAll.set : ∀ {vs : List V} {ds : List D} (n : Nat) {v : V} {d : D}, RpAll K H vs ds → Rp K H v d → RpAll K H (vs.set n v) (ds.set n d)
  | _, _, _, _, _, .nil, _ => .nil
  | _, _, 0, _, _, .cons _ b, r => .cons r b
  | _, _, n + 1, _, _, .cons a b, r => .cons a (b.set n r)
theorem RpAll.rep {v : V} {d : D} (r : Rp K H v d) : ∀ n, RpAll K H (List.replicate n v) (List.replicate n d)
  | 0 => .nil
  | n + 1 => .cons r (RpAll.rep r n)
theorem RpAll.rev : ∀ {vs : List V} {ds : List D}, RpAll K H vs ds → RpAll K H vs.reverse ds.reverse
  | _, _, .nil => .nil
  | _, _, .cons a b => by
    rw [List.reverse_cons, List.reverse_cons]
    exact b.rev.append (.cons a .nil)
theorem Rp.int_inv {v : V} {i : Int} (h : Rp K H v (.int i)) : v = .int i := by cases h; rfl
theorem Rp.bool_inv {v : V} {i : Bool} (h : Rp K H v (.bool i)) : v = .bl i := by cases h; rfl
theorem Rp.str_inv {v : V} {i : Str} (h : Rp K H v (.str i)) : v = .str i := by cases h; rfl
theorem Rp.none_inv {v : V} (h : Rp K H v .none) : v = .non := by cases h; rfl
end

/-! ### states -/
def Own (σ : St) (ρ : R) (a : Addr) : Prop := ∃ (i : Nat) (s : Slot), ρ[i]? = some (some s) ∧ s.m.isOwn = true ∧ σ[i]? = some (some (.ref a))
structure Rel (K : PySem.W.Frag) (Hb H : Hp) (σ : St) (ρ : R) : Prop where
  len : σ.length = ρ.length
  ex : Ex Hb H
  val : ∀ (i : Nat) (s : Slot), ρ[i]? = some (some s) → s.m.isOwn = false → ∃ v, σ[i]? = some (some v) ∧ Rp K Hb v s.d
  own : ∀ (i : Nat) (s : Slot), ρ[i]? = some (some s) → s.m.isOwn = true → ∃ a vs xs, σ[i]? = some (some (.ref a)) ∧ s.d = .list xs ∧ Hb a = none ∧ H a = some (.lst vs) ∧ RpAll K Hb vs xs
  inj : ∀ (i j : Nat) (s t : Slot) (a : Addr), ρ[i]? = some (some s) → ρ[j]? = some (some t) → s.m.isOwn = true → t.m.isOwn = true → σ[i]? = some (some (.ref a)) → σ[j]? = some (some (.ref a)) → i = j
/-- from one state to a later one -/
structure Go (σ : St) (ρ : R) (Hb H : Hp) (σ' : St) (ρ' : R) (Hb' H' : Hp) : Prop where
  b : Ex Hb Hb'
  k : ∀ a o, H a = some o → ¬ Own σ ρ a → H' a = some o
  f : ∀ a, Hb a = none → Hb' a ≠ none → H a = none ∨ Own σ ρ a
  t : ∀ a, H a ≠ none → H' a ≠ none
  o : ∀ a, Own σ' ρ' a → Own σ ρ a ∨ H a = none
  io : ∀ (i : Nat) (s : Slot), ρ[i]? = some (some s) → s.m.isIo = true → σ'[i]? = σ[i]? ∧ ∃ s', ρ'[i]? = some (some s') ∧ s'.m.isIo = true
  lk : ∀ (i : Nat) (s : Slot), ρ[i]? = some (some s) → s.m.isLk = true → σ'[i]? = σ[i]? ∧ ρ'[i]? = some (some s)
section
variable {K : PySem.W.Frag} {σ σ1 σ2 : St} {ρ ρ1 ρ2 : R} {Hb H Hb1 H1 Hb2 H2 : Hp} {v : V} {r : Res} {d : D} {a p : Addr}
theorem Rel.owned (R : Rel K Hb H σ ρ) (h : Own σ ρ a) : Hb a = none ∧ ∃ vs, H a = some (.lst vs) := by
  obtain ⟨i, s, h1, h2, h3⟩ := h
  obtain ⟨a', vs, xs, e1, _, e2, e3, _⟩ := R.own i s h1 h2
  rw [h3] at e1
  cases e1
  exact ⟨e2, vs, e3⟩
theorem Go.refl : Go σ ρ Hb H σ ρ Hb H := ⟨Ex.refl _, fun _ _ h _ => h, fun a h1 h2 => absurd h1 h2, fun _ h => h, fun _ h => .inl h, fun i s h1 h2 => ⟨rfl, s, h1, h2⟩, fun i s h1 _ => ⟨rfl, h1⟩⟩
theorem Go.trans (x : Go σ ρ Hb H σ1 ρ1 Hb1 H1) (y : Go σ1 ρ1 Hb1 H1 σ2 ρ2 Hb2 H2) : Go σ ρ Hb H σ2 ρ2 Hb2 H2 where
  b := x.b.trans y.b
  k := fun a o h n => by
    refine y.k a o (x.k a o h n) fun q => ?_
    rcases x.o a q with z | z
    · exact n z
    · rw [h] at z; cases z
  f := fun a h1 h2 => by
    by_cases h3 : Hb1 a = none
    · rcases y.f a h3 h2 with z | z
      · left
        exact Classical.byContradiction fun q => x.t a q z
      · exact (x.o a z).symm
    · exact x.f a h1 h3
  t := fun a h => y.t a (x.t a h)
  o := fun a h => by
    rcases y.o a h with z | z
    · exact x.o a z
    · right
      exact Classical.byContradiction fun q => x.t a q z
  io := fun i s h1 h2 => by
    obtain ⟨e1, s1, h3, h4⟩ := x.io i s h1 h2
    obtain ⟨e2, s2, h5, h6⟩ := y.io i s1 h3 h4
    exact ⟨e2.trans e1, s2, h5, h6⟩
  lk := fun i s h1 h2 => by
    obtain ⟨e1, h3⟩ := x.lk i s h1 h2
    obtain ⟨e2, h4⟩ := y.lk i s h3 h2
    exact ⟨e2.trans e1, h4⟩
/-- new objects alone -/
structure New (Hb H Hb' H' : Hp) : Prop where
  b : Ex Hb Hb'
  h : Ex H H'
  e : Ex Hb' H'
  f : ∀ a, Hb a = none → Hb' a ≠ none → H a = none
theorem New.refl (e : Ex Hb H) : New Hb H Hb H := ⟨Ex.refl _, Ex.refl _, e, fun a h1 h2 => absurd h1 h2⟩
theorem New.trans (x : New Hb H Hb1 H1) (y : New Hb1 H1 Hb2 H2) : New Hb H Hb2 H2 := ⟨x.b.trans y.b, x.h.trans y.h, y.e, fun a h1 h2 => by
  by_cases h3 : Hb1 a = none
  · have z := y.f a h3 h2
    exact fresh_back x.h z
  · exact x.f a h1 h3⟩
theorem New.go (n : New Hb H Hb1 H1) : Go σ ρ Hb H σ ρ Hb1 H1 := ⟨n.b, fun a o h _ => n.h a o h, fun a h1 h2 => .inl (n.f a h1 h2), fun a h q => h (fresh_back n.h q), fun _ h => .inl h, fun i s h1 h2 => ⟨rfl, s, h1, h2⟩, fun i s h1 _ => ⟨rfl, h1⟩⟩
theorem New.rel (n : New Hb H Hb1 H1) (R : Rel K Hb H σ ρ) : Rel K Hb1 H1 σ ρ where
  len := R.len
  ex := n.e
  val := fun i s h1 h2 => by
    obtain ⟨v, e, r⟩ := R.val i s h1 h2
    exact ⟨v, e, r.mono n.b⟩
  own := fun i s h1 h2 => by
    obtain ⟨a, vs, xs, e1, e2, e3, e4, e5⟩ := R.own i s h1 h2
    refine ⟨a, vs, xs, e1, e2, ?_, n.h a _ e4, e5.mono n.b⟩
    refine Classical.byContradiction fun q => ?_
    have z := n.f a e3 q
    rw [e4] at z; cases z
  inj := R.inj
theorem ex_upd2 {o : HO} (e : Ex Hb H) : Ex (upd Hb p o) (upd H p o) := fun a u h => by
  by_cases q : a = p
  · subst q; rw [upd_same] at h ⊢; exact h
  · rw [upd_ne q] at h ⊢; exact e a u h
/-- a new object that never changes | that may change -/
theorem New.fix {o : HO} (e : Ex Hb H) (h : H p = none) : New Hb H (upd Hb p o) (upd H p o) := ⟨Ex.new (fresh_back e h), Ex.new h, ex_upd2 e, fun a h1 h2 => by
  by_cases q : a = p
  · rw [q]; exact h
  · rw [upd_ne q] at h2; exact absurd h1 h2⟩
theorem New.mut {o : HO} (e : Ex Hb H) (h : H p = none) : New Hb H Hb (upd H p o) := ⟨Ex.refl _, Ex.new h, e.mut (fresh_back e h), fun a h1 h2 => absurd h1 h2⟩

/-- what a value is of what was told -/
def RR (K : PySem.W.Frag) (Hb H H0 : Hp) (v : V) : Res → Prop
  | .val d => Rp K Hb v d
  | .fresh xs => ∃ a vs, v = .ref a ∧ Hb a = none ∧ H a = some (.lst vs) ∧ RpAll K Hb vs xs ∧ H0 a = none
  | .slot _ => False
def RepR (K : PySem.W.Frag) (Hb H : Hp) (σ : St) (ρ : R) (H0 : Hp) (v : V) : Res → Prop
  | .val d => Rp K Hb v d
  | .fresh xs => ∃ a vs, v = .ref a ∧ Hb a = none ∧ H a = some (.lst vs) ∧ RpAll K Hb vs xs ∧ H0 a = none ∧ ¬ Own σ ρ a
  | .slot i => σ[i]? = some (some v)
theorem RepR.step {H0 : Hp} (g : Go σ ρ Hb H σ ρ1 Hb1 H1) (h : RepR K Hb H σ ρ H0 v r) : RepR K Hb1 H1 σ ρ1 H0 v r := by
  cases r with
  | val d =>
    have h : Rp K Hb v d := h
    exact h.mono g.b
  | slot i => exact h
  | fresh xs =>
    obtain ⟨a, vs, e, h1, h2, h3, h4, h5⟩ := h
    refine ⟨a, vs, e, ?_, g.k a _ h2 h5, h3.mono g.b, h4, fun q => ?_⟩
    · refine Classical.byContradiction fun q => ?_
      rcases g.f a h1 q with z | z
      · rw [h2] at z; cases z
      · exact h5 z
    · rcases g.o a q with z | z
      · exact h5 z
      · rw [h2] at z; cases z
/-- read from an earlier state -/
theorem RepR.from' {H0 H00 : Hp} (t : ∀ a, H00 a ≠ none → H0 a ≠ none) (h : RepR K Hb H σ ρ H0 v r) : RepR K Hb H σ ρ H00 v r := by
  cases r with
  | val d => exact h
  | slot i => exact h
  | fresh xs =>
    obtain ⟨a, vs, e, h1, h2, h3, h4, h5⟩ := h
    exact ⟨a, vs, e, h1, h2, h3, Classical.byContradiction fun q => t a q h4, h5⟩
theorem RR.rep {H0 : Hp} (R : Rel K Hb H0 σ ρ) (h : RR K Hb1 H1 H0 v r) : RepR K Hb1 H1 σ ρ H0 v r := by
  cases r with
  | val d => exact h
  | slot i => exact h.elim
  | fresh xs =>
    obtain ⟨a, vs, e, h1, h2, h3, h4⟩ := h
    refine ⟨a, vs, e, h1, h2, h3, h4, fun q => ?_⟩
    obtain ⟨_, ws, z⟩ := R.owned q
    rw [h4] at z; cases z

/-- what is seen: the datum, its top perhaps in a list that may change -/
def Top (K : PySem.W.Frag) (Hb H : Hp) (v : V) (d : D) : Prop := Rp K Hb v d ∨ ∃ a vs xs, v = .ref a ∧ d = .list xs ∧ H a = some (.lst vs) ∧ RpAll K Hb vs xs
def look (r : Res) (ρ : R) : Option D := match r with
  | .val d => some d
  | .fresh xs => some (.list xs)
  | .slot i => match ρ[i]? with
    | some (some s) => some s.d
    | _ => none
theorem look_top {H0 : Hp} (R : Rel K Hb H σ ρ) (h : RepR K Hb H σ ρ H0 v r) (e : look r ρ = some d) : Top K Hb H v d := by
  cases r with
  | val d' => cases e; exact .inl h
  | fresh xs =>
    cases e
    obtain ⟨a, vs, e, h1, h2, h3, _⟩ := h
    exact .inr ⟨a, vs, xs, e, rfl, h2, h3⟩
  | slot i =>
    have h : σ[i]? = some (some v) := h
    unfold look at e
    dsimp only at e
    split at e
    · rename_i s hs
      cases e
      cases q : s.m.isOwn with
      | false =>
        obtain ⟨v', e1, e2⟩ := R.val i s hs q
        rw [h] at e1; cases e1
        exact .inl e2
      | true =>
        obtain ⟨a, vs, xs, e1, e2, e3, e4, e5⟩ := R.own i s hs q
        rw [h] at e1; cases e1
        exact .inr ⟨a, vs, xs, rfl, e2, e4, e5⟩
    · cases e
theorem Top.mono (n : New Hb H Hb1 H1) (h : Top K Hb H v d) : Top K Hb1 H1 v d := by
  rcases h with h | ⟨a, vs, xs, e1, e2, e3, e4⟩
  · exact .inl (h.mono n.b)
  · exact .inr ⟨a, vs, xs, e1, e2, n.h a _ e3, e4.mono n.b⟩
/-- .. in the heap as it is -/
theorem Top.rp (e : Ex Hb H) (h : Top K Hb H v d) : Rp K H v d := by
  rcases h with h | ⟨a, vs, xs, rfl, rfl, e3, e4⟩
  · exact h.mono e
  · exact .lst (SqL.of e3) (e4.mono e)
theorem Top.list {xs : List D} (e : Ex Hb H) (h : Top K Hb H v (.list xs)) : ∃ a vs, v = .ref a ∧ SqL K H a vs ∧ RpAll K Hb vs xs := by
  rcases h with h | ⟨a, vs, xs', rfl, e2, e3, e4⟩
  · cases h with
    | lst h1 h2 => exact ⟨_, _, rfl, ex_l e h1, h2⟩
  · cases e2
    exact ⟨a, vs, rfl, SqL.of e3, e4⟩
theorem Top.tuple {xs : List D} (e : Ex Hb H) (h : Top K Hb H v (.tuple xs)) : ∃ a vs, v = .ref a ∧ SqT K H a vs ∧ RpAll K Hb vs xs := by
  rcases h with h | ⟨a, vs, xs', rfl, e2, e3, e4⟩
  · cases h with
    | tup h1 h2 => exact ⟨_, _, rfl, ex_t e h1, h2⟩
  · cases e2
theorem Top.int {i : Int} (h : Top K Hb H v (.int i)) : v = .int i := by
  rcases h with h | ⟨a, vs, xs', rfl, e2, _⟩
  · exact h.int_inv
  · cases e2
theorem Top.bool {i : Bool} (h : Top K Hb H v (.bool i)) : v = .bl i := by
  rcases h with h | ⟨a, vs, xs', rfl, e2, _⟩
  · exact h.bool_inv
  · cases e2
theorem Top.str {i : Str} (h : Top K Hb H v (.str i)) : v = .str i := by
  rcases h with h | ⟨a, vs, xs', rfl, e2, _⟩
  · exact h.str_inv
  · cases e2
theorem Top.none (h : Top K Hb H v .none) : v = .non := by
  rcases h with h | ⟨a, vs, xs', rfl, e2, _⟩
  · exact h.none_inv
  · cases e2
end
end Mi

/-! Mi: readings by what a state-and-data function tells. -/
namespace Mi
open PySem L2 Evl

/-- nothing leaves -/
abbrev E0W : WX := fun _ _ _ _ => False
/-- an exception of the class e.cls -/
def ExcR (K : PySem.W.Frag) (mg : Str → Option Value) (Hb H : Hp) (c : Value) (d : Option Addr) (e : Exc) : Prop :=
  mg e.cls = some c ∧ ((d = none ∧ e.fs = []) ∨ ∃ dx fs, d = some dx ∧ H dx = some (.xd fs) ∧ Hb dx = none ∧ Paired (fun (p : Str × V) (q : Str × D) => p.1 = q.1 ∧ Rp K Hb p.2 q.2) fs e.fs)
section
variable (K : PySem.W.Frag) (mg : Str → Option Value) (E : WX)
def Sat {α : Type} (σ : St) (Hb H : Hp) (ρ : R) (m : M α) (P : α → St → R → Hp → Hp → Prop) : Prop :=
  ∃ out ρ', m ρ = some (out, ρ') ∧ (∀ a, out = .ok a → ∀ σ' Hb' H', Go σ ρ Hb H σ' ρ' Hb' H' → Rel K Hb' H' σ' ρ' → P a σ' ρ' Hb' H') ∧
    (∀ e, out = .exc e → ∀ σ' c d Hb' H', Go σ ρ Hb H σ' ρ' Hb' H' → Rel K Hb' H' σ' ρ' → ExcR K mg Hb' H' c d e → E c d σ' H')
/-- an expression's reading, a test's, an argument list's, a statement's -/
def tE (m : M Res) : TE := fun σ H Q => ∃ Hb ρ, Rel K Hb H σ ρ ∧ Sat K mg E σ Hb H ρ m fun r σ' ρ' Hb' H' => σ' = σ → ∀ v, RepR K Hb' H' σ ρ' H v r → Q v H'
def tT (m : M Bool) : TT := fun σ H Q => ∃ Hb ρ, Rel K Hb H σ ρ ∧ Sat K mg E σ Hb H ρ m fun b σ' ρ' Hb' H' => σ' = σ → Q b H'
/-- arguments: data and slots (no list is new) -/
inductive RepA (K : PySem.W.Frag) (Hb : Hp) (σ : St) : List V → List Res → Prop
  | nil : RepA K Hb σ [] []
  | val {v : V} {vs : List V} {d : D} {rs : List Res} : Rp K Hb v d → RepA K Hb σ vs rs → RepA K Hb σ (v :: vs) (.val d :: rs)
  | slot {v : V} {vs : List V} {i : Nat} {rs : List Res} : σ[i]? = some (some v) → RepA K Hb σ vs rs → RepA K Hb σ (v :: vs) (.slot i :: rs)
def tA (m : M (List Res)) : TA := fun σ H Q => ∃ Hb ρ, Rel K Hb H σ ρ ∧ Sat K mg E σ Hb H ρ m fun rs σ' ρ' Hb' H' => σ' = σ → ∀ vs, RepA K Hb' σ vs rs → Q vs H'
inductive Fl where
  | nx | bk | ct
  | rt (r : Res)
def FlP (De : Ends) (H0 : Hp) : Fl → St → R → Hp → Hp → Prop
  | .nx, σ', _, _, H' => De.nx σ' H'
  | .bk, σ', _, _, H' => De.bk σ' H'
  | .ct, σ', _, _, H' => De.ct σ' H'
  | .rt r, σ', ρ', Hb', H' => ∀ v, RepR K Hb' H' σ' ρ' H0 v r → De.rt v H'
def tS (m : M Fl) : TS := fun De σ H => ∃ Hb ρ, Rel K Hb H σ ρ ∧ Sat K mg E σ Hb H ρ m (FlP K De H)
/-- a target's -/
def tG (g : D → M Unit) : TG := fun v σ H Q => ∃ Hb ρ d, Rel K Hb H σ ρ ∧ Rp K Hb v d ∧ Sat K mg E σ Hb H ρ (g d) fun _ σ' _ _ H' => Q σ' H'
end

section
variable {K : PySem.W.Frag} {mg : Str → Option Value} {E : WX} {σ : St} {Hb H : Hp} {ρ : R} {α β : Type}
theorem Sat.mono {m : M α} {P P' : α → St → R → Hp → Hp → Prop} (h : Sat K mg E σ Hb H ρ m P)
    (k : ∀ a σ' ρ' Hb' H', Go σ ρ Hb H σ' ρ' Hb' H' → Rel K Hb' H' σ' ρ' → P a σ' ρ' Hb' H' → P' a σ' ρ' Hb' H') : Sat K mg E σ Hb H ρ m P' := by
  obtain ⟨out, ρ', e, h1, h2⟩ := h
  exact ⟨out, ρ', e, fun a q σ' Hb' H' g r => k a σ' ρ' Hb' H' g r (h1 a q σ' Hb' H' g r), h2⟩
theorem Sat.eq {m m' : M α} {P : α → St → R → Hp → Hp → Prop} (h : Sat K mg E σ Hb H ρ m P) (e : m ρ = m' ρ) : Sat K mg E σ Hb H ρ m' P := by
  unfold Sat at h ⊢
  rw [← e]
  exact h
theorem Sat.bnd0 {m : M α} {f : α → M β} {P : β → St → R → Hp → Hp → Prop} (h : Sat K mg E σ Hb H ρ (bnd m f) P) :
    Sat K mg E σ Hb H ρ m fun a σ1 ρ1 Hb1 H1 => ∃ out ρ2, f a ρ1 = some (out, ρ2) ∧ (∀ b, out = .ok b → ∀ σ2 Hb2 H2, Go σ ρ Hb H σ2 ρ2 Hb2 H2 → Rel K Hb2 H2 σ2 ρ2 → P b σ2 ρ2 Hb2 H2) ∧
      (∀ e, out = .exc e → ∀ σ' c d Hb' H', Go σ ρ Hb H σ' ρ2 Hb' H' → Rel K Hb' H' σ' ρ2 → ExcR K mg Hb' H' c d e → E c d σ' H') := by
  obtain ⟨out, ρ', e, h1, h2⟩ := h
  unfold Mi.bnd at e
  split at e
  · rename_i a ρ1 e1
    refine ⟨_, _, e1, fun a' q σ1 Hb1 H1 g1 r1 => ?_, fun e' q => (by cases q)⟩
    cases q
    exact ⟨out, ρ', e, h1, h2⟩
  · rename_i e' ρ1 e1
    cases e
    refine ⟨_, _, e1, fun a' q => (by cases q), fun e'' q => ?_⟩
    cases q
    exact h2 _ rfl
  · cases e
theorem Sat.bnd {m : M α} {f : α → M β} {P : β → St → R → Hp → Hp → Prop} (h : Sat K mg E σ Hb H ρ (bnd m f) P) :
    Sat K mg E σ Hb H ρ m fun a σ1 ρ1 Hb1 H1 => Sat K mg E σ1 Hb1 H1 ρ1 (f a) fun b σ2 ρ2 Hb2 H2 => Go σ ρ Hb H σ2 ρ2 Hb2 H2 → P b σ2 ρ2 Hb2 H2 :=
  h.bnd0.mono fun a σ1 ρ1 Hb1 H1 g1 R1 ⟨out, ρ2, e, h1, h2⟩ =>
    ⟨out, ρ2, e, fun b q σ2 Hb2 H2 _ r2 g => h1 b q σ2 Hb2 H2 g r2, fun e' q σ2 c d Hb2 H2 g2 r2 x => h2 e' q σ2 c d Hb2 H2 (g1.trans g2) r2 x⟩
theorem Sat.ret {a : α} {P : α → St → R → Hp → Hp → Prop} (R : Rel K Hb H σ ρ) (h : Sat K mg E σ Hb H ρ (ret a) P) : P a σ ρ Hb H := by
  obtain ⟨out, ρ', e, h1, _⟩ := h
  cases e
  exact h1 a rfl σ Hb H Go.refl R
end

/-! ### weakening -/
section
variable {X : Cx} {e : Expr} {t t' : TE} {es : List Expr}
theorem _root_.L2.PE.imp (h : PE X e t) (k : ∀ σ H Q, t' σ H Q → t σ H Q) : PE X e t' := ⟨fun pins s σ H Q I w => h.run pins s σ H Q I (k σ H Q w)⟩
theorem _root_.L2.PT.imp {t t' : TT} (h : PT X e t) (k : ∀ σ H Q, t' σ H Q → t σ H Q) : PT X e t' := ⟨fun pins s σ H Q I w => h.run pins s σ H Q I (k σ H Q w)⟩
theorem _root_.L2.PW.imp {t t' : TT} (h : PW X e t) (k : ∀ σ H Q, t' σ H Q → t σ H Q) : PW X e t' := ⟨fun wh pins s σ H Q I w => h.run wh pins s σ H Q I (k σ H Q w)⟩
theorem _root_.L2.PA.imp {t t' : TA} (h : PA X es t) (k : ∀ σ H Q, t' σ H Q → t σ H Q) : PA X es t' := ⟨fun pos pins s σ H Q I w => h.run pos pins s σ H Q I (k σ H Q w)⟩
theorem _root_.L2.PS.imp {st : Stmt} {t t' : TS} (h : PS X st t) (k : ∀ D σ H, t' D σ H → t D σ H) : PS X st t' := ⟨fun pins s σ H De I w => h.run pins s σ H De I (k De σ H w)⟩
theorem _root_.L2.PSs.imp {st : List Stmt} {t t' : TS} (h : PSs X st t) (k : ∀ D σ H, t' D σ H → t D σ H) : PSs X st t' := ⟨fun pins s σ H De I w => h.run pins s σ H De I (k De σ H w)⟩
theorem _root_.L2.PG.imp {tg : Expr} {t t' : TG} (h : PG X tg t) (k : ∀ v σ H Q, t' v σ H Q → t v σ H Q) : PG X tg t' := ⟨fun pins s σ H v u Q I r w => h.run pins s σ H v u Q I r (k v σ H Q w)⟩
end

/-! ### results made plain -/
/-- a new list becomes a datum -/
def thawR : Res → Res
  | .fresh xs => .val (.list xs)
  | r => r
def thaw (m : M Res) : M Res := bnd m fun r => ret (thawR r)
/-- any result becomes a datum; a slot's list is no more its own -/
def valR : Res → M D
  | .val d => ret d
  | .fresh xs => ret (.list xs)
  | .slot i => fun ρ => match ρ[i]? with
    | some (some ⟨.val, d⟩) => some (.ok d, ρ)
    | some (some ⟨.own, d⟩) => some (.ok d, ρ.set i (some ⟨.val, d⟩))
    | _ => none
def mVal (m : M Res) : M D := bnd m valR
section
variable {K : PySem.W.Frag} {mg : Str → Option Value} {E : WX} {σ : St} {Hb H Hb1 H1 : Hp} {ρ ρ1 : R} {v : V} {r : Res} {d : D}
/-- the new list at a is frozen -/
theorem freeze_fresh {a : Addr} {vs : List V} (g : Go σ ρ Hb H σ ρ1 Hb1 H1) (R1 : Rel K Hb1 H1 σ ρ1) (h1 : Hb1 a = none) (h2 : H1 a = some (.lst vs)) (h4 : H a = none) (h5 : ¬ Own σ ρ1 a) :
    Go σ ρ Hb H σ ρ1 (upd Hb1 a (.lst vs)) H1 ∧ Rel K (upd Hb1 a (.lst vs)) H1 σ ρ1 ∧ Ex Hb1 (upd Hb1 a (.lst vs)) ∧ SqL K (upd Hb1 a (.lst vs)) a vs := by
  have ex : Ex Hb1 (upd Hb1 a (.lst vs)) := Ex.new h1
  refine ⟨⟨g.b.trans ex, g.k, fun b q1 q2 => ?_, g.t, g.o, g.io, g.lk⟩, ⟨R1.len, fun b o q => ?_, fun i s q1 q2 => ?_, fun i s q1 q2 => ?_, R1.inj⟩, ex, SqL.of upd_same⟩
  · by_cases e : b = a
    · rw [e]; exact .inl h4
    · rw [upd_ne e] at q2; exact g.f b q1 q2
  · by_cases e : b = a
    · subst e; rw [upd_same] at q; cases q; exact h2
    · rw [upd_ne e] at q; exact R1.ex b o q
  · obtain ⟨w, e1, e2⟩ := R1.val i s q1 q2
    exact ⟨w, e1, e2.mono ex⟩
  · obtain ⟨b, ws, xs, e1, e2, e3, e4, e5⟩ := R1.own i s q1 q2
    refine ⟨b, ws, xs, e1, e2, ?_, e4, e5.mono ex⟩
    rw [upd_ne ?_]
    · exact e3
    · intro e
      exact h5 ⟨i, s, q1, q2, by rw [e1, e]⟩
/-- the list of slot i is frozen -/
theorem freeze_slot {i : Nat} {x : D} (R1 : Rel K Hb1 H1 σ ρ1) (hs : ρ1[i]? = some (some ⟨.own, x⟩)) :
    ∃ Hb2, Go σ ρ1 Hb1 H1 σ (ρ1.set i (some ⟨.val, x⟩)) Hb2 H1 ∧ Rel K Hb2 H1 σ (ρ1.set i (some ⟨.val, x⟩)) ∧ ∃ v, σ[i]? = some (some v) ∧ Rp K Hb2 v x := by
  obtain ⟨a, vs, xs, e1, e2, e3, e4, e5⟩ := R1.own i _ hs rfl
  have e2 : x = .list xs := e2
  subst e2
  have ex : Ex Hb1 (upd Hb1 a (.lst vs)) := Ex.new e3
  have hi : i < ρ1.length := (List.getElem?_eq_some_iff.mp hs).1
  have hown : Own σ ρ1 a := ⟨i, _, hs, rfl, e1⟩
  have back : ∀ (j : Nat) (s : Slot), (ρ1.set i (some ⟨.val, .list xs⟩))[j]? = some (some s) → (j = i ∧ s = ⟨.val, .list xs⟩) ∨ (j ≠ i ∧ ρ1[j]? = some (some s)) := fun j s q => by
    by_cases e : j = i
    · subst e
      rw [List.getElem?_set_self hi] at q
      cases q
      exact .inl ⟨rfl, rfl⟩
    · rw [List.getElem?_set_ne (Ne.symm e)] at q
      exact .inr ⟨e, q⟩
  have rp : Rp K (upd Hb1 a (.lst vs)) (.ref a) (.list xs) := .lst (SqL.of upd_same) (e5.mono ex)
  refine ⟨upd Hb1 a (.lst vs), ⟨ex, fun _ _ h _ => h, fun b q1 q2 => ?_, fun _ h => h, fun b q => ?_, fun j s q1 q2 => ?_, fun j s q1 q2 => ?_⟩, ⟨by simp [R1.len], fun b o q => ?_, fun j s q1 q2 => ?_, fun j s q1 q2 => ?_, fun j k s t b q1 q2 q3 q4 q5 q6 => ?_⟩, _, e1, rp⟩
  · by_cases e : b = a
    · rw [e]; exact .inr hown
    · rw [upd_ne e] at q2; exact absurd q1 q2
  · obtain ⟨j, s, q1, q2, q3⟩ := q
    rcases back j s q1 with ⟨_, z⟩ | ⟨_, z⟩
    · rw [z] at q2; cases q2
    · exact .inl ⟨j, s, z, q2, q3⟩
  · by_cases e : j = i
    · subst e; rw [hs] at q1; cases q1; cases q2
    · exact ⟨rfl, s, by rw [List.getElem?_set_ne (Ne.symm e)]; exact q1, q2⟩
  · by_cases e : j = i
    · subst e; rw [hs] at q1; cases q1; cases q2
    · exact ⟨rfl, by rw [List.getElem?_set_ne (Ne.symm e)]; exact q1⟩
  · by_cases e : b = a
    · subst e; rw [upd_same] at q; cases q; exact e4
    · rw [upd_ne e] at q; exact R1.ex b o q
  · rcases back j s q1 with ⟨z1, z⟩ | ⟨_, z⟩
    · subst z; subst z1
      exact ⟨_, e1, rp⟩
    · obtain ⟨w, f1, f2⟩ := R1.val j s z q2
      exact ⟨w, f1, f2.mono ex⟩
  · rcases back j s q1 with ⟨_, z⟩ | ⟨ne, z⟩
    · rw [z] at q2; cases q2
    · obtain ⟨b, ws, ys, f1, f2, f3, f4, f5⟩ := R1.own j s z q2
      refine ⟨b, ws, ys, f1, f2, ?_, f4, f5.mono ex⟩
      rw [upd_ne ?_]
      · exact f3
      · intro e
        subst e
        exact ne (R1.inj j i s _ b z hs q2 rfl f1 e1)
  · rcases back j s q1 with ⟨_, z⟩ | ⟨_, z⟩
    · rw [z] at q3; cases q3
    · rcases back k t q2 with ⟨_, z'⟩ | ⟨_, z'⟩
      · rw [z'] at q4; cases q4
      · exact R1.inj j k s t b z z' q3 q4 q5 q6
theorem rep_thaw (g : Go σ ρ Hb H σ ρ1 Hb1 H1) (R1 : Rel K Hb1 H1 σ ρ1) (h : RepR K Hb1 H1 σ ρ1 H v r) :
    ∃ Hb2, Go σ ρ Hb H σ ρ1 Hb2 H1 ∧ Rel K Hb2 H1 σ ρ1 ∧ Ex Hb1 Hb2 ∧ RepR K Hb2 H1 σ ρ1 H v (thawR r) := by
  cases r with
  | val d => exact ⟨Hb1, g, R1, Ex.refl _, h⟩
  | slot i => exact ⟨Hb1, g, R1, Ex.refl _, h⟩
  | fresh xs =>
    obtain ⟨a, vs, e, h1, h2, h3, h4, h5⟩ := h
    obtain ⟨g', R', ex, sq⟩ := freeze_fresh g R1 h1 h2 h4 h5
    refine ⟨_, g', R', ex, ?_⟩
    subst e
    exact .lst sq (h3.mono ex)
theorem rep_val {d : D} {ρ2 : R} (g : Go σ ρ Hb H σ ρ1 Hb1 H1) (R1 : Rel K Hb1 H1 σ ρ1) (h : RepR K Hb1 H1 σ ρ1 H v r) (e : valR r ρ1 = some (.ok d, ρ2)) :
    ∃ Hb2, Go σ ρ Hb H σ ρ2 Hb2 H1 ∧ Rel K Hb2 H1 σ ρ2 ∧ Rp K Hb2 v d := by
  cases r with
  | val d' =>
    cases e
    exact ⟨Hb1, g, R1, h⟩
  | fresh xs =>
    cases e
    obtain ⟨a, vs, e, h1, h2, h3, h4, h5⟩ := h
    obtain ⟨g', R', ex, sq⟩ := freeze_fresh g R1 h1 h2 h4 h5
    refine ⟨_, g', R', ?_⟩
    subst e
    exact .lst sq (h3.mono ex)
  | slot i =>
    have h : σ[i]? = some (some v) := h
    unfold valR at e
    dsimp only at e
    split at e
    · rename_i x hs
      cases e
      obtain ⟨w, e1, e2⟩ := R1.val i _ hs rfl
      rw [h] at e1; cases e1
      exact ⟨Hb1, g, R1, e2⟩
    · rename_i x hs
      cases e
      obtain ⟨Hb2, g2, R2, w, e1, e2⟩ := freeze_slot R1 hs
      rw [h] at e1; cases e1
      exact ⟨Hb2, g.trans g2, R2, e2⟩
    · cases e
theorem valR_exc {x : Exc} {ρ2 : R} (e : valR r ρ1 = some (.exc x, ρ2)) : False := by
  cases r with
  | val d => cases e
  | fresh xs => cases e
  | slot i =>
    unfold valR at e
    dsimp only at e
    split at e <;> cases e
end
section
variable {X : Cx} {e : Expr} {E : WX} {m : M Res}
theorem pe_thaw (h : PE X e (tE X.K X.mg E m)) : PE X e (tE X.K X.mg E (thaw m)) := h.imp fun σ H Q w => by
  obtain ⟨Hb, ρ, R, S⟩ := w
  refine ⟨Hb, ρ, R, S.bnd0.mono ?_⟩
  intro r σ' ρ1 Hb1 H1 g R1 S1 es v rep
  subst es
  obtain ⟨Hb2, g2, R2, _, rep2⟩ := rep_thaw g R1 rep
  obtain ⟨out, ρ', e1, h1, _⟩ := S1
  cases e1
  exact h1 _ rfl _ _ _ g2 R2 rfl v rep2
/-- the values of one expression | frozen, and what follows with it -/
theorem e_val {σ : St} {H : Hp} {K : PySem.W.Frag} {mg : Str → Option Value} {E : WX} {β : Type} {m : M Res} {f : D → M β} {Hb : Hp} {ρ : R} {P : β → St → R → Hp → Hp → Prop} (R : Rel K Hb H σ ρ) (S : Sat K mg E σ Hb H ρ (bnd (mVal m) f) P) :
    tE K mg E m σ H fun v H1 => ∃ Hb1 ρ1 d, Rel K Hb1 H1 σ ρ1 ∧ Rp K Hb1 v d ∧ Go σ ρ Hb H σ ρ1 Hb1 H1 ∧ Sat K mg E σ Hb1 H1 ρ1 (f d) fun b σ' ρ' Hb' H' => Go σ ρ Hb H σ' ρ' Hb' H' → P b σ' ρ' Hb' H' := by
  have S0 : Sat K mg E σ Hb H ρ (bnd m fun r => bnd (valR r) f) P := by
    refine S.eq ?_
    unfold mVal bnd
    cases m ρ with
    | none => rfl
    | some p =>
      obtain ⟨o, ρ'⟩ := p
      cases o <;> rfl
  refine ⟨Hb, ρ, R, S0.bnd0.mono ?_⟩
  intro r σ' ρ1 Hb1 H1 g R1 S1 es v rep
  subst es
  obtain ⟨out, ρ2, e1, h1, h2⟩ := S1
  unfold bnd at e1
  split at e1
  · rename_i d ρ3 e2
    obtain ⟨Hb2, g2, R2, rp⟩ := rep_val g R1 rep e2
    exact ⟨Hb2, ρ3, d, R2, rp, g2, out, ρ2, e1, fun b q σ2 Hb3 H3 _ R3 g3 => h1 b q σ2 Hb3 H3 g3 R3, fun e q σ2 c dd Hb3 H3 g3 R3 x => h2 e q σ2 c dd Hb3 H3 (g2.trans g3) R3 x⟩
  · rename_i e' ρ3 e2
    exact (valR_exc e2).elim
  · cases e1
/-- .. thawed (a list of a slot stays the slot's) -/
theorem e_thaw {σ : St} {H : Hp} {K : PySem.W.Frag} {mg : Str → Option Value} {E : WX} {β : Type} {m : M Res} {f : Res → M β} {Hb : Hp} {ρ : R} {P : β → St → R → Hp → Hp → Prop} (R : Rel K Hb H σ ρ) (S : Sat K mg E σ Hb H ρ (bnd (thaw m) f) P) :
    tE K mg E m σ H fun v H1 => ∃ Hb1 ρ1 r, Rel K Hb1 H1 σ ρ1 ∧ RepA K Hb1 σ [v] [r] ∧ Go σ ρ Hb H σ ρ1 Hb1 H1 ∧ Sat K mg E σ Hb1 H1 ρ1 (f r) fun b σ' ρ' Hb' H' => Go σ ρ Hb H σ' ρ' Hb' H' → P b σ' ρ' Hb' H' := by
  have S0 : Sat K mg E σ Hb H ρ (bnd m fun r => f (thawR r)) P := by
    refine S.eq ?_
    unfold thaw bnd ret
    cases m ρ with
    | none => rfl
    | some p =>
      obtain ⟨o, ρ'⟩ := p
      cases o <;> rfl
  refine ⟨Hb, ρ, R, S0.bnd0.mono ?_⟩
  intro r σ' ρ1 Hb1 H1 g R1 S1 es v rep
  subst es
  obtain ⟨out, ρ2, e1, h1, h2⟩ := S1
  obtain ⟨Hb2, g2, R2, _, rep2⟩ := rep_thaw g R1 rep
  refine ⟨Hb2, ρ1, thawR r, R2, ?_, g2, out, ρ2, e1, fun b q σ2 Hb3 H3 _ R3 g3 => h1 b q σ2 Hb3 H3 g3 R3, fun e q σ2 c dd Hb3 H3 g3 R3 x => h2 e q σ2 c dd Hb3 H3 (g2.trans g3) R3 x⟩
  cases r with
  | val d => exact .val rep2 .nil
  | fresh xs => exact .val rep2 .nil
  | slot i => exact .slot rep2 .nil
end
end Mi

/-! Mi: operators on data. -/
namespace Mi
open PySem L2 Evl

/-! ### data and the library's data -/
section
variable {K : PySem.W.Frag} {H : Hp}
mutual
theorem rp_dp : ∀ {v : V} {d : D}, d.canLay0 = true → Rp K H v d → Dp K H v d
  | _, _, _, .non => .non
  | _, _, _, .bl b => .bl b
  | _, _, _, .int i => .int i
  | _, _, _, .str x => .str x
  | _, _, e, .lst h r => .lst h (rp_dpAll (by simpa [PyData.canLay0] using e) r)
  | _, _, e, .tup h r => .tup h (rp_dpAll (by simpa [PyData.canLay0] using e) r)
  | _, _, e, .dct h r => by simp [PyData.canLay0] at e
theorem rp_dpAll : ∀ {vs : List V} {ds : List D}, PyData.canLayAll0 ds = true → RpAll K H vs ds → DpAll K H vs ds
  | _, _, _, .nil => .nil
  | _, _, e, .cons a b => by
    simp only [PyData.canLayAll0, Bool.and_eq_true] at e
    exact .cons (rp_dp e.1 a) (rp_dpAll e.2 b)
end
end

/-! ### two-place operations -/
def op2 (f : D → D → Option Res) (x y : Res) : M Res := fun ρ => match look x ρ, look y ρ with
  | some d, some e => match f d e with
    | some r => some (.ok r, ρ)
    | none => none
  | _, _ => none
def mBin (f : D → D → Option Res) (a b : M Res) : M Res := bnd (thaw a) fun x => bnd (thaw b) fun y => op2 f x y
def Bin (K : PySem.W.Frag) (r : R2) (f : D → D → Option Res) : Prop := ∀ (Hb H : Hp) (x y : V) (d e : D) (res : Res) (Q : VK), Ex Hb H → Top K Hb H x d → Top K Hb H y e → f d e = some res →
  (∀ v Hb' H', New Hb H Hb' H' → RR K Hb' H' H v res → Q v H') → r x y H Q
section
variable {K : PySem.W.Frag} {mg : Str → Option Value} {E : WX} {σ : St} {Hb H Hb1 H1 : Hp} {ρ ρ1 : R} {v : V} {r : Res} {d : D}
theorem repA_one {P : Prop} (h : RepA K Hb σ [v] [r]) (H : Hp) (ρ : R) (H0 : Hp) : RepR K Hb H σ ρ H0 v r := by
  cases h with
  | val h _ => exact h
  | slot h _ => exact h
theorem RepA.mono (e : Ex Hb Hb1) : ∀ {vs : List V} {rs : List Res}, RepA K Hb σ vs rs → RepA K Hb1 σ vs rs
  | _, _, .nil => .nil
  | _, _, .val a b => .val (a.mono e) (b.mono e)
  | _, _, .slot a b => .slot a (b.mono e)
theorem RepA.append : ∀ {vs ws : List V} {rs qs : List Res}, RepA K Hb σ vs rs → RepA K Hb σ ws qs → RepA K Hb σ (vs ++ ws) (rs ++ qs)
  | _, _, _, _, .nil, h => h
  | _, _, _, _, .val a b, h => .val a (b.append h)
  | _, _, _, _, .slot a b, h => .slot a (b.append h)
theorem RepA.length : ∀ {vs : List V} {rs : List Res}, RepA K Hb σ vs rs → vs.length = rs.length
  | _, _, .nil => rfl
  | _, _, .val _ b => congrArg Nat.succ b.length
  | _, _, .slot _ b => congrArg Nat.succ b.length
/-- what a slot or a datum shows -/
theorem repA_top (R : Rel K Hb H σ ρ) (h : RepA K Hb σ [v] [r]) (e : look r ρ = some d) : Top K Hb H v d :=
  look_top (H0 := H) R (repA_one (P := True) h H ρ H) e
/-- the end of an operation: a result over new objects -/
theorem sat_end {α : Type} {a : α} {P : α → St → R → Hp → Hp → Prop} {m : M α} (R : Rel K Hb H σ ρ) (S : Sat K mg E σ Hb H ρ m P) (e : m ρ = some (.ok a, ρ)) {Hb' H' : Hp} (n : New Hb H Hb' H') : P a σ ρ Hb' H' := by
  obtain ⟨out, ρ', e', h1, _⟩ := S
  rw [e] at e'
  cases e'
  exact h1 a rfl σ Hb' H' n.go (n.rel R)
theorem op2_some {f : D → D → Option Res} {x y : Res} {o : Out Res × R} (e : op2 f x y ρ = some o) : ∃ d e r, look x ρ = some d ∧ look y ρ = some e ∧ f d e = some r ∧ o = (.ok r, ρ) := by
  unfold op2 at e
  split at e
  · rename_i d e' h1 h2
    split at e
    · rename_i r h3
      cases e
      exact ⟨d, e', r, h1, h2, h3, rfl⟩
    · cases e
  · cases e
/-- the operation itself -/
theorem op2_run {f : D → D → Option Res} {r : R2} (hb : Bin K r f) {x y : Res} {v w : V} {Q : VK} (R : Rel K Hb H σ ρ) (hx : RepA K Hb σ [v] [x]) (hy : RepA K Hb σ [w] [y]) {H0 : Hp} (t : ∀ a, H0 a ≠ none → H a ≠ none)
    (S : Sat K mg E σ Hb H ρ (op2 f x y) fun r σ' ρ' Hb' H' => σ' = σ → ∀ v, RepR K Hb' H' σ ρ' H0 v r → Q v H') : r v w H Q := by
  obtain ⟨out, ρ', e, h1, h2⟩ := S
  obtain ⟨d, e', res, l1, l2, l3, l4⟩ := op2_some e
  cases l4
  refine hb Hb H v w d e' res Q R.ex (repA_top R hx l1) (repA_top R hy l2) l3 fun u Hb' H' n rr => ?_
  exact h1 res rfl σ Hb' H' n.go (n.rel R) rfl u ((rr.rep R).from' t)
end
theorem Sat.after {K : PySem.W.Frag} {mg : Str → Option Value} {E : WX} {σ : St} {Hb H Hb1 H1 : Hp} {ρ ρ1 : R} {α : Type} {m : M α} {P P' : α → St → R → Hp → Hp → Prop} (g : Go σ ρ Hb H σ ρ1 Hb1 H1)
    (S : Sat K mg E σ Hb1 H1 ρ1 m fun b σ' ρ' Hb' H' => Go σ ρ Hb H σ' ρ' Hb' H' → P b σ' ρ' Hb' H') (k : ∀ b σ' ρ' Hb' H', Go σ ρ1 Hb1 H1 σ' ρ' Hb' H' → Rel K Hb' H' σ' ρ' → P b σ' ρ' Hb' H' → P' b σ' ρ' Hb' H') : Sat K mg E σ Hb1 H1 ρ1 m P' :=
  S.mono fun b σ' ρ' Hb' H' g2 R2 p => k b σ' ρ' Hb' H' g2 R2 (p (g.trans g2))
theorem bin_read {K : PySem.W.Frag} {mg : Str → Option Value} {E : WX} {f : D → D → Option Res} {r : R2} (hb : Bin K r f) {ma mb : M Res} {σ : St} {H : Hp} {Q : VK} (w : tE K mg E (mBin f ma mb) σ H Q) : tOp r (tE K mg E ma) (tE K mg E mb) σ H Q := by
  obtain ⟨Hb, ρ, R, S⟩ := w
  have h1 := e_thaw (H := H) R S
  obtain ⟨Hb0, ρ0, R0, S0⟩ := h1
  refine ⟨Hb0, ρ0, R0, S0.mono fun x σ1 ρ1 Hb1 H1 g1 R1 c1 es v rep => ?_⟩
  obtain ⟨Hb1', ρ1', x', R1', rx, g1', S1⟩ := c1 es v rep
  obtain ⟨Hb2, ρ2, R2, S2⟩ := e_thaw (H := H1) R1' S1
  refine ⟨Hb2, ρ2, R2, S2.mono fun y σ2 ρ3 Hb3 H3 g3 R3 c3 es3 v3 rep3 => ?_⟩
  obtain ⟨Hb4, ρ4, y', R4, ry, g4, S4⟩ := c3 es3 v3 rep3
  refine op2_run (mg := mg) (E := E) hb (H0 := H) R4 (rx.mono g4.b) ry (g1'.trans g4).t ?_
  exact S4.mono fun b σ' ρ' Hb' H' g5 R5 p => p (g4.trans g5) ((g1'.trans g4).trans g5)
theorem pe_bin {X : Cx} {E : WX} {op : Operator} {a b : Expr} {pos : Pos} {r : R2} {f : D → D → Option Res} {ma mb : M Res} (ho : OpR X (binaryOp op) r) (hb : Bin X.K r f) (ha : PE X a (tE X.K X.mg E ma)) (hb' : PE X b (tE X.K X.mg E mb)) :
    PE X (.BinOp a op b pos) (tE X.K X.mg E (mBin f ma mb)) := (pe_op ho ha hb').imp fun _ _ _ w => bin_read hb w
theorem pe_cmp2 {X : Cx} {E : WX} {op : CmpOp} {a b : Expr} {pos : Pos} {r : R2} {f : D → D → Option Res} {ma mb : M Res} (ho : OpR X (compareOp op) r) (hb : Bin X.K r f) (ha : PE X a (tE X.K X.mg E ma)) (hb' : PE X b (tE X.K X.mg E mb))
    (hm : behindInMarks op b = false) : PE X (.Compare a [op] [b] pos) (tE X.K X.mg E (mBin f ma mb)) := (pe_cmpR ho ha hb' hm).imp fun _ _ _ w => bin_read hb w
theorem pe_ixo {X : Cx} {E : WX} {a b : Expr} {pos : Pos} {r : R2} {f : D → D → Option Res} {ma mb : M Res} (ho : IxR X r) (hb : Bin X.K r f) (ha : PE X a (tE X.K X.mg E ma)) (hb' : PE X b (tE X.K X.mg E mb))
    (hs : PlainIx b) : PE X (.Subscript a b pos) (tE X.K X.mg E (mBin f ma mb)) := (pe_ix ho ha hb' hs).imp fun _ _ _ w => bin_read hb w

/-! ### which -/
theorem Bin.or {K : PySem.W.Frag} {r r' : R2} {f f' : D → D → Option Res} (h : Bin K r f) (h' : Bin K r' f') : Bin K (fun x y H Q => r x y H Q ∨ r' x y H Q) (fun d e => match f d e with | some z => some z | none => f' d e) := by
  intro Hb H x y d e res Q ex hx hy hf k
  dsimp only at hf
  cases q : f d e with
  | some z =>
    rw [q] at hf
    exact .inl (h Hb H x y d e res Q ex hx hy (q.trans hf) k)
  | none =>
    rw [q] at hf
    exact .inr (h' Hb H x y d e res Q ex hx hy hf k)
theorem Bin.of {K : PySem.W.Frag} {r : R2} {f : D → D → Option Res} (h : ∀ (Hb H : Hp) (x y : V) (d e : D) (res : Res) (Q : VK), Ex Hb H → Top K Hb H x d → Top K Hb H y e → f d e = some res →
  (∀ v Hb' H', New Hb H Hb' H' → RR K Hb' H' H v res → Q v H') → r x y H Q) : Bin K r f := h

/-- ints, a condition, a result -/
def fI (C : Int → Int → Bool) (g : Int → Int → D) : D → D → Option Res
  | .int i, .int j => if C i j then some (.val (g i j)) else none
  | _, _ => none
theorem bin_I {K : PySem.W.Frag} {C : Int → Int → Prop} {C' : Int → Int → Bool} {g : Int → Int → V} {g' : Int → Int → D} (hC : ∀ i j, C' i j = true → C i j) (hg : ∀ i j Hb, Rp K Hb (g i j) (g' i j)) : Bin K (rI C g) (fI C' g') := by
  intro Hb H x y d e res Q ex hx hy hf k
  unfold fI at hf
  split at hf
  · rename_i i j
    split at hf
    · rename_i c
      cases hf
      exact ⟨i, j, hx.int, hy.int, hC i j c, k _ Hb H (New.refl ex) (hg i j Hb)⟩
    · cases hf
  · cases hf
theorem bin_I0 {K : PySem.W.Frag} {g : Int → Int → V} {g' : Int → Int → D} (hg : ∀ i j Hb, Rp K Hb (g i j) (g' i j)) : Bin K (rI0 g) (fI (fun _ _ => true) g') := by
  intro Hb H x y d e res Q ex hx hy hf k
  unfold fI at hf
  split at hf
  · rename_i i j
    split at hf
    · cases hf
      exact ⟨i, j, hx.int, hy.int, k _ Hb H (New.refl ex) (hg i j Hb)⟩
    · cases hf
  · cases hf
/-- + -/
def rAddS : R2 := fun x y H Q => ∃ i j, x = .str i ∧ y = .str j ∧ i.length + j.length ≤ sizeLine ∧ Q (.str (i ++ j)) H
def rAddL (K : PySem.W.Frag) : R2 := fun x y H Q => ∃ l b xs zs, x = .ref l ∧ y = .ref b ∧ SqL K H l xs ∧ SqL K H b zs ∧ xs.length + zs.length ≤ sizeLine ∧ ∀ p, H p = none → Q (.ref p) (upd H p (.lst (xs ++ zs)))
theorem op_addL {X : Cx} : OpR X (binaryOp .Add) (rAddL X.K) := by
  intro pins s σ H x y v u Q I rx ry h
  obtain ⟨l, b, xs, zs, rfl, rfl, hH, hB, hz, q⟩ := h
  cases rx
  cases ry
  obtain ⟨its, r, ⟨⟨cls, dd, data, sl⟩, n, ho, hc, hdd, hd⟩, _⟩ := I.list hH
  obtain ⟨its2, r2, ⟨⟨cls2, dd2, data2, sl2⟩, n2, ho2, hc2, hdd2, hd2⟩, _⟩ := I.list hB
  simp only at hc hd hdd hc2 hd2 hdd2
  subst hc hd hdd hc2 hd2 hdd2
  have hl := r.length
  have hl2 := r2.length
  have e : its.toArray ++ its2.toArray = (its ++ its2).toArray := by simp
  refine concat_meets ⟨_, ho, rfl⟩ ⟨_, ho2, rfl⟩ noFill_list_add seq_list_add PySem.F.slot_list_add PySem.F.entry_list_add (PySem.F.args_list_add_2 _ _) (PyProof.Rows.list_addW l b its.toArray its2.toArray n n2 none none sl sl2 (by simp only [List.size_toArray]; omega)) ⟨ho, ho2, ?_⟩
  rw [e]
  exact ⟨.ref _, _, I.lnew (t' := s.toks) (r.append r2) (by rw [List.length_append]; omega), rfl, q _ I.fresh⟩
def addS : D → D → Option Res
  | .str x, .str y => if x.length + y.length ≤ sizeLine then some (.val (.str (x ++ y))) else none
  | _, _ => none
def addL : D → D → Option Res
  | .list x, .list y => if x.length + y.length ≤ sizeLine then some (.fresh (x ++ y)) else none
  | _, _ => none
def addT : D → D → Option Res
  | .tuple x, .tuple y => if x.length + y.length ≤ sizeLine then some (.val (.tuple (x ++ y))) else none
  | _, _ => none
theorem bin_addS {K : PySem.W.Frag} : Bin K rAddS addS := by
  intro Hb H x y d e res Q ex hx hy hf k
  unfold addS at hf
  split at hf
  · rename_i i j
    split at hf
    · rename_i c
      cases hf
      exact ⟨i, j, hx.str, hy.str, c, k _ Hb H (New.refl ex) (.str _)⟩
    · cases hf
  · cases hf
theorem bin_addL {K : PySem.W.Frag} : Bin K (rAddL K) addL := by
  intro Hb H x y d e res Q ex hx hy hf k
  unfold addL at hf
  split at hf
  · rename_i i j
    split at hf
    · rename_i c
      cases hf
      obtain ⟨a, vs, rfl, sa, ra⟩ := hx.list ex
      obtain ⟨b, ws, rfl, sb, rb⟩ := hy.list ex
      refine ⟨a, b, vs, ws, rfl, rfl, sa, sb, by rw [ra.length, rb.length]; exact c, fun p hp => k _ Hb _ (New.mut ex hp) ?_⟩
      exact ⟨p, _, rfl, fresh_back ex hp, upd_same, ra.append rb, hp⟩
    · cases hf
  · cases hf
theorem Top.tuple' {K : PySem.W.Frag} {Hb H : Hp} {v : V} {xs : List D} (h : Top K Hb H v (.tuple xs)) : ∃ a vs, v = .ref a ∧ SqT K Hb a vs ∧ RpAll K Hb vs xs := by
  rcases h with h | ⟨a, vs, xs', rfl, e2, e3, e4⟩
  · cases h with
    | tup h1 h2 => exact ⟨_, _, rfl, h1, h2⟩
  · cases e2
theorem bin_addT {K : PySem.W.Frag} : Bin K (rCatA K) addT := by
  intro Hb H x y d e res Q ex hx hy hf k
  unfold addT at hf
  split at hf
  · rename_i i j
    split at hf
    · rename_i c
      cases hf
      obtain ⟨a, vs, rfl, sa, ra⟩ := hx.tuple'
      obtain ⟨b, ws, rfl, sb, rb⟩ := hy.tuple'
      refine ⟨a, b, vs, ws, rfl, rfl, ex_t ex sa, ex_t ex sb, by rw [ra.length, rb.length]; exact c, fun e => ?_, fun _ e => ?_, fun _ _ p hp => k _ _ _ (New.fix ex hp) ?_⟩
      · subst e
        cases ra
        exact k _ Hb H (New.refl ex) (.tup sb rb)
      · subst e
        cases rb
        refine k _ Hb H (New.refl ex) ?_
        rw [List.append_nil]
        exact .tup sa ra
      · have n := New.fix (o := HO.tup (vs ++ ws)) ex hp
        exact .tup (SqT.of upd_same) ((ra.append rb).mono n.b)
    · cases hf
  · cases hf
def addD : D → D → Option Res
  | .int i, .int j => some (.val (.int (i + j)))
  | .str x, .str y => if x.length + y.length ≤ sizeLine then some (.val (.str (x ++ y))) else none
  | .list x, .list y => if x.length + y.length ≤ sizeLine then some (.fresh (x ++ y)) else none
  | .tuple x, .tuple y => if x.length + y.length ≤ sizeLine then some (.val (.tuple (x ++ y))) else none
  | _, _ => none
theorem Bin.imp {K : PySem.W.Frag} {r : R2} {f f' : D → D → Option Res} (h : Bin K r f) (k : ∀ d e z, f' d e = some z → f d e = some z) : Bin K r f' := fun Hb H x y d e res Q ex hx hy hf => h Hb H x y d e res Q ex hx hy (k d e res hf)
def rAddA (K : PySem.W.Frag) : R2 := fun x y H Q => (rI0 (fun i j => .int (i + j)) x y H Q ∨ rAddS x y H Q) ∨ (rAddL K x y H Q ∨ rCatA K x y H Q)
theorem op_addA {X : Cx} : OpR X (binaryOp .Add) (rAddA X.K) := (op_add.or op_add_str).or (op_addL.or op_catA)
theorem bin_addA {K : PySem.W.Frag} : Bin K (rAddA K) addD := by
  have h := ((bin_I0 (K := K) (g := fun i j => V.int (i + j)) (g' := fun i j => .int (i + j)) fun i j Hb => .int _).or (bin_addS (K := K))).or ((bin_addL (K := K)).or (bin_addT (K := K)))
  refine h.imp fun d e z q => ?_
  cases d <;> cases e <;> simp_all [addD, fI, addS, addL, addT]
/-- - -/
def subD : D → D → Option Res := fI (fun _ _ => true) fun i j => .int (i - j)
theorem bin_subA {K : PySem.W.Frag} : Bin K (rI0 fun i j => .int (i - j)) subD := bin_I0 fun i j Hb => .int _
/-- * of ints; of a list, a text and an int -/
def rRepL (K : PySem.W.Frag) : R2 := fun x y H Q => ∃ l k xs, x = .ref l ∧ y = .int k ∧ SqL K H l xs ∧ -(2 ^ 63) ≤ k ∧ k < 2 ^ 63 ∧ xs.length * k.toNat ≤ sizeLine ∧
  ∀ p, H p = none → Q (.ref p) (upd H p (.lst (List.replicate k.toNat xs).flatten))
theorem vals_rep {xs : List V} {its : List Value} (r : Vals xs its) : ∀ n, Vals (List.replicate n xs).flatten (List.replicate n its).flatten
  | 0 => .nil
  | n + 1 => by
    rw [List.replicate_succ, List.replicate_succ, List.flatten_cons, List.flatten_cons]
    exact r.append (vals_rep r n)
theorem op_repL {X : Cx} : OpR X (binaryOp .Mult) (rRepL X.K) := by
  intro pins s σ H x y v u Q I rx ry h
  obtain ⟨l, k, xs, rfl, rfl, hH, h1, h2, hz, q⟩ := h
  cases rx
  obtain ⟨t, rfl⟩ := ry
  obtain ⟨its, r, ⟨⟨cls, d, data, sl⟩, n, ho, hc, hdd, hd⟩, _⟩ := I.list hH
  simp only at hc hd hdd
  subst hc hd hdd
  have hl := r.length
  have hz' : its.toArray.size * k.toNat ≤ 2 ^ 24 := by rw [List.size_toArray, ← hl]; exact hz
  refine wpAny_binaryOp_repeat_ref (T := "list") (U := "int") (by decide) ⟨_, ho, rfl⟩ (fun s' => typeIs_int s' k t) noFill_list_mul PySem.F.fills_int_mul PySem.F.slot_int_rmul repeat_list PySem.F.slot_int_index.lookup
    (call_meets PySem.F.slot_int_rmul (typeIs_int s k t) PySem.F.entry_int_rmul (PySem.F.args_int_rmul_2 _ _) (PySem.lm_int_rmul_list_any k t l its.toArray n none sl)
      ⟨ho, rfl, ⟨_, ho, rfl⟩, call_meets PySem.F.slot_list_mul ⟨_, ho, rfl⟩ PySem.F.entry_list_mul (PySem.F.args_list_mul_2 _ _)
        (PySem.lm_list_mul_any l its.toArray n none sl k t (by simp [Builtin.List.listFitsIndex]; omega) (by omega) (by simp [Builtin.List.listTooLong, sizeLine]; simpa using hz'))
        ⟨ho, ?_⟩⟩)
  rw [PyProof.Rows.listMul_foldl_if]
  have hz2 : (List.replicate k.toNat xs).flatten.length ≤ sizeLine := by rw [PyProof.Rows.lm_len_rep_flat, Nat.mul_comm]; exact hz
  exact ⟨.ref _, _, I.lnew (t' := s.toks) (vals_rep r k.toNat) hz2, rfl, q _ I.fresh⟩
/-- text * int -/
def strRep (x : Str) (n : Nat) : Str := ⟨(List.replicate n x.cps.toList).flatten.toArray⟩
def rRepS : R2 := fun x y H Q => ∃ z k, x = .str z ∧ y = .int k ∧ -(2 ^ 63) ≤ k ∧ k < 2 ^ 31 ∧ z.length * k.toNat ≤ sizeLine ∧ Q (.str (strRep z k.toNat)) H
theorem foldl_arr {α : Type} (xs : List α) : ∀ (n : Nat) (acc : List α), List.foldl (fun x1 x2 => x1 ++ x2) acc.toArray (List.replicate n xs.toArray) = (acc ++ (List.replicate n xs).flatten).toArray
  | 0, acc => by simp
  | n + 1, acc => by
    have e : acc.toArray ++ xs.toArray = (acc ++ xs).toArray := by simp
    rw [List.replicate_succ, List.foldl_cons, e, foldl_arr xs n, List.replicate_succ, List.flatten_cons, List.append_assoc]
theorem strRep_fold (x : Str) (n : Nat) : (⟨(List.replicate n x.cps).foldl (· ++ ·) #[]⟩ : Str) = strRep x n := by
  have h := foldl_arr x.cps.toList n []
  rw [List.nil_append, Array.toArray_toList] at h
  unfold strRep
  rw [← h]
theorem op_repS {X : Cx} : OpR X (binaryOp .Mult) rRepS := by
  intro pins s σ H x y v u Q I rx ry h
  obtain ⟨z, k, rfl, rfl, h1, h2, hz, q⟩ := h
  obtain ⟨t, rfl⟩ := rx
  obtain ⟨t', rfl⟩ := ry
  have zl : z.length = z.cps.size := rfl
  refine PySem.P.mul_str (by simp; omega) (fun a b => ?_) (fun a b => ?_) ?_
  · have h0 : 1 ≤ k := by omega
    have hk : (k.toNat : Int) = k := by omega
    have : (z.length : Int) * k ≤ 2 ^ 24 := by
      have e : ((z.length * k.toNat : Nat) : Int) ≤ ((2 ^ 24 : Nat) : Int) := Int.ofNat_le.mpr hz
      rw [Int.natCast_mul, hk] at e
      exact e
    have hd : (z.length : Int) ≤ 2 ^ 24 := by
      have : (z.length : Int) * 1 ≤ (z.length : Int) * k := Int.mul_le_mul_of_nonneg_left h0 (by omega)
      omega
    have : (2 ^ 24 : Int) ≤ (2 ^ 63 - 1) / k := by
      rw [Int.le_ediv_iff_mul_le (by omega)]
      have : (2 ^ 24 : Int) * k ≤ 2 ^ 24 * 2 ^ 31 := Int.mul_le_mul_of_nonneg_left (by omega) (by decide)
      omega
    omega
  · show decide (z.length * k.toNat > sizeLine) = false
    simp
    exact hz
  · split
    · rename_i c
      have e : k.toNat = 0 := by omega
      rw [e] at q
      exact ⟨by decide, .str _, H, I.tok _, ⟨_, rfl⟩, q⟩
    · split
      · rename_i c1 c2
        refine ⟨.str _, H, I, ⟨_, rfl⟩, ?_⟩
        have e : strRep z k.toNat = z := by
          rw [Bool.or_eq_true] at c2
          rcases c2 with c2 | c2
          · have e : k = 1 := by simpa using c2
            subst e
            show strRep z 1 = z
            unfold strRep
            simp
          · have e : z.cps.toList = [] := by
              have : z.length = 0 := by simpa using c2
              rw [← List.length_eq_zero_iff, Array.length_toList]
              exact this
            unfold strRep
            rw [e]
            have e2 : (List.replicate k.toNat ([] : List Nat)).flatten = [] := by simp
            rw [e2]
            cases z
            simp_all
        rw [e] at q
        exact q
      · rw [strRep_fold]
        refine ⟨?_, .str _, H, I.tok _, ⟨_, rfl⟩, q⟩
        show (strRep z k.toNat).cps.size ≤ sizeLine
        unfold strRep
        rw [List.size_toArray, PyProof.Rows.lm_len_rep_flat, Array.length_toList, Nat.mul_comm]
        exact hz
def mulOk (i j : Int) : Bool := decide (i.natAbs.log2 + j.natAbs.log2 < 1000000)
def repOk (n : Nat) (k : Int) : Bool := decide (-(2 ^ 63) ≤ k ∧ k < 2 ^ 31 ∧ n * k.toNat ≤ sizeLine)
def mulD : D → D → Option Res
  | .int i, .int j => if mulOk i j then some (.val (.int (i * j))) else none
  | .list x, .int k => if repOk x.length k then some (.fresh (List.replicate k.toNat x).flatten) else none
  | .str x, .int k => if repOk x.length k then some (.val (.str (strRep x k.toNat))) else none
  | _, _ => none
def mulL : D → D → Option Res
  | .list x, .int k => if repOk x.length k then some (.fresh (List.replicate k.toNat x).flatten) else none
  | _, _ => none
def mulS : D → D → Option Res
  | .str x, .int k => if repOk x.length k then some (.val (.str (strRep x k.toNat))) else none
  | _, _ => none
theorem RpAll.flat {K : PySem.W.Frag} {H : Hp} {vs : List V} {ds : List D} (r : RpAll K H vs ds) : ∀ n, RpAll K H (List.replicate n vs).flatten (List.replicate n ds).flatten
  | 0 => .nil
  | n + 1 => by
    rw [List.replicate_succ, List.replicate_succ, List.flatten_cons, List.flatten_cons]
    exact r.append (RpAll.flat r n)
theorem bin_mulL {K : PySem.W.Frag} : Bin K (rRepL K) mulL := by
  intro Hb H x y d e res Q ex hx hy hf k
  unfold mulL at hf
  split at hf
  · rename_i xs j
    split at hf
    · rename_i c
      cases hf
      unfold repOk at c
      have c := of_decide_eq_true c
      obtain ⟨a, vs, rfl, sa, ra⟩ := hx.list ex
      refine ⟨a, j, vs, rfl, hy.int, sa, c.1, Int.lt_trans c.2.1 (by decide), by rw [ra.length]; exact c.2.2, fun p hp => k _ Hb _ (New.mut ex hp) ?_⟩
      exact ⟨p, _, rfl, fresh_back ex hp, upd_same, ra.flat _, hp⟩
    · cases hf
  · cases hf
theorem bin_mulS {K : PySem.W.Frag} : Bin K rRepS mulS := by
  intro Hb H x y d e res Q ex hx hy hf k
  unfold mulS at hf
  split at hf
  · rename_i xs j
    split at hf
    · rename_i c
      cases hf
      unfold repOk at c
      have c := of_decide_eq_true c
      exact ⟨xs, j, hx.str, hy.int, c.1, c.2.1, c.2.2, k _ Hb H (New.refl ex) (.str _)⟩
    · cases hf
  · cases hf
def rMulA (K : PySem.W.Frag) : R2 := fun x y H Q => (rI CMulW (fun i j => .int (i * j)) x y H Q ∨ rRepL K x y H Q) ∨ rRepS x y H Q
theorem op_mulA {X : Cx} : OpR X (binaryOp .Mult) (rMulA X.K) := (op_mulW.or op_repL).or op_repS
theorem bin_mulA {K : PySem.W.Frag} : Bin K (rMulA K) mulD := by
  have h := ((bin_I (K := K) (C := CMulW) (C' := mulOk) (g := fun i j => V.int (i * j)) (g' := fun i j => .int (i * j)) (fun i j q => show i.natAbs.log2 + j.natAbs.log2 < 1000000 from of_decide_eq_true q) fun i j Hb => .int _).or (bin_mulL (K := K))).or (bin_mulS (K := K))
  refine h.imp fun d e z q => ?_
  cases d <;> cases e <;> simp_all [mulD, fI, mulL, mulS]
/-- //, %, ** -/
def divOk (j : Int) : Bool := decide (j ≠ 0 ∧ j.natAbs.log2 < 9000)
theorem op_fdivA {X : Cx} : OpR X (binaryOp .FloorDiv) (rI (fun _ j => j ≠ 0 ∧ j.natAbs.log2 < 9000) fun i j => .int (i.fdiv j)) := opI fun _ _ _ _ _ _ _ hc q => PyProof.Rows.floordiv_int hc.1 q (.inl (PyProof.noPylong_of_log2 hc.2))
def fdivD : D → D → Option Res := fI (fun _ j => divOk j) fun i j => .int (i.fdiv j)
theorem bin_fdivA {K : PySem.W.Frag} : Bin K (rI (fun _ j => j ≠ 0 ∧ j.natAbs.log2 < 9000) fun i j => .int (i.fdiv j)) fdivD := bin_I (fun i j q => of_decide_eq_true q) fun i j Hb => .int _
def modD : D → D → Option Res := fI (fun _ j => decide (j ≠ 0)) fun i j => .int (i.fmod j)
theorem bin_modA {K : PySem.W.Frag} : Bin K (rI (fun _ j => j ≠ 0) fun i j => .int (i.fmod j)) modD := bin_I (fun i j q => of_decide_eq_true q) fun i j Hb => .int _
def powOk (i j : Int) : Bool := decide (0 ≤ j ∧ (Builtin.Int.intBits i : Int) * j ≤ 2 ^ 27)
theorem op_powA {X : Cx} : OpR X (binaryOp .Pow) (rI (fun i j => 0 ≤ j ∧ (Builtin.Int.intBits i : Int) * j ≤ 2 ^ 27) fun i j => .int (i ^ j.toNat)) := opI fun _ _ _ _ _ _ _ hc q => PyProof.Rows.pow_int hc.1 hc.2 q
def powD : D → D → Option Res := fI powOk fun i j => .int (i ^ j.toNat)
theorem bin_powA {K : PySem.W.Frag} : Bin K (rI (fun i j => 0 ≤ j ∧ (Builtin.Int.intBits i : Int) * j ≤ 2 ^ 27) fun i j => .int (i ^ j.toNat)) powD := bin_I (fun i j q => of_decide_eq_true q) fun i j Hb => .int _

/-! ### comparisons -/
def ltD : D → D → Option Res := fI (fun _ _ => true) fun i j => .bool (decide (i < j))
def leD : D → D → Option Res := fI (fun _ _ => true) fun i j => .bool (decide (i ≤ j))
def gtD : D → D → Option Res := fI (fun _ _ => true) fun i j => .bool (decide (j < i))
def geD : D → D → Option Res := fI (fun _ _ => true) fun i j => .bool (decide (j ≤ i))
theorem bin_ltA {K : PySem.W.Frag} : Bin K (rI0 fun i j => .bl (decide (i < j))) ltD := bin_I0 fun i j Hb => .bl _
theorem bin_leA {K : PySem.W.Frag} : Bin K (rI0 fun i j => .bl (decide (i ≤ j))) leD := bin_I0 fun i j Hb => .bl _
theorem bin_gtA {K : PySem.W.Frag} : Bin K (rI0 fun i j => .bl (decide (j < i))) gtD := bin_I0 fun i j Hb => .bl _
theorem bin_geA {K : PySem.W.Frag} : Bin K (rI0 fun i j => .bl (decide (j ≤ i))) geD := bin_I0 fun i j Hb => .bl _
def eqD : D → D → Option Res := fun d e => if SeqAt.shaped d && SeqAt.shaped e then some (.val (.bool (PyData.eqv d e))) else none
def neD : D → D → Option Res := fun d e => if SeqAt.shaped d && SeqAt.shaped e then some (.val (.bool (!PyData.eqv d e))) else none
theorem shaped_can {d : D} (h : SeqAt.shaped d = true) : d.canLay0 = true := SeqAt.canLay_of_shaped h
theorem bin_eqA {K : PySem.W.Frag} : Bin K (rEqD K) eqD := by
  intro Hb H x y d e res Q ex hx hy hf k
  unfold eqD at hf
  split at hf
  · rename_i c
    cases hf
    rw [Bool.and_eq_true] at c
    exact ⟨d, e, rp_dp (shaped_can c.1) (hx.rp ex), rp_dp (shaped_can c.2) (hy.rp ex), c.1, c.2, k _ Hb H (New.refl ex) (.bl _)⟩
  · cases hf
theorem bin_neA {K : PySem.W.Frag} : Bin K (rNeD K) neD := by
  intro Hb H x y d e res Q ex hx hy hf k
  unfold neD at hf
  split at hf
  · rename_i c
    cases hf
    rw [Bool.and_eq_true] at c
    exact ⟨d, e, rp_dp (shaped_can c.1) (hx.rp ex), rp_dp (shaped_can c.2) (hy.rp ex), c.1, c.2, k _ Hb H (New.refl ex) (.bl _)⟩
  · cases hf
/-- is None; is True, is False -/
def isNone : D → Bool
  | .none => true
  | _ => false
def isD : D → D → Option Res
  | d, .none => some (.val (.bool (isNone d)))
  | .bool a, .bool b => some (.val (.bool (decide (a = b))))
  | _, _ => none
def isntD : D → D → Option Res
  | d, .none => some (.val (.bool (!isNone d)))
  | .bool a, .bool b => some (.val (.bool (!decide (a = b))))
  | _, _ => none
theorem top_none {K : PySem.W.Frag} {Hb H : Hp} {v : V} {d : D} (h : Top K Hb H v d) : decide (v = .non) = isNone d := by
  rcases h with h | ⟨a, vs, xs', rfl, rfl, _⟩
  · cases h <;> rfl
  · rfl
theorem bin_isA {K : PySem.W.Frag} : Bin K (fun x y H Q => (y = .non ∧ Q (.bl (decide (x = .non))) H) ∨ (∃ a b, x = .bl a ∧ y = .bl b ∧ Q (.bl (decide (a = b))) H)) isD := by
  intro Hb H x y d e res Q ex hx hy hf k
  unfold isD at hf
  split at hf
  · cases hf
    refine .inl ⟨hy.none, ?_⟩
    rw [top_none hx]
    exact k _ Hb H (New.refl ex) (.bl _)
  · cases hf
    exact .inr ⟨_, _, hx.bool, hy.bool, k _ Hb H (New.refl ex) (.bl _)⟩
  · cases hf
theorem bin_isntA {K : PySem.W.Frag} : Bin K (fun x y H Q => (y = .non ∧ Q (.bl (!decide (x = .non))) H) ∨ (∃ a b, x = .bl a ∧ y = .bl b ∧ Q (.bl (!decide (a = b))) H)) isntD := by
  intro Hb H x y d e res Q ex hx hy hf k
  unfold isntD at hf
  split at hf
  · cases hf
    refine .inl ⟨hy.none, ?_⟩
    rw [top_none hx]
    exact k _ Hb H (New.refl ex) (.bl _)
  · cases hf
    exact .inr ⟨_, _, hx.bool, hy.bool, k _ Hb H (New.refl ex) (.bl _)⟩
  · cases hf
theorem op_isA {X : Cx} : OpR X (compareOp .Is) (fun x y H Q => (y = .non ∧ Q (.bl (decide (x = .non))) H) ∨ (∃ a b, x = .bl a ∧ y = .bl b ∧ Q (.bl (decide (a = b))) H)) := op_isN.or op_is_bl
theorem op_isntA {X : Cx} : OpR X (compareOp .IsNot) (fun x y H Q => (y = .non ∧ Q (.bl (!decide (x = .non))) H) ∨ (∃ a b, x = .bl a ∧ y = .bl b ∧ Q (.bl (!decide (a = b))) H)) := op_notN.or op_isnot_bl
end Mi

/-! Mi: expressions. -/
namespace Mi
open PySem L2 Evl
section
variable {K : PySem.W.Frag} {mg : Str → Option Value} {E : WX} {σ : St} {H : Hp}
theorem tE_mono {m : M Res} {Q Q' : VK} (h : tE K mg E m σ H Q) (k : ∀ v H', Q v H' → Q' v H') : tE K mg E m σ H Q' := by
  obtain ⟨Hb, ρ, R, S⟩ := h
  exact ⟨Hb, ρ, R, S.mono fun r σ' ρ' Hb' H' _ _ p es v rep => k v H' (p es v rep)⟩
theorem tT_mono {m : M Bool} {Q Q' : Bool → Hp → Prop} (h : tT K mg E m σ H Q) (k : ∀ v H', Q v H' → Q' v H') : tT K mg E m σ H Q' := by
  obtain ⟨Hb, ρ, R, S⟩ := h
  exact ⟨Hb, ρ, R, S.mono fun r σ' ρ' Hb' H' _ _ p es => k r H' (p es)⟩
theorem tA_mono {m : M (List Res)} {Q Q' : List V → Hp → Prop} (h : tA K mg E m σ H Q) (k : ∀ v H', Q v H' → Q' v H') : tA K mg E m σ H Q' := by
  obtain ⟨Hb, ρ, R, S⟩ := h
  exact ⟨Hb, ρ, R, S.mono fun r σ' ρ' Hb' H' _ _ p es vs rep => k vs H' (p es vs rep)⟩
variable {Hb : Hp} {ρ : R} {β : Type} {P : β → St → R → Hp → Hp → Prop}
/-- arguments, then what follows -/
theorem e_args {m : M (List Res)} {f : List Res → M β} (R : Rel K Hb H σ ρ) (S : Sat K mg E σ Hb H ρ (bnd m f) P) :
    tA K mg E m σ H fun vs H1 => ∃ Hb1 ρ1 rs, Rel K Hb1 H1 σ ρ1 ∧ RepA K Hb1 σ vs rs ∧ Go σ ρ Hb H σ ρ1 Hb1 H1 ∧ Sat K mg E σ Hb1 H1 ρ1 (f rs) fun b σ' ρ' Hb' H' => Go σ ρ Hb H σ' ρ' Hb' H' → P b σ' ρ' Hb' H' := by
  refine ⟨Hb, ρ, R, S.bnd.mono ?_⟩
  intro rs σ' ρ1 Hb1 H1 g R1 S1 es vs rep
  subst es
  exact ⟨Hb1, ρ1, rs, R1, rep, g, S1⟩
/-- a test, then what follows -/
theorem e_test {m : M Bool} {f : Bool → M β} (R : Rel K Hb H σ ρ) (S : Sat K mg E σ Hb H ρ (bnd m f) P) :
    tT K mg E m σ H fun b H1 => ∃ Hb1 ρ1, Rel K Hb1 H1 σ ρ1 ∧ Go σ ρ Hb H σ ρ1 Hb1 H1 ∧ Sat K mg E σ Hb1 H1 ρ1 (f b) fun b σ' ρ' Hb' H' => Go σ ρ Hb H σ' ρ' Hb' H' → P b σ' ρ' Hb' H' := by
  refine ⟨Hb, ρ, R, S.bnd.mono ?_⟩
  intro b σ' ρ1 Hb1 H1 g R1 S1 es
  subst es
  exact ⟨Hb1, ρ1, R1, g, S1⟩
/-- an expression as it comes, last -/
theorem e_last {m : M Res} {Q : VK} {H0 : Hp} (R : Rel K Hb H σ ρ) (t : ∀ a, H0 a ≠ none → H a ≠ none) (S : Sat K mg E σ Hb H ρ m fun r σ' ρ' Hb' H' => σ' = σ → ∀ v, RepR K Hb' H' σ ρ' H0 v r → Q v H') : tE K mg E m σ H Q :=
  ⟨Hb, ρ, R, S.mono fun r σ' ρ' Hb' H' _ _ p es v rep => p es v (rep.from' t)⟩
end

/-! ### names, constants -/
def mVar (i : Nat) : M Res := fun ρ => match ρ[i]? with
  | some (some s) => some (.ok (if s.m.isOwn then .slot i else .val s.d), ρ)
  | _ => none
theorem var_read {K : PySem.W.Frag} {mg : Str → Option Value} {E : WX} {i : Nat} {σ : St} {H : Hp} {Q : VK} (w : tE K mg E (mVar i) σ H Q) : tVar i σ H Q := by
  obtain ⟨Hb, ρ, R, out, ρ', e, h1, _⟩ := w
  unfold mVar at e
  split at e
  · rename_i s hs
    cases e
    cases q : s.m.isOwn with
    | true =>
      obtain ⟨a, vs, xs, e1, _⟩ := R.own i s hs q
      refine ⟨.ref a, e1, ?_⟩
      have z := h1 _ rfl σ Hb H Go.refl R rfl (.ref a)
      rw [q] at z
      exact z e1
    | false =>
      obtain ⟨v, e1, e2⟩ := R.val i s hs q
      refine ⟨v, e1, ?_⟩
      have z := h1 _ rfl σ Hb H Go.refl R rfl v
      rw [q] at z
      exact z e2
  · cases e
def mC (d : D) : M Res := ret (.val d)
theorem const_read {K : PySem.W.Frag} {mg : Str → Option Value} {E : WX} {d : D} {v : V} (h : ∀ H, Rp K H v d) {σ : St} {H : Hp} {Q : VK} (w : tE K mg E (mC d) σ H Q) : tC v σ H Q := by
  obtain ⟨Hb, ρ, R, S⟩ := w
  exact S.ret R rfl v (h Hb)
section
variable {X : Cx} {E : WX} {pos : Pos}
theorem me_var (i : Nat) {x : Str} (hN : X.N[i]? = some x := by rfl) (hv : Vis X.env.scope x := by first | exact Or.inl rfl | exact Or.inr (Or.inl rfl) | exact Or.inr (Or.inr rfl)) (hd : (x == ("__debug__" : Str)) = false := by decide)
    (hcd : (x == ("__classdict__" : Str)) = false := by decide) : PE X (.Name x pos) (tE X.K X.mg E (mVar i)) := (pv i hN hv hd hcd).imp fun _ _ _ w => var_read w
theorem me_int {i j} : PE X (.Constant (.int i) j pos) (tE X.K X.mg E (mC (.int i))) := pe_int.imp fun _ _ _ w => const_read (fun _ => .int _) w
theorem me_bl {b j} : PE X (.Constant (.bool b) j pos) (tE X.K X.mg E (mC (.bool b))) := pe_bl.imp fun _ _ _ w => const_read (fun _ => .bl _) w
theorem me_non {j} : PE X (.Constant .none j pos) (tE X.K X.mg E (mC .none)) := pe_non.imp fun _ _ _ w => const_read (fun _ => .non) w
theorem me_str {x j} : PE X (.Constant (.str x) j pos) (tE X.K X.mg E (mC (.str x))) := pe_str.imp fun _ _ _ w => const_read (fun _ => .str _) w
/-- a module's constant -/
theorem me_glob {x : Str} {v : V} {u : Value} {d : D} (hg : Gl X x) (hm : X.mg x = some u) (r : RelV v u) (h : ∀ H, Rp X.K H v d) (hd : (x == ("__debug__" : Str)) = false := by decide) : PE X (.Name x pos) (tE X.K X.mg E (mC d)) :=
  (pe_glob hg hm r hd).imp fun _ _ _ w => const_read h w
end

/-! ### one-place operations on what is seen -/
def op1 (f : D → Option Res) (x : Res) : M Res := fun ρ => match look x ρ with
  | some d => match f d with
    | some r => some (.ok r, ρ)
    | none => none
  | none => none
def mUn (f : D → Option Res) (a : M Res) : M Res := bnd (thaw a) fun x => op1 f x
section
variable {K : PySem.W.Frag} {mg : Str → Option Value} {E : WX} {σ : St} {Hb H : Hp} {ρ : R}
theorem op1_some {f : D → Option Res} {x : Res} {o : Out Res × R} (e : op1 f x ρ = some o) : ∃ d r, look x ρ = some d ∧ f d = some r ∧ o = (.ok r, ρ) := by
  unfold op1 at e
  split at e
  · rename_i d h1
    split at e
    · rename_i r h3
      cases e
      exact ⟨d, r, h1, h3, rfl⟩
    · cases e
  · cases e
theorem op1_run {f : D → Option Res} {x : Res} {v : V} {Q : VK} {H0 : Hp} (R : Rel K Hb H σ ρ) (hx : RepA K Hb σ [v] [x]) (t : ∀ a, H0 a ≠ none → H a ≠ none)
    (S : Sat K mg E σ Hb H ρ (op1 f x) fun r σ' ρ' Hb' H' => σ' = σ → ∀ v, RepR K Hb' H' σ ρ' H0 v r → Q v H') :
    ∃ d res, Top K Hb H v d ∧ f d = some res ∧ ∀ u Hb' H', New Hb H Hb' H' → RR K Hb' H' H u res → Q u H' := by
  obtain ⟨out, ρ', e, h1, h2⟩ := S
  obtain ⟨d, res, l1, l3, l4⟩ := op1_some e
  cases l4
  exact ⟨d, res, repA_top R hx l1, l3, fun u Hb' H' n rr => h1 res rfl σ Hb' H' n.go (n.rel R) rfl u ((rr.rep R).from' t)⟩
theorem un_read {f : D → Option Res} {ma : M Res} {Q : VK} (w : tE K mg E (mUn f ma) σ H Q) :
    tE K mg E ma σ H fun v H1 => ∃ Hb d res, Ex Hb H1 ∧ Top K Hb H1 v d ∧ f d = some res ∧ ∀ u Hb' H', New Hb H1 Hb' H' → RR K Hb' H' H1 u res → Q u H' := by
  obtain ⟨Hb, ρ, R, S⟩ := w
  refine tE_mono (e_thaw R S) fun v H1 ⟨Hb1, ρ1, x, R1, rx, g1, S1⟩ => ?_
  obtain ⟨d, res, h1, h2, h3⟩ := op1_run R1 rx g1.t (S1.mono fun b σ' ρ' Hb' H' g2 R2 p => p (g1.trans g2))
  exact ⟨Hb1, d, res, R1.ex, h1, h2, h3⟩
end
def negD : D → Option Res
  | .int i => some (.val (.int (-i)))
  | _ => none
def notD : D → Option Res
  | .bool b => some (.val (.bool (!b)))
  | _ => none
section
variable {X : Cx} {E : WX} {pos : Pos} {a : Expr} {ma : M Res}
theorem me_neg (ha : PE X a (tE X.K X.mg E ma)) : PE X (.UnaryOp .USub a pos) (tE X.K X.mg E (mUn negD ma)) := (pe_un un_neg ha).imp fun σ H Q w => by
  refine tE_mono (un_read w) fun v H1 ⟨Hb, d, res, ex, h1, h2, h3⟩ => ?_
  unfold negD at h2
  split at h2
  · rename_i i
    cases h2
    exact ⟨i, h1.int, h3 _ Hb H1 (New.refl ex) (.int _)⟩
  · cases h2
theorem me_not (ha : PE X a (tE X.K X.mg E ma)) : PE X (.UnaryOp .Not a pos) (tE X.K X.mg E (mUn notD ma)) := (pe_not ha).imp fun σ H Q w => by
  refine tE_mono (un_read w) fun v H1 ⟨Hb, d, res, ex, h1, h2, h3⟩ => ?_
  unfold notD at h2
  split at h2
  · rename_i i
    cases h2
    exact ⟨i, h1.bool, h3 _ Hb H1 (New.refl ex) (.bl _)⟩
  · cases h2
end

/-! ### subscripts -/
def ixD : D → D → Option Res
  | .list xs, .int i => (atI xs i).map .val
  | .tuple xs, .int i => (atI xs i).map .val
  | .str z, .int i => if z.length ≤ sizeLine then (atI z.cps.toList i).map fun c => .val (.str ⟨#[c]⟩) else none
  | _, _ => none
theorem atI_rp {K : PySem.W.Frag} {H : Hp} {vs : List V} {xs : List D} {i : Int} {d : D} (r : RpAll K H vs xs) (e : atI xs i = some d) : ∃ v, atI vs i = some v ∧ Rp K H v d := by
  unfold atI at e ⊢
  rw [r.length]
  cases q : ixN xs.length i with
  | none => rw [q] at e; cases e
  | some j =>
    rw [q] at e
    exact r.get (i := j) e
theorem bin_ix {K : PySem.W.Frag} : Bin K (rIx K) ixD := by
  intro Hb H x y d e res Q ex hx hy hf k
  unfold ixD at hf
  split at hf
  · rename_i xs i
    obtain ⟨z, q, rfl⟩ := Option.map_eq_some_iff.mp hf
    obtain ⟨a, vs, rfl, s, r⟩ := hx.list ex
    obtain ⟨v, q1, q2⟩ := atI_rp r q
    exact .inl ⟨a, vs, i, v, rfl, hy.int, s, q1, k v Hb H (New.refl ex) q2⟩
  · rename_i xs i
    obtain ⟨z, q, rfl⟩ := Option.map_eq_some_iff.mp hf
    obtain ⟨a, vs, rfl, s, r⟩ := hx.tuple ex
    obtain ⟨v, q1, q2⟩ := atI_rp r q
    exact .inr (.inl ⟨a, vs, i, v, rfl, hy.int, s, q1, k v Hb H (New.refl ex) q2⟩)
  · rename_i z i
    split at hf
    · rename_i c
      obtain ⟨w, q, rfl⟩ := Option.map_eq_some_iff.mp hf
      exact .inr (.inr ⟨z, i, w, hx.str, hy.int, c, q, k _ Hb H (New.refl ex) (.str _)⟩)
    · cases hf
  · cases hf
/-- slices -/
def cutD (xs : List D) (lo hi : Option Int) : List D := (xs.drop (HT.sIx xs.length 0 lo)).take (HT.sIx xs.length xs.length hi - HT.sIx xs.length 0 lo)
def slD (lo hi : Option Int) : D → Option Res
  | .list xs => some (.fresh (cutD xs lo hi))
  | .tuple xs => some (.val (.tuple (cutD xs lo hi)))
  | .str z => if z.length ≤ sizeLine then some (.val (.str (cutS z lo hi))) else none
  | _ => none
def mNoPart : M (Option Int) := ret none
def asInt (r : Res) : M (Option Int) := fun ρ => match r with
  | .val (.int i) => some (.ok (some i), ρ)
  | _ => none
def mPart (m : M Res) : M (Option Int) := bnd (thaw m) asInt
def mSl (m : M Res) (lo hi : M (Option Int)) : M Res := bnd (thaw m) fun x => bnd lo fun l => bnd hi fun h => op1 (slD l h) x
section
variable (K : PySem.W.Frag) (mg : Str → Option Value) (E : WX)
def tP (m : M (Option Int)) : TO := fun σ H Q => ∃ Hb ρ, Rel K Hb H σ ρ ∧ Sat K mg E σ Hb H ρ m fun o σ' ρ' Hb' H' => σ' = σ → Q o H'
end
theorem e_part {K : PySem.W.Frag} {mg : Str → Option Value} {E : WX} {σ : St} {Hb H : Hp} {ρ : R} {β : Type} {P : β → St → R → Hp → Hp → Prop} {m : M (Option Int)} {f : Option Int → M β} (R : Rel K Hb H σ ρ) (S : Sat K mg E σ Hb H ρ (bnd m f) P) :
    tP K mg E m σ H fun b H1 => ∃ Hb1 ρ1, Rel K Hb1 H1 σ ρ1 ∧ Go σ ρ Hb H σ ρ1 Hb1 H1 ∧ Sat K mg E σ Hb1 H1 ρ1 (f b) fun b σ' ρ' Hb' H' => Go σ ρ Hb H σ' ρ' Hb' H' → P b σ' ρ' Hb' H' := by
  refine ⟨Hb, ρ, R, S.bnd.mono ?_⟩
  intro b σ' ρ1 Hb1 H1 g R1 S1 es
  subst es
  exact ⟨Hb1, ρ1, R1, g, S1⟩
theorem tP_mono {K : PySem.W.Frag} {mg : Str → Option Value} {E : WX} {σ : St} {H : Hp} {m : M (Option Int)} {Q Q' : Option Int → Hp → Prop} (h : tP K mg E m σ H Q) (k : ∀ v H', Q v H' → Q' v H') : tP K mg E m σ H Q' := by
  obtain ⟨Hb, ρ, R, S⟩ := h
  exact ⟨Hb, ρ, R, S.mono fun r σ' ρ' Hb' H' _ _ p es => k r H' (p es)⟩
section
variable {X : Cx} {E : WX} {pos p2 : Pos} {a e : Expr} {ma m : M Res} {lo hi : Option Expr} {ml mh : M (Option Int)}
theorem po_n : PO X none (tP X.K X.mg E mNoPart) := ⟨fun pins s σ H Q I w => po_none.run pins s σ H Q I (by
  obtain ⟨Hb, ρ, R, S⟩ := w
  exact S.ret R rfl)⟩
theorem po_s (h : PE X e (tE X.K X.mg E m)) : PO X (some e) (tP X.K X.mg E (mPart m)) := ⟨fun pins s σ H Q I w => (po_some h).run pins s σ H Q I (by
  obtain ⟨Hb, ρ, R, S⟩ := w
  refine tE_mono (e_thaw R S) fun v H1 ⟨Hb1, ρ1, x, R1, rx, g1, S1⟩ => ?_
  obtain ⟨out, ρ', e, h1, h2⟩ := S1
  unfold asInt at e
  split at e
  · rename_i i
    cases e
    refine ⟨i, ?_, h1 _ rfl σ Hb1 H1 Go.refl R1 g1 rfl⟩
    cases rx with
    | val h _ => exact h.int_inv
  · cases e)⟩
def rSlAll (K : PySem.W.Frag) : V → Option Int → Option Int → Hp → VK → Prop := fun x lo hi H Q => (rSlL K x lo hi H Q ∨ rSlA K x lo hi H Q) ∨ rSlS x lo hi H Q
theorem sl_all : SlR X (rSlAll X.K) := (sl_list.or sl_tupA).or sl_str
theorem cut_rp {K : PySem.W.Frag} {H : Hp} {vs : List V} {xs : List D} (r : RpAll K H vs xs) (lo hi : Option Int) : RpAll K H (cutV vs lo hi) (cutD xs lo hi) := by
  unfold cutV cutD
  rw [r.length]
  exact (r.drop _).take _
theorem sl_run {K : PySem.W.Frag} {Hb H : Hp} {x : V} {d : D} {lo hi : Option Int} {res : Res} {Q : VK} (ex : Ex Hb H) (hx : Top K Hb H x d) (hf : slD lo hi d = some res) (k : ∀ v Hb' H', New Hb H Hb' H' → RR K Hb' H' H v res → Q v H') : rSlAll K x lo hi H Q := by
  unfold slD at hf
  split at hf
  · rename_i xs
    cases hf
    obtain ⟨a, vs, rfl, s, r⟩ := hx.list ex
    exact .inl (.inl ⟨a, vs, rfl, s, fun p hp => k _ Hb _ (New.mut ex hp) ⟨p, _, rfl, fresh_back ex hp, upd_same, cut_rp r lo hi, hp⟩⟩)
  · rename_i xs
    cases hf
    obtain ⟨a, vs, rfl, s, r⟩ := hx.tuple'
    refine .inl (.inr ⟨a, vs, rfl, ex_t ex s, fun c => ?_, fun c p hp => ?_⟩)
    · refine k _ Hb H (New.refl ex) ?_
      have e : cutD xs lo hi = xs := by
        unfold cutD
        rw [← r.length, c.1, c.2, List.drop_zero, Nat.sub_zero]
        have : vs.length = xs.length := r.length
        rw [this, List.take_length]
      rw [e]
      exact .tup s r
    · have n := New.fix (o := HO.tup (cutV vs lo hi)) ex hp
      exact k _ _ _ n (.tup (SqT.of upd_same) ((cut_rp r lo hi).mono n.b))
  · rename_i z
    split at hf
    · rename_i c
      cases hf
      exact .inr ⟨z, hx.str, c, k _ Hb H (New.refl ex) (.str _)⟩
    · cases hf
  · cases hf
theorem me_sl (he : PE X e (tE X.K X.mg E m)) (hl : PO X lo (tP X.K X.mg E ml)) (hh : PO X hi (tP X.K X.mg E mh)) : PE X (.Subscript e (.Slice lo hi none p2) pos) (tE X.K X.mg E (mSl m ml mh)) := (pe_slice sl_all he hl hh).imp fun σ H Q w => by
  obtain ⟨Hb, ρ, R, S⟩ := w
  refine tE_mono (e_thaw R S) fun v H1 ⟨Hb1, ρ1, x, R1, rx, g1, S1⟩ => ?_
  refine tP_mono (e_part R1 S1) fun l H2 ⟨Hb2, ρ2, R2, g2, S2⟩ => ?_
  refine tP_mono (e_part R2 S2) fun h H3 ⟨Hb3, ρ3, R3, g3, S3⟩ => ?_
  obtain ⟨d, res, h1, h2, h3⟩ := op1_run R3 (rx.mono (g2.trans g3).b) (g1.trans (g2.trans g3)).t (S3.mono fun b σ' ρ' Hb' H' g4 R4 p => p (g3.trans g4) (g2.trans (g3.trans g4)) (g1.trans (g2.trans (g3.trans g4))))
  exact sl_run R3.ex h1 h2 h3
theorem me_ix (ha : PE X a (tE X.K X.mg E ma)) (hb : PE X e (tE X.K X.mg E m)) (hs : PlainIx e := by exact fun _ _ => rfl) : PE X (.Subscript a e pos) (tE X.K X.mg E (mBin ixD ma m)) := pe_ixo ix_seq bin_ix ha hb hs
end

/-! ### a chain of two comparisons -/
def isT : Res → Option Bool
  | .val (.bool b) => some b
  | _ => none
def mChain (f f' : D → D → Option Res) (a b c : M Res) : M Res := bnd (thaw a) fun x => bnd (thaw b) fun y => bnd (op2 f x y) fun r => match isT r with
  | some true => bnd (thaw c) fun z => op2 f' y z
  | some false => ret (.val (.bool false))
  | none => stuck
theorem isT_some {r : Res} {b : Bool} (h : isT r = some b) : r = .val (.bool b) := by
  unfold isT at h
  split at h <;> cases h
  rfl
theorem chain_read {K : PySem.W.Frag} {mg : Str → Option Value} {E : WX} {r r' : R2} {f f' : D → D → Option Res} {ma mb mc : M Res} (hf : Bin K r f) (hf' : Bin K r' f') {σ : St} {H : Hp} {Q : VK} (w : tE K mg E (mChain f f' ma mb mc) σ H Q) :
    tChain r r' (tE K mg E ma) (tE K mg E mb) (tE K mg E mc) σ H Q := by
  obtain ⟨Hb, ρ, R, S⟩ := w
  refine tE_mono (e_thaw R S) fun v H1 ⟨Hb1, ρ1, x, R1, rx, g1, S1⟩ => ?_
  refine tE_mono (e_thaw R1 S1) fun w H2 ⟨Hb2, ρ2, y, R2, ry, g2, S2⟩ => ?_
  have S3 := S2.bnd
  refine op2_run (mg := mg) (E := E) hf (H0 := H2) R2 (rx.mono g2.b) ry (fun _ q => q) (S3.mono fun res σ' ρ3 Hb3 H3 g3 R3 S4 es u rep => ?_)
  subst es
  cases q : isT res with
  | none =>
    rw [q] at S4
    obtain ⟨_, _, e, _⟩ := S4
    cases e
  | some k =>
    have e := isT_some q
    subst e
    rw [q] at S4
    cases (show u = .bl k from Rp.bool_inv rep)
    refine ⟨k, rfl, ?_⟩
    have g13 := g1.trans (g2.trans g3)
    cases k with
    | true =>
      rw [if_pos rfl]
      refine tE_mono (e_thaw R3 S4) fun w4 H4 ⟨Hb4, ρ4, z, R4, rz, g4, S5⟩ => ?_
      refine op2_run (mg := mg) (E := E) hf' (H0 := H) R4 (ry.mono (g3.trans g4).b) rz (g13.trans g4).t ?_
      exact S5.mono fun b σ' ρ' Hb' H' g5 R5 p => p (g4.trans g5) (g3.trans (g4.trans g5)) (g2.trans (g3.trans (g4.trans g5))) (g1.trans (g2.trans (g3.trans (g4.trans g5))))
    | false =>
      rw [if_neg Bool.false_ne_true]
      exact S4.ret R3 g3 (g2.trans g3) g13 rfl _ (.bl false)

theorem me_chain {X : Cx} {E : WX} {op op' : CmpOp} {a b c : Expr} {pos : Pos} {r r' : R2} {f f' : D → D → Option Res} {ma mb mc : M Res} (ho : OpR X (compareOp op) r) (ho' : OpR X (compareOp op') r') (hf : Bin X.K r f) (hf' : Bin X.K r' f')
    (ha : PE X a (tE X.K X.mg E ma)) (hb : PE X b (tE X.K X.mg E mb)) (hc : PE X c (tE X.K X.mg E mc)) (hm : lastMarks [op, op'] [b, c] = false := by with_unfolding_all rfl) :
    PE X (.Compare a [op, op'] [b, c] pos) (tE X.K X.mg E (mChain f f' ma mb mc)) := (pe_chain ho ho' ha hb hc hm).imp fun σ H Q w => chain_read hf hf' w
/-! ### tests -/
def asB (r : Res) : M Bool := fun ρ => match isT r with
  | some b => some (.ok b, ρ)
  | none => none
def mB (m : M Res) : M Bool := bnd (thaw m) asB
def mAnd (a b : M Bool) : M Bool := bnd a fun x => if x then b else ret false
def mOr (a b : M Bool) : M Bool := bnd a fun x => if x then ret true else b
def mNot (a : M Bool) : M Bool := bnd a fun x => ret (!x)
/-- the truth of a list, a tuple, a text, a number -/
def truD : D → Option Bool
  | .none => some false
  | .bool b => some b
  | .int i => some (i != 0)
  | .str x => if x.length ≤ sizeLine then some (x.length != 0) else none
  | .list xs => some (!xs.isEmpty)
  | .tuple xs => some (!xs.isEmpty)
  | _ => none
def asTru (r : Res) : M Bool := fun ρ => match look r ρ with
  | some d => match truD d with
    | some b => some (.ok b, ρ)
    | none => none
  | none => none
def mTru (m : M Res) : M Bool := bnd (thaw m) asTru
/-- a test as a value -/
def mOfB (m : M Bool) : M Res := bnd m fun b => ret (.val (.bool b))
section
variable {K : PySem.W.Frag} {mg : Str → Option Value} {E : WX} {σ : St} {H : Hp}
theorem b_read {m : M Res} {Q : Bool → Hp → Prop} (w : tT K mg E (mB m) σ H Q) : tE K mg E m σ H fun v H1 => ∃ c, v = .bl c ∧ Q c H1 := by
  obtain ⟨Hb, ρ, R, S⟩ := w
  refine tE_mono (e_thaw R S) fun v H1 ⟨Hb1, ρ1, x, R1, rx, g1, S1⟩ => ?_
  obtain ⟨out, ρ', e, h1, h2⟩ := S1
  unfold asB at e
  split at e
  · rename_i b hb
    cases e
    have e := isT_some hb
    subst e
    cases rx with
    | val h _ => exact ⟨b, h.bool_inv, h1 _ rfl σ Hb1 H1 Go.refl R1 g1 rfl⟩
  · cases e
variable {X : Cx} {pos : Pos} {a b : Expr} {rest : List Expr} {m : M Res} {ma mb : M Bool}
theorem mt_cmp {op : CmpOp} {r : R2} {f : D → D → Option Res} {m1 m2 : M Res} (ho : OpR X (compareOp op) r) (hf : Bin X.K r f) (ha : PE X a (tE X.K X.mg E m1)) (hb : PE X b (tE X.K X.mg E m2)) (hm : behindInMarks op b = false := by rfl) :
    PT X (.Compare a [op] [b] pos) (tT X.K X.mg E (mB (mBin f m1 m2))) := (pt_cmpR ho ha hb hm).imp fun σ H Q w => bin_read hf (b_read w)
theorem mt_chain {op op' : CmpOp} {c : Expr} {r r' : R2} {f f' : D → D → Option Res} {m1 m2 m3 : M Res} (ho : OpR X (compareOp op) r) (ho' : OpR X (compareOp op') r') (hf : Bin X.K r f) (hf' : Bin X.K r' f')
    (ha : PE X a (tE X.K X.mg E m1)) (hb : PE X b (tE X.K X.mg E m2)) (hc : PE X c (tE X.K X.mg E m3)) (hm : lastMarks [op, op'] [b, c] = false := by with_unfolding_all rfl) :
    PT X (.Compare a [op, op'] [b, c] pos) (tT X.K X.mg E (mB (mChain f f' m1 m2 m3))) := (pt_chain ho ho' ha hb hc hm).imp fun σ H Q w => chain_read hf hf' (b_read w)
theorem mt_val (he : PE X a (tE X.K X.mg E m)) (hs : ∀ whole, isTrue a X.env whole = (do let v ← whole; standAt a.pos; holding [v] (truthy v)) := by intro _; rfl) : PT X a (tT X.K X.mg E (mB m)) := (pt_val he hs).imp fun σ H Q w => b_read w
theorem mt_and (ha : PT X a (tT X.K X.mg E ma)) (hb : PW X (.BoolOp .And (b :: rest) pos) (tT X.K X.mg E mb)) : PW X (.BoolOp .And (a :: b :: rest) pos) (tT X.K X.mg E (mAnd ma mb)) := (pw_and ha hb).imp fun σ H Q w => by
  obtain ⟨Hb, ρ, R, S⟩ := w
  refine tT_mono (e_test R S) fun c H1 ⟨Hb1, ρ1, R1, g1, S1⟩ => ?_
  cases c with
  | true =>
    rw [if_pos rfl]
    exact ⟨Hb1, ρ1, R1, S1.mono fun b σ' ρ' Hb' H' g2 R2 p => p (g1.trans g2)⟩
  | false =>
    rw [if_neg Bool.false_ne_true]
    exact S1.ret R1 g1 rfl
theorem mt_or (ha : PT X a (tT X.K X.mg E ma)) (hb : PW X (.BoolOp .Or (b :: rest) pos) (tT X.K X.mg E mb)) : PW X (.BoolOp .Or (a :: b :: rest) pos) (tT X.K X.mg E (mOr ma mb)) := (pw_or ha hb).imp fun σ H Q w => by
  obtain ⟨Hb, ρ, R, S⟩ := w
  refine tT_mono (e_test R S) fun c H1 ⟨Hb1, ρ1, R1, g1, S1⟩ => ?_
  cases c with
  | false =>
    rw [if_neg Bool.false_ne_true]
    exact ⟨Hb1, ρ1, R1, S1.mono fun b σ' ρ' Hb' H' g2 R2 p => p (g1.trans g2)⟩
  | true =>
    rw [if_pos rfl]
    exact S1.ret R1 g1 rfl
theorem mt_and1 (ha : PT X a (tT X.K X.mg E ma)) : PW X (.BoolOp .And [a] pos) (tT X.K X.mg E ma) := pw_and1 ha
theorem mt_or1 (ha : PT X a (tT X.K X.mg E ma)) : PW X (.BoolOp .Or [a] pos) (tT X.K X.mg E ma) := pw_or1 ha
theorem mt_not (ha : PT X a (tT X.K X.mg E ma)) : PT X (.UnaryOp .Not a pos) (tT X.K X.mg E (mNot ma)) := (pt_not ha).imp fun σ H Q w => by
  obtain ⟨Hb, ρ, R, S⟩ := w
  refine tT_mono (e_test R S) fun c H1 ⟨Hb1, ρ1, R1, g1, S1⟩ => ?_
  exact S1.ret R1 g1 rfl
end
end Mi

/-! Mi: arguments, displays, calls of built-ins. -/
namespace Mi
open PySem L2 Evl

/-! ### values by truth, either or -/
def mAndV (a b : M Res) : M Res := bnd (thaw a) fun x => match isT x with
  | some true => b
  | some false => ret (.val (.bool false))
  | none => stuck
def mOrV (a b : M Res) : M Res := bnd (thaw a) fun x => match isT x with
  | some true => ret (.val (.bool true))
  | some false => b
  | none => stuck
def mIf (c : M Bool) (a b : M Res) : M Res := bnd c fun t => if t then a else b
section
variable {X : Cx} {E : WX} {pos : Pos} {a b c : Expr} {rest : List Expr} {ma mb : M Res} {mc : M Bool}
theorem isT_rep {K : PySem.W.Frag} {Hb : Hp} {σ : St} {v : V} {x : Res} {k : Bool} (rx : RepA K Hb σ [v] [x]) (q : isT x = some k) : v = .bl k := by
  have e := isT_some q
  subst e
  cases rx with
  | val h _ => exact h.bool_inv
theorem me_and (ha : PE X a (tE X.K X.mg E ma)) (hb : PE X (.BoolOp .And (b :: rest) pos) (tE X.K X.mg E mb)) : PE X (.BoolOp .And (a :: b :: rest) pos) (tE X.K X.mg E (mAndV ma mb)) := (pe_and ha hb).imp fun σ H Q w => by
  obtain ⟨Hb, ρ, R, S⟩ := w
  refine tE_mono (e_thaw R S) fun v H1 ⟨Hb1, ρ1, x, R1, rx, g1, S1⟩ => ?_
  cases q : isT x with
  | none =>
    rw [q] at S1
    obtain ⟨_, _, e, _⟩ := S1
    cases e
  | some k =>
    rw [q] at S1
    refine ⟨k, isT_rep rx q, ?_⟩
    cases k with
    | true =>
      rw [if_pos rfl]
      exact e_last R1 g1.t (S1.mono fun b σ' ρ' Hb' H' g2 R2 p => p (g1.trans g2))
    | false =>
      rw [if_neg Bool.false_ne_true]
      exact S1.ret R1 g1 rfl _ (.bl false)
theorem me_or (ha : PE X a (tE X.K X.mg E ma)) (hb : PE X (.BoolOp .Or (b :: rest) pos) (tE X.K X.mg E mb)) : PE X (.BoolOp .Or (a :: b :: rest) pos) (tE X.K X.mg E (mOrV ma mb)) := (pe_or ha hb).imp fun σ H Q w => by
  obtain ⟨Hb, ρ, R, S⟩ := w
  refine tE_mono (e_thaw R S) fun v H1 ⟨Hb1, ρ1, x, R1, rx, g1, S1⟩ => ?_
  cases q : isT x with
  | none =>
    rw [q] at S1
    obtain ⟨_, _, e, _⟩ := S1
    cases e
  | some k =>
    rw [q] at S1
    refine ⟨k, isT_rep rx q, ?_⟩
    cases k with
    | true =>
      rw [if_pos rfl]
      exact S1.ret R1 g1 rfl _ (.bl true)
    | false =>
      rw [if_neg Bool.false_ne_true]
      exact e_last R1 g1.t (S1.mono fun b σ' ρ' Hb' H' g2 R2 p => p (g1.trans g2))
theorem me_one {op} (h : PE X a (tE X.K X.mg E ma)) : PE X (.BoolOp op [a] pos) (tE X.K X.mg E ma) := pe_one h
theorem me_if (hc : PT X c (tT X.K X.mg E mc)) (ha : PE X a (tE X.K X.mg E ma)) (hb : PE X b (tE X.K X.mg E mb)) : PE X (.IfExp c a b pos) (tE X.K X.mg E (mIf mc ma mb)) := (pe_ifExp hc ha hb).imp fun σ H Q w => by
  obtain ⟨Hb, ρ, R, S⟩ := w
  refine tT_mono (e_test R S) fun t H1 ⟨Hb1, ρ1, R1, g1, S1⟩ => ?_
  cases t with
  | true =>
    rw [if_pos rfl]
    exact e_last R1 g1.t (S1.mono fun b σ' ρ' Hb' H' g2 R2 p => p (g1.trans g2))
  | false =>
    rw [if_neg Bool.false_ne_true]
    exact e_last R1 g1.t (S1.mono fun b σ' ρ' Hb' H' g2 R2 p => p (g1.trans g2))
/-- a test by the truth of any value -/
theorem mt_tru {m : M Res} (he : PE X a (tE X.K X.mg E m)) (hs : ∀ whole, isTrue a X.env whole = (do let v ← whole; standAt a.pos; holding [v] (truthy v)) := by intro _; rfl) : PT X a (tT X.K X.mg E (mTru m)) := (pt_truth he hs).imp fun σ H Q w => by
  obtain ⟨Hb, ρ, R, S⟩ := w
  refine tE_mono (e_thaw R S) fun v H1 ⟨Hb1, ρ1, x, R1, rx, g1, S1⟩ => ?_
  obtain ⟨out, ρ', e, h1, h2⟩ := S1
  unfold asTru at e
  split at e
  · rename_i d hd
    split at e
    · rename_i k hk
      cases e
      refine ⟨k, ?_, h1 _ rfl σ Hb1 H1 Go.refl R1 g1 rfl⟩
      have tp := repA_top R1 rx hd
      unfold truD at hk
      split at hk
      · cases hk; cases tp.none; rfl
      · cases hk; cases tp.bool; rfl
      · cases hk; cases tp.int; rfl
      · rename_i z
        split at hk
        · rename_i c
          cases hk
          cases tp.str
          refine ⟨c, ?_⟩
          cases q : z.length with
          | zero => rfl
          | succ n =>
            have e : ((n + 1 : Nat) : Int) ≠ 0 := by omega
            simp [e]
            omega
        · cases hk
      · rename_i xs
        cases hk
        obtain ⟨p, vs, rfl, s, r⟩ := tp.list R1.ex
        refine .inl ⟨vs, s, ?_⟩
        cases r <;> rfl
      · rename_i xs
        cases hk
        obtain ⟨p, vs, rfl, s, r⟩ := tp.tuple R1.ex
        refine .inr (.inl ⟨vs, s, ?_⟩)
        cases r <;> rfl
      · cases hk
    · cases e
  · cases e
end

/-! ### arguments -/
def aNil : M (List Res) := ret []
/-- an argument that is seen | that is kept -/
def aT (m : M Res) (r : M (List Res)) : M (List Res) := bnd (thaw m) fun x => bnd r fun xs => ret (x :: xs)
def aV (m : M Res) (r : M (List Res)) : M (List Res) := bnd (mVal m) fun d => bnd r fun xs => ret (.val d :: xs)
section
variable {X : Cx} {E : WX} {e : Expr} {es : List Expr} {m : M Res} {mr : M (List Res)}
theorem ma_nil : PA X [] (tA X.K X.mg E aNil) := ⟨fun pos pins s σ H Q I w => pa_nil.run pos pins s σ H Q I (by
  obtain ⟨Hb, ρ, R, S⟩ := w
  exact S.ret R rfl [] .nil)⟩
theorem ma_t (he : PE X e (tE X.K X.mg E m)) (hr : PA X es (tA X.K X.mg E mr)) (hs : starEach (e :: es) X.env = (false, eval e X.env) :: starEach es X.env := by rfl) : PA X (e :: es) (tA X.K X.mg E (aT m mr)) := (pa_cons he hr hs).imp fun σ H Q w => by
  obtain ⟨Hb, ρ, R, S⟩ := w
  refine tE_mono (e_thaw R S) fun v H1 ⟨Hb1, ρ1, x, R1, rx, g1, S1⟩ => ?_
  refine tA_mono (e_args R1 S1) fun vs H2 ⟨Hb2, ρ2, rs, R2, rr, g2, S2⟩ => ?_
  exact S2.ret R2 g2 (g1.trans g2) rfl _ ((rx.mono g2.b).append rr)
theorem ma_v (he : PE X e (tE X.K X.mg E m)) (hr : PA X es (tA X.K X.mg E mr)) (hs : starEach (e :: es) X.env = (false, eval e X.env) :: starEach es X.env := by rfl) : PA X (e :: es) (tA X.K X.mg E (aV m mr)) := (pa_cons he hr hs).imp fun σ H Q w => by
  obtain ⟨Hb, ρ, R, S⟩ := w
  refine tE_mono (e_val R S) fun v H1 ⟨Hb1, ρ1, d, R1, rx, g1, S1⟩ => ?_
  refine tA_mono (e_args R1 S1) fun vs H2 ⟨Hb2, ρ2, rs, R2, rr, g2, S2⟩ => ?_
  exact S2.ret R2 g2 (g1.trans g2) rfl _ (.val (rx.mono g2.b) rr)
end
/-- all data -/
def valsOf : List Res → Option (List D)
  | [] => some []
  | .val d :: rs => (valsOf rs).map (d :: ·)
  | _ :: _ => none
theorem valsOf_rp {K : PySem.W.Frag} {Hb : Hp} {σ : St} : ∀ {vs : List V} {rs : List Res} {ds : List D}, RepA K Hb σ vs rs → valsOf rs = some ds → RpAll K Hb vs ds
  | _, _, _, .nil, e => by cases e; exact .nil
  | _, _, _, .val a b, e => by
    unfold valsOf at e
    obtain ⟨es, e1, rfl⟩ := Option.map_eq_some_iff.mp e
    exact .cons a (valsOf_rp b e1)
  | _, _, _, .slot _ _, e => by cases e
def mTup (as : M (List Res)) : M Res := bnd as fun rs => fun ρ => match valsOf rs with
  | some ds => if ds.length ≤ sizeLine then some (.ok (.val (.tuple ds)), ρ) else none
  | none => none
def mLst (as : M (List Res)) : M Res := bnd as fun rs => fun ρ => match valsOf rs with
  | some ds => if ds.length ≤ sizeLine then some (.ok (.fresh ds), ρ) else none
  | none => none
section
variable {X : Cx} {E : WX} {es : List Expr} {pos : Pos} {mr : M (List Res)}
theorem me_tup {k} (h : PA X es (tA X.K X.mg E mr)) : PE X (.Tuple es k pos) (tE X.K X.mg E (mTup mr)) := (pe_tup h).imp fun σ H Q w => by
  obtain ⟨Hb, ρ, R, S⟩ := w
  refine tA_mono (e_args R S) fun vs H2 ⟨Hb2, ρ2, rs, R2, rr, g2, S2⟩ => ?_
  obtain ⟨out, ρ', e, h1, h2⟩ := S2
  dsimp only at e
  split at e
  · rename_i ds hd
    split at e
    · rename_i c
      cases e
      have r := valsOf_rp rr hd
      refine ⟨by rw [r.length]; exact c, fun p hp => ?_⟩
      have n := New.fix (o := HO.tup vs) R2.ex hp
      exact h1 _ rfl σ _ _ n.go (n.rel R2) (g2.trans n.go) rfl _ (.tup (SqT.of upd_same) (r.mono n.b))
    · cases e
  · cases e
theorem me_lst (h : PA X es (tA X.K X.mg E mr)) : PE X (.List es pos) (tE X.K X.mg E (mLst mr)) := (pe_lst h).imp fun σ H Q w => by
  obtain ⟨Hb, ρ, R, S⟩ := w
  refine tA_mono (e_args R S) fun vs H2 ⟨Hb2, ρ2, rs, R2, rr, g2, S2⟩ => ?_
  obtain ⟨out, ρ', e, h1, h2⟩ := S2
  dsimp only at e
  split at e
  · rename_i ds hd
    split at e
    · rename_i c
      cases e
      have r := valsOf_rp rr hd
      refine ⟨by rw [r.length]; exact c, fun p hp => ?_⟩
      have n := New.mut (o := HO.lst vs) R2.ex hp
      have g := g2.trans (n.go (σ := σ) (ρ := ρ2))
      refine h1 _ rfl σ _ _ n.go (n.rel R2) g rfl _ ⟨p, vs, rfl, fresh_back R2.ex hp, upd_same, r, Classical.byContradiction fun q => g2.t p q hp, fun q => ?_⟩
      obtain ⟨_, ws, z⟩ := R2.owned q
      rw [hp] at z; cases z
    · cases e
  · cases e
end

/-! ### calls of what is known by its values -/
abbrev TopAll (K : PySem.W.Frag) (Hb H : Hp) : List V → List D → Prop := Paired (Top K Hb H)
def lookAll : List Res → R → Option (List D)
  | [], _ => some []
  | r :: rs, ρ => match look r ρ, lookAll rs ρ with
    | some d, some ds => some (d :: ds)
    | _, _ => none
theorem lookAll_top {K : PySem.W.Frag} {Hb H : Hp} {σ : St} {ρ : R} (R : Rel K Hb H σ ρ) : ∀ {vs : List V} {rs : List Res} {ds : List D}, RepA K Hb σ vs rs → lookAll rs ρ = some ds → TopAll K Hb H vs ds
  | _, _, _, .nil, e => by cases e; exact .nil
  | _, _, _, .val a b, e => by
    unfold lookAll at e
    split at e
    · rename_i d ds h1 h2
      cases e
      exact .cons (repA_top R (.val a .nil) h1) (lookAll_top R b h2)
    · cases e
  | _, _, _, .slot a b, e => by
    unfold lookAll at e
    split at e
    · rename_i d ds h1 h2
      cases e
      exact .cons (repA_top R (.slot a .nil) h1) (lookAll_top R b h2)
    · cases e
def Cal (K : PySem.W.Frag) (r : List V → Hp → VK → Prop) (f : List D → Option Res) : Prop := ∀ (Hb H : Hp) (vs : List V) (ds : List D) (res : Res) (Q : VK), Ex Hb H → TopAll K Hb H vs ds → f ds = some res →
  (∀ v Hb' H', New Hb H Hb' H' → RR K Hb' H' H v res → Q v H') → r vs H Q
def opN (f : List D → Option Res) (rs : List Res) : M Res := fun ρ => match lookAll rs ρ with
  | some ds => match f ds with
    | some r => some (.ok r, ρ)
    | none => none
  | none => none
def mCall (f : List D → Option Res) (as : M (List Res)) : M Res := bnd as fun rs => opN f rs
theorem cal_read {K : PySem.W.Frag} {mg : Str → Option Value} {E : WX} {σ : St} {H : Hp} {Q : VK} {r : List V → Hp → VK → Prop} {f : List D → Option Res} {mr : M (List Res)} (hr : Cal K r f) (w : tE K mg E (mCall f mr) σ H Q) : tA K mg E mr σ H fun vs H1 => r vs H1 Q := by
  obtain ⟨Hb, ρ, R, S⟩ := w
  refine tA_mono (e_args R S) fun vs H2 ⟨Hb2, ρ2, rs, R2, rr, g2, S2⟩ => ?_
  obtain ⟨out, ρ', e, h1, h2⟩ := S2
  unfold opN at e
  split at e
  · rename_i ds hd
    split at e
    · rename_i res hf
      cases e
      exact hr Hb2 H2 vs ds res Q R2.ex (lookAll_top R2 rr hd) hf fun v Hb' H' n rr' => h1 _ rfl σ Hb' H' n.go (n.rel R2) (g2.trans n.go) rfl v ((rr'.rep R2).from' g2.t)
    · cases e
  · cases e
theorem Cal.or {K : PySem.W.Frag} {r r' : List V → Hp → VK → Prop} {f f' : List D → Option Res} (h : Cal K r f) (h' : Cal K r' f') : Cal K (fun vs H Q => r vs H Q ∨ r' vs H Q) (fun ds => match f ds with | some z => some z | none => f' ds) := by
  intro Hb H vs ds res Q ex hx hf k
  dsimp only at hf
  cases q : f ds with
  | some z =>
    rw [q] at hf
    exact .inl (h Hb H vs ds res Q ex hx (q.trans hf) k)
  | none =>
    rw [q] at hf
    exact .inr (h' Hb H vs ds res Q ex hx hf k)
theorem Cal.imp {K : PySem.W.Frag} {r : List V → Hp → VK → Prop} {f f' : List D → Option Res} (h : Cal K r f) (k : ∀ ds z, f' ds = some z → f ds = some z) : Cal K r f' := fun Hb H vs ds res Q ex hx hf => h Hb H vs ds res Q ex hx (k ds res hf)
theorem CallR.or' {X : Cx} {f : Value} {r r' : List V → Hp → VK → Prop} (h : CallR X f r) (h' : CallR X f r') : CallR X f fun vs H Q => r vs H Q ∨ r' vs H Q := by
  intro pins s σ H xs us Q I rv w
  rcases w with w | w
  · exact h pins s σ H xs us Q I rv w
  · exact h' pins s σ H xs us Q I rv w
section
variable {X : Cx} {E : WX} {e : Expr} {es : List Expr} {p pos : Pos} {x : Str} {id T : String} {r : List V → Hp → VK → Prop} {f : List D → Option Res} {mr : M (List Res)}
theorem me_callB (hc : CallR X (.builtin id) r) (hf : Cal X.K r f) (hg : Gl X x) (hm : X.mg x = none) (hv : bootBuiltins x = some (.builtin id)) (ha : PA X (e :: es) (tA X.K X.mg E mr)) (hn : x ≠ "__name__" := by decide) (hdb : (x == ("__debug__" : Str)) = false := by decide)
    (he : starEach (e :: es) X.env = (false, eval e X.env) :: starEach es X.env := by rfl) (hpl : (backTo pos (starEach es X.env)).any (·.1) = false := by rfl) : PE X (.Call (.Name x p) (e :: es) [] pos) (tE X.K X.mg E (mCall f mr)) :=
  (pe_callB hc hg hm hv ha hn hdb he hpl).imp fun _ _ _ w => cal_read hf w
theorem me_callT (hc : CallR X (.type T) r) (hf : Cal X.K r f) (hg : Gl X x) (hm : X.mg x = none) (hv : bootBuiltins x = some (.type T)) (ha : PA X (e :: es) (tA X.K X.mg E mr)) (hn : x ≠ "__name__" := by decide) (hdb : (x == ("__debug__" : Str)) = false := by decide)
    (he : starEach (e :: es) X.env = (false, eval e X.env) :: starEach es X.env := by rfl) (hpl : (backTo pos (starEach es X.env)).any (·.1) = false := by rfl) : PE X (.Call (.Name x p) (e :: es) [] pos) (tE X.K X.mg E (mCall f mr)) :=
  (pe_callTy hc hg hm hv ha hn hdb he hpl).imp fun _ _ _ w => cal_read hf w
/-- a name of the module that holds a built-in function -/
theorem me_callG (hc : CallR X (.builtin id) r) (hf : Cal X.K r f) (hg : Gl X x) (hm : X.mg x = some (.builtin id)) (ha : PA X (e :: es) (tA X.K X.mg E mr)) (hdb : (x == ("__debug__" : Str)) = false := by decide)
    (he : starEach (e :: es) X.env = (false, eval e X.env) :: starEach es X.env := by rfl) (hpl : (backTo pos (starEach es X.env)).any (·.1) = false := by rfl) : PE X (.Call (.Name x p) (e :: es) [] pos) (tE X.K X.mg E (mCall f mr)) :=
  (pe_callBfun hc hg hm ha hdb he hpl).imp fun _ _ _ w => cal_read hf w
end

/-! ### which -/
section
variable {K : PySem.W.Frag} {X : Cx}
theorem tops1 {Hb H : Hp} {vs : List V} {d : D} (h : TopAll K Hb H vs [d]) : ∃ v, vs = [v] ∧ Top K Hb H v d := by
  cases h with
  | cons a b =>
    cases b
    exact ⟨_, rfl, a⟩
theorem tops2 {Hb H : Hp} {vs : List V} {d e : D} (h : TopAll K Hb H vs [d, e]) : ∃ v w, vs = [v, w] ∧ Top K Hb H v d ∧ Top K Hb H w e := by
  cases h with
  | cons a b =>
    cases b with
    | cons a' b' =>
      cases b'
      exact ⟨_, _, rfl, a, a'⟩
def lenD : List D → Option Res
  | [.list xs] => some (.val (.int (xs.length : Nat)))
  | [.tuple xs] => some (.val (.int (xs.length : Nat)))
  | [.str z] => if z.length ≤ sizeLine then some (.val (.int (z.length : Nat))) else none
  | _ => none
theorem cal_len : Cal K (fun xs H Q => ∃ x n, xs = [x] ∧ LenV K x H n ∧ Q (.int n) H) lenD := by
  intro Hb H vs ds res Q ex hx hf k
  unfold lenD at hf
  split at hf
  · rename_i xs
    cases hf
    obtain ⟨v, rfl, tp⟩ := tops1 hx
    obtain ⟨p, ws, rfl, s, r⟩ := tp.list ex
    exact ⟨_, xs.length, rfl, .inl ⟨ws, s, r.length.symm⟩, k _ Hb H (New.refl ex) (.int _)⟩
  · rename_i xs
    cases hf
    obtain ⟨v, rfl, tp⟩ := tops1 hx
    obtain ⟨p, ws, rfl, s, r⟩ := tp.tuple ex
    exact ⟨_, xs.length, rfl, .inr ⟨ws, s, r.length.symm⟩, k _ Hb H (New.refl ex) (.int _)⟩
  · rename_i z
    split at hf
    · rename_i c
      cases hf
      obtain ⟨v, rfl, tp⟩ := tops1 hx
      cases tp.str
      exact ⟨_, z.length, rfl, ⟨c, rfl⟩, k _ Hb H (New.refl ex) (.int _)⟩
    · cases hf
  · cases hf
def absD : List D → Option Res
  | [.int i] => some (.val (.int (if i < 0 then -i else i)))
  | _ => none
theorem cal_abs : Cal K (fun xs H Q => ∃ i, xs = [.int i] ∧ Q (.int (if i < 0 then -i else i)) H) absD := by
  intro Hb H vs ds res Q ex hx hf k
  unfold absD at hf
  split at hf
  · cases hf
    obtain ⟨v, rfl, tp⟩ := tops1 hx
    cases tp.int
    exact ⟨_, rfl, k _ Hb H (New.refl ex) (.int _)⟩
  · cases hf
def max2D : List D → Option Res
  | [.int i, .int j] => some (.val (.int (if j > i then j else i)))
  | _ => none
def min2D : List D → Option Res
  | [.int i, .int j] => some (.val (.int (if j < i then j else i)))
  | _ => none
theorem cal_max2 : Cal K (fun xs H Q => ∃ i j, xs = [.int i, .int j] ∧ Q (.int (if j > i then j else i)) H) max2D := by
  intro Hb H vs ds res Q ex hx hf k
  unfold max2D at hf
  split at hf
  · cases hf
    obtain ⟨v, w, rfl, t1, t2⟩ := tops2 hx
    cases t1.int
    cases t2.int
    exact ⟨_, _, rfl, k _ Hb H (New.refl ex) (.int _)⟩
  · cases hf
theorem cal_min2 : Cal K (fun xs H Q => ∃ i j, xs = [.int i, .int j] ∧ Q (.int (if j < i then j else i)) H) min2D := by
  intro Hb H vs ds res Q ex hx hf k
  unfold min2D at hf
  split at hf
  · cases hf
    obtain ⟨v, w, rfl, t1, t2⟩ := tops2 hx
    cases t1.int
    cases t2.int
    exact ⟨_, _, rfl, k _ Hb H (New.refl ex) (.int _)⟩
  · cases hf
def gcdD : List D → Option Res
  | [.int i, .int j] => some (.val (.int ((Nat.gcd i.natAbs j.natAbs : Nat) : Int)))
  | _ => none
theorem cal_gcd : Cal K rGcd gcdD := by
  intro Hb H vs ds res Q ex hx hf k
  unfold gcdD at hf
  split at hf
  · cases hf
    obtain ⟨v, w, rfl, t1, t2⟩ := tops2 hx
    cases t1.int
    cases t2.int
    exact ⟨_, _, rfl, k _ Hb H (New.refl ex) (.int _)⟩
  · cases hf
def intD : List D → Option Res
  | [.int i] => some (.val (.int i))
  | [.bool b] => some (.val (.int (if b then 1 else 0)))
  | [.str a] => if a.length ≤ 640 then (PySem.intText? a).map fun n => .val (.int n) else none
  | _ => none
theorem cal_int : Cal K (fun xs H Q => ((∃ i, xs = [.int i] ∧ Q (.int i) H) ∨ ∃ k, xs = [.bl k] ∧ Q (.int (if k then 1 else 0)) H) ∨ ∃ a n, xs = [.str a] ∧ PySem.intText? a = some n ∧ a.length ≤ 640 ∧ Q (.int n) H) intD := by
  intro Hb H vs ds res Q ex hx hf k
  unfold intD at hf
  split at hf
  · cases hf
    obtain ⟨v, rfl, t1⟩ := tops1 hx
    cases t1.int
    exact .inl (.inl ⟨_, rfl, k _ Hb H (New.refl ex) (.int _)⟩)
  · cases hf
    obtain ⟨v, rfl, t1⟩ := tops1 hx
    cases t1.bool
    exact .inl (.inr ⟨_, rfl, k _ Hb H (New.refl ex) (.int _)⟩)
  · rename_i a
    split at hf
    · rename_i c
      obtain ⟨n, e, rfl⟩ := Option.map_eq_some_iff.mp hf
      obtain ⟨v, rfl, t1⟩ := tops1 hx
      cases t1.str
      exact .inr ⟨a, n, rfl, e, c, k _ Hb H (New.refl ex) (.int _)⟩
    · cases hf
  · cases hf
theorem cr_int : CallR X (.type "int") (fun xs H Q => ((∃ i, xs = [.int i] ∧ Q (.int i) H) ∨ ∃ k, xs = [.bl k] ∧ Q (.int (if k then 1 else 0)) H) ∨ ∃ a n, xs = [.str a] ∧ PySem.intText? a = some n ∧ a.length ≤ 640 ∧ Q (.int n) H) := CallR.or' call_int1 call_int_str
def strD : List D → Option Res
  | [.int i] => if i.natAbs.log2 < 1920 then some (.val (.str (toString i))) else none
  | [.str a] => some (.val (.str a))
  | _ => none
theorem cal_str : Cal K (fun xs H Q => (∃ i, xs = [.int i] ∧ i.natAbs.log2 < 1920 ∧ Q (.str (toString i)) H) ∨ ∃ a, xs = [.str a] ∧ Q (.str a) H) strD := by
  intro Hb H vs ds res Q ex hx hf k
  unfold strD at hf
  split at hf
  · split at hf
    · rename_i c
      cases hf
      obtain ⟨v, rfl, t1⟩ := tops1 hx
      cases t1.int
      exact .inl ⟨_, rfl, c, k _ Hb H (New.refl ex) (.str _)⟩
    · cases hf
  · cases hf
    obtain ⟨v, rfl, t1⟩ := tops1 hx
    cases t1.str
    exact .inr ⟨_, rfl, k _ Hb H (New.refl ex) (.str _)⟩
  · cases hf
theorem cr_str : CallR X (.type "str") (fun xs H Q => (∃ i, xs = [.int i] ∧ i.natAbs.log2 < 1920 ∧ Q (.str (toString i)) H) ∨ ∃ a, xs = [.str a] ∧ Q (.str a) H) := CallR.or' call_str_int SkE.call_str_str
def listD : List D → Option Res
  | [.list xs] => some (.fresh xs)
  | [.tuple xs] => some (.fresh xs)
  | _ => none
theorem cal_list : Cal K (fun xs H Q => ∃ p ys, xs = [.ref p] ∧ (SqL K H p ys ∨ SqT K H p ys) ∧ ∀ l, H l = none → Q (.ref l) (upd H l (.lst ys))) listD := by
  intro Hb H vs ds res Q ex hx hf k
  unfold listD at hf
  split at hf
  · cases hf
    obtain ⟨v, rfl, tp⟩ := tops1 hx
    obtain ⟨p, ws, rfl, s, r⟩ := tp.list ex
    exact ⟨p, ws, rfl, .inl s, fun l hl => k _ Hb _ (New.mut ex hl) ⟨l, ws, rfl, fresh_back ex hl, upd_same, r, hl⟩⟩
  · cases hf
    obtain ⟨v, rfl, tp⟩ := tops1 hx
    obtain ⟨p, ws, rfl, s, r⟩ := tp.tuple'
    exact ⟨p, ws, rfl, .inr (ex_t ex s), fun l hl => k _ Hb _ (New.mut ex hl) ⟨l, ws, rfl, fresh_back ex hl, upd_same, r, hl⟩⟩
  · cases hf
def tupleD : List D → Option Res
  | [.list xs] => some (.val (.tuple xs))
  | [.tuple xs] => some (.val (.tuple xs))
  | _ => none
theorem cal_tuple : Cal K (fun xs H Q => ∃ p ys, xs = [.ref p] ∧ ((SqL K H p ys ∧ ∀ l, H l = none → Q (.ref l) (upd H l (.tup ys))) ∨ (SqT K H p ys ∧ Q (.ref p) H))) tupleD := by
  intro Hb H vs ds res Q ex hx hf k
  unfold tupleD at hf
  split at hf
  · cases hf
    obtain ⟨v, rfl, tp⟩ := tops1 hx
    obtain ⟨p, ws, rfl, s, r⟩ := tp.list ex
    refine ⟨p, ws, rfl, .inl ⟨s, fun l hl => ?_⟩⟩
    have n := New.fix (o := HO.tup ws) ex hl
    exact k _ _ _ n (.tup (SqT.of upd_same) (r.mono n.b))
  · cases hf
    obtain ⟨v, rfl, tp⟩ := tops1 hx
    obtain ⟨p, ws, rfl, s, r⟩ := tp.tuple'
    exact ⟨p, ws, rfl, .inr ⟨ex_t ex s, k _ Hb H (New.refl ex) (.tup s r)⟩⟩
  · cases hf
/-- lists of ints, of truths -/
def intsOf : List D → Option (List Int)
  | [] => some []
  | .int i :: r => (intsOf r).map (i :: ·)
  | _ :: _ => none
def boolsOf : List D → Option (List Bool)
  | [] => some []
  | .bool i :: r => (boolsOf r).map (i :: ·)
  | _ :: _ => none
theorem ints_rp {H : Hp} : ∀ {vs : List V} {ds : List D} {ns : List Int}, RpAll K H vs ds → intsOf ds = some ns → vs = ns.map V.int
  | _, _, _, .nil, e => by cases e; rfl
  | _, d :: ds, _, .cons a b, e => by
    cases d <;> unfold intsOf at e <;> try cases e
    obtain ⟨es, e1, rfl⟩ := Option.map_eq_some_iff.mp e
    rw [a.int_inv, ints_rp b e1]
    rfl
theorem bools_rp {H : Hp} : ∀ {vs : List V} {ds : List D} {ns : List Bool}, RpAll K H vs ds → boolsOf ds = some ns → vs = ns.map V.bl
  | _, _, _, .nil, e => by cases e; rfl
  | _, d :: ds, _, .cons a b, e => by
    cases d <;> unfold boolsOf at e <;> try cases e
    obtain ⟨es, e1, rfl⟩ := Option.map_eq_some_iff.mp e
    rw [a.bool_inv, bools_rp b e1]
    rfl
def sumD : List D → Option Res
  | [.list xs] => (intsOf xs).map fun ns => .val (.int ns.sum)
  | _ => none
theorem cal_sum : Cal K (rSum K) sumD := by
  intro Hb H vs ds res Q ex hx hf k
  unfold sumD at hf
  split at hf
  · obtain ⟨ns, e, rfl⟩ := Option.map_eq_some_iff.mp hf
    obtain ⟨v, rfl, tp⟩ := tops1 hx
    obtain ⟨p, ws, rfl, s, r⟩ := tp.list ex
    rw [ints_rp r e] at s
    exact ⟨p, ns, rfl, s, k _ Hb H (New.refl ex) (.int _)⟩
  · cases hf
def allD : List D → Option Res
  | [.list xs] => (boolsOf xs).map fun ns => .val (.bool (ns.all id))
  | _ => none
def anyD : List D → Option Res
  | [.list xs] => (boolsOf xs).map fun ns => .val (.bool (ns.any id))
  | _ => none
theorem cal_all : Cal K (rAll K) allD := by
  intro Hb H vs ds res Q ex hx hf k
  unfold allD at hf
  split at hf
  · obtain ⟨ns, e, rfl⟩ := Option.map_eq_some_iff.mp hf
    obtain ⟨v, rfl, tp⟩ := tops1 hx
    obtain ⟨p, ws, rfl, s, r⟩ := tp.list ex
    rw [bools_rp r e] at s
    exact ⟨p, ns, rfl, s, k _ Hb H (New.refl ex) (.bl _)⟩
  · cases hf
theorem cal_any : Cal K (rAny K) anyD := by
  intro Hb H vs ds res Q ex hx hf k
  unfold anyD at hf
  split at hf
  · obtain ⟨ns, e, rfl⟩ := Option.map_eq_some_iff.mp hf
    obtain ⟨v, rfl, tp⟩ := tops1 hx
    obtain ⟨p, ws, rfl, s, r⟩ := tp.list ex
    rw [bools_rp r e] at s
    exact ⟨p, ns, rfl, s, k _ Hb H (New.refl ex) (.bl _)⟩
  · cases hf
def divmodD : List D → Option Res
  | [.int i, .int j] => if 0 < j ∧ j.natAbs.log2 < 9000 then some (.val (.tuple [.int (i / j), .int (i % j)])) else none
  | _ => none
theorem cal_divmod : Cal K (fun xs H Q => ∃ i j, xs = [.int i, .int j] ∧ CDivP i j ∧ ∀ p, H p = none → Q (.ref p) (upd H p (.tup [.int (i / j), .int (i % j)]))) divmodD := by
  intro Hb H vs ds res Q ex hx hf k
  unfold divmodD at hf
  split at hf
  · rename_i i j
    split at hf
    · rename_i c
      cases hf
      obtain ⟨v, w, rfl, t1, t2⟩ := tops2 hx
      cases t1.int
      cases t2.int
      refine ⟨_, _, rfl, ⟨c.1, PyProof.noPylong_of_log2 c.2⟩, fun p hp => ?_⟩
      have n := New.fix (o := HO.tup [.int (i / j), .int (i % j)]) ex hp
      exact k _ _ _ n (.tup (SqT.of upd_same) (.cons (.int _) (.cons (.int _) .nil)))
    · cases hf
  · cases hf
/-- repr -/
def reprOk (d : D) : Bool := d.canLay0 && d.showable && decide (d.depth ≤ 64) && decide (d.shown.length ≤ sizeLine)
def reprD : List D → Option Res
  | [d] => if reprOk d then some (.val (.str d.shown)) else none
  | _ => none
def rRepr (K : PySem.W.Frag) : List V → Hp → VK → Prop := fun vs H Q => ∃ v d, vs = [v] ∧ Dp K H v d ∧ reprOk d = true ∧ Q (.str d.shown) H
theorem cal_repr : Cal K (rRepr K) reprD := by
  intro Hb H vs ds res Q ex hx hf k
  unfold reprD at hf
  split at hf
  · split at hf
    · rename_i c
      cases hf
      obtain ⟨v, rfl, tp⟩ := tops1 hx
      have c' := c
      unfold reprOk at c'
      simp only [Bool.and_eq_true] at c'
      exact ⟨v, _, rfl, rp_dp c'.1.1.1 (tp.rp ex), c, k _ Hb H (New.refl ex) (.str _)⟩
    · cases hf
  · cases hf
end
end Mi

/-! Mi: statements. -/
namespace Mi
open PySem L2 Evl

/-! ### a slot is set -/
section
variable {K : PySem.W.Frag} {σ : St} {ρ : R} {Hb H Hb1 H1 : Hp} {ρ1 : R} {v : V} {d : D} {i : Nat}
theorem get_set {ρ : R} {i j : Nat} {s : Option Slot} {t : Option Slot} (h : (ρ.set i s)[j]? = some t) : (j = i ∧ t = s) ∨ (j ≠ i ∧ ρ[j]? = some t) := by
  by_cases e : j = i
  · subst e
    by_cases hi : j < ρ.length
    · rw [List.getElem?_set_self hi] at h
      cases h
      exact .inl ⟨rfl, rfl⟩
    · rw [List.getElem?_eq_none (by simpa using hi)] at h
      cases h
  · rw [List.getElem?_set_ne (Ne.symm e)] at h
    exact .inr ⟨e, h⟩
theorem get_set_V {σ : St} {i j : Nat} {s t : Option V} (h : (σ.set i s)[j]? = some t) : (j = i ∧ t = s) ∨ (j ≠ i ∧ σ[j]? = some t) := by
  by_cases e : j = i
  · subst e
    by_cases hi : j < σ.length
    · rw [List.getElem?_set_self hi] at h
      cases h
      exact .inl ⟨rfl, rfl⟩
    · rw [List.getElem?_eq_none (by simpa using hi)] at h
      cases h
  · rw [List.getElem?_set_ne (Ne.symm e)] at h
    exact .inr ⟨e, h⟩
/-- may be stored to -/
def okSet (ρ : R) (i : Nat) : Bool := decide (i < ρ.length) && match ρ[i]? with
  | some (some s) => match s.m with
    | .val => true
    | .own => true
    | _ => false
  | _ => true
theorem okSet_io (h : okSet ρ i = true) {s : Slot} (e : ρ[i]? = some (some s)) : s.m.isIo = false := by
  unfold okSet at h
  rw [e] at h
  obtain ⟨m, d⟩ := s
  cases m <;> simp_all [Md.isIo]
theorem okSet_lk (h : okSet ρ i = true) {s : Slot} (e : ρ[i]? = some (some s)) : s.m.isLk = false := by
  unfold okSet at h
  rw [e] at h
  obtain ⟨m, d⟩ := s
  cases m <;> simp_all [Md.isLk]
theorem okSet_lt (h : okSet ρ i = true) : i < ρ.length := by
  unfold okSet at h
  rw [Bool.and_eq_true] at h
  exact of_decide_eq_true h.1
theorem own_set {a : Addr} {s : Option Slot} {w : Option V} (hs : ∀ t, s = some t → t.m.isOwn = false) (q : Own (σ.set i w) (ρ.set i s) a) : Own σ ρ a := by
  obtain ⟨j, t, q1, q2, q3⟩ := q
  rcases get_set q1 with ⟨_, z⟩ | ⟨ne, z⟩
  · rw [hs t z.symm] at q2; cases q2
  · rcases get_set_V q3 with ⟨e, _⟩ | ⟨_, z'⟩
    · exact absurd e ne
    · exact ⟨j, t, z, q2, z'⟩
/-- a datum is stored -/
theorem set_val (R : Rel K Hb H σ ρ) (rp : Rp K Hb v d) (h : okSet ρ i = true) :
    Go σ ρ Hb H (σ.set i (some v)) (ρ.set i (some ⟨.val, d⟩)) Hb H ∧ Rel K Hb H (σ.set i (some v)) (ρ.set i (some ⟨.val, d⟩)) := by
  have hi := okSet_lt h
  refine ⟨⟨Ex.refl _, fun _ _ q _ => q, fun a q1 q2 => absurd q1 q2, fun _ q => q, fun a q => .inl (own_set (fun t e => by cases e; rfl) q), fun j s q1 q2 => ?_, fun j s q1 q2 => ?_⟩, ⟨by simp [R.len], R.ex, fun j s q1 q2 => ?_, fun j s q1 q2 => ?_, fun j k s t a q1 q2 q3 q4 q5 q6 => ?_⟩⟩
  · have ne : j ≠ i := fun e => by
      subst e
      rw [okSet_io h q1] at q2; cases q2
    exact ⟨List.getElem?_set_ne (Ne.symm ne), s, by rw [List.getElem?_set_ne (Ne.symm ne)]; exact q1, q2⟩
  · have ne : j ≠ i := fun e => by
      subst e
      rw [okSet_lk h q1] at q2; cases q2
    exact ⟨List.getElem?_set_ne (Ne.symm ne), by rw [List.getElem?_set_ne (Ne.symm ne)]; exact q1⟩
  · rcases get_set q1 with ⟨e, z⟩ | ⟨ne, z⟩
    · subst e
      cases z
      exact ⟨v, List.getElem?_set_self (by rw [R.len]; exact hi), rp⟩
    · obtain ⟨w, e1, e2⟩ := R.val j s z q2
      exact ⟨w, by rw [List.getElem?_set_ne (Ne.symm ne)]; exact e1, e2⟩
  · rcases get_set q1 with ⟨e, z⟩ | ⟨ne, z⟩
    · cases z; cases q2
    · obtain ⟨a, vs, xs, e1, e2⟩ := R.own j s z q2
      exact ⟨a, vs, xs, by rw [List.getElem?_set_ne (Ne.symm ne)]; exact e1, e2⟩
  · rcases get_set q1 with ⟨e, z⟩ | ⟨ne, z⟩
    · cases z; cases q3
    · rcases get_set q2 with ⟨e', z'⟩ | ⟨ne', z'⟩
      · cases z'; cases q4
      · rw [List.getElem?_set_ne (Ne.symm ne)] at q5
        rw [List.getElem?_set_ne (Ne.symm ne')] at q6
        exact R.inj j k s t a z z' q3 q4 q5 q6
/-- a new list is stored: the slot's own -/
theorem set_own {a : Addr} {vs : List V} {xs : List D} (g : Go σ ρ Hb H σ ρ1 Hb1 H1) (R : Rel K Hb1 H1 σ ρ1) (h1 : Hb1 a = none) (h2 : H1 a = some (.lst vs)) (h3 : RpAll K Hb1 vs xs) (h4 : H a = none) (h5 : ¬ Own σ ρ1 a) (h : okSet ρ1 i = true) :
    Go σ ρ Hb H (σ.set i (some (.ref a))) (ρ1.set i (some ⟨.own, .list xs⟩)) Hb1 H1 ∧ Rel K Hb1 H1 (σ.set i (some (.ref a))) (ρ1.set i (some ⟨.own, .list xs⟩)) := by
  have hi := okSet_lt h
  have hσ : i < σ.length := by rw [R.len]; exact hi
  have noti : ∀ (j : Nat) (s : Slot), j ≠ i → ρ1[j]? = some (some s) → s.m.isOwn = true → σ[j]? ≠ some (some (.ref a)) := fun j s _ q1 q2 q3 => h5 ⟨j, s, q1, q2, q3⟩
  refine ⟨⟨g.b, g.k, g.f, g.t, fun b q => ?_, fun j s q1 q2 => ?_, fun j s q1 q2 => ?_⟩, ⟨by simp [R.len], R.ex, fun j s q1 q2 => ?_, fun j s q1 q2 => ?_, fun j k s t b q1 q2 q3 q4 q5 q6 => ?_⟩⟩
  · obtain ⟨j, t, q1, q2, q3⟩ := q
    rcases get_set_V q3 with ⟨e, z⟩ | ⟨ne, z⟩
    · cases z
      exact .inr h4
    · rcases get_set q1 with ⟨e', _⟩ | ⟨_, z'⟩
      · exact absurd e' ne
      · exact g.o b ⟨j, t, z', q2, z⟩
  · obtain ⟨e1, s1, e2, e3⟩ := g.io j s q1 q2
    have ne : j ≠ i := fun e => by
      subst e
      rw [okSet_io h e2] at e3; cases e3
    exact ⟨List.getElem?_set_ne (Ne.symm ne), s1, by rw [List.getElem?_set_ne (Ne.symm ne)]; exact e2, e3⟩
  · obtain ⟨e1, e2⟩ := g.lk j s q1 q2
    have ne : j ≠ i := fun e => by
      subst e
      rw [okSet_lk h e2] at q2; cases q2
    exact ⟨List.getElem?_set_ne (Ne.symm ne), by rw [List.getElem?_set_ne (Ne.symm ne)]; exact e2⟩
  · rcases get_set q1 with ⟨e, z⟩ | ⟨ne, z⟩
    · cases z; cases q2
    · obtain ⟨w, e1, e2⟩ := R.val j s z q2
      exact ⟨w, by rw [List.getElem?_set_ne (Ne.symm ne)]; exact e1, e2⟩
  · rcases get_set q1 with ⟨e, z⟩ | ⟨ne, z⟩
    · subst e
      cases z
      exact ⟨a, vs, xs, List.getElem?_set_self hσ, rfl, h1, h2, h3⟩
    · obtain ⟨b, ws, ys, e1, e2⟩ := R.own j s z q2
      exact ⟨b, ws, ys, by rw [List.getElem?_set_ne (Ne.symm ne)]; exact e1, e2⟩
  · rcases get_set q1 with ⟨e, z⟩ | ⟨ne, z⟩
    · rcases get_set q2 with ⟨e', z'⟩ | ⟨ne', z'⟩
      · rw [e, e']
      · subst e
        rw [List.getElem?_set_self hσ] at q5
        cases q5
        rw [List.getElem?_set_ne (Ne.symm ne')] at q6
        exact absurd q6 (noti k t ne' z' q4)
    · rw [List.getElem?_set_ne (Ne.symm ne)] at q5
      rcases get_set q2 with ⟨e', z'⟩ | ⟨ne', z'⟩
      · subst e'
        rw [List.getElem?_set_self hσ] at q6
        cases q6
        exact absurd q5 (noti j s ne z q3)
      · rw [List.getElem?_set_ne (Ne.symm ne')] at q6
        exact R.inj j k s t b z z' q3 q4 q5 q6
/-- the list that a slot owns gets new contents -/
theorem set_cont {a : Addr} {ws : List V} {ys : List D} {s : Slot} (R : Rel K Hb H σ ρ) (hs : ρ[i]? = some (some s)) (ho : s.m.isOwn = true) (hlk : s.m.isLk = false) (ha : σ[i]? = some (some (.ref a))) (hy : RpAll K Hb ws ys) :
    Go σ ρ Hb H σ (ρ.set i (some ⟨s.m, .list ys⟩)) Hb (upd H a (.lst ws)) ∧ Rel K Hb (upd H a (.lst ws)) σ (ρ.set i (some ⟨s.m, .list ys⟩)) := by
  have hi : i < ρ.length := (List.getElem?_eq_some_iff.mp hs).1
  obtain ⟨a', vs, xs, e1, e2, e3, e4, e5⟩ := R.own i s hs ho
  rw [ha] at e1
  cases e1
  have hown : Own σ ρ a := ⟨i, s, hs, ho, ha⟩
  refine ⟨⟨Ex.refl _, fun b o q n => ?_, fun b q1 q2 => absurd q1 q2, fun b q => ?_, fun b q => ?_, fun j t q1 q2 => ⟨rfl, ?_⟩, fun j t q1 q2 => ⟨rfl, ?_⟩⟩, ⟨by simp [R.len], fun b o q => ?_, fun j t q1 q2 => ?_, fun j t q1 q2 => ?_, fun j k t u b q1 q2 q3 q4 q5 q6 => ?_⟩⟩
  · have ne : b ≠ a := fun e => n (e ▸ hown)
    rw [upd_ne ne]; exact q
  · by_cases e : b = a
    · rw [e, upd_same]; exact fun z => nomatch z
    · rw [upd_ne e]; exact q
  · obtain ⟨j, t, q1, q2, q3⟩ := q
    rcases get_set q1 with ⟨e, z⟩ | ⟨ne, z⟩
    · subst e
      exact .inl ⟨_, s, hs, ho, q3⟩
    · exact .inl ⟨j, t, z, q2, q3⟩
  · by_cases e : j = i
    · subst e
      rw [hs] at q1; cases q1
      exact ⟨_, List.getElem?_set_self hi, q2⟩
    · exact ⟨t, by rw [List.getElem?_set_ne (Ne.symm e)]; exact q1, q2⟩
  · by_cases e : j = i
    · subst e
      rw [hs] at q1; cases q1
      rw [hlk] at q2; cases q2
    · rw [List.getElem?_set_ne (Ne.symm e)]; exact q1
  · have ne : b ≠ a := fun e => by rw [e, e3] at q; cases q
    rw [upd_ne ne]; exact R.ex b o q
  · rcases get_set q1 with ⟨e, z⟩ | ⟨ne, z⟩
    · cases z
      have q2 : s.m.isOwn = false := q2
      rw [ho] at q2; cases q2
    · exact R.val j t z q2
  · rcases get_set q1 with ⟨e, z⟩ | ⟨ne, z⟩
    · subst e
      cases z
      exact ⟨a, ws, ys, ha, rfl, e3, upd_same, hy⟩
    · obtain ⟨b, us, zs, f1, f2, f3, f4, f5⟩ := R.own j t z q2
      refine ⟨b, us, zs, f1, f2, f3, ?_, f5⟩
      rw [upd_ne ?_]
      · exact f4
      · intro e
        subst e
        exact ne (R.inj j i t s _ z hs q2 ho f1 ha)
  · have h1 : ∃ t', ρ[j]? = some (some t') ∧ t'.m.isOwn = true := by
      rcases get_set q1 with ⟨e, z⟩ | ⟨ne, z⟩
      · subst e; exact ⟨s, hs, ho⟩
      · exact ⟨t, z, q3⟩
    have h2 : ∃ t', ρ[k]? = some (some t') ∧ t'.m.isOwn = true := by
      rcases get_set q2 with ⟨e, z⟩ | ⟨ne, z⟩
      · subst e; exact ⟨s, hs, ho⟩
      · exact ⟨u, z, q4⟩
    obtain ⟨t1, z1, z2⟩ := h1
    obtain ⟨t2, z3, z4⟩ := h2
    exact R.inj j k t1 t2 b z1 z3 z2 z4 q5 q6
end

/-! ### stores -/
def mStore (i : Nat) (r : Res) : M Unit := fun ρ => if okSet ρ i then match r with
    | .val d => some (.ok (), ρ.set i (some ⟨.val, d⟩))
    | .fresh xs => some (.ok (), ρ.set i (some ⟨.own, .list xs⟩))
    | .slot j => match valR (.slot j) ρ with
      | some (.ok d, ρ') => if okSet ρ' i then some (.ok (), ρ'.set i (some ⟨.val, d⟩)) else none
      | _ => none
  else none
theorem store_run {K : PySem.W.Frag} {σ : St} {ρ ρ1 ρ2 : R} {Hb H Hb1 H1 : Hp} {v : V} {r : Res} {i : Nat} {o : Out Unit} (g : Go σ ρ Hb H σ ρ1 Hb1 H1) (R : Rel K Hb1 H1 σ ρ1) (rep : RepR K Hb1 H1 σ ρ1 H v r) (e : mStore i r ρ1 = some (o, ρ2)) :
    o = .ok () ∧ ∃ Hb2, Go σ ρ Hb H (σ.set i (some v)) ρ2 Hb2 H1 ∧ Rel K Hb2 H1 (σ.set i (some v)) ρ2 := by
  unfold mStore at e
  split at e
  · rename_i h
    cases r with
    | val d =>
      cases e
      obtain ⟨g2, R2⟩ := set_val R rep h
      exact ⟨rfl, Hb1, g.trans g2, R2⟩
    | fresh xs =>
      cases e
      obtain ⟨a, vs, rfl, h1, h2, h3, h4, h5⟩ := rep
      obtain ⟨g2, R2⟩ := set_own g R h1 h2 h3 h4 h5 h
      exact ⟨rfl, Hb1, g2, R2⟩
    | slot j =>
      dsimp only at e
      split at e
      · rename_i d ρ' e2
        split at e
        · rename_i h'
          cases e
          obtain ⟨Hb2, g2, R2, rp⟩ := rep_val g R rep e2
          obtain ⟨g3, R3⟩ := set_val R2 rp h'
          exact ⟨rfl, Hb2, g2.trans g3, R3⟩
        · cases e
      · cases e
  · cases e
def mAsg (i : Nat) (m : M Res) : M Fl := bnd m fun r => bnd (mStore i r) fun _ => ret .nx
def mRet (m : M Res) : M Fl := bnd m fun r => ret (.rt r)
def mDrop (m : M Res) : M Fl := bnd m fun _ => ret .nx
def mIfS (c : M Bool) (a b : M Fl) : M Fl := bnd c fun t => if t then a else b
def mSeq (a b : M Fl) : M Fl := bnd a fun fl => match fl with
  | .nx => b
  | f => ret f
def mNx : M Fl := ret .nx
section
variable {K : PySem.W.Frag} {mg : Str → Option Value} {E : WX} {σ : St} {H : Hp} {De : Ends}
theorem asg_read {i : Nat} {m : M Res} (w : tS K mg E (mAsg i m) De σ H) : tAsg (tE K mg E m) (gName i) De σ H := by
  obtain ⟨Hb, ρ, R, S⟩ := w
  refine ⟨Hb, ρ, R, S.bnd0.mono fun r σ' ρ1 Hb1 H1 g1 R1 S1 es v rep => ?_⟩
  subst es
  obtain ⟨out, ρ3, e, h1, h2⟩ := S1
  unfold bnd at e
  split at e
  · rename_i u ρ2 e2
    obtain ⟨_, Hb2, g2, R2⟩ := store_run g1 R1 rep e2
    cases e
    exact h1 _ rfl _ _ _ g2 R2
  · rename_i x ρ2 e2
    obtain ⟨z, _⟩ := store_run g1 R1 rep e2
    cases z
  · cases e
theorem ret_read {m : M Res} (w : tS K mg E (mRet m) De σ H) : tRet (tE K mg E m) De σ H := by
  obtain ⟨Hb, ρ, R, S⟩ := w
  refine ⟨Hb, ρ, R, S.bnd.mono fun r σ' ρ1 Hb1 H1 g1 R1 S1 es v rep => ?_⟩
  subst es
  exact S1.ret R1 g1 v rep
theorem drop_read {m : M Res} (w : tS K mg E (mDrop m) De σ H) : tDrop (tE K mg E m) De σ H := by
  obtain ⟨Hb, ρ, R, S⟩ := w
  refine ⟨Hb, ρ, R, S.bnd.mono fun r σ' ρ1 Hb1 H1 g1 R1 S1 es v rep => ?_⟩
  subst es
  exact S1.ret R1 g1
theorem FlP.from' {H0 H00 : Hp} (t : ∀ a, H00 a ≠ none → H0 a ≠ none) {fl : Fl} {σ' : St} {ρ' : R} {Hb' H' : Hp} (h : FlP K De H00 fl σ' ρ' Hb' H') : FlP K De H0 fl σ' ρ' Hb' H' := by
  cases fl with
  | nx => exact h
  | bk => exact h
  | ct => exact h
  | rt r => exact fun v rep => h v (rep.from' t)
theorem tS_sat {m : M Fl} {Hb : Hp} {ρ : R} {H0 : Hp} (R : Rel K Hb H σ ρ) (t : ∀ a, H0 a ≠ none → H a ≠ none) (S : Sat K mg E σ Hb H ρ m (FlP K De H0)) : tS K mg E m De σ H :=
  ⟨Hb, ρ, R, S.mono fun fl σ' ρ' Hb' H' _ _ p => p.from' t⟩
theorem ifs_read {c : M Bool} {a b : M Fl} (w : tS K mg E (mIfS c a b) De σ H) : tIfS (tT K mg E c) (tS K mg E a) (tS K mg E b) De σ H := by
  obtain ⟨Hb, ρ, R, S⟩ := w
  refine tT_mono (e_test R S) fun t H1 ⟨Hb1, ρ1, R1, g1, S1⟩ => ?_
  have S2 := S1.mono fun b σ' ρ' Hb' H' g2 R2 p => p (g1.trans g2)
  cases t with
  | true =>
    rw [if_pos rfl]
    exact tS_sat R1 g1.t S2
  | false =>
    rw [if_neg Bool.false_ne_true]
    exact tS_sat R1 g1.t S2
theorem seq_read {a b : M Fl} (w : tS K mg E (mSeq a b) De σ H) : tSeq (tS K mg E a) (tS K mg E b) De σ H := by
  obtain ⟨Hb, ρ, R, S⟩ := w
  refine ⟨Hb, ρ, R, S.bnd.mono fun fl σ' ρ1 Hb1 H1 g1 R1 S1 => ?_⟩
  cases fl with
  | nx => exact tS_sat R1 g1.t (S1.mono fun b σ' ρ' Hb' H' g2 R2 p => p (g1.trans g2))
  | bk => exact S1.ret R1 g1
  | ct => exact S1.ret R1 g1
  | rt r => exact S1.ret R1 g1
end
section
variable {X : Cx} {E : WX} {pos : Pos} {e : Expr} {m : M Res} {st : Stmt} {rest : List Stmt} {a b : M Fl} {mc : M Bool}
theorem ms_set {i : Nat} {x : Str} {pos' : Pos} (hN : X.N.Nodup) (hi : X.N[i]? = some x) (hx : Loc X.env.scope x) (he : PE X e (tE X.K X.mg E m)) (hs : swapsWith e (some (.Name x pos')) pos.line X.env = pure false := by rfl)
    (hf : X.fn x = true ∨ X.env.scope.names.lookup x = some .local := by first | exact .inl rfl | exact .inr rfl | assumption) : PS X (.Assign [.Name x pos'] e pos) (tS X.K X.mg E (mAsg i m)) := (ps_set hN hi hx he hs hf).imp fun _ _ _ w => asg_read w
theorem ms_ret (he : PE X e (tE X.K X.mg E m)) : PS X (.Return (some e) pos) (tS X.K X.mg E (mRet m)) := (ps_ret he).imp fun _ _ _ w => ret_read w
theorem ms_retN : PS X (.Return none pos) (tS X.K X.mg E (ret (.rt (.val .none)))) := ps_retN.imp fun De σ H w => by
  obtain ⟨Hb, ρ, R, S⟩ := w
  exact S.ret R _ .non
theorem ms_expr (he : PE X e (tE X.K X.mg E m)) (hs : swapsWith e none pos.line X.env = pure false := by rfl) : PS X (.Expr e pos) (tS X.K X.mg E (mDrop m)) := (ps_expr he hs).imp fun _ _ _ w => drop_read w
theorem ms_pass : PS X (.Pass pos) (tS X.K X.mg E mNx) := ps_pass.imp fun De σ H w => by
  obtain ⟨Hb, ρ, R, S⟩ := w
  exact S.ret R
theorem ms_break : PS X (.Break pos) (tS X.K X.mg E (ret .bk)) := ps_break.imp fun De σ H w => by
  obtain ⟨Hb, ρ, R, S⟩ := w
  exact S.ret R
theorem ms_continue : PS X (.Continue pos) (tS X.K X.mg E (ret .ct)) := ps_continue.imp fun De σ H w => by
  obtain ⟨Hb, ρ, R, S⟩ := w
  exact S.ret R
/-- code that is not come to -/
theorem ms_never : PS X st (tS X.K X.mg E stuck) := ps_never.imp fun De σ H w => by
  obtain ⟨Hb, ρ, R, _, _, e, _⟩ := w
  cases e
theorem ms_if {c : Expr} {p q : List Stmt} (hc : PT X c (tT X.K X.mg E mc)) (ha : PSs X p (tS X.K X.mg E a)) (hb : PSs X q (tS X.K X.mg E b)) : PS X (.If c p q pos) (tS X.K X.mg E (mIfS mc a b)) := (ps_if hc ha hb).imp fun _ _ _ w => ifs_read w
theorem mss_nil : PSs X [] (tS X.K X.mg E mNx) := pss_nil.imp fun De σ H w => by
  obtain ⟨Hb, ρ, R, S⟩ := w
  exact S.ret R
theorem mss_one (h : PS X st (tS X.K X.mg E a)) : PSs X [st] (tS X.K X.mg E a) := pss_one h
theorem mss_cons (h : PS X st (tS X.K X.mg E a)) (hr : PSs X rest (tS X.K X.mg E b)) : PSs X (st :: rest) (tS X.K X.mg E (mSeq a b)) := (pss_cons h hr).imp fun _ _ _ w => seq_read w
end

/-! ### lists that a slot owns -/
def appTo (i : Nat) (d : D) : M Fl := fun ρ => match ρ[i]? with
  | some (some ⟨.own, .list xs⟩) => if xs.length < sizeLine then some (.ok .nx, ρ.set i (some ⟨.own, .list (xs ++ [d])⟩)) else none
  | some (some ⟨.io, .list xs⟩) => if xs.length < sizeLine then some (.ok .nx, ρ.set i (some ⟨.io, .list (xs ++ [d])⟩)) else none
  | _ => none
def ownAt (ρ : R) (i : Nat) : Bool := match ρ[i]? with
  | some (some s) => s.m.isOwn
  | _ => false
def mApp (i : Nat) (m : M Res) : M Fl := fun ρ => if ownAt ρ i then bnd (mVal m) (appTo i) ρ else none
theorem own_at {K : PySem.W.Frag} {Hb H : Hp} {σ : St} {ρ : R} {i : Nat} (Rr : Rel K Hb H σ ρ) (h : ownAt ρ i = true) : ∃ a vs, σ[i]? = some (some (.ref a)) ∧ H a = some (.lst vs) := by
  unfold ownAt at h
  split at h
  · rename_i s hs
    obtain ⟨a, vs, xs, e1, e2, e3, e4, e5⟩ := Rr.own i s hs h
    exact ⟨a, vs, e1, e4⟩
  · cases h
/-- slot i's list at an index -/
def setIx (i : Nat) (k : Res) (d : D) : M Unit := fun ρ => match k with
  | .val (.int n) => match ρ[i]? with
    | some (some ⟨.own, .list xs⟩) => match ixN xs.length n with
      | some j => some (.ok (), ρ.set i (some ⟨.own, .list (xs.set j d)⟩))
      | none => none
    | some (some ⟨.io, .list xs⟩) => match ixN xs.length n with
      | some j => some (.ok (), ρ.set i (some ⟨.io, .list (xs.set j d)⟩))
      | none => none
    | _ => none
  | _ => none
def mSetIx (i : Nat) (mk m : M Res) : M Fl := bnd (mVal m) fun d => fun ρ => if ownAt ρ i then bnd (thaw mk) (fun j => bnd (setIx i j d) fun _ => ret Fl.nx) ρ else none
section
variable {K : PySem.W.Frag} {mg : Str → Option Value} {E : WX} {σ : St} {Hb H : Hp} {ρ : R}
theorem setIx_run {i : Nat} {k : Res} {d : D} {v w : V} {o : Out Unit × R} (R : Rel K Hb H σ ρ) (rk : RepA K Hb σ [w] [k]) (rp : Rp K Hb v d) (e : setIx i k d ρ = some o) :
    ∃ a n vs j H', o.1 = .ok () ∧ σ[i]? = some (some (.ref a)) ∧ w = .int n ∧ H a = some (.lst vs) ∧ ixN vs.length n = some j ∧ H' = upd H a (.lst (vs.set j v)) ∧ Go σ ρ Hb H σ o.2 Hb H' ∧ Rel K Hb H' σ o.2 := by
  have fin : ∀ {m : Md} {xs : List D} {n : Int} {j : Nat}, ρ[i]? = some (some ⟨m, .list xs⟩) → m.isOwn = true → m.isLk = false → k = .val (.int n) → ixN xs.length n = some j → o = (.ok (), ρ.set i (some ⟨m, .list (xs.set j d)⟩)) →
      ∃ a n vs j H', o.1 = .ok () ∧ σ[i]? = some (some (.ref a)) ∧ w = .int n ∧ H a = some (.lst vs) ∧ ixN vs.length n = some j ∧ H' = upd H a (.lst (vs.set j v)) ∧ Go σ ρ Hb H σ o.2 Hb H' ∧ Rel K Hb H' σ o.2 := by
    intro m xs n j hs ho hlk hk hj hO
    subst hk
    subst hO
    obtain ⟨a, vs, xs', e1, e2, e3, e4, e5⟩ := R.own i _ hs ho
    cases e2
    have hw : w = .int n := by
      cases rk with
      | val h _ => exact h.int_inv
    obtain ⟨g, R2⟩ := set_cont (ws := vs.set j v) (ys := xs.set j d) R hs ho hlk e1 (e5.set j rp)
    exact ⟨a, n, vs, j, _, rfl, e1, hw, e4, by rw [e5.length]; exact hj, rfl, g, R2⟩
  unfold setIx at e
  split at e
  · rename_i n
    split at e
    · rename_i xs hs
      split at e
      · rename_i j hj
        cases e
        exact fin hs rfl rfl rfl hj rfl
      · cases e
    · rename_i xs hs
      split at e
      · rename_i j hj
        cases e
        exact fin hs rfl rfl rfl hj rfl
      · cases e
    · cases e
  · cases e
theorem app_run {i : Nat} {d : D} {v : V} {o : Out Fl × R} (Rr : Rel K Hb H σ ρ) (rp : Rp K Hb v d) (e : appTo i d ρ = some o) :
    ∃ a vs H', o.1 = .ok .nx ∧ σ[i]? = some (some (.ref a)) ∧ H a = some (.lst vs) ∧ vs.length < sizeLine ∧ H' = upd H a (.lst (vs ++ [v])) ∧ Go σ ρ Hb H σ o.2 Hb H' ∧ Rel K Hb H' σ o.2 := by
  have fin : ∀ {m : Md} {xs : List D}, ρ[i]? = some (some ⟨m, .list xs⟩) → m.isOwn = true → m.isLk = false → xs.length < sizeLine → o = (.ok .nx, ρ.set i (some ⟨m, .list (xs ++ [d])⟩)) →
      ∃ a vs H', o.1 = .ok .nx ∧ σ[i]? = some (some (.ref a)) ∧ H a = some (.lst vs) ∧ vs.length < sizeLine ∧ H' = upd H a (.lst (vs ++ [v])) ∧ Go σ ρ Hb H σ o.2 Hb H' ∧ Rel K Hb H' σ o.2 := by
    intro m xs hs ho hlk hl hO
    subst hO
    obtain ⟨a, vs, xs', e1, e2, e3, e4, e5⟩ := Rr.own i _ hs ho
    cases e2
    obtain ⟨g, R2⟩ := set_cont (ws := vs ++ [v]) (ys := xs ++ [d]) Rr hs ho hlk e1 (e5.append (.cons rp .nil))
    exact ⟨a, vs, _, rfl, e1, e4, by rw [e5.length]; exact hl, rfl, g, R2⟩
  unfold appTo at e
  split at e
  · rename_i xs hs
    split at e
    · rename_i c
      cases e
      exact fin hs rfl rfl c rfl
    · cases e
  · rename_i xs hs
    split at e
    · rename_i c
      cases e
      exact fin hs rfl rfl c rfl
    · cases e
  · cases e
end
section
variable {X : Cx} {E : WX} {pos apos cpos npos : Pos} {e k : Expr} {m mk : M Res}
/-- x.append(e), x the slot i's list -/
theorem ms_app {i : Nat} {x : Str} (hx : PE X (.Name x npos) (tVar i)) (he : PE X e (tE X.K X.mg E m)) (hs : starEach [e] X.env = (false, eval e X.env) :: starEach [] X.env := by rfl)
    (hsw : swapsWith (.Call (.Attribute (.Name x npos) "append" apos) [e] [] cpos) none pos.line X.env = pure false := by rfl)
    (hE : PE X (.Call (.Attribute (.Name x npos) "append" apos) [e] [] cpos) (tBM X.K "list" rAppend (tVar i) (tCons (tE X.K X.mg E m) tNil))) :
    PS X (.Expr (.Call (.Attribute (.Name x npos) "append" apos) [e] [] cpos) pos) (tS X.K X.mg E (mApp i m)) := (ps_expr hE hsw).imp fun De σ H w => by
  obtain ⟨Hb, ρ, R, S⟩ := w
  obtain ⟨c, S'⟩ : ownAt ρ i = true ∧ Sat X.K X.mg E σ Hb H ρ (bnd (mVal m) (appTo i)) (FlP X.K De H) := by
    obtain ⟨out, ρ', e, h⟩ := S
    unfold mApp at e
    split at e
    · rename_i c
      exact ⟨c, out, ρ', e, h⟩
    · cases e
  obtain ⟨a, vs, ea, ha⟩ := own_at R c
  refine ⟨.ref a, ea, .inl ⟨rfl, vs, SqL.of ha⟩, ?_⟩
  refine tE_mono (e_val R S') fun v H1 ⟨Hb1, ρ1, d, R1, rp, g1, S1⟩ => ?_
  obtain ⟨out, ρ', e, h1, h2⟩ := S1
  obtain ⟨b, ws, H', q1, q2, q3, q4, q5, q6, q7⟩ := app_run R1 rp e
  rw [ea] at q2
  cases q2
  subst q5
  exact ⟨a, ws, v, rfl, rfl, q3, q4, h1 .nx q1 σ Hb1 _ q6 q7 (g1.trans q6)⟩
/-- x[k] = e -/
theorem ms_setix {i : Nat} {x : Str} {pk : Pos} (hx : PE X (.Name x npos) (tVar i)) (hk : PE X k (tE X.K X.mg E mk)) (he : PE X e (tE X.K X.mg E m))
    (hs : swapsWithSole [.Subscript (.Name x npos) k pk] e pos.line X.env = pure false := by rfl) (hw : swappedStores [.Subscript (.Name x npos) k pk] e X.env = pure none := by rfl)
    (h1 : (assignEach [.Subscript (.Name x npos) k pk] X.env).map (·.2) = [assign (.Subscript (.Name x npos) k pk) X.env] := by rfl)
    (hg : PG X (.Subscript (.Name x npos) k pk) (gSub (tVar i) (tE X.K X.mg E mk) rSetL)) :
    PS X (.Assign [.Subscript (.Name x npos) k pk] e pos) (tS X.K X.mg E (mSetIx i mk m)) := (ps_asg he hg hs hw h1).imp fun De σ H w => by
  obtain ⟨Hb, ρ, R, S⟩ := w
  refine tE_mono (e_val R S) fun v H1 ⟨Hb1, ρ1, d, R1, rp, g1, S1⟩ => ?_
  obtain ⟨out, ρ', e, h⟩ := S1
  dsimp only at e
  split at e
  · rename_i c
    obtain ⟨a, vs, ea, ha⟩ := own_at R1 c
    refine ⟨.ref a, ea, ?_⟩
    refine tE_mono (e_thaw R1 (⟨out, ρ', e, h⟩ : Sat X.K X.mg E σ Hb1 H1 ρ1 (bnd (thaw mk) fun j => bnd (setIx i j d) fun _ => ret Fl.nx) fun b σ' ρ' Hb' H' => Go σ ρ Hb H σ' ρ' Hb' H' → FlP X.K De H b σ' ρ' Hb' H')) fun w H2 ⟨Hb2, ρ2, kr, R2, rk, g2, S2⟩ => ?_
    obtain ⟨out, ρ', e, h1, h2⟩ := S2
    unfold bnd at e
    split at e
    · rename_i u ρ3 e3
      cases e
      obtain ⟨b, n, ws, j, H', q1, q2, q3, q4, q5, q6, q7, q8⟩ := setIx_run R2 rk (rp.mono g2.b) e3
      rw [ea] at q2
      cases q2
      subst q6
      subst q3
      exact ⟨a, ws, n, j, rfl, rfl, q4, q5, h1 _ rfl σ Hb2 _ q7 q8 (g2.trans q7) (g1.trans (g2.trans q7))⟩
    · rename_i x ρ3 e3
      obtain ⟨b, n, ws, j, H', q1, _⟩ := setIx_run R2 rk (rp.mono g2.b) e3
      cases q1
    · cases e
  · cases e
end
end Mi

/-! Mi: defs. -/
namespace Mi
open PySem L2 Evl PySem.Spec

/-- what a def does with data: the answer, and what the list of the caller's at io holds behind it -/
abbrev Fn := List D → Option (Out Res × D)
def IoA (io : Option Nat) (vs : List V) (a : Addr) : Prop := ∃ i, io = some i ∧ vs[i]? = some (.ref a)
structure ArgR (K : PySem.W.Frag) (Hb H : Hp) (io : Option Nat) (vs : List V) (ds : List D) : Prop where
  len : vs.length = ds.length
  val : ∀ (i : Nat) (d : D), ds[i]? = some d → io ≠ some i → ∃ v, vs[i]? = some v ∧ Rp K Hb v d
  io : ∀ i, io = some i → ∃ a ws xs, vs[i]? = some (.ref a) ∧ ds[i]? = some (.list xs) ∧ Hb a = none ∧ H a = some (.lst ws) ∧ RpAll K Hb ws xs
structure GoF (io : Option Nat) (vs : List V) (Hb H Hb' H' : Hp) : Prop where
  b : Ex Hb Hb'
  e : Ex Hb' H'
  k : ∀ a o, H a = some o → ¬ IoA io vs a → H' a = some o
  f : ∀ a, Hb a = none → Hb' a ≠ none → H a = none
  t : ∀ a, H a ≠ none → H' a ≠ none
def IoR (K : PySem.W.Frag) (Hb' H' : Hp) (io : Option Nat) (vs : List V) (y : D) : Prop :=
  ∀ i a, io = some i → vs[i]? = some (.ref a) → Hb' a = none ∧ ∃ ws xs, y = .list xs ∧ H' a = some (.lst ws) ∧ RpAll K Hb' ws xs
def spF (K : PySem.W.Frag) (mg : Str → Option Value) (n : Nat) (io : Option Nat) (F : Fn) : Sp := fun vs H Q E => vs.length = n ∧ ∃ Hb ds, Ex Hb H ∧ ArgR K Hb H io vs ds ∧ ∃ out y, F ds = some (out, y) ∧
  (∀ r, out = .ok r → ∀ v Hb' H', GoF io vs Hb H Hb' H' → IoR K Hb' H' io vs y → RR K Hb' H' H v r → Q v H') ∧
  (∀ e, out = .exc e → ∀ c d Hb' H', GoF io vs Hb H Hb' H' → IoR K Hb' H' io vs y → ExcR K mg Hb' H' c d e → E c d H')

/-! ### a def's body as such a function -/
def slot0 (io : Option Nat) : Nat → List D → R
  | _, [] => []
  | i, d :: ds => some ⟨if io = some i then .io else .val, d⟩ :: slot0 io (i + 1) ds
def slots (n : Nat) (io : Option Nat) (ds : List D) : R := slot0 io 0 ds ++ List.replicate (n - ds.length) none
def outIo (io : Option Nat) (ρ : R) : D := match io with
  | none => .none
  | some i => match ρ[i]? with
    | some (some s) => s.d
    | _ => .none
def isListAt (io : Option Nat) (ds : List D) : Bool := match io with
  | none => true
  | some i => match ds[i]? with
    | some (.list _) => true
    | _ => false
def retR (r : Res) (ρ : R) : Option Res := match r with
  | .val d => some (.val d)
  | .fresh xs => some (.fresh xs)
  | .slot i => match ρ[i]? with
    | some (some ⟨.val, d⟩) => some (.val d)
    | some (some ⟨.own, .list xs⟩) => some (.fresh xs)
    | some (some ⟨.lock, .list xs⟩) => some (.fresh xs)
    | _ => none
/-- p parameters, n names -/
def mkFn (p n : Nat) (io : Option Nat) (body : M Fl) : Fn := fun ds => if ds.length = p ∧ isListAt io ds = true then match body (slots n io ds) with
  | some (.ok .nx, ρ) => some (.ok (.val .none), outIo io ρ)
  | some (.ok (.rt r), ρ) => match retR r ρ with
    | some r' => some (.ok r', outIo io ρ)
    | none => none
  | some (.ok _, _) => none
  | some (.exc e, ρ) => some (.exc e, outIo io ρ)
  | none => none
  else none

section
variable {K : PySem.W.Frag} {mg : Str → Option Value} {Hb H : Hp} {io : Option Nat} {vs : List V} {ds : List D} {n : Nat}
theorem slot0_get : ∀ {ds : List D} {k i : Nat} {s : Slot}, (slot0 io k ds)[i]? = some (some s) → ∃ d, ds[i]? = some d ∧ s = ⟨if io = some (k + i) then .io else .val, d⟩
  | [], _, _, _, h => by simp [slot0] at h
  | d :: ds, k, 0, s, h => by
    simp [slot0] at h
    exact ⟨d, rfl, h.symm⟩
  | d :: ds, k, i + 1, s, h => by
    have h' : (slot0 io (k + 1) ds)[i]? = some (some s) := by simpa [slot0] using h
    obtain ⟨d', e1, e2⟩ := slot0_get h'
    exact ⟨d', by simpa using e1, by rw [e2, show k + 1 + i = k + (i + 1) by omega]⟩
theorem slot0_length : ∀ (ds : List D) (k : Nat), (slot0 io k ds).length = ds.length
  | [], _ => rfl
  | d :: ds, k => by
    show (slot0 io (k + 1) ds).length + 1 = ds.length + 1
    rw [slot0_length ds]
theorem slots_get {i : Nat} {s : Slot} (h : (slots n io ds)[i]? = some (some s)) : ∃ d, ds[i]? = some d ∧ s = ⟨if io = some i then .io else .val, d⟩ := by
  unfold slots at h
  by_cases hi : i < (slot0 io 0 ds).length
  · rw [List.getElem?_append_left hi] at h
    obtain ⟨d, e1, e2⟩ := slot0_get h
    exact ⟨d, e1, by rw [e2, Nat.zero_add]⟩
  · rw [List.getElem?_append_right (by omega)] at h
    have := List.mem_of_getElem? h
    rw [List.mem_replicate] at this
    cases this.2
theorem start_get {N : List Str} {i : Nat} {v : V} (h : vs[i]? = some v) : (L2.start N vs)[i]? = some (some v) := by
  have hi : i < vs.length := (List.getElem?_eq_some_iff.mp h).1
  unfold L2.start
  rw [List.getElem?_append_left (by simpa using hi), List.getElem?_map, h]
  rfl
theorem start_of {N : List Str} {i : Nat} {v : V} (h : (L2.start N vs)[i]? = some (some v)) : vs[i]? = some v := by
  unfold L2.start at h
  by_cases hi : i < (vs.map some).length
  · rw [List.getElem?_append_left hi, List.getElem?_map] at h
    cases q : vs[i]? with
    | none => rw [q] at h; cases h
    | some w => rw [q] at h; cases h; rfl
  · rw [List.getElem?_append_right (by omega)] at h
    have := List.mem_of_getElem? h
    rw [List.mem_replicate] at this
    cases this.2
theorem slots_rel {N : List Str} (hn : N.length = n) (ex : Ex Hb H) (A : ArgR K Hb H io vs ds) : Rel K Hb H (L2.start N vs) (slots n io ds) where
  len := by
    unfold L2.start slots
    simp only [List.length_append, List.length_map, List.length_replicate, slot0_length]
    rw [A.len, hn]
  ex := ex
  val := fun i s h1 h2 => by
    obtain ⟨d, e1, e2⟩ := slots_get h1
    subst e2
    by_cases c : io = some i
    · rw [if_pos c] at h2; cases h2
    · obtain ⟨v, q1, q2⟩ := A.val i d e1 c
      exact ⟨v, start_get q1, q2⟩
  own := fun i s h1 h2 => by
    obtain ⟨d, e1, e2⟩ := slots_get h1
    subst e2
    by_cases c : io = some i
    · obtain ⟨a, ws, xs, q1, q2, q3, q4, q5⟩ := A.io i c
      rw [e1] at q2
      cases q2
      exact ⟨a, ws, xs, start_get q1, rfl, q3, q4, q5⟩
    · rw [if_neg c] at h2; cases h2
  inj := fun i j s t a h1 h2 h3 h4 h5 h6 => by
    obtain ⟨d, e1, e2⟩ := slots_get h1
    obtain ⟨d', e1', e2'⟩ := slots_get h2
    subst e2
    subst e2'
    by_cases c : io = some i
    · by_cases c' : io = some j
      · rw [c] at c'; exact Option.some.inj c'
      · rw [if_neg c'] at h4; cases h4
    · rw [if_neg c] at h3; cases h3
theorem slots_own {N : List Str} {a : Addr} (A : ArgR K Hb H io vs ds) : Own (L2.start N vs) (slots n io ds) a ↔ IoA io vs a := by
  constructor
  · rintro ⟨i, s, h1, h2, h3⟩
    obtain ⟨d, e1, e2⟩ := slots_get h1
    subst e2
    by_cases c : io = some i
    · exact ⟨i, c, start_of h3⟩
    · rw [if_neg c] at h2; cases h2
  · rintro ⟨i, c, h⟩
    obtain ⟨b, ws, xs, q1, q2, _⟩ := A.io i c
    have hi : i < ds.length := (List.getElem?_eq_some_iff.mp q2).1
    refine ⟨i, ⟨.io, .list xs⟩, ?_, rfl, start_get h⟩
    unfold slots
    rw [List.getElem?_append_left (by rw [slot0_length]; exact hi)]
    have key : ∀ (ds : List D) (k i : Nat) (d : D), ds[i]? = some d → (slot0 io k ds)[i]? = some (some ⟨if io = some (k + i) then .io else .val, d⟩) := by
      intro ds
      induction ds with
      | nil => intro k i d e; simp at e
      | cons x ds ih =>
        intro k i d e
        cases i with
        | zero => simp at e; subst e; rfl
        | succ i =>
          have := ih (k + 1) i d (by simpa using e)
          rw [show k + (i + 1) = k + 1 + i by omega]
          simpa [slot0] using this
    rw [key ds 0 i _ q2, Nat.zero_add, if_pos c]
/-- from the body's end to the def's -/
theorem go_fn {N : List Str} {σ' : L2.St} {ρ' : R} {Hb' H' : Hp} (A : ArgR K Hb H io vs ds) (g : Go (L2.start N vs) (slots n io ds) Hb H σ' ρ' Hb' H') (R' : Rel K Hb' H' σ' ρ') :
    GoF io vs Hb H Hb' H' ∧ IoR K Hb' H' io vs (outIo io ρ') ∧ (∀ a, Own σ' ρ' a → IoA io vs a ∨ H a = none) ∧ (∀ i a, io = some i → vs[i]? = some (.ref a) → σ'[i]? = some (some (.ref a)) ∧ ∃ s', ρ'[i]? = some (some s') ∧ s'.m.isIo = true) := by
  have keep : ∀ i a, io = some i → vs[i]? = some (.ref a) → σ'[i]? = some (some (.ref a)) ∧ ∃ s', ρ'[i]? = some (some s') ∧ s'.m.isIo = true := by
    intro i a c h
    have o := (slots_own (n := n) (N := N) A).mpr ⟨i, c, h⟩
    obtain ⟨j, s, h1, h2, h3⟩ := o
    obtain ⟨d, e1, e2⟩ := slots_get h1
    have cj : io = some j := by
      subst e2
      by_cases c : io = some j
      · exact c
      · rw [if_neg c] at h2; cases h2
    rw [c] at cj
    cases cj
    subst e2
    obtain ⟨k1, s', k2, k3⟩ := g.io i _ h1 (by rw [if_pos c]; rfl)
    exact ⟨k1.trans h3, s', k2, k3⟩
  have isOwn : ∀ {m : Md}, m.isIo = true → m.isOwn = true := fun {m} h => by cases m <;> simp_all [Md.isIo, Md.isOwn]
  have owned : ∀ i a, io = some i → vs[i]? = some (.ref a) → Hb' a = none ∧ ∃ ws xs, outIo io ρ' = .list xs ∧ H' a = some (.lst ws) ∧ RpAll K Hb' ws xs := by
    intro i a c h
    obtain ⟨k1, s', k2, k3⟩ := keep i a c h
    obtain ⟨b, ws, xs, q1, q2, q3, q4, q5⟩ := R'.own i s' k2 (isOwn k3)
    rw [k1] at q1
    cases q1
    refine ⟨q3, ws, xs, ?_, q4, q5⟩
    unfold outIo
    rw [c]
    dsimp only
    rw [k2]
    exact q2
  refine ⟨⟨g.b, R'.ex, fun a o h q => g.k a o h fun z => q ((slots_own A).mp z), fun a h1 h2 => ?_, g.t⟩, owned, fun a q => ?_, keep⟩
  · rcases g.f a h1 h2 with z | z
    · exact z
    · obtain ⟨i, c, h⟩ := (slots_own A).mp z
      exact absurd (owned i a c h).1 h2
  · rcases g.o a q with z | z
    · exact .inl ((slots_own A).mp z)
    · exact .inr z
end

/-! ### the promise over a stack without guards -/
structure FnG (P : Program) (w : World) (K : PySem.W.Frag) (mg : Str → Option Value) (base : Heap) (CX : CXT) (k : Nat) (f : Addr) (fd : FuncData) (ps : List Str) (sp : Sp) : Prop where
  len : ∀ vs H Q E, sp vs H Q E → vs.length = ps.length
  run : ∀ (A : Around) (outer : List Env) (s : Shared) (H : Hp) (args : Args) (us : List Value) (vs : List V) (Q : VK) (E : XK), Room k A → A.guards = some [] → Env0 P w K mg base A outer s H → BindsTo s fd args (ps.zip us) → Vals vs us → sp vs H Q E →
    codeAny (model P w) A (.call (.ref f) args) (CR CX outer P w H s Q E) s
theorem FnG.mono {P : Program} {w : World} {K : PySem.W.Frag} {mg : Str → Option Value} {base : Heap} {CX : CXT} {j k : Nat} {f : Addr} {fd : FuncData} {ps : List Str} {sp : Sp} (F : FnG P w K mg base CX j f fd ps sp) (h : j ≤ k) :
    FnG P w K mg base CX k f fd ps sp := ⟨F.len, fun A outer s H args us vs Q E hr => F.run A outer s H args us vs Q E (hr.mono h)⟩
theorem FnG.imp {P : Program} {w : World} {K : PySem.W.Frag} {mg : Str → Option Value} {base : Heap} {CX : CXT} {k : Nat} {f : Addr} {fd : FuncData} {ps : List Str} {sp sp' : Sp} (F : FnG P w K mg base CX k f fd ps sp)
    (h : ∀ vs H Q E, sp' vs H Q E → sp vs H Q E) : FnG P w K mg base CX k f fd ps sp' :=
  ⟨fun vs H Q E q => F.len vs H Q E (h _ _ _ _ q), fun A outer s H args us vs Q E hr hg he hb hv hs => F.run A outer s H args us vs Q E hr hg he hb hv (h _ _ _ _ hs)⟩
/-- from a body -/
theorem fng_of {P : Program} {w : World} {K : PySem.W.Frag} {mg : Str → Option Value} {base : Heap} {CX : CXT} {k : Nat} {f : Addr} {x qual : Str} {st : Stmt} {fd : FuncData} {N ps : List Str} {sp : Sp} (F : Fun K x qual st f fd) (S : FnScope N ps (defScope st))
    (len : ∀ vs H Q E, sp vs H Q E → vs.length = ps.length)
    (hbody : ∀ (cdv : Value) (A : Around) (outer : List Env) (s : Shared) (H : Hp) (vs : List V) (Q : VK) (E : XK), Room k (A.deeper (PyProof.Rows.envOfC qual (defScope st) s.heap.objs.size f cdv)) → A.guards = some [] → sp vs H Q E →
      ∃ t, PSs (cxOf CX P w K mg base N qual (defScope st) f cdv A outer s H E) (defBody st) t ∧ t { nx := fun _ H' => Q .non H', rt := Q } (L2.start N vs) H) :
    FnG P w K mg base CX (k + 1) f fd ps sp := by
  obtain ⟨oc, od, kV, doc, pm, an, cdv, ct, osl, rfl, lk, hcd⟩ := F.ex
  refine ⟨len, fun A outer s H args us vs Q E hr hgd e0 hb r hsp => ?_⟩
  have KX : K.In s.heap := e0.mod.kin.keeps fun b o e => (e0.bs b o e).1
  have lim : s.heap.NoLimit := e0.mod.nolimit.keeps fun b o e => (e0.bs b o e).1
  refine codeAny_call_function hr.depth (KX _ _ lk) rfl S.co S.gen rfl (PySem.W.codeRec_of KX hcd) (hb _ _ _ _ ?_)
  refine wpAny_newFunctionEnv_cells S.kind (fun ⟨y, v⟩ hy => ?_) fun env he s1 xx => ?_
  · rcases S.par y (List.of_mem_zip hy).1 with q | q
    · exact .inl q
    · exact .inr ⟨q, PySem.W.cellsFrom_some _ _ _ (.inl q)⟩
  subst he
  obtain ⟨t, ht, hq⟩ := hbody cdv A outer s H vs Q E (hr.deeper _) hgd hsp
  have I : L2.Inv (cxOf CX P w K mg base N qual (defScope st) f cdv A outer s H E) [] (L2.start N vs) H s1 := inv_start S hr.hd e0 (len _ _ _ _ hsp) r xx
  refine ⟨lim.keeps xx.toInCall.keep, codeAny_func (wpAny_mono (ht.run [] s1 (L2.start N vs) H _ I hq) (fun fl s' hs => ?_) fun e s' hs => hs)⟩
  cases fl with
  | ret u =>
    obtain ⟨v, σ', H', J, rv, q⟩ := hs
    exact ⟨v, H', J.os, J.bare, J.base, J.hok, rv, q⟩
  | next =>
    obtain ⟨σ', H', J, q⟩ := hs
    exact ⟨V.non, H', J.os, J.bare, J.base, J.hok, rfl, q⟩
  | brk =>
    obtain ⟨_, _, _, q⟩ := hs
    exact q.elim
  | cont =>
    obtain ⟨_, _, _, q⟩ := hs
    exact q.elim
/-- THE RULE for a def: its body does what the function tells -/
theorem def_ok {P : Program} {w : World} {K : PySem.W.Frag} {mg : Str → Option Value} {base : Heap} {k p n : Nat} {io : Option Nat} {f : Addr} {x qual : Str} {st : Stmt} {fd : FuncData} {N ps : List Str} {m : M Fl} (F : Fun K x qual st f fd) (S : FnScope N ps (defScope st))
    (hN : N.length = n) (hps : ps.length = p)
    (hbody : ∀ (cdv : Value) (A : Around) (outer : List Env) (s : Shared) (H : Hp) (E : XK), Room k (A.deeper (PyProof.Rows.envOfC qual (defScope st) s.heap.objs.size f cdv)) → A.guards = some [] →
      PSs (cxOf (L2.CX P w) P w K mg base N qual (defScope st) f cdv A outer s H E) (defBody st) (tS K mg (fun c d _ H => E c d H) m)) :
    FnG P w K mg base (L2.CX P w) (k + 1) f fd ps (spF K mg p io (mkFn p n io m)) := by
  refine fng_of F S (fun vs H Q E h => h.1.trans hps.symm) fun cdv A outer s H vs Q E hr hg h => ⟨_, hbody cdv A outer s H E hr hg, ?_⟩
  obtain ⟨hl, Hb, ds, ex, AR, out, y, e, h1, h2⟩ := h
  unfold mkFn at e
  split at e
  · refine ⟨Hb, slots n io ds, slots_rel hN ex AR, ?_⟩
    split at e
    · rename_i ρ' eb
      cases e
      refine ⟨_, _, eb, fun fl q σ' Hb' H' g R' => ?_, fun x q => by cases q⟩
      cases q
      obtain ⟨gf, ior, _⟩ := go_fn AR g R'
      exact h1 _ rfl .non Hb' H' gf ior .non
    · rename_i r ρ' eb
      split at e
      · rename_i r' er
        cases e
        refine ⟨_, _, eb, fun fl q σ' Hb' H' g R' => ?_, fun x q => by cases q⟩
        cases q
        intro v rep
        obtain ⟨gf, ior, own, kp⟩ := go_fn AR g R'
        refine h1 _ rfl v Hb' H' gf ior ?_
        have slotF : ∀ {i : Nat} {md : Md} {xs : List D}, σ'[i]? = some (some v) → ρ'[i]? = some (some ⟨md, .list xs⟩) → md.isOwn = true → md.isIo = false → RR K Hb' H' H v (.fresh xs) := by
          intro i md xs hv hs ho hi
          obtain ⟨a, ws, xs', q1, q2, q3, q4, q5⟩ := R'.own i _ hs ho
          cases q2
          rw [hv] at q1
          cases q1
          refine ⟨a, ws, rfl, q3, q4, q5, ?_⟩
          rcases own a ⟨i, _, hs, ho, hv⟩ with ⟨j, c, hj⟩ | z
          · obtain ⟨z1, s', z2, z3⟩ := kp j a c hj
            have : s'.m.isOwn = true := by
              cases hm : s'.m <;> simp_all [Md.isIo, Md.isOwn]
            have e := R'.inj i j _ s' a hs z2 ho this hv z1
            subst e
            rw [hs] at z2
            cases z2
            rw [hi] at z3; cases z3
          · exact z
        unfold retR at er
        split at er
        · cases er; exact rep
        · cases er
          obtain ⟨a, ws, q1, q2, q3, q4, q5, _⟩ := rep
          exact ⟨a, ws, q1, q2, q3, q4, q5⟩
        · rename_i i
          have hv : σ'[i]? = some (some v) := rep
          split at er
          · rename_i d hs
            cases er
            obtain ⟨w', q1, q2⟩ := R'.val i _ hs rfl
            rw [hv] at q1
            cases q1
            exact q2
          · rename_i xs hs
            cases er
            exact slotF hv hs rfl rfl
          · rename_i xs hs
            cases er
            exact slotF hv hs rfl rfl
          · cases er
      · cases e
    · cases e
    · rename_i x ρ' eb
      cases e
      refine ⟨_, _, eb, fun fl q => (by cases q), fun x' q σ' c d Hb' H' g R' xr => ?_⟩
      cases q
      obtain ⟨gf, ior, _⟩ := go_fn AR g R'
      exact h2 _ rfl c d Hb' H' gf ior xr
    · cases e
  · cases e
end Mi

/-! Mi: calls of defs. -/
namespace Mi
open PySem L2 Evl PySem.Spec

def notSlot (j : Nat) : Res → Bool
  | .slot k => k != j
  | _ => true
def mayGive : Md → Bool
  | .own => true
  | .io => true
  | _ => false
/-- the slot whose list is handed to be changed -/
def callIo (io : Option Nat) (rs : List Res) (ρ : R) : Option (Option Nat) := match io with
  | none => some none
  | some i => match rs[i]? with
    | some (.slot j) => match ρ[j]? with
      | some (some s) => if mayGive s.m && (rs.eraseIdx i).all (notSlot j) then some (some j) else none
      | _ => none
    | _ => none
def putIo (oj : Option Nat) (y : D) (ρ : R) : R := match oj with
  | none => ρ
  | some j => match ρ[j]? with
    | some (some s) => ρ.set j (some ⟨s.m, y⟩)
    | _ => ρ
mutual
/-- without a list or a dict -/
def flatD : D → Bool
  | .none => true
  | .bool _ => true
  | .int _ => true
  | .str _ => true
  | .tuple xs => flatAll xs
  | .list _ => false
  | .dict _ => false
def flatAll : List D → Bool
  | [] => true
  | x :: xs => flatD x && flatAll xs
end
def flatY : D → Bool
  | .none => true
  | .list xs => flatAll xs
  | _ => false
/-- the lists that were handed on as they are: nobody's own from here on -/
def freezeBy (oj : Option Nat) : List Res → R → Option R
  | [], ρ => some ρ
  | .slot k :: rs, ρ => if oj = some k then freezeBy oj rs ρ else match ρ[k]? with
    | some (some ⟨.own, d⟩) => freezeBy oj rs (ρ.set k (some ⟨.val, d⟩))
    | some (some ⟨.val, _⟩) => freezeBy oj rs ρ
    | _ => none
  | _ :: rs, ρ => freezeBy oj rs ρ
def callF (F : Fn) (io : Option Nat) (rs : List Res) : M Res := fun ρ => match callIo io rs ρ, lookAll rs ρ with
  | some oj, some ds => match F ds with
    | some (.ok (.val d), y) => if flatD d && flatY y then some (.ok (.val d), putIo oj y ρ) else match freezeBy oj rs (putIo oj y ρ) with
      | some ρ' => some (.ok (.val d), ρ')
      | none => none
    | some (.ok (.fresh xs), y) => if flatAll xs && flatY y then some (.ok (.fresh xs), putIo oj y ρ) else match freezeBy oj rs (putIo oj y ρ) with
      | some ρ' => some (.ok (.fresh xs), ρ')
      | none => none
    | some (.exc e, y) => match freezeBy oj rs (putIo oj y ρ) with
      | some ρ' => some (.exc e, ρ')
      | none => none
    | _ => none
  | _, _ => none
def mFn (F : Fn) (io : Option Nat) (as : M (List Res)) : M Res := bnd as fun rs => callF F io rs

section
variable {K : PySem.W.Frag} {mg : Str → Option Value} {E : WX} {σ : L2.St} {Hb H Hb1 H1 Hb2 H2 : Hp} {ρ : R} {vs : List V} {rs : List Res} {ds : List D} {io oj : Option Nat} {y : D}
theorem repA_get : ∀ {vs : List V} {rs : List Res} {i : Nat} {r : Res}, RepA K Hb σ vs rs → rs[i]? = some r → ∃ v, vs[i]? = some v ∧ RepA K Hb σ [v] [r]
  | _, _, _, _, .nil, e => by simp at e
  | _, _, 0, _, .val a _, e => by simp at e; subst e; exact ⟨_, rfl, .val a .nil⟩
  | _, _, 0, _, .slot a _, e => by simp at e; subst e; exact ⟨_, rfl, .slot a .nil⟩
  | _, _, i + 1, _, .val _ b, e => by
    obtain ⟨v, h1, h2⟩ := repA_get (i := i) b (by simpa using e)
    exact ⟨v, by simpa using h1, h2⟩
  | _, _, i + 1, _, .slot _ b, e => by
    obtain ⟨v, h1, h2⟩ := repA_get (i := i) b (by simpa using e)
    exact ⟨v, by simpa using h1, h2⟩
theorem lookAll_get : ∀ {rs : List Res} {ds : List D} {i : Nat} {d : D}, lookAll rs ρ = some ds → ds[i]? = some d → ∃ r, rs[i]? = some r ∧ look r ρ = some d
  | [], _, _, _, e, h => by cases e; simp at h
  | r :: rs, ds, i, d, e, h => by
    unfold lookAll at e
    split at e
    · rename_i d' ds' h1 h2
      cases e
      cases i with
      | zero => simp at h; subst h; exact ⟨r, rfl, h1⟩
      | succ i =>
        obtain ⟨r', q1, q2⟩ := lookAll_get (i := i) h2 (by simpa using h)
        exact ⟨r', by simpa using q1, q2⟩
    · cases e
theorem lookAll_len : ∀ {rs : List Res} {ds : List D}, lookAll rs ρ = some ds → rs.length = ds.length
  | [], _, e => by cases e; rfl
  | r :: rs, ds, e => by
    unfold lookAll at e
    split at e
    · rename_i d' ds' h1 h2
      cases e
      rw [List.length_cons, List.length_cons, lookAll_len h2]
    · cases e
/-- an address of a list that is handed on as it is -/
def ByV (σ : L2.St) (ρ : R) (rs : List Res) (oj : Option Nat) (a : Addr) : Prop := ∃ k s, Res.slot k ∈ rs ∧ oj ≠ some k ∧ ρ[k]? = some (some s) ∧ s.m.isOwn = true ∧ σ[k]? = some (some (.ref a))
theorem mayGive_own {m : Md} (h : mayGive m = true) : m.isOwn = true := by cases m <;> simp_all [mayGive, Md.isOwn]
theorem call_prep (Rr : Rel K Hb H σ ρ) (rr : RepA K Hb σ vs rs) (hio : callIo io rs ρ = some oj) (hl : lookAll rs ρ = some ds) :
    ∃ Hb1, Ex Hb Hb1 ∧ Ex Hb1 H ∧ (∀ a, Hb a = none → Hb1 a ≠ none → ByV σ ρ rs oj a) ∧ (∀ a, ByV σ ρ rs oj a → Hb1 a = H a) ∧ ArgR K Hb1 H io vs ds ∧ (∀ a, IoA io vs a ↔ ∃ j, oj = some j ∧ σ[j]? = some (some (.ref a))) ∧
      (∀ j, oj = some j → ∃ s, ρ[j]? = some (some s) ∧ mayGive s.m = true) := by
  have ioF : ∀ i, io = some i → ∃ j s, oj = some j ∧ rs[i]? = some (.slot j) ∧ ρ[j]? = some (some s) ∧ mayGive s.m = true ∧ (rs.eraseIdx i).all (notSlot j) = true := by
    intro i hi
    unfold callIo at hio
    rw [hi] at hio
    dsimp only at hio
    split at hio
    · rename_i j hj
      split at hio
      · rename_i s hs
        split at hio
        · rename_i c
          cases hio
          rw [Bool.and_eq_true] at c
          exact ⟨j, s, rfl, hj, hs, c.1, c.2⟩
        · cases hio
      · cases hio
    · cases hio
  have ioN : io = none → oj = none := fun h => by
    unfold callIo at hio
    rw [h] at hio
    cases hio
    rfl
  classical
  have owned : ∀ a, ByV σ ρ rs oj a → Hb a = none ∧ ∃ ws, H a = some (.lst ws) := fun a ⟨k, s, _, _, h3, h4, h5⟩ => Rr.owned ⟨k, s, h3, h4, h5⟩
  refine ⟨fun a => if ByV σ ρ rs oj a then H a else Hb a, fun a o h => ?_, fun a o h => ?_, fun a h1 h2 => ?_, fun a h => if_pos h, ?_, ?_, ?_⟩
  · show (if ByV σ ρ rs oj a then H a else Hb a) = some o
    rw [if_neg]
    · exact h
    · intro z
      rw [(owned a z).1] at h; cases h
  · have h : (if ByV σ ρ rs oj a then H a else Hb a) = some o := h
    by_cases z : ByV σ ρ rs oj a
    · rw [if_pos z] at h; exact h
    · rw [if_neg z] at h; exact Rr.ex a o h
  · have h2 : (if ByV σ ρ rs oj a then H a else Hb a) ≠ none := h2
    by_cases z : ByV σ ρ rs oj a
    · exact z
    · rw [if_neg z] at h2; exact absurd h1 h2
  · have ex1 : Ex Hb (fun a => if ByV σ ρ rs oj a then H a else Hb a) := fun a o h => by
      show (if ByV σ ρ rs oj a then H a else Hb a) = some o
      rw [if_neg]
      · exact h
      · intro z
        rw [(owned a z).1] at h; cases h
    refine ⟨rr.length.trans (lookAll_len hl), fun i d hd hi => ?_, fun i hi => ?_⟩
    · obtain ⟨r, e1, e2⟩ := lookAll_get hl hd
      obtain ⟨v, e3, e4⟩ := repA_get rr e1
      refine ⟨v, e3, ?_⟩
      cases e4 with
      | val h _ =>
        cases e2
        exact h.mono ex1
      | @slot _ _ k _ h _ =>
        unfold look at e2
        dsimp only at e2
        split at e2
        · rename_i s hs
          cases e2
          cases q : s.m.isOwn with
          | false =>
            obtain ⟨v', q1, q2⟩ := Rr.val k s hs q
            rw [h] at q1; cases q1
            exact q2.mono ex1
          | true =>
            obtain ⟨a, ws, xs, q1, q2, q3, q4, q5⟩ := Rr.own k s hs q
            rw [h] at q1; cases q1
            have bv : ByV σ ρ rs oj a := by
              refine ⟨k, s, List.mem_of_getElem? e1, fun z => ?_, hs, q, h⟩
              cases hio' : io with
              | none => rw [ioN hio'] at z; cases z
              | some i0 =>
                obtain ⟨j, s', f1, f2, f3, f4, f5⟩ := ioF i0 hio'
                rw [f1] at z
                cases z
                have ne : i ≠ i0 := fun e => hi (by rw [hio', e])
                have := List.all_eq_true.mp f5 (.slot k) (List.mem_eraseIdx_iff_getElem?.mpr ⟨i, ne, e1⟩)
                simp [notSlot] at this
            rw [q2]
            refine .lst (SqL.of (xs := ws) ?_) (q5.mono ex1)
            show (if ByV σ ρ rs oj a then H a else Hb a) = _
            rw [if_pos bv]
            exact q4
        · cases e2
    · obtain ⟨j, s, f1, f2, f3, f4, f5⟩ := ioF i hi
      obtain ⟨v, e3, e4⟩ := repA_get rr f2
      obtain ⟨a, ws, xs, q1, q2, q3, q4, q5⟩ := Rr.own j s f3 (mayGive_own f4)
      have ev : v = .ref a := by
        cases e4 with
        | slot h _ => rw [q1] at h; cases h; rfl
      subst ev
      refine ⟨a, ws, xs, e3, ?_, ?_, q4, q5.mono ex1⟩
      · have hi' : i < ds.length := by
          rw [← lookAll_len hl]
          exact (List.getElem?_eq_some_iff.mp f2).1
        obtain ⟨r, g1, g2⟩ := lookAll_get hl (List.getElem?_eq_getElem hi')
        rw [f2] at g1
        cases g1
        unfold look at g2
        dsimp only at g2
        rw [f3] at g2
        dsimp only at g2
        rw [List.getElem?_eq_getElem hi', ← g2, q2]
      · show (if ByV σ ρ rs oj a then H a else Hb a) = none
        rw [if_neg]
        · exact q3
        · rintro ⟨k, s', h1, h2, h3, h4, h5⟩
          have := Rr.inj k j s' s a h3 f3 h4 (mayGive_own f4) h5 q1
          subst this
          exact h2 f1
  · intro a
    constructor
    · rintro ⟨i, hi, hv⟩
      obtain ⟨j, s, f1, f2, f3, f4, f5⟩ := ioF i hi
      obtain ⟨v, e3, e4⟩ := repA_get rr f2
      rw [hv] at e3
      cases e3
      cases e4 with
      | slot h _ => exact ⟨j, f1, h⟩
    · rintro ⟨j, hj, hv⟩
      cases hio' : io with
      | none => rw [ioN hio'] at hj; cases hj
      | some i =>
        obtain ⟨j', s, f1, f2, f3, f4, f5⟩ := ioF i hio'
        rw [f1] at hj
        cases hj
        obtain ⟨v, e3, e4⟩ := repA_get rr f2
        cases e4 with
        | slot h _ =>
          rw [hv] at h
          cases h
          exact ⟨i, rfl, e3⟩
  · intro j hj
    cases hio' : io with
    | none => rw [ioN hio'] at hj; cases hj
    | some i =>
      obtain ⟨j', s, f1, f2, f3, f4, f5⟩ := ioF i hio'
      rw [f1] at hj
      cases hj
      exact ⟨s, f3, f4⟩

/-! ### behind the call -/
theorem putIo_get {j : Nat} {s : Slot} (h : (putIo oj y ρ)[j]? = some (some s)) : (oj ≠ some j ∧ ρ[j]? = some (some s)) ∨ (oj = some j ∧ ∃ s0, ρ[j]? = some (some s0) ∧ s = ⟨s0.m, y⟩) := by
  unfold putIo at h
  cases hoj : oj with
  | none => rw [hoj] at h; exact .inl ⟨fun z => (nomatch z), h⟩
  | some k =>
    rw [hoj] at h
    dsimp only at h
    split at h
    · rename_i s0 hs0
      rcases get_set h with ⟨e, z⟩ | ⟨ne, z⟩
      · subst e
        cases z
        exact .inr ⟨rfl, s0, hs0, rfl⟩
      · exact .inl ⟨fun z' => ne (by cases z'; rfl), z⟩
    · rename_i hn
      refine .inl ⟨fun z => ?_, h⟩
      cases z
      exact hn s h
theorem putIo_of {j : Nat} {s : Slot} (h : ρ[j]? = some (some s)) : ∃ s', (putIo oj y ρ)[j]? = some (some s') ∧ s'.m = s.m := by
  unfold putIo
  cases oj with
  | none => exact ⟨s, h, rfl⟩
  | some k =>
    dsimp only
    split
    · rename_i s0 hs0
      by_cases e : j = k
      · subst e
        rw [h] at hs0
        cases hs0
        exact ⟨_, List.getElem?_set_self (List.getElem?_eq_some_iff.mp h).1, rfl⟩
      · exact ⟨s, by rw [List.getElem?_set_ne (Ne.symm e)]; exact h, rfl⟩
    · exact ⟨s, h, rfl⟩
theorem putIo_lk {j : Nat} {s : Slot} (hj : ∀ j, oj = some j → ∃ s, ρ[j]? = some (some s) ∧ mayGive s.m = true) (h : ρ[j]? = some (some s)) (hl : s.m.isLk = true) : (putIo oj y ρ)[j]? = some (some s) := by
  unfold putIo
  cases hoj : oj with
  | none => exact h
  | some k =>
    dsimp only
    split
    · rename_i s0 hs0
      have e : j ≠ k := fun e => by
        subst e
        obtain ⟨s1, z1, z2⟩ := hj j hoj
        rw [h] at z1
        cases z1
        cases hm : s.m <;> simp_all [Md.isLk, mayGive]
      rw [List.getElem?_set_ne (Ne.symm e)]; exact h
    · exact h
theorem putIo_len : (putIo oj y ρ).length = ρ.length := by
  unfold putIo
  cases oj with
  | none => rfl
  | some k =>
    dsimp only
    split
    · simp
    · rfl
/-- the state behind a call: Hb2 the frozen part (Hb, or what the callee left) -/
theorem call_state (Rr : Rel K Hb H σ ρ) (b : Ex Hb Hb2) (e2 : Ex Hb2 H2) (k : ∀ a o, H a = some o → ¬ (∃ j, oj = some j ∧ σ[j]? = some (some (.ref a))) → H2 a = some o) (t : ∀ a, H a ≠ none → H2 a ≠ none)
    (f : ∀ a, Hb a = none → Hb2 a ≠ none → H a = none ∨ ByV σ ρ rs oj a)
    (hj : ∀ j, oj = some j → ∃ s, ρ[j]? = some (some s) ∧ mayGive s.m = true)
    (hio : ∀ j a, oj = some j → σ[j]? = some (some (.ref a)) → Hb2 a = none ∧ ∃ ws xs, y = .list xs ∧ H2 a = some (.lst ws) ∧ RpAll K Hb2 ws xs)
    {ρ' : R} (len' : ρ'.length = ρ.length)
    (get' : ∀ (i : Nat) (s' : Slot), ρ'[i]? = some (some s') → (s'.m.isOwn = true ∧ (putIo oj y ρ)[i]? = some (some s') ∧ ∀ a, ByV σ ρ rs oj a → Hb2 a ≠ none → σ[i]? ≠ some (some (.ref a))) ∨ (s'.m.isOwn = false ∧ ∃ s, ρ[i]? = some (some s) ∧ s.d = s'.d ∧ (s.m.isOwn = true → ∃ a ws xs, σ[i]? = some (some (.ref a)) ∧ s.d = .list xs ∧ Hb2 a = some (.lst ws) ∧ RpAll K Hb2 ws xs)))
    (iok : ∀ (i : Nat) (s : Slot), ρ[i]? = some (some s) → s.m.isIo = true → ∃ s', ρ'[i]? = some (some s') ∧ s'.m.isIo = true)
    (lkk : ∀ (i : Nat) (s : Slot), ρ[i]? = some (some s) → s.m.isLk = true → ρ'[i]? = some (some s)) :
    Go σ ρ Hb H σ ρ' Hb2 H2 ∧ Rel K Hb2 H2 σ ρ' := by
  have ownOf : ∀ a, Own σ ρ' a → Own σ ρ a := fun a ⟨i, s', h1, h2, h3⟩ => by
    rcases get' i s' h1 with ⟨_, p, _⟩ | ⟨q, _⟩
    · rcases putIo_get p with ⟨_, z⟩ | ⟨_, s0, z, e⟩
      · exact ⟨i, s', z, h2, h3⟩
      · subst e
        exact ⟨i, s0, z, h2, h3⟩
    · rw [q] at h2; cases h2
  have bvOwn : ∀ a, ByV σ ρ rs oj a → Own σ ρ a := fun a ⟨k, s, _, _, h3, h4, h5⟩ => ⟨k, s, h3, h4, h5⟩
  have ioOwn : ∀ a, (∃ j, oj = some j ∧ σ[j]? = some (some (.ref a))) → Own σ ρ a := fun a ⟨j, h1, h2⟩ => by
    obtain ⟨s, h3, h4⟩ := hj j h1
    exact ⟨j, s, h3, mayGive_own h4, h2⟩
  refine ⟨⟨b, fun a o h n => k a o h fun z => n (ioOwn a z), fun a h1 h2 => (f a h1 h2).imp id (bvOwn a), t, fun a h => .inl (ownOf a h), fun i s h1 h2 => ⟨rfl, iok i s h1 h2⟩, fun i s h1 h2 => ⟨rfl, lkk i s h1 h2⟩⟩, ⟨by rw [len']; exact Rr.len, e2, fun i s' h1 h2 => ?_, fun i s' h1 h2 => ?_, fun i j s t a h1 h2 h3 h4 h5 h6 => ?_⟩⟩
  · rcases get' i s' h1 with ⟨q, _⟩ | ⟨_, s, z, ed, zo⟩
    · rw [q] at h2; cases h2
    · cases qo : s.m.isOwn with
      | false =>
        obtain ⟨v, q1, q2⟩ := Rr.val i s z qo
        rw [← ed]
        exact ⟨v, q1, q2.mono b⟩
      | true =>
        obtain ⟨a, ws, xs, q1, q2, q3, q4⟩ := zo qo
        rw [← ed, q2]
        exact ⟨.ref a, q1, .lst (SqL.of q3) q4⟩
  · rcases get' i s' h1 with ⟨_, p, nb⟩ | ⟨q, _⟩
    · rcases putIo_get p with ⟨nj, z⟩ | ⟨ej, s0, z, e⟩
      · obtain ⟨a, ws, xs, q1, q2, q3, q4, q5⟩ := Rr.own i s' z h2
        have n1 : ¬ ∃ j, oj = some j ∧ σ[j]? = some (some (.ref a)) := fun ⟨j, z1, z2⟩ => by
          obtain ⟨s, z3, z4⟩ := hj j z1
          have := Rr.inj i j s' s a z z3 h2 (mayGive_own z4) q1 z2
          subst this
          exact nj z1
        refine ⟨a, ws, xs, q1, q2, ?_, k a _ q4 n1, q5.mono b⟩
        refine Classical.byContradiction fun q => ?_
        rcases f a q3 q with w | w
        · rw [q4] at w; cases w
        · exact nb a w q q1
      · subst e
        obtain ⟨a, ws, xs, q1, q2, q3, q4, q5⟩ := Rr.own i s0 z h2
        obtain ⟨w1, us, zs, w2, w3, w4⟩ := hio i a ej q1
        exact ⟨a, us, zs, q1, w2, w1, w3, w4⟩
    · rw [q] at h2; cases h2
  · have g : ∀ (i : Nat) (s' : Slot), ρ'[i]? = some (some s') → s'.m.isOwn = true → ∃ s, ρ[i]? = some (some s) ∧ s.m.isOwn = true := fun i s' h1 h2 => by
      rcases get' i s' h1 with ⟨_, p, _⟩ | ⟨q, _⟩
      · rcases putIo_get p with ⟨_, z⟩ | ⟨_, s0, z, e⟩
        · exact ⟨s', z, h2⟩
        · subst e
          exact ⟨s0, z, h2⟩
      · rw [q] at h2; cases h2
    obtain ⟨s1, z1, z2⟩ := g i s h1 h3
    obtain ⟨s2, z3, z4⟩ := g j t h2 h4
    exact Rr.inj i j s1 s2 a z1 z3 z2 z4 h5 h6
end
end Mi

/-! Mi: calls of defs, as expressions. -/
namespace Mi
open PySem L2 Evl PySem.Spec

section
variable {K : PySem.W.Frag} {mg : Str → Option Value} {E : WX} {σ : L2.St} {Hb H Hb1 H1 Hb2 H2 : Hp} {ρ : R} {vs : List V} {rs : List Res} {ds : List D} {io oj : Option Nat} {y : D}
theorem freezeBy_get : ∀ {rs : List Res} {ρ ρ' : R}, freezeBy oj rs ρ = some ρ' → ρ'.length = ρ.length ∧
    (∀ (i : Nat) (s' : Slot), ρ'[i]? = some (some s') → (ρ[i]? = some (some s') ∧ (s'.m.isOwn = true → ∀ k, Res.slot k ∈ rs → oj ≠ some k → k ≠ i)) ∨ (s'.m = .val ∧ ρ[i]? = some (some ⟨.own, s'.d⟩) ∧ Res.slot i ∈ rs ∧ oj ≠ some i)) ∧
    (∀ (i : Nat) (s : Slot), ρ[i]? = some (some s) → s.m.isIo = true ∨ s.m.isLk = true → ρ'[i]? = some (some s))
  | [], ρ, ρ', e => by
    cases e
    exact ⟨rfl, fun i s' h => .inl ⟨h, fun _ k hk => by cases hk⟩, fun i s h _ => h⟩
  | .val d :: rs, ρ, ρ', e => by
    have e : freezeBy oj rs ρ = some ρ' := e
    obtain ⟨l, g, o⟩ := freezeBy_get e
    refine ⟨l, fun i s' h => ?_, o⟩
    rcases g i s' h with ⟨h1, h2⟩ | ⟨h1, h2, h3, h4⟩
    · exact .inl ⟨h1, fun q k hk ho => h2 q k (by cases hk with | tail _ z => exact z) ho⟩
    · exact .inr ⟨h1, h2, List.mem_cons_of_mem _ h3, h4⟩
  | .fresh d :: rs, ρ, ρ', e => by
    have e : freezeBy oj rs ρ = some ρ' := e
    obtain ⟨l, g, o⟩ := freezeBy_get e
    refine ⟨l, fun i s' h => ?_, o⟩
    rcases g i s' h with ⟨h1, h2⟩ | ⟨h1, h2, h3, h4⟩
    · exact .inl ⟨h1, fun q k hk ho => h2 q k (by cases hk with | tail _ z => exact z) ho⟩
    · exact .inr ⟨h1, h2, List.mem_cons_of_mem _ h3, h4⟩
  | .slot k :: rs, ρ, ρ', e => by
    unfold freezeBy at e
    split at e
    · rename_i c
      obtain ⟨l, g, o⟩ := freezeBy_get e
      refine ⟨l, fun i s' h => ?_, o⟩
      rcases g i s' h with ⟨h1, h2⟩ | ⟨h1, h2, h3, h4⟩
      · refine .inl ⟨h1, fun q k' hk ho => ?_⟩
        rcases List.mem_cons.mp hk with z | z
        · cases z; exact absurd c ho
        · exact h2 q k' z ho
      · exact .inr ⟨h1, h2, List.mem_cons_of_mem _ h3, h4⟩
    · rename_i c
      split at e
      · rename_i d hd
        obtain ⟨l, g, o⟩ := freezeBy_get e
        refine ⟨by rw [l]; simp, fun i s' h => ?_, fun i s h1 h2 => ?_⟩
        · rcases g i s' h with ⟨h1, h2⟩ | ⟨h1, h2, h3, h4⟩
          · rcases get_set h1 with ⟨e1, z⟩ | ⟨ne, z⟩
            · subst e1
              cases z
              exact .inr ⟨rfl, hd, List.mem_cons_self, c⟩
            · refine .inl ⟨z, fun q k' hk ho => ?_⟩
              rcases List.mem_cons.mp hk with w | w
              · cases w; exact Ne.symm ne
              · exact h2 q k' w ho
          · rcases get_set h2 with ⟨e1, z⟩ | ⟨ne, z⟩
            · cases z
            · exact .inr ⟨h1, z, List.mem_cons_of_mem _ h3, h4⟩
        · have ne : i ≠ k := fun e1 => by
            subst e1
            rw [hd] at h1; cases h1; rcases h2 with h2 | h2 <;> cases h2
          exact o i s (by rw [List.getElem?_set_ne (Ne.symm ne)]; exact h1) h2
      · rename_i d hd
        obtain ⟨l, g, o⟩ := freezeBy_get e
        refine ⟨l, fun i s' h => ?_, o⟩
        rcases g i s' h with ⟨h1, h2⟩ | ⟨h1, h2, h3, h4⟩
        · refine .inl ⟨h1, fun q k' hk ho => ?_⟩
          rcases List.mem_cons.mp hk with w | w
          · cases w
            intro e1
            subst e1
            rw [hd] at h1; cases h1; cases q
          · exact h2 q k' w ho
        · exact .inr ⟨h1, h2, List.mem_cons_of_mem _ h3, h4⟩
      · cases e
mutual
theorem flat_rp {p : Addr → Prop} (hp : ∀ a, p a → ∃ ws, Hb a = some (.lst ws)) (hb : ∀ a, ¬ p a → Hb2 a = Hb a) : ∀ {v : V} {d : D}, Rp K Hb v d → flatD d = true → Rp K Hb2 v d
  | _, _, .non, _ => .non
  | _, _, .bl b, _ => .bl b
  | _, _, .int i, _ => .int i
  | _, _, .str x, _ => .str x
  | _, _, .lst _ _, f => by simp [flatD] at f
  | _, _, .dct _ _, f => by simp [flatD] at f
  | _, _, .tup (a := a) sq r, f => by
    simp only [flatD] at f
    refine .tup ?_ (flat_rpAll hp hb r f)
    rcases sq with (h | ⟨o, h⟩) | h
    · refine .inl (.inl ?_)
      rw [hb a fun z => by
        obtain ⟨ws, q⟩ := hp a z
        rw [h] at q; cases q]
      exact h
    · refine .inl (.inr ⟨o, ?_⟩)
      rw [hb a fun z => by
        obtain ⟨ws, q⟩ := hp a z
        rw [h] at q; cases q]
      exact h
    · exact .inr h
theorem flat_rpAll {p : Addr → Prop} (hp : ∀ a, p a → ∃ ws, Hb a = some (.lst ws)) (hb : ∀ a, ¬ p a → Hb2 a = Hb a) : ∀ {vs : List V} {ds : List D}, RpAll K Hb vs ds → flatAll ds = true → RpAll K Hb2 vs ds
  | _, _, .nil, _ => .nil
  | _, _, .cons a b, f => by
    simp only [flatAll, Bool.and_eq_true] at f
    exact .cons (flat_rp hp hb a f.1) (flat_rpAll hp hb b f.2)
end
open Classical in
/-- what is frozen behind a call that keeps nothing: all but the lists that were shown -/
noncomputable def lent (σ : L2.St) (ρ : R) (rs : List Res) (oj : Option Nat) (Hb : Hp) : Hp := fun a => if ByV σ ρ rs oj a then none else Hb a
/-- the call: what the callee promises, from what the caller's function tells -/
theorem call_run {F : Fn} {n : Nat} {Q : VK} {H0 : Hp} (Rr : Rel K Hb H σ ρ) (rr : RepA K Hb σ vs rs) (hl : vs.length = n) (t : ∀ a, H0 a ≠ none → H a ≠ none)
    (S : Sat K mg E σ Hb H ρ (callF F io rs) fun r σ' ρ' Hb' H' => σ' = σ → ∀ v, RepR K Hb' H' σ ρ' H0 v r → Q v H') : spF K mg n io F vs H Q (fun c d H => E c d σ H) := by
  obtain ⟨out, ρ', e, h1, h2⟩ := S
  unfold callF at e
  split at e
  · rename_i oj ds hio hlk
    obtain ⟨Hb1, b1, b2, b3, b4, AR, ioA, ioS⟩ := call_prep Rr rr hio hlk
    refine ⟨hl, Hb1, ds, b2, AR, ?_⟩
    -- the state behind, frozen
    have frz : ∀ {y : D} {ρ2 : R} {Hb' H' : Hp}, freezeBy oj rs (putIo oj y ρ) = some ρ2 → GoF io vs Hb1 H Hb' H' → IoR K Hb' H' io vs y → Go σ ρ Hb H σ ρ2 Hb' H' ∧ Rel K Hb' H' σ ρ2 := by
      intro y ρ2 Hb' H' ef gf ior
      obtain ⟨fl, fg, fo⟩ := freezeBy_get ef
      refine call_state (rs := rs) (oj := oj) (y := y) Rr (b1.trans gf.b) gf.e (fun a o h n => gf.k a o h fun z => n ((ioA a).mp z)) gf.t (fun a q1 q2 => ?_) ioS (fun j a hj hv => ?_) (by rw [fl, putIo_len]) (fun i s' q => ?_) (fun i s q1 q2 => ?_) (fun i s q1 q2 => ?_)
      · by_cases c : Hb1 a = none
        · exact .inl (gf.f a c q2)
        · exact .inr (b3 a q1 c)
      · obtain ⟨i, c1, c2⟩ := (ioA a).mpr ⟨j, hj, hv⟩
        exact ior i a c1 c2
      · rcases fg i s' q with ⟨g1, g2⟩ | ⟨g1, g2, g3, g4⟩
        · cases qo : s'.m.isOwn with
          | true =>
            refine .inl ⟨rfl, g1, fun a bv hn hv => ?_⟩
            obtain ⟨k, s, k1, k2, k3, k4, k5⟩ := bv
            have : ∃ s0, ρ[i]? = some (some s0) ∧ s0.m.isOwn = true := by
              rcases putIo_get g1 with ⟨_, z⟩ | ⟨_, s0, z, e0⟩
              · exact ⟨s', z, qo⟩
              · subst e0; exact ⟨s0, z, qo⟩
            obtain ⟨s0, z1, z2⟩ := this
            exact g2 qo k k1 k2 (Rr.inj k i s s0 a k3 z1 k4 z2 k5 hv)
          | false =>
            refine .inr ⟨rfl, ?_⟩
            rcases putIo_get g1 with ⟨_, z⟩ | ⟨ej, s0, z, e0⟩
            · exact ⟨s', z, rfl, fun w => by rw [qo] at w; cases w⟩
            · subst e0
              obtain ⟨s1, w1, w2⟩ := ioS i ej
              rw [z] at w1
              cases w1
              have qo : s0.m.isOwn = false := qo
              rw [mayGive_own w2] at qo; cases qo
        · refine .inr ⟨by rw [g1]; rfl, ?_⟩
          rcases putIo_get g2 with ⟨_, z⟩ | ⟨ej, _⟩
          · refine ⟨_, z, rfl, fun _ => ?_⟩
            obtain ⟨a, ws, xs, w1, w2, w3, w4, w5⟩ := Rr.own i _ z rfl
            refine ⟨a, ws, xs, w1, w2, gf.b a _ ?_, (w5.mono b1).mono gf.b⟩
            rw [b4 a ⟨i, _, g3, g4, z, rfl, w1⟩]
            exact w4
          · exact absurd ej g4
      · obtain ⟨s', w1, w2⟩ := putIo_of (oj := oj) (y := y) q1
        exact ⟨s', fo i s' w1 (.inl (by rw [w2]; exact q2)), by rw [w2]; exact q2⟩
      · exact fo i s (putIo_lk ioS q1 q2) (.inr q2)
    -- the state behind, nothing kept
    have lst1 : ∀ {Hb' H' : Hp}, GoF io vs Hb1 H Hb' H' → ∀ a, ByV σ ρ rs oj a → ∃ ws, Hb' a = some (.lst ws) := fun {Hb' H'} gf a bv => by
      obtain ⟨k, s, k1, k2, k3, k4, k5⟩ := bv
      obtain ⟨a', ws, xs, w1, w2, w3, w4, w5⟩ := Rr.own k s k3 k4
      rw [k5] at w1
      cases w1
      exact ⟨ws, gf.b a _ (by rw [b4 a ⟨k, s, k1, k2, k3, k4, k5⟩]; exact w4)⟩
    have lent1 : ∀ (Hb' : Hp) (a : Addr), ¬ ByV σ ρ rs oj a → lent σ ρ rs oj Hb' a = Hb' a := fun Hb' a h => if_neg h
    have lent0 : ∀ (Hb' : Hp) (a : Addr), ByV σ ρ rs oj a → lent σ ρ rs oj Hb' a = none := fun Hb' a h => if_pos h
    have lentS : ∀ (Hb' : Hp) (a : Addr) (o : HO), lent σ ρ rs oj Hb' a = some o → Hb' a = some o ∧ ¬ ByV σ ρ rs oj a := fun Hb' a o h => by
      by_cases c : ByV σ ρ rs oj a
      · rw [lent0 Hb' a c] at h; cases h
      · rw [lent1 Hb' a c] at h; exact ⟨h, c⟩
    have bor : ∀ {y : D} {Hb' H' : Hp}, flatY y = true → GoF io vs Hb1 H Hb' H' → IoR K Hb' H' io vs y → Go σ ρ Hb H σ (putIo oj y ρ) (lent σ ρ rs oj Hb') H' ∧ Rel K (lent σ ρ rs oj Hb') H' σ (putIo oj y ρ) := by
      intro y Hb' H' fy gf ior
      have bvOwn : ∀ a, ByV σ ρ rs oj a → Hb a = none := fun a ⟨k, s, k1, k2, k3, k4, k5⟩ => (Rr.owned ⟨k, s, k3, k4, k5⟩).1
      refine call_state (rs := rs) (oj := oj) (y := y) Rr (fun a o h => ?_) (fun a o h => gf.e a o (lentS Hb' a o h).1) (fun a o h n => gf.k a o h fun z => n ((ioA a).mp z)) gf.t (fun a q1 q2 => ?_) ioS (fun j a hj hv => ?_) putIo_len (fun i s' q => ?_) (fun i s q1 q2 => ?_) (fun i s q1 q2 => ?_)
      · rw [lent1 Hb' a fun z => by rw [bvOwn a z] at h; cases h]
        exact gf.b a o (b1 a o h)
      · by_cases c : Hb1 a = none
        · refine .inl (gf.f a c fun z => ?_)
          by_cases bv : ByV σ ρ rs oj a
          · exact q2 (lent0 Hb' a bv)
          · exact q2 (by rw [lent1 Hb' a bv]; exact z)
        · exact .inr (b3 a q1 c)
      · obtain ⟨i, c1, c2⟩ := (ioA a).mpr ⟨j, hj, hv⟩
        obtain ⟨z1, ws, xs, z2, z3, z4⟩ := ior i a c1 c2
        refine ⟨?_, ws, xs, z2, z3, flat_rpAll (lst1 gf) (lent1 Hb') z4 (by rw [z2] at fy; exact fy)⟩
        by_cases bv : ByV σ ρ rs oj a
        · exact lent0 Hb' a bv
        · rw [lent1 Hb' a bv]; exact z1
      · cases qo : s'.m.isOwn with
        | true =>
          refine .inl ⟨rfl, q, fun a bv hn => absurd (lent0 Hb' a bv) hn⟩
        | false =>
          refine .inr ⟨rfl, ?_⟩
          rcases putIo_get q with ⟨_, z⟩ | ⟨ej, s0, z, e0⟩
          · exact ⟨s', z, rfl, fun w => by rw [qo] at w; cases w⟩
          · subst e0
            obtain ⟨s1, w1, w2⟩ := ioS i ej
            rw [z] at w1
            cases w1
            have qo : s0.m.isOwn = false := qo
            rw [mayGive_own w2] at qo; cases qo
      · obtain ⟨s', w1, w2⟩ := putIo_of (oj := oj) (y := y) q1
        exact ⟨s', w1, by rw [w2]; exact q2⟩
      · exact putIo_lk ioS q1 q2
    split at e
    · rename_i d y hF
      refine ⟨_, y, hF, fun r q v Hb' H' gf ior rep => ?_, fun x q => by cases q⟩
      cases q
      split at e
      · rename_i c
        rw [Bool.and_eq_true] at c
        cases e
        obtain ⟨g, R'⟩ := bor c.2 gf ior
        exact h1 _ rfl σ _ _ g R' rfl v (flat_rp (lst1 gf) (lent1 Hb') rep c.1)
      · split at e
        · rename_i ρ2 ef
          cases e
          obtain ⟨g, R'⟩ := frz ef gf ior
          exact h1 _ rfl σ _ _ g R' rfl v rep
        · cases e
    · rename_i xs y hF
      refine ⟨_, y, hF, fun r q v Hb' H' gf ior rep => ?_, fun x q => by cases q⟩
      cases q
      obtain ⟨a, ws, q1, q2, q3, q4, q5⟩ := rep
      have notOwn : ∀ {ρ2 : R}, (∀ (i : Nat) (s' : Slot), ρ2[i]? = some (some s') → s'.m.isOwn = true → (putIo oj y ρ)[i]? = some (some s')) → ¬ Own σ ρ2 a := fun {ρ2} get ⟨i, s', z1, z2, z3⟩ => by
        rcases putIo_get (get i s' z1 z2) with ⟨_, z4⟩ | ⟨_, s0, z4, e0⟩
        · obtain ⟨_, us, w⟩ := Rr.owned ⟨i, s', z4, z2, z3⟩
          rw [q5] at w; cases w
        · subst e0
          obtain ⟨_, us, w⟩ := Rr.owned ⟨i, s0, z4, z2, z3⟩
          rw [q5] at w; cases w
      split at e
      · rename_i c
        rw [Bool.and_eq_true] at c
        cases e
        obtain ⟨g, R'⟩ := bor c.2 gf ior
        have q2' : lent σ ρ rs oj Hb' a = none := by
          by_cases bv : ByV σ ρ rs oj a
          · exact lent0 Hb' a bv
          · rw [lent1 Hb' a bv]; exact q2
        exact h1 _ rfl σ _ _ g R' rfl v ⟨a, ws, q1, q2', q3, flat_rpAll (lst1 gf) (lent1 Hb') q4 c.1, Classical.byContradiction fun z => t a z q5, notOwn fun i s' z _ => z⟩
      · split at e
        · rename_i ρ2 ef
          cases e
          obtain ⟨g, R'⟩ := frz ef gf ior
          obtain ⟨fl, fg, fo⟩ := freezeBy_get ef
          refine h1 _ rfl σ _ _ g R' rfl v ⟨a, ws, q1, q2, q3, q4, Classical.byContradiction fun z => t a z q5, notOwn fun i s' z ho => ?_⟩
          rcases fg i s' z with ⟨g1, _⟩ | ⟨g1, _⟩
          · exact g1
          · rw [g1] at ho; cases ho
        · cases e
    · rename_i x y hF
      refine ⟨_, y, hF, fun r q => (by cases q), fun x' q c d Hb' H' gf ior xr => ?_⟩
      cases q
      split at e
      · rename_i ρ2 ef
        cases e
        obtain ⟨g, R'⟩ := frz ef gf ior
        exact h2 _ rfl σ c d _ _ g R' xr
      · cases e
    · cases e
  · cases e
end

/-! ### how arguments come to parameters -/
def gath {α : Type} (ix : List Nat) (xs : List α) : List α := ix.filterMap fun i => xs[i]?
theorem gath_rep {K : PySem.W.Frag} {Hb : Hp} {σ : L2.St} {vs : List V} {rs : List Res} (h : RepA K Hb σ vs rs) : ∀ ix : List Nat, RepA K Hb σ (gath ix vs) (gath ix rs)
  | [] => .nil
  | i :: ix => by
    unfold gath
    rw [List.filterMap_cons, List.filterMap_cons]
    cases q : rs[i]? with
    | none =>
      have : vs[i]? = none := by
        rw [List.getElem?_eq_none_iff] at q ⊢
        rw [h.length]; exact q
      rw [this]
      exact gath_rep h ix
    | some r =>
      obtain ⟨v, e1, e2⟩ := repA_get h q
      rw [e1]
      exact e2.append (gath_rep h ix)
theorem gath_vals {vs : List V} {us : List Value} (h : Vals vs us) : ∀ ix : List Nat, Vals (gath ix vs) (gath ix us)
  | [] => .nil
  | i :: ix => by
    unfold gath
    rw [List.filterMap_cons, List.filterMap_cons]
    cases q : vs[i]? with
    | none =>
      rw [h.none_of q]
      exact gath_vals h ix
    | some r =>
      obtain ⟨v, e1, e2⟩ := h.get q
      rw [e1]
      exact .cons e2 (gath_vals h ix)
/-- n positional arguments, keywords ks, then the defaults' values; ix: where each parameter's value stands in that row -/
structure BindsX (K : PySem.W.Frag) (fd : FuncData) (ps : List Str) (n : Nat) (ks : List Str) (dvs : List V) (ds : List Value) (ix : List Nat) : Prop where
  to : ∀ (s : Shared) (us ws : List Value), K.In s.heap → us.length = n → ws.length = ks.length → BindsTo s fd ⟨us, ks.zip ws⟩ (ps.zip (gath ix (us ++ ws ++ ds)))
  vals : Vals dvs ds
section
variable {X : Cx} {CX : CXT} {k n : Nat} {f : Addr} {fd : FuncData} {ps ks : List Str} {sp : Sp} {dvs : List V} {dvals : List Value} {ix : List Nat} {E : WX} {x : Str} {p pos : Pos} {e : Expr} {es : List Expr} {kws : List Keyword} {t tk : TA}
def tCallX (sp : Sp) (n m : Nat) (dvs : List V) (ix : List Nat) (E : WX) (t tk : TA) : TE := fun σ H Q => t σ H fun vs H1 => tk σ H1 fun zs H2 => vs.length = n ∧ zs.length = m ∧ sp (gath ix (vs ++ zs ++ dvs)) H2 Q (fun c d H => E c d σ H)
theorem run_fnX {pins : List (Addr × Obj)} {σ : L2.St} {H : Hp} {s : Shared} {Q : VK} {us ws : List Value} {vs zs : List V} (F : FnG X.prog X.w X.K X.mg X.base CX k f fd ps sp) (hr : Room k X.A) (hgd : X.A.guards = some []) (hb : BindsX X.K fd ps n ks dvs dvals ix) (hx : PassesAt CX X σ (fun c d H => E c d σ H))
    (I : L2.Inv X pins σ H s) (r : Vals vs us) (rz : Vals zs ws) (l1 : vs.length = n) (l2 : zs.length = ks.length) (h : sp (gath ix (vs ++ zs ++ dvs)) H Q (fun c d H => E c d σ H)) : wpAny (model X.prog X.w) X.A (call (.ref f) us (ks.zip ws)) (EP X pins σ Q) X.xe s := by
  have r2 := gath_vals ((r.append rz).append hb.vals) ix
  refine wpAny_call (codeAny_mono (F.run X.A X.stack s H ⟨us, ks.zip ws⟩ _ _ Q _ hr hgd I.env0 (hb.to s us ws I.kIn (r.length.symm.trans l1) (rz.length.symm.trans l2)) r2 h) fun r s' hq => ?_)
  cases r with
  | error e => exact hx pins H s e s' I hq
  | ok fl =>
    cases fl with
    | ret u => exact I.after hq
    | next => exact hq.elim
    | brk => exact hq.elim
    | cont => exact hq.elim
/-- f(a, ..) -/
theorem pe_callX (F : FnG X.prog X.w X.K X.mg X.base CX k f fd ps sp) (hr : Room k X.A) (hgd : X.A.guards = some []) (hg : Gl X x) (hm : X.mg x = some (.ref f)) (hk : PySem.W.keepIn X.K (.ref f) = true) (hb : BindsX X.K fd ps n [] dvs dvals ix) (hx : ∀ σ, PassesAt CX X σ (fun c d H => E c d σ H))
    (ha : PA X (e :: es) t) (hdb : (x == ("__debug__" : Str)) = false := by decide) (he : starEach (e :: es) X.env = (false, eval e X.env) :: starEach es X.env := by rfl) (hpl : (backTo pos (starEach es X.env)).any (·.1) = false := by rfl) :
    PE X (.Call (.Name x p) (e :: es) [] pos) (tCallX sp n 0 dvs ix E t tNil) := by
  refine ⟨fun pins s σ H Q I h => ?_⟩
  refine wpAny_Call_Name_kw (ld_glob I hg hm ?_ hdb)
  refine PySem.W.callWith_K (h₀ := X.base) I.ok.mod.kin hk (thn (ha.run pos pins s σ H _ I h) fun us s1 ⟨vs, H1, I1, r, q⟩ => ⟨I1.kIn, ?_⟩) he hpl
  obtain ⟨q1, _, q2⟩ := q
  exact run_fnX (ws := []) (zs := []) F hr hgd hb (hx σ) I1 r .nil q1 rfl q2
/-- f() -/
theorem pe_callX0 (F : FnG X.prog X.w X.K X.mg X.base CX k f fd ps sp) (hr : Room k X.A) (hgd : X.A.guards = some []) (hg : Gl X x) (hm : X.mg x = some (.ref f)) (hk : PySem.W.keepIn X.K (.ref f) = true) (hb : BindsX X.K fd ps n [] dvs dvals ix) (hx : ∀ σ, PassesAt CX X σ (fun c d H => E c d σ H))
    (hdb : (x == ("__debug__" : Str)) = false := by decide) : PE X (.Call (.Name x p) [] [] pos) (tCallX sp n 0 dvs ix E tNil tNil) := by
  refine ⟨fun pins s σ H Q I h => ?_⟩
  refine wpAny_Call_Name_kw (ld_glob I hg hm ?_ hdb)
  obtain ⟨q1, _, q2⟩ := h
  exact PySem.W.callWith_K0 I.kIn hk (run_fnX (us := []) (ws := []) (vs := []) (zs := []) F hr hgd hb (hx σ) I .nil .nil q1 rfl q2)
/-- f(a, .., k = b, ..) -/
theorem pe_callXK (F : FnG X.prog X.w X.K X.mg X.base CX k f fd ps sp) (hr : Room k X.A) (hgd : X.A.guards = some []) (hg : Gl X x) (hm : X.mg x = some (.ref f)) (hk : PySem.W.keepIn X.K (.ref f) = true) (hb : BindsX X.K fd ps n ks dvs dvals ix) (hx : ∀ σ, PassesAt CX X σ (fun c d H => E c d σ H))
    (ha : PA X (e :: es) t) (hkw : PK X kws tk) (hall : (backToKw pos (keywordEach kws X.env)).all (·.1.isSome) = true := by rfl) (hks : (backToKw pos (keywordEach kws X.env)).filterMap (·.1) = ks := by rfl)
    (hdb : (x == ("__debug__" : Str)) = false := by decide) (he : starEach (e :: es) X.env = (false, eval e X.env) :: starEach es X.env := by rfl)
    (hpl : ((backTo pos (starEach (e :: es) X.env)).any (·.1) || (backToKw pos (keywordEach kws X.env)).any (·.1.isNone)) = false := by rfl) :
    PE X (.Call (.Name x p) (e :: es) kws pos) (tCallX sp n ks.length dvs ix E t tk) := by
  refine ⟨fun pins s σ H Q I h => ?_⟩
  refine wpAny_Call_Name_kw (ld_glob I hg hm ?_ hdb)
  refine PySem.W.callWith_KW (h₀ := X.base) I.ok.mod.kin hk hall (thn (ha.run pos pins s σ H _ I h) fun us s1 ⟨vs, H1, I1, r, q⟩ => ?_) hpl he
  refine thn (hkw.run pos pins s1 σ H1 _ I1 q) fun ws s2 ⟨zs, H2, I2, rz, l1, l2, q2⟩ => ⟨I2.kIn, ?_⟩
  rw [hks]
  exact run_fnX F hr hgd hb (hx σ) I2 r rz l1 l2 q2
/-- f(k = b, ..) -/
theorem pe_callXK0 (F : FnG X.prog X.w X.K X.mg X.base CX k f fd ps sp) (hr : Room k X.A) (hgd : X.A.guards = some []) (hg : Gl X x) (hm : X.mg x = some (.ref f)) (hk : PySem.W.keepIn X.K (.ref f) = true) (hb : BindsX X.K fd ps n ks dvs dvals ix) (hx : ∀ σ, PassesAt CX X σ (fun c d H => E c d σ H))
    (hkw : PK X kws tk) (hall : (backToKw pos (keywordEach kws X.env)).all (·.1.isSome) = true := by rfl) (hks : (backToKw pos (keywordEach kws X.env)).filterMap (·.1) = ks := by rfl)
    (hdb : (x == ("__debug__" : Str)) = false := by decide)
    (hpl : ((backTo pos (starEach [] X.env)).any (·.1) || (backToKw pos (keywordEach kws X.env)).any (·.1.isNone)) = false := by rfl) :
    PE X (.Call (.Name x p) [] kws pos) (tCallX sp n ks.length dvs ix E tNil tk) := by
  refine ⟨fun pins s σ H Q I h => ?_⟩
  refine wpAny_Call_Name_kw (ld_glob I hg hm ?_ hdb)
  refine PySem.W.callWith_KW0 (h₀ := X.base) I.ok.mod.kin hk hall ?_ hpl
  refine thn (hkw.run pos pins s σ H _ I h) fun ws s2 ⟨zs, H2, I2, rz, l1, l2, q2⟩ => ⟨I2.kIn, ?_⟩
  rw [hks]
  exact run_fnX (us := []) (vs := []) F hr hgd hb (hx σ) I2 .nil rz l1 l2 q2
end
/-- the defaults as results -/
def mCallX (F : Fn) (io : Option Nat) (n m : Nat) (dds : List D) (ix : List Nat) (as ks : M (List Res)) : M Res := bnd as fun rs => bnd ks fun qs => if rs.length = n ∧ qs.length = m then callF F io (gath ix (rs ++ qs ++ dds.map .val)) else stuck
theorem callX_read {K : PySem.W.Frag} {mg : Str → Option Value} {E : WX} {σ : L2.St} {H : Hp} {Q : VK} {F : Fn} {io : Option Nat} {n m p : Nat} {dds : List D} {dvs : List V} {ix : List Nat} {as ks : M (List Res)} (hd : ∀ Hb σ, RepA K Hb σ dvs (dds.map .val)) (hix : ∀ (rs : List Res), rs.length = n + m + dds.length → (gath ix rs).length = p)
    (w : tE K mg E (mCallX F io n m dds ix as ks) σ H Q) : tCallX (spF K mg p io F) n m dvs ix E (tA K mg E as) (tA K mg E ks) σ H Q := by
  obtain ⟨Hb, ρ, R, S⟩ := w
  refine tA_mono (e_args R S) fun vs H1 ⟨Hb1, ρ1, rs, R1, rr, g1, S1⟩ => ?_
  refine tA_mono (e_args R1 S1) fun zs H2 ⟨Hb2, ρ2, qs, R2, rq, g2, S2⟩ => ?_
  by_cases c : rs.length = n ∧ qs.length = m
  · rw [if_pos c] at S2
    refine ⟨rr.length.trans c.1, rq.length.trans c.2, ?_⟩
    have rp := gath_rep (((rr.mono g2.b).append rq).append (hd Hb2 σ)) ix
    refine call_run R2 rp ?_ (g1.trans g2).t (S2.mono fun b σ' ρ' Hb' H' g3 R3 q => q (g2.trans g3) (g1.trans (g2.trans g3)))
    rw [rp.length]
    exact hix _ (by simp [c.1, c.2]; omega)
  · rw [if_neg c] at S2
    obtain ⟨_, _, e, _⟩ := S2
    cases e
section
variable {X : Cx} {E : WX} {e : Expr} {kws : List Keyword} {nm : Option Str} {kpos : Pos} {m : M Res} {mr : M (List Res)}
theorem mk_nil : PK X [] (tA X.K X.mg E aNil) := ⟨fun pos pins s σ H Q I w => pk_nil.run pos pins s σ H Q I (by
  obtain ⟨Hb, ρ, R, S⟩ := w
  exact S.ret R rfl [] .nil)⟩
theorem mk_cons (he : PE X e (tE X.K X.mg E m)) (hr : PK X kws (tA X.K X.mg E mr)) : PK X (⟨nm, e, kpos⟩ :: kws) (tA X.K X.mg E (aT m mr)) := ⟨fun pos pins s σ H Q I w => (pk_cons he hr).run pos pins s σ H Q I (by
  obtain ⟨Hb, ρ, R, S⟩ := w
  refine tE_mono (e_thaw R S) fun v H1 ⟨Hb1, ρ1, x, R1, rx, g1, S1⟩ => ?_
  refine tA_mono (e_args R1 S1) fun vs H2 ⟨Hb2, ρ2, rs, R2, rr, g2, S2⟩ => ?_
  exact S2.ret R2 g2 (g1.trans g2) rfl _ ((rx.mono g2.b).append rr))⟩
end
/-- what a caller knows of a def -/
structure Knows (P : Program) (w : World) (K : PySem.W.Frag) (mg : Str → Option Value) (base : Heap) (k : Nat) (x : Str) (p : Nat) (io : Option Nat) (F : Fn) : Prop where
  it : ∃ (f : Addr) (fd : FuncData) (ps : List Str), FnG P w K mg base (L2.CX P w) k f fd ps (spF K mg p io F) ∧ mg x = some (.ref f) ∧ PySem.W.keepIn K (.ref f) = true
end Mi

/-! Mi: loops. -/
namespace Mi
open PySem L2 Evl PySem.Spec

/-! ### while -/
def mWhile (c : M Bool) (b : M Fl) : Nat → M Fl
  | 0 => stuck
  | n + 1 => bnd c fun t => if t then bnd b fun fl => match fl with
      | .nx => mWhile c b n
      | .ct => mWhile c b n
      | .bk => ret .nx
      | .rt r => ret (.rt r)
    else ret .nx
section
variable {K : PySem.W.Frag} {mg : Str → Option Value} {E : WX}
/-- how a run ends, told from a state before -/
structure Fin (K : PySem.W.Frag) (mg : Str → Option Value) (E : WX) (De : Ends) (σ : L2.St) (Hb H : Hp) (ρ : R) (out : Out Fl) (ρ2 : R) : Prop where
  ok : ∀ fl, out = .ok fl → ∀ σ' Hb' H', Go σ ρ Hb H σ' ρ2 Hb' H' → Rel K Hb' H' σ' ρ2 → FlP K De H fl σ' ρ2 Hb' H'
  exc : ∀ e, out = .exc e → ∀ σ' c d Hb' H', Go σ ρ Hb H σ' ρ2 Hb' H' → Rel K Hb' H' σ' ρ2 → ExcR K mg Hb' H' c d e → E c d σ' H'
theorem while_read {c : M Bool} {b : M Fl} {n : Nat} {De : Ends} {σ : L2.St} {H : Hp} (w : tS K mg E (mWhile c b n) De σ H) : tWhile (tT K mg E c) (tS K mg E b) De σ H := by
  obtain ⟨Hb, ρ, R, out, ρ2, e, h1, h2⟩ := w
  refine ⟨fun m σ' H' => ∃ Hb' ρ', Rel K Hb' H' σ' ρ' ∧ Go σ ρ Hb H σ' ρ' Hb' H' ∧ mWhile c b m ρ' = some (out, ρ2), ⟨n, Hb, ρ, R, Go.refl, e⟩, ?_⟩
  rintro m σ' H' ⟨Hb', ρ', R', g', e'⟩
  cases m with
  | zero => cases e'
  | succ k =>
    unfold mWhile bnd at e'
    refine ⟨Hb', ρ', R', ?_⟩
    split at e'
    · rename_i t ρ1 e1
      refine ⟨_, _, e1, fun t' q σ1 Hb1 H1 g1 R1 es => ?_, fun x q => (by cases q)⟩
      cases q
      subst es
      dsimp only at e'
      cases t with
      | false =>
        rw [if_neg Bool.false_ne_true] at e' ⊢
        cases e'
        exact h1 .nx rfl _ _ _ (g'.trans g1) R1
      | true =>
        rw [if_pos rfl] at e' ⊢
        refine ⟨fun σ3 H3 => ∃ Hb3 ρ3, Rel K Hb3 H3 σ3 ρ3 ∧ Go σ ρ Hb H σ3 ρ3 Hb3 H3 ∧ mWhile c b k ρ3 = some (out, ρ2), fun σ3 H3 q => ⟨k, Nat.lt_succ_self k, q⟩, Hb1, ρ1, R1, ?_⟩
        split at e'
        · rename_i fl ρ3 e3
          refine ⟨_, _, e3, fun fl' q σ4 Hb4 H4 g4 R4 => ?_, fun x q => (by cases q)⟩
          cases q
          have gg := g'.trans (g1.trans g4)
          cases fl with
          | nx => exact ⟨Hb4, ρ3, R4, gg, e'⟩
          | ct => exact ⟨Hb4, ρ3, R4, gg, e'⟩
          | bk =>
            cases e'
            exact h1 .nx rfl _ _ _ gg R4
          | rt r =>
            cases e'
            exact fun v rep => h1 (.rt r) rfl _ _ _ gg R4 v (rep.from' (g'.trans g1).t)
        · rename_i x ρ3 e3
          cases e'
          refine ⟨_, _, e3, fun fl' q => (by cases q), fun x' q σ4 cc dd Hb4 H4 g4 R4 xr => ?_⟩
          cases q
          exact h2 _ rfl σ4 cc dd Hb4 H4 (g'.trans (g1.trans g4)) R4 xr
        · cases e'
    · rename_i x ρ1 e1
      cases e'
      refine ⟨_, _, e1, fun fl' q => (by cases q), fun x' q σ4 cc dd Hb4 H4 g4 R4 xr => ?_⟩
      cases q
      exact h2 _ rfl σ4 cc dd Hb4 H4 (g'.trans g4) R4 xr
    · cases e'
end
theorem ms_while {X : Cx} {E : WX} {c : Expr} {body : List Stmt} {pos : Pos} {mc : M Bool} {mb : M Fl} (n : Nat) (hp : PassesOwn (model X.prog X.w) X.A X.env X.xe) (hc : PT X c (tT X.K X.mg E mc)) (hb : PSs X body (tS X.K X.mg E mb)) :
    PS X (.While c body [] pos) (tS X.K X.mg E (mWhile mc mb n)) := (ps_while hp hc hb).imp fun _ _ _ w => while_read w

/-! ### targets -/
section
variable (K : PySem.W.Frag) (mg : Str → Option Value) (E : WX)
def tGt (W : L2.St → L2.St → Prop) (g : D → M Unit) : TG := fun v σ H Q => ∃ Hb ρ d, Rel K Hb H σ ρ ∧ Rp K Hb v d ∧ Sat K mg E σ Hb H ρ (g d) fun _ σ' _ _ H' => W σ σ' → Q σ' H'
def tGts (W : L2.St → L2.St → Prop) (g : List D → M Unit) : TGs := fun vs σ H Q => ∃ Hb ρ ds, Rel K Hb H σ ρ ∧ RpAll K Hb vs ds ∧ Sat K mg E σ Hb H ρ (g ds) fun _ σ' _ _ H' => W σ σ' → Q σ' H'
end
def gN (i : Nat) : D → M Unit := fun d => mStore i (.val d)
def gT (n : Nat) (g : List D → M Unit) : D → M Unit := fun d => match d with
  | .tuple ds => if ds.length = n then g ds else stuck
  | _ => stuck
def gsNil : List D → M Unit := fun ds => match ds with
  | [] => ret ()
  | _ => stuck
def gsCons (g : D → M Unit) (r : List D → M Unit) : List D → M Unit := fun ds => match ds with
  | d :: ds => bnd (g d) fun _ => r ds
  | _ => stuck
def gIx (i : Nat) (mk : M Res) : D → M Unit := fun d => fun ρ => if ownAt ρ i then bnd (thaw mk) (fun k => setIx i k d) ρ else none
section
variable {X : Cx} {E : WX} {pos : Pos} {W : L2.St → L2.St → Prop}
theorem mg_name {i : Nat} {x : Str} (hW : ∀ σ v, W σ (σ.set i (some v))) (hN : X.N.Nodup) (hi : X.N[i]? = some x) (hx : Loc X.env.scope x) (hf : X.fn x = true ∨ X.env.scope.names.lookup x = some .local := by first | exact .inl rfl | exact .inr rfl | assumption) :
    PG X (.Name x pos) (tGt X.K X.mg E W (gN i)) := (pg_name hN hi hx hf).imp fun v σ H Q w => by
  obtain ⟨Hb, ρ, d, R, rp, out, ρ2, e, h1, h2⟩ := w
  obtain ⟨z, Hb2, g2, R2⟩ := store_run (H1 := H) (r := .val d) Go.refl R rp e
  exact h1 _ z _ _ _ g2 R2 (hW _ _)
theorem mg_nil (hW : ∀ σ, W σ σ) : PGs X [] (tGts X.K X.mg E W gsNil) := ⟨fun pins s σ H vs us Q I r w => pgs_nil.run pins s σ H vs us Q I r (by
  obtain ⟨Hb, ρ, ds, R, rp, S⟩ := w
  cases rp with
  | nil => exact ⟨rfl, S.ret R (hW σ)⟩
  | cons _ _ =>
    obtain ⟨_, _, e, _⟩ := S
    cases e)⟩
theorem mg_cons {t : Expr} {ts : List Expr} {g : D → M Unit} {r : List D → M Unit} (hs : (assignEach (t :: ts) X.env).map (·.2) = assign t X.env :: (assignEach ts X.env).map (·.2) := by rfl) (hW : ∀ a b c, W a b → W b c → W a c) (h : PG X t (tGt X.K X.mg E W g)) (hr : PGs X ts (tGts X.K X.mg E W r)) : PGs X (t :: ts) (tGts X.K X.mg E W (gsCons g r)) :=
  ⟨fun pins s σ H vs us Q I rv w => (pgs_cons h hr hs).run pins s σ H vs us Q I rv (by
  obtain ⟨Hb, ρ, ds, R, rp, S⟩ := w
  cases rp with
  | nil =>
    obtain ⟨_, _, e, _⟩ := S
    cases e
  | cons a b =>
    refine ⟨_, _, rfl, Hb, ρ, _, R, a, S.bnd.mono fun _ σ1 ρ1 Hb1 H1 g1 R1 S1 w1 => ?_⟩
    exact ⟨Hb1, ρ1, _, R1, b.mono g1.b, S1.mono fun _ σ2 ρ2 Hb2 H2 g2 R2 q w2 => q (g1.trans g2) (hW _ _ _ w1 w2)⟩)⟩
theorem mg_tup {es : List Expr} {k n : Nat} {g : List D → M Unit} (hc : X.calm = true) (h : PGs X es (tGts X.K X.mg E W g)) (hn : n = es.length)
    (hp : PG X (.Tuple es k pos) (gTup X.K n (tGts X.K X.mg E W g))) : PG X (.Tuple es k pos) (tGt X.K X.mg E W (gT n g)) := hp.imp fun v σ H Q w => by
  obtain ⟨Hb, ρ, d, R, rp, S⟩ := w
  cases rp with
  | @tup a xs ds sq ra =>
    obtain ⟨out, ρ2, e, h1⟩ := S
    have e : (if ds.length = n then g ds else stuck) ρ = some (out, ρ2) := e
    by_cases c : ds.length = n
    · rw [if_pos c] at e
      exact ⟨_, _, rfl, ex_t R.ex sq, ra.length.trans c, Hb, ρ, _, R, ra, out, ρ2, e, h1⟩
    · rw [if_neg c] at e
      cases e
  | _ =>
    obtain ⟨_, _, e, _⟩ := S
    cases e
/-- a list's place as a target -/
theorem mg_ix {i : Nat} {x : Str} {mk : M Res} {k : Expr} {npos : Pos} (hW : ∀ σ, W σ σ) (hg : PG X (.Subscript (.Name x npos) k pos) (gSub (tVar i) (tE X.K X.mg E mk) rSetL)) : PG X (.Subscript (.Name x npos) k pos) (tGt X.K X.mg E W (gIx i mk)) := hg.imp fun v σ H Q w => by
  obtain ⟨Hb, ρ, d, R, rp, out, ρ2, e, h⟩ := w
  unfold gIx at e
  split at e
  · rename_i c
    obtain ⟨a, vs, ea, ha⟩ := own_at R c
    refine ⟨.ref a, ea, ?_⟩
    refine tE_mono (e_thaw R (⟨out, ρ2, e, h⟩ : Sat X.K X.mg E σ Hb H ρ (bnd (thaw mk) fun k => setIx i k d) fun _ σ' _ _ H' => W σ σ' → Q σ' H')) fun w H2 ⟨Hb2, ρ3, kr, R2, rk, g2, S2⟩ => ?_
    obtain ⟨out, ρ', e3, h1, h2⟩ := S2
    obtain ⟨b, n, ws, j, H', q1, q2, q3, q4, q5, q6, q7, q8⟩ := setIx_run R2 rk (rp.mono g2.b) e3
    rw [ea] at q2
    cases q2
    subst q6
    subst q3
    exact ⟨a, ws, n, j, rfl, rfl, q4, q5, h1 _ q1 σ Hb2 _ q7 q8 (g2.trans q7) (hW σ)⟩
  · cases e
def mAsgG (g : D → M Unit) (m : M Res) : M Fl := bnd (mVal m) fun d => bnd (g d) fun _ => ret .nx
theorem ms_asgG {tg e : Expr} {g : D → M Unit} {m : M Res} (he : PE X e (tE X.K X.mg E m)) (hg : PG X tg (tGt X.K X.mg E (fun _ _ => True) g)) (hs : swapsWithSole [tg] e pos.line X.env = pure false := by rfl) (hw : swappedStores [tg] e X.env = pure none := by rfl)
    (h1 : (assignEach [tg] X.env).map (·.2) = [assign tg X.env] := by rfl) : PS X (.Assign [tg] e pos) (tS X.K X.mg E (mAsgG g m)) := (ps_asg he hg hs hw h1).imp fun De σ H w => by
  obtain ⟨Hb, ρ, R, S⟩ := w
  refine tE_mono (e_val R S) fun v H1 ⟨Hb1, ρ1, d, R1, rp, g1, S1⟩ => ?_
  exact ⟨Hb1, ρ1, d, R1, rp, S1.bnd.mono fun _ σ2 ρ2 Hb2 H2 g2 R2 S2 _ => S2.ret R2 g2 (g1.trans g2)⟩
end
/-- a, b = x, y -/
def settle : Res → M Res
  | .slot j => bnd (valR (.slot j)) fun d => ret (.val d)
  | r => ret r
def mSet (m : M Res) : M Res := bnd m settle
def mPar (i j : Nat) (m1 m2 : M Res) : M Fl := bnd (mVal m1) fun d => bnd (mVal m2) fun e => bnd (mStore i (.val d)) fun _ => bnd (mStore j (.val e)) fun _ => ret .nx
theorem par_read {K : PySem.W.Frag} {mg : Str → Option Value} {E : WX} {i j : Nat} {m1 m2 : M Res} {De : Ends} {σ : L2.St} {H : Hp} (w : tS K mg E (mPar i j m1 m2) De σ H) : tPar i j (tCons (tE K mg E m1) (tCons (tE K mg E m2) tNil)) De σ H := by
  obtain ⟨Hb, ρ, R, S⟩ := w
  refine tE_mono (e_val R S) fun v H1 ⟨Hb1, ρ1, d, R1, rp, g1, S1⟩ => ?_
  refine tE_mono (e_val R1 S1) fun u H2 ⟨Hb2, ρ2, e, R2, rq, g2, S2⟩ => ?_
  refine ⟨v, u, rfl, ?_⟩
  obtain ⟨out, ρ5, e5, h1, h2⟩ := S2
  unfold bnd at e5
  split at e5
  · rename_i x ρ3 e3
    obtain ⟨_, Hb3, g3, R3⟩ := store_run (H1 := H2) (r := .val d) Go.refl R2 (rp.mono g2.b) e3
    dsimp only at e5
    split at e5
    · rename_i y ρ4 e4
      obtain ⟨_, Hb4, g4, R4⟩ := store_run (H1 := H2) (r := .val e) Go.refl R3 (rq.mono g3.b) e4
      cases e5
      exact h1 .nx rfl _ _ _ (g3.trans g4) R4 (g2.trans (g3.trans g4)) (g1.trans (g2.trans (g3.trans g4)))
    · rename_i x ρ4 e4
      obtain ⟨z, _⟩ := store_run (H1 := H2) (r := .val e) Go.refl R3 (rq.mono g3.b) e4
      cases z
    · cases e5
  · rename_i x ρ3 e3
    obtain ⟨z, _⟩ := store_run (H1 := H2) (r := .val d) Go.refl R2 (rp.mono g2.b) e3
    cases z
  · cases e5
end Mi

/-! Mi: what is walked; for; comprehensions. -/
namespace Mi
open PySem L2 Evl PySem.Spec

/-- what a loop walks: the items; the slots that are locked meanwhile -/
structure Itd where
  items : List D
  lk : List (Nat × D)
def Held (σ0 : L2.St) (I : Itd) (σ : L2.St) (ρ : R) : Prop := ∀ p ∈ I.lk, σ[p.1]? = σ0[p.1]? ∧ ∃ m, Md.isLk m = true ∧ ρ[p.1]? = some (some ⟨m, p.2⟩)
structure Walks (K : PySem.W.Frag) (J : It) (σ0 : L2.St) (Hb0 : Hp) (I : Itd) : Prop where
  at' : ∀ (σ : L2.St) (ρ : R) (Hb H : Hp), Rel K Hb H σ ρ → Ex Hb0 Hb → Held σ0 I σ ρ →
    (∀ i, i < I.items.length → J.go i H) ∧ J.stop I.items.length H ∧ ∀ i x H', i < I.items.length → J.yld i H x H' → ∃ Hb', New Hb H Hb' H' ∧ ∃ d, I.items[i]? = some d ∧ Rp K Hb' x d
section
variable (K : PySem.W.Frag) (mg : Str → Option Value) (E : WX)
def tI (m : M Itd) : TI := fun σ H Rc => ∃ Hb ρ, Rel K Hb H σ ρ ∧ Sat K mg E σ Hb H ρ m fun I σ' ρ' Hb' H' => σ' = σ → Held σ I σ ρ' → ∀ J, Walks K J σ Hb' I → Rc J H'
end
/-- unlocking -/
def unlock1 (j : Nat) (d : D) : M Unit := fun ρ => match ρ[j]? with
  | some (some ⟨.lock, _⟩) => some (.ok (), ρ.set j (some ⟨.own, d⟩))
  | some (some ⟨.iol, _⟩) => some (.ok (), ρ.set j (some ⟨.io, d⟩))
  | _ => none
def unlock : List (Nat × D) → M Unit
  | [] => ret ()
  | p :: l => bnd (unlock1 p.1 p.2) fun _ => unlock l
def loopF (g : D → M Unit) (b : M Fl) : List D → M Fl
  | [] => ret .nx
  | d :: ds => bnd (g d) fun _ => bnd b fun fl => match fl with
    | .nx => loopF g b ds
    | .ct => loopF g b ds
    | .bk => ret .nx
    | .rt r => ret (.rt r)
def mFor (it : M Itd) (g : D → M Unit) (b : M Fl) : M Fl := bnd it fun I => bnd (loopF g b I.items) fun fl => bnd (unlock I.lk) fun _ => ret fl

section
variable {K : PySem.W.Frag} {mg : Str → Option Value} {E : WX} {σ σ' : L2.St} {Hb H Hb' H' : Hp} {ρ ρ' ρ2 : R}
theorem bnd_some {α β : Type} {m : M α} {f : α → M β} {o : Out β × R} (e : bnd m f ρ = some o) : (∃ a ρ1, m ρ = some (.ok a, ρ1) ∧ f a ρ1 = some o) ∨ ∃ x ρ1, m ρ = some (.exc x, ρ1) ∧ o = (.exc x, ρ1) := by
  unfold bnd at e
  split at e
  · rename_i a ρ1 e1
    exact .inl ⟨a, ρ1, e1, e⟩
  · rename_i x ρ1 e1
    cases e
    exact .inr ⟨x, ρ1, e1, rfl⟩
  · cases e
theorem unlock1_ok {j : Nat} {d : D} {o : Out Unit × R} (hm : ∃ m, Md.isLk m = true ∧ ρ'[j]? = some (some ⟨m, d⟩)) (e : unlock1 j d ρ' = some o) : o.1 = .ok () ∧ o.2.length = ρ'.length ∧
    ∃ m m', Md.isLk m = true ∧ Md.isLk m' = false ∧ Md.isOwn m' = true ∧ (Md.isIo m' = Md.isIo m) ∧ ρ'[j]? = some (some ⟨m, d⟩) ∧ o.2 = ρ'.set j (some ⟨m', d⟩) := by
  obtain ⟨m, hm, hj⟩ := hm
  unfold unlock1 at e
  rw [hj] at e
  cases m <;> first | cases hm | skip
  · cases e
    exact ⟨rfl, by simp, .lock, .own, rfl, rfl, rfl, rfl, hj, rfl⟩
  · cases e
    exact ⟨rfl, by simp, .iol, .io, rfl, rfl, rfl, rfl, hj, rfl⟩
/-- a slot is unlocked: the state goes on from one in which it was not locked -/
theorem unlock1_go {j : Nat} {d : D} {m m' : Md} (g : Go σ ρ Hb H σ' ρ' Hb' H') (R' : Rel K Hb' H' σ' ρ') (h0 : ∀ s, ρ[j]? = some (some s) → s.m.isLk = false) (hm : Md.isLk m = true) (hm' : Md.isOwn m' = true) (hio : Md.isIo m' = Md.isIo m) (hj : ρ'[j]? = some (some ⟨m, d⟩)) :
    Go σ ρ Hb H σ' (ρ'.set j (some ⟨m', d⟩)) Hb' H' ∧ Rel K Hb' H' σ' (ρ'.set j (some ⟨m', d⟩)) := by
  have hjl : j < ρ'.length := (List.getElem?_eq_some_iff.mp hj).1
  have mo : Md.isOwn m = true := by cases m <;> first | rfl | cases hm
  have ownE : ∀ a, Own σ' (ρ'.set j (some ⟨m', d⟩)) a → Own σ' ρ' a := fun a ⟨i, s, q1, q2, q3⟩ => by
    rcases get_set q1 with ⟨e, z⟩ | ⟨_, z⟩
    · subst e
      exact ⟨_, _, hj, mo, q3⟩
    · exact ⟨i, s, z, q2, q3⟩
  refine ⟨⟨g.b, g.k, g.f, g.t, fun a q => g.o a (ownE a q), fun i s q1 q2 => ?_, fun i s q1 q2 => ?_⟩, ⟨by simp [R'.len], R'.ex, fun i s q1 q2 => ?_, fun i s q1 q2 => ?_, fun i k s t a q1 q2 q3 q4 q5 q6 => ?_⟩⟩
  · obtain ⟨e1, s', e2, e3⟩ := g.io i s q1 q2
    refine ⟨e1, ?_⟩
    by_cases e : i = j
    · subst e
      rw [hj] at e2
      cases e2
      exact ⟨_, List.getElem?_set_self hjl, hio.trans e3⟩
    · exact ⟨s', by rw [List.getElem?_set_ne (Ne.symm e)]; exact e2, e3⟩
  · obtain ⟨e1, e2⟩ := g.lk i s q1 q2
    have ne : i ≠ j := fun e => by
      subst e
      rw [h0 s q1] at q2; cases q2
    exact ⟨e1, by rw [List.getElem?_set_ne (Ne.symm ne)]; exact e2⟩
  · rcases get_set q1 with ⟨e, z⟩ | ⟨_, z⟩
    · cases z
      rw [hm'] at q2; cases q2
    · exact R'.val i s z q2
  · rcases get_set q1 with ⟨e, z⟩ | ⟨_, z⟩
    · subst e
      cases z
      have q := R'.own i ⟨m, d⟩ hj mo
      exact q
    · exact R'.own i s z q2
  · have f1 : ∃ s', ρ'[i]? = some (some s') ∧ s'.m.isOwn = true := by
      rcases get_set q1 with ⟨e, z⟩ | ⟨_, z⟩
      · subst e; exact ⟨_, hj, mo⟩
      · exact ⟨s, z, q3⟩
    have f2 : ∃ s', ρ'[k]? = some (some s') ∧ s'.m.isOwn = true := by
      rcases get_set q2 with ⟨e, z⟩ | ⟨_, z⟩
      · subst e; exact ⟨_, hj, mo⟩
      · exact ⟨t, z, q4⟩
    obtain ⟨s1, z1, z2⟩ := f1
    obtain ⟨s2, z3, z4⟩ := f2
    exact R'.inj i k s1 s2 a z1 z3 z2 z4 q5 q6
/-- what is locked was not locked ahead -/
def WasFree (ρ : R) (l : List (Nat × D)) : Prop := ∀ p ∈ l, ∀ s, ρ[p.1]? = some (some s) → s.m.isLk = false
theorem unlock_go : ∀ {l : List (Nat × D)} {ρ' : R} {o : Out Unit × R}, Go σ ρ Hb H σ' ρ' Hb' H' → Rel K Hb' H' σ' ρ' → WasFree ρ l → (∀ p ∈ l, ∃ m, Md.isLk m = true ∧ ρ'[p.1]? = some (some ⟨m, p.2⟩)) → (l.map (·.1)).Nodup → unlock l ρ' = some o →
    o.1 = .ok () ∧ Go σ ρ Hb H σ' o.2 Hb' H' ∧ Rel K Hb' H' σ' o.2 ∧ ∀ a, Own σ' o.2 a → Own σ' ρ' a
  | [], ρ', o, g, R', _, _, _, e => by
    cases e
    exact ⟨rfl, g, R', fun _ h => h⟩
  | p :: l, ρ', o, g, R', wf, hl, nd, e => by
    rcases bnd_some (m := unlock1 p.1 p.2) e with ⟨u, ρ1, e1, e2⟩ | ⟨x, ρ1, e1, e2⟩
    · obtain ⟨h1, h2, m, m', q1, q2, q3, q4, q5, q6⟩ := unlock1_ok (hl p List.mem_cons_self) e1
      have q6 : ρ1 = ρ'.set p.1 (some ⟨m', p.2⟩) := q6
      subst q6
      obtain ⟨g1, R1⟩ := unlock1_go g R' (wf p List.mem_cons_self) q1 q3 q4 q5
      rw [List.map_cons, List.nodup_cons] at nd
      obtain ⟨z1, z2, z3, z4⟩ := unlock_go g1 R1 (fun q hq => wf q (List.mem_cons_of_mem _ hq)) (fun q hq => by
        obtain ⟨mq, w1, w2⟩ := hl q (List.mem_cons_of_mem _ hq)
        refine ⟨mq, w1, ?_⟩
        rw [List.getElem?_set_ne fun e => nd.1 (by rw [e]; exact List.mem_map_of_mem hq)]
        exact w2) nd.2 e2
      refine ⟨z1, z2, z3, fun a h => ?_⟩
      obtain ⟨i, s, w1, w2, w3⟩ := z4 a h
      rcases get_set w1 with ⟨e3, z⟩ | ⟨_, z⟩
      · subst e3
        refine ⟨_, _, q5, ?_, w3⟩
        cases m <;> first | rfl | cases q1
      · exact ⟨i, s, z, w2, w3⟩
    · obtain ⟨h1, _⟩ := unlock1_ok (hl p List.mem_cons_self) e1
      cases h1
theorem held_go {σ0 : L2.St} {I : Itd} (g : Go σ ρ Hb H σ' ρ' Hb' H') (h : Held σ0 I σ ρ) : Held σ0 I σ' ρ' := fun p hp => by
  obtain ⟨e, m, hm, hj⟩ := h p hp
  obtain ⟨e1, e2⟩ := g.lk p.1 ⟨m, p.2⟩ hj hm
  exact ⟨e1.trans e, m, hm, e2⟩
/-- iterators whose locks are in order -/
structure ItOk (m : M Itd) : Prop where
  nd : ∀ ρ I ρ', m ρ = some (.ok I, ρ') → (I.lk.map (·.1)).Nodup ∧ WasFree ρ I.lk
theorem for_read {it : M Itd} {g : D → M Unit} {b : M Fl} {De : Ends} (ok : ItOk it) (w : tS K mg E (mFor it g b) De σ H) : tFor (tI K mg E it) (tGt K mg E (fun _ _ => True) g) (tS K mg E b) De σ H := by
  obtain ⟨Hb, ρ, Rr, out, ρ2, e, h1, h2⟩ := w
  rcases bnd_some e with ⟨I, ρ1, e1, e2⟩ | ⟨x, ρ1, e1, e2⟩
  · obtain ⟨nd, wf⟩ := ok.nd ρ I ρ1 e1
    refine ⟨Hb, ρ, Rr, _, _, e1, fun I' q σ1 Hb1 H1 g1 R1 es hd J wk => ?_, fun x q => by cases q⟩
    cases q
    subst es
    -- the rest of the run from a turn on
    let rest : List D → M Fl := fun ds => bnd (loopF g b ds) fun fl => bnd (unlock I.lk) fun _ => ret fl
    -- the very end
    have fin : ∀ {fl : Fl} {σ' : L2.St} {ρ' : R} {Hb' H' H0 : Hp}, Go σ1 ρ Hb H σ' ρ' Hb' H' → Rel K Hb' H' σ' ρ' → Held σ1 I σ' ρ' → (∀ a, H a ≠ none → H0 a ≠ none) → (bnd (unlock I.lk) fun _ => ret fl) ρ' = some (out, ρ2) → FlP K De H0 fl σ' ρ' Hb' H' := by
      intro fl σ' ρ' Hb' H' H0 gg Rg hh t er
      rcases bnd_some er with ⟨u, ρ3, f1, f2⟩ | ⟨x, ρ3, f1, f2⟩
      · obtain ⟨_, z2, z3, z4⟩ := unlock_go gg Rg wf (fun p hp => (hh p hp).2) nd f1
        cases f2
        have q := h1 _ rfl σ' Hb' H' z2 z3
        cases fl with
        | nx => exact q
        | bk => exact q
        | ct => exact q
        | rt r =>
          intro v rep
          refine q v ?_
          cases r with
          | val d => exact rep
          | slot i => exact rep
          | fresh xs =>
            obtain ⟨a, vs, w1, w2, w3, w4, w5, w6⟩ := rep
            exact ⟨a, vs, w1, w2, w3, w4, Classical.byContradiction fun z => t a z w5, fun z => w6 (z4 a z)⟩
      · obtain ⟨z1, _⟩ := unlock_go gg Rg wf (fun p hp => (hh p hp).2) nd f1
        cases z1
    have excEnd : ∀ {x : Exc} {σ' : L2.St} {Hb' H' : Hp}, out = .exc x → ∀ c d, Go σ1 ρ Hb H σ' ρ2 Hb' H' → Rel K Hb' H' σ' ρ2 → ExcR K mg Hb' H' c d x → E c d σ' H' := fun {x σ' Hb' H'} q c d => h2 x q σ' c d Hb' H'
    refine ⟨fun i m σ' H' => m = I.items.length - i ∧ i ≤ I.items.length ∧ ∃ Hb' ρ', Rel K Hb' H' σ' ρ' ∧ Go σ1 ρ1 Hb1 H1 σ' ρ' Hb' H' ∧ rest (I.items.drop i) ρ' = some (out, ρ2), ⟨_, rfl, Nat.zero_le _, Hb1, ρ1, R1, Go.refl, by rw [List.drop_zero]; exact e2⟩, ?_⟩
    rintro i m σ' H' ⟨rfl, hi, Hb', ρ', R', g', e'⟩
    have hh := held_go g' hd
    obtain ⟨wgo, wstop, wy⟩ := wk.at' σ' ρ' Hb' H' R' g'.b hh
    by_cases c : i < I.items.length
    · refine .inr ⟨wgo i c, fun σ3 H3 => i + 1 ≤ I.items.length ∧ ∃ Hb3 ρ3, Rel K Hb3 H3 σ3 ρ3 ∧ Go σ1 ρ1 Hb1 H1 σ3 ρ3 Hb3 H3 ∧ rest (I.items.drop (i + 1)) ρ3 = some (out, ρ2), fun σ3 H3 q => ⟨I.items.length - (i + 1), by omega, rfl, q⟩, fun x H'' y => ?_⟩
      obtain ⟨Hb'', n, d, hd', rp⟩ := wy i x H'' c y
      have ed : I.items.drop i = d :: I.items.drop (i + 1) := by
        rw [List.drop_eq_getElem_cons c]
        rw [List.getElem?_eq_getElem c] at hd'
        cases hd'
        rfl
      rw [ed] at e'
      have gn := g'.trans (n.go (σ := σ') (ρ := ρ'))
      have e3 : (bnd (g d) fun _ => bnd b fun fl => bnd (match fl with
          | .nx => loopF g b (I.items.drop (i + 1))
          | .ct => loopF g b (I.items.drop (i + 1))
          | .bk => ret .nx
          | .rt r => ret (.rt r)) fun fl => bnd (unlock I.lk) fun _ => ret fl) ρ' = some (out, ρ2) := by
        rw [← e']
        show _ = bnd (bnd (g d) fun _ => bnd b fun fl => _) _ ρ'
        unfold bnd
        cases g d ρ' with
        | none => rfl
        | some o =>
          obtain ⟨o, ρa⟩ := o
          cases o with
          | exc x => rfl
          | ok u =>
            dsimp only
            cases b ρa with
            | none => rfl
            | some o =>
              obtain ⟨o, ρb⟩ := o
              cases o <;> rfl
      rcases bnd_some e3 with ⟨u, ρa, a1, a2⟩ | ⟨x, ρa, a1, a2⟩
      · refine ⟨Hb'', ρ', d, n.rel R', rp, _, _, a1, fun u' q σ2 Hb2 H2 g2 R2 _ => ?_, fun x q => by cases q⟩
        cases q
        have ga := gn.trans g2
        rcases bnd_some a2 with ⟨fl, ρb, b1, b2⟩ | ⟨x, ρb, b1, b2⟩
        · refine ⟨Hb2, ρa, R2, _, _, b1, fun fl' q σ3 Hb3 H3 g3 R3 => ?_, fun x q => by cases q⟩
          cases q
          have gb := ga.trans g3
          cases fl with
          | nx => exact ⟨c, Hb3, ρb, R3, gb, b2⟩
          | ct => exact ⟨c, Hb3, ρb, R3, gb, b2⟩
          | bk =>
            have b2 : (bnd (unlock I.lk) fun _ => ret Fl.nx) ρb = some (out, ρ2) := b2
            exact fin (fl := .nx) (H0 := H) (g1.trans gb) R3 (held_go gb hd) (fun _ q => q) b2
          | rt r =>
            have b2 : (bnd (unlock I.lk) fun _ => ret (Fl.rt r)) ρb = some (out, ρ2) := b2
            exact fin (fl := .rt r) (H0 := H2) (g1.trans gb) R3 (held_go gb hd) (g1.trans ga).t b2
        · cases b2
          refine ⟨Hb2, ρa, R2, _, _, b1, fun fl' q => (by cases q), fun x' q σ3 cc dd Hb3 H3 g3 R3 xr => ?_⟩
          cases q
          exact excEnd rfl cc dd (g1.trans (ga.trans g3)) R3 xr
      · cases a2
        refine ⟨Hb'', ρ', d, n.rel R', rp, _, _, a1, fun u' q => (by cases q), fun x' q σ3 cc dd Hb3 H3 g3 R3 xr => ?_⟩
        cases q
        exact excEnd rfl cc dd (g1.trans (gn.trans g3)) R3 xr
    · have ei : i = I.items.length := by omega
      subst ei
      refine .inl ⟨wstop, ?_⟩
      rw [List.drop_length] at e'
      have e' : (bnd (unlock I.lk) fun _ => ret Fl.nx) ρ' = some (out, ρ2) := e'
      exact fin (fl := .nx) (H0 := H) (g1.trans g') R' hh (fun _ q => q) e'
  · cases e2
    refine ⟨Hb, ρ, Rr, _, _, e1, fun I' q => (by cases q), fun x' q σ1 c d Hb1 H1 g1 R1 xr => ?_⟩
    cases q
    exact h2 _ rfl σ1 c d Hb1 H1 g1 R1 xr
end
theorem ms_for {X : Cx} {E : WX} {tg iter : Expr} {body : List Stmt} {pos : Pos} {mi : M Itd} {g : D → M Unit} {mb : M Fl} (hp : PassesOwn (model X.prog X.w) X.A X.env X.xe) (hc : X.calm = true) (ok : ItOk mi) (hi : PI X tg iter (tI X.K X.mg E mi)) (hg : PG X tg (tGt X.K X.mg E (fun _ _ => True) g)) (hb : PSs X body (tS X.K X.mg E mb))
    (hs : ∀ x, foldedSetIterable iter X.env x = pure x := by intro _; rfl) : PS X (.For tg iter body [] pos) (tS X.K X.mg E (mFor mi g mb)) := (ps_for hp hc hi hg hb hs).imp fun _ _ _ w => for_read ok w
end Mi

/-! Mi: the things that are walked; comprehensions. -/
namespace Mi
open PySem L2 Evl PySem.Spec

def freeAt (ρ : R) (j : Nat) : Bool := match ρ[j]? with
  | some (some s) => !s.m.isLk
  | _ => true
def chk (m : M Itd) : M Itd := fun ρ => match m ρ with
  | some (.ok I, ρ') => if (I.lk.map (·.1)).Nodup ∧ (I.lk.all fun p => freeAt ρ p.1) = true then some (.ok I, ρ') else none
  | o => o
theorem chk_some {m : M Itd} {ρ : R} {o : Out Itd × R} (e : chk m ρ = some o) : m ρ = some o := by
  unfold chk at e
  split at e
  · rename_i I ρ' e1
    split at e
    · cases e; exact e1
    · cases e
  · exact e
theorem chk_ok (m : M Itd) : ItOk (chk m) := ⟨fun ρ I ρ' e => by
  have e0 := chk_some e
  unfold chk at e
  rw [e0] at e
  dsimp only at e
  split at e
  · rename_i c
    refine ⟨c.1, fun p hp s hs => ?_⟩
    have := List.all_eq_true.mp c.2 p hp
    unfold freeAt at this
    rw [hs] at this
    simpa using this
  · cases e⟩
theorem tI_chk {K : PySem.W.Frag} {mg : Str → Option Value} {E : WX} {m : M Itd} {σ : L2.St} {H : Hp} {Rc : It → Hp → Prop} (w : tI K mg E (chk m) σ H Rc) : tI K mg E m σ H Rc := by
  obtain ⟨Hb, ρ, Rr, out, ρ', e, h⟩ := w
  exact ⟨Hb, ρ, Rr, out, ρ', chk_some e, h⟩
theorem PI_imp {X : Cx} {tg e : Expr} {w w' : TI} (h : PI X tg e w) (k : ∀ σ H Rc, w' σ H Rc → w σ H Rc) : PI X tg e w' := ⟨fun pins s σ H Rc I q => h.run pins s σ H Rc I (k σ H Rc q)⟩
theorem PI_or {X : Cx} {tg e : Expr} {w w' : TI} (h : PI X tg e w) (h' : PI X tg e w') : PI X tg e (fun σ H Rc => w σ H Rc ∨ w' σ H Rc) := ⟨fun pins s σ H Rc I q => by
  rcases q with q | q
  · exact h.run pins s σ H Rc I q
  · exact h'.run pins s σ H Rc I q⟩

/-! ### data -/
def signs (z : Str) : List D := z.cps.toList.map fun c => .str ⟨#[c]⟩
def iterD (r : Res) : M Itd := fun ρ => match r with
  | .val (.list xs) => some (.ok ⟨xs, []⟩, ρ)
  | .val (.tuple xs) => some (.ok ⟨xs, []⟩, ρ)
  | .val (.str z) => some (.ok ⟨signs z, []⟩, ρ)
  | .slot j => match ρ[j]? with
    | some (some ⟨.own, .list xs⟩) => some (.ok ⟨xs, [(j, .list xs)]⟩, ρ.set j (some ⟨.lock, .list xs⟩))
    | some (some ⟨.io, .list xs⟩) => some (.ok ⟨xs, [(j, .list xs)]⟩, ρ.set j (some ⟨.iol, .list xs⟩))
    | some (some ⟨.val, .list xs⟩) => some (.ok ⟨xs, []⟩, ρ)
    | _ => none
  | _ => none
def mItD (m : M Res) : M Itd := bnd (thaw m) iterD
section
variable {K : PySem.W.Frag} {mg : Str → Option Value} {E : WX} {σ : L2.St} {Hb H : Hp} {ρ : R}
theorem lock_go {j : Nat} {d : D} {m m' : Md} (Rr : Rel K Hb H σ ρ) (hm : Md.isOwn m = true) (hm2 : Md.isLk m = false) (hm' : Md.isOwn m' = true) (hio : Md.isIo m' = Md.isIo m) (hj : ρ[j]? = some (some ⟨m, d⟩)) :
    Go σ ρ Hb H σ (ρ.set j (some ⟨m', d⟩)) Hb H ∧ Rel K Hb H σ (ρ.set j (some ⟨m', d⟩)) := by
  have hjl : j < ρ.length := (List.getElem?_eq_some_iff.mp hj).1
  refine ⟨⟨Ex.refl _, fun _ _ h _ => h, fun a q1 q2 => absurd q1 q2, fun _ h => h, fun a ⟨i, s, q1, q2, q3⟩ => .inl ?_, fun i s q1 q2 => ⟨rfl, ?_⟩, fun i s q1 q2 => ⟨rfl, ?_⟩⟩, ⟨by simp [Rr.len], Rr.ex, fun i s q1 q2 => ?_, fun i s q1 q2 => ?_, fun i k s t a q1 q2 q3 q4 q5 q6 => ?_⟩⟩
  · rcases get_set q1 with ⟨e, z⟩ | ⟨_, z⟩
    · subst e; exact ⟨_, _, hj, hm, q3⟩
    · exact ⟨i, s, z, q2, q3⟩
  · by_cases e : i = j
    · subst e
      rw [hj] at q1; cases q1
      exact ⟨_, List.getElem?_set_self hjl, hio.trans q2⟩
    · exact ⟨s, by rw [List.getElem?_set_ne (Ne.symm e)]; exact q1, q2⟩
  · have e : i ≠ j := fun e => by
      subst e
      rw [hj] at q1; cases q1
      rw [hm2] at q2; cases q2
    rw [List.getElem?_set_ne (Ne.symm e)]; exact q1
  · rcases get_set q1 with ⟨e, z⟩ | ⟨_, z⟩
    · cases z
      rw [hm'] at q2; cases q2
    · exact Rr.val i s z q2
  · rcases get_set q1 with ⟨e, z⟩ | ⟨_, z⟩
    · subst e
      cases z
      have q := Rr.own i ⟨m, d⟩ hj hm
      exact q
    · exact Rr.own i s z q2
  · have f1 : ∃ s', ρ[i]? = some (some s') ∧ s'.m.isOwn = true := by
      rcases get_set q1 with ⟨e, z⟩ | ⟨_, z⟩
      · subst e; exact ⟨_, hj, hm⟩
      · exact ⟨s, z, q3⟩
    have f2 : ∃ s', ρ[k]? = some (some s') ∧ s'.m.isOwn = true := by
      rcases get_set q2 with ⟨e, z⟩ | ⟨_, z⟩
      · subst e; exact ⟨_, hj, hm⟩
      · exact ⟨t, z, q4⟩
    obtain ⟨s1, z1, z2⟩ := f1
    obtain ⟨s2, z3, z4⟩ := f2
    exact Rr.inj i k s1 s2 a z1 z3 z2 z4 q5 q6
theorem walks_list {a : Addr} {xs : List D} {Hb0 : Hp} {σ0 : L2.St} {vs : List V} {I : Itd} (hI : I.items = xs) (hs : ∀ (σ : L2.St) (ρ : R) (Hb H : Hp), Rel K Hb H σ ρ → Ex Hb0 Hb → Held σ0 I σ ρ → ∃ vs, SqL K H a vs ∧ RpAll K Hb vs xs) : Walks K (Itl K a) σ0 Hb0 I := ⟨fun σ ρ Hb H Rr ex hd => by
  obtain ⟨vs, s, r⟩ := hs σ ρ Hb H Rr ex hd
  subst hI
  refine ⟨fun i hi => ?_, ⟨vs, s, by rw [r.length]; exact Nat.le_refl _⟩, fun i x H' hi y => ?_⟩
  · have hi' : i < vs.length := by rw [r.length]; exact hi
    exact ⟨vs, vs[i], s, by simp [hi']⟩
  · obtain ⟨e, y⟩ := y
    subst e
    obtain ⟨d, e1, e2⟩ := r.getV (y vs s)
    exact ⟨Hb, New.refl Rr.ex, d, e1, e2⟩⟩
theorem walks_tup {a : Addr} {xs : List D} {Hb0 : Hp} {σ0 : L2.St} {vs : List V} (s : SqT K Hb0 a vs) (r : RpAll K Hb0 vs xs) : Walks K (Itt K a) σ0 Hb0 ⟨xs, []⟩ := ⟨fun σ ρ Hb H Rr ex hd => by
  have s' : SqT K H a vs := ex_t (ex.trans Rr.ex) s
  refine ⟨fun i hi => ?_, ⟨vs, s', by rw [r.length]; exact Nat.le_refl _⟩, fun i x H' hi y => ?_⟩
  · have hi' : i < vs.length := by rw [r.length]; exact hi
    exact ⟨vs, vs[i], s', by simp [hi']⟩
  · obtain ⟨e, y⟩ := y
    subst e
    obtain ⟨d, e1, e2⟩ := r.getV (y vs s')
    exact ⟨Hb, New.refl Rr.ex, d, e1, e2.mono ex⟩⟩
theorem walks_str {z : Str} {Hb0 : Hp} {σ0 : L2.St} : Walks K (Its z) σ0 Hb0 ⟨signs z, []⟩ := ⟨fun σ ρ Hb H Rr ex hd => by
  have hl : (signs z).length = z.cps.size := by unfold signs; simp
  refine ⟨fun i hi => by rw [hl] at hi; exact hi, (by show z.cps.size ≤ (signs z).length; omega), fun i x H' hi y => ?_⟩
  obtain ⟨e, c, y, q⟩ := y
  subst e
  subst q
  refine ⟨Hb, New.refl Rr.ex, .str ⟨#[c]⟩, ?_, .str _⟩
  show (signs z)[i]? = _
  unfold signs
  rw [List.getElem?_map, Array.getElem?_toList, y]
  rfl⟩
end
theorem thaw_some {m : M Res} {ρ ρ1 : R} {o : Out Res} (e : thaw m ρ = some (o, ρ1)) : (∃ r0, m ρ = some (.ok r0, ρ1) ∧ o = .ok (thawR r0)) ∨ ∃ x, m ρ = some (.exc x, ρ1) ∧ o = .exc x := by
  rcases bnd_some e with ⟨r0, ρ2, e1, e2⟩ | ⟨x, ρ2, e1, e2⟩
  · cases e2
    exact .inl ⟨r0, e1, rfl⟩
  · cases e2
    exact .inr ⟨x, e1, rfl⟩
theorem e_known {K : PySem.W.Frag} {mg : Str → Option Value} {E : WX} {σ : L2.St} {Hb H : Hp} {ρ ρ1 : R} {m : M Res} {r0 : Res} (Rr : Rel K Hb H σ ρ) (em : m ρ = some (.ok r0, ρ1)) :
    tE K mg E m σ H fun v H1 => ∃ Hb1, Rel K Hb1 H1 σ ρ1 ∧ RepA K Hb1 σ [v] [thawR r0] ∧ Go σ ρ Hb H σ ρ1 Hb1 H1 := by
  refine ⟨Hb, ρ, Rr, _, _, em, fun r q σ' Hb1 H1 g R1 es v rep => ?_, fun x q => by cases q⟩
  cases q
  subst es
  obtain ⟨Hb2, g2, R2, _, rep2⟩ := rep_thaw g R1 rep
  refine ⟨Hb2, R2, ?_, g2⟩
  cases r0 with
  | val d => exact .val rep2 .nil
  | fresh xs => exact .val rep2 .nil
  | slot i => exact .slot rep2 .nil
theorem e_exc {K : PySem.W.Frag} {mg : Str → Option Value} {E : WX} {σ : L2.St} {Hb H : Hp} {ρ ρ1 : R} {m : M Res} {x : Exc} {Q : VK} (Rr : Rel K Hb H σ ρ) (em : m ρ = some (.exc x, ρ1))
    (h : ∀ σ' c d Hb' H', Go σ ρ Hb H σ' ρ1 Hb' H' → Rel K Hb' H' σ' ρ1 → ExcR K mg Hb' H' c d x → E c d σ' H') : tE K mg E m σ H Q :=
  ⟨Hb, ρ, Rr, _, _, em, fun r q => (by cases q), fun x' q => by cases q; exact h⟩
section
variable {X : Cx} {E : WX} {tg e : Expr} {m : M Res}
theorem mi_data (h : PE X e (tE X.K X.mg E m)) : PI X tg e (tI X.K X.mg E (mItD m)) := PI_imp (PI_or (PI_or (pi_list h) (pi_tup h)) (pi_str h)) fun σ H Rc w => by
  obtain ⟨Hb, ρ, Rr, out, ρ2, e, h1, h2⟩ := w
  rcases bnd_some e with ⟨r, ρ1, e1, e2⟩ | ⟨x, ρ1, e1, e2⟩
  · rcases thaw_some e1 with ⟨r0, em, q⟩ | ⟨x, _, q⟩
    · cases q
      cases hr : thawR r0 with
      | fresh xs => cases r0 <;> cases hr
      | val d =>
        rw [hr] at e2
        unfold iterD at e2
        split at e2
        · rename_i xs hx
          cases hx
          cases e2
          refine .inl (.inl (tE_mono (e_known Rr em) fun v H1 ⟨Hb1, R1, rx, g1⟩ => ?_))
          rw [hr] at rx
          cases rx with
          | val rp _ =>
            cases rp with
            | @lst a vs _ sq ra =>
              refine ⟨a, rfl, ⟨vs, ex_l R1.ex sq⟩, h1 _ rfl σ Hb1 H1 g1 R1 rfl (fun p hp => by cases hp) _ (walks_list (vs := vs) rfl fun σ ρ Hb H Rr ex _ => ⟨vs, ex_l (ex.trans Rr.ex) sq, ra.mono ex⟩)⟩
        · rename_i xs hx
          cases hx
          cases e2
          refine .inl (.inr (tE_mono (e_known Rr em) fun v H1 ⟨Hb1, R1, rx, g1⟩ => ?_))
          rw [hr] at rx
          cases rx with
          | val rp _ =>
            cases rp with
            | @tup a vs _ sq ra => exact ⟨a, rfl, ⟨vs, ex_t R1.ex sq⟩, h1 _ rfl σ Hb1 H1 g1 R1 rfl (fun p hp => by cases hp) _ (walks_tup sq ra)⟩
        · rename_i z hx
          cases hx
          cases e2
          refine .inr (tE_mono (e_known Rr em) fun v H1 ⟨Hb1, R1, rx, g1⟩ => ?_)
          rw [hr] at rx
          cases rx with
          | val rp _ => exact ⟨z, rp.str_inv, h1 _ rfl σ Hb1 H1 g1 R1 rfl (fun p hp => by cases hp) _ walks_str⟩
        · rename_i hx
          cases hx
        · cases e2
      | slot j =>
        rw [hr] at e2
        -- a list that the slot owns is locked
        have own : ∀ {md md' : Md} {xs : List D}, ρ1[j]? = some (some ⟨md, .list xs⟩) → Md.isOwn md = true → Md.isLk md = false → Md.isLk md' = true → Md.isOwn md' = true → Md.isIo md' = Md.isIo md → out = .ok ⟨xs, [(j, .list xs)]⟩ → ρ2 = ρ1.set j (some ⟨md', .list xs⟩) →
            iList X.K (tE X.K X.mg E m) σ H Rc := by
          intro md md' xs hj ho hl hl' ho' hio hO hρ
          subst hO
          subst hρ
          refine tE_mono (e_known Rr em) fun v H1 ⟨Hb1, R1, rx, g1⟩ => ?_
          rw [hr] at rx
          obtain ⟨g2, R2⟩ := lock_go R1 ho hl ho' hio hj
          obtain ⟨a, vs, xs', q1, q2, q3, q4, q5⟩ := R1.own j _ hj ho
          cases q2
          have ev : v = .ref a := by
            cases rx with
            | slot h _ => rw [q1] at h; cases h; rfl
          subst ev
          have hjl : j < ρ1.length := (List.getElem?_eq_some_iff.mp hj).1
          refine ⟨a, rfl, ⟨vs, SqL.of q4⟩, h1 _ rfl σ Hb1 H1 (g1.trans g2) R2 rfl (fun p hp => ?_) _ (walks_list (vs := vs) rfl fun σ' ρ' Hb' H' R' ex hd => ?_)⟩
          · rcases List.mem_cons.mp hp with e | e
            · subst e
              exact ⟨rfl, md', hl', List.getElem?_set_self hjl⟩
            · cases e
          · obtain ⟨e1, m3, w1, w2⟩ := hd (j, .list xs) List.mem_cons_self
            have ow : Md.isOwn m3 = true := by cases m3 <;> first | rfl | cases w1
            obtain ⟨b, us, ys, z1, z2, z3, z4, z5⟩ := R'.own j _ w2 ow
            cases z2
            have e1 : σ'[j]? = σ[j]? := e1
            rw [e1, q1] at z1
            cases z1
            exact ⟨us, SqL.of z4, z5⟩
        unfold iterD at e2
        dsimp only at e2
        split at e2
        · rename_i xs hj
          cases e2
          exact .inl (.inl (own (md' := .lock) hj rfl rfl rfl rfl rfl rfl rfl))
        · rename_i xs hj
          cases e2
          exact .inl (.inl (own (md' := .iol) hj rfl rfl rfl rfl rfl rfl rfl))
        · rename_i xs hj
          cases e2
          refine .inl (.inl (tE_mono (e_known Rr em) fun v H1 ⟨Hb1, R1, rx, g1⟩ => ?_))
          rw [hr] at rx
          obtain ⟨w, q1, q2⟩ := R1.val j _ hj rfl
          have ev : v = w := by
            cases rx with
            | slot h _ => rw [q1] at h; cases h; rfl
          subst ev
          cases q2 with
          | @lst a vs _ sq ra =>
            refine ⟨a, rfl, ⟨vs, ex_l R1.ex sq⟩, h1 _ rfl σ Hb1 H1 g1 R1 rfl (fun p hp => by cases hp) _ (walks_list (vs := vs) rfl fun σ ρ Hb H Rr ex _ => ⟨vs, ex_l (ex.trans Rr.ex) sq, ra.mono ex⟩)⟩
        · cases e2
    · cases q
  · cases e2
    rcases thaw_some e1 with ⟨r0, em, q⟩ | ⟨x', em, q⟩
    · cases q
    · cases q
      exact .inl (.inl (e_exc Rr em (h2 _ rfl)))
end
end Mi

/-! Mi: ranges; comprehensions. -/
namespace Mi
open PySem L2 Evl PySem.Spec

def rangeD (lo : Int) (n : Nat) : List D := (List.range n).map fun i => .int (lo + (i : Nat))
def in62 (i : Int) : Bool := decide (-(2 ^ 62) ≤ i ∧ i < 2 ^ 62)
def rng1 (rs : List Res) : M Itd := fun ρ => match rs with
  | [.val (.int n)] => if in62 n then some (.ok ⟨rangeD 0 n.toNat, []⟩, ρ) else none
  | _ => none
def rng2 (rs : List Res) : M Itd := fun ρ => match rs with
  | [.val (.int a), .val (.int b)] => if in62 a && in62 b then some (.ok ⟨rangeD a (b - a).toNat, []⟩, ρ) else none
  | _ => none
def mRng1 (as : M (List Res)) : M Itd := bnd as rng1
def mRng2 (as : M (List Res)) : M Itd := bnd as rng2
theorem walks_rng {K : PySem.W.Frag} {lo : Int} {n : Nat} {Hb0 : Hp} {σ0 : L2.St} : Walks K (Itr lo n) σ0 Hb0 ⟨rangeD lo n, []⟩ := ⟨fun σ ρ Hb H Rr ex hd => by
  have hl : (rangeD lo n).length = n := by unfold rangeD; simp
  refine ⟨fun i hi => by rw [hl] at hi; exact hi, (by show n ≤ (rangeD lo n).length; omega), fun i x H' hi y => ?_⟩
  obtain ⟨e, y⟩ := y
  subst e
  subst y
  rw [hl] at hi
  refine ⟨Hb, New.refl Rr.ex, .int (lo + (i : Nat)), ?_, .int _⟩
  show (rangeD lo n)[i]? = _
  unfold rangeD
  rw [List.getElem?_map, List.getElem?_range hi]
  rfl⟩
section
variable {X : Cx} {E : WX} {tg a b : Expr} {p pos : Pos} {mr : M (List Res)}
theorem mi_rng1 (hg : Gl X "range") (hm : X.mg "range" = none) (ha : PA X [a] (tA X.K X.mg E mr)) (hs : starEach [a] X.env = [(false, eval a X.env)] := by rfl) : PI X tg (.Call (.Name "range" p) [a] [] pos) (tI X.K X.mg E (mRng1 mr)) :=
  PI_imp (pi_range1 hg hm ha hs) fun σ H Rc w => by
  obtain ⟨Hb, ρ, Rr, S⟩ := w
  refine tA_mono (e_args Rr S) fun vs H1 ⟨Hb1, ρ1, rs, R1, rr, g1, out, ρ2, e, h1, _⟩ => ?_
  unfold rng1 at e
  split at e
  · rename_i n
    split at e
    · rename_i c
      cases e
      have c := of_decide_eq_true c
      cases rr with
      | val rp r2 =>
        cases r2
        exact ⟨n, by rw [rp.int_inv], c.1, c.2, h1 _ rfl σ Hb1 H1 Go.refl R1 g1 rfl (fun p hp => by cases hp) _ walks_rng⟩
    · cases e
  · cases e
theorem mi_rng2 (hg : Gl X "range") (hm : X.mg "range" = none) (ha : PA X [a, b] (tA X.K X.mg E mr)) (hs : starEach [a, b] X.env = [(false, eval a X.env), (false, eval b X.env)] := by rfl) (hs2 : starEach [b] X.env = [(false, eval b X.env)] := by rfl) : PI X tg (.Call (.Name "range" p) [a, b] [] pos) (tI X.K X.mg E (mRng2 mr)) :=
  PI_imp (pi_range2 hg hm ha hs hs2) fun σ H Rc w => by
  obtain ⟨Hb, ρ, Rr, S⟩ := w
  refine tA_mono (e_args Rr S) fun vs H1 ⟨Hb1, ρ1, rs, R1, rr, g1, out, ρ2, e, h1, _⟩ => ?_
  unfold rng2 at e
  split at e
  · rename_i i j
    split at e
    · rename_i c
      cases e
      rw [Bool.and_eq_true] at c
      have c1 := of_decide_eq_true c.1
      have c2 := of_decide_eq_true c.2
      cases rr with
      | val rp r2 =>
        cases r2 with
        | val rp2 r3 =>
          cases r3
          exact ⟨i, j, by rw [rp.int_inv, rp2.int_inv], ⟨c1.1, c1.2, c2.1, c2.2⟩, h1 _ rfl σ Hb1 H1 Go.refl R1 g1 rfl (fun p hp => by cases hp) _ walks_rng⟩
    · cases e
  · cases e
end

/-! ### comprehensions -/
def wipeR (ρ : R) : List Nat → R
  | [] => ρ
  | v :: vs => (wipeR ρ vs).set v none
def restR (ρ0 ρ : R) : List Nat → R
  | [] => ρ
  | v :: vs => match ρ0[v]? with
    | some s => (restR ρ0 ρ vs).set v s
    | none => restR ρ0 ρ vs
def loopC (g : D → M Unit) (t : M Bool) (e : M Res) (vs : List Nat) : List D → R → List D → Option (List D × R)
  | [], ρ, acc => some (acc, ρ)
  | d :: ds, ρ, acc => match g d ρ with
    | some (.ok _, ρa) => match t ρa with
      | some (.ok true, ρb) => match mVal e ρb with
        | some (.ok y, ρc) => if acc.length < sizeLine then loopC g t e vs ds (wipeR ρc vs) (acc ++ [y]) else none
        | _ => none
      | some (.ok false, ρb) => loopC g t e vs ds (wipeR ρb vs) acc
      | _ => none
    | _ => none
def mLc (it : M Itd) (g : D → M Unit) (t : M Bool) (e : M Res) (vs : List Nat) : M Res := bnd (chk it) fun I => fun ρ1 => if (I.lk.all fun p => !vs.contains p.1) = true then match loopC g t e vs I.items (wipeR ρ1 vs) [] with
  | some (xs, ρe) => (bnd (unlock I.lk) fun _ => ret (.fresh xs)) (restR ρ1 ρe vs)
  | none => none else none
section
variable {ρ ρ0 : R} {σ : L2.St} {vs : List Nat}
theorem wipeR_get {i : Nat} {s : Slot} : ∀ {vs : List Nat}, (wipeR ρ vs)[i]? = some (some s) → ρ[i]? = some (some s) ∧ i ∉ vs
  | [], h => ⟨h, by simp⟩
  | v :: vs, h => by
    unfold wipeR at h
    rcases get_set h with ⟨_, z⟩ | ⟨ne, z⟩
    · cases z
    · obtain ⟨h1, h2⟩ := wipeR_get z
      exact ⟨h1, by simp only [List.mem_cons, not_or]; exact ⟨ne, h2⟩⟩
theorem wipeR_of {i : Nat} : ∀ {vs : List Nat}, i ∉ vs → (wipeR ρ vs)[i]? = ρ[i]?
  | [], _ => rfl
  | v :: vs, h => by
    unfold wipeR
    simp only [List.mem_cons, not_or] at h
    rw [List.getElem?_set_ne (Ne.symm h.1), wipeR_of h.2]
theorem wipeR_len : ∀ vs : List Nat, (wipeR ρ vs).length = ρ.length
  | [] => rfl
  | v :: vs => by unfold wipeR; rw [List.length_set, wipeR_len vs]
theorem wipe_of {i : Nat} : ∀ {vs : List Nat}, i ∉ vs → (wipe σ vs)[i]? = σ[i]?
  | [], _ => rfl
  | v :: vs, h => by
    unfold wipe
    simp only [List.mem_cons, not_or] at h
    rw [List.getElem?_set_ne (Ne.symm h.1), wipe_of h.2]
theorem restR_len : ∀ vs : List Nat, (restR ρ0 ρ vs).length = ρ.length
  | [] => rfl
  | v :: vs => by
    unfold restR
    split
    · rw [List.length_set, restR_len vs]
    · exact restR_len vs
theorem restR_get {i : Nat} {s : Slot} : ∀ {vs : List Nat}, (restR ρ0 ρ vs)[i]? = some (some s) → (i ∉ vs ∧ ρ[i]? = some (some s)) ∨ (i ∈ vs ∧ ρ0[i]? = some (some s)) ∨ (i ∈ vs ∧ ρ0[i]? = none)
  | [], h => .inl ⟨by simp, h⟩
  | v :: vs, h => by
    unfold restR at h
    split at h
    · rename_i t ht
      rcases get_set h with ⟨e, z⟩ | ⟨ne, z⟩
      · subst e
        exact .inr (.inl ⟨List.mem_cons_self, by rw [ht, z]⟩)
      · rcases restR_get z with ⟨h1, h2⟩ | ⟨h1, h2⟩ | ⟨h1, h2⟩
        · exact .inl ⟨by simp only [List.mem_cons, not_or]; exact ⟨ne, h1⟩, h2⟩
        · exact .inr (.inl ⟨List.mem_cons_of_mem _ h1, h2⟩)
        · exact .inr (.inr ⟨List.mem_cons_of_mem _ h1, h2⟩)
    · rename_i hn
      by_cases e : i = v
      · subst e
        exact .inr (.inr ⟨List.mem_cons_self, hn⟩)
      · rcases restR_get h with ⟨h1, h2⟩ | ⟨h1, h2⟩ | ⟨h1, h2⟩
        · exact .inl ⟨by simp only [List.mem_cons, not_or]; exact ⟨e, h1⟩, h2⟩
        · exact .inr (.inl ⟨List.mem_cons_of_mem _ h1, h2⟩)
        · exact .inr (.inr ⟨List.mem_cons_of_mem _ h1, h2⟩)
theorem restR_of {i : Nat} : ∀ {vs : List Nat}, i ∉ vs → (restR ρ0 ρ vs)[i]? = ρ[i]?
  | [], _ => rfl
  | v :: vs, h => by
    unfold restR
    simp only [List.mem_cons, not_or] at h
    split
    · rw [List.getElem?_set_ne (Ne.symm h.1), restR_of h.2]
    · exact restR_of h.2
theorem restR_in {i : Nat} {s : Option Slot} : ∀ {vs : List Nat}, i ∈ vs → ρ0[i]? = some s → i < ρ.length → (restR ρ0 ρ vs)[i]? = some s
  | v :: vs, h, hs, hl => by
    unfold restR
    by_cases e : i = v
    · subst e
      rw [hs]
      exact List.getElem?_set_self (by rw [restR_len]; exact hl)
    · have hm : i ∈ vs := by
        rcases List.mem_cons.mp h with z | z
        · exact absurd z e
        · exact z
      split
      · rw [List.getElem?_set_ne (Ne.symm e)]
        exact restR_in hm hs hl
      · exact restR_in hm hs hl
theorem wipe_idem : ∀ vs : List Nat, wipe (wipe σ vs) vs = wipe σ vs := by
  intro vs
  refine List.ext_getElem? fun i => ?_
  have key : ∀ (τ : L2.St) (ws : List Nat), (wipe τ ws)[i]? = if i ∈ ws then (if i < τ.length then some none else none) else τ[i]? := by
    intro τ ws
    induction ws with
    | nil => simp [wipe]
    | cons w ws ih =>
      unfold wipe
      by_cases e : w = i
      · subst e
        by_cases hl : w < (wipe τ ws).length
        · rw [List.getElem?_set_self hl]
          rw [wipe_length] at hl
          simp [hl]
        · rw [List.getElem?_eq_none (by rw [List.length_set]; omega)]
          rw [wipe_length] at hl
          simp [hl]
      · rw [List.getElem?_set_ne e, ih]
        by_cases hm : i ∈ ws
        · simp [hm, Ne.symm e]
        · simp [hm, Ne.symm e]
  rw [key, key, wipe_length]
  by_cases h : i ∈ vs
  · simp [h]
  · simp only [if_neg h]
theorem wipe_set {i : Nat} {x : Option V} : ∀ {vs : List Nat}, i ∈ vs → wipe (σ.set i x) vs = wipe σ vs := by
  intro vs hm
  refine List.ext_getElem? fun j => ?_
  have key : ∀ (τ : L2.St) (ws : List Nat), (wipe τ ws)[j]? = if j ∈ ws then (if j < τ.length then some none else none) else τ[j]? := by
    intro τ ws
    induction ws with
    | nil => simp [wipe]
    | cons w ws ih =>
      unfold wipe
      by_cases e : w = j
      · subst e
        by_cases hl : w < (wipe τ ws).length
        · rw [List.getElem?_set_self hl]
          rw [wipe_length] at hl
          simp [hl]
        · rw [List.getElem?_eq_none (by rw [List.length_set]; omega)]
          rw [wipe_length] at hl
          simp [hl]
      · rw [List.getElem?_set_ne e, ih]
        by_cases hm : j ∈ ws
        · simp [hm, Ne.symm e]
        · simp [hm, Ne.symm e]
  rw [key, key, List.length_set]
  by_cases h : j ∈ vs
  · simp [h]
  · have ne : j ≠ i := fun e => h (e ▸ hm)
    rw [if_neg h, if_neg h, List.getElem?_set_ne (Ne.symm ne)]
end
section
variable {K : PySem.W.Frag} {mg : Str → Option Value} {E : WX} {σ σ2 : L2.St} {Hb H Hb' H' : Hp} {ρ ρ1 ρ2 : R} {vs : List Nat}
theorem own_wipe {a : Addr} (h : Own (wipe σ vs) (wipeR ρ vs) a) : Own σ ρ a := by
  obtain ⟨i, s, h1, h2, h3⟩ := h
  obtain ⟨z1, z2⟩ := wipeR_get h1
  exact ⟨i, s, z1, h2, by rw [← wipe_of z2]; exact h3⟩
theorem rel_wipe (Rr : Rel K Hb H σ ρ) : Rel K Hb H (wipe σ vs) (wipeR ρ vs) where
  len := by rw [wipe_length, wipeR_len]; exact Rr.len
  ex := Rr.ex
  val := fun i s h1 h2 => by
    obtain ⟨z1, z2⟩ := wipeR_get h1
    rw [wipe_of z2]
    exact Rr.val i s z1 h2
  own := fun i s h1 h2 => by
    obtain ⟨z1, z2⟩ := wipeR_get h1
    rw [wipe_of z2]
    exact Rr.own i s z1 h2
  inj := fun i j s t a h1 h2 h3 h4 h5 h6 => by
    obtain ⟨z1, z2⟩ := wipeR_get h1
    obtain ⟨z3, z4⟩ := wipeR_get h2
    rw [wipe_of z2] at h5
    rw [wipe_of z4] at h6
    exact Rr.inj i j s t a z1 z3 h3 h4 h5 h6
/-- a turn's end: the block's own names are forgotten again -/
theorem go_wipe (g : Go (wipe σ vs) (wipeR ρ1 vs) Hb H σ2 ρ2 Hb' H') (e : wipe σ2 vs = wipe σ vs) : Go (wipe σ vs) (wipeR ρ1 vs) Hb H (wipe σ vs) (wipeR ρ2 vs) Hb' H' where
  b := g.b
  k := g.k
  f := g.f
  t := g.t
  o := fun a h => g.o a (own_wipe (by rw [e]; exact h))
  io := fun i s h1 h2 => by
    obtain ⟨e1, s', e2, e3⟩ := g.io i s h1 h2
    obtain ⟨_, z⟩ := wipeR_get h1
    exact ⟨rfl, s', by rw [wipeR_of z]; exact e2, e3⟩
  lk := fun i s h1 h2 => by
    obtain ⟨e1, e2⟩ := g.lk i s h1 h2
    obtain ⟨_, z⟩ := wipeR_get h1
    exact ⟨rfl, by rw [wipeR_of z]; exact e2⟩
/-- behind the block -/
theorem rest_state {ρe : R} (Rr : Rel K Hb H σ ρ1) (g : Go (wipe σ vs) (wipeR ρ1 vs) Hb H (wipe σ vs) ρe Hb' H') (Re : Rel K Hb' H' (wipe σ vs) ρe) (hv : ∀ i s, ρe[i]? = some (some s) → i ∉ vs) :
    Go σ ρ1 Hb H σ (restR ρ1 ρe vs) Hb' H' ∧ Rel K Hb' H' σ (restR ρ1 ρe vs) := by
  have lens : ρe.length = ρ1.length := by
    have := Re.len
    rw [wipe_length, Rr.len] at this
    exact this.symm
  have get : ∀ {i : Nat} {s : Slot}, (restR ρ1 ρe vs)[i]? = some (some s) → (i ∉ vs ∧ ρe[i]? = some (some s)) ∨ (i ∈ vs ∧ ρ1[i]? = some (some s)) := fun {i s} h => by
    rcases restR_get h with z | z | ⟨z1, z2⟩
    · exact .inl z
    · exact .inr z
    · rw [List.getElem?_eq_none_iff] at z2
      have := (List.getElem?_eq_some_iff.mp h).1
      rw [restR_len, lens] at this
      omega
  have inOwn : ∀ {i : Nat} {s : Slot} {a : Addr}, i ∈ vs → ρ1[i]? = some (some s) → s.m.isOwn = true → σ[i]? = some (some (.ref a)) → ¬ Own (wipe σ vs) (wipeR ρ1 vs) a := fun {i s a} hm h1 h2 h3 ⟨j, t, q1, q2, q3⟩ => by
    obtain ⟨z1, z2⟩ := wipeR_get q1
    rw [wipe_of z2] at q3
    have := Rr.inj i j s t a h1 z1 h2 q2 h3 q3
    subst this
    exact z2 hm
  refine ⟨⟨g.b, fun a o h n => g.k a o h fun z => n (own_wipe z), fun a h1 h2 => (g.f a h1 h2).imp id own_wipe, g.t, fun a ⟨i, s, h1, h2, h3⟩ => ?_, fun i s h1 h2 => ⟨rfl, ?_⟩, fun i s h1 h2 => ⟨rfl, ?_⟩⟩, ⟨by rw [restR_len, lens]; exact Rr.len, Re.ex, fun i s h1 h2 => ?_, fun i s h1 h2 => ?_, fun i j s t a h1 h2 h3 h4 h5 h6 => ?_⟩⟩
  · rcases get h1 with ⟨z1, z2⟩ | ⟨z1, z2⟩
    · rcases g.o a ⟨i, s, z2, h2, by rw [wipe_of z1]; exact h3⟩ with w | w
      · exact .inl (own_wipe w)
      · exact .inr w
    · exact .inl ⟨i, s, z2, h2, h3⟩
  · by_cases hm : i ∈ vs
    · exact ⟨s, restR_in hm h1 (by rw [lens]; exact (List.getElem?_eq_some_iff.mp h1).1), h2⟩
    · obtain ⟨_, s', e2, e3⟩ := g.io i s (by rw [wipeR_of hm]; exact h1) h2
      exact ⟨s', by rw [restR_of hm]; exact e2, e3⟩
  · by_cases hm : i ∈ vs
    · exact restR_in hm h1 (by rw [lens]; exact (List.getElem?_eq_some_iff.mp h1).1)
    · obtain ⟨_, e2⟩ := g.lk i s (by rw [wipeR_of hm]; exact h1) h2
      rw [restR_of hm]; exact e2
  · rcases get h1 with ⟨z1, z2⟩ | ⟨z1, z2⟩
    · obtain ⟨v, e1, e2⟩ := Re.val i s z2 h2
      exact ⟨v, by rw [← wipe_of z1]; exact e1, e2⟩
    · obtain ⟨v, e1, e2⟩ := Rr.val i s z2 h2
      exact ⟨v, e1, e2.mono g.b⟩
  · rcases get h1 with ⟨z1, z2⟩ | ⟨z1, z2⟩
    · obtain ⟨a, ws, xs, e1, e2⟩ := Re.own i s z2 h2
      exact ⟨a, ws, xs, by rw [← wipe_of z1]; exact e1, e2⟩
    · obtain ⟨a, ws, xs, e1, e2, e3, e4, e5⟩ := Rr.own i s z2 h2
      have no := inOwn z1 z2 h2 e1
      refine ⟨a, ws, xs, e1, e2, ?_, g.k a _ e4 no, e5.mono g.b⟩
      refine Classical.byContradiction fun q => ?_
      rcases g.f a e3 q with w | w
      · rw [e4] at w; cases w
      · exact no w
  · have cross : ∀ {i j : Nat} {s t : Slot}, i ∉ vs → ρe[i]? = some (some s) → s.m.isOwn = true → σ[i]? = some (some (.ref a)) → j ∈ vs → ρ1[j]? = some (some t) → t.m.isOwn = true → σ[j]? = some (some (.ref a)) → False := fun {i j s t} q1 q2 q3 q4 q5 q6 q7 q8 => by
      rcases g.o a ⟨i, s, q2, q3, by rw [wipe_of q1]; exact q4⟩ with w | w
      · exact inOwn q5 q6 q7 q8 w
      · obtain ⟨_, ws, z⟩ := Rr.owned ⟨j, t, q6, q7, q8⟩
        rw [w] at z; cases z
    rcases get h1 with ⟨z1, z2⟩ | ⟨z1, z2⟩
    · rcases get h2 with ⟨z3, z4⟩ | ⟨z3, z4⟩
      · exact Re.inj i j s t a z2 z4 h3 h4 (by rw [wipe_of z1]; exact h5) (by rw [wipe_of z3]; exact h6)
      · exact (cross z1 z2 h3 h5 z3 z4 h4 h6).elim
    · rcases get h2 with ⟨z3, z4⟩ | ⟨z3, z4⟩
      · exact (cross z3 z4 h4 h6 z1 z2 h3 h5).elim
      · exact Rr.inj i j s t a z2 z4 h3 h4 h5 h6
end

section
variable {K : PySem.W.Frag} {mg : Str → Option Value} {E : WX} {σ : L2.St} {H : Hp} {vs : List Nat}
/-- a step's end at an object that is neither frozen nor owned, and that was not at the base -/
theorem put_state {σ0 : L2.St} {ρ0 ρ : R} {Hb0 H0 Hb H : Hp} {σ : L2.St} {D : Addr} {o : HO} (g : Go σ0 ρ0 Hb0 H0 σ ρ Hb H) (Rr : Rel K Hb H σ ρ) (h0 : H0 D = none) (hb : Hb D = none) (ho : ¬ Own σ ρ D) :
    Go σ0 ρ0 Hb0 H0 σ ρ Hb (upd H D o) ∧ Rel K Hb (upd H D o) σ ρ := by
  have ne : ∀ {a : Addr} {x : HO}, Hb a = some x → a ≠ D := fun h e => by rw [e, hb] at h; cases h
  refine ⟨⟨g.b, fun a x h n => ?_, g.f, fun a h => ?_, g.o, g.io, g.lk⟩, ⟨Rr.len, fun a x h => ?_, Rr.val, fun i s h1 h2 => ?_, Rr.inj⟩⟩
  · rw [upd_ne (fun e => by rw [e, h0] at h; cases h)]
    exact g.k a x h n
  · by_cases e : a = D
    · rw [e, upd_same]; simp
    · rw [upd_ne e]; exact g.t a h
  · rw [upd_ne (ne h)]; exact Rr.ex a x h
  · obtain ⟨a, ws, xs, e1, e2, e3, e4, e5⟩ := Rr.own i s h1 h2
    exact ⟨a, ws, xs, e1, e2, e3, by rw [upd_ne fun e => ho ⟨i, s, h1, h2, by rw [← e]; exact e1⟩]; exact e4, e5⟩
theorem wipeR_no {ρ : R} : ∀ i s, (wipeR ρ vs)[i]? = some (some s) → i ∉ vs := fun _ _ h => (wipeR_get h).2
theorem lc_read {it : M Itd} {g : D → M Unit} {t : M Bool} {e : M Res} {Q : VK} (w : tE K mg E (mLc it g t e vs) σ H Q) :
    tLc (tI K mg E (chk it)) (tGt K mg E0W (fun σ σ' => wipe σ' vs = wipe σ vs) g) (tT K mg E0W t) (tE K mg E0W e) vs σ H Q := by
  obtain ⟨Hb, ρ, Rr, out, ρ2, er, h1, h2⟩ := w
  rcases bnd_some er with ⟨I, ρ1, e1, e2⟩ | ⟨x, ρ1, e1, e2⟩
  · obtain ⟨nd, wf⟩ := (chk_ok it).nd ρ I ρ1 e1
    refine ⟨Hb, ρ, Rr, _, _, e1, fun I' q σ1 Hb1 H1 g1 R1 es hd J wk => ?_, fun x q => by cases q⟩
    cases q
    subst es
    intro D hD
    -- the checks
    by_cases hv : (I.lk.all fun p => !vs.contains p.1) = true
    case neg => rw [if_neg hv] at e2; cases e2
    rw [if_pos hv] at e2
    have hv' : ∀ p ∈ I.lk, p.1 ∉ vs := fun p hp z => by
      have := List.all_eq_true.mp hv p hp
      simp [z] at this
    have hdw : Held σ1 I (wipe σ1 vs) (wipeR ρ1 vs) := fun p hp => by
      obtain ⟨z1, m, z2, z3⟩ := hd p hp
      exact ⟨by rw [wipe_of (hv' p hp)], m, z2, by rw [wipeR_of (hv' p hp)]; exact z3⟩
    generalize hl : loopC g t e vs I.items (wipeR ρ1 vs) [] = lr at e2
    cases lr with
    | none => cases e2
    | some pr =>
    obtain ⟨xs, ρe⟩ := pr
    have Rw := rel_wipe (vs := vs) R1
    have hDb : Hb1 D = none := by
      cases z : Hb1 D with
      | none => rfl
      | some o => have := R1.ex D o z; rw [hD] at this; cases this
    have noOwn : ∀ {σ' : L2.St} {ρ' : R} {H' : Hp}, Rel K Hb1 H1 σ' ρ' → ¬ Own σ' ρ' D := fun Rz z => by
      obtain ⟨_, ws, q⟩ := Rz.owned z
      rw [hD] at q; cases q
    refine ⟨fun i m H' => m = I.items.length - i ∧ i ≤ I.items.length ∧ ∃ Hb' ρ' avs acc, Rel K Hb' H' (wipe σ1 vs) ρ' ∧ Go (wipe σ1 vs) (wipeR ρ1 vs) Hb1 H1 (wipe σ1 vs) ρ' Hb' H' ∧ (∀ i s, ρ'[i]? = some (some s) → i ∉ vs) ∧
      H' D = some (.lst avs) ∧ RpAll K Hb' avs acc ∧ Hb' D = none ∧ ¬ Own (wipe σ1 vs) ρ' D ∧ loopC g t e vs (I.items.drop i) ρ' acc = some (xs, ρe), ⟨_, rfl, Nat.zero_le _, ?_⟩, ?_⟩
    · obtain ⟨q1, q2⟩ := put_state (o := .lst []) (Go.refl (σ := wipe σ1 vs) (ρ := wipeR ρ1 vs)) Rw hD hDb (noOwn (H' := H1) Rw)
      exact ⟨Hb1, wipeR ρ1 vs, [], [], q2, q1, wipeR_no, upd_same, .nil, hDb, noOwn (H' := H1) Rw, by rw [List.drop_zero]; exact hl⟩
    rintro i m H' ⟨rfl, hi, Hb', ρ', avs, acc, R', g', nv, hDl, ra, hDb', hDo, e'⟩
    have hh := held_go g' hdw
    obtain ⟨wgo, wstop, wy⟩ := wk.at' (wipe σ1 vs) ρ' Hb' H' R' g'.b hh
    by_cases c : i < I.items.length
    · refine .inr ⟨wgo i c, fun H3 => i + 1 ≤ I.items.length ∧ ∃ Hb' ρ' avs acc, Rel K Hb' H3 (wipe σ1 vs) ρ' ∧ Go (wipe σ1 vs) (wipeR ρ1 vs) Hb1 H1 (wipe σ1 vs) ρ' Hb' H3 ∧ (∀ i s, ρ'[i]? = some (some s) → i ∉ vs) ∧
        H3 D = some (.lst avs) ∧ RpAll K Hb' avs acc ∧ Hb' D = none ∧ ¬ Own (wipe σ1 vs) ρ' D ∧ loopC g t e vs (I.items.drop (i + 1)) ρ' acc = some (xs, ρe), fun H3 q => ⟨I.items.length - (i + 1), by omega, rfl, q⟩, fun x H'' y => ?_⟩
      obtain ⟨Hb'', n, d, hd', rp⟩ := wy i x H'' c y
      have ed : I.items.drop i = d :: I.items.drop (i + 1) := by
        rw [List.drop_eq_getElem_cons c]
        rw [List.getElem?_eq_getElem c] at hd'
        cases hd'
        rfl
      rw [ed] at e'
      have gn := n.go (σ := wipe σ1 vs) (ρ := ρ')
      have gn' := g'.trans gn
      -- D over a step
      have keepD : ∀ {σa σb : L2.St} {ρa ρb : R} {Ha Hc Hba Hbc : Hp} {o : HO}, Go σa ρa Hba Ha σb ρb Hbc Hc → Ha D = some o → Hba D = none → ¬ Own σa ρa D → Hc D = some o ∧ Hbc D = none ∧ ¬ Own σb ρb D := fun {σa σb ρa ρb Ha Hc Hba Hbc o} gg z1 z2 z3 => by
        refine ⟨gg.k D o z1 z3, ?_, fun z => ?_⟩
        · refine Classical.byContradiction fun q => ?_
          rcases gg.f D z2 q with u | u
          · rw [z1] at u; cases u
          · exact z3 u
        · rcases gg.o D z with u | u
          · exact z3 u
          · rw [z1] at u; cases u
      unfold loopC at e'
      split at e'
      case h_2 => cases e'
      rename_i ua ρa ea
      refine ⟨Hb'', ρ', d, n.rel R', rp, _, _, ea, fun u' q σ2 Hb2 H2 g2 R2 w2 => ?_, fun x q => by cases q⟩
      have w2 : wipe σ2 vs = wipe σ1 vs := by rw [w2, wipe_idem]
      have ga := gn.trans g2
      refine ⟨w2, Hb2, ρa, R2, ?_⟩
      split at e'
      case h_3 => cases e'
      · rename_i ρb eb
        refine ⟨_, _, eb, fun b q σ3 Hb3 H3 g3 R3 es => ?_, fun x q => by cases q⟩
        cases q
        subst es
        rw [if_pos rfl]
        split at e'
        case h_2 => cases e'
        rename_i y ρc ec
        split at e'
        case isFalse => cases e'
        rename_i csz
        have S4 : Sat K mg E0W σ3 Hb3 H3 ρb (bnd (mVal e) fun d => ret d) fun d' σ' ρ' Hb' H' => d' = y ∧ ρ' = ρc := by
          refine ⟨.ok y, ρc, ?_, fun a q => ?_, fun x q => by cases q⟩
          · unfold bnd; rw [ec]; rfl
          · cases q; exact fun _ _ _ _ _ => ⟨rfl, rfl⟩
        refine tE_mono (e_val R3 S4) fun v H4 ⟨Hb4, ρ4, d4, R4, rp4, g4, S5⟩ => ?_
        obtain ⟨rfl, rfl⟩ := S5.ret R4 g4
        have gb := (ga.trans g3).trans g4
        obtain ⟨k1, k2, k3⟩ := keepD gb hDl hDb' hDo
        have raa := ra.mono gb.b
        refine ⟨avs, k1, by rw [raa.length]; exact csz, c, ?_⟩
        have gfull := go_wipe (g'.trans gb) w2
        have Rfull : Rel K Hb4 H4 (wipe σ1 vs) (wipeR ρ4 vs) := by rw [← w2]; exact rel_wipe R4
        have no4 : ¬ Own (wipe σ1 vs) (wipeR ρ4 vs) D := fun z => k3 (own_wipe (by rw [w2]; exact z))
        obtain ⟨q1, q2⟩ := put_state (o := .lst (avs ++ [v])) gfull Rfull hD k2 no4
        exact ⟨Hb4, wipeR ρ4 vs, avs ++ [v], acc ++ [d4], q2, q1, wipeR_no, upd_same, raa.append (.cons rp4 .nil), k2, no4, e'⟩
      · rename_i ρb eb
        refine ⟨_, _, eb, fun b q σ3 Hb3 H3 g3 R3 es => ?_, fun x q => by cases q⟩
        cases q
        subst es
        rw [if_neg (by decide)]
        have gb := ga.trans g3
        obtain ⟨k1, k2, k3⟩ := keepD gb hDl hDb' hDo
        have gfull := go_wipe (g'.trans gb) w2
        have Rfull : Rel K Hb3 H3 (wipe σ1 vs) (wipeR ρb vs) := by rw [← w2]; exact rel_wipe R3
        have no4 : ¬ Own (wipe σ1 vs) (wipeR ρb vs) D := fun z => k3 (own_wipe (by rw [w2]; exact z))
        exact ⟨c, Hb3, wipeR ρb vs, avs, acc, Rfull, gfull, wipeR_no, k1, ra.mono gb.b, k2, no4, e'⟩
    · have ei : i = I.items.length := by omega
      subst ei
      refine .inl ⟨wstop, ?_⟩
      rw [List.drop_length] at e'
      cases e'
      obtain ⟨gr, Rz⟩ := rest_state R1 g' R' nv
      have hh2 := held_go gr hd
      rcases bnd_some e2 with ⟨u, ρ3, f1, f2⟩ | ⟨x, ρ3, f1, f2⟩
      · obtain ⟨_, z2, z3, z4⟩ := unlock_go (g1.trans gr) Rz wf (fun p hp => (hh2 p hp).2) nd f1
        cases f2
        refine h1 _ rfl σ1 Hb' H' z2 z3 rfl (.ref D) ⟨D, avs, rfl, hDb', hDl, ra, ?_, fun z => ?_⟩
        · exact Classical.byContradiction fun z => g1.t D z hD
        · have hz := z4 D z
          rcases gr.o D hz with q | q
          · exact noOwn (H' := H1) R1 q
          · obtain ⟨i, s, q1, q2, q3⟩ := hz
            rcases restR_get q1 with ⟨p1, p2⟩ | ⟨p1, p2⟩ | ⟨p1, p2⟩
            · exact hDo ⟨i, s, p2, q2, by rw [wipe_of p1]; exact q3⟩
            · exact noOwn (H' := H1) R1 ⟨i, s, p2, q2, q3⟩
            · rw [List.getElem?_eq_none_iff] at p2
              have l1 := R1.len
              have := (List.getElem?_eq_some_iff.mp q3).1
              omega
      · obtain ⟨z1, _⟩ := unlock_go (g1.trans gr) Rz wf (fun p hp => (hh2 p hp).2) nd f1
        cases z1
  · cases e2
    refine ⟨Hb, ρ, Rr, _, _, e1, fun I' q => (by cases q), fun x' q σ1 c d Hb1 H1 g1 R1 xr => ?_⟩
    cases q
    exact h2 _ rfl σ1 c d Hb1 H1 g1 R1 xr
end
section
variable {X : Cx} {E : WX} {elt tg iter : Expr} {scope : Scope} {own : List (Str × Nat)} {pos : Pos} {mi : M Itd} {g : D → M Unit} {me : M Res} {mt : M Bool} {ifs : List Expr}
theorem me_lc (hc : X.calm = true) (hN : X.N.Nodup) (hi : PI X tg iter (tI X.K X.mg E mi)) (ok : BlkOk X.N X.env.scope scope own)
    (hg : ∀ (s : Shared) (H : Hp) (C : Addr) (cl : List (Str × Addr)) (fp : List Addr), PG (X.blk s H scope (compEnvC scope cl C X.env) fp) tg (tGt X.K X.mg E0W (fun σ σ' => wipe σ' (own.map (·.2)) = wipe σ (own.map (·.2))) g)) (ht : ∀ (s : Shared) (H : Hp) (C : Addr) (cl : List (Str × Addr)) (fp : List Addr), PTs (X.blk s H scope (compEnvC scope cl C X.env) fp) ifs (tT X.K X.mg E0W mt))
    (he : ∀ (s : Shared) (H : Hp) (C : Addr) (cl : List (Str × Addr)) (fp : List Addr), PE (X.blk s H scope (compEnvC scope cl C X.env) fp) elt (tE X.K X.mg E0W me)) (hs : ∀ x, foldedSetIterable iter X.env x = pure x := by intro _; rfl) :
    PE X (.ListComp elt [⟨tg, iter, ifs, 0⟩] scope pos) (tE X.K X.mg E (mLc mi g mt me (own.map (·.2)))) :=
  (pe_lc hc hN (PI_imp hi fun σ H Rc w => tI_chk w) ok hg ht he hs).imp fun σ H Q w => lc_read w
theorem mts_nil : PTs X [] (tT X.K X.mg E0W (ret true)) := ⟨fun pins s σ H Q I h => pts_nil.run pins s σ H Q I (by
  obtain ⟨Hb, ρ, Rr, S⟩ := h
  exact S.ret Rr rfl)⟩
theorem mts_one {c : Expr} (h : PT X c (tT X.K X.mg E0W mt)) : PTs X [c] (tT X.K X.mg E0W mt) := pts_one h
theorem ms_setLc {i : Nat} {y : Str} {py spos : Pos} (hc : X.calm = true) (hN : X.N.Nodup) (hy : X.N[i]? = some y) (hyl : X.env.scope.names.lookup y = some .local)
    (hsw : swapsWith (.ListComp elt [⟨tg, iter, ifs, 0⟩] scope pos) (some (.Name y py)) spos.line X.env = pure true) (hi : PI X tg iter (tI X.K X.mg E mi)) (ok : BlkOk X.N X.env.scope scope own)
    (hg : ∀ (s : Shared) (H : Hp) (C : Addr) (cl : List (Str × Addr)) (fp : List Addr), PG (X.blk s H scope (compEnvC scope cl C X.env) fp) tg (tGt X.K X.mg E0W (fun σ σ' => wipe σ' (own.map (·.2)) = wipe σ (own.map (·.2))) g)) (ht : ∀ (s : Shared) (H : Hp) (C : Addr) (cl : List (Str × Addr)) (fp : List Addr), PTs (X.blk s H scope (compEnvC scope cl C X.env) fp) ifs (tT X.K X.mg E0W mt))
    (he : ∀ (s : Shared) (H : Hp) (C : Addr) (cl : List (Str × Addr)) (fp : List Addr), PE (X.blk s H scope (compEnvC scope cl C X.env) fp) elt (tE X.K X.mg E0W me)) (hs : ∀ x, foldedSetIterable iter X.env x = pure x := by intro _; rfl) :
    PS X (.Assign [.Name y py] (.ListComp elt [⟨tg, iter, ifs, 0⟩] scope pos) spos) (tS X.K X.mg E (mAsg i (mLc mi g mt me (own.map (·.2))))) :=
  (ps_setLc hc hN hy hyl hsw (PI_imp hi fun σ H Rc w => tI_chk w) ok hg ht he hs).imp fun De σ H w => lc_read (asg_read w)
end
end Mi

/-! Mi: repr, isinstance, lcm, reversed slices, in. -/
namespace Mi
open PySem L2 Evl PySem.Spec PyProof.Rows
section
variable {X : Cx} {K : PySem.W.Frag}
theorem lay_noDict : ∀ {d : D}, d.canLay0 = true → d.hasDict = false
  | .none, _ => rfl
  | .bool _, _ => rfl
  | .int _, _ => rfl
  | .str _, _ => rfl
  | .list xs, h => by
    have h : PyData.canLayAll0 xs = true := by simpa only [PyData.canLay0] using h
    show PyData.hasDictAll xs = false
    exact go h
  | .tuple xs, h => by
    have h : PyData.canLayAll0 xs = true := by simpa only [PyData.canLay0] using h
    show PyData.hasDictAll xs = false
    exact go h
  | .dict _, h => by simp [PyData.canLay0] at h
where
  go : ∀ {xs : List D}, PyData.canLayAll0 xs = true → PyData.hasDictAll xs = false
  | [], _ => rfl
  | x :: xs, h => by
    simp only [PyData.canLayAll0, Bool.and_eq_true] at h
    simp only [PyData.hasDictAll, Bool.or_eq_false_iff]
    exact ⟨lay_noDict h.1, go h.2⟩
theorem cr_repr (hg : X.A.guards = some []) (hu : X.A.units + 70 < cLine) : CallR X (.builtin "repr") (rRepr X.K) := by
  intro pins s σ H vs us Q I r h
  obtain ⟨v, d, rfl, hd, ok, q⟩ := h
  obtain ⟨u, rfl, rv⟩ := vals1 r
  unfold reprOk at ok
  simp only [Bool.and_eq_true, decide_eq_true_eq] at ok
  obtain ⟨⟨⟨o1, o2⟩, o3⟩, o4⟩ := ok
  have fin : ∀ (h' : Heap) (t tk : Nat), (∀ b o, s.heap.get? b = some o → h'.get? b = some o) → EP X pins σ Q (.str d.shown t) { s with heap := h', toks := tk } := fun h' t tk k => ⟨.str _, H, I.kept k, ⟨t, rfl⟩, q⟩
  have tok : EP X pins σ Q (.str d.shown s.toks) { s with toks := s.toks + 1 } := ⟨.str _, H, I.tok _, ⟨_, rfl⟩, q⟩
  obtain ⟨as, rd⟩ := Dp.reads I d v u hd rv
  have nd := lay_noDict o1
  cases hd with
  | non => cases rd; exact PySem.P.repr_of_none tok
  | bl b => cases rd; exact PySem.P.repr_of_bool tok
  | int i => cases rd; exact PySem.P.repr_of_int (by simpa [PyData.showable] using o2) tok
  | str x => cases rd; exact PySem.P.repr_of_str tok o4
  | lst _ _ =>
    cases rd with
    | list h1 h2 h3 h4 => exact repr_of_reads' (.list h1 h2 h3 h4) o2 (fun z => by rw [nd] at z; cases z) hg (by omega) (fun _ _ z => z) (fun h' u tk k => fin h' u tk k) o4
  | tup _ _ =>
    cases rd with
    | tuple h1 h2 h3 h4 => exact repr_of_reads' (.tuple h1 h2 h3 h4) o2 (fun z => by rw [nd] at z; cases z) hg (by omega) (fun _ _ z => z) (fun h' u tk k => fin h' u tk k) o4
end

/-! ### isinstance -/
def tyD : D → String
  | .none => "NoneType"
  | .bool _ => "bool"
  | .int _ => "int"
  | .str _ => "str"
  | .list _ => "list"
  | .tuple _ => "tuple"
  | .dict _ => "dict"
/-- of the type T (int, bool, str, list, tuple, dict) -/
def isK (T : String) (d : D) : Bool := T == tyD d || (T == "int" && tyD d == "bool")
def kinds : List String := ["int", "bool", "str", "list", "tuple", "dict"]
theorem kit_all : ∀ T ∈ kinds, ∀ a ∈ "NoneType" :: kinds, kitB a T = some (T == a || (T == "int" && a == "bool")) := by decide +kernel
theorem tyD_mem (d : D) : tyD d ∈ "NoneType" :: kinds := by cases d <;> simp [tyD, kinds]
theorem kit_isK {T : String} (h : kinds.contains T = true) (d : D) : kitB (tyD d) T = some (isK T d) := kit_all T (by simpa using h) _ (tyD_mem d)
theorem tyx_of {K : PySem.W.Frag} {H : Hp} {v : V} {d : D} (h : Rp K H v d) : TyX K H v (.type (tyD d)) := by
  cases h with
  | non => exact .base .non
  | bl b => exact .base (.bl b)
  | int i => exact .base (.int i)
  | str x => exact .base (.str x)
  | lst s _ =>
    rcases s with (q | ⟨o, q⟩) | ⟨o, its, n, q, c, _⟩
    · exact .base (.lst q)
    · exact .base (.frz q)
    · exact .kList q c
  | tup s _ =>
    rcases s with (q | ⟨o, q⟩) | ⟨o, its, n, q, c, _⟩
    · exact .base (.tup q)
    · exact .fTuple q
    · exact .kTuple q c
  | dct h _ =>
    rcases h with q | ⟨o, q⟩
    · exact .base (.dK q)
    · exact .fDict q
def isiD (Ts : List String) (d : D) : Option Res := if Ts.all fun T => kinds.contains T then some (.val (.bool (Ts.any fun T => isK T d))) else none
def mIsi (Ts : List String) (m : M Res) : M Res := bnd (thaw m) fun x => fun ρ => match look x ρ with
  | some d => match isiD Ts d with
    | some r => some (.ok r, ρ)
    | none => none
  | none => none
theorem isi_kitAny {K : PySem.W.Frag} {d : D} : ∀ {Ts : List String}, Ts.all (fun T => kinds.contains T) = true → PySem.W.kitAny K (.type (tyD d)) (Ts.map Value.type) = some (Ts.any fun T => isK T d)
  | [], _ => kitAny_nil
  | T :: Ts, h => by
    rw [List.all_cons, Bool.and_eq_true] at h
    refine kitAny_cons (kit_ty (kit_isK h.1 d)) (fun e => ?_) (fun e => by rw [List.any_cons, e, Bool.true_or])
    rw [isi_kitAny h.2, List.any_cons, e, Bool.false_or]
theorem cls_pair : ∀ Ts : List String, Paired ClsV (Ts.map V.ty) (Ts.map Value.type)
  | [] => .nil
  | T :: Ts => .cons (.ty T) (cls_pair Ts)
section
variable {X : Cx} {E : WX} {e : Expr} {p p1 p2 pos : Pos} {m : M Res} {T : Str}
theorem isi_read {σ : L2.St} {H : Hp} {Q : VK} {Ts : List String} (w : tE X.K X.mg E (mIsi Ts m) σ H Q) : tE X.K X.mg E m σ H fun v H1 => (Ts.all fun T => kinds.contains T) = true ∧ ∃ d, TyX X.K H1 v (.type (tyD d)) ∧ (∀ p o, H1 p = none → TyX X.K (upd H1 p o) v (.type (tyD d))) ∧ Q (.bl (Ts.any fun T => isK T d)) H1 ∧ ∀ p o, H1 p = none → Q (.bl (Ts.any fun T => isK T d)) (upd H1 p o) := by
  obtain ⟨Hb, ρ, R, S⟩ := w
  refine tE_mono (e_thaw R S) fun v H1 ⟨Hb1, ρ1, x, R1, rx, g1, out, ρ', eo, h1, h2⟩ => ?_
  dsimp only at eo
  split at eo
  · rename_i d hd
    unfold isiD at eo
    split at eo
    · rename_i r hr
      split at hr
      · rename_i c
        cases hr
        cases eo
        have tp := repA_top R1 rx hd
        refine ⟨c, d, tyx_of (tp.rp R1.ex), fun p o hp => ?_, h1 _ rfl σ Hb1 H1 Go.refl R1 g1 rfl _ (.bl _), fun p o hp => ?_⟩
        · have n := New.mut (o := o) R1.ex hp
          exact tyx_of ((tp.mono n).rp (n.rel R1).ex)
        · have n := New.mut (o := o) R1.ex hp
          exact h1 _ rfl σ _ _ n.go (n.rel R1) (g1.trans n.go) rfl _ (.bl _)
      · cases hr
    · cases eo
  · cases eo
theorem me_isi1 (hg : Gl X "isinstance") (hm : X.mg "isinstance" = none) (hgT : Gl X T) (hmT : X.mg T = none) (S : String) (hv : bootBuiltins T = some (.type S)) (he : PE X e (tE X.K X.mg E m)) (hn : T ≠ "__name__" := by decide) (hd : (T == ("__debug__" : Str)) = false := by decide)
    (hs : starEach [e, .Name T p2] X.env = [(false, eval e X.env), (false, eval (.Name T p2) X.env)] := by rfl) (hs2 : starEach [.Name T p2] X.env = [(false, eval (.Name T p2) X.env)] := by rfl) (hpl : (backTo pos (starEach [.Name T p2] X.env)).any (·.1) = false := by rfl) :
    PE X (.Call (.Name "isinstance" p) [e, .Name T p2] [] pos) (tE X.K X.mg E (mIsi [S] m)) :=
  (pe_callB call_isi hg hm rfl (pa_cons he (pa_cons (pe_bltn hgT hmT hv (v := .ty S) rfl hn hd) pa_nil hs2) hs) (by decide) (by decide) hs hpl).imp fun σ H Q w => by
    refine tE_mono (isi_read w) fun v H1 ⟨c, d, ty, _, q, _⟩ => ?_
    have k := kit_isK (T := S) (by simpa using c) d
    refine ⟨v, .ty S, _, .type S, _, rfl, .ty S, ty, kit_ty k, ?_⟩
    simpa using q
theorem me_isi2 {T2 : Str} {p3 p4 : Pos} {kk : Nat} (hg : Gl X "isinstance") (hm : X.mg "isinstance" = none) (hgT : Gl X T) (hmT : X.mg T = none) (S : String) (hv : bootBuiltins T = some (.type S)) (hgT2 : Gl X T2) (hmT2 : X.mg T2 = none) (S2 : String) (hv2 : bootBuiltins T2 = some (.type S2)) (he : PE X e (tE X.K X.mg E m)) (hn : T ≠ "__name__" := by decide) (hd : (T == ("__debug__" : Str)) = false := by decide) (hn2 : T2 ≠ "__name__" := by decide) (hd2 : (T2 == ("__debug__" : Str)) = false := by decide)
    (hs : starEach [e, .Tuple [.Name T p2, .Name T2 p3] kk p4] X.env = [(false, eval e X.env), (false, eval (.Tuple [.Name T p2, .Name T2 p3] kk p4) X.env)] := by rfl) (hs2 : starEach [.Tuple [.Name T p2, .Name T2 p3] kk p4] X.env = [(false, eval (.Tuple [.Name T p2, .Name T2 p3] kk p4) X.env)] := by rfl) (hpl : (backTo pos (starEach [.Tuple [.Name T p2, .Name T2 p3] kk p4] X.env)).any (·.1) = false := by rfl)
    (hs3 : starEach [.Name T p2, .Name T2 p3] X.env = [(false, eval (.Name T p2) X.env), (false, eval (.Name T2 p3) X.env)] := by rfl) (hs4 : starEach [.Name T2 p3] X.env = [(false, eval (.Name T2 p3) X.env)] := by rfl) :
    PE X (.Call (.Name "isinstance" p) [e, .Tuple [.Name T p2, .Name T2 p3] kk p4] [] pos) (tE X.K X.mg E (mIsi [S, S2] m)) :=
  (pe_callB call_isiT hg hm rfl (pa_cons he (pa_cons (pe_tup (pa_cons (pe_bltn hgT hmT hv (v := .ty S) rfl hn hd) (pa_cons (pe_bltn hgT2 hmT2 hv2 (v := .ty S2) rfl hn2 hd2) pa_nil hs4) hs3)) pa_nil hs2) hs) (by decide) (by decide) hs hpl).imp fun σ H Q w => by
    refine tE_mono (isi_read w) fun v H1 ⟨c, d, _, ty, _, q⟩ => ?_
    have k := isi_kitAny (K := X.K) (d := d) (Ts := [S, S2]) c
    refine ⟨by show 2 ≤ sizeLine; decide, fun p hp => ⟨v, p, [.ty S, .ty S2], _, [.type S, .type S2], _, rfl, upd_same, cls_pair [S, S2], ty p _ hp, k, ?_⟩⟩
    exact q p _ hp
end
/-! ### lcm, reversed lists, in -/
def lcmD : List D → Option Res
  | [.int i, .int j] => if i.natAbs.log2 < 9000 ∧ j.natAbs.log2 < 9000 then some (.val (.int ((Nat.lcm i.natAbs j.natAbs : Nat) : Int))) else none
  | _ => none
def rLcm : List V → Hp → VK → Prop := fun vs H Q => ∃ a b : Int, vs = [.int a, .int b] ∧ a.natAbs.log2 < 9000 ∧ b.natAbs.log2 < 9000 ∧ Q (.int ((Nat.lcm a.natAbs b.natAbs : Nat) : Int)) H
theorem log2_max {a b n : Nat} (ha : a.log2 < n) (hb : b.log2 < n) : (max a b).log2 < n := by
  rcases Nat.le_total a b with h | h
  · rw [Nat.max_eq_right h]; exact hb
  · rw [Nat.max_eq_left h]; exact ha
theorem cr_lcm {X : Cx} : CallR X (.builtin "math.lcm") rLcm := by
  intro pins s σ H vs us Q I r h
  obtain ⟨a, b, rfl, ha, hb, q⟩ := h
  obtain ⟨t, u, rfl⟩ := Vals.int2 r
  have h1 : (max 1 a.natAbs).log2 < 9000 := log2_max (by decide) ha
  have h2 : (max a.natAbs b.natAbs).log2 < 9000 := log2_max ha hb
  have hl : Nat.lcm 1 a.natAbs = a.natAbs := Nat.lcm_one_left _
  have hz : ((((Nat.lcm 1 a.natAbs).lcm b.natAbs : Nat) : Int)).natAbs.log2 < bitsLine := by
    rw [hl, Int.natAbs_natCast]
    have l1 : a.natAbs < 2 ^ 9000 := by
      rcases Nat.eq_zero_or_pos a.natAbs with z | z
      · rw [z]; exact Nat.two_pow_pos _
      · exact (Nat.log2_lt (Nat.pos_iff_ne_zero.mp z)).mp ha
    have l2 : b.natAbs < 2 ^ 9000 := by
      rcases Nat.eq_zero_or_pos b.natAbs with z | z
      · rw [z]; exact Nat.two_pow_pos _
      · exact (Nat.log2_lt (Nat.pos_iff_ne_zero.mp z)).mp hb
    have l3 : Nat.lcm a.natAbs b.natAbs ≤ a.natAbs * b.natAbs := Nat.div_le_self _ _
    have l4 : a.natAbs * b.natAbs < 2 ^ 9000 * 2 ^ 9000 := by
      rcases Nat.eq_zero_or_pos b.natAbs with z | z
      · rw [z, Nat.mul_zero]; exact Nat.mul_pos (Nat.two_pow_pos _) (Nat.two_pow_pos _)
      · exact Nat.mul_lt_mul_of_lt_of_le l1 (Nat.le_of_lt l2) (Nat.two_pow_pos _)
    rw [← Nat.pow_add] at l4
    rcases Nat.eq_zero_or_pos (Nat.lcm a.natAbs b.natAbs) with z | z
    · rw [z]; decide
    · exact Nat.lt_of_lt_of_le ((Nat.log2_lt (Nat.pos_iff_ne_zero.mp z)).mpr (Nat.lt_of_le_of_lt l3 l4)) (by decide)
  refine call_function_meets PySem.W.MGF.kind_lcm PySem.W.MGF.plain_lcm PySem.W.MGF.entry_lcm (PySem.W.MGF.args_lcm _ _) (PySem.W.mg_run_lcm a t b u (by omega) (by omega) hz).meets ?_
  rw [hl]
  exact ⟨.int _, H, I.tok _, ⟨_, rfl⟩, q⟩
theorem cal_lcm {K : PySem.W.Frag} : Cal K rLcm lcmD := by
  intro Hb H vs ds res Q ex hx hf k
  unfold lcmD at hf
  split at hf
  · split at hf
    · rename_i c
      cases hf
      obtain ⟨v, w, rfl, t1, t2⟩ := tops2 hx
      cases t1.int
      cases t2.int
      exact ⟨_, _, rfl, c.1, c.2, k _ Hb H (New.refl ex) (.int _)⟩
    · cases hf
  · cases hf
/-- xs[::-1] of a list -/
def revD : D → Option Res
  | .list xs => some (.fresh xs.reverse)
  | _ => none
theorem me_rev {X : Cx} {E : WX} {e : Expr} {k : Nat} {p1 p2 p3 pos : Pos} {m : M Res} (he : PE X e (tE X.K X.mg E m)) : PE X (.Subscript e (.Slice none none (some (.UnaryOp .USub (.Constant (.int 1) k p1) p2)) p3) pos) (tE X.K X.mg E (mUn revD m)) := (pe_revL he).imp fun σ H Q w => by
  refine tE_mono (un_read w) fun v H1 ⟨Hb, d, res, ex, h1, h2, h3⟩ => ?_
  unfold revD at h2
  split at h2
  · rename_i xs
    cases h2
    obtain ⟨a, vs, rfl, s, r⟩ := h1.list ex
    exact ⟨a, vs, rfl, s, fun p hp => h3 _ Hb _ (New.mut ex hp) ⟨p, _, rfl, fresh_back ex hp, upd_same, r.rev, hp⟩⟩
  · cases h2
end Mi

/-! Mi: the end of a law. -/
namespace Mi
open PySem L2 Evl PySem.Spec PyProof.Rows

/-- the promise of a law's function over data -/
def LawOk (F : Fn) : Prop := ∀ ns : List Int, ns.length ≤ 63 → (∀ z ∈ ns, Builtin.Int.intBits z ≤ 1048576) → ∃ y, F [.list (ns.map PyData.int)] = some (.ok (.val (.bool true)), y)
theorem rp_ints {K : PySem.W.Frag} {H : Hp} : ∀ ns : List Int, RpAll K H (ns.map V.int) (ns.map PyData.int)
  | [] => .nil
  | n :: ns => .cons (.int n) (rp_ints ns)
theorem end_sp {K : PySem.W.Frag} {mg : Str → Option Value} {F : Fn} {H : Hp} {a : Addr} {ns : List Int} {y : D} (hF : F [.list (ns.map PyData.int)] = some (.ok (.val (.bool true)), y)) (hS : SqL K H a (ns.map V.int)) :
    spF K mg 1 none F [.ref a] H (fun v _ => v = .bl true) fun _ _ _ => False := by
  refine ⟨rfl, H, [.list (ns.map PyData.int)], Ex.refl _, ⟨rfl, fun i d hi _ => ?_, fun i h => by cases h⟩, _, y, hF, fun r q v Hb' H' _ _ rr => ?_, fun e q => by cases q⟩
  · cases i with
    | zero =>
      cases hi
      exact ⟨_, rfl, .lst hS (rp_ints ns)⟩
    | succ i => simp at hi
  · cases q
    exact Rp.bool_inv rr
/-- a frame for the script alone: its heap of tracked objects -/
structure Lone (P : Program) (w : World) (K : PySem.W.Frag) (h : Heap) (a : Addr) (ns : List Int) (H : Hp) : Prop where
  only : ∀ b u, H b = some u → b = a ∧ K.lookup a = none ∧ ∃ o xs, u = .frz o (.lst xs)
  seq : SqL K H a (ns.map V.int)
  ok : HOk P w H h
theorem lone {P : Program} {w : World} {K : PySem.W.Frag} {h : Heap} {a : Addr} {vs : List Value} {ns : List Int} (KX : K.In h) (ha : h.get? a = some { cls := .type "list", data := .seq vs.toArray }) (hi : IntsAre vs ns) (hl : ns.length ≤ sizeLine) : ∃ H, Lone P w K h a ns H := by
  have rv : Vals (ns.map V.int) vs := vals_ints hi
  cases hk : K.lookup a with
  | some o =>
    have e := KX a o hk
    rw [ha] at e
    cases e
    refine ⟨fun _ => none, fun b u z => (nomatch z), .inr ⟨_, vs.toArray, _, hk, rfl, rfl, rfl, ?_, by simpa using rv⟩, fun b u z => (nomatch z)⟩
    rw [List.size_toArray, hi.length]
    exact hl
  | none =>
    have at_a : ∀ {b : Addr} {u : HO}, (if b = a then some (HO.frz { cls := .type "list", data := .seq vs.toArray } (.lst (ns.map V.int))) else none) = some u → b = a ∧ u = HO.frz { cls := .type "list", data := .seq vs.toArray } (.lst (ns.map V.int)) := fun {b u} z => by
      split at z
      · rename_i e
        exact ⟨e, (Option.some.inj z).symm⟩
      · cases z
    refine ⟨fun b => if b = a then some (.frz { cls := .type "list", data := .seq vs.toArray } (.lst (ns.map V.int))) else none, fun b u z => ?_, .inl (.inr ⟨_, if_pos rfl⟩), fun b u z => ?_⟩
    · obtain ⟨e1, e2⟩ := at_a z
      exact ⟨e1, hk, _, _, e2⟩
    · obtain ⟨e1, e2⟩ := at_a z
      subst e1
      subst e2
      exact ⟨ha, by rw [List.length_map]; exact hl, vs, _, rv, ha⟩
/-- the call of the law behind the top -/
theorem call_end {P : Program} {w : World} {K : PySem.W.Frag} {mg mb : Str → Option Value} {k : Nat} {fa a : Addr} {fd : FuncData} {x : Str} {F : Fn} {s : Shared} {vs : List Value} {ns : List Int}
    (KX : K.In s.heap) (glob : s.heap.Ns mainGlobals mg) (blt : s.heap.Ns builtinsNs mb) (names : ∀ z : Str, z ≠ "__name__" → mb z = bootBuiltins z) (lim : s.heap.NoLimit) (gens : s.gens = #[])
    (ha : s.heap.get? a = some { cls := .type "list", data := .seq vs.toArray }) (hi : IntsAre vs ns) (hl : ns.length ≤ sizeLine) (hr : Room k callerA)
    (fn : ∀ base : Heap, K.In base → base.Ns mainGlobals mg → FnG P w K mg base (L2.CX P w) k fa fd [x] (spF K mg 1 none F)) (bind : ∀ (s : Shared) (u : Value), BindsTo s fd ⟨[u], []⟩ [(x, u)])
    {y : D} (hF : F [.list (ns.map PyData.int)] = some (.ok (.val (.bool true)), y)) :
    codeAny (model P w) callerA (.call (.ref fa) ⟨[.ref a], []⟩) (fun r s' => r = .ok (.ret (.bool true)) ∧ OldK s.heap s'.heap ∧ s'.os = s.os ∧ AllBare s'.gens) s := by
  obtain ⟨H, L⟩ := lone (P := P) (w := w) KX ha hi hl
  -- what is no list is not tracked
  have free : ∀ {b : Addr} {o : Obj} {es : Array DictEntry} {n : Nat}, s.heap.get? b = some o → o.data = .dict es n → H b = none := fun {b o es n} e d => by
    cases q : H b with
    | none => rfl
    | some u =>
      obtain ⟨rfl, _⟩ := L.only b u q
      rw [ha] at e
      cases e
      exact Data.noConfusion d
  have hid : ∀ {b : Addr} {o : Obj}, s.heap.get? b = some o → H b = none → (hidT s.heap H).get? b = some o := hidT_get
  have ns_hid : ∀ {b : Addr} {m : Str → Option Value}, s.heap.Ns b m → (hidT s.heap H).Ns b m := fun {b m} ⟨o, es, n, e, d, r⟩ => ⟨o, es, n, hid e (free e d), d, r⟩
  have kin : K.In (hidT s.heap H) := fun b o e => by
    refine hid (KX b o e) ?_
    cases q : H b with
    | none => rfl
    | some u =>
      obtain ⟨rfl, hk, _⟩ := L.only b u q
      rw [hk] at e
      cases e
  obtain ⟨mc, l1, l2⟩ := lim
  have md : Mod K mg (hidT s.heap H) := ⟨kin, ns_hid glob, ⟨mb, ns_hid blt, names⟩, mc, ns_hid l1, l2⟩
  have nofr : ∀ b, b ∈ frs ([] : List Env) → False := fun b hb => (List.not_mem_nil hb)
  have e0 : Env0 P w K mg (hidT s.heap H) callerA [] s H := ⟨rfl, md, fun _ _ e => of_hidT e, Nat.le_of_eq (hidT_size _ _), trivial, fun b hb => (nofr b hb).elim, L.ok, .of_eq gens⟩
  have run := (fn _ kin (ns_hid glob)).run callerA [] s H ⟨[.ref a], []⟩ [.ref a] [.ref a] _ _ hr rfl e0 (bind s _) (.cons rfl .nil) (end_sp (mg := mg) hF L.seq)
  refine codeAny_mono run fun r s' h => ?_
  cases r with
  | error e =>
    obtain ⟨_, _, _, _, _, _, _, _, _, _, _, _, z⟩ := h
    exact z.elim
  | ok fl =>
    cases fl with
    | next => exact False.elim h
    | brk => exact False.elim h
    | cont => exact False.elim h
    | ret u =>
      obtain ⟨v, H', os, bare, un, ok', rv, q⟩ := h
      have q : v = .bl true := q
      subst q
      cases (show u = Value.bool true from rv)
      refine ⟨rfl, .of_keep fun b o e => ?_, os, bare⟩
      cases q : H b with
      | none => exact un.keep b o e q (fun z => (nofr b z).elim) (by simp)
      | some u =>
        obtain ⟨_, _, ob, xs, rfl⟩ := L.only b u q
        have q1 := (L.ok b _ q).1
        have q2 := (ok' b _ (un.frzs b ob _ q)).1
        rw [e] at q1
        cases q1
        exact q2
/-- the goal that k_head leaves -/
theorem law_end {l : PySem.W.OpenLaw} {k : Nat} {q : Program} {loose : List Str} {XP : (Str → Option Value) → Heap → Prop} {YP : World → Heap → Prop} {d : DefRec} {K : Params → PySem.W.Frag} {F : Fn}
    (hn : l.most = some 63) (hdf : d.params.defaults = []) (hr : Room k callerA) (hY : ∀ (w : World) (h : Heap), YP w h → (K w.params).In h)
    (fn : ∀ (w : World) (mg : Str → Option Value) (fa : Addr) (h : Heap), (K w.params).In h → h.Ns mainGlobals mg → mg d.name = some (.ref fa) →
      ∃ fd : FuncData, (∀ (s : Shared) (u : Value), BindsTo s fd ⟨[u], []⟩ [("script", u)]) ∧ ∀ base : Heap, (K w.params).In base → base.Ns mainGlobals mg → FnG l.prog w (K w.params) mg base (L2.CX l.prog w) k fa fd ["script"] (spF (K w.params) mg 1 none F))
    (hF : LawOk F) : PySem.W.WalkO q loose XP YP l.row.toRowW d [] (fun f vs => PySem.call f vs) := by
  refine Att.attach_callB hn hdf fun w s₀ s mg mb fa o pm cd doc a vs ns G Y ho hd hcd hmg hobj hints hlen hbits hg => ?_
  have KX := hY w _ Y
  obtain ⟨fd, hb, hfn⟩ := fn w mg fa _ KX G.T.g hmg
  obtain ⟨y, hy⟩ := hF ns hlen hbits
  exact call_end KX G.T.g G.T.b G.T.builtins G.T.nolimit hg hobj hints (Nat.le_trans hlen (by decide)) hr hfn hb hy
end Mi

/-! Mi: calls of defs by their names. -/
namespace Mi
open PySem L2 Evl PySem.Spec PyProof.Rows

/-- what a caller knows of a def: the name x, bound to the def y that stands at st -/
structure Kn (P : Program) (w : World) (K : PySem.W.Frag) (mg : Str → Option Value) (base : Heap) (k : Nat) (x y : Str) (st : Stmt) (ps : List Str) (io : Option Nat) (F : Fn) : Prop where
  it : ∃ (f : Addr) (fd : FuncData), FnG P w K mg base (L2.CX P w) k f fd ps (spF K mg ps.length io F) ∧ mg x = some (.ref f) ∧ Fun K y y st f fd
theorem Kn.mono {P : Program} {w : World} {K : PySem.W.Frag} {mg : Str → Option Value} {base : Heap} {j k : Nat} {x y : Str} {st : Stmt} {ps : List Str} {io : Option Nat} {F : Fn} (h : Kn P w K mg base j x y st ps io F) (hk : j ≤ k) : Kn P w K mg base k x y st ps io F := by
  obtain ⟨f, fd, h1, h2, h3⟩ := h.it
  exact ⟨f, fd, h1.mono hk, h2, h3⟩
/-- how n positional arguments and the keywords ks bind -/
def BindsQ (y : Str) (st : Stmt) (ps : List Str) (n : Nat) (ks : List Str) (ix : List Nat) : Prop := ∀ (kV doc pm : Value) (an : Option Addr) (cdv ct : Value) (us ws : List Value), us.length = n → ws.length = ks.length →
  bindArgs (PySem.W.fnOf y y (defArgs st) (defBody st) (defScope st) .none kV doc pm an cdv ct) ⟨us, ks.zip ws⟩ = pure (ps.zip (gath ix (us ++ ws)))
theorem BindsQ.x {K : PySem.W.Frag} {y : Str} {st : Stmt} {f : Addr} {fd : FuncData} {ps : List Str} {n : Nat} {ks : List Str} {ix : List Nat} (h : BindsQ y st ps n ks ix) (F : Fun K y y st f fd) : BindsX K fd ps n ks [] [] ix := by
  obtain ⟨oc, od, kV, doc, pm, an, cdv, ct, osl, rfl, lk, hcd⟩ := F.ex
  refine ⟨fun s us ws _ h1 h2 => .of_eq ?_, .nil⟩
  rw [h kV doc pm an cdv ct us ws h1 h2, List.append_nil]
/-- all positional, in place -/
def mF (p : Nat) (F : Fn) (io : Option Nat) (as : M (List Res)) : M Res := bnd as fun rs => if rs.length = p then callF F io rs else stuck
/-- with keywords: ix tells where each parameter's value stands in the row of the arguments -/
def mFk (n m : Nat) (ix : List Nat) (F : Fn) (io : Option Nat) (as ks : M (List Res)) : M Res := bnd as fun rs => bnd ks fun qs => if rs.length = n ∧ qs.length = m then callF F io (gath ix (rs ++ qs)) else stuck
section
variable {X : Cx} {E : WX} {x y : Str} {st : Stmt} {ps ks : List Str} {io : Option Nat} {F : Fn} {k n : Nat} {ix : List Nat} {p pos : Pos} {e : Expr} {es : List Expr} {kws : List Keyword} {as qs : M (List Res)}
theorem gath_all {α : Type} : ∀ (pre xs : List α), gath ((List.range xs.length).map (· + pre.length)) (pre ++ xs) = xs
  | pre, [] => rfl
  | pre, a :: xs => by
    have ih := gath_all (pre ++ [a]) xs
    rw [List.append_assoc] at ih
    have e : (List.range (a :: xs).length).map (· + pre.length) = pre.length :: (List.range xs.length).map (· + (pre ++ [a]).length) := by
      rw [List.length_cons, List.range_succ_eq_map, List.map_cons, List.map_map]
      simp only [List.length_append, List.length_cons, List.length_nil, Nat.zero_add]
      congr 1
      apply List.map_congr_left
      intro b _
      show b + 1 + pre.length = b + (pre.length + 1)
      omega
    rw [e]
    unfold gath at ih ⊢
    rw [List.filterMap_cons]
    simp only [List.getElem?_append_right (Nat.le_refl _), Nat.sub_self, List.getElem?_cons_zero]
    rw [show pre ++ a :: xs = pre ++ ([a] ++ xs) from rfl, ih]
theorem gath_id {α : Type} {xs : List α} {p : Nat} (h : xs.length = p) : gath (List.range p) xs = xs := by
  have := gath_all [] xs
  simpa [h] using this
theorem callK_read {σ : L2.St} {H : Hp} {Q : VK} {m : Nat} (hix : ∀ (rs : List Res), rs.length = n + m → (gath ix rs).length = ps.length) (w : tE X.K X.mg E (mFk n m ix F io as qs) σ H Q) : tCallX (spF X.K X.mg ps.length io F) n m [] ix E (tA X.K X.mg E as) (tA X.K X.mg E qs) σ H Q := by
  refine callX_read (dds := []) (fun _ _ => .nil) (fun rs h => hix rs (by simpa using h)) ?_
  have e : mCallX F io n m [] ix as qs = mFk n m ix F io as qs := by
    unfold mCallX mFk
    simp only [List.map_nil, List.append_nil]
  rw [e]
  exact w
theorem callP_read {σ : L2.St} {H : Hp} {Q : VK} {q : Nat} (w : tE X.K X.mg E (mF q F io as) σ H Q) : tCallX (spF X.K X.mg q io F) q 0 [] (List.range q) E (tA X.K X.mg E as) tNil σ H Q := by
  have w2 : tE X.K X.mg E (mFk q 0 (List.range q) F io as aNil) σ H Q := by
    obtain ⟨Hb, ρ, Rr, S⟩ := w
    refine ⟨Hb, ρ, Rr, S.eq ?_⟩
    unfold mF mFk aNil
    show bnd as _ ρ = bnd as _ ρ
    congr 1
    funext rs
    show _ = (if rs.length = q ∧ ([] : List Res).length = 0 then callF F io (gath (List.range q) (rs ++ [])) else stuck)
    by_cases c : rs.length = q
    · rw [if_pos c, if_pos ⟨c, rfl⟩, List.append_nil, gath_id c]
    · rw [if_neg c, if_neg fun z => c z.1]
  have := callX_read (p := q) (dds := []) (dvs := []) (n := q) (m := 0) (ix := List.range q) (fun _ _ => .nil) (fun rs h => by rw [gath_id (by simpa using h)]; simpa using h) (w := (by
    have e : mCallX F io q 0 [] (List.range q) as aNil = mFk q 0 (List.range q) F io as aNil := by
      unfold mCallX mFk
      simp only [List.map_nil, List.append_nil]
    rw [e]; exact w2))
  refine tA_mono this fun vs H1 h => ?_
  obtain ⟨Hb, ρ, Rr, S⟩ := h
  exact S.ret Rr rfl _ .nil
theorem me_call (G : Kn X.prog X.w X.K X.mg X.base k x y st ps io F) (hr : Room k X.A) (hgd : X.A.guards = some []) (hg : Gl X x) (q : Nat) (hq : ps.length = q) (hb : BindsQ y st ps q [] (List.range q)) (hx : ∀ σ, PassesAt (L2.CX X.prog X.w) X σ (fun c d H => E c d σ H))
    (ha : PA X (e :: es) (tA X.K X.mg E as)) (hdb : (x == ("__debug__" : Str)) = false := by decide) (he : starEach (e :: es) X.env = (false, eval e X.env) :: starEach es X.env := by rfl) (hpl : (backTo pos (starEach es X.env)).any (·.1) = false := by rfl) :
    PE X (.Call (.Name x p) (e :: es) [] pos) (tE X.K X.mg E (mF q F io as)) := by
  subst hq
  obtain ⟨f, fd, h1, h2, h3⟩ := G.it
  exact (pe_callX h1 hr hgd hg h2 h3.kp (hb.x h3) hx ha hdb he hpl).imp fun σ H Q w => callP_read w
theorem me_call0 (G : Kn X.prog X.w X.K X.mg X.base k x y st [] io F) (hr : Room k X.A) (hgd : X.A.guards = some []) (hg : Gl X x) (hb : BindsQ y st [] 0 [] []) (hx : ∀ σ, PassesAt (L2.CX X.prog X.w) X σ (fun c d H => E c d σ H))
    (hdb : (x == ("__debug__" : Str)) = false := by decide) : PE X (.Call (.Name x p) [] [] pos) (tE X.K X.mg E (mF 0 F io aNil)) := by
  obtain ⟨f, fd, h1, h2, h3⟩ := G.it
  exact (pe_callX0 h1 hr hgd hg h2 h3.kp (hb.x h3) hx hdb).imp fun σ H Q w => by
    have := callP_read w
    obtain ⟨Hb, ρ, Rr, S⟩ := this
    exact S.ret Rr rfl _ .nil
theorem me_callK (G : Kn X.prog X.w X.K X.mg X.base k x y st ps io F) (hr : Room k X.A) (hgd : X.A.guards = some []) (hg : Gl X x) (hb : BindsQ y st ps n ks ix) (hx : ∀ σ, PassesAt (L2.CX X.prog X.w) X σ (fun c d H => E c d σ H)) (hix : ∀ (rs : List Res), rs.length = n + ks.length → (gath ix rs).length = ps.length)
    (ha : PA X (e :: es) (tA X.K X.mg E as)) (hkw : PK X kws (tA X.K X.mg E qs)) (hall : (backToKw pos (keywordEach kws X.env)).all (·.1.isSome) = true := by rfl) (hks : (backToKw pos (keywordEach kws X.env)).filterMap (·.1) = ks := by rfl)
    (hdb : (x == ("__debug__" : Str)) = false := by decide) (he : starEach (e :: es) X.env = (false, eval e X.env) :: starEach es X.env := by rfl)
    (hpl : ((backTo pos (starEach (e :: es) X.env)).any (·.1) || (backToKw pos (keywordEach kws X.env)).any (·.1.isNone)) = false := by rfl) :
    PE X (.Call (.Name x p) (e :: es) kws pos) (tE X.K X.mg E (mFk n ks.length ix F io as qs)) := by
  obtain ⟨f, fd, h1, h2, h3⟩ := G.it
  exact (pe_callXK h1 hr hgd hg h2 h3.kp (hb.x h3) hx ha hkw hall hks hdb he hpl).imp fun σ H Q w => callK_read hix w
theorem me_callK0 (G : Kn X.prog X.w X.K X.mg X.base k x y st ps io F) (hr : Room k X.A) (hgd : X.A.guards = some []) (hg : Gl X x) (hb : BindsQ y st ps 0 ks ix) (hx : ∀ σ, PassesAt (L2.CX X.prog X.w) X σ (fun c d H => E c d σ H)) (hix : ∀ (rs : List Res), rs.length = 0 + ks.length → (gath ix rs).length = ps.length)
    (hkw : PK X kws (tA X.K X.mg E qs)) (hall : (backToKw pos (keywordEach kws X.env)).all (·.1.isSome) = true := by rfl) (hks : (backToKw pos (keywordEach kws X.env)).filterMap (·.1) = ks := by rfl)
    (hdb : (x == ("__debug__" : Str)) = false := by decide)
    (hpl : ((backTo pos (starEach [] X.env)).any (·.1) || (backToKw pos (keywordEach kws X.env)).any (·.1.isNone)) = false := by rfl) :
    PE X (.Call (.Name x p) [] kws pos) (tE X.K X.mg E (mFk 0 ks.length ix F io aNil qs)) := by
  obtain ⟨f, fd, h1, h2, h3⟩ := G.it
  exact (pe_callXK0 h1 hr hgd hg h2 h3.kp (hb.x h3) hx hkw hall hks hdb hpl).imp fun σ H Q w => by
    have := callK_read hix w
    obtain ⟨Hb, ρ, Rr, S⟩ := this
    exact S.ret Rr rfl _ .nil
end
theorem passB {X : Cx} (σ : L2.St) : PassesAt (L2.CX X.prog X.w) X σ (fun _ _ _ => False) := fun pins H s e s' I h => passL pins σ H s e s' I h
/-- a def, from its body -/
theorem kn_def {P : Program} {w : World} {K : PySem.W.Frag} {mg : Str → Option Value} {base : Heap} {k n : Nat} {io : Option Nat} {f : Addr} {x y : Str} {st : Stmt} {fd : FuncData} {N ps : List Str} {m : M Fl} (F : Fun K y y st f fd) (hm : mg x = some (.ref f)) (S : FnScope N ps (defScope st)) (hN : N.length = n)
    (hbody : ∀ (cdv : Value) (A : Around) (outer : List Env) (s : Shared) (H : Hp) (E : XK), Room k (A.deeper (PyProof.Rows.envOfC y (defScope st) s.heap.objs.size f cdv)) → A.guards = some [] →
      PSs (cxOf (L2.CX P w) P w K mg base N y (defScope st) f cdv A outer s H E) (defBody st) (tS K mg (fun c d _ H => E c d H) m)) :
    Kn P w K mg base (k + 1) x y st ps io (mkFn ps.length n io m) :=
  ⟨f, fd, def_ok F S hN rfl hbody, hm, F⟩
end Mi

/-! Mi: a, b = x, y. -/
namespace Mi
open PySem L2 Evl PySem.Spec PyProof.Rows
def mPar3 (i j l : Nat) (m1 m2 m3 : M Res) : M Fl := bnd (mVal m1) fun d => bnd (mVal m2) fun e => bnd (mVal m3) fun f => bnd (mStore i (.val d)) fun _ => bnd (mStore j (.val e)) fun _ => bnd (mStore l (.val f)) fun _ => ret .nx
section
variable {K : PySem.W.Frag} {mg : Str → Option Value} {E : WX} {De : Ends} {σ : L2.St} {H : Hp}
/-- a store of a datum, then what follows -/
theorem st_run {β : Type} {i : Nat} {d : D} {f : Unit → M β} {Hb : Hp} {ρ : R} {v : V} {P : β → L2.St → R → Hp → Hp → Prop} (Rr : Rel K Hb H σ ρ) (rp : Rp K Hb v d) (S : Sat K mg E σ Hb H ρ (bnd (mStore i (.val d)) f) P) :
    ∃ Hb1 ρ1, Go σ ρ Hb H (σ.set i (some v)) ρ1 Hb1 H ∧ Rel K Hb1 H (σ.set i (some v)) ρ1 ∧ Sat K mg E (σ.set i (some v)) Hb1 H ρ1 (f ()) fun b σ' ρ' Hb' H' => Go σ ρ Hb H σ' ρ' Hb' H' → P b σ' ρ' Hb' H' := by
  obtain ⟨out, ρ5, e5, h1, h2⟩ := S
  rcases bnd_some e5 with ⟨u, ρ3, e3, e4⟩ | ⟨x, ρ3, e3, e4⟩
  · obtain ⟨_, Hb3, g3, R3⟩ := store_run (H1 := H) (r := .val d) Go.refl Rr rp e3
    exact ⟨Hb3, ρ3, g3, R3, out, ρ5, e4, fun a q σ' Hb' H' _ R' g => h1 a q σ' Hb' H' g R', fun e q σ' c dd Hb' H' g R' x => h2 e q σ' c dd Hb' H' (g3.trans g) R' x⟩
  · obtain ⟨z, _⟩ := store_run (H1 := H) (r := .val d) Go.refl Rr rp e3
    cases z
theorem par3_read {i j l : Nat} {m1 m2 m3 : M Res} (w : tS K mg E (mPar3 i j l m1 m2 m3) De σ H) : tPar3 i j l (tCons (tE K mg E m1) (tCons (tE K mg E m2) (tCons (tE K mg E m3) tNil))) De σ H := by
  obtain ⟨Hb, ρ, Rr, S⟩ := w
  refine tE_mono (e_val Rr S) fun v H1 ⟨Hb1, ρ1, d, R1, rp, g1, S1⟩ => ?_
  refine tE_mono (e_val R1 S1) fun u H2 ⟨Hb2, ρ2, e, R2, rq, g2, S2⟩ => ?_
  refine tE_mono (e_val R2 S2) fun z H3 ⟨Hb3, ρ3, f, R3, rz, g3, S3⟩ => ?_
  refine ⟨v, u, z, rfl, ?_⟩
  obtain ⟨Hb4, ρ4, g4, R4, S4⟩ := st_run R3 (rp.mono (g2.trans g3).b) S3
  obtain ⟨Hb5, ρ5, g5, R5, S5⟩ := st_run R4 (rq.mono (g3.trans g4).b) S4
  obtain ⟨Hb6, ρ6, g6, R6, S6⟩ := st_run R5 (rz.mono (g4.trans g5).b) S5
  have q := S6.ret R6 g6
  exact q (g5.trans g6) (g4.trans (g5.trans g6)) (g3.trans (g4.trans (g5.trans g6))) (g2.trans (g3.trans (g4.trans (g5.trans g6)))) (g1.trans (g2.trans (g3.trans (g4.trans (g5.trans g6)))))
end
section
variable {X : Cx} {E : WX} {a b c : Expr} {m1 m2 m3 : M Res} {i j l : Nat} {x y z : Str} {px py pz pt pos pt2 : Pos} {kt k2 : Nat}
theorem ms_par (hc : X.calm = true) (hN : X.N.Nodup) (i j : Nat) (ha : PE X a (tE X.K X.mg E m1)) (hb : PE X b (tE X.K X.mg E m2)) (hi : X.N[i]? = some x := by rfl) (hj : X.N[j]? = some y := by rfl) (hij : i ≠ j := by decide)
    (hx : X.env.scope.names.lookup x = some .local := by rfl) (hy : X.env.scope.names.lookup y = some .local := by rfl)
    (s1 : starEach [a, b] X.env = (false, eval a X.env) :: starEach [b] X.env := by rfl) (s2 : starEach [b] X.env = (false, eval b X.env) :: starEach [] X.env := by rfl)
    (hw : swappedStores [.Tuple [.Name x px, .Name y py] kt pt] (.Tuple [a, b] k2 pt2) X.env = pure (some [x, y]) := by rfl)
    (hs : swapsWithSole [.Tuple [.Name x px, .Name y py] kt pt] (.Tuple [a, b] k2 pt2) pos.line X.env = pure false := by rfl) :
    PS X (.Assign [.Tuple [.Name x px, .Name y py] kt pt] (.Tuple [a, b] k2 pt2) pos) (tS X.K X.mg E (mPar i j m1 m2)) := (ps_par hc hN hi hj hij hx hy (pa_cons ha (pa_cons hb pa_nil s2) s1) hw hs).imp fun _ _ _ w => par_read w
theorem ms_par3 (hc : X.calm = true) (hN : X.N.Nodup) (i j l : Nat) (ha : PE X a (tE X.K X.mg E m1)) (hb : PE X b (tE X.K X.mg E m2)) (hcc : PE X c (tE X.K X.mg E m3)) (hi : X.N[i]? = some x := by rfl) (hj : X.N[j]? = some y := by rfl) (hl : X.N[l]? = some z := by rfl) (hij : i ≠ j := by decide) (hil : i ≠ l := by decide) (hjl : j ≠ l := by decide)
    (hx : X.env.scope.names.lookup x = some .local := by rfl) (hy : X.env.scope.names.lookup y = some .local := by rfl) (hz : X.env.scope.names.lookup z = some .local := by rfl)
    (s1 : starEach [a, b, c] X.env = (false, eval a X.env) :: starEach [b, c] X.env := by rfl) (s2 : starEach [b, c] X.env = (false, eval b X.env) :: starEach [c] X.env := by rfl) (s3 : starEach [c] X.env = (false, eval c X.env) :: starEach [] X.env := by rfl)
    (hw : swappedStores [.Tuple [.Name x px, .Name y py, .Name z pz] kt pt] (.Tuple [a, b, c] k2 pt2) X.env = pure (some [x, y, z]) := by rfl)
    (hs : swapsWithSole [.Tuple [.Name x px, .Name y py, .Name z pz] kt pt] (.Tuple [a, b, c] k2 pt2) pos.line X.env = pure false := by rfl) :
    PS X (.Assign [.Tuple [.Name x px, .Name y py, .Name z pz] kt pt] (.Tuple [a, b, c] k2 pt2) pos) (tS X.K X.mg E (mPar3 i j l m1 m2 m3)) := (ps_par3 hc hN hi hj hl hij hil hjl hx hy hz (pa_cons ha (pa_cons hb (pa_cons hcc pa_nil s3) s2) s1) hw hs).imp fun _ _ _ w => par3_read w
end
/-- a tuple constant of the written part -/
theorem rp_ktup {K : PySem.W.Frag} {a : Addr} {od : Option Addr} {its : Array Value} {n : Nat} {sl : Array (Option Value)} {xs : List V} {ds : List D} (l : K.lookup a = some ⟨.type "tuple", od, .seq its n, sl⟩) (hz : its.size ≤ sizeLine) (r : Vals xs its.toList) (h : ∀ H, RpAll K H xs ds) : ∀ H, Rp K H (.ref a) (.tuple ds) :=
  fun H => .tup (.inr ⟨_, its, n, l, rfl, rfl, hz, r⟩) (h H)
/-- a constant of the module -/
def Cst (K : PySem.W.Frag) (mg : Str → Option Value) (x : Str) (d : D) : Prop := ∃ (u : Value) (v : V), mg x = some u ∧ RelV v u ∧ ∀ H, Rp K H v d
theorem me_cst {X : Cx} {E : WX} {x : Str} {pos : Pos} {d : D} (hg : Gl X x) (h : Cst X.K X.mg x d) (hd : (x == ("__debug__" : Str)) = false := by decide) : PE X (.Name x pos) (tE X.K X.mg E (mC d)) := by
  obtain ⟨u, v, h1, h2, h3⟩ := h
  exact me_glob hg h1 h2 h3 hd
theorem cst_int {K : PySem.W.Frag} {h : Heap} {mg : Str → Option Value} {x : Str} {i : Int} {t : Tok} (X : K.In h) (G : h.Ns mainGlobals mg) (a : PySem.W.nsIn K mainGlobals x = some (some (.int i t))) : Cst K mg x (.int i) := ⟨_, .int i, PySem.W.mg_of X G a, ⟨t, rfl⟩, fun _ => .int i⟩
theorem cst_str {K : PySem.W.Frag} {h : Heap} {mg : Str → Option Value} {x : Str} {i : Str} {t : Tok} (X : K.In h) (G : h.Ns mainGlobals mg) (a : PySem.W.nsIn K mainGlobals x = some (some (.str i t))) : Cst K mg x (.str i) := ⟨_, .str i, PySem.W.mg_of X G a, ⟨t, rfl⟩, fun _ => .str i⟩
theorem cst_tup2 {K : PySem.W.Frag} {h : Heap} {mg : Str → Option Value} {x : Str} {i j : Int} {a : Addr} {t u : Tok} {od : Option Addr} {n : Nat} {sl : Array (Option Value)} (X : K.In h) (G : h.Ns mainGlobals mg) (q : PySem.W.nsIn K mainGlobals x = some (some (.ref a))) (l : K.lookup a = some ⟨.type "tuple", od, .seq #[.int i t, .int j u] n, sl⟩) : Cst K mg x (.tuple [.int i, .int j]) :=
  ⟨_, .ref a, PySem.W.mg_of X G q, rfl, rp_ktup (xs := [.int i, .int j]) l (by show 2 ≤ sizeLine; decide) (.cons ⟨t, rfl⟩ (.cons ⟨u, rfl⟩ .nil)) fun _ => .cons (.int i) (.cons (.int j) .nil)⟩
/-- a def as the top has written it -/
theorem dat {K : PySem.W.Frag} {h : Heap} {mg : Str → Option Value} {x y : Str} {st : Stmt} {f : Addr} {oc : Value} {od an : Option Addr} {osl : Array (Option Value)} {kV doc pm cdv ct : Value} (X : K.In h) (G : h.Ns mainGlobals mg) (a : PySem.W.nsIn K mainGlobals x = some (some (.ref f)))
    (l : K.lookup f = some ⟨oc, od, .func (PySem.W.fnOf y y (defArgs st) (defBody st) (defScope st) .none kV doc pm an cdv ct), osl⟩) (c : PySem.W.codeIn K cdv y = true) (k : PySem.W.keepIn K (.ref f) = true) : ∃ (f : Addr) (fd : FuncData), mg x = some (.ref f) ∧ Fun K y y st f fd :=
  ⟨f, _, PySem.W.mg_of X G a, fun_mk l c k⟩
theorem kn_of {P : Program} {w : World} {K : PySem.W.Frag} {mg : Str → Option Value} {base : Heap} {k : Nat} {x y : Str} {st : Stmt} {ps : List Str} {io : Option Nat} {F : Fn} {f : Addr} {fd : FuncData} (h : Kn P w K mg base k x y st ps io F) (hm : mg x = some (.ref f)) (hf : Fun K y y st f fd) : FnG P w K mg base (L2.CX P w) k f fd ps (spF K mg ps.length io F) := by
  obtain ⟨f', fd', h1, h2, h3⟩ := h.it
  rw [hm] at h2
  cases h2
  obtain ⟨_, _, _, _, _, _, _, _, _, _, l1, _⟩ := h3.ex
  obtain ⟨_, _, _, _, _, _, _, _, _, _, l2, _⟩ := hf.ex
  rw [l1] at l2
  cases l2
  exact h1
section
variable {X : Cx} {E : WX} {pos apos cpos npos pk : Pos} {e k : Expr} {m mk : M Res} {i : Nat} {x : Str} {W : L2.St → L2.St → Prop}
theorem ms_append (hx : PE X (.Name x npos) (tVar i)) (he : PE X e (tE X.K X.mg E m)) (hs : starEach [e] X.env = (false, eval e X.env) :: starEach [] X.env := by rfl)
    (hsw : swapsWith (.Call (.Attribute (.Name x npos) "append" apos) [e] [] cpos) none pos.line X.env = pure false := by rfl)
    (hbase : attributeBase (.Name x npos) "append" X.env (eval (.Name x npos) X.env) = eval (.Name x npos) X.env := by rfl)
    (hfew : ((backTo cpos (starEach [e] X.env)).all (fun x => !x.1) && (backToKw cpos (keywordEach [] X.env)).all (fun x => x.1.isSome) && decide ([e].length + ([] : List Keyword).length + (if ([] : List Keyword).isEmpty then 0 else 1) < 30)) = true := by rfl)
    (hline : (apos.endLine == cpos.line) = true := by rfl) (hplain : (backTo cpos (starEach [] X.env)).any (·.1) = false := by rfl) :
    PS X (.Expr (.Call (.Attribute (.Name x npos) "append" apos) [e] [] cpos) pos) (tS X.K X.mg E (mApp i m)) :=
  ms_app hx he hs hsw (pe_bm PySem.F.plainAttrs_list PySem.F.slot_list_append PySem.F.type_list_append mt_append hx (pa_cons he pa_nil hs) hbase hfew hline hs hplain)
theorem ms_setixS (hx : PE X (.Name x npos) (tVar i)) (hk : PE X k (tE X.K X.mg E mk)) (he : PE X e (tE X.K X.mg E m))
    (hs : swapsWithSole [.Subscript (.Name x npos) k pk] e pos.line X.env = pure false := by rfl) (hw : swappedStores [.Subscript (.Name x npos) k pk] e X.env = pure none := by rfl)
    (h1 : (assignEach [.Subscript (.Name x npos) k pk] X.env).map (·.2) = [assign (.Subscript (.Name x npos) k pk) X.env] := by rfl)
    (ha : ∀ v, assign (.Subscript (.Name x npos) k pk) X.env v = (do let ov ← holding [v] (eval (.Name x npos) X.env); let iv ← holding [v, ov] (eval k X.env); standAt pk; holding [v, ov, iv] (setItem ov iv v); release [v, ov, iv] []) := by intro _; rfl) :
    PS X (.Assign [.Subscript (.Name x npos) k pk] e pos) (tS X.K X.mg E (mSetIx i mk m)) := ms_setix hx hk he hs hw h1 (pg_sub hx hk set_list ha)
theorem mg_ixS (hW : ∀ σ, W σ σ) (hx : PE X (.Name x npos) (tVar i)) (hk : PE X k (tE X.K X.mg E mk))
    (ha : ∀ v, assign (.Subscript (.Name x npos) k pos) X.env v = (do let ov ← holding [v] (eval (.Name x npos) X.env); let iv ← holding [v, ov] (eval k X.env); standAt pos; holding [v, ov, iv] (setItem ov iv v); release [v, ov, iv] []) := by intro _; rfl) :
    PG X (.Subscript (.Name x npos) k pos) (tGt X.K X.mg E W (gIx i mk)) := mg_ix hW (pg_sub hx hk set_list ha)
theorem mg_tupS {es : List Expr} {kk n : Nat} {g : List D → M Unit} (hc : X.calm = true) (h : PGs X es (tGts X.K X.mg E W g)) (hn : n = es.length := by rfl)
    (h1 : (assignEach es X.env).length = n := by rfl) (h2 : (assignEach es X.env).findIdx? (·.1) = none := by rfl) : PG X (.Tuple es kk pos) (tGt X.K X.mg E W (gT n g)) := mg_tup hc h hn (pg_tup hc h h1 h2)
theorem ms_forC {tg iter : Expr} {body : List Stmt} {mi : M Itd} {g : D → M Unit} {mb : M Fl} (hp : PassesOwn (model X.prog X.w) X.A X.env X.xe) (hc : X.calm = true) (hi : PI X tg iter (tI X.K X.mg E mi)) (hg : PG X tg (tGt X.K X.mg E (fun _ _ => True) g)) (hb : PSs X body (tS X.K X.mg E mb))
    (hs : ∀ x, foldedSetIterable iter X.env x = pure x := by intro _; rfl) : PS X (.For tg iter body [] pos) (tS X.K X.mg E (mFor (chk mi) g mb)) := ms_for hp hc (chk_ok mi) (PI_imp hi fun _ _ _ w => tI_chk w) hg hb hs
end
theorem _root_.L2.Room.units64 {k : Nat} {A : Around} (r : Room k A) : A.units + 64 < cLine := by have := r.un; omega
theorem _root_.L2.Room.units70 {k : Nat} {A : Around} (r : Room k A) : A.units + 70 < cLine := by have := r.un; omega
end Mi

/-! Mi: == of texts beside == of data. -/
namespace Mi
open PySem L2 Evl PySem.Spec PyProof.Rows
def eqT : D → D → Option Res
  | .str x, .str y => some (.val (.bool (decide (x = y))))
  | _, _ => none
def neT : D → D → Option Res
  | .str x, .str y => some (.val (.bool (!decide (x = y))))
  | _, _ => none
def eqsD : D → D → Option Res
  | .str x, .str y => some (.val (.bool (decide (x = y))))
  | d, e => eqD d e
def nesD : D → D → Option Res
  | .str x, .str y => some (.val (.bool (!decide (x = y))))
  | d, e => neD d e
theorem dec_strV {x y : Str} : decide (V.str x = V.str y) = decide (x = y) := by
  by_cases h : x = y <;> simp [h]
theorem bin_eqT {K : PySem.W.Frag} : Bin K rEq eqT := by
  intro Hb H x y d e res Q ex hx hy hf k
  unfold eqT at hf
  split at hf
  · cases hf
    rw [hx.str, hy.str]
    refine ⟨rfl, ?_⟩
    rw [dec_strV]
    exact k _ Hb H (New.refl ex) (.bl _)
  · cases hf
theorem bin_neT {K : PySem.W.Frag} : Bin K rNe neT := by
  intro Hb H x y d e res Q ex hx hy hf k
  unfold neT at hf
  split at hf
  · cases hf
    rw [hx.str, hy.str]
    refine ⟨rfl, ?_⟩
    rw [dec_strV]
    exact k _ Hb H (New.refl ex) (.bl _)
  · cases hf
theorem op_eqS {X : Cx} (hu : X.A.units + 64 < cLine) : OpR X (compareOp .Eq) (fun x y H Q => rEq x y H Q ∨ rEqD X.K x y H Q) := op_eq.or (op_eqD hu)
theorem op_neS {X : Cx} (hu : X.A.units + 64 < cLine) : OpR X (compareOp .NotEq) (fun x y H Q => rNe x y H Q ∨ rNeD X.K x y H Q) := op_ne.or (op_neD hu)
theorem bin_eqS {K : PySem.W.Frag} : Bin K (fun x y H Q => rEq x y H Q ∨ rEqD K x y H Q) eqsD := (bin_eqT.or bin_eqA).imp fun d e z q => by
  cases d <;> cases e <;> first | exact q | (unfold eqsD at q; simp only [eqT]; exact q)
theorem bin_neS {K : PySem.W.Frag} : Bin K (fun x y H Q => rNe x y H Q ∨ rNeD K x y H Q) nesD := (bin_neT.or bin_neA).imp fun d e z q => by
  cases d <;> cases e <;> first | exact q | (unfold nesD at q; simp only [neT]; exact q)
end Mi

/-! Mi: runs of loops over data. -/
namespace Mi
open PySem L2 Evl PySem.Spec
theorem loopF_run {g : D → M Unit} {b : M Fl} (Inv : Nat → R → Prop) : ∀ (ds : List D) (k : Nat) (ρ : R), Inv k ρ →
    (∀ i ρ d, ds[i]? = some d → Inv (k + i) ρ → ∃ ρ1 ρ2 fl, g d ρ = some (.ok (), ρ1) ∧ b ρ1 = some (.ok fl, ρ2) ∧ (fl = .nx ∨ fl = .ct) ∧ Inv (k + i + 1) ρ2) → ∃ ρ', loopF g b ds ρ = some (.ok .nx, ρ') ∧ Inv (k + ds.length) ρ'
  | [], k, ρ, h0, _ => ⟨ρ, rfl, h0⟩
  | d :: ds, k, ρ, h0, step => by
    obtain ⟨ρ1, ρ2, fl, e1, e2, hf, h1⟩ := step 0 ρ d rfl h0
    obtain ⟨ρ', e3, h2⟩ := loopF_run Inv ds (k + 1) ρ2 h1 fun i ρ d hd hi => by
      have := step (i + 1) ρ d (by simpa using hd) (by rw [show k + (i + 1) = k + 1 + i by omega]; exact hi)
      rw [show k + (i + 1) + 1 = k + 1 + i + 1 by omega] at this
      exact this
    refine ⟨ρ', ?_, by rw [List.length_cons, show k + (ds.length + 1) = k + 1 + ds.length by omega]; exact h2⟩
    unfold loopF bnd
    rw [e1]
    dsimp only
    rw [e2]
    rcases hf with rfl | rfl <;> exact e3
/-- .. that may leave with a result -/
theorem loopF_exit {g : D → M Unit} {b : M Fl} (Inv : Nat → R → Prop) (Out : Fl → R → Prop) : ∀ (ds : List D) (k : Nat) (ρ : R), Inv k ρ →
    (∀ i ρ d, ds[i]? = some d → Inv (k + i) ρ → ∃ ρ1 ρ2 fl, g d ρ = some (.ok (), ρ1) ∧ b ρ1 = some (.ok fl, ρ2) ∧ ((fl = .nx ∨ fl = .ct) ∧ Inv (k + i + 1) ρ2 ∨ fl = .bk ∧ Out .nx ρ2 ∨ ∃ r, fl = .rt r ∧ Out (.rt r) ρ2)) →
    ∃ ρ' fl, loopF g b ds ρ = some (.ok fl, ρ') ∧ (fl = .nx ∧ Inv (k + ds.length) ρ' ∨ Out fl ρ')
  | [], k, ρ, h0, _ => ⟨ρ, .nx, rfl, .inl ⟨rfl, h0⟩⟩
  | d :: ds, k, ρ, h0, step => by
    obtain ⟨ρ1, ρ2, fl, e1, e2, hf⟩ := step 0 ρ d rfl h0
    rcases hf with ⟨hf, h1⟩ | ⟨rfl, h1⟩ | ⟨r, rfl, h1⟩
    · obtain ⟨ρ', fl', e3, h2⟩ := loopF_exit Inv Out ds (k + 1) ρ2 h1 fun i ρ d hd hi => by
        have := step (i + 1) ρ d (by simpa using hd) (by rw [show k + (i + 1) = k + 1 + i by omega]; exact hi)
        rw [show k + (i + 1) + 1 = k + 1 + i + 1 by omega] at this
        exact this
      refine ⟨ρ', fl', ?_, ?_⟩
      · unfold loopF bnd
        rw [e1]
        dsimp only
        rw [e2]
        rcases hf with rfl | rfl <;> exact e3
      · rw [List.length_cons, show k + (ds.length + 1) = k + 1 + ds.length by omega]
        exact h2
    · refine ⟨ρ2, .nx, ?_, .inr h1⟩
      unfold loopF bnd
      rw [e1]
      dsimp only
      rw [e2]
      rfl
    · refine ⟨ρ2, .rt r, ?_, .inr h1⟩
      unfold loopF bnd
      rw [e1]
      dsimp only
      rw [e2]
      rfl
/-- a comprehension without a test, over a state that the block leaves as it was -/
theorem loopC_map {g : D → M Unit} {e : M Res} {vs : List Nat} {ρw : R} {f : D → D} : ∀ (ds acc : List D), acc.length + ds.length ≤ sizeLine →
    (∀ d ∈ ds, ∃ ρa ρc, g d ρw = some (.ok (), ρa) ∧ mVal e ρa = some (.ok (f d), ρc) ∧ wipeR ρc vs = ρw) → loopC g (ret true) e vs ds ρw acc = some (acc ++ ds.map f, ρw)
  | [], acc, _, _ => by
    unfold loopC
    rw [List.map_nil, List.append_nil]
  | d :: ds, acc, hl, h => by
    obtain ⟨ρa, ρc, e1, e2, e3⟩ := h d List.mem_cons_self
    rw [List.length_cons] at hl
    unfold loopC
    rw [e1]
    dsimp only [ret]
    rw [e2]
    dsimp only
    rw [if_pos (by omega), e3, loopC_map ds (acc ++ [f d]) (by rw [List.length_append, List.length_cons, List.length_nil]; omega) fun d' hd => h d' (List.mem_cons_of_mem _ hd)]
    rw [List.map_cons, List.append_assoc]
    rfl
/-- a comprehension as a whole, nothing locked -/
theorem lc_run {it : M Itd} {g : D → M Unit} {t : M Bool} {e : M Res} {vs : List Nat} {ρ ρ1 ρe : R} {ds xs : List D} (hi : it ρ = some (.ok ⟨ds, []⟩, ρ1)) (hc : loopC g t e vs ds (wipeR ρ1 vs) [] = some (xs, ρe)) : mLc it g t e vs ρ = some (.ok (.fresh xs), restR ρ1 ρe vs) := by
  unfold mLc bnd chk
  rw [hi]
  dsimp only
  rw [if_pos (by simp)]
  dsimp only
  rw [if_pos (by simp)]
  rw [hc]
  rfl
/-- a loop as a whole, nothing locked -/
theorem for_run {it : M Itd} {g : D → M Unit} {b : M Fl} {ρ ρ1 ρ2 : R} {ds : List D} {fl : Fl} (hi : it ρ = some (.ok ⟨ds, []⟩, ρ1)) (hl : loopF g b ds ρ1 = some (.ok fl, ρ2)) : mFor (chk it) g b ρ = some (.ok fl, ρ2) := by
  unfold mFor bnd chk
  rw [hi]
  dsimp only
  rw [if_pos (by simp)]
  dsimp only
  rw [hl]
  rfl
end Mi

/-! Mi: exceptions: raise, try. -/
namespace Mi
open PySem L2 Evl PySem.Spec PyProof.Rows
/-! ### __init__: self.f = value -/
def spI1 (K : PySem.W.Frag) (f : Str) : Sp := fun vs H Q _ => ∃ (a C : Addr) (v : V), vs = [.ref a, v] ∧ OexC K C ∧ PySem.W.findIn K (.ref C) f = some none ∧ H a = some (exo a C none) ∧
  ∀ dx, H dx = none → dx ≠ a → Q .non (upd (upd H dx (exd dx [(f, v)])) a (exo a C (some dx)))
def spI2 (K : PySem.W.Frag) (f g : Str) : Sp := fun vs H Q _ => ∃ (a C : Addr) (v w : V), vs = [.ref a, v, w] ∧ OexC K C ∧ PySem.W.findIn K (.ref C) f = some none ∧ PySem.W.findIn K (.ref C) g = some none ∧ H a = some (exo a C none) ∧
  ∀ dx, H dx = none → dx ≠ a → ∀ H', H' a = some (exo a C (some dx)) → H' dx = some (exd dx [(g, w), (f, v)]) → (∀ b, b ≠ a → b ≠ dx → H' b = H b) → Q .non H'
/-! ### raise C(e) -/
def mRaise1 (cls f : Str) (m : M Res) : M Fl := bnd (mVal m) fun d => fun ρ => some (.exc ⟨cls, [(f, d)]⟩, ρ)
section
variable {K : PySem.W.Frag} {mg : Str → Option Value} {E : WX} {σ : L2.St} {H : Hp} {De : Ends}
theorem raise1_read {cls f : Str} {m : M Res} {C : Addr} (hm : mg cls = some (.ref C)) (T : OexC K C) (hno : PySem.W.findIn K (.ref C) f = some none) (w : tS K mg E (mRaise1 cls f m) De σ H) :
    tMkO C (spI1 K f) [] (tCons (tE K mg E m) tNil) σ H fun c d H' => E c d σ H' := by
  obtain ⟨Hb, ρ, Rr, S⟩ := w
  refine tE_mono (e_val Rr S) fun v H1 ⟨Hb1, ρ1, d, R1, rp, g1, out, ρ', e, h1, h2⟩ => ?_
  cases e
  refine ⟨by show 1 ≤ 1000; decide, fun a ha => ⟨a, C, v, rfl, T, hno, upd_same, fun dx hdx ne => ⟨rfl, dx, [(f, v)], upd_same, ?_, ?_, ?_⟩⟩⟩
  · rw [upd_ne ne, upd_same]
  · rw [upd_ne ne] at hdx; exact hdx
  · rw [upd_ne ne] at hdx
    have eu : upd (del (upd (upd (upd H1 a (exo a C none)) dx (exd dx [(f, v)])) a (exo a C (some dx))) a) dx (.xd [(f, v)]) = upd H1 dx (.xd [(f, v)]) := by
      funext b
      by_cases hb : b = dx
      · subst hb; rw [upd_same, upd_same]
      · rw [upd_ne hb, upd_ne hb]
        by_cases hba : b = a
        · subst hba; rw [del_same, ha]
        · rw [del_ne hba, upd_ne hba, upd_ne hb, upd_ne hba]
    rw [eu]
    have n := New.mut (o := HO.xd [(f, v)]) R1.ex hdx
    refine h2 _ rfl σ _ _ Hb1 _ n.go (n.rel R1) ⟨hm, .inr ⟨dx, _, rfl, upd_same, fresh_back R1.ex hdx, .cons ⟨rfl, rp⟩ .nil⟩⟩
end
theorem ok_init1 {P : Program} {w : World} {K : PySem.W.Frag} {mg : Str → Option Value} {base : Heap} {f : Addr} {fd : FuncData} {x qual : Str} {st : Stmt} {N : List Str} {a b fl : Str} (F : Fun K x qual st f fd) (S : FnScope N [a, b] (defScope st)) (hN : N = [a, b])
    (hb : ∀ {k : Nat} (cdv : Value) (A : Around) (outer : List Env) (s : Shared) (H : Hp) (E : XK), PSs (cxOf (L2.CX P w) P w K mg base N qual (defScope st) f cdv A outer s H E) (defBody st) (tOst K fl (tVar 0) (tVar 1))) : FnOk P w K mg base (L2.CX P w) 1 f fd [a, b] (spI1 K fl) := by
  subst hN
  refine F.okX S (fun vs H Q E h => ?_) (fun cdv A outer s H vs Q E hr h => ⟨_, hb (k := 0) cdv A outer s H E, ?_⟩)
  · obtain ⟨_, _, _, rfl, _⟩ := h
    rfl
  · obtain ⟨p, C, v, rfl, T, hno, ea, k⟩ := h
    exact ⟨v, rfl, .ref p, rfl, p, C, rfl, T, hno, .inl ⟨ea, fun dx n ne => k dx n ne⟩⟩
/-- what a raise of a class with one field asks -/
structure Ex1 (P : Program) (w : World) (K : PySem.W.Frag) (mg : Str → Option Value) (base : Heap) (x f : Str) : Prop where
  it : ∃ (C fI : Addr) (fdI : FuncData) (ps : List Str), OexC K C ∧ PySem.W.findIn K (.ref C) "__init__" = some (some (.ref fI)) ∧ PySem.W.typeIn K (.ref fI) = some (.type "function") ∧ mg x = some (.ref C) ∧ PySem.W.findIn K (.ref C) f = some none ∧
    FnOk P w K mg base (L2.CX P w) 1 fI fdI ps (spI1 K f) ∧ Binds K fdI ps []
theorem ms_raise1 {X : Cx} {E : WX} {x f : Str} {e : Expr} {m : M Res} {p pos pos' : Pos} (T : Ex1 X.prog X.w X.K X.mg X.base x f) (hc : X.calm = true) (tk : Takes X E) (hr : Room 2 X.A) (hg : Gl X x) (he : PE X e (tE X.K X.mg E m))
    (hdb : (x == ("__debug__" : Str)) = false := by decide) (hs : starEach [e] X.env = (false, eval e X.env) :: starEach [] X.env := by rfl) (hpl : (backTo pos (starEach [] X.env)).any (·.1) = false := by rfl) :
    PS X (.Raise (some (.Call (.Name x p) [e] [] pos)) none pos') (tS X.K X.mg E (mRaise1 x f m)) := by
  obtain ⟨C, fI, fdI, ps, T1, iC, tI, gC, hno, F1, hb⟩ := T.it
  exact (ps_raise hc tk (pmk_oex T1 iC tI F1 hr hb .nil passL hg gC (pa_cons he pa_nil hs) hdb hs hpl)).imp fun De σ H w => raise1_read gC T1 hno w
/-! ### try: one clause with a name -/
/-- the clause: which classes it takes; i: the name's slot -/
def mTry (b : M Fl) (catch_ : Str → Option Bool) (i : Nat) (h : Exc → M Fl) : M Fl := fun ρ => match b ρ with
  | some (.exc x, ρ') => match catch_ x.cls with
    | some true => match ρ'[i]?, h x ρ' with
      | some none, some (.ok .nx, ρ'') => match ρ''[i]? with
        | some none => some (.ok .nx, ρ'')
        | _ => none
      | _, _ => none
    | some false => some (.exc x, ρ')
    | none => none
  | o => o
/-- the exception at slot i -/
structure ExAt (K : PySem.W.Frag) (i : Nat) (a : Addr) (c : Value) (d : Option Addr) (x : Exc) (σ : L2.St) (Hb H : Hp) (mg : Str → Option Value) : Prop where
  at_ : σ[i]? = some (some (.ref a))
  ex : ExcR K mg Hb H c d x
/-- readings in a suite: as tE, tA, tS, the exception in its slot -/
def xE (F : L2.St → Hp → Hp → Prop) (K : PySem.W.Frag) (mg : Str → Option Value) (E : WX) (m : M Res) : TE := fun σ H Q => ∃ Hb ρ, Rel K Hb H σ ρ ∧ F σ Hb H ∧ Sat K mg E σ Hb H ρ m fun r σ' ρ' Hb' H' => σ' = σ → ∀ v, RepR K Hb' H' σ ρ' H v r → Q v H'
def xA (F : L2.St → Hp → Hp → Prop) (K : PySem.W.Frag) (mg : Str → Option Value) (E : WX) (m : M (List Res)) : TA := fun σ H Q => ∃ Hb ρ, Rel K Hb H σ ρ ∧ F σ Hb H ∧ Sat K mg E σ Hb H ρ m fun rs σ' ρ' Hb' H' => σ' = σ → ∀ vs, RepA K Hb' σ vs rs → Q vs H'
def xS (F : L2.St → Hp → Hp → Prop) (K : PySem.W.Frag) (mg : Str → Option Value) (E : WX) (m : M Fl) : TS := fun De σ H => ∃ Hb ρ, Rel K Hb H σ ρ ∧ F σ Hb H ∧ Sat K mg E σ Hb H ρ m (FlP K De H)
/-- kept by a step of an expression -/
def Stable (K : PySem.W.Frag) (F : L2.St → Hp → Hp → Prop) : Prop := ∀ σ ρ Hb H ρ' Hb' H', Go σ ρ Hb H σ ρ' Hb' H' → Rel K Hb H σ ρ → Rel K Hb' H' σ ρ' → F σ Hb H → F σ Hb' H'
section
variable {K : PySem.W.Frag} {mg : Str → Option Value} {E : WX}
theorem paired_mono {Hb Hb' : Hp} (e : Ex Hb Hb') : ∀ {fs : List (Str × V)} {gs : List (Str × D)}, Paired (fun (p : Str × V) (q : Str × D) => p.1 = q.1 ∧ Rp K Hb p.2 q.2) fs gs → Paired (fun (p : Str × V) (q : Str × D) => p.1 = q.1 ∧ Rp K Hb' p.2 q.2) fs gs
  | _, _, .nil => .nil
  | _, _, .cons a b => .cons ⟨a.1, a.2.mono e⟩ (paired_mono e b)
theorem exAt_stable {i : Nat} {a : Addr} {c : Value} {d : Option Addr} {x : Exc} : Stable K (fun σ Hb H => ExAt K i a c d x σ Hb H mg) := by
  intro σ ρ Hb H ρ' Hb' H' g Rr R' h
  refine ⟨h.at_, h.ex.1, ?_⟩
  rcases h.ex.2 with q | ⟨dx, fs, q1, q2, q3, q4⟩
  · exact .inl q
  · have no : ¬ Own σ ρ dx := fun z => by
      obtain ⟨_, ws, z⟩ := Rr.owned z
      rw [q2] at z; cases z
    refine .inr ⟨dx, fs, q1, g.k dx _ q2 no, Classical.byContradiction fun z => ?_, paired_mono g.b q4⟩
    rcases g.f dx q3 z with w | w
    · rw [q2] at w; cases w
    · exact no w
variable {F : L2.St → Hp → Hp → Prop} {X : Cx} {e : Expr} {es : List Expr} {m : M Res} {mr : M (List Res)} {pos : Pos}
theorem xe_of (h : PE X e (tE X.K X.mg E m)) : PE X e (xE F X.K X.mg E m) := h.imp fun σ H Q ⟨Hb, ρ, Rr, _, S⟩ => ⟨Hb, ρ, Rr, S⟩
theorem xa_nil : PA X [] (xA F X.K X.mg E aNil) := ⟨fun pos pins s σ H Q I w => ma_nil.run pos pins s σ H Q I (by
  obtain ⟨Hb, ρ, Rr, _, S⟩ := w
  exact ⟨Hb, ρ, Rr, S⟩)⟩
theorem xe_val (st : Stable K F) {σ : L2.St} {H : Hp} {β : Type} {f : D → M β} {Hb : Hp} {ρ : R} {P : β → L2.St → R → Hp → Hp → Prop} (Rr : Rel K Hb H σ ρ) (hF : F σ Hb H) (S : Sat K mg E σ Hb H ρ (bnd (mVal m) f) P) :
    xE F K mg E m σ H fun v H1 => ∃ Hb1 ρ1 d, Rel K Hb1 H1 σ ρ1 ∧ F σ Hb1 H1 ∧ Rp K Hb1 v d ∧ Go σ ρ Hb H σ ρ1 Hb1 H1 ∧ Sat K mg E σ Hb1 H1 ρ1 (f d) fun b σ' ρ' Hb' H' => Go σ ρ Hb H σ' ρ' Hb' H' → P b σ' ρ' Hb' H' := by
  have S0 : Sat K mg E σ Hb H ρ (bnd m fun r => bnd (valR r) f) P := by
    refine S.eq ?_
    unfold mVal bnd
    cases m ρ with
    | none => rfl
    | some p =>
      obtain ⟨o, ρ'⟩ := p
      cases o <;> rfl
  refine ⟨Hb, ρ, Rr, hF, S0.bnd0.mono ?_⟩
  intro r σ' ρ1 Hb1 H1 g R1 S1 es v rep
  subst es
  obtain ⟨out, ρ2, e1, h1, h2⟩ := S1
  rcases bnd_some e1 with ⟨d, ρ3, e2, e3⟩ | ⟨x, ρ3, e2, _⟩
  · obtain ⟨Hb2, g2, R2, rp⟩ := rep_val g R1 rep e2
    exact ⟨Hb2, ρ3, d, R2, st σ' ρ Hb H ρ3 Hb2 H1 g2 Rr R2 hF, rp, g2, out, ρ2, e3, fun b q σ2 Hb3 H3 _ R3 g3 => h1 b q σ2 Hb3 H3 g3 R3, fun e q σ2 c dd Hb3 H3 g3 R3 x => h2 e q σ2 c dd Hb3 H3 (g2.trans g3) R3 x⟩
  · exact (valR_exc e2).elim
theorem xa_v (st : Stable X.K F) (he : PE X e (xE F X.K X.mg E m)) (hr : PA X es (xA F X.K X.mg E mr)) (hs : starEach (e :: es) X.env = (false, eval e X.env) :: starEach es X.env := by rfl) : PA X (e :: es) (xA F X.K X.mg E (aV m mr)) := (pa_cons he hr hs).imp fun σ H Q w => by
  obtain ⟨Hb, ρ, Rr, hF, S⟩ := w
  obtain ⟨Hb', ρ', Rr', hF', S'⟩ := xe_val st Rr hF S
  refine ⟨Hb', ρ', Rr', hF', S'.mono fun r σ' ρ1 Hb1 H1 _ _ p es v rep => ?_⟩
  obtain ⟨Hb2, ρ2, d, R2, F2, rp, g2, S2⟩ := p es v rep
  refine ⟨Hb2, ρ2, R2, F2, S2.bnd.mono fun rs σ3 ρ3 Hb3 H3 g3 R3 S3 es3 vs rr => ?_⟩
  subst es3
  exact S3.ret R3 g3 (g2.trans g3) rfl _ (.val (rp.mono g3.b) rr)
theorem xe_lst (st : Stable X.K F) (h : PA X es (xA F X.K X.mg E mr)) : PE X (.List es pos) (xE F X.K X.mg E (mLst mr)) := (pe_lst h).imp fun σ H Q w => by
  obtain ⟨Hb, ρ, Rr, hF, S⟩ := w
  refine ⟨Hb, ρ, Rr, hF, S.bnd.mono fun rs σ' ρ2 Hb2 H2 g2 R2 S2 es vs rr => ?_⟩
  subst es
  obtain ⟨out, ρ', e, h1, h2⟩ := S2
  dsimp only at e
  split at e
  · rename_i ds hd
    split at e
    · rename_i c
      cases e
      have r := valsOf_rp rr hd
      refine ⟨by rw [r.length]; exact c, fun p hp => ?_⟩
      have n := New.mut (o := HO.lst vs) R2.ex hp
      have g := g2.trans (n.go (σ := σ') (ρ := ρ2))
      refine h1 _ rfl σ' _ _ n.go (n.rel R2) g rfl _ ⟨p, vs, rfl, fresh_back R2.ex hp, upd_same, r, Classical.byContradiction fun q => g2.t p q hp, fun q => ?_⟩
      obtain ⟨_, ws, z⟩ := R2.owned q
      rw [hp] at z; cases z
    · cases e
  · cases e
end
section
variable {K : PySem.W.Frag} {mg : Str → Option Value} {E : WX} {σ : L2.St} {ρ : R} {Hb H : Hp} {i : Nat} {u : Option V}
theorem rel_put (Rr : Rel K Hb H σ ρ) (h : ρ[i]? = some none) : Rel K Hb H (σ.set i u) ρ := by
  have ne : ∀ {j : Nat} {s : Slot}, ρ[j]? = some (some s) → (σ.set i u)[j]? = σ[j]? := fun {j s} hj => List.getElem?_set_ne fun e => by
    subst e
    rw [h] at hj; cases hj
  refine ⟨by rw [List.length_set]; exact Rr.len, Rr.ex, fun j s h1 h2 => ?_, fun j s h1 h2 => ?_, fun j k s t a h1 h2 h3 h4 h5 h6 => ?_⟩
  · rw [ne h1]; exact Rr.val j s h1 h2
  · rw [ne h1]; exact Rr.own j s h1 h2
  · rw [ne h1] at h5
    rw [ne h2] at h6
    exact Rr.inj j k s t a h1 h2 h3 h4 h5 h6
theorem go_put (h : ρ[i]? = some none) : Go σ ρ Hb H (σ.set i u) ρ Hb H := by
  have ne : ∀ {j : Nat} {s : Slot}, ρ[j]? = some (some s) → (σ.set i u)[j]? = σ[j]? := fun {j s} hj => List.getElem?_set_ne fun e => by
    subst e
    rw [h] at hj; cases hj
  exact ⟨Ex.refl _, fun _ _ h _ => h, fun a h1 h2 => absurd h1 h2, fun _ h => h, fun a ⟨j, s, h1, h2, h3⟩ => .inl ⟨j, s, h1, h2, by rw [← ne h1]; exact h3⟩, fun j s h1 h2 => ⟨ne h1, s, h1, h2⟩, fun j s h1 h2 => ⟨ne h1, h1⟩⟩
/-- the suite's reading: some exception stands in the slot -/
def sufS (K : PySem.W.Frag) (mg : Str → Option Value) (i : Nat) (h : Exc → M Fl) (a : Addr) (cls : Value) (d : Option Addr) : TS := fun De σ H => ∃ x, xS (fun σ Hb H => ExAt K i a cls d x σ Hb H mg) K mg E0W (h x) De σ H
theorem try_read {cv : Value} {mb : M Fl} {ct : Str → Option Bool} {h : Exc → M Fl} {De : Ends} (hct : ∀ n b c, ct n = some b → mg n = some c → PySem.W.exmOne K c cv = some b) (w : tS K mg E (mTry mb ct i h) De σ H) :
    tS K mg (wAs K cv i (sufS K mg i h) E De) mb De σ H := by
  obtain ⟨Hb, ρ, Rr, out, ρ2, e, h1, h2⟩ := w
  unfold mTry at e
  split at e
  · rename_i x ρ' eb
    refine ⟨Hb, ρ, Rr, _, _, eb, fun fl q => (by cases q), fun x' q σ' c d Hb' H' g R' xr => ?_⟩
    cases q
    split at e
    · rename_i hc
      split at e
      · rename_i ρ'' hi eh
        split at e
        · rename_i hi2
          cases e
          refine ⟨true, hct _ _ _ hc xr.1, fun _ a ha => ⟨x, Hb', ρ', rel_put R' hi, ⟨?_, xr⟩, _, _, eh, fun fl q σ2 Hb2 H2 g2 R2 => ?_, fun z q => by cases q⟩, fun q => by cases q⟩
          · refine List.getElem?_set_self ?_
            rw [R'.len]
            exact (List.getElem?_eq_some_iff.mp hi).1
          · cases q
            exact h1 _ rfl _ Hb2 H2 (((g.trans (go_put hi)).trans g2).trans (go_put hi2)) (rel_put R2 hi2)
        · cases e
      · cases e
    · rename_i hc
      cases e
      exact ⟨false, hct _ _ _ hc xr.1, fun q => (by cases q), fun _ => h2 _ rfl σ' c d Hb' H' g R' xr⟩
    · cases e
  · rename_i o no
    refine ⟨Hb, ρ, Rr, out, ρ2, e, h1, fun x q => ?_⟩
    subst q
    exact absurd e (no _ _)
end
theorem ms_try {X : Cx} {E : WX} {i : Nat} {body suite : List Stmt} {b0 : Stmt} {x n : Str} {cv : Value} {np pos pos' : Pos} {mb : M Fl} {ct : Str → Option Bool} {h : Exc → M Fl} (hs : X.stack = X.env :: X.outer) (hf : X.env.frame = some X.env.locals) (hN : X.N.Nodup) (hi : X.N[i]? = some n) (hln : X.env.kindOf n = some .local) (hc : Names X x cv) (tk : Takes X E)
    (hct : ∀ n b c, ct n = some b → X.mg n = some c → PySem.W.exmOne X.K c cv = some b)
    (hb : ∀ (W : WX) (pn : List (Addr × Obj)) (xe : Value → Shared → Prop), Takes (X.tr pn xe) W → PSs (X.tr pn xe) body (tS X.K X.mg W mb))
    (hsu : ∀ (a : Addr) (oe : Obj) (cls : Value) (d : Option Addr) (pn : List (Addr × Obj)), Zc cls d oe → (∃ vs, oe.data = .fields vs) → ∀ y, PSs (X.suite a ((a, oe) :: pn)) (b0 :: suite) (xS (fun σ Hb H => ExAt X.K i a cls d y σ Hb H X.mg) X.K X.mg E0W (h y))) :
    PS X (.Try body [.ExceptHandler (some (.Name x np)) (some n) (b0 :: suite) pos'] [] [] pos) (tS X.K X.mg E (mTry mb ct i h)) :=
  (ps_try_as (tb := fun W => tS X.K X.mg W mb) (ts := fun a cls d => sufS X.K X.mg i h a cls d) hs hf hN hi hln hc tk (fun W pn xe tk' _ => hb W pn xe tk')
    (fun a oe cls d pn hz hfi => ⟨fun pins s σ H De I w => by
      obtain ⟨y, w⟩ := w
      exact (hsu a oe cls d pn hz hfi y).run pins s σ H De I w⟩)).imp fun De σ H w => try_read hct w
/-! ### in a suite -/
section
variable {X : Cx} {E : WX} {F : L2.St → Hp → Hp → Prop}
theorem xs_set {j : Nat} {y : Str} {e : Expr} {m : M Res} {pos pos' : Pos} (hN : X.N.Nodup) (hi : X.N[j]? = some y) (hx : Loc X.env.scope y) (he : PE X e (xE F X.K X.mg E m)) (hs : swapsWith e (some (.Name y pos')) pos.line X.env = pure false := by rfl)
    (hf : X.fn y = true ∨ X.env.scope.names.lookup y = some .local := by first | exact .inl rfl | exact .inr rfl | assumption) : PS X (.Assign [.Name y pos'] e pos) (xS F X.K X.mg E (mAsg j m)) := (ps_set hN hi hx he hs hf).imp fun De σ H w => by
  obtain ⟨Hb, ρ, Rr, hF, S⟩ := w
  refine ⟨Hb, ρ, Rr, hF, S.bnd0.mono fun r σ' ρ1 Hb1 H1 g1 R1 S1 es v rep => ?_⟩
  subst es
  obtain ⟨out, ρ3, e, h1, h2⟩ := S1
  rcases bnd_some e with ⟨u, ρ2, e2, e3⟩ | ⟨x, ρ2, e2, _⟩
  · obtain ⟨_, Hb2, g2, R2⟩ := store_run g1 R1 rep e2
    cases e3
    exact h1 _ rfl _ _ _ g2 R2
  · obtain ⟨z, _⟩ := store_run g1 R1 rep e2
    cases z
theorem xss_one {st : Stmt} {m : M Fl} (h : PS X st (xS F X.K X.mg E m)) : PSs X [st] (xS F X.K X.mg E m) := pss_one h
end
/-- e.f, e the exception of the class cls -/
def mFld (cls f : Str) (x : Exc) : M Res := if x.cls = cls then match x.fs.lookup f with
  | some d => ret (.val d)
  | none => stuck
  else stuck
theorem paired_lookup {K : PySem.W.Frag} {Hb : Hp} {f : Str} {d : D} : ∀ {fs : List (Str × V)} {gs : List (Str × D)}, Paired (fun (p : Str × V) (q : Str × D) => p.1 = q.1 ∧ Rp K Hb p.2 q.2) fs gs → gs.lookup f = some d → ∃ v, fs.lookup f = some v ∧ Rp K Hb v d
  | _, _, .nil, h => by cases h
  | p :: fs, q :: gs, .cons a b, h => by
    obtain ⟨f1, v1⟩ := p
    obtain ⟨f2, v2⟩ := q
    obtain ⟨e, r⟩ := a
    have e : f1 = f2 := e
    subst e
    rw [List.lookup_cons] at h ⊢
    by_cases c : (f == f1) = true
    · rw [c] at h ⊢
      cases h
      exact ⟨v1, rfl, r⟩
    · have c : (f == f1) = false := by simpa using c
      rw [c] at h ⊢
      exact paired_lookup b h
theorem xe_fld {X : Cx} {E : WX} {a C : Addr} {oe : Obj} {cls : Value} {d : Option Addr} {pn : List (Addr × Obj)} {i : Nat} {x : Exc} {y cn f : Str} {np pos : Pos} (T : XfC X.K C) (hno : PySem.W.findIn X.K (.ref C) f = some none) (hcn : X.mg cn = some (.ref C))
    (hz : Zc cls d oe) (hf : ∃ vs, oe.data = .fields vs) (hv : PE (X.suite a ((a, oe) :: pn)) (.Name y np) (tVar i)) (hb : attributeBase (.Name y np) f X.env (eval (.Name y np) X.env) = eval (.Name y np) X.env := by rfl) :
    PE (X.suite a ((a, oe) :: pn)) (.Attribute (.Name y np) f pos) (xE (fun σ Hb H => ExAt X.K i a cls d x σ Hb H X.mg) X.K X.mg E (mFld cn f x)) := (pe_xf T hno hz hf hv hb).imp fun σ H Q w => by
  obtain ⟨Hb, ρ, Rr, ⟨ha, hm, hx⟩, out, ρ', e, h1, h2⟩ := w
  unfold mFld at e
  split at e
  · rename_i hc
    rw [hc, hcn] at hm
    cases hm
    cases hl : x.fs.lookup f with
    | none =>
      rw [hl] at e
      cases e
    | some v =>
      rw [hl] at e
      cases e
      rcases hx with ⟨_, q⟩ | ⟨dx, fs, q1, q2, q3, q4⟩
      · rw [q] at hl; cases hl
      · obtain ⟨u, l1, l2⟩ := paired_lookup q4 hl
        exact ⟨.ref a, ha, rfl, rfl, dx, fs, u, q1, q2, l1, h1 _ rfl σ Hb H Go.refl Rr rfl u l2⟩
  · cases e
/-- isinstance(e, c) -/
def mIsE (cls : Str) (b : Bool) (x : Exc) : M Res := if x.cls = cls then ret (.val (.bool b)) else stuck
/-- what isinstance asks of the class -/
structure IsC (K : PySem.W.Frag) (C : Addr) : Prop where
  cl : (PySem.W.clsIn K C).isSome = true
  xf : XfC K C
  ha : PySem.W.findIn K (.ref C) "__class__" = some (some (.builtin "object.__class__"))
  hn : PySem.W.specialIn K (.builtin "object.__class__") "__get__" = some (some (.builtin "getset_descriptor.__get__"))
  ht : PySem.W.takesIn K (.builtin "object.__class__") = some true
  hm : PySem.W.mroIn K C (.type "object") = some true
/-- isinstance(e, c): e the caught exception, with or without fields -/
def rIsX (K : PySem.W.Frag) (C a : Addr) (cls : Value) (d : Option Addr) : List V → Hp → VK → Prop := fun xs H Q => ∃ (c : V) (cv : Value) (b : Bool), xs = [.ref a, c] ∧ cls = .ref C ∧ (∀ u, RelV c u → u = cv) ∧ PySem.W.kitOne K (.ref C) cv = some b ∧ (d = none ∨ ∃ dx fs, d = some dx ∧ H dx = some (.xd fs)) ∧ Q (.bl b) H
theorem call_isX {X : Cx} {a C : Addr} {oe : Obj} {cls : Value} {d : Option Addr} {pn : List (Addr × Obj)} (T : IsC X.K C) (hz : Zc cls d oe) (hf : ∃ vs, oe.data = .fields vs) : CallR (X.suite a ((a, oe) :: pn)) (.builtin "isinstance") (rIsX X.K C a cls d) := by
  intro pins s σ H xs us Q I r h
  obtain ⟨c, cv, b, rfl, ec, hcv, e, hd, q⟩ := h
  subst ec
  cases r with
  | cons rx rr =>
    cases rr with
    | cons rt rr =>
      cases rr
      cases rx
      have ec := hcv _ rt
      subst ec
      obtain ⟨hget, _⟩ := I.pin (a, oe) (List.mem_append.mpr (.inl List.mem_cons_self))
      obtain ⟨vs, hv⟩ := hf
      obtain ⟨z1, z2⟩ := hz
      have J : ∃ od, PySem.W.InstAt s.heap a oe C od := by
        rcases hd with rfl | ⟨dx, fs, rfl, hdx⟩
        · exact ⟨none, hget, z1, by unfold PySem.W.notCls; rw [hv] <;> rfl, by rw [z2]; trivial⟩
        · obtain ⟨mA, hns, hr⟩ := (show ObjOk X.prog X.w H s.heap dx (.xd fs) from I.hok dx _ hdx)
          obtain ⟨od, ho, _⟩ := lookIn_ns hns
          exact ⟨some od, hget, z1, by unfold PySem.W.notCls; rw [hv] <;> rfl, by rw [z2]; exact ho⟩
      obtain ⟨od, J⟩ := J
      exact PySem.W.kia_one (PySem.W.kitx_exc T.cl T.xf.ga T.xf.gg T.xf.exC T.ha T.hn T.ht T.hm) I.kIn J e (fun z => nomatch z) fun tk => ⟨.bl b, H, I.kept (t' := tk) fun _ _ z => z, rfl, q⟩
theorem xe_isE {X : Cx} {E : WX} {a C : Addr} {oe : Obj} {cls : Value} {d : Option Addr} {pn : List (Addr × Obj)} {i : Nat} {x : Exc} {y cn T2 : Str} {p np p2 pos : Pos} {c : V} {cv : Value} {b : Bool} (T : IsC X.K C) (hcn : X.mg cn = some (.ref C)) (hk : PySem.W.kitOne X.K (.ref C) cv = some b)
    (hcv : ∀ u, RelV c u → u = cv) (hz : Zc cls d oe) (hf : ∃ vs, oe.data = .fields vs) (hv : PE (X.suite a ((a, oe) :: pn)) (.Name y np) (tVar i)) (hc : PE (X.suite a ((a, oe) :: pn)) (.Name T2 p2) (tC c))
    (hg : Gl (X.suite a ((a, oe) :: pn)) "isinstance") (hm : X.mg "isinstance" = none)
    (hs : starEach [.Name y np, .Name T2 p2] X.env = [(false, eval (.Name y np) X.env), (false, eval (.Name T2 p2) X.env)] := by rfl) (hs2 : starEach [.Name T2 p2] X.env = [(false, eval (.Name T2 p2) X.env)] := by rfl) (hpl : (backTo pos (starEach [.Name T2 p2] X.env)).any (·.1) = false := by rfl) :
    PE (X.suite a ((a, oe) :: pn)) (.Call (.Name "isinstance" p) [.Name y np, .Name T2 p2] [] pos) (xE (fun σ Hb H => ExAt X.K i a cls d x σ Hb H X.mg) X.K X.mg E (mIsE cn b x)) :=
  (pe_callB (X := X.suite a ((a, oe) :: pn)) (call_isX T hz hf) hg hm rfl (pa_cons hv (pa_cons hc pa_nil hs2) hs) (by decide) (by decide) hs hpl).imp fun σ H Q w => by
  obtain ⟨Hb, ρ, Rr, ⟨ha, hmx, hx⟩, out, ρ', e, h1, h2⟩ := w
  unfold mIsE at e
  split at e
  · rename_i hcl
    cases e
    rw [hcl, hcn] at hmx
    cases hmx
    refine ⟨.ref a, ha, c, cv, b, rfl, rfl, hcv, hk, ?_, h1 _ rfl σ Hb H Go.refl Rr rfl _ (.bl b)⟩
    rcases hx with ⟨q, _⟩ | ⟨dx, fs, q1, q2, _⟩
    · exact .inl q
    · exact .inr ⟨dx, fs, q1, q2⟩
  · cases e
end Mi

/-! Mi: in, methods of texts, f-strings. -/
namespace Mi
open PySem L2 Evl PySem.Spec PyProof.Rows
theorem _root_.L2.Room.units65 {k : Nat} {A : Around} (r : Room k A) : A.units + 65 < cLine := by have := r.un; omega
def inT (neg : Bool) : D → D → Option Res
  | .str x, .str z => match x.cps.toList with
    | [c] => some (.val (.bool (if neg then !decide (c ∈ z.cps.toList) else decide (c ∈ z.cps.toList))))
    | _ => none
  | _, _ => none
def inL (neg : Bool) : D → D → Option Res
  | d, .list ds => if SeqAt.shaped d && SeqAt.shaped (.list ds) then some (.val (.bool (if neg then !ds.any fun z => PyData.eqv z d else ds.any fun z => PyData.eqv z d))) else none
  | _, _ => none
def inD (neg : Bool) (d e : D) : Option Res := match inT neg d e with
  | some z => some z
  | none => inL neg d e
theorem one_sign {x : Str} {c : Nat} (h : x.cps.toList = [c]) : x = ⟨#[c]⟩ := by
  obtain ⟨a⟩ := x
  congr 1
  apply Array.ext'
  simpa using h
abbrev rInS' : R2 := fun x y H Q => ∃ (c : Nat) (z : Str), x = .str ⟨#[c]⟩ ∧ y = .str z ∧ Q (.bl (decide (c ∈ z.cps.toList))) H
abbrev rNinS' : R2 := fun x y H Q => ∃ (c : Nat) (z : Str), x = .str ⟨#[c]⟩ ∧ y = .str z ∧ Q (.bl (!decide (c ∈ z.cps.toList))) H
theorem bin_inT {K : PySem.W.Frag} : Bin K rInS' (inT false) := by
  intro Hb H x y d e res Q ex hx hy hf k
  unfold inT at hf
  split at hf
  · rename_i a z
    split at hf
    · rename_i c hc
      cases hf
      rw [one_sign hc] at hx
      exact ⟨c, z, hx.str, hy.str, k _ Hb H (New.refl ex) (.bl _)⟩
    · cases hf
  · cases hf
theorem bin_ninT {K : PySem.W.Frag} : Bin K rNinS' (inT true) := by
  intro Hb H x y d e res Q ex hx hy hf k
  unfold inT at hf
  split at hf
  · rename_i a z
    split at hf
    · rename_i c hc
      cases hf
      rw [one_sign hc] at hx
      exact ⟨c, z, hx.str, hy.str, k _ Hb H (New.refl ex) (.bl _)⟩
    · cases hf
  · cases hf
theorem bin_inL {K : PySem.W.Frag} : Bin K (rInD K) (inL false) := by
  intro Hb H x y d e res Q ex hx hy hf k
  unfold inL at hf
  split at hf
  · rename_i ds
    split at hf
    · rename_i c
      rw [Bool.and_eq_true] at c
      cases hf
      exact ⟨d, ds, rp_dp (shaped_can c.1) (hx.rp ex), rp_dp (shaped_can c.2) (hy.rp ex), c.1, c.2, k _ Hb H (New.refl ex) (.bl _)⟩
    · cases hf
  · cases hf
theorem bin_ninL {K : PySem.W.Frag} : Bin K (rNotInD K) (inL true) := by
  intro Hb H x y d e res Q ex hx hy hf k
  unfold inL at hf
  split at hf
  · rename_i ds
    split at hf
    · rename_i c
      rw [Bool.and_eq_true] at c
      cases hf
      exact ⟨d, ds, rp_dp (shaped_can c.1) (hx.rp ex), rp_dp (shaped_can c.2) (hy.rp ex), c.1, c.2, k _ Hb H (New.refl ex) (.bl _)⟩
    · cases hf
  · cases hf
theorem op_inA {X : Cx} (hu : X.A.units + 65 < cLine) : OpR X (compareOp .In) (fun x y H Q => rInS' x y H Q ∨ rInD X.K x y H Q) := op_in_sign.or (op_inD hu)
theorem op_ninA {X : Cx} (hu : X.A.units + 65 < cLine) : OpR X (compareOp .NotIn) (fun x y H Q => rNinS' x y H Q ∨ rNotInD X.K x y H Q) := op_notIn_sign.or (op_notInD hu)
theorem bin_inA {K : PySem.W.Frag} : Bin K (fun x y H Q => rInS' x y H Q ∨ rInD K x y H Q) (inD false) := bin_inT.or bin_inL
theorem bin_ninA {K : PySem.W.Frag} : Bin K (fun x y H Q => rNinS' x y H Q ∨ rNotInD K x y H Q) (inD true) := bin_ninT.or bin_ninL
/-! ### methods of texts -/
def MetS (K : PySem.W.Frag) (r : V → List V → Hp → VK → Prop) (f : Str → List D → Option Res) : Prop := ∀ (Hb H : Hp) (a : Str) (vs : List V) (ds : List D) (res : Res) (Q : VK), Ex Hb H → TopAll K Hb H vs ds → f a ds = some res →
  (∀ v Hb' H', New Hb H Hb' H' → RR K Hb' H' H v res → Q v H') → r (.str a) vs H Q
def mtS (f : Str → List D → Option Res) (x : Res) (rs : List Res) : M Res := fun ρ => match x, lookAll rs ρ with
  | .val (.str a), some ds => match f a ds with
    | some r => some (.ok r, ρ)
    | none => none
  | _, _ => none
def mMt (f : Str → List D → Option Res) (o : M Res) (as : M (List Res)) : M Res := bnd (thaw o) fun x => match x with
  | .val (.str _) => bnd as fun rs => mtS f x rs
  | _ => stuck
theorem mt_read {K : PySem.W.Frag} {mg : Str → Option Value} {E : WX} {σ : L2.St} {H : Hp} {Q : VK} {r : V → List V → Hp → VK → Prop} {f : Str → List D → Option Res} {mo : M Res} {as : M (List Res)} (hr : MetS K r f) (w : tE K mg E (mMt f mo as) σ H Q) : tBM K "str" r (tE K mg E mo) (tA K mg E as) σ H Q := by
  obtain ⟨Hb, ρ, Rr, S⟩ := w
  refine tE_mono (e_thaw Rr S) fun v H1 ⟨Hb1, ρ1, x, R1, rx, g1, S1⟩ => ?_
  split at S1
  · rename_i a
    have ev : v = .str a := by
      cases rx with
      | val h _ => exact h.str_inv
    subst ev
    refine ⟨rfl, ?_⟩
    refine tA_mono (e_args R1 S1) fun vs H2 ⟨Hb2, ρ2, rs, R2, rr, g2, S2⟩ => ?_
    obtain ⟨out, ρ', e, h1, h2⟩ := S2
    unfold mtS at e
    split at e
    · rename_i b ds hb hd
      cases hb
      split at e
      · rename_i res hf
        cases e
        exact hr Hb2 H2 _ vs ds res Q R2.ex (lookAll_top R2 rr hd) hf fun v Hb' H' n rr' => h1 _ rfl σ Hb' H' n.go (n.rel R2) (g2.trans n.go) (g1.trans (g2.trans n.go)) rfl v ((rr'.rep R2).from' (g1.trans g2).t)
      · cases e
    · cases e
  · obtain ⟨_, _, e, _⟩ := S1
    cases e
def startsD (a : Str) : List D → Option Res
  | [.str b] => some (.val (.bool (Txt.startswith a b)))
  | _ => none
def findD (a : Str) : List D → Option Res
  | [.str b] => some (.val (.int (Txt.find a b)))
  | _ => none
theorem met_starts {K : PySem.W.Frag} : MetS K (fun x xs H Q => ∃ a b, x = .str a ∧ xs = [.str b] ∧ Q (.bl (Txt.startswith a b)) H) startsD := by
  intro Hb H a vs ds res Q ex hx hf k
  unfold startsD at hf
  split at hf
  · rename_i b
    cases hf
    obtain ⟨v, rfl, tp⟩ := tops1 hx
    cases tp.str
    exact ⟨a, b, rfl, rfl, k _ Hb H (New.refl ex) (.bl _)⟩
  · cases hf
theorem met_find {K : PySem.W.Frag} : MetS K (fun x xs H Q => ∃ a b, x = .str a ∧ xs = [.str b] ∧ Q (.int (Txt.find a b)) H) findD := by
  intro Hb H a vs ds res Q ex hx hf k
  unfold findD at hf
  split at hf
  · rename_i b
    cases hf
    obtain ⟨v, rfl, tp⟩ := tops1 hx
    cases tp.str
    exact ⟨a, b, rfl, rfl, k _ Hb H (New.refl ex) (.int _)⟩
  · cases hf
/-! ### f-strings -/
def fmtD : D → Option Res
  | .str z => if z.length ≤ sizeLine then some (.val (.str z)) else none
  | .int i => if i.natAbs.log2 < 1920 then some (.val (.str (toString i))) else none
  | _ => none
theorem me_fmt {X : Cx} {E : WX} {e : Expr} {m : M Res} {pos : Pos} (he : PE X e (tE X.K X.mg E m)) : PE X (.FormattedValue e (-1) none pos) (tE X.K X.mg E (mUn fmtD m)) := (pe_fmt he).imp fun σ H Q w => by
  refine tE_mono (un_read w) fun v H1 ⟨Hb, d, res, ex, h1, h2, h3⟩ => ?_
  unfold fmtD at h2
  split at h2
  · rename_i z
    split at h2
    · rename_i c
      cases h2
      exact .inl ⟨z, h1.str, c, h3 _ Hb H1 (New.refl ex) (.str _)⟩
    · cases h2
  · rename_i i
    split at h2
    · rename_i c
      cases h2
      exact .inr ⟨i, h1.int, c, h3 _ Hb H1 (New.refl ex) (.str _)⟩
    · cases h2
  · cases h2
def mJs : List (M Res) → Str → M Res
  | [], acc => ret (.val (.str acc))
  | m :: ms, acc => bnd (thaw m) fun x => match x with
    | .val (.str y) => if (acc ++ y).length ≤ sizeLine then mJs ms (acc ++ y) else stuck
    | _ => stuck
inductive PJd (X : Cx) (E : WX) : List Expr → List (M Res) → Prop where
  | nil : PJd X E [] []
  | cons {e : Expr} {m : M Res} {es : List Expr} {ms : List (M Res)} (h : PE X e (tE X.K X.mg E m)) (r : PJd X E es ms) : PJd X E (e :: es) (m :: ms)
theorem PJd.pj {X : Cx} {E : WX} : ∀ {es : List Expr} {ms : List (M Res)}, PJd X E es ms → PJ X es (ms.map fun m => tE X.K X.mg E m)
  | _, _, .nil => .nil
  | _, _, .cons h r => .cons h r.pj
theorem js_read {K : PySem.W.Frag} {mg : Str → Option Value} {E : WX} {σ : L2.St} {Q : VK} : ∀ (ms : List (M Res)) (acc : Str) (Hb H : Hp) (ρ : R) (H0 : Hp), Rel K Hb H σ ρ → (∀ a, H0 a ≠ none → H a ≠ none) →
    Sat K mg E σ Hb H ρ (mJs ms acc) (fun r σ' ρ' Hb' H' => σ' = σ → ∀ v, RepR K Hb' H' σ ρ' H0 v r → Q v H') → tJs (ms.map fun m => tE K mg E m) acc σ H fun out H1 => Q (.str out) H1
  | [], acc, Hb, H, ρ, H0, Rr, _, S => S.ret Rr rfl _ (.str acc)
  | m :: ms, acc, Hb, H, ρ, H0, Rr, t, S => by
    show tE K mg E m σ H fun x H1 => ∃ y : Str, x = .str y ∧ (acc ++ y).length ≤ sizeLine ∧ tJs (ms.map fun m => tE K mg E m) (acc ++ y) σ H1 fun out H1 => Q (.str out) H1
    have S : Sat K mg E σ Hb H ρ (bnd (thaw m) fun x => match x with | .val (.str y) => if (acc ++ y).length ≤ sizeLine then mJs ms (acc ++ y) else stuck | _ => stuck) (fun r σ' ρ' Hb' H' => σ' = σ → ∀ v, RepR K Hb' H' σ ρ' H0 v r → Q v H') := S
    refine tE_mono (e_thaw Rr S) fun v H1 ⟨Hb1, ρ1, x, R1, rx, g1, S1⟩ => ?_
    split at S1
    · rename_i y
      split at S1
      · rename_i c
        have ev : v = .str y := by
          cases rx with
          | val h _ => exact h.str_inv
        exact ⟨y, ev, c, js_read ms (acc ++ y) Hb1 H1 ρ1 H0 R1 (fun a h => g1.t a (t a h)) (S1.mono fun r σ' ρ' Hb' H' g2 _ p => p (g1.trans g2))⟩
      · obtain ⟨_, _, e, _⟩ := S1
        cases e
    · obtain ⟨_, _, e, _⟩ := S1
      cases e
theorem me_js {X : Cx} {E : WX} {v1 v2 : Expr} {rest : List Expr} {ms : List (M Res)} {pos : Pos} (h : PJd X E (v1 :: v2 :: rest) ms) : PE X (.JoinedStr (v1 :: v2 :: rest) pos) (tE X.K X.mg E (mJs ms Str.empty)) := (pe_joined h.pj).imp fun σ H Q ⟨Hb, ρ, Rr, S⟩ => js_read ms Str.empty Hb H ρ H Rr (fun _ h => h) S
end Mi

/-! Mi: what is known of an exception class; a try's clause. -/
namespace Mi
open PySem L2 Evl PySem.Spec PyProof.Rows
/-- a clause that takes the one class cls -/
def ct1 (cls : Str) : Str → Option Bool := fun n => if n = cls then some true else none
theorem hct1 {K : PySem.W.Frag} {mg : Str → Option Value} {cls : Str} {C : Addr} (hC : mg cls = some (.ref C)) (he : PySem.W.exmOne K (.ref C) (.ref C) = some true) : ∀ n b c, ct1 cls n = some b → mg n = some c → PySem.W.exmOne K c (.ref C) = some b := by
  intro n b c h hm
  unfold ct1 at h
  split at h
  · rename_i e
    cases h
    subst e
    rw [hC] at hm
    cases hm
    exact he
  · cases h
/-- the class C, named x, with the one field f, as the top has written it -/
structure XcT (K : PySem.W.Frag) (mg : Str → Option Value) (x f : Str) (C : Addr) : Prop where
  gC : mg x = some (.ref C)
  ox : OexC K C
  xf : XfC K C
  no : PySem.W.findIn K (.ref C) f = some none
  ex : PySem.W.exmOne K (.ref C) (.ref C) = some true
  is : IsC K C
theorem exm_selfC {K : PySem.W.Frag} {S : Addr} (h1 : PySem.W.subIn K (.ref S) (.type "BaseException") = some true) (h2 : (PySem.W.clsIn K S).isSome = true) (h3 : PySem.W.typeIn K (.ref S) = some (.type "type")) (h4 : PySem.W.subIn K (.ref S) (.ref S) = some true) : PySem.W.exmOne K (.ref S) (.ref S) = some true := by
  have e1 : (PySem.W.subIn K (.ref S) (.type "BaseException") == some true) = true := by rw [h1] <;> rfl
  have e2 : ((PySem.W.clsIn K S).isSome && PySem.W.typeIn K (.ref S) == some (.type "type")) = true := by rw [h2, h3] <;> rfl
  unfold PySem.W.exmOne
  first
    | (rw [if_pos e1, if_pos e2]; exact h4)
    | (show (if (PySem.W.subIn K (.ref S) (.type "BaseException") == some true) = true then (if ((PySem.W.clsIn K S).isSome && PySem.W.typeIn K (.ref S) == some (.type "type")) = true then PySem.W.subIn K (.ref S) (.ref S) else none) else none) = some true
       rw [if_pos e1, if_pos e2]; exact h4)
theorem xct_mk {K : PySem.W.Frag} {h : Heap} {mg : Str → Option Value} {x f : Str} {C : Addr} {nm q : Str} {N : Addr} {bs bm : List Value} {sn : List Str} {sub : List Value} {ab : Bool} {col : Option Bool} {dd : Option Addr} {m0 m1 m2 m3 m5 : Option Value} (X : K.In h) (G : h.Ns mainGlobals mg)
    (aC : PySem.W.nsIn K mainGlobals x = some (some (.ref C))) (xL : K.lookup C = some (excClassObj nm q C N bs bm true sn sub ab col dd m0 m1 m2 m3 m5 "ValueError.__new__")) (vm : PySem.HandSPX.refsVE bm = true)
    (sa : PySem.W.findIn K (.ref C) "__setattr__" = some (some (.builtin "object.__setattr__"))) (ga : PySem.W.findIn K (.ref C) "__getattribute__" = some (some (.builtin "BaseException.__getattribute__"))) (gg : PySem.W.findIn K (.ref C) "__getattr__" = some none) (no : PySem.W.findIn K (.ref C) f = some none)
    (kC : PySem.W.keepIn K (.ref C) = true) (eC : PySem.W.subIn K (.ref C) (.type "BaseException") = some true) (tC : PySem.W.typeIn K (.ref C) = some (.type "type")) (hC : PySem.W.hasDictIn K C = true) (iC : (PySem.W.clsIn K C).isSome = true) (sC : PySem.W.subIn K (.ref C) (.ref C) = some true)
    (ha : PySem.W.findIn K (.ref C) "__class__" = some (some (.builtin "object.__class__"))) (hn : PySem.W.specialIn K (.builtin "object.__class__") "__get__" = some (some (.builtin "getset_descriptor.__get__"))) (ht : PySem.W.takesIn K (.builtin "object.__class__") = some true) (hm : PySem.W.mroIn K C (.type "object") = some true) : XcT K mg x f C :=
  ⟨PySem.W.mg_of X G aC, ⟨⟨nm, q, N, bs, bm, sn, sub, ab, col, dd, m0, m1, m2, m3, m5, xL, vm⟩, sa, eC, tC, kC⟩, ⟨ga, gg, eC, hC⟩, no, exm_selfC eC iC tC sC, ⟨iC, ⟨ga, gg, eC, hC⟩, ha, hn, ht, hm⟩⟩
theorem ex1_mk {P : Program} {w : World} {K : PySem.W.Frag} {mg : Str → Option Value} {base : Heap} {x f : Str} {C fI : Addr} {fdI : FuncData} {ps : List Str} (T : XcT K mg x f C) (a1 : PySem.W.findIn K (.ref C) "__init__" = some (some (.ref fI))) (t1 : PySem.W.typeIn K (.ref fI) = some (.type "function"))
    (F1 : FnOk P w K mg base (L2.CX P w) 1 fI fdI ps (spI1 K f)) (hb : Binds K fdI ps []) : Ex1 P w K mg base x f := ⟨C, fI, fdI, ps, T.ox, a1, t1, T.gC, T.no, F1, hb⟩
theorem idat {K : PySem.W.Frag} {h : Heap} {mg : Str → Option Value} {x fl qual : Str} {st : Stmt} {C f : Addr} {oc : Value} {od an : Option Addr} {osl : Array (Option Value)} {kV doc pm cdv ct : Value} (_ : K.In h) (_ : XcT K mg x fl C) (a : PySem.W.findIn K (.ref C) "__init__" = some (some (.ref f))) (t : PySem.W.typeIn K (.ref f) = some (.type "function"))
    (l : K.lookup f = some ⟨oc, od, .func (PySem.W.fnOf "__init__" qual (defArgs st) (defBody st) (defScope st) .none kV doc pm an cdv ct), osl⟩) (c : PySem.W.codeIn K cdv qual = true) (k : PySem.W.keepIn K (.ref f) = true) :
    ∃ (f : Addr) (fd : FuncData), PySem.W.findIn K (.ref C) "__init__" = some (some (.ref f)) ∧ PySem.W.typeIn K (.ref f) = some (.type "function") ∧ Fun K "__init__" qual st f fd := ⟨f, _, a, t, fun_mk l c k⟩
end Mi

namespace K12
open PySem L2 Evl PySem.Spec PyProof.Rows Mi
def top (i : Nat) : Stmt := PySem.Challenge.pw_carryoffice_k12_any_text_as_ratio.main.body.getD i (.Pass ⟨0, 0, 0, 0⟩)
def v_BEYOND : D := .int 10000000000000000000000000000000000000000000000000000000000000000000000000000000000000000000000000000000000000000000000000000000000000000000000000000000000000000000000000000000000000000000000000000000000000000000000000000000000000000000000000000000000000000000000000000000000000000000000000000000000000000000000000000000000000000000000000000000000000000000000000000000000000000000000000000000000000000
def v_DIGITS : D := .int 400
def v_FIGURES : D := .str "0123456789"
structure Txt (K : PySem.W.Frag) (mg : Str → Option Value) (C_BadRatio : Addr) (C_InvalidText : Addr) (C_OfficeError : Addr) : Prop where
  b_ValueError : mg "ValueError" = none
  b_abs : mg "abs" = none
  b_bool : mg "bool" = none
  b_divmod : mg "divmod" = none
  b_int : mg "int" = none
  b_isinstance : mg "isinstance" = none
  b_len : mg "len" = none
  b_max : mg "max" = none
  b_range : mg "range" = none
  b_repr : mg "repr" = none
  b_str : mg "str" = none
  b_tuple : mg "tuple" = none
  g_gcd : mg "gcd" = some (.builtin "math.gcd")
  c_BEYOND : Cst K mg "BEYOND" v_BEYOND
  c_DIGITS : Cst K mg "DIGITS" v_DIGITS
  c_FIGURES : Cst K mg "FIGURES" v_FIGURES
  x_BadRatio : XcT K mg "BadRatio" "position" C_BadRatio
  g_InvalidText : mg "InvalidText" = some (.ref C_InvalidText)
  g_OfficeError : mg "OfficeError" = some (.ref C_OfficeError)
  k_BadRatio_InvalidText : PySem.W.kitOne K (.ref C_BadRatio) (.ref C_InvalidText) = some false
  k_BadRatio_OfficeError : PySem.W.kitOne K (.ref C_BadRatio) (.ref C_OfficeError) = some true
  k_BadRatio_ValueError : PySem.W.kitOne K (.ref C_BadRatio) (.type "ValueError") = some true
theorem txt_mk {K : PySem.W.Frag} {h : Heap} {mg : Str → Option Value} (X : K.In h) (G : h.Ns mainGlobals mg) {t_BEYOND : Tok} {t_DIGITS : Tok} {t_FIGURES : Tok} {C_BadRatio : Addr} {C_InvalidText : Addr} {C_OfficeError : Addr} {nm_BadRatio q_BadRatio : Str} {N_BadRatio : Addr} {bs_BadRatio bm_BadRatio : List Value} {sn_BadRatio : List Str} {sub_BadRatio : List Value} {ab_BadRatio : Bool} {col_BadRatio : Option Bool} {dd_BadRatio : Option Addr} {m0_BadRatio m1_BadRatio m2_BadRatio m3_BadRatio m5_BadRatio : Option Value}
    (b_ValueError : PySem.W.nsIn K mainGlobals "ValueError" = some none)
    (b_abs : PySem.W.nsIn K mainGlobals "abs" = some none)
    (b_bool : PySem.W.nsIn K mainGlobals "bool" = some none)
    (b_divmod : PySem.W.nsIn K mainGlobals "divmod" = some none)
    (b_int : PySem.W.nsIn K mainGlobals "int" = some none)
    (b_isinstance : PySem.W.nsIn K mainGlobals "isinstance" = some none)
    (b_len : PySem.W.nsIn K mainGlobals "len" = some none)
    (b_max : PySem.W.nsIn K mainGlobals "max" = some none)
    (b_range : PySem.W.nsIn K mainGlobals "range" = some none)
    (b_repr : PySem.W.nsIn K mainGlobals "repr" = some none)
    (b_str : PySem.W.nsIn K mainGlobals "str" = some none)
    (b_tuple : PySem.W.nsIn K mainGlobals "tuple" = some none)
    (g_gcd : PySem.W.nsIn K mainGlobals "gcd" = some (some (.builtin "math.gcd")))
    (c_BEYOND : PySem.W.nsIn K mainGlobals "BEYOND" = some (some (.int 10000000000000000000000000000000000000000000000000000000000000000000000000000000000000000000000000000000000000000000000000000000000000000000000000000000000000000000000000000000000000000000000000000000000000000000000000000000000000000000000000000000000000000000000000000000000000000000000000000000000000000000000000000000000000000000000000000000000000000000000000000000000000000000000000000000000000000 t_BEYOND)))
    (c_DIGITS : PySem.W.nsIn K mainGlobals "DIGITS" = some (some (.int 400 t_DIGITS)))
    (c_FIGURES : PySem.W.nsIn K mainGlobals "FIGURES" = some (some (.str "0123456789" t_FIGURES)))
    (aC_BadRatio : PySem.W.nsIn K mainGlobals "BadRatio" = some (some (.ref C_BadRatio)))
    (xL_BadRatio : K.lookup C_BadRatio = some (excClassObj nm_BadRatio q_BadRatio C_BadRatio N_BadRatio bs_BadRatio bm_BadRatio true sn_BadRatio sub_BadRatio ab_BadRatio col_BadRatio dd_BadRatio m0_BadRatio m1_BadRatio m2_BadRatio m3_BadRatio m5_BadRatio "ValueError.__new__"))
    (vm_BadRatio : PySem.HandSPX.refsVE bm_BadRatio = true)
    (sa_BadRatio : PySem.W.findIn K (.ref C_BadRatio) "__setattr__" = some (some (.builtin "object.__setattr__")))
    (ga_BadRatio : PySem.W.findIn K (.ref C_BadRatio) "__getattribute__" = some (some (.builtin "BaseException.__getattribute__")))
    (gg_BadRatio : PySem.W.findIn K (.ref C_BadRatio) "__getattr__" = some none)
    (no_BadRatio : PySem.W.findIn K (.ref C_BadRatio) "position" = some none)
    (kC_BadRatio : PySem.W.keepIn K (.ref C_BadRatio) = true)
    (eC_BadRatio : PySem.W.subIn K (.ref C_BadRatio) (.type "BaseException") = some true)
    (tC_BadRatio : PySem.W.typeIn K (.ref C_BadRatio) = some (.type "type"))
    (hC_BadRatio : PySem.W.hasDictIn K C_BadRatio = true)
    (iC_BadRatio : PySem.W.isClsIn K C_BadRatio = true)
    (sC_BadRatio : PySem.W.subIn K (.ref C_BadRatio) (.ref C_BadRatio) = some true)
    (ha_BadRatio : PySem.W.findIn K (.ref C_BadRatio) "__class__" = some (some (.builtin "object.__class__")))
    (hn_BadRatio : PySem.W.specialIn K (.builtin "object.__class__") "__get__" = some (some (.builtin "getset_descriptor.__get__")))
    (ht_BadRatio : PySem.W.takesIn K (.builtin "object.__class__") = some true)
    (hm_BadRatio : PySem.W.mroIn K C_BadRatio (.type "object") = some true)
    (g_InvalidText : PySem.W.nsIn K mainGlobals "InvalidText" = some (some (.ref C_InvalidText)))
    (g_OfficeError : PySem.W.nsIn K mainGlobals "OfficeError" = some (some (.ref C_OfficeError)))
    (k_BadRatio_InvalidText : PySem.W.kitOne K (.ref C_BadRatio) (.ref C_InvalidText) = some false)
    (k_BadRatio_OfficeError : PySem.W.kitOne K (.ref C_BadRatio) (.ref C_OfficeError) = some true)
    (k_BadRatio_ValueError : PySem.W.kitOne K (.ref C_BadRatio) (.type "ValueError") = some true)
    : Txt K mg C_BadRatio C_InvalidText C_OfficeError := ⟨PySem.W.mg_none_of X G b_ValueError, PySem.W.mg_none_of X G b_abs, PySem.W.mg_none_of X G b_bool, PySem.W.mg_none_of X G b_divmod, PySem.W.mg_none_of X G b_int, PySem.W.mg_none_of X G b_isinstance, PySem.W.mg_none_of X G b_len, PySem.W.mg_none_of X G b_max, PySem.W.mg_none_of X G b_range, PySem.W.mg_none_of X G b_repr, PySem.W.mg_none_of X G b_str, PySem.W.mg_none_of X G b_tuple, PySem.W.mg_of X G g_gcd, cst_int X G c_BEYOND, cst_int X G c_DIGITS, cst_str X G c_FIGURES, xct_mk X G aC_BadRatio xL_BadRatio vm_BadRatio sa_BadRatio ga_BadRatio gg_BadRatio no_BadRatio kC_BadRatio eC_BadRatio tC_BadRatio hC_BadRatio iC_BadRatio sC_BadRatio ha_BadRatio hn_BadRatio ht_BadRatio hm_BadRatio, PySem.W.mg_of X G g_InvalidText, PySem.W.mg_of X G g_OfficeError, k_BadRatio_InvalidText, k_BadRatio_OfficeError, k_BadRatio_ValueError⟩
theorem b__law_pot_2 : BindsQ "_law_pot" (top 20) ["script", "k"] 2 [] (List.range 2) := fun _ _ _ _ _ _ us ws h1 h2 => match us, h1, ws, h2 with | [_, _], _, [], _ => rfl
theorem b__law_long_texts_1 : BindsQ "_law_long_texts" (top 31) ["pot"] 1 [] (List.range 1) := fun _ _ _ _ _ _ us ws h1 h2 => match us, h1, ws, h2 with | [_], _, [], _ => rfl
theorem b__law_right_1 : BindsQ "_law_right" (top 30) ["text"] 1 [] (List.range 1) := fun _ _ _ _ _ _ us ws h1 h2 => match us, h1, ws, h2 with | [_], _, [], _ => rfl
theorem b__law_pick_2 : BindsQ "_law_pick" (top 22) ["pot", "some"] 2 [] (List.range 2) := fun _ _ _ _ _ _ us ws h1 h2 => match us, h1, ws, h2 with | [_, _], _, [], _ => rfl
theorem b__law_draw_2 : BindsQ "_law_draw" (top 21) ["pot", "size"] 2 [] (List.range 2) := fun _ _ _ _ _ _ us ws h1 h2 => match us, h1, ws, h2 with | [_, _], _, [], _ => rfl
theorem b__law_ratio_2 : BindsQ "_law_ratio" (top 24) ["number", "under"] 2 [] (List.range 2) := fun _ _ _ _ _ _ us ws h1 h2 => match us, h1, ws, h2 with | [_, _], _, [], _ => rfl
theorem b_ratio_text_1 : BindsQ "ratio_text" (top 16) ["ratio"] 1 [] (List.range 1) := fun _ _ _ _ _ _ us ws h1 h2 => match us, h1, ws, h2 with | [_], _, [], _ => rfl
theorem b__law_text_1 : BindsQ "_law_text" (top 25) ["ratio"] 1 [] (List.range 1) := fun _ _ _ _ _ _ us ws h1 h2 => match us, h1, ws, h2 with | [_], _, [], _ => rfl
theorem b_ratio_text_0_ratio : BindsQ "ratio_text" (top 16) ["ratio"] 0 ["ratio"] [0] := fun _ _ _ _ _ _ us ws h1 h2 => match us, h1, ws, h2 with | [], _, [_], _ => rfl
theorem b_parse_ratio_0_text : BindsQ "parse_ratio" (top 18) ["text"] 0 ["text"] [0] := fun _ _ _ _ _ _ us ws h1 h2 => match us, h1, ws, h2 with | [], _, [_], _ => rfl
theorem b__law_bent_2 : BindsQ "_law_bent" (top 28) ["pot", "text"] 2 [] (List.range 2) := fun _ _ _ _ _ _ us ws h1 h2 => match us, h1, ws, h2 with | [_, _], _, [], _ => rfl
theorem b__law_read_1 : BindsQ "_law_read" (top 27) ["text"] 1 [] (List.range 1) := fun _ _ _ _ _ _ us ws h1 h2 => match us, h1, ws, h2 with | [_], _, [], _ => rfl
theorem b__law_heard_1 : BindsQ "_law_heard" (top 29) ["text"] 1 [] (List.range 1) := fun _ _ _ _ _ _ us ws h1 h2 => match us, h1, ws, h2 with | [_], _, [], _ => rfl
theorem b__law_next_3 : BindsQ "_law_next" (top 26) ["state", "sign", "many"] 3 [] (List.range 3) := fun _ _ _ _ _ _ us ws h1 h2 => match us, h1, ws, h2 with | [_, _, _], _, [], _ => rfl
theorem b__law_common_2 : BindsQ "_law_common" (top 23) ["one", "other"] 2 [] (List.range 2) := fun _ _ _ _ _ _ us ws h1 h2 => match us, h1, ws, h2 with | [_, _], _, [], _ => rfl
theorem b_parse_ratio_1 : BindsQ "parse_ratio" (top 18) ["text"] 1 [] (List.range 1) := fun _ _ _ _ _ _ us ws h1 h2 => match us, h1, ws, h2 with | [_], _, [], _ => rfl
theorem b__behind_digits_3 : BindsQ "_behind_digits" (top 17) ["text", "start", "is_under"] 3 [] (List.range 3) := fun _ _ _ _ _ _ us ws h1 h2 => match us, h1, ws, h2 with | [_, _, _], _, [], _ => rfl
theorem b_fraction_2 : BindsQ "fraction" (top 15) ["number", "under"] 2 [] (List.range 2) := fun _ _ _ _ _ _ us ws h1 h2 => match us, h1, ws, h2 with | [_, _], _, [], _ => rfl
theorem b_want_ratio_1 : BindsQ "want_ratio" (top 14) ["value"] 1 [] (List.range 1) := fun _ _ _ _ _ _ us ws h1 h2 => match us, h1, ws, h2 with | [_], _, [], _ => rfl
theorem b_is_ratio_1 : BindsQ "is_ratio" (top 13) ["value"] 1 [] (List.range 1) := fun _ _ _ _ _ _ us ws h1 h2 => match us, h1, ws, h2 with | [_], _, [], _ => rfl
theorem b_is_row_2 : BindsQ "is_row" (top 8) ["value", "many"] 2 [] (List.range 2) := fun _ _ _ _ _ _ us ws h1 h2 => match us, h1, ws, h2 with | [_, _], _, [], _ => rfl
theorem b_is_integer_1 : BindsQ "is_integer" (top 7) ["value"] 1 [] (List.range 1) := fun _ _ _ _ _ _ us ws h1 h2 => match us, h1, ws, h2 with | [_], _, [], _ => rfl
theorem sc__law_pot : FnScope ["script", "k", "cell"] ["script", "k"] (defScope (top 20)) := ⟨rfl, rfl, rfl, by decide +kernel, rfl, by decide +kernel, by decide +kernel⟩
def m__law_pot : M Fl := (mSeq (mAsg 2 (mIf (mB (mBin ltD (mVar 1) (mCall lenD (aT (mVar 0) aNil)))) (mCall absD (aT (mBin ixD (mVar 0) (mVar 1)) aNil)) (mBin addD (mBin mulD (mC (.int 829)) (mVar 1)) (mC (.int 1451))))) (mRet (mLst (aV (mCall max2D (aT (mC (.int 0)) (aT (mBin subD (mVar 2) (mBin powD (mC (.int 10)) (mC (.int 18)))) aNil))) (aV (mBin addD (mBin modD (mCall intD (aT (mBin addD (mBin addD (mBin mulD (mBin modD (mCall intD (aT (mVar 2) aNil)) (mC (.int 2147483549))) (mC (.int 42013))) (mBin mulD (mC (.int 457)) (mVar 1))) (mC (.int 907))) aNil)) (mC (.int 2147483563))) (mC (.int 1))) aNil)))))
def f__law_pot : Fn := mkFn 2 3 none m__law_pot
theorem sc__law_draw : FnScope ["pot", "size", "digit"] ["pot", "size"] (defScope (top 21)) := ⟨rfl, rfl, rfl, by decide +kernel, rfl, by decide +kernel, by decide +kernel⟩
def m__law_draw : M Fl := (mSeq (mIfS (mB (mBin gtD (mBin ixD (mVar 0) (mC (.int 0))) (mC (.int 0)))) (mSeq (mAsgG (gT 2 (gsCons (gIx 0 (mC (.int 0))) (gsCons (gN 2) gsNil))) (mCall divmodD (aT (mBin ixD (mVar 0) (mC (.int 0))) (aT (mVar 1) aNil)))) (mRet (mVar 2))) mNx) (mSeq (mSetIx 0 (mC (.int 1)) (mBin modD (mCall intD (aT (mBin addD (mBin mulD (mBin ixD (mVar 0) (mC (.int 1))) (mC (.int 40692))) (mC (.int 457))) aNil)) (mC (.int 2147483399)))) (mRet (mBin modD (mCall intD (aT (mBin fdivD (mBin modD (mCall intD (aT (mBin mulD (mBin ixD (mVar 0) (mC (.int 1))) (mBin ixD (mVar 0) (mC (.int 1)))) aNil)) (mC (.int 2147483323))) (mC (.int 19))) aNil)) (mVar 1)))))
def f__law_draw : Fn := mkFn 2 3 (some 0) m__law_draw
theorem sc__law_pick : FnScope ["pot", "some"] ["pot", "some"] (defScope (top 22)) := ⟨rfl, rfl, rfl, by decide +kernel, rfl, by decide +kernel, by decide +kernel⟩
def m__law_pick : M Fl := (mRet (mBin ixD (mVar 1) (mF 2 f__law_draw (some 0) (aT (mVar 0) (aT (mCall lenD (aT (mVar 1) aNil)) aNil)))))
def f__law_pick : Fn := mkFn 2 2 (some 0) m__law_pick
theorem sc__law_long_texts : FnScope ["pot", "many", "digit", "other", "head"] ["pot"] (defScope (top 31)) := ⟨rfl, rfl, rfl, by decide +kernel, rfl, by decide +kernel, by decide +kernel⟩
def m__law_long_texts : M Fl := (mSeq (mAsg 1 (mF 2 f__law_pick (some 0) (aT (mVar 0) (aT (mLst (aV (mC (.int 399)) (aV (mC (.int 400)) (aV (mC (.int 401)) (aV (mC (.int 402)) aNil))))) aNil)))) (mSeq (mAsg 2 (mF 2 f__law_pick (some 0) (aT (mVar 0) (aT (mLst (aV (mC (.str "1")) (aV (mC (.str "9")) (aV (mC (.str "7")) aNil)))) aNil)))) (mSeq (mAsg 3 (mF 2 f__law_pick (some 0) (aT (mVar 0) (aT (mLst (aV (mC (.int 1)) (aV (mC (.int 2)) (aV (mC (.int 399)) (aV (mC (.int 400)) (aV (mC (.int 401)) (aV (mC (.int 405)) aNil))))))) aNil)))) (mSeq (mAsg 4 (mBin addD (mF 2 f__law_pick (some 0) (aT (mVar 0) (aT (mLst (aV (mC (.str "")) (aV (mC (.str "-")) aNil))) aNil))) (mBin mulD (mVar 2) (mVar 1)))) (mRet (mLst (aV (mVar 4) (aV (mBin addD (mVar 4) (mC (.str "/3"))) (aV (mBin addD (mBin addD (mVar 4) (mC (.str "/"))) (mBin mulD (mVar 2) (mVar 3))) (aV (mBin addD (mC (.str "1/")) (mBin mulD (mVar 2) (mVar 3))) (aV (mBin addD (mC (.str "-0/")) (mBin mulD (mVar 2) (mVar 3))) (aV (mBin addD (mVar 4) (mC (.str "x"))) aNil))))))))))))
def f__law_long_texts : Fn := mkFn 1 5 (some 0) m__law_long_texts
theorem sc__law_next : FnScope ["state", "sign", "many"] ["state", "sign", "many"] (defScope (top 26)) := ⟨rfl, rfl, rfl, by decide +kernel, rfl, by decide +kernel, by decide +kernel⟩
def m__law_next : M Fl := (mSeq (mIfS (mAnd (mB (mBin eqsD (mVar 0) (mC (.str "begin")))) (mB (mBin eqsD (mVar 1) (mC (.str "-"))))) (mRet (mC (.str "sign"))) mNx) (mSeq (mIfS (mAnd (mB (mBin (inD false) (mVar 0) (mLst (aV (mC (.str "begin")) (aV (mC (.str "sign")) aNil))))) (mB (mBin (inD false) (mVar 1) (mC (.str "0123456789"))))) (mRet (mIf (mB (mBin eqsD (mVar 1) (mC (.str "0")))) (mC (.str "nought")) (mC (.str "digits")))) mNx) (mSeq (mIfS (mAnd (mB (mBin eqsD (mVar 0) (mC (.str "digits")))) (mAnd (mB (mBin (inD false) (mVar 1) (mC (.str "0123456789")))) (mB (mBin ltD (mVar 2) (mC (.int 400)))))) (mRet (mC (.str "digits"))) mNx) (mSeq (mIfS (mAnd (mB (mBin (inD false) (mVar 0) (mLst (aV (mC (.str "nought")) (aV (mC (.str "digits")) aNil))))) (mB (mBin eqsD (mVar 1) (mC (.str "/"))))) (mRet (mC (.str "slash"))) mNx) (mSeq (mIfS (mAnd (mB (mBin eqsD (mVar 0) (mC (.str "slash")))) (mB (mBin (inD false) (mVar 1) (mC (.str "123456789"))))) (mRet (mC (.str "under"))) mNx) (mSeq (mIfS (mAnd (mB (mBin eqsD (mVar 0) (mC (.str "under")))) (mAnd (mB (mBin (inD false) (mVar 1) (mC (.str "0123456789")))) (mB (mBin ltD (mVar 2) (mC (.int 400)))))) (mRet (mC (.str "under"))) mNx) (mRet (mC .none))))))))
def f__law_next : Fn := mkFn 3 3 none m__law_next
theorem sc__law_common : FnScope ["one", "other"] ["one", "other"] (defScope (top 23)) := ⟨rfl, rfl, rfl, by decide +kernel, rfl, by decide +kernel, by decide +kernel⟩
def m__law_common : M Fl := (mSeq (mWhile (mB (mBin nesD (mVar 1) (mC (.int 0)))) (mPar 0 1 (mVar 1) (mBin subD (mVar 0) (mBin mulD (mBin fdivD (mVar 0) (mVar 1)) (mVar 1)))) 100000) (mRet (mCall absD (aT (mVar 0) aNil))))
def f__law_common : Fn := mkFn 2 2 none m__law_common
theorem sc__law_ratio : FnScope ["number", "under", "common"] ["number", "under"] (defScope (top 24)) := ⟨rfl, rfl, rfl, by decide +kernel, rfl, by decide +kernel, by decide +kernel⟩
def m__law_ratio : M Fl := (mSeq (mAsg 2 (mF 2 f__law_common none (aT (mVar 0) (aT (mVar 1) aNil)))) (mRet (mTup (aV (mBin fdivD (mVar 0) (mVar 2)) (aV (mBin fdivD (mVar 1) (mVar 2)) aNil)))))
def f__law_ratio : Fn := mkFn 2 3 none m__law_ratio
theorem sc__law_read : FnScope ["text", "state", "many", "at", "after"] ["text"] (defScope (top 27)) := ⟨rfl, rfl, rfl, by decide +kernel, rfl, by decide +kernel, by decide +kernel⟩
def m__law_read : M Fl := (mSeq (mAsgG (gT 2 (gsCons (gN 1) (gsCons (gN 2) gsNil))) (mTup (aV (mC (.str "begin")) (aV (mC (.int 0)) aNil)))) (mSeq (mFor (chk (mRng1 (aT (mCall lenD (aT (mVar 0) aNil)) aNil))) (gN 3) (mSeq (mAsg 4 (mF 3 f__law_next none (aT (mVar 1) (aT (mBin ixD (mVar 0) (mVar 3)) (aT (mVar 2) aNil))))) (mSeq (mIfS (mB (mBin isD (mVar 4) (mC .none))) (mRet (mTup (aV (mVar 3) (aV (mC .none) aNil)))) mNx) (mSeq (mAsg 2 (mIf (mB (mBin eqsD (mVar 4) (mVar 1))) (mBin addD (mVar 2) (mC (.int 1))) (mC (.int 1)))) (mAsg 1 (mVar 4)))))) (mSeq (mIfS (mB (mBin (inD true) (mVar 1) (mLst (aV (mC (.str "nought")) (aV (mC (.str "digits")) (aV (mC (.str "under")) aNil)))))) (mRet (mTup (aV (mCall lenD (aT (mVar 0) aNil)) (aV (mC .none) aNil)))) mNx) (mSeq (mIfS (mB (mBin nesD (mVar 1) (mC (.str "under")))) (mRet (mTup (aV (mC .none) (aV (mTup (aV (mCall intD (aT (mVar 0) aNil)) (aV (mC (.int 1)) aNil))) aNil)))) mNx) (mSeq (mAsg 3 (mMt findD (mVar 0) (aT (mC (.str "/")) aNil))) (mRet (mTup (aV (mC .none) (aV (mF 2 f__law_ratio none (aT (mCall intD (aT (mSl (mVar 0) mNoPart (mPart (mVar 3))) aNil)) (aT (mCall intD (aT (mSl (mVar 0) (mPart (mBin addD (mVar 3) (mC (.int 1)))) mNoPart) aNil)) aNil))) aNil)))))))))
def f__law_read : Fn := mkFn 1 5 none m__law_read
theorem sc__behind_digits : FnScope ["text", "start", "is_under", "at"] ["text", "start", "is_under"] (defScope (top 17)) := ⟨rfl, rfl, rfl, by decide +kernel, rfl, by decide +kernel, by decide +kernel⟩
def m__behind_digits : M Fl := (mSeq (mIfS (mOr (mB (mBin eqsD (mVar 1) (mCall lenD (aT (mVar 0) aNil)))) (mB (mBin (inD true) (mBin ixD (mVar 0) (mVar 1)) (mC v_FIGURES)))) (mRaise1 "BadRatio" "position" (mVar 1)) mNx) (mSeq (mIfS (mB (mBin eqsD (mBin ixD (mVar 0) (mVar 1)) (mC (.str "0")))) (mSeq (mIfS (mB (mVar 2)) (mRaise1 "BadRatio" "position" (mVar 1)) mNx) (mRet (mBin addD (mVar 1) (mC (.int 1))))) mNx) (mSeq (mAsg 3 (mVar 1)) (mSeq (mWhile (mAnd (mB (mBin ltD (mVar 3) (mCall lenD (aT (mVar 0) aNil)))) (mAnd (mB (mBin (inD false) (mBin ixD (mVar 0) (mVar 3)) (mC v_FIGURES))) (mB (mBin ltD (mBin subD (mVar 3) (mVar 1)) (mC v_DIGITS))))) (mAsg 3 (mBin addD (mVar 3) (mC (.int 1)))) 100000) (mRet (mVar 3))))))
def f__behind_digits : Fn := mkFn 3 4 none m__behind_digits
theorem sc_fraction : FnScope ["number", "under", "part"] ["number", "under"] (defScope (top 15)) := ⟨rfl, rfl, rfl, by decide +kernel, rfl, by decide +kernel, by decide +kernel⟩
def m_fraction : M Fl := (mSeq (mAsg 2 (mCall gcdD (aT (mVar 0) (aT (mVar 1) aNil)))) (mSeq (mIfS (mB (mBin ltD (mVar 1) (mC (.int 0)))) (mAsg 2 (mUn negD (mVar 2))) mNx) (mRet (mTup (aV (mBin fdivD (mVar 0) (mVar 2)) (aV (mBin fdivD (mVar 1) (mVar 2)) aNil))))))
def f_fraction : Fn := mkFn 2 3 none m_fraction
theorem sc_parse_ratio : FnScope ["text", "end", "number", "last"] ["text"] (defScope (top 18)) := ⟨rfl, rfl, rfl, by decide +kernel, rfl, by decide +kernel, by decide +kernel⟩
def m_parse_ratio : M Fl := (mSeq (mIfS (mNot (mB (mIsi ["str"] (mVar 0)))) stuck mNx) (mSeq (mAsg 1 (mF 3 f__behind_digits none (aT (mVar 0) (aT (mIf (mB (mMt startsD (mVar 0) (aT (mC (.str "-")) aNil))) (mC (.int 1)) (mC (.int 0))) (aT (mC (.bool false)) aNil))))) (mSeq (mAsg 2 (mCall intD (aT (mSl (mVar 0) mNoPart (mPart (mVar 1))) aNil))) (mSeq (mIfS (mB (mBin eqsD (mVar 1) (mCall lenD (aT (mVar 0) aNil)))) (mRet (mF 2 f_fraction none (aT (mVar 2) (aT (mC (.int 1)) aNil)))) mNx) (mSeq (mIfS (mB (mBin nesD (mBin ixD (mVar 0) (mVar 1)) (mC (.str "/")))) (mRaise1 "BadRatio" "position" (mVar 1)) mNx) (mSeq (mAsg 3 (mF 3 f__behind_digits none (aT (mVar 0) (aT (mBin addD (mVar 1) (mC (.int 1))) (aT (mC (.bool true)) aNil))))) (mSeq (mIfS (mB (mBin ltD (mVar 3) (mCall lenD (aT (mVar 0) aNil)))) (mRaise1 "BadRatio" "position" (mVar 3)) mNx) (mRet (mF 2 f_fraction none (aT (mVar 2) (aT (mCall intD (aT (mSl (mVar 0) (mPart (mBin addD (mVar 1) (mC (.int 1)))) mNoPart) aNil)) aNil)))))))))))
def f_parse_ratio : Fn := mkFn 1 4 none m_parse_ratio
theorem sc__law_heard : FnScope ["text", "told", "e"] ["text"] (defScope (top 29)) := ⟨rfl, rfl, rfl, by decide +kernel, rfl, by decide +kernel, by decide +kernel⟩
def m__law_heard : M Fl := (mSeq (mAsg 1 (mC .none)) (mSeq (mTry (mAsg 1 (mF 1 f_parse_ratio none (aT (mVar 0) aNil))) (ct1 "BadRatio") 2 (fun y => (mAsg 1 (mLst (aV (mC (.str "bad")) (aV (mFld "BadRatio" "position" y) (aV (mIsE "BadRatio" true y) (aV (mIsE "BadRatio" true y) (aV (mIsE "BadRatio" false y) aNil))))))))) (mRet (mVar 1))))
def f__law_heard : Fn := mkFn 1 3 none m__law_heard
theorem sc__law_right : FnScope ["text", "place", "due"] ["text"] (defScope (top 30)) := ⟨rfl, rfl, rfl, by decide +kernel, rfl, by decide +kernel, by decide +kernel⟩
def m__law_right : M Fl := (mSeq (mAsgG (gT 2 (gsCons (gN 1) (gsCons (gN 2) gsNil))) (mF 1 f__law_read none (aT (mVar 0) aNil))) (mRet (mBin eqsD (mCall reprD (aT (mF 1 f__law_heard none (aT (mVar 0) aNil)) aNil)) (mCall reprD (aT (mIf (mB (mBin isD (mVar 1) (mC .none))) (mVar 2) (mLst (aV (mC (.str "bad")) (aV (mVar 1) (aV (mC (.bool true)) (aV (mC (.bool true)) (aV (mC (.bool false)) aNil))))))) aNil)))))
def f__law_right : Fn := mkFn 1 3 none m__law_right
theorem sc_is_row : FnScope ["value", "many"] ["value", "many"] (defScope (top 8)) := ⟨rfl, rfl, rfl, by decide +kernel, rfl, by decide +kernel, by decide +kernel⟩
def m_is_row : M Fl := (mRet (mAndV (mIsi ["tuple"] (mVar 0)) (mBin eqsD (mCall lenD (aT (mVar 0) aNil)) (mVar 1))))
def f_is_row : Fn := mkFn 2 2 none m_is_row
theorem sc_is_integer : FnScope ["value"] ["value"] (defScope (top 7)) := ⟨rfl, rfl, rfl, by decide +kernel, rfl, by decide +kernel, by decide +kernel⟩
def m_is_integer : M Fl := (mRet (mAndV (mIsi ["int"] (mVar 0)) (mUn notD (mIsi ["bool"] (mVar 0)))))
def f_is_integer : Fn := mkFn 1 1 none m_is_integer
theorem sc_is_ratio : FnScope ["value"] ["value"] (defScope (top 13)) := ⟨rfl, rfl, rfl, by decide +kernel, rfl, by decide +kernel, by decide +kernel⟩
def m_is_ratio : M Fl := (mSeq (mIfS (mOr (mNot (mB (mF 2 f_is_row none (aT (mVar 0) (aT (mC (.int 2)) aNil))))) (mOr (mNot (mB (mF 1 f_is_integer none (aT (mBin ixD (mVar 0) (mC (.int 0))) aNil)))) (mNot (mB (mF 1 f_is_integer none (aT (mBin ixD (mVar 0) (mC (.int 1))) aNil)))))) (mRet (mC (.bool false))) mNx) (mRet (mAndV (mChain ltD ltD (mC (.int 0)) (mBin ixD (mVar 0) (mC (.int 1))) (mC v_BEYOND)) (mAndV (mChain ltD ltD (mUn negD (mC v_BEYOND)) (mBin ixD (mVar 0) (mC (.int 0))) (mC v_BEYOND)) (mBin eqsD (mCall gcdD (aT (mBin ixD (mVar 0) (mC (.int 0))) (aT (mBin ixD (mVar 0) (mC (.int 1))) aNil))) (mC (.int 1)))))))
def f_is_ratio : Fn := mkFn 1 1 none m_is_ratio
theorem sc_want_ratio : FnScope ["value"] ["value"] (defScope (top 14)) := ⟨rfl, rfl, rfl, by decide +kernel, rfl, by decide +kernel, by decide +kernel⟩
def m_want_ratio : M Fl := (mSeq (mIfS (mNot (mB (mF 1 f_is_ratio none (aT (mVar 0) aNil)))) stuck mNx) (mRet (mVar 0)))
def f_want_ratio : Fn := mkFn 1 1 none m_want_ratio
theorem sc_ratio_text : FnScope ["ratio"] ["ratio"] (defScope (top 16)) := ⟨rfl, rfl, rfl, by decide +kernel, rfl, by decide +kernel, by decide +kernel⟩
def m_ratio_text : M Fl := (mSeq (mDrop (mF 1 f_want_ratio none (aT (mVar 0) aNil))) (mRet (mIf (mB (mBin eqsD (mBin ixD (mVar 0) (mC (.int 1))) (mC (.int 1)))) (mCall strD (aT (mBin ixD (mVar 0) (mC (.int 0))) aNil)) (mJs [(mUn fmtD (mBin ixD (mVar 0) (mC (.int 0)))), (mC (.str "/")), (mUn fmtD (mBin ixD (mVar 0) (mC (.int 1))))] Str.empty))))
def f_ratio_text : Fn := mkFn 1 1 none m_ratio_text
theorem sc__law_text : FnScope ["ratio"] ["ratio"] (defScope (top 25)) := ⟨rfl, rfl, rfl, by decide +kernel, rfl, by decide +kernel, by decide +kernel⟩
def m__law_text : M Fl := (mRet (mIf (mB (mBin eqsD (mBin ixD (mVar 0) (mC (.int 1))) (mC (.int 1)))) (mCall strD (aT (mBin ixD (mVar 0) (mC (.int 0))) aNil)) (mBin addD (mBin addD (mCall strD (aT (mBin ixD (mVar 0) (mC (.int 0))) aNil)) (mC (.str "/"))) (mCall strD (aT (mBin ixD (mVar 0) (mC (.int 1))) aNil)))))
def f__law_text : Fn := mkFn 1 1 none m__law_text
theorem sc__law_bent : FnScope ["pot", "text", "at", "way", "sign"] ["pot", "text"] (defScope (top 28)) := ⟨rfl, rfl, rfl, by decide +kernel, rfl, by decide +kernel, by decide +kernel⟩
def m__law_bent : M Fl := (mSeq (mPar 2 3 (mF 2 f__law_draw (some 0) (aT (mVar 0) (aT (mBin addD (mCall lenD (aT (mVar 1) aNil)) (mC (.int 1))) aNil))) (mF 2 f__law_draw (some 0) (aT (mVar 0) (aT (mC (.int 6)) aNil)))) (mSeq (mAsg 4 (mF 2 f__law_pick (some 0) (aT (mVar 0) (aT (mLst (aV (mC (.str "0")) (aV (mC (.str "1")) (aV (mC (.str "9")) (aV (mC (.str "-")) (aV (mC (.str "/")) (aV (mC (.str " ")) (aV (mC (.str "+")) (aV (mC (.str "a")) (aV (mC (.str ".")) (aV (mC (.str "_")) (aV (mC (.str "\n")) (aV (mC (.str "5")) (aV (mC (.str "~")) aNil)))))))))))))) aNil)))) (mSeq (mIfS (mB (mBin eqsD (mVar 3) (mC (.int 0)))) (mRet (mBin addD (mSl (mVar 1) mNoPart (mPart (mVar 2))) (mSl (mVar 1) (mPart (mBin addD (mVar 2) (mC (.int 1)))) mNoPart))) mNx) (mSeq (mIfS (mB (mBin eqsD (mVar 3) (mC (.int 1)))) (mRet (mBin addD (mBin addD (mSl (mVar 1) mNoPart (mPart (mVar 2))) (mVar 4)) (mSl (mVar 1) (mPart (mVar 2)) mNoPart))) mNx) (mSeq (mIfS (mB (mBin eqsD (mVar 3) (mC (.int 2)))) (mRet (mSl (mVar 1) mNoPart (mPart (mVar 2)))) mNx) (mSeq (mIfS (mB (mBin eqsD (mVar 3) (mC (.int 3)))) (mRet (mBin addD (mBin addD (mSl (mVar 1) mNoPart (mPart (mVar 2))) (mSl (mVar 1) (mPart (mVar 2)) (mPart (mBin addD (mVar 2) (mC (.int 1)))))) (mSl (mVar 1) (mPart (mVar 2)) mNoPart))) mNx) (mRet (mIf (mB (mBin eqsD (mVar 3) (mC (.int 4)))) (mBin addD (mBin addD (mSl (mVar 1) mNoPart (mPart (mVar 2))) (mVar 4)) (mSl (mVar 1) (mPart (mBin addD (mVar 2) (mC (.int 1)))) mNoPart)) (mBin addD (mVar 1) (mVar 4))))))))))
def f__law_bent : Fn := mkFn 2 5 (some 0) m__law_bent
theorem sc_law : FnScope ["script", "pot", "told", "text", "turn", "size", "number", "under", "ratio", "bent"] ["script"] (defScope (top 32)) := ⟨rfl, rfl, rfl, by decide +kernel, rfl, by decide +kernel, by decide +kernel⟩
def m_law : M Fl := (mSeq (mAsg 1 (mF 2 f__law_pot none (aT (mVar 0) (aT (mC (.int 0)) aNil)))) (mSeq (mAsg 2 (mLst (aV (mC (.str "")) (aV (mC (.str "-")) (aV (mC (.str "0")) (aV (mC (.str "-0")) (aV (mC (.str "00")) (aV (mC (.str "01")) (aV (mC (.str "-01")) (aV (mC (.str "--1")) (aV (mC (.str "+1")) (aV (mC (.str "1/")) (aV (mC (.str "1/0")) (aV (mC (.str "1/05")) (aV (mC (.str "0/5")) (aV (mC (.str "4/2")) (aV (mC (.str "-4/6")) (aV (mC (.str "1 /2")) (aV (mC (.str "1/2 ")) (aV (mC (.str " 1")) (aV (mC (.str "1/-2")) (aV (mC (.str "a")) (aV (mC (.str "1/2/3")) (aV (mC (.str "10/100")) (aV (mC (.str "1/1")) (aV (mC (.str "/2")) (aV (mC (.str "-/2")) (aV (mC (.str "1.5")) (aV (mC (.str "1_0")) (aV (mC (.str "1\n")) (aV (mC (.str "-0/7")) (aV (mC (.str "0/")) (aV (mC (.str "5/10 ")) (aV (mC (.str "1//2")) aNil)))))))))))))))))))))))))))))))))) (mSeq (mFor (chk (mItD (mBin addD (mVar 2) (mF 1 f__law_long_texts (some 0) (aT (mVar 1) aNil))))) (gN 3) (mIfS (mNot (mB (mF 1 f__law_right none (aT (mVar 3) aNil)))) (mRet (mC (.bool false))) mNx)) (mSeq (mFor (chk (mRng1 (aT (mC (.int 8)) aNil))) (gN 4) (mSeq (mAsg 5 (mF 2 f__law_pick (some 0) (aT (mVar 1) (aT (mLst (aV (mC (.int 9)) (aV (mC (.int 200)) (aV (mBin powD (mC (.int 10)) (mC (.int 9))) (aV (mBin powD (mC (.int 10)) (mC (.int 30))) aNil))))) aNil)))) (mSeq (mPar 6 7 (mBin subD (mF 2 f__law_draw (some 0) (aT (mVar 1) (aT (mBin addD (mBin mulD (mC (.int 2)) (mVar 5)) (mC (.int 1))) aNil))) (mVar 5)) (mBin addD (mC (.int 1)) (mF 2 f__law_draw (some 0) (aT (mVar 1) (aT (mF 2 f__law_pick (some 0) (aT (mVar 1) (aT (mLst (aV (mC (.int 4)) (aV (mC (.int 30)) (aV (mBin powD (mC (.int 10)) (mC (.int 12))) aNil)))) aNil))) aNil))))) (mSeq (mPar 8 3 (mF 2 f__law_ratio none (aT (mVar 6) (aT (mVar 7) aNil))) (mBin addD (mBin addD (mCall strD (aT (mVar 6) aNil)) (mC (.str "/"))) (mCall strD (aT (mVar 7) aNil)))) (mSeq (mIfS (mOr (mB (mBin nesD (mCall reprD (aT (mF 1 f_ratio_text none (aT (mVar 8) aNil)) aNil)) (mCall reprD (aT (mF 1 f__law_text none (aT (mVar 8) aNil)) aNil)))) (mB (mBin nesD (mCall reprD (aT (mFk 0 1 [0] f_parse_ratio none aNil (aT (mFk 0 1 [0] f_ratio_text none aNil (aT (mVar 8) aNil)) aNil)) aNil)) (mCall reprD (aT (mVar 8) aNil))))) (mRet (mC (.bool false))) mNx) (mSeq (mAsg 9 (mF 2 f__law_bent (some 0) (aT (mVar 1) (aT (mVar 3) aNil)))) (mIfS (mOr (mNot (mB (mF 1 f__law_right none (aT (mVar 3) aNil)))) (mOr (mNot (mB (mF 1 f__law_right none (aT (mVar 9) aNil)))) (mNot (mB (mF 1 f__law_right none (aT (mF 2 f__law_bent (some 0) (aT (mVar 1) (aT (mVar 9) aNil))) aNil)))))) (mRet (mC (.bool false))) mNx))))))) (mRet (mC (.bool true)))))))
def f_law : Fn := mkFn 1 10 none m_law
section
variable {w : World} {K : PySem.W.Frag} {mg : Str → Option Value} {base : Heap} {C_BadRatio : Addr} {C_InvalidText : Addr} {C_OfficeError : Addr}
theorem ki_BadRatio {f : Addr} {fd : FuncData} (F : Fun K "__init__" "BadRatio.__init__" (inClass (top 4) 0) f fd) : FnOk PySem.Challenge.pw_carryoffice_k12_any_text_as_ratio w K mg base (L2.CX PySem.Challenge.pw_carryoffice_k12_any_text_as_ratio w) 1 f fd ["self", "position"] (spI1 K "position") :=
  ok_init1 F ⟨rfl, rfl, rfl, by decide +kernel, rfl, by decide +kernel, by decide +kernel⟩ rfl fun _ _ _ _ _ _ => pss_one (ps_ost (pv 0) (pv 1))
theorem kn__law_pot (T : Txt K mg C_BadRatio C_InvalidText C_OfficeError)   {x : Str} {f : Addr} {fd : FuncData} (hm : mg x = some (.ref f)) (F : Fun K "_law_pot" "_law_pot" (top 20) f fd) : Kn PySem.Challenge.pw_carryoffice_k12_any_text_as_ratio w K mg base 1 x "_law_pot" (top 20) ["script", "k"] none f__law_pot :=
  kn_def F hm sc__law_pot rfl fun cdv A outer s H E hr hgd => by
    have hx : ∀ σ : L2.St, PassesAt (L2.CX PySem.Challenge.pw_carryoffice_k12_any_text_as_ratio w) (cxOf (L2.CX PySem.Challenge.pw_carryoffice_k12_any_text_as_ratio w) PySem.Challenge.pw_carryoffice_k12_any_text_as_ratio w K mg base ["script", "k", "cell"] "_law_pot" (defScope (top 20)) f cdv A outer s H E) σ (fun c d H => E c d H) := fun σ => passAt (takes_of rfl rfl rfl rfl) σ
    have tk : Takes (cxOf (L2.CX PySem.Challenge.pw_carryoffice_k12_any_text_as_ratio w) PySem.Challenge.pw_carryoffice_k12_any_text_as_ratio w K mg base ["script", "k", "cell"] "_law_pot" (defScope (top 20)) f cdv A outer s H E) (fun c d _ H => E c d H) := takes_of rfl rfl rfl rfl
    exact (mss_cons (ms_set sc__law_pot.nd rfl (Or.inl rfl) (me_if (mt_cmp op_lt bin_ltA (me_var 1) (me_callB call_len cal_len (by rfl) T.b_len rfl (ma_t (me_var 0) ma_nil))) (me_callB call_abs cal_abs (by rfl) T.b_abs rfl (ma_t (me_ix (me_var 0) (me_var 1)) ma_nil)) (pe_bin op_addA bin_addA (pe_bin op_mulA bin_mulA me_int (me_var 1)) me_int))) (mss_one (ms_ret (me_lst (ma_v (me_callB (call_max2 rfl) cal_max2 (by rfl) T.b_max rfl (ma_t me_int (ma_t (pe_bin op_sub bin_subA (me_var 2) (pe_bin op_powA bin_powA me_int me_int)) ma_nil))) (ma_v (pe_bin op_addA bin_addA (pe_bin op_modN bin_modA (me_callT cr_int cal_int (by rfl) T.b_int rfl (ma_t (pe_bin op_addA bin_addA (pe_bin op_addA bin_addA (pe_bin op_mulA bin_mulA (pe_bin op_modN bin_modA (me_callT cr_int cal_int (by rfl) T.b_int rfl (ma_t (me_var 2) ma_nil)) me_int) me_int) (pe_bin op_mulA bin_mulA me_int (me_var 1))) me_int) ma_nil)) me_int) me_int) ma_nil))))))
theorem kn__law_draw (T : Txt K mg C_BadRatio C_InvalidText C_OfficeError)   {x : Str} {f : Addr} {fd : FuncData} (hm : mg x = some (.ref f)) (F : Fun K "_law_draw" "_law_draw" (top 21) f fd) : Kn PySem.Challenge.pw_carryoffice_k12_any_text_as_ratio w K mg base 1 x "_law_draw" (top 21) ["pot", "size"] (some 0) f__law_draw :=
  kn_def F hm sc__law_draw rfl fun cdv A outer s H E hr hgd => by
    have hx : ∀ σ : L2.St, PassesAt (L2.CX PySem.Challenge.pw_carryoffice_k12_any_text_as_ratio w) (cxOf (L2.CX PySem.Challenge.pw_carryoffice_k12_any_text_as_ratio w) PySem.Challenge.pw_carryoffice_k12_any_text_as_ratio w K mg base ["pot", "size", "digit"] "_law_draw" (defScope (top 21)) f cdv A outer s H E) σ (fun c d H => E c d H) := fun σ => passAt (takes_of rfl rfl rfl rfl) σ
    have tk : Takes (cxOf (L2.CX PySem.Challenge.pw_carryoffice_k12_any_text_as_ratio w) PySem.Challenge.pw_carryoffice_k12_any_text_as_ratio w K mg base ["pot", "size", "digit"] "_law_draw" (defScope (top 21)) f cdv A outer s H E) (fun c d _ H => E c d H) := takes_of rfl rfl rfl rfl
    exact (mss_cons (ms_if (mt_cmp op_gt bin_gtA (me_ix (me_var 0) me_int) me_int) (mss_cons (ms_asgG (me_callB call_divmodW cal_divmod (by rfl) T.b_divmod rfl (ma_t (me_ix (me_var 0) me_int) (ma_t (me_var 1) ma_nil))) (mg_tupS rfl (mg_cons rfl (fun _ _ _ _ _ => trivial) (mg_ixS (fun _ => trivial) (pv 0) me_int) (mg_cons rfl (fun _ _ _ _ _ => trivial) (mg_name (fun _ _ => trivial) sc__law_draw.nd rfl (Or.inl rfl)) (mg_nil (fun _ => trivial)))))) (mss_one (ms_ret (me_var 2)))) mss_nil) (mss_cons (ms_setixS (pv 0) me_int (pe_bin op_modN bin_modA (me_callT cr_int cal_int (by rfl) T.b_int rfl (ma_t (pe_bin op_addA bin_addA (pe_bin op_mulA bin_mulA (me_ix (me_var 0) me_int) me_int) me_int) ma_nil)) me_int)) (mss_one (ms_ret (pe_bin op_modN bin_modA (me_callT cr_int cal_int (by rfl) T.b_int rfl (ma_t (pe_bin op_fdivA bin_fdivA (pe_bin op_modN bin_modA (me_callT cr_int cal_int (by rfl) T.b_int rfl (ma_t (pe_bin op_mulA bin_mulA (me_ix (me_var 0) me_int) (me_ix (me_var 0) me_int)) ma_nil)) me_int) me_int) ma_nil)) (me_var 1))))))
theorem kn__law_pick (T : Txt K mg C_BadRatio C_InvalidText C_OfficeError)  (q__law_draw : Kn PySem.Challenge.pw_carryoffice_k12_any_text_as_ratio w K mg base 1 "_law_draw" "_law_draw" (top 21) ["pot", "size"] (some 0) f__law_draw) {x : Str} {f : Addr} {fd : FuncData} (hm : mg x = some (.ref f)) (F : Fun K "_law_pick" "_law_pick" (top 22) f fd) : Kn PySem.Challenge.pw_carryoffice_k12_any_text_as_ratio w K mg base 2 x "_law_pick" (top 22) ["pot", "some"] (some 0) f__law_pick :=
  kn_def F hm sc__law_pick rfl fun cdv A outer s H E hr hgd => by
    have hx : ∀ σ : L2.St, PassesAt (L2.CX PySem.Challenge.pw_carryoffice_k12_any_text_as_ratio w) (cxOf (L2.CX PySem.Challenge.pw_carryoffice_k12_any_text_as_ratio w) PySem.Challenge.pw_carryoffice_k12_any_text_as_ratio w K mg base ["pot", "some"] "_law_pick" (defScope (top 22)) f cdv A outer s H E) σ (fun c d H => E c d H) := fun σ => passAt (takes_of rfl rfl rfl rfl) σ
    have tk : Takes (cxOf (L2.CX PySem.Challenge.pw_carryoffice_k12_any_text_as_ratio w) PySem.Challenge.pw_carryoffice_k12_any_text_as_ratio w K mg base ["pot", "some"] "_law_pick" (defScope (top 22)) f cdv A outer s H E) (fun c d _ H => E c d H) := takes_of rfl rfl rfl rfl
    exact (mss_one (ms_ret (me_ix (me_var 1) (me_call q__law_draw (hr.mono (by decide)) hgd (by rfl) 2 rfl b__law_draw_2 hx (ma_t (me_var 0) (ma_t (me_callB call_len cal_len (by rfl) T.b_len rfl (ma_t (me_var 1) ma_nil)) ma_nil))))))
theorem kn__law_long_texts (T : Txt K mg C_BadRatio C_InvalidText C_OfficeError)  (q__law_pick : Kn PySem.Challenge.pw_carryoffice_k12_any_text_as_ratio w K mg base 2 "_law_pick" "_law_pick" (top 22) ["pot", "some"] (some 0) f__law_pick) {x : Str} {f : Addr} {fd : FuncData} (hm : mg x = some (.ref f)) (F : Fun K "_law_long_texts" "_law_long_texts" (top 31) f fd) : Kn PySem.Challenge.pw_carryoffice_k12_any_text_as_ratio w K mg base 3 x "_law_long_texts" (top 31) ["pot"] (some 0) f__law_long_texts :=
  kn_def F hm sc__law_long_texts rfl fun cdv A outer s H E hr hgd => by
    have hx : ∀ σ : L2.St, PassesAt (L2.CX PySem.Challenge.pw_carryoffice_k12_any_text_as_ratio w) (cxOf (L2.CX PySem.Challenge.pw_carryoffice_k12_any_text_as_ratio w) PySem.Challenge.pw_carryoffice_k12_any_text_as_ratio w K mg base ["pot", "many", "digit", "other", "head"] "_law_long_texts" (defScope (top 31)) f cdv A outer s H E) σ (fun c d H => E c d H) := fun σ => passAt (takes_of rfl rfl rfl rfl) σ
    have tk : Takes (cxOf (L2.CX PySem.Challenge.pw_carryoffice_k12_any_text_as_ratio w) PySem.Challenge.pw_carryoffice_k12_any_text_as_ratio w K mg base ["pot", "many", "digit", "other", "head"] "_law_long_texts" (defScope (top 31)) f cdv A outer s H E) (fun c d _ H => E c d H) := takes_of rfl rfl rfl rfl
    exact (mss_cons (ms_set sc__law_long_texts.nd rfl (Or.inl rfl) (me_call q__law_pick (hr.mono (by decide)) hgd (by rfl) 2 rfl b__law_pick_2 hx (ma_t (me_var 0) (ma_t (me_lst (ma_v me_int (ma_v me_int (ma_v me_int (ma_v me_int ma_nil))))) ma_nil)))) (mss_cons (ms_set sc__law_long_texts.nd rfl (Or.inl rfl) (me_call q__law_pick (hr.mono (by decide)) hgd (by rfl) 2 rfl b__law_pick_2 hx (ma_t (me_var 0) (ma_t (me_lst (ma_v me_str (ma_v me_str (ma_v me_str ma_nil)))) ma_nil)))) (mss_cons (ms_set sc__law_long_texts.nd rfl (Or.inl rfl) (me_call q__law_pick (hr.mono (by decide)) hgd (by rfl) 2 rfl b__law_pick_2 hx (ma_t (me_var 0) (ma_t (me_lst (ma_v me_int (ma_v me_int (ma_v me_int (ma_v me_int (ma_v me_int (ma_v me_int ma_nil))))))) ma_nil)))) (mss_cons (ms_set sc__law_long_texts.nd rfl (Or.inl rfl) (pe_bin op_addA bin_addA (me_call q__law_pick (hr.mono (by decide)) hgd (by rfl) 2 rfl b__law_pick_2 hx (ma_t (me_var 0) (ma_t (me_lst (ma_v me_str (ma_v me_str ma_nil))) ma_nil))) (pe_bin op_mulA bin_mulA (me_var 2) (me_var 1)))) (mss_one (ms_ret (me_lst (ma_v (me_var 4) (ma_v (pe_bin op_addA bin_addA (me_var 4) me_str) (ma_v (pe_bin op_addA bin_addA (pe_bin op_addA bin_addA (me_var 4) me_str) (pe_bin op_mulA bin_mulA (me_var 2) (me_var 3))) (ma_v (pe_bin op_addA bin_addA me_str (pe_bin op_mulA bin_mulA (me_var 2) (me_var 3))) (ma_v (pe_bin op_addA bin_addA me_str (pe_bin op_mulA bin_mulA (me_var 2) (me_var 3))) (ma_v (pe_bin op_addA bin_addA (me_var 4) me_str) ma_nil)))))))))))))
theorem kn__law_next (T : Txt K mg C_BadRatio C_InvalidText C_OfficeError)   {x : Str} {f : Addr} {fd : FuncData} (hm : mg x = some (.ref f)) (F : Fun K "_law_next" "_law_next" (top 26) f fd) : Kn PySem.Challenge.pw_carryoffice_k12_any_text_as_ratio w K mg base 1 x "_law_next" (top 26) ["state", "sign", "many"] none f__law_next :=
  kn_def F hm sc__law_next rfl fun cdv A outer s H E hr hgd => by
    have hx : ∀ σ : L2.St, PassesAt (L2.CX PySem.Challenge.pw_carryoffice_k12_any_text_as_ratio w) (cxOf (L2.CX PySem.Challenge.pw_carryoffice_k12_any_text_as_ratio w) PySem.Challenge.pw_carryoffice_k12_any_text_as_ratio w K mg base ["state", "sign", "many"] "_law_next" (defScope (top 26)) f cdv A outer s H E) σ (fun c d H => E c d H) := fun σ => passAt (takes_of rfl rfl rfl rfl) σ
    have tk : Takes (cxOf (L2.CX PySem.Challenge.pw_carryoffice_k12_any_text_as_ratio w) PySem.Challenge.pw_carryoffice_k12_any_text_as_ratio w K mg base ["state", "sign", "many"] "_law_next" (defScope (top 26)) f cdv A outer s H E) (fun c d _ H => E c d H) := takes_of rfl rfl rfl rfl
    exact (mss_cons (ms_if ((mt_and (mt_cmp (op_eqS hr.units64) bin_eqS (me_var 0) me_str) (mt_and1 (mt_cmp (op_eqS hr.units64) bin_eqS (me_var 1) me_str)))).pt (mss_one (ms_ret me_str)) mss_nil) (mss_cons (ms_if ((mt_and (mt_cmp (op_inA hr.units65) bin_inA (me_var 0) (me_lst (ma_v me_str (ma_v me_str ma_nil)))) (mt_and1 (mt_cmp (op_inA hr.units65) bin_inA (me_var 1) me_str)))).pt (mss_one (ms_ret (me_if (mt_cmp (op_eqS hr.units64) bin_eqS (me_var 1) me_str) me_str me_str))) mss_nil) (mss_cons (ms_if ((mt_and (mt_cmp (op_eqS hr.units64) bin_eqS (me_var 0) me_str) (mt_and (mt_cmp (op_inA hr.units65) bin_inA (me_var 1) me_str) (mt_and1 (mt_cmp op_lt bin_ltA (me_var 2) me_int))))).pt (mss_one (ms_ret me_str)) mss_nil) (mss_cons (ms_if ((mt_and (mt_cmp (op_inA hr.units65) bin_inA (me_var 0) (me_lst (ma_v me_str (ma_v me_str ma_nil)))) (mt_and1 (mt_cmp (op_eqS hr.units64) bin_eqS (me_var 1) me_str)))).pt (mss_one (ms_ret me_str)) mss_nil) (mss_cons (ms_if ((mt_and (mt_cmp (op_eqS hr.units64) bin_eqS (me_var 0) me_str) (mt_and1 (mt_cmp (op_inA hr.units65) bin_inA (me_var 1) me_str)))).pt (mss_one (ms_ret me_str)) mss_nil) (mss_cons (ms_if ((mt_and (mt_cmp (op_eqS hr.units64) bin_eqS (me_var 0) me_str) (mt_and (mt_cmp (op_inA hr.units65) bin_inA (me_var 1) me_str) (mt_and1 (mt_cmp op_lt bin_ltA (me_var 2) me_int))))).pt (mss_one (ms_ret me_str)) mss_nil) (mss_one (ms_ret me_non))))))))
theorem kn__law_common (T : Txt K mg C_BadRatio C_InvalidText C_OfficeError)   {x : Str} {f : Addr} {fd : FuncData} (hm : mg x = some (.ref f)) (F : Fun K "_law_common" "_law_common" (top 23) f fd) : Kn PySem.Challenge.pw_carryoffice_k12_any_text_as_ratio w K mg base 1 x "_law_common" (top 23) ["one", "other"] none f__law_common :=
  kn_def F hm sc__law_common rfl fun cdv A outer s H E hr hgd => by
    have hx : ∀ σ : L2.St, PassesAt (L2.CX PySem.Challenge.pw_carryoffice_k12_any_text_as_ratio w) (cxOf (L2.CX PySem.Challenge.pw_carryoffice_k12_any_text_as_ratio w) PySem.Challenge.pw_carryoffice_k12_any_text_as_ratio w K mg base ["one", "other"] "_law_common" (defScope (top 23)) f cdv A outer s H E) σ (fun c d H => E c d H) := fun σ => passAt (takes_of rfl rfl rfl rfl) σ
    have tk : Takes (cxOf (L2.CX PySem.Challenge.pw_carryoffice_k12_any_text_as_ratio w) PySem.Challenge.pw_carryoffice_k12_any_text_as_ratio w K mg base ["one", "other"] "_law_common" (defScope (top 23)) f cdv A outer s H E) (fun c d _ H => E c d H) := takes_of rfl rfl rfl rfl
    exact (mss_cons (ms_while 100000 (passes_of rfl) (mt_cmp (op_neS hr.units64) bin_neS (me_var 1) me_int) (mss_one (ms_par rfl sc__law_common.nd 0 1 (me_var 1) (pe_bin op_sub bin_subA (me_var 0) (pe_bin op_mulA bin_mulA (pe_bin op_fdivA bin_fdivA (me_var 0) (me_var 1)) (me_var 1)))))) (mss_one (ms_ret (me_callB call_abs cal_abs (by rfl) T.b_abs rfl (ma_t (me_var 0) ma_nil)))))
theorem kn__law_ratio (T : Txt K mg C_BadRatio C_InvalidText C_OfficeError)  (q__law_common : Kn PySem.Challenge.pw_carryoffice_k12_any_text_as_ratio w K mg base 1 "_law_common" "_law_common" (top 23) ["one", "other"] none f__law_common) {x : Str} {f : Addr} {fd : FuncData} (hm : mg x = some (.ref f)) (F : Fun K "_law_ratio" "_law_ratio" (top 24) f fd) : Kn PySem.Challenge.pw_carryoffice_k12_any_text_as_ratio w K mg base 2 x "_law_ratio" (top 24) ["number", "under"] none f__law_ratio :=
  kn_def F hm sc__law_ratio rfl fun cdv A outer s H E hr hgd => by
    have hx : ∀ σ : L2.St, PassesAt (L2.CX PySem.Challenge.pw_carryoffice_k12_any_text_as_ratio w) (cxOf (L2.CX PySem.Challenge.pw_carryoffice_k12_any_text_as_ratio w) PySem.Challenge.pw_carryoffice_k12_any_text_as_ratio w K mg base ["number", "under", "common"] "_law_ratio" (defScope (top 24)) f cdv A outer s H E) σ (fun c d H => E c d H) := fun σ => passAt (takes_of rfl rfl rfl rfl) σ
    have tk : Takes (cxOf (L2.CX PySem.Challenge.pw_carryoffice_k12_any_text_as_ratio w) PySem.Challenge.pw_carryoffice_k12_any_text_as_ratio w K mg base ["number", "under", "common"] "_law_ratio" (defScope (top 24)) f cdv A outer s H E) (fun c d _ H => E c d H) := takes_of rfl rfl rfl rfl
    exact (mss_cons (ms_set sc__law_ratio.nd rfl (Or.inl rfl) (me_call q__law_common (hr.mono (by decide)) hgd (by rfl) 2 rfl b__law_common_2 hx (ma_t (me_var 0) (ma_t (me_var 1) ma_nil)))) (mss_one (ms_ret (me_tup (ma_v (pe_bin op_fdivA bin_fdivA (me_var 0) (me_var 2)) (ma_v (pe_bin op_fdivA bin_fdivA (me_var 1) (me_var 2)) ma_nil))))))
theorem kn__law_read (T : Txt K mg C_BadRatio C_InvalidText C_OfficeError)  (q__law_next : Kn PySem.Challenge.pw_carryoffice_k12_any_text_as_ratio w K mg base 1 "_law_next" "_law_next" (top 26) ["state", "sign", "many"] none f__law_next) (q__law_ratio : Kn PySem.Challenge.pw_carryoffice_k12_any_text_as_ratio w K mg base 2 "_law_ratio" "_law_ratio" (top 24) ["number", "under"] none f__law_ratio) {x : Str} {f : Addr} {fd : FuncData} (hm : mg x = some (.ref f)) (F : Fun K "_law_read" "_law_read" (top 27) f fd) : Kn PySem.Challenge.pw_carryoffice_k12_any_text_as_ratio w K mg base 3 x "_law_read" (top 27) ["text"] none f__law_read :=
  kn_def F hm sc__law_read rfl fun cdv A outer s H E hr hgd => by
    have hx : ∀ σ : L2.St, PassesAt (L2.CX PySem.Challenge.pw_carryoffice_k12_any_text_as_ratio w) (cxOf (L2.CX PySem.Challenge.pw_carryoffice_k12_any_text_as_ratio w) PySem.Challenge.pw_carryoffice_k12_any_text_as_ratio w K mg base ["text", "state", "many", "at", "after"] "_law_read" (defScope (top 27)) f cdv A outer s H E) σ (fun c d H => E c d H) := fun σ => passAt (takes_of rfl rfl rfl rfl) σ
    have tk : Takes (cxOf (L2.CX PySem.Challenge.pw_carryoffice_k12_any_text_as_ratio w) PySem.Challenge.pw_carryoffice_k12_any_text_as_ratio w K mg base ["text", "state", "many", "at", "after"] "_law_read" (defScope (top 27)) f cdv A outer s H E) (fun c d _ H => E c d H) := takes_of rfl rfl rfl rfl
    exact (mss_cons (ms_asgG (me_tup (ma_v me_str (ma_v me_int ma_nil))) (mg_tupS rfl (mg_cons rfl (fun _ _ _ _ _ => trivial) (mg_name (fun _ _ => trivial) sc__law_read.nd rfl (Or.inl rfl)) (mg_cons rfl (fun _ _ _ _ _ => trivial) (mg_name (fun _ _ => trivial) sc__law_read.nd rfl (Or.inl rfl)) (mg_nil (fun _ => trivial)))))) (mss_cons (ms_forC (passes_of rfl) rfl (mi_rng1 (by rfl) T.b_range (ma_t (me_callB call_len cal_len (by rfl) T.b_len rfl (ma_t (me_var 0) ma_nil)) ma_nil)) (mg_name (fun _ _ => trivial) sc__law_read.nd rfl (Or.inl rfl)) (mss_cons (ms_set sc__law_read.nd rfl (Or.inl rfl) (me_call q__law_next (hr.mono (by decide)) hgd (by rfl) 3 rfl b__law_next_3 hx (ma_t (me_var 1) (ma_t (me_ix (me_var 0) (me_var 3)) (ma_t (me_var 2) ma_nil))))) (mss_cons (ms_if (mt_cmp op_isA bin_isA (me_var 4) me_non) (mss_one (ms_ret (me_tup (ma_v (me_var 3) (ma_v me_non ma_nil))))) mss_nil) (mss_cons (ms_set sc__law_read.nd rfl (Or.inl rfl) (me_if (mt_cmp (op_eqS hr.units64) bin_eqS (me_var 4) (me_var 1)) (pe_bin op_addA bin_addA (me_var 2) me_int) me_int)) (mss_one (ms_set sc__law_read.nd rfl (Or.inl rfl) (me_var 4))))))) (mss_cons (ms_if (mt_cmp (op_ninA hr.units65) bin_ninA (me_var 1) (me_lst (ma_v me_str (ma_v me_str (ma_v me_str ma_nil))))) (mss_one (ms_ret (me_tup (ma_v (me_callB call_len cal_len (by rfl) T.b_len rfl (ma_t (me_var 0) ma_nil)) (ma_v me_non ma_nil))))) mss_nil) (mss_cons (ms_if (mt_cmp (op_neS hr.units64) bin_neS (me_var 1) me_str) (mss_one (ms_ret (me_tup (ma_v me_non (ma_v (me_tup (ma_v (me_callT cr_int cal_int (by rfl) T.b_int rfl (ma_t (me_var 0) ma_nil)) (ma_v me_int ma_nil))) ma_nil))))) mss_nil) (mss_cons (ms_set sc__law_read.nd rfl (Or.inl rfl) ((pe_bm PySem.F.plainAttrs_str PySem.F.slot_str_find PySem.F.type_str_find mt_find (me_var 0) (ma_t me_str ma_nil)).imp fun _ _ _ w => mt_read met_find w)) (mss_one (ms_ret (me_tup (ma_v me_non (ma_v (me_call q__law_ratio (hr.mono (by decide)) hgd (by rfl) 2 rfl b__law_ratio_2 hx (ma_t (me_callT cr_int cal_int (by rfl) T.b_int rfl (ma_t (me_sl (me_var 0) po_n (po_s (me_var 3))) ma_nil)) (ma_t (me_callT cr_int cal_int (by rfl) T.b_int rfl (ma_t (me_sl (me_var 0) (po_s (pe_bin op_addA bin_addA (me_var 3) me_int)) po_n) ma_nil)) ma_nil))) ma_nil))))))))))
theorem kn__behind_digits (T : Txt K mg C_BadRatio C_InvalidText C_OfficeError) (x_BadRatio : Ex1 PySem.Challenge.pw_carryoffice_k12_any_text_as_ratio w K mg base "BadRatio" "position")  {x : Str} {f : Addr} {fd : FuncData} (hm : mg x = some (.ref f)) (F : Fun K "_behind_digits" "_behind_digits" (top 17) f fd) : Kn PySem.Challenge.pw_carryoffice_k12_any_text_as_ratio w K mg base 3 x "_behind_digits" (top 17) ["text", "start", "is_under"] none f__behind_digits :=
  kn_def F hm sc__behind_digits rfl fun cdv A outer s H E hr hgd => by
    have hx : ∀ σ : L2.St, PassesAt (L2.CX PySem.Challenge.pw_carryoffice_k12_any_text_as_ratio w) (cxOf (L2.CX PySem.Challenge.pw_carryoffice_k12_any_text_as_ratio w) PySem.Challenge.pw_carryoffice_k12_any_text_as_ratio w K mg base ["text", "start", "is_under", "at"] "_behind_digits" (defScope (top 17)) f cdv A outer s H E) σ (fun c d H => E c d H) := fun σ => passAt (takes_of rfl rfl rfl rfl) σ
    have tk : Takes (cxOf (L2.CX PySem.Challenge.pw_carryoffice_k12_any_text_as_ratio w) PySem.Challenge.pw_carryoffice_k12_any_text_as_ratio w K mg base ["text", "start", "is_under", "at"] "_behind_digits" (defScope (top 17)) f cdv A outer s H E) (fun c d _ H => E c d H) := takes_of rfl rfl rfl rfl
    exact (mss_cons (ms_if ((mt_or (mt_cmp (op_eqS hr.units64) bin_eqS (me_var 1) (me_callB call_len cal_len (by rfl) T.b_len rfl (ma_t (me_var 0) ma_nil))) (mt_or1 (mt_cmp (op_ninA hr.units65) bin_ninA (me_ix (me_var 0) (me_var 1)) (me_cst (by rfl) T.c_FIGURES))))).pt (mss_one (ms_raise1 x_BadRatio rfl tk (hr.mono (by decide)) (by rfl) (me_var 1))) mss_nil) (mss_cons (ms_if (mt_cmp (op_eqS hr.units64) bin_eqS (me_ix (me_var 0) (me_var 1)) me_str) (mss_cons (ms_if (mt_val (me_var 2)) (mss_one (ms_raise1 x_BadRatio rfl tk (hr.mono (by decide)) (by rfl) (me_var 1))) mss_nil) (mss_one (ms_ret (pe_bin op_addA bin_addA (me_var 1) me_int)))) mss_nil) (mss_cons (ms_set sc__behind_digits.nd rfl (Or.inl rfl) (me_var 1)) (mss_cons (ms_while 100000 (passes_of rfl) ((mt_and (mt_cmp op_lt bin_ltA (me_var 3) (me_callB call_len cal_len (by rfl) T.b_len rfl (ma_t (me_var 0) ma_nil))) (mt_and (mt_cmp (op_inA hr.units65) bin_inA (me_ix (me_var 0) (me_var 3)) (me_cst (by rfl) T.c_FIGURES)) (mt_and1 (mt_cmp op_lt bin_ltA (pe_bin op_sub bin_subA (me_var 3) (me_var 1)) (me_cst (by rfl) T.c_DIGITS)))))).pt (mss_one (ms_set sc__behind_digits.nd rfl (Or.inl rfl) (pe_bin op_addA bin_addA (me_var 3) me_int)))) (mss_one (ms_ret (me_var 3)))))))
theorem kn_fraction (T : Txt K mg C_BadRatio C_InvalidText C_OfficeError)   {x : Str} {f : Addr} {fd : FuncData} (hm : mg x = some (.ref f)) (F : Fun K "fraction" "fraction" (top 15) f fd) : Kn PySem.Challenge.pw_carryoffice_k12_any_text_as_ratio w K mg base 1 x "fraction" (top 15) ["number", "under"] none f_fraction :=
  kn_def F hm sc_fraction rfl fun cdv A outer s H E hr hgd => by
    have hx : ∀ σ : L2.St, PassesAt (L2.CX PySem.Challenge.pw_carryoffice_k12_any_text_as_ratio w) (cxOf (L2.CX PySem.Challenge.pw_carryoffice_k12_any_text_as_ratio w) PySem.Challenge.pw_carryoffice_k12_any_text_as_ratio w K mg base ["number", "under", "part"] "fraction" (defScope (top 15)) f cdv A outer s H E) σ (fun c d H => E c d H) := fun σ => passAt (takes_of rfl rfl rfl rfl) σ
    have tk : Takes (cxOf (L2.CX PySem.Challenge.pw_carryoffice_k12_any_text_as_ratio w) PySem.Challenge.pw_carryoffice_k12_any_text_as_ratio w K mg base ["number", "under", "part"] "fraction" (defScope (top 15)) f cdv A outer s H E) (fun c d _ H => E c d H) := takes_of rfl rfl rfl rfl
    exact (mss_cons (ms_set sc_fraction.nd rfl (Or.inl rfl) (me_callG cr_gcd cal_gcd (by rfl) T.g_gcd (ma_t (me_var 0) (ma_t (me_var 1) ma_nil)))) (mss_cons (ms_if (mt_cmp op_lt bin_ltA (me_var 1) me_int) (mss_one (ms_set sc_fraction.nd rfl (Or.inl rfl) (me_neg (me_var 2)))) mss_nil) (mss_one (ms_ret (me_tup (ma_v (pe_bin op_fdivA bin_fdivA (me_var 0) (me_var 2)) (ma_v (pe_bin op_fdivA bin_fdivA (me_var 1) (me_var 2)) ma_nil)))))))
theorem kn_parse_ratio (T : Txt K mg C_BadRatio C_InvalidText C_OfficeError) (x_BadRatio : Ex1 PySem.Challenge.pw_carryoffice_k12_any_text_as_ratio w K mg base "BadRatio" "position") (q__behind_digits : Kn PySem.Challenge.pw_carryoffice_k12_any_text_as_ratio w K mg base 3 "_behind_digits" "_behind_digits" (top 17) ["text", "start", "is_under"] none f__behind_digits) (q_fraction : Kn PySem.Challenge.pw_carryoffice_k12_any_text_as_ratio w K mg base 1 "fraction" "fraction" (top 15) ["number", "under"] none f_fraction) {x : Str} {f : Addr} {fd : FuncData} (hm : mg x = some (.ref f)) (F : Fun K "parse_ratio" "parse_ratio" (top 18) f fd) : Kn PySem.Challenge.pw_carryoffice_k12_any_text_as_ratio w K mg base 4 x "parse_ratio" (top 18) ["text"] none f_parse_ratio :=
  kn_def F hm sc_parse_ratio rfl fun cdv A outer s H E hr hgd => by
    have hx : ∀ σ : L2.St, PassesAt (L2.CX PySem.Challenge.pw_carryoffice_k12_any_text_as_ratio w) (cxOf (L2.CX PySem.Challenge.pw_carryoffice_k12_any_text_as_ratio w) PySem.Challenge.pw_carryoffice_k12_any_text_as_ratio w K mg base ["text", "end", "number", "last"] "parse_ratio" (defScope (top 18)) f cdv A outer s H E) σ (fun c d H => E c d H) := fun σ => passAt (takes_of rfl rfl rfl rfl) σ
    have tk : Takes (cxOf (L2.CX PySem.Challenge.pw_carryoffice_k12_any_text_as_ratio w) PySem.Challenge.pw_carryoffice_k12_any_text_as_ratio w K mg base ["text", "end", "number", "last"] "parse_ratio" (defScope (top 18)) f cdv A outer s H E) (fun c d _ H => E c d H) := takes_of rfl rfl rfl rfl
    exact (mss_cons (ms_if (mt_not (mt_val (me_isi1 (by rfl) T.b_isinstance (by rfl) T.b_str "str" rfl (me_var 0)))) (mss_one ms_never) mss_nil) (mss_cons (ms_set sc_parse_ratio.nd rfl (Or.inl rfl) (me_call q__behind_digits (hr.mono (by decide)) hgd (by rfl) 3 rfl b__behind_digits_3 hx (ma_t (me_var 0) (ma_t (me_if (mt_val ((pe_bm PySem.F.plainAttrs_str PySem.F.slot_str_startswith PySem.F.type_str_startswith mt_startswith (me_var 0) (ma_t me_str ma_nil)).imp fun _ _ _ w => mt_read met_starts w)) me_int me_int) (ma_t me_bl ma_nil))))) (mss_cons (ms_set sc_parse_ratio.nd rfl (Or.inl rfl) (me_callT cr_int cal_int (by rfl) T.b_int rfl (ma_t (me_sl (me_var 0) po_n (po_s (me_var 1))) ma_nil))) (mss_cons (ms_if (mt_cmp (op_eqS hr.units64) bin_eqS (me_var 1) (me_callB call_len cal_len (by rfl) T.b_len rfl (ma_t (me_var 0) ma_nil))) (mss_one (ms_ret (me_call q_fraction (hr.mono (by decide)) hgd (by rfl) 2 rfl b_fraction_2 hx (ma_t (me_var 2) (ma_t me_int ma_nil))))) mss_nil) (mss_cons (ms_if (mt_cmp (op_neS hr.units64) bin_neS (me_ix (me_var 0) (me_var 1)) me_str) (mss_one (ms_raise1 x_BadRatio rfl tk (hr.mono (by decide)) (by rfl) (me_var 1))) mss_nil) (mss_cons (ms_set sc_parse_ratio.nd rfl (Or.inl rfl) (me_call q__behind_digits (hr.mono (by decide)) hgd (by rfl) 3 rfl b__behind_digits_3 hx (ma_t (me_var 0) (ma_t (pe_bin op_addA bin_addA (me_var 1) me_int) (ma_t me_bl ma_nil))))) (mss_cons (ms_if (mt_cmp op_lt bin_ltA (me_var 3) (me_callB call_len cal_len (by rfl) T.b_len rfl (ma_t (me_var 0) ma_nil))) (mss_one (ms_raise1 x_BadRatio rfl tk (hr.mono (by decide)) (by rfl) (me_var 3))) mss_nil) (mss_one (ms_ret (me_call q_fraction (hr.mono (by decide)) hgd (by rfl) 2 rfl b_fraction_2 hx (ma_t (me_var 2) (ma_t (me_callT cr_int cal_int (by rfl) T.b_int rfl (ma_t (me_sl (me_var 0) (po_s (pe_bin op_addA bin_addA (me_var 1) me_int)) po_n) ma_nil)) ma_nil))))))))))))
theorem kn__law_heard (T : Txt K mg C_BadRatio C_InvalidText C_OfficeError)  (q_parse_ratio : Kn PySem.Challenge.pw_carryoffice_k12_any_text_as_ratio w K mg base 4 "parse_ratio" "parse_ratio" (top 18) ["text"] none f_parse_ratio) {x : Str} {f : Addr} {fd : FuncData} (hm : mg x = some (.ref f)) (F : Fun K "_law_heard" "_law_heard" (top 29) f fd) : Kn PySem.Challenge.pw_carryoffice_k12_any_text_as_ratio w K mg base 5 x "_law_heard" (top 29) ["text"] none f__law_heard :=
  kn_def F hm sc__law_heard rfl fun cdv A outer s H E hr hgd => by
    have hx : ∀ σ : L2.St, PassesAt (L2.CX PySem.Challenge.pw_carryoffice_k12_any_text_as_ratio w) (cxOf (L2.CX PySem.Challenge.pw_carryoffice_k12_any_text_as_ratio w) PySem.Challenge.pw_carryoffice_k12_any_text_as_ratio w K mg base ["text", "told", "e"] "_law_heard" (defScope (top 29)) f cdv A outer s H E) σ (fun c d H => E c d H) := fun σ => passAt (takes_of rfl rfl rfl rfl) σ
    have tk : Takes (cxOf (L2.CX PySem.Challenge.pw_carryoffice_k12_any_text_as_ratio w) PySem.Challenge.pw_carryoffice_k12_any_text_as_ratio w K mg base ["text", "told", "e"] "_law_heard" (defScope (top 29)) f cdv A outer s H E) (fun c d _ H => E c d H) := takes_of rfl rfl rfl rfl
    exact (mss_cons (ms_set sc__law_heard.nd rfl (Or.inl rfl) me_non) (mss_cons (ms_try (i := 2) (ct := ct1 "BadRatio") (h := fun y => (mAsg 1 (mLst (aV (mC (.str "bad")) (aV (mFld "BadRatio" "position" y) (aV (mIsE "BadRatio" true y) (aV (mIsE "BadRatio" true y) (aV (mIsE "BadRatio" false y) aNil)))))))) rfl rfl sc__law_heard.nd rfl rfl ⟨rfl, by decide, .inl T.x_BadRatio.gC⟩ tk (hct1 T.x_BadRatio.gC T.x_BadRatio.ex) (fun W pn xe tk1 => (mss_one (ms_set sc__law_heard.nd rfl (Or.inl rfl) (me_call q_parse_ratio (hr.mono (by decide)) hgd (by rfl) 1 rfl b_parse_ratio_1 (fun σ => passAt tk1 σ) (ma_t (me_var 0) ma_nil))))) (fun a oe cls d pn hz hf y => (xss_one (xs_set sc__law_heard.nd rfl (Or.inl rfl) (xe_lst exAt_stable (xa_v exAt_stable (xe_of me_str) (xa_v exAt_stable (xe_fld T.x_BadRatio.xf T.x_BadRatio.no T.x_BadRatio.gC hz hf (pv 2)) (xa_v exAt_stable (xe_isE (i := 2) (c := .ref C_OfficeError) (cn := "BadRatio") (b := true) T.x_BadRatio.is T.x_BadRatio.gC T.k_BadRatio_OfficeError (fun _ h => h) hz hf (pv 2) (pe_glob (v := .ref C_OfficeError) (by rfl) T.g_OfficeError rfl) (by rfl) T.b_isinstance) (xa_v exAt_stable (xe_isE (i := 2) (c := .ty "ValueError") (cn := "BadRatio") (b := true) T.x_BadRatio.is T.x_BadRatio.gC T.k_BadRatio_ValueError (fun _ h => h) hz hf (pv 2) (pe_bltn (v := .ty "ValueError") (by rfl) T.b_ValueError rfl rfl) (by rfl) T.b_isinstance) (xa_v exAt_stable (xe_isE (i := 2) (c := .ref C_InvalidText) (cn := "BadRatio") (b := false) T.x_BadRatio.is T.x_BadRatio.gC T.k_BadRatio_InvalidText (fun _ h => h) hz hf (pv 2) (pe_glob (v := .ref C_InvalidText) (by rfl) T.g_InvalidText rfl) (by rfl) T.b_isinstance) xa_nil)))))))))) (mss_one (ms_ret (me_var 1)))))
theorem kn__law_right (T : Txt K mg C_BadRatio C_InvalidText C_OfficeError)  (q__law_read : Kn PySem.Challenge.pw_carryoffice_k12_any_text_as_ratio w K mg base 3 "_law_read" "_law_read" (top 27) ["text"] none f__law_read) (q__law_heard : Kn PySem.Challenge.pw_carryoffice_k12_any_text_as_ratio w K mg base 5 "_law_heard" "_law_heard" (top 29) ["text"] none f__law_heard) {x : Str} {f : Addr} {fd : FuncData} (hm : mg x = some (.ref f)) (F : Fun K "_law_right" "_law_right" (top 30) f fd) : Kn PySem.Challenge.pw_carryoffice_k12_any_text_as_ratio w K mg base 6 x "_law_right" (top 30) ["text"] none f__law_right :=
  kn_def F hm sc__law_right rfl fun cdv A outer s H E hr hgd => by
    have hx : ∀ σ : L2.St, PassesAt (L2.CX PySem.Challenge.pw_carryoffice_k12_any_text_as_ratio w) (cxOf (L2.CX PySem.Challenge.pw_carryoffice_k12_any_text_as_ratio w) PySem.Challenge.pw_carryoffice_k12_any_text_as_ratio w K mg base ["text", "place", "due"] "_law_right" (defScope (top 30)) f cdv A outer s H E) σ (fun c d H => E c d H) := fun σ => passAt (takes_of rfl rfl rfl rfl) σ
    have tk : Takes (cxOf (L2.CX PySem.Challenge.pw_carryoffice_k12_any_text_as_ratio w) PySem.Challenge.pw_carryoffice_k12_any_text_as_ratio w K mg base ["text", "place", "due"] "_law_right" (defScope (top 30)) f cdv A outer s H E) (fun c d _ H => E c d H) := takes_of rfl rfl rfl rfl
    exact (mss_cons (ms_asgG (me_call q__law_read (hr.mono (by decide)) hgd (by rfl) 1 rfl b__law_read_1 hx (ma_t (me_var 0) ma_nil)) (mg_tupS rfl (mg_cons rfl (fun _ _ _ _ _ => trivial) (mg_name (fun _ _ => trivial) sc__law_right.nd rfl (Or.inl rfl)) (mg_cons rfl (fun _ _ _ _ _ => trivial) (mg_name (fun _ _ => trivial) sc__law_right.nd rfl (Or.inl rfl)) (mg_nil (fun _ => trivial)))))) (mss_one (ms_ret (pe_cmp2 (op_eqS hr.units64) bin_eqS (me_callB (cr_repr hgd (hr.units70)) cal_repr (by rfl) T.b_repr rfl (ma_t (me_call q__law_heard (hr.mono (by decide)) hgd (by rfl) 1 rfl b__law_heard_1 hx (ma_t (me_var 0) ma_nil)) ma_nil)) (me_callB (cr_repr hgd (hr.units70)) cal_repr (by rfl) T.b_repr rfl (ma_t (me_if (mt_cmp op_isA bin_isA (me_var 1) me_non) (me_var 2) (me_lst (ma_v me_str (ma_v (me_var 1) (ma_v me_bl (ma_v me_bl (ma_v me_bl ma_nil))))))) ma_nil)) (by with_unfolding_all rfl)))))
theorem kn_is_row (T : Txt K mg C_BadRatio C_InvalidText C_OfficeError)   {x : Str} {f : Addr} {fd : FuncData} (hm : mg x = some (.ref f)) (F : Fun K "is_row" "is_row" (top 8) f fd) : Kn PySem.Challenge.pw_carryoffice_k12_any_text_as_ratio w K mg base 1 x "is_row" (top 8) ["value", "many"] none f_is_row :=
  kn_def F hm sc_is_row rfl fun cdv A outer s H E hr hgd => by
    have hx : ∀ σ : L2.St, PassesAt (L2.CX PySem.Challenge.pw_carryoffice_k12_any_text_as_ratio w) (cxOf (L2.CX PySem.Challenge.pw_carryoffice_k12_any_text_as_ratio w) PySem.Challenge.pw_carryoffice_k12_any_text_as_ratio w K mg base ["value", "many"] "is_row" (defScope (top 8)) f cdv A outer s H E) σ (fun c d H => E c d H) := fun σ => passAt (takes_of rfl rfl rfl rfl) σ
    have tk : Takes (cxOf (L2.CX PySem.Challenge.pw_carryoffice_k12_any_text_as_ratio w) PySem.Challenge.pw_carryoffice_k12_any_text_as_ratio w K mg base ["value", "many"] "is_row" (defScope (top 8)) f cdv A outer s H E) (fun c d _ H => E c d H) := takes_of rfl rfl rfl rfl
    exact (mss_one (ms_ret (me_and (me_isi1 (by rfl) T.b_isinstance (by rfl) T.b_tuple "tuple" rfl (me_var 0)) (me_one (pe_cmp2 (op_eqS hr.units64) bin_eqS (me_callB call_len cal_len (by rfl) T.b_len rfl (ma_t (me_var 0) ma_nil)) (me_var 1) (by with_unfolding_all rfl))))))
theorem kn_is_integer (T : Txt K mg C_BadRatio C_InvalidText C_OfficeError)   {x : Str} {f : Addr} {fd : FuncData} (hm : mg x = some (.ref f)) (F : Fun K "is_integer" "is_integer" (top 7) f fd) : Kn PySem.Challenge.pw_carryoffice_k12_any_text_as_ratio w K mg base 1 x "is_integer" (top 7) ["value"] none f_is_integer :=
  kn_def F hm sc_is_integer rfl fun cdv A outer s H E hr hgd => by
    have hx : ∀ σ : L2.St, PassesAt (L2.CX PySem.Challenge.pw_carryoffice_k12_any_text_as_ratio w) (cxOf (L2.CX PySem.Challenge.pw_carryoffice_k12_any_text_as_ratio w) PySem.Challenge.pw_carryoffice_k12_any_text_as_ratio w K mg base ["value"] "is_integer" (defScope (top 7)) f cdv A outer s H E) σ (fun c d H => E c d H) := fun σ => passAt (takes_of rfl rfl rfl rfl) σ
    have tk : Takes (cxOf (L2.CX PySem.Challenge.pw_carryoffice_k12_any_text_as_ratio w) PySem.Challenge.pw_carryoffice_k12_any_text_as_ratio w K mg base ["value"] "is_integer" (defScope (top 7)) f cdv A outer s H E) (fun c d _ H => E c d H) := takes_of rfl rfl rfl rfl
    exact (mss_one (ms_ret (me_and (me_isi1 (by rfl) T.b_isinstance (by rfl) T.b_int "int" rfl (me_var 0)) (me_one (me_not (me_isi1 (by rfl) T.b_isinstance (by rfl) T.b_bool "bool" rfl (me_var 0)))))))
theorem kn_is_ratio (T : Txt K mg C_BadRatio C_InvalidText C_OfficeError)  (q_is_row : Kn PySem.Challenge.pw_carryoffice_k12_any_text_as_ratio w K mg base 1 "is_row" "is_row" (top 8) ["value", "many"] none f_is_row) (q_is_integer : Kn PySem.Challenge.pw_carryoffice_k12_any_text_as_ratio w K mg base 1 "is_integer" "is_integer" (top 7) ["value"] none f_is_integer) {x : Str} {f : Addr} {fd : FuncData} (hm : mg x = some (.ref f)) (F : Fun K "is_ratio" "is_ratio" (top 13) f fd) : Kn PySem.Challenge.pw_carryoffice_k12_any_text_as_ratio w K mg base 2 x "is_ratio" (top 13) ["value"] none f_is_ratio :=
  kn_def F hm sc_is_ratio rfl fun cdv A outer s H E hr hgd => by
    have hx : ∀ σ : L2.St, PassesAt (L2.CX PySem.Challenge.pw_carryoffice_k12_any_text_as_ratio w) (cxOf (L2.CX PySem.Challenge.pw_carryoffice_k12_any_text_as_ratio w) PySem.Challenge.pw_carryoffice_k12_any_text_as_ratio w K mg base ["value"] "is_ratio" (defScope (top 13)) f cdv A outer s H E) σ (fun c d H => E c d H) := fun σ => passAt (takes_of rfl rfl rfl rfl) σ
    have tk : Takes (cxOf (L2.CX PySem.Challenge.pw_carryoffice_k12_any_text_as_ratio w) PySem.Challenge.pw_carryoffice_k12_any_text_as_ratio w K mg base ["value"] "is_ratio" (defScope (top 13)) f cdv A outer s H E) (fun c d _ H => E c d H) := takes_of rfl rfl rfl rfl
    exact (mss_cons (ms_if ((mt_or (mt_not (mt_val (me_call q_is_row (hr.mono (by decide)) hgd (by rfl) 2 rfl b_is_row_2 hx (ma_t (me_var 0) (ma_t me_int ma_nil))))) (mt_or (mt_not (mt_val (me_call q_is_integer (hr.mono (by decide)) hgd (by rfl) 1 rfl b_is_integer_1 hx (ma_t (me_ix (me_var 0) me_int) ma_nil)))) (mt_or1 (mt_not (mt_val (me_call q_is_integer (hr.mono (by decide)) hgd (by rfl) 1 rfl b_is_integer_1 hx (ma_t (me_ix (me_var 0) me_int) ma_nil)))))))).pt (mss_one (ms_ret me_bl)) mss_nil) (mss_one (ms_ret (me_and (me_chain op_lt op_lt bin_ltA bin_ltA me_int (me_ix (me_var 0) me_int) (me_cst (by rfl) T.c_BEYOND)) (me_and (me_chain op_lt op_lt bin_ltA bin_ltA (me_neg (me_cst (by rfl) T.c_BEYOND)) (me_ix (me_var 0) me_int) (me_cst (by rfl) T.c_BEYOND)) (me_one (pe_cmp2 (op_eqS hr.units64) bin_eqS (me_callG cr_gcd cal_gcd (by rfl) T.g_gcd (ma_t (me_ix (me_var 0) me_int) (ma_t (me_ix (me_var 0) me_int) ma_nil))) me_int (by with_unfolding_all rfl))))))))
theorem kn_want_ratio (T : Txt K mg C_BadRatio C_InvalidText C_OfficeError)  (q_is_ratio : Kn PySem.Challenge.pw_carryoffice_k12_any_text_as_ratio w K mg base 2 "is_ratio" "is_ratio" (top 13) ["value"] none f_is_ratio) {x : Str} {f : Addr} {fd : FuncData} (hm : mg x = some (.ref f)) (F : Fun K "want_ratio" "want_ratio" (top 14) f fd) : Kn PySem.Challenge.pw_carryoffice_k12_any_text_as_ratio w K mg base 3 x "want_ratio" (top 14) ["value"] none f_want_ratio :=
  kn_def F hm sc_want_ratio rfl fun cdv A outer s H E hr hgd => by
    have hx : ∀ σ : L2.St, PassesAt (L2.CX PySem.Challenge.pw_carryoffice_k12_any_text_as_ratio w) (cxOf (L2.CX PySem.Challenge.pw_carryoffice_k12_any_text_as_ratio w) PySem.Challenge.pw_carryoffice_k12_any_text_as_ratio w K mg base ["value"] "want_ratio" (defScope (top 14)) f cdv A outer s H E) σ (fun c d H => E c d H) := fun σ => passAt (takes_of rfl rfl rfl rfl) σ
    have tk : Takes (cxOf (L2.CX PySem.Challenge.pw_carryoffice_k12_any_text_as_ratio w) PySem.Challenge.pw_carryoffice_k12_any_text_as_ratio w K mg base ["value"] "want_ratio" (defScope (top 14)) f cdv A outer s H E) (fun c d _ H => E c d H) := takes_of rfl rfl rfl rfl
    exact (mss_cons (ms_if (mt_not (mt_val (me_call q_is_ratio (hr.mono (by decide)) hgd (by rfl) 1 rfl b_is_ratio_1 hx (ma_t (me_var 0) ma_nil)))) (mss_one ms_never) mss_nil) (mss_one (ms_ret (me_var 0))))
theorem kn_ratio_text (T : Txt K mg C_BadRatio C_InvalidText C_OfficeError)  (q_want_ratio : Kn PySem.Challenge.pw_carryoffice_k12_any_text_as_ratio w K mg base 3 "want_ratio" "want_ratio" (top 14) ["value"] none f_want_ratio) {x : Str} {f : Addr} {fd : FuncData} (hm : mg x = some (.ref f)) (F : Fun K "ratio_text" "ratio_text" (top 16) f fd) : Kn PySem.Challenge.pw_carryoffice_k12_any_text_as_ratio w K mg base 4 x "ratio_text" (top 16) ["ratio"] none f_ratio_text :=
  kn_def F hm sc_ratio_text rfl fun cdv A outer s H E hr hgd => by
    have hx : ∀ σ : L2.St, PassesAt (L2.CX PySem.Challenge.pw_carryoffice_k12_any_text_as_ratio w) (cxOf (L2.CX PySem.Challenge.pw_carryoffice_k12_any_text_as_ratio w) PySem.Challenge.pw_carryoffice_k12_any_text_as_ratio w K mg base ["ratio"] "ratio_text" (defScope (top 16)) f cdv A outer s H E) σ (fun c d H => E c d H) := fun σ => passAt (takes_of rfl rfl rfl rfl) σ
    have tk : Takes (cxOf (L2.CX PySem.Challenge.pw_carryoffice_k12_any_text_as_ratio w) PySem.Challenge.pw_carryoffice_k12_any_text_as_ratio w K mg base ["ratio"] "ratio_text" (defScope (top 16)) f cdv A outer s H E) (fun c d _ H => E c d H) := takes_of rfl rfl rfl rfl
    exact (mss_cons (ms_expr (me_call q_want_ratio (hr.mono (by decide)) hgd (by rfl) 1 rfl b_want_ratio_1 hx (ma_t (me_var 0) ma_nil))) (mss_one (ms_ret (me_if (mt_cmp (op_eqS hr.units64) bin_eqS (me_ix (me_var 0) me_int) me_int) (me_callT cr_str cal_str (by rfl) T.b_str rfl (ma_t (me_ix (me_var 0) me_int) ma_nil)) (me_js (.cons (me_fmt (me_ix (me_var 0) me_int)) (.cons me_str (.cons (me_fmt (me_ix (me_var 0) me_int)) .nil))))))))
theorem kn__law_text (T : Txt K mg C_BadRatio C_InvalidText C_OfficeError)   {x : Str} {f : Addr} {fd : FuncData} (hm : mg x = some (.ref f)) (F : Fun K "_law_text" "_law_text" (top 25) f fd) : Kn PySem.Challenge.pw_carryoffice_k12_any_text_as_ratio w K mg base 1 x "_law_text" (top 25) ["ratio"] none f__law_text :=
  kn_def F hm sc__law_text rfl fun cdv A outer s H E hr hgd => by
    have hx : ∀ σ : L2.St, PassesAt (L2.CX PySem.Challenge.pw_carryoffice_k12_any_text_as_ratio w) (cxOf (L2.CX PySem.Challenge.pw_carryoffice_k12_any_text_as_ratio w) PySem.Challenge.pw_carryoffice_k12_any_text_as_ratio w K mg base ["ratio"] "_law_text" (defScope (top 25)) f cdv A outer s H E) σ (fun c d H => E c d H) := fun σ => passAt (takes_of rfl rfl rfl rfl) σ
    have tk : Takes (cxOf (L2.CX PySem.Challenge.pw_carryoffice_k12_any_text_as_ratio w) PySem.Challenge.pw_carryoffice_k12_any_text_as_ratio w K mg base ["ratio"] "_law_text" (defScope (top 25)) f cdv A outer s H E) (fun c d _ H => E c d H) := takes_of rfl rfl rfl rfl
    exact (mss_one (ms_ret (me_if (mt_cmp (op_eqS hr.units64) bin_eqS (me_ix (me_var 0) me_int) me_int) (me_callT cr_str cal_str (by rfl) T.b_str rfl (ma_t (me_ix (me_var 0) me_int) ma_nil)) (pe_bin op_addA bin_addA (pe_bin op_addA bin_addA (me_callT cr_str cal_str (by rfl) T.b_str rfl (ma_t (me_ix (me_var 0) me_int) ma_nil)) me_str) (me_callT cr_str cal_str (by rfl) T.b_str rfl (ma_t (me_ix (me_var 0) me_int) ma_nil))))))
theorem kn__law_bent (T : Txt K mg C_BadRatio C_InvalidText C_OfficeError)  (q__law_draw : Kn PySem.Challenge.pw_carryoffice_k12_any_text_as_ratio w K mg base 1 "_law_draw" "_law_draw" (top 21) ["pot", "size"] (some 0) f__law_draw) (q__law_pick : Kn PySem.Challenge.pw_carryoffice_k12_any_text_as_ratio w K mg base 2 "_law_pick" "_law_pick" (top 22) ["pot", "some"] (some 0) f__law_pick) {x : Str} {f : Addr} {fd : FuncData} (hm : mg x = some (.ref f)) (F : Fun K "_law_bent" "_law_bent" (top 28) f fd) : Kn PySem.Challenge.pw_carryoffice_k12_any_text_as_ratio w K mg base 3 x "_law_bent" (top 28) ["pot", "text"] (some 0) f__law_bent :=
  kn_def F hm sc__law_bent rfl fun cdv A outer s H E hr hgd => by
    have hx : ∀ σ : L2.St, PassesAt (L2.CX PySem.Challenge.pw_carryoffice_k12_any_text_as_ratio w) (cxOf (L2.CX PySem.Challenge.pw_carryoffice_k12_any_text_as_ratio w) PySem.Challenge.pw_carryoffice_k12_any_text_as_ratio w K mg base ["pot", "text", "at", "way", "sign"] "_law_bent" (defScope (top 28)) f cdv A outer s H E) σ (fun c d H => E c d H) := fun σ => passAt (takes_of rfl rfl rfl rfl) σ
    have tk : Takes (cxOf (L2.CX PySem.Challenge.pw_carryoffice_k12_any_text_as_ratio w) PySem.Challenge.pw_carryoffice_k12_any_text_as_ratio w K mg base ["pot", "text", "at", "way", "sign"] "_law_bent" (defScope (top 28)) f cdv A outer s H E) (fun c d _ H => E c d H) := takes_of rfl rfl rfl rfl
    exact (mss_cons (ms_par rfl sc__law_bent.nd 2 3 (me_call q__law_draw (hr.mono (by decide)) hgd (by rfl) 2 rfl b__law_draw_2 hx (ma_t (me_var 0) (ma_t (pe_bin op_addA bin_addA (me_callB call_len cal_len (by rfl) T.b_len rfl (ma_t (me_var 1) ma_nil)) me_int) ma_nil))) (me_call q__law_draw (hr.mono (by decide)) hgd (by rfl) 2 rfl b__law_draw_2 hx (ma_t (me_var 0) (ma_t me_int ma_nil)))) (mss_cons (ms_set sc__law_bent.nd rfl (Or.inl rfl) (me_call q__law_pick (hr.mono (by decide)) hgd (by rfl) 2 rfl b__law_pick_2 hx (ma_t (me_var 0) (ma_t (me_lst (ma_v me_str (ma_v me_str (ma_v me_str (ma_v me_str (ma_v me_str (ma_v me_str (ma_v me_str (ma_v me_str (ma_v me_str (ma_v me_str (ma_v me_str (ma_v me_str (ma_v me_str ma_nil)))))))))))))) ma_nil)))) (mss_cons (ms_if (mt_cmp (op_eqS hr.units64) bin_eqS (me_var 3) me_int) (mss_one (ms_ret (pe_bin op_addA bin_addA (me_sl (me_var 1) po_n (po_s (me_var 2))) (me_sl (me_var 1) (po_s (pe_bin op_addA bin_addA (me_var 2) me_int)) po_n)))) mss_nil) (mss_cons (ms_if (mt_cmp (op_eqS hr.units64) bin_eqS (me_var 3) me_int) (mss_one (ms_ret (pe_bin op_addA bin_addA (pe_bin op_addA bin_addA (me_sl (me_var 1) po_n (po_s (me_var 2))) (me_var 4)) (me_sl (me_var 1) (po_s (me_var 2)) po_n)))) mss_nil) (mss_cons (ms_if (mt_cmp (op_eqS hr.units64) bin_eqS (me_var 3) me_int) (mss_one (ms_ret (me_sl (me_var 1) po_n (po_s (me_var 2))))) mss_nil) (mss_cons (ms_if (mt_cmp (op_eqS hr.units64) bin_eqS (me_var 3) me_int) (mss_one (ms_ret (pe_bin op_addA bin_addA (pe_bin op_addA bin_addA (me_sl (me_var 1) po_n (po_s (me_var 2))) (me_sl (me_var 1) (po_s (me_var 2)) (po_s (pe_bin op_addA bin_addA (me_var 2) me_int)))) (me_sl (me_var 1) (po_s (me_var 2)) po_n)))) mss_nil) (mss_one (ms_ret (me_if (mt_cmp (op_eqS hr.units64) bin_eqS (me_var 3) me_int) (pe_bin op_addA bin_addA (pe_bin op_addA bin_addA (me_sl (me_var 1) po_n (po_s (me_var 2))) (me_var 4)) (me_sl (me_var 1) (po_s (pe_bin op_addA bin_addA (me_var 2) me_int)) po_n)) (pe_bin op_addA bin_addA (me_var 1) (me_var 4)))))))))))
theorem kn_law (T : Txt K mg C_BadRatio C_InvalidText C_OfficeError)  (q__law_pot : Kn PySem.Challenge.pw_carryoffice_k12_any_text_as_ratio w K mg base 1 "_law_pot" "_law_pot" (top 20) ["script", "k"] none f__law_pot) (q__law_long_texts : Kn PySem.Challenge.pw_carryoffice_k12_any_text_as_ratio w K mg base 3 "_law_long_texts" "_law_long_texts" (top 31) ["pot"] (some 0) f__law_long_texts) (q__law_right : Kn PySem.Challenge.pw_carryoffice_k12_any_text_as_ratio w K mg base 6 "_law_right" "_law_right" (top 30) ["text"] none f__law_right) (q__law_pick : Kn PySem.Challenge.pw_carryoffice_k12_any_text_as_ratio w K mg base 2 "_law_pick" "_law_pick" (top 22) ["pot", "some"] (some 0) f__law_pick) (q__law_draw : Kn PySem.Challenge.pw_carryoffice_k12_any_text_as_ratio w K mg base 1 "_law_draw" "_law_draw" (top 21) ["pot", "size"] (some 0) f__law_draw) (q__law_ratio : Kn PySem.Challenge.pw_carryoffice_k12_any_text_as_ratio w K mg base 2 "_law_ratio" "_law_ratio" (top 24) ["number", "under"] none f__law_ratio) (q_ratio_text : Kn PySem.Challenge.pw_carryoffice_k12_any_text_as_ratio w K mg base 4 "ratio_text" "ratio_text" (top 16) ["ratio"] none f_ratio_text) (q__law_text : Kn PySem.Challenge.pw_carryoffice_k12_any_text_as_ratio w K mg base 1 "_law_text" "_law_text" (top 25) ["ratio"] none f__law_text) (q_parse_ratio : Kn PySem.Challenge.pw_carryoffice_k12_any_text_as_ratio w K mg base 4 "parse_ratio" "parse_ratio" (top 18) ["text"] none f_parse_ratio) (q__law_bent : Kn PySem.Challenge.pw_carryoffice_k12_any_text_as_ratio w K mg base 3 "_law_bent" "_law_bent" (top 28) ["pot", "text"] (some 0) f__law_bent) {x : Str} {f : Addr} {fd : FuncData} (hm : mg x = some (.ref f)) (F : Fun K "law" "law" (top 32) f fd) : Kn PySem.Challenge.pw_carryoffice_k12_any_text_as_ratio w K mg base 7 x "law" (top 32) ["script"] none f_law :=
  kn_def F hm sc_law rfl fun cdv A outer s H E hr hgd => by
    have hx : ∀ σ : L2.St, PassesAt (L2.CX PySem.Challenge.pw_carryoffice_k12_any_text_as_ratio w) (cxOf (L2.CX PySem.Challenge.pw_carryoffice_k12_any_text_as_ratio w) PySem.Challenge.pw_carryoffice_k12_any_text_as_ratio w K mg base ["script", "pot", "told", "text", "turn", "size", "number", "under", "ratio", "bent"] "law" (defScope (top 32)) f cdv A outer s H E) σ (fun c d H => E c d H) := fun σ => passAt (takes_of rfl rfl rfl rfl) σ
    have tk : Takes (cxOf (L2.CX PySem.Challenge.pw_carryoffice_k12_any_text_as_ratio w) PySem.Challenge.pw_carryoffice_k12_any_text_as_ratio w K mg base ["script", "pot", "told", "text", "turn", "size", "number", "under", "ratio", "bent"] "law" (defScope (top 32)) f cdv A outer s H E) (fun c d _ H => E c d H) := takes_of rfl rfl rfl rfl
    exact (mss_cons (ms_set sc_law.nd rfl (Or.inl rfl) (me_call q__law_pot (hr.mono (by decide)) hgd (by rfl) 2 rfl b__law_pot_2 hx (ma_t (me_var 0) (ma_t me_int ma_nil)))) (mss_cons (ms_set sc_law.nd rfl (Or.inl rfl) (me_lst (ma_v me_str (ma_v me_str (ma_v me_str (ma_v me_str (ma_v me_str (ma_v me_str (ma_v me_str (ma_v me_str (ma_v me_str (ma_v me_str (ma_v me_str (ma_v me_str (ma_v me_str (ma_v me_str (ma_v me_str (ma_v me_str (ma_v me_str (ma_v me_str (ma_v me_str (ma_v me_str (ma_v me_str (ma_v me_str (ma_v me_str (ma_v me_str (ma_v me_str (ma_v me_str (ma_v me_str (ma_v me_str (ma_v me_str (ma_v me_str (ma_v me_str (ma_v me_str ma_nil)))))))))))))))))))))))))))))))))) (mss_cons (ms_forC (passes_of rfl) rfl (mi_data (pe_bin op_addA bin_addA (me_var 2) (me_call q__law_long_texts (hr.mono (by decide)) hgd (by rfl) 1 rfl b__law_long_texts_1 hx (ma_t (me_var 1) ma_nil)))) (mg_name (fun _ _ => trivial) sc_law.nd rfl (Or.inl rfl)) (mss_one (ms_if (mt_not (mt_val (me_call q__law_right (hr.mono (by decide)) hgd (by rfl) 1 rfl b__law_right_1 hx (ma_t (me_var 3) ma_nil)))) (mss_one (ms_ret me_bl)) mss_nil))) (mss_cons (ms_forC (passes_of rfl) rfl (mi_rng1 (by rfl) T.b_range (ma_t me_int ma_nil)) (mg_name (fun _ _ => trivial) sc_law.nd rfl (Or.inl rfl)) (mss_cons (ms_set sc_law.nd rfl (Or.inl rfl) (me_call q__law_pick (hr.mono (by decide)) hgd (by rfl) 2 rfl b__law_pick_2 hx (ma_t (me_var 1) (ma_t (me_lst (ma_v me_int (ma_v me_int (ma_v (pe_bin op_powA bin_powA me_int me_int) (ma_v (pe_bin op_powA bin_powA me_int me_int) ma_nil))))) ma_nil)))) (mss_cons (ms_par rfl sc_law.nd 6 7 (pe_bin op_sub bin_subA (me_call q__law_draw (hr.mono (by decide)) hgd (by rfl) 2 rfl b__law_draw_2 hx (ma_t (me_var 1) (ma_t (pe_bin op_addA bin_addA (pe_bin op_mulA bin_mulA me_int (me_var 5)) me_int) ma_nil))) (me_var 5)) (pe_bin op_addA bin_addA me_int (me_call q__law_draw (hr.mono (by decide)) hgd (by rfl) 2 rfl b__law_draw_2 hx (ma_t (me_var 1) (ma_t (me_call q__law_pick (hr.mono (by decide)) hgd (by rfl) 2 rfl b__law_pick_2 hx (ma_t (me_var 1) (ma_t (me_lst (ma_v me_int (ma_v me_int (ma_v (pe_bin op_powA bin_powA me_int me_int) ma_nil)))) ma_nil))) ma_nil))))) (mss_cons (ms_par rfl sc_law.nd 8 3 (me_call q__law_ratio (hr.mono (by decide)) hgd (by rfl) 2 rfl b__law_ratio_2 hx (ma_t (me_var 6) (ma_t (me_var 7) ma_nil))) (pe_bin op_addA bin_addA (pe_bin op_addA bin_addA (me_callT cr_str cal_str (by rfl) T.b_str rfl (ma_t (me_var 6) ma_nil)) me_str) (me_callT cr_str cal_str (by rfl) T.b_str rfl (ma_t (me_var 7) ma_nil)))) (mss_cons (ms_if ((mt_or (mt_cmp (op_neS hr.units64) bin_neS (me_callB (cr_repr hgd (hr.units70)) cal_repr (by rfl) T.b_repr rfl (ma_t (me_call q_ratio_text (hr.mono (by decide)) hgd (by rfl) 1 rfl b_ratio_text_1 hx (ma_t (me_var 8) ma_nil)) ma_nil)) (me_callB (cr_repr hgd (hr.units70)) cal_repr (by rfl) T.b_repr rfl (ma_t (me_call q__law_text (hr.mono (by decide)) hgd (by rfl) 1 rfl b__law_text_1 hx (ma_t (me_var 8) ma_nil)) ma_nil))) (mt_or1 (mt_cmp (op_neS hr.units64) bin_neS (me_callB (cr_repr hgd (hr.units70)) cal_repr (by rfl) T.b_repr rfl (ma_t (me_callK0 q_parse_ratio (hr.mono (by decide)) hgd (by rfl) b_parse_ratio_0_text hx (fun rs h => match rs, h with | [_], _ => rfl) (mk_cons (me_callK0 q_ratio_text (hr.mono (by decide)) hgd (by rfl) b_ratio_text_0_ratio hx (fun rs h => match rs, h with | [_], _ => rfl) (mk_cons (me_var 8) mk_nil)) mk_nil)) ma_nil)) (me_callB (cr_repr hgd (hr.units70)) cal_repr (by rfl) T.b_repr rfl (ma_t (me_var 8) ma_nil)))))).pt (mss_one (ms_ret me_bl)) mss_nil) (mss_cons (ms_set sc_law.nd rfl (Or.inl rfl) (me_call q__law_bent (hr.mono (by decide)) hgd (by rfl) 2 rfl b__law_bent_2 hx (ma_t (me_var 1) (ma_t (me_var 3) ma_nil)))) (mss_one (ms_if ((mt_or (mt_not (mt_val (me_call q__law_right (hr.mono (by decide)) hgd (by rfl) 1 rfl b__law_right_1 hx (ma_t (me_var 3) ma_nil)))) (mt_or (mt_not (mt_val (me_call q__law_right (hr.mono (by decide)) hgd (by rfl) 1 rfl b__law_right_1 hx (ma_t (me_var 9) ma_nil)))) (mt_or1 (mt_not (mt_val (me_call q__law_right (hr.mono (by decide)) hgd (by rfl) 1 rfl b__law_right_1 hx (ma_t (me_call q__law_bent (hr.mono (by decide)) hgd (by rfl) 2 rfl b__law_bent_2 hx (ma_t (me_var 1) (ma_t (me_var 9) ma_nil))) ma_nil)))))))).pt (mss_one (ms_ret me_bl)) mss_nil)))))))) (mss_one (ms_ret me_bl))))))
end
theorem all {w : World} {K : PySem.W.Frag} {mg : Str → Option Value} {fa : Addr} {C_BadRatio C_InvalidText C_OfficeError : Addr} (hfa : mg "law" = some (.ref fa)) (T : Txt K mg C_BadRatio C_InvalidText C_OfficeError)
    (i_BadRatio : ∃ (f : Addr) (fd : FuncData), PySem.W.findIn K (.ref C_BadRatio) "__init__" = some (some (.ref f)) ∧ PySem.W.typeIn K (.ref f) = some (.type "function") ∧ Fun K "__init__" "BadRatio.__init__" (inClass (top 4) 0) f fd)
    (d__law_draw : ∃ (f : Addr) (fd : FuncData), mg "_law_draw" = some (.ref f) ∧ Fun K "_law_draw" "_law_draw" (top 21) f fd)
    (d__law_pick : ∃ (f : Addr) (fd : FuncData), mg "_law_pick" = some (.ref f) ∧ Fun K "_law_pick" "_law_pick" (top 22) f fd)
    (d__law_common : ∃ (f : Addr) (fd : FuncData), mg "_law_common" = some (.ref f) ∧ Fun K "_law_common" "_law_common" (top 23) f fd)
    (d__law_next : ∃ (f : Addr) (fd : FuncData), mg "_law_next" = some (.ref f) ∧ Fun K "_law_next" "_law_next" (top 26) f fd)
    (d__law_ratio : ∃ (f : Addr) (fd : FuncData), mg "_law_ratio" = some (.ref f) ∧ Fun K "_law_ratio" "_law_ratio" (top 24) f fd)
    (d__behind_digits : ∃ (f : Addr) (fd : FuncData), mg "_behind_digits" = some (.ref f) ∧ Fun K "_behind_digits" "_behind_digits" (top 17) f fd)
    (d_fraction : ∃ (f : Addr) (fd : FuncData), mg "fraction" = some (.ref f) ∧ Fun K "fraction" "fraction" (top 15) f fd)
    (d_parse_ratio : ∃ (f : Addr) (fd : FuncData), mg "parse_ratio" = some (.ref f) ∧ Fun K "parse_ratio" "parse_ratio" (top 18) f fd)
    (d__law_read : ∃ (f : Addr) (fd : FuncData), mg "_law_read" = some (.ref f) ∧ Fun K "_law_read" "_law_read" (top 27) f fd)
    (d__law_heard : ∃ (f : Addr) (fd : FuncData), mg "_law_heard" = some (.ref f) ∧ Fun K "_law_heard" "_law_heard" (top 29) f fd)
    (d_is_row : ∃ (f : Addr) (fd : FuncData), mg "is_row" = some (.ref f) ∧ Fun K "is_row" "is_row" (top 8) f fd)
    (d_is_integer : ∃ (f : Addr) (fd : FuncData), mg "is_integer" = some (.ref f) ∧ Fun K "is_integer" "is_integer" (top 7) f fd)
    (d_is_ratio : ∃ (f : Addr) (fd : FuncData), mg "is_ratio" = some (.ref f) ∧ Fun K "is_ratio" "is_ratio" (top 13) f fd)
    (d_want_ratio : ∃ (f : Addr) (fd : FuncData), mg "want_ratio" = some (.ref f) ∧ Fun K "want_ratio" "want_ratio" (top 14) f fd)
    (d__law_pot : ∃ (f : Addr) (fd : FuncData), mg "_law_pot" = some (.ref f) ∧ Fun K "_law_pot" "_law_pot" (top 20) f fd)
    (d__law_long_texts : ∃ (f : Addr) (fd : FuncData), mg "_law_long_texts" = some (.ref f) ∧ Fun K "_law_long_texts" "_law_long_texts" (top 31) f fd)
    (d__law_right : ∃ (f : Addr) (fd : FuncData), mg "_law_right" = some (.ref f) ∧ Fun K "_law_right" "_law_right" (top 30) f fd)
    (d_ratio_text : ∃ (f : Addr) (fd : FuncData), mg "ratio_text" = some (.ref f) ∧ Fun K "ratio_text" "ratio_text" (top 16) f fd)
    (d__law_text : ∃ (f : Addr) (fd : FuncData), mg "_law_text" = some (.ref f) ∧ Fun K "_law_text" "_law_text" (top 25) f fd)
    (d__law_bent : ∃ (f : Addr) (fd : FuncData), mg "_law_bent" = some (.ref f) ∧ Fun K "_law_bent" "_law_bent" (top 28) f fd)
    (d_law : ∃ (f : Addr) (fd : FuncData), mg "law" = some (.ref f) ∧ Fun K "law" "law" (top 32) f fd)
    : ∃ fd : FuncData, (∀ (s : Shared) (u : Value), BindsTo s fd ⟨[u], []⟩ [("script", u)]) ∧ ∀ base : Heap, K.In base → base.Ns mainGlobals mg → FnG PySem.Challenge.pw_carryoffice_k12_any_text_as_ratio w K mg base (L2.CX PySem.Challenge.pw_carryoffice_k12_any_text_as_ratio w) 7 fa fd ["script"] (spF K mg 1 none f_law) := by
  obtain ⟨a__law_draw, fd__law_draw, h__law_draw, F__law_draw⟩ := d__law_draw
  obtain ⟨a__law_pick, fd__law_pick, h__law_pick, F__law_pick⟩ := d__law_pick
  obtain ⟨a__law_common, fd__law_common, h__law_common, F__law_common⟩ := d__law_common
  obtain ⟨a__law_next, fd__law_next, h__law_next, F__law_next⟩ := d__law_next
  obtain ⟨a__law_ratio, fd__law_ratio, h__law_ratio, F__law_ratio⟩ := d__law_ratio
  obtain ⟨a__behind_digits, fd__behind_digits, h__behind_digits, F__behind_digits⟩ := d__behind_digits
  obtain ⟨a_fraction, fd_fraction, h_fraction, F_fraction⟩ := d_fraction
  obtain ⟨a_parse_ratio, fd_parse_ratio, h_parse_ratio, F_parse_ratio⟩ := d_parse_ratio
  obtain ⟨a__law_read, fd__law_read, h__law_read, F__law_read⟩ := d__law_read
  obtain ⟨a__law_heard, fd__law_heard, h__law_heard, F__law_heard⟩ := d__law_heard
  obtain ⟨a_is_row, fd_is_row, h_is_row, F_is_row⟩ := d_is_row
  obtain ⟨a_is_integer, fd_is_integer, h_is_integer, F_is_integer⟩ := d_is_integer
  obtain ⟨a_is_ratio, fd_is_ratio, h_is_ratio, F_is_ratio⟩ := d_is_ratio
  obtain ⟨a_want_ratio, fd_want_ratio, h_want_ratio, F_want_ratio⟩ := d_want_ratio
  obtain ⟨a__law_pot, fd__law_pot, h__law_pot, F__law_pot⟩ := d__law_pot
  obtain ⟨a__law_long_texts, fd__law_long_texts, h__law_long_texts, F__law_long_texts⟩ := d__law_long_texts
  obtain ⟨a__law_right, fd__law_right, h__law_right, F__law_right⟩ := d__law_right
  obtain ⟨a_ratio_text, fd_ratio_text, h_ratio_text, F_ratio_text⟩ := d_ratio_text
  obtain ⟨a__law_text, fd__law_text, h__law_text, F__law_text⟩ := d__law_text
  obtain ⟨a__law_bent, fd__law_bent, h__law_bent, F__law_bent⟩ := d__law_bent
  obtain ⟨a_law, fd_law, h_law, F_law⟩ := d_law
  obtain ⟨fi_BadRatio, fdi_BadRatio, ia_BadRatio, it_BadRatio, FI_BadRatio⟩ := i_BadRatio
  have e := hfa.symm.trans h_law
  cases e
  refine ⟨fd_law, fun s u => ?_, fun base _ _ => ?_⟩
  · obtain ⟨_, _, _, _, _, _, _, _, _, rfl, _, _⟩ := F_law.ex
    exact .of_eq rfl
  · skip
    have x_BadRatio : Ex1 PySem.Challenge.pw_carryoffice_k12_any_text_as_ratio w K mg base "BadRatio" "position" := ex1_mk T.x_BadRatio ia_BadRatio it_BadRatio (ki_BadRatio FI_BadRatio) (FI_BadRatio.binds (ps := ["self", "position"]) fun _ _ _ _ _ _ us hl => match us, hl with | [_, _], _ => rfl)
    have k__law_pot := kn__law_pot (base := base) (w := w) T  h__law_pot F__law_pot
    have k__law_draw := kn__law_draw (base := base) (w := w) T  h__law_draw F__law_draw
    have k__law_pick := kn__law_pick (base := base) (w := w) T k__law_draw h__law_pick F__law_pick
    have k__law_long_texts := kn__law_long_texts (base := base) (w := w) T k__law_pick h__law_long_texts F__law_long_texts
    have k__law_next := kn__law_next (base := base) (w := w) T  h__law_next F__law_next
    have k__law_common := kn__law_common (base := base) (w := w) T  h__law_common F__law_common
    have k__law_ratio := kn__law_ratio (base := base) (w := w) T k__law_common h__law_ratio F__law_ratio
    have k__law_read := kn__law_read (base := base) (w := w) T k__law_next k__law_ratio h__law_read F__law_read
    have k__behind_digits := kn__behind_digits (base := base) (w := w) T x_BadRatio h__behind_digits F__behind_digits
    have k_fraction := kn_fraction (base := base) (w := w) T  h_fraction F_fraction
    have k_parse_ratio := kn_parse_ratio (base := base) (w := w) T x_BadRatio k__behind_digits k_fraction h_parse_ratio F_parse_ratio
    have k__law_heard := kn__law_heard (base := base) (w := w) T k_parse_ratio h__law_heard F__law_heard
    have k__law_right := kn__law_right (base := base) (w := w) T k__law_read k__law_heard h__law_right F__law_right
    have k_is_row := kn_is_row (base := base) (w := w) T  h_is_row F_is_row
    have k_is_integer := kn_is_integer (base := base) (w := w) T  h_is_integer F_is_integer
    have k_is_ratio := kn_is_ratio (base := base) (w := w) T k_is_row k_is_integer h_is_ratio F_is_ratio
    have k_want_ratio := kn_want_ratio (base := base) (w := w) T k_is_ratio h_want_ratio F_want_ratio
    have k_ratio_text := kn_ratio_text (base := base) (w := w) T k_want_ratio h_ratio_text F_ratio_text
    have k__law_text := kn__law_text (base := base) (w := w) T  h__law_text F__law_text
    have k__law_bent := kn__law_bent (base := base) (w := w) T k__law_draw k__law_pick h__law_bent F__law_bent
    have k_law := kn_law (base := base) (w := w) T k__law_pot k__law_long_texts k__law_right k__law_pick k__law_draw k__law_ratio k_ratio_text k__law_text k_parse_ratio k__law_bent h_law F_law
    exact kn_of k_law h_law F_law
end K12

namespace K12
open PySem L2 Evl PySem.Spec Mi
def PotOk (d : D) : Prop := ∃ a b : Int, 0 ≤ a ∧ 0 ≤ b ∧ b < 4294967296 ∧ d = .list [.int a, .int b]
theorem lg_of {n k : Nat} (h : n < 2 ^ k) (hk : 0 < k) : n.log2 < k := by
  rcases Nat.eq_zero_or_pos n with z | z
  · subst z; exact hk
  · exact (Nat.log2_lt (Nat.pos_iff_ne_zero.mp z)).mpr h
theorem mulOk_of {i j : Int} {a b : Nat} (hi : i.natAbs < 2 ^ a) (hj : j.natAbs < 2 ^ b) (ha : 0 < a) (hb : 0 < b) (h : a + b < 1000000) : mulOk i j = true := by
  have h1 := lg_of hi ha
  have h2 := lg_of hj hb
  exact decide_eq_true (by omega)
theorem divOk_of {j : Int} {k : Nat} (h0 : j ≠ 0) (hj : j.natAbs < 2 ^ k) (h : 0 < k ∧ k ≤ 9000) : divOk j = true := by
  have := lg_of hj h.1
  exact decide_eq_true ⟨h0, by omega⟩
theorem fmod_eq {a b : Int} (h : 0 < b) : a.fmod b = a % b := Int.fmod_eq_emod_of_nonneg _ (Int.le_of_lt h)
theorem fdiv_eq {a b : Int} (h : 0 < b) : a.fdiv b = a / b := Int.fdiv_eq_ediv_of_nonneg _ (Int.le_of_lt h)
theorem ev_draw {p : D} (h : PotOk p) {n : Int} (hn : 0 < n) (hb : n.natAbs < 2 ^ 9000) : ∃ r p', 0 ≤ r ∧ r < n ∧ PotOk p' ∧ f__law_draw [p, .int n] = some (.ok (.val (.int r)), p') := by
  obtain ⟨a, b, ha, h0, h1, rfl⟩ := h
  have hl : n.natAbs.log2 < 9000 := lg_of hb (by decide)
  by_cases c : 0 < a
  · refine ⟨a % n, .list [.int (a / n), .int b], Int.emod_nonneg _ (by omega), Int.emod_lt_of_pos _ hn, ⟨a / n, b, Int.ediv_nonneg ha (by omega), h0, h1, rfl⟩, ?_⟩
    simp [f__law_draw, m__law_draw, c, hn, hl, mkFn, isListAt, slots, slot0, mSeq, mAsg, mRet, mIfS, mDrop, mB, bnd, Mi.ret, thaw, thawR, mVal, valR, mVar, mC, mBin, mUn, op1, op2, look, opN, lookAll, mCall, aT, aV, aNil, mStore, okSet, isT, asB, mTup, mLst, valsOf, mNx, outIo, retR, Md.isOwn, Md.isIo, Md.isLk, fI, mIf, mAnd, mOr, mNot, mAndV, mOrV, mChain, mPar, mPar3, mF, mFk, callF, callIo, putIo, freezeBy, flatD, flatAll, flatY, mayGive, notSlot, gath, mAsgG, gT, gsCons, gsNil, gIx, gN, setIx, mSetIx, ownAt, mApp, appTo, mIsi, isiD, isK, kinds, tyD, mSl, mPart, mNoPart, asInt, slD, cutD, lenD, absD, max2D, min2D, gcdD, lcmD, intD, listD, tupleD, allD, boolsOf, divmodD, addD, subD, mulD, fdivD, modD, powD, ltD, leD, gtD, geD, isD, isntD, negD, notD, ixD, revD, atI, ixN, isNone, sizeLine, eqsD, nesD, eqD, neD, inD, inT, inL, mMt, mtS, startsD, findD, fmtD, mJs, strD]
  · have m1 : mulOk b 40692 = true := mulOk_of (a := 33) (b := 33) (by omega) (by decide) (by decide) (by decide) (by decide)
    let b' := (b * 40692 + 457).fmod 2147483399
    have e' : b' = (b * 40692 + 457) % 2147483399 := fmod_eq (by decide)
    have b0 : 0 ≤ b' := by rw [e']; exact Int.emod_nonneg _ (by decide)
    have b1 : b' < 2147483399 := by rw [e']; exact Int.emod_lt_of_pos _ (by decide)
    have m2 : mulOk b' b' = true := mulOk_of (a := 33) (b := 33) (by omega) (by omega) (by decide) (by decide) (by decide)
    refine ⟨(((b' * b').fmod 2147483323).fdiv 19).fmod n, .list [.int a, .int b'], ?_, ?_, ⟨a, b', ha, b0, by omega, rfl⟩, ?_⟩
    · rw [fmod_eq hn]; exact Int.emod_nonneg _ (by omega)
    · rw [fmod_eq hn]; exact Int.emod_lt_of_pos _ hn
    · have hn0 : n ≠ 0 := by omega
      have d19 : divOk 19 = true := by decide
      simp [f__law_draw, m__law_draw, c, m1, m2, hn0, d19, b', mkFn, isListAt, slots, slot0, mSeq, mAsg, mRet, mIfS, mDrop, mB, bnd, Mi.ret, thaw, thawR, mVal, valR, mVar, mC, mBin, mUn, op1, op2, look, opN, lookAll, mCall, aT, aV, aNil, mStore, okSet, isT, asB, mTup, mLst, valsOf, mNx, outIo, retR, Md.isOwn, Md.isIo, Md.isLk, fI, mIf, mAnd, mOr, mNot, mAndV, mOrV, mChain, mPar, mPar3, mF, mFk, callF, callIo, putIo, freezeBy, flatD, flatAll, flatY, mayGive, notSlot, gath, mAsgG, gT, gsCons, gsNil, gIx, gN, setIx, mSetIx, ownAt, mApp, appTo, mIsi, isiD, isK, kinds, tyD, mSl, mPart, mNoPart, asInt, slD, cutD, lenD, absD, max2D, min2D, gcdD, lcmD, intD, listD, tupleD, allD, boolsOf, divmodD, addD, subD, mulD, fdivD, modD, powD, ltD, leD, gtD, geD, isD, isntD, negD, notD, ixD, revD, atI, ixN, isNone, sizeLine, eqsD, nesD, eqD, neD, inD, inT, inL, mMt, mtS, startsD, findD, fmtD, mJs, strD]
theorem ev_pick {p : D} (h : PotOk p) {xs : List D} (hx : 0 < xs.length) (hl : xs.length < 1000) : ∃ x p', x ∈ xs ∧ PotOk p' ∧ f__law_pick [p, .list xs] = some (.ok (.val x), p') := by
  obtain ⟨r, p', r0, r1, hp, e⟩ := ev_draw h (n := (xs.length : Int)) (by omega) (by
    have : (1000 : Nat) < 2 ^ 9000 := Nat.lt_of_lt_of_le (by decide : 1000 < 2 ^ 10) (Nat.pow_le_pow_right (by decide) (by decide))
    rw [Int.natAbs_natCast]
    omega)
  obtain ⟨a, b, _, _, _, rfl⟩ := h
  obtain ⟨a', b', _, _, _, rfl⟩ := hp
  have hr : r.toNat < xs.length := by omega
  refine ⟨xs[r.toNat], _, List.getElem_mem _, ⟨a', b', by assumption, by assumption, by assumption, rfl⟩, ?_⟩
  have r2 : r < (xs.length : Int) := r1
  simp [f__law_pick, m__law_pick, e, r0, r2, hr, mkFn, isListAt, slots, slot0, mSeq, mAsg, mRet, mIfS, mDrop, mB, bnd, Mi.ret, thaw, thawR, mVal, valR, mVar, mC, mBin, mUn, op1, op2, look, opN, lookAll, mCall, aT, aV, aNil, mStore, okSet, isT, asB, mTup, mLst, valsOf, mNx, outIo, retR, Md.isOwn, Md.isIo, Md.isLk, fI, mIf, mAnd, mOr, mNot, mAndV, mOrV, mChain, mPar, mPar3, mF, mFk, callF, callIo, putIo, freezeBy, flatD, flatAll, flatY, mayGive, notSlot, gath, mAsgG, gT, gsCons, gsNil, gIx, gN, setIx, mSetIx, ownAt, mApp, appTo, mIsi, isiD, isK, kinds, tyD, mSl, mPart, mNoPart, asInt, slD, cutD, lenD, absD, max2D, min2D, gcdD, lcmD, intD, listD, tupleD, allD, boolsOf, divmodD, addD, subD, mulD, fdivD, modD, powD, ltD, leD, gtD, geD, isD, isntD, negD, notD, ixD, revD, atI, ixN, isNone, sizeLine, eqsD, nesD, eqD, neD, inD, inT, inL, mMt, mtS, startsD, findD, fmtD, mJs, strD]
end K12

namespace K12
open PySem L2 Evl PySem.Spec Mi
theorem eqv_int (a b : Int) : PyData.eqv (.int a) (.int b) = decide (a = b) := by
  simp only [PyData.eqv]
  by_cases h : a = b <;> simp [h]
theorem shaped_int (a : Int) : SeqAt.shaped (.int a) = true := by simp [SeqAt.shaped, PyData.canLay0, PyData.depth]
/-! ### Euclid's loop -/
def ss (a b : Int) : Prop := (0 ≤ a ∧ 0 ≤ b) ∨ (a ≤ 0 ∧ b ≤ 0)
def rem (a b : Int) : Int := a - a.fdiv b * b
theorem rem_pos {a b : Int} (hb : 0 < b) : rem a b = a % b := by
  unfold rem
  rw [fdiv_eq hb, Int.mul_comm, Int.emod_def]
theorem rem_neg {a b : Int} : rem a b = -(rem (-a) (-b)) := by
  unfold rem
  rw [Int.neg_fdiv_neg, Int.mul_neg]
  omega
theorem rem_any {a b : Int} (hb : b ≠ 0) : (rem a b).natAbs < b.natAbs ∧ ss b (rem a b) := by
  rcases Int.lt_or_gt_of_ne hb with h | h
  · have e := rem_pos (a := -a) (b := -b) (by omega)
    rw [rem_neg, e]
    have h1 := Int.emod_nonneg (-a) (b := -b) (by omega)
    have h2 := Int.emod_lt_of_pos (-a) (b := -b) (by omega)
    unfold ss
    omega
  · rw [rem_pos h]
    have h1 := Int.emod_nonneg a (b := b) (by omega)
    have h2 := Int.emod_lt_of_pos a (b := b) h
    unfold ss
    omega
theorem rem_ss {a b : Int} (hb : b ≠ 0) (h : ss a b) : (rem a b).natAbs = a.natAbs % b.natAbs := by
  rcases h with ⟨h1, h2⟩ | ⟨h1, h2⟩
  · rw [rem_pos (by omega)]
    have : a % b = ((a.natAbs % b.natAbs : Nat) : Int) := by
      rw [Int.natCast_emod, Int.natAbs_of_nonneg h1, Int.natAbs_of_nonneg h2]
    rw [this, Int.natAbs_natCast]
  · rw [rem_neg, rem_pos (by omega)]
    have : (-a) % (-b) = ((a.natAbs % b.natAbs : Nat) : Int) := by
      rw [Int.natCast_emod, show ((a.natAbs : Nat) : Int) = -a by omega, show ((b.natAbs : Nat) : Int) = -b by omega]
    rw [this, Int.natAbs_neg, Int.natAbs_natCast]
theorem rem_gcd (a b : Int) : Int.gcd b (rem a b) = Int.gcd a b := by
  unfold rem
  rw [Int.gcd_comm b, Int.gcd_sub_mul_right_left]
def cLoop : M Bool := mB (mBin nesD (mVar 1) (mC (.int 0)))
def bLoop : M Fl := mPar 0 1 (mVar 1) (mBin subD (mVar 0) (mBin mulD (mBin fdivD (mVar 0) (mVar 1)) (mVar 1)))
def rg (a b : Int) : R := [some ⟨.val, .int a⟩, some ⟨.val, .int b⟩]
theorem c_run (a b : Int) : cLoop (rg a b) = some (.ok (decide (b ≠ 0)), rg a b) := by
  simp [cLoop, rg, eqv_int, shaped_int, mkFn, isListAt, slots, slot0, mSeq, mAsg, mRet, mIfS, mDrop, mB, bnd, Mi.ret, thaw, thawR, mVal, valR, mVar, mC, mBin, mUn, op1, op2, look, opN, lookAll, mCall, aT, aV, aNil, mStore, okSet, isT, asB, mTup, mLst, valsOf, mNx, outIo, retR, Md.isOwn, Md.isIo, Md.isLk, fI, mIf, mAnd, mOr, mNot, mAndV, mOrV, mChain, mPar, mPar3, mF, mFk, callF, callIo, putIo, freezeBy, flatD, flatAll, flatY, mayGive, notSlot, gath, mAsgG, gT, gsCons, gsNil, gIx, gN, setIx, mSetIx, ownAt, mApp, appTo, mIsi, isiD, isK, kinds, tyD, mSl, mPart, mNoPart, asInt, slD, cutD, lenD, absD, max2D, min2D, gcdD, lcmD, intD, listD, tupleD, allD, boolsOf, divmodD, addD, subD, mulD, fdivD, modD, powD, ltD, leD, gtD, geD, isD, isntD, negD, notD, ixD, revD, atI, ixN, isNone, sizeLine, eqsD, nesD, eqD, neD, inD, inT, inL, mMt, mtS, startsD, findD, fmtD, mJs, strD]
theorem b_run {a b : Int} (hb : b ≠ 0) (ha9 : a.natAbs < 2 ^ 9000) (hb9 : b.natAbs < 2 ^ 9000) : bLoop (rg a b) = some (.ok .nx, rg b (rem a b)) := by
  have h1 : divOk b = true := divOk_of hb hb9 (by decide)
  have h2 : mulOk (a.fdiv b) b = true := mulOk_of (Nat.lt_of_le_of_lt (Int.natAbs_fdiv_le_natAbs a b) ha9) hb9 (by decide) (by decide) (by decide)
  simp [bLoop, rg, rem, h1, h2, mkFn, isListAt, slots, slot0, mSeq, mAsg, mRet, mIfS, mDrop, mB, bnd, Mi.ret, thaw, thawR, mVal, valR, mVar, mC, mBin, mUn, op1, op2, look, opN, lookAll, mCall, aT, aV, aNil, mStore, okSet, isT, asB, mTup, mLst, valsOf, mNx, outIo, retR, Md.isOwn, Md.isIo, Md.isLk, fI, mIf, mAnd, mOr, mNot, mAndV, mOrV, mChain, mPar, mPar3, mF, mFk, callF, callIo, putIo, freezeBy, flatD, flatAll, flatY, mayGive, notSlot, gath, mAsgG, gT, gsCons, gsNil, gIx, gN, setIx, mSetIx, ownAt, mApp, appTo, mIsi, isiD, isK, kinds, tyD, mSl, mPart, mNoPart, asInt, slD, cutD, lenD, absD, max2D, min2D, gcdD, lcmD, intD, listD, tupleD, allD, boolsOf, divmodD, addD, subD, mulD, fdivD, modD, powD, ltD, leD, gtD, geD, isD, isntD, negD, notD, ixD, revD, atI, ixN, isNone, sizeLine, eqsD, nesD, eqD, neD, inD, inT, inL, mMt, mtS, startsD, findD, fmtD, mJs, strD]
theorem loop0 {a : Int} {n : Nat} (hn : 1 ≤ n) : mWhile cLoop bLoop n (rg a 0) = some (.ok .nx, rg a 0) := by
  obtain ⟨n, rfl⟩ : ∃ m, n = m + 1 := ⟨n - 1, by omega⟩
  unfold mWhile bnd
  rw [c_run]
  rfl
theorem loop1 {a b : Int} {n : Nat} (hb : b ≠ 0) (ha9 : a.natAbs < 2 ^ 9000) (hb9 : b.natAbs < 2 ^ 9000) : mWhile cLoop bLoop (n + 1) (rg a b) = mWhile cLoop bLoop n (rg b (rem a b)) := by
  rw [mWhile]
  unfold bnd
  rw [c_run]
  simp only [decide_eq_true_eq, ne_eq, hb, not_false_eq_true, decide_true, if_true]
  rw [b_run hb ha9 hb9]
theorem loop_ss : ∀ (k : Nat) (a b : Int) (n : Nat), ss a b → a.natAbs < 2 ^ 9000 → b.natAbs < 2 ^ 9000 → b.natAbs < 2 ^ k → 2 * k + 1 ≤ n → ∃ g : Int, g.natAbs = Int.gcd a b ∧ mWhile cLoop bLoop n (rg a b) = some (.ok .nx, rg g 0)
  | 0, a, b, n, _, _, _, hk, hn => by
    have hb : b = 0 := by omega
    subst hb
    exact ⟨a, by simp, loop0 (by omega)⟩
  | k + 1, a, b, n, hs, ha, hb, hk, hn => by
    by_cases h0 : b = 0
    · subst h0
      exact ⟨a, by simp, loop0 (by omega)⟩
    obtain ⟨n, rfl⟩ : ∃ m, n = m + 1 := ⟨n - 1, by omega⟩
    obtain ⟨r1, r2⟩ := rem_any (a := a) h0
    rw [loop1 h0 ha hb]
    by_cases h1 : rem a b = 0
    · refine ⟨b, ?_, ?_⟩
      · rw [← rem_gcd, h1]; simp
      · rw [h1]; exact loop0 (by omega)
    obtain ⟨n, rfl⟩ : ∃ m, n = m + 1 := ⟨n - 1, by omega⟩
    have hr9 : (rem a b).natAbs < 2 ^ 9000 := Nat.lt_trans r1 hb
    rw [loop1 h1 hb hr9]
    have e := rem_ss h1 r2
    obtain ⟨s1, s2⟩ := rem_any (a := b) h1
    have half : 2 * (rem b (rem a b)).natAbs < b.natAbs := by
      rw [e]
      have q1 : b.natAbs % (rem a b).natAbs < (rem a b).natAbs := Nat.mod_lt _ (by omega)
      have q2 : b.natAbs % (rem a b).natAbs ≤ b.natAbs - (rem a b).natAbs := by
        rw [Nat.mod_eq_sub_mod (Nat.le_of_lt r1)]
        exact Nat.mod_le _ _
      omega
    have e2 : (2 : Nat) ^ (k + 1) = 2 * 2 ^ k := by rw [Nat.pow_succ, Nat.mul_comm]
    obtain ⟨g, g1, g2⟩ := loop_ss k (rem a b) (rem b (rem a b)) n s2 hr9 (Nat.lt_trans s1 hr9) (by omega) (by omega)
    exact ⟨g, by rw [g1, rem_gcd, rem_gcd], g2⟩
theorem ev_common {a b : Int} (ha : a.natAbs < 2 ^ 9000) (hb : b.natAbs < 2 ^ 9000) : f__law_common [.int a, .int b] = some (.ok (.val (.int (Int.gcd a b))), .none) := by
  have run : ∃ g : Int, g.natAbs = Int.gcd a b ∧ mWhile cLoop bLoop 100000 (rg a b) = some (.ok .nx, rg g 0) := by
    by_cases h0 : b = 0
    · subst h0
      exact ⟨a, by simp, loop0 (by omega)⟩
    obtain ⟨r1, r2⟩ := rem_any (a := a) h0
    rw [show (100000 : Nat) = 99999 + 1 from rfl, loop1 h0 ha hb]
    obtain ⟨g, g1, g2⟩ := loop_ss 9000 b (rem a b) 99999 r2 hb (Nat.lt_trans r1 hb) (Nat.lt_trans r1 hb) (by omega)
    exact ⟨g, by rw [g1, rem_gcd], g2⟩
  obtain ⟨g, g1, g2⟩ := run
  have g3 : (if g < 0 then -g else g) = (Int.gcd a b : Int) := by
    rw [← g1]
    split <;> omega
  have e : m__law_common = mSeq (mWhile cLoop bLoop 100000) (mRet (mCall absD (aT (mVar 0) aNil))) := rfl
  simp only [f__law_common, mkFn, e, slots, slot0, isListAt]
  have e2 : (mSeq (mWhile cLoop bLoop 100000) (mRet (mCall absD (aT (mVar 0) aNil)))) (rg a b) = some (.ok (.rt (.val (.int (Int.gcd a b)))), rg g 0) := by
    unfold mSeq bnd
    rw [g2]
    simp [rg, g3, mkFn, isListAt, slots, slot0, mSeq, mAsg, mRet, mIfS, mDrop, mB, bnd, Mi.ret, thaw, thawR, mVal, valR, mVar, mC, mBin, mUn, op1, op2, look, opN, lookAll, mCall, aT, aV, aNil, mStore, okSet, isT, asB, mTup, mLst, valsOf, mNx, outIo, retR, Md.isOwn, Md.isIo, Md.isLk, fI, mIf, mAnd, mOr, mNot, mAndV, mOrV, mChain, mPar, mPar3, mF, mFk, callF, callIo, putIo, freezeBy, flatD, flatAll, flatY, mayGive, notSlot, gath, mAsgG, gT, gsCons, gsNil, gIx, gN, setIx, mSetIx, ownAt, mApp, appTo, mIsi, isiD, isK, kinds, tyD, mSl, mPart, mNoPart, asInt, slD, cutD, lenD, absD, max2D, min2D, gcdD, lcmD, intD, listD, tupleD, allD, boolsOf, divmodD, addD, subD, mulD, fdivD, modD, powD, ltD, leD, gtD, geD, isD, isntD, negD, notD, ixD, revD, atI, ixN, isNone, sizeLine, eqsD, nesD, eqD, neD, inD, inT, inL, mMt, mtS, startsD, findD, fmtD, mJs, strD]
  simp only [rg] at e2
  simp [e2, retR, outIo]
end K12

namespace K12
open PySem L2 Evl PySem.Spec Mi
/-! ### ratios in lowest terms -/
abbrev rat (a b : Int) : D := .tuple [.int a, .int b]
def gs (n u : Int) : Int := if u < 0 then -(Int.gcd n u : Int) else Int.gcd n u
def redN (n u : Int) : Int := n.fdiv (gs n u)
def redU (n u : Int) : Int := u.fdiv (gs n u)
abbrev red (n u : Int) : D := rat (redN n u) (redU n u)
def Low (a b : Int) : Prop := 0 < b ∧ Int.gcd a b = 1
section
variable {n u : Int}
theorem gs_ne (hu : u ≠ 0) : gs n u ≠ 0 := by
  have : Int.gcd n u ≠ 0 := fun h => hu (Int.gcd_eq_zero_iff.mp h).2
  unfold gs
  split <;> omega
theorem gs_n (n u : Int) : gs n u ∣ n := by
  unfold gs
  split
  · exact Int.neg_dvd.mpr (Int.gcd_dvd_left ..)
  · exact Int.gcd_dvd_left ..
theorem gs_u (n u : Int) : gs n u ∣ u := by
  unfold gs
  split
  · exact Int.neg_dvd.mpr (Int.gcd_dvd_right ..)
  · exact Int.gcd_dvd_right ..
theorem fdiv_mul {a b : Int} (h : b ∣ a) : a.fdiv b * b = a := Int.fdiv_mul_cancel h
theorem redN_mul (n u : Int) : redN n u * gs n u = n := fdiv_mul (gs_n n u)
theorem redU_mul (n u : Int) : redU n u * gs n u = u := fdiv_mul (gs_u n u)
theorem gs_abs (n u : Int) : (gs n u).natAbs = Int.gcd n u := by
  unfold gs
  split <;> omega
theorem red_low (hu : u ≠ 0) : Low (redN n u) (redU n u) := by
  have g0 := gs_ne (n := n) hu
  have e1 := redN_mul n u
  have e2 := redU_mul n u
  refine ⟨?_, ?_⟩
  · by_cases h : u < 0
    · have gneg : gs n u < 0 := by unfold gs at g0 ⊢; rw [if_pos h] at g0 ⊢; omega
      refine Classical.byContradiction fun q => ?_
      have := Int.mul_nonneg_of_nonpos_of_nonpos (a := redU n u) (b := gs n u) (by omega) (by omega)
      omega
    · have gpos : 0 < gs n u := by unfold gs at g0 ⊢; rw [if_neg h] at g0 ⊢; omega
      refine Classical.byContradiction fun q => ?_
      have := Int.mul_nonpos_of_nonpos_of_nonneg (a := redU n u) (b := gs n u) (by omega) (by omega)
      omega
  · have h : Int.gcd (redN n u * gs n u) (redU n u * gs n u) = Int.gcd (redN n u) (redU n u) * (gs n u).natAbs := Int.gcd_mul_right _ _ _
    rw [e1, e2, gs_abs] at h
    have p : 0 < Int.gcd n u := by
      have := gs_abs n u
      omega
    exact (Nat.eq_of_mul_eq_mul_right p (by rw [Nat.one_mul]; exact h)).symm
theorem redN_le (n u : Int) : (redN n u).natAbs ≤ n.natAbs := Int.natAbs_fdiv_le_natAbs _ _
theorem redU_le (n u : Int) : (redU n u).natAbs ≤ u.natAbs := Int.natAbs_fdiv_le_natAbs _ _
theorem dvd_of {a b c : Int} (h : b ∣ a * c) (g : Int.gcd a b = 1) : b ∣ c := by
  have h := Int.natAbs_dvd_natAbs.mpr h
  rw [Int.natAbs_mul] at h
  have g : Nat.Coprime b.natAbs a.natAbs := by rw [Nat.coprime_comm]; exact g
  exact Int.natAbs_dvd_natAbs.mp (Nat.Coprime.dvd_of_dvd_mul_left g h)
theorem low_inj {a b c d : Int} (h : Low a b) (k : Low c d) (e : a * d = c * b) : a = c ∧ b = d := by
  have h1 : b ∣ d := by
    have : b ∣ a * d := ⟨c, by rw [e, Int.mul_comm]⟩
    exact dvd_of this h.2
  have h2 : d ∣ b := by
    have : d ∣ c * b := ⟨a, by rw [← e, Int.mul_comm]⟩
    exact dvd_of this k.2
  have e2 : b = d := Int.dvd_antisymm (Int.le_of_lt h.1) (Int.le_of_lt k.1) h1 h2
  subst e2
  exact ⟨Int.eq_of_mul_eq_mul_right (by have := h.1; omega) e, rfl⟩
theorem red_eq {n u n' u' : Int} (hu : u ≠ 0) (hu' : u' ≠ 0) (e : n * u' = n' * u) : redN n u = redN n' u' ∧ redU n u = redU n' u' := by
  refine low_inj (red_low hu) (red_low hu') ?_
  have g0 := gs_ne (n := n) hu
  have g1 := gs_ne (n := n') hu'
  have k : (redN n u * redU n' u') * (gs n u * gs n' u') = (redN n' u' * redU n u) * (gs n u * gs n' u') := by
    have e1 : (redN n u * redU n' u') * (gs n u * gs n' u') = (redN n u * gs n u) * (redU n' u' * gs n' u') := by ac_rfl
    have e2 : (redN n' u' * redU n u) * (gs n u * gs n' u') = (redN n' u' * gs n' u') * (redU n u * gs n u) := by ac_rfl
    rw [e1, e2, redN_mul, redU_mul, redN_mul, redU_mul, e]
  exact Int.eq_of_mul_eq_mul_right (Int.mul_ne_zero g0 g1) k
/-- a ratio in lowest terms is its own -/
theorem red_self {a b : Int} (h : Low a b) : redN a b = a ∧ redU a b = b := by
  have hb : b ≠ 0 := by have := h.1; omega
  refine low_inj (red_low hb) h ?_
  have g0 := gs_ne (n := a) hb
  refine Int.eq_of_mul_eq_mul_right g0 ?_
  have e1 : redN a b * b * gs a b = (redN a b * gs a b) * b := by ac_rfl
  have e2 : a * redU a b * gs a b = a * (redU a b * gs a b) := by ac_rfl
  rw [e1, e2, redN_mul, redU_mul]
theorem ev_fraction (hu : u ≠ 0) (hn9 : n.natAbs < 2 ^ 9000) (hu9 : u.natAbs < 2 ^ 9000) : f_fraction [.int n, .int u] = some (.ok (.val (red n u)), .none) := by
  have hg : (gs n u).natAbs < 2 ^ 9000 := by
    rw [gs_abs]
    exact Nat.lt_of_le_of_lt (Nat.le_of_dvd (by omega) (Nat.gcd_dvd_right n.natAbs u.natAbs)) hu9
  have hd : divOk (gs n u) = true := divOk_of (gs_ne hu) hg (by decide)
  unfold red redN redU
  by_cases h : u < 0
  · have e : gs n u = -((n.natAbs.gcd u.natAbs : Nat) : Int) := by unfold gs; rw [if_pos h]; rfl
    rw [e] at hd ⊢
    simp [f_fraction, m_fraction, h, hd, mkFn, isListAt, slots, slot0, mSeq, mAsg, mRet, mIfS, mDrop, mB, bnd, Mi.ret, thaw, thawR, mVal, valR, mVar, mC, mBin, mUn, op1, op2, look, opN, lookAll, mCall, aT, aV, aNil, mStore, okSet, isT, asB, mTup, mLst, valsOf, mNx, outIo, retR, Md.isOwn, Md.isIo, Md.isLk, fI, mIf, mAnd, mOr, mNot, mAndV, mOrV, mChain, mPar, mPar3, mF, mFk, callF, callIo, putIo, freezeBy, flatD, flatAll, flatY, mayGive, notSlot, gath, mAsgG, gT, gsCons, gsNil, gIx, gN, setIx, mSetIx, ownAt, mApp, appTo, mIsi, isiD, isK, kinds, tyD, mSl, mPart, mNoPart, asInt, slD, cutD, lenD, absD, max2D, min2D, gcdD, lcmD, intD, listD, tupleD, allD, boolsOf, divmodD, addD, subD, mulD, fdivD, modD, powD, ltD, leD, gtD, geD, isD, isntD, negD, notD, ixD, revD, atI, ixN, isNone, sizeLine, eqsD, nesD, eqD, neD, inD, inT, inL, mMt, mtS, startsD, findD, fmtD, mJs, strD]
  · have e : gs n u = ((n.natAbs.gcd u.natAbs : Nat) : Int) := by unfold gs; rw [if_neg h]; rfl
    rw [e] at hd ⊢
    simp [f_fraction, m_fraction, h, hd, mkFn, isListAt, slots, slot0, mSeq, mAsg, mRet, mIfS, mDrop, mB, bnd, Mi.ret, thaw, thawR, mVal, valR, mVar, mC, mBin, mUn, op1, op2, look, opN, lookAll, mCall, aT, aV, aNil, mStore, okSet, isT, asB, mTup, mLst, valsOf, mNx, outIo, retR, Md.isOwn, Md.isIo, Md.isLk, fI, mIf, mAnd, mOr, mNot, mAndV, mOrV, mChain, mPar, mPar3, mF, mFk, callF, callIo, putIo, freezeBy, flatD, flatAll, flatY, mayGive, notSlot, gath, mAsgG, gT, gsCons, gsNil, gIx, gN, setIx, mSetIx, ownAt, mApp, appTo, mIsi, isiD, isK, kinds, tyD, mSl, mPart, mNoPart, asInt, slD, cutD, lenD, absD, max2D, min2D, gcdD, lcmD, intD, listD, tupleD, allD, boolsOf, divmodD, addD, subD, mulD, fdivD, modD, powD, ltD, leD, gtD, geD, isD, isntD, negD, notD, ixD, revD, atI, ixN, isNone, sizeLine, eqsD, nesD, eqD, neD, inD, inT, inL, mMt, mtS, startsD, findD, fmtD, mJs, strD]
theorem ev_lratio (hu : 0 < u) (hn9 : n.natAbs < 2 ^ 9000) (hu9 : u.natAbs < 2 ^ 9000) : f__law_ratio [.int n, .int u] = some (.ok (.val (red n u)), .none) := by
  have hu0 : u ≠ 0 := by omega
  have hg : (gs n u).natAbs < 2 ^ 9000 := by
    rw [gs_abs]
    exact Nat.lt_of_le_of_lt (Nat.le_of_dvd (by omega) (Nat.gcd_dvd_right n.natAbs u.natAbs)) hu9
  have hd : divOk (gs n u) = true := divOk_of (gs_ne hu0) hg (by decide)
  have ec := ev_common hn9 hu9
  unfold red redN redU
  have h : ¬ u < 0 := by omega
  have e : gs n u = ((n.gcd u : Nat) : Int) := by unfold gs; rw [if_neg h]
  rw [e] at hd ⊢
  simp [f__law_ratio, m__law_ratio, h, hd, ec, mkFn, isListAt, slots, slot0, mSeq, mAsg, mRet, mIfS, mDrop, mB, bnd, Mi.ret, thaw, thawR, mVal, valR, mVar, mC, mBin, mUn, op1, op2, look, opN, lookAll, mCall, aT, aV, aNil, mStore, okSet, isT, asB, mTup, mLst, valsOf, mNx, outIo, retR, Md.isOwn, Md.isIo, Md.isLk, fI, mIf, mAnd, mOr, mNot, mAndV, mOrV, mChain, mPar, mPar3, mF, mFk, callF, callIo, putIo, freezeBy, flatD, flatAll, flatY, mayGive, notSlot, gath, mAsgG, gT, gsCons, gsNil, gIx, gN, setIx, mSetIx, ownAt, mApp, appTo, mIsi, isiD, isK, kinds, tyD, mSl, mPart, mNoPart, asInt, slD, cutD, lenD, absD, max2D, min2D, gcdD, lcmD, intD, listD, tupleD, allD, boolsOf, divmodD, addD, subD, mulD, fdivD, modD, powD, ltD, leD, gtD, geD, isD, isntD, negD, notD, ixD, revD, atI, ixN, isNone, sizeLine, eqsD, nesD, eqD, neD, inD, inT, inL, mMt, mtS, startsD, findD, fmtD, mJs, strD]
end
def bey : Int := 10 ^ 400
theorem v_bey : v_BEYOND = .int bey := by
  unfold v_BEYOND bey
  congr 1
def isR (a b : Int) : Bool := decide (0 < b) && decide (b < bey) && (decide (-bey < a) && decide (a < bey)) && decide (Int.gcd a b = 1)
theorem ev_is_integer (d : D) : f_is_integer [d] = some (.ok (.val (.bool (match d with | .int _ => true | _ => false))), .none) := by
  cases d <;> simp [f_is_integer, m_is_integer, mkFn, isListAt, slots, slot0, mSeq, mAsg, mRet, mIfS, mDrop, mB, bnd, Mi.ret, thaw, thawR, mVal, valR, mVar, mC, mBin, mUn, op1, op2, look, opN, lookAll, mCall, aT, aV, aNil, mStore, okSet, isT, asB, mTup, mLst, valsOf, mNx, outIo, retR, Md.isOwn, Md.isIo, Md.isLk, fI, mIf, mAnd, mOr, mNot, mAndV, mOrV, mChain, mPar, mPar3, mF, mFk, callF, callIo, putIo, freezeBy, flatD, flatAll, flatY, mayGive, notSlot, gath, mAsgG, gT, gsCons, gsNil, gIx, gN, setIx, mSetIx, ownAt, mApp, appTo, mIsi, isiD, isK, kinds, tyD, mSl, mPart, mNoPart, asInt, slD, cutD, lenD, absD, max2D, min2D, gcdD, lcmD, intD, listD, tupleD, allD, boolsOf, divmodD, addD, subD, mulD, fdivD, modD, powD, ltD, leD, gtD, geD, isD, isntD, negD, notD, ixD, revD, atI, ixN, isNone, sizeLine, eqsD, nesD, eqD, neD, inD, inT, inL, mMt, mtS, startsD, findD, fmtD, mJs, strD]
theorem ev_is_row (d : D) (n : Int) : f_is_row [d, .int n] = some (.ok (.val (.bool (match d with | .tuple xs => decide ((xs.length : Int) = n) | _ => false))), .none) := by
  cases d <;> simp [f_is_row, m_is_row, shaped_int, eqv_int, mkFn, isListAt, slots, slot0, mSeq, mAsg, mRet, mIfS, mDrop, mB, bnd, Mi.ret, thaw, thawR, mVal, valR, mVar, mC, mBin, mUn, op1, op2, look, opN, lookAll, mCall, aT, aV, aNil, mStore, okSet, isT, asB, mTup, mLst, valsOf, mNx, outIo, retR, Md.isOwn, Md.isIo, Md.isLk, fI, mIf, mAnd, mOr, mNot, mAndV, mOrV, mChain, mPar, mPar3, mF, mFk, callF, callIo, putIo, freezeBy, flatD, flatAll, flatY, mayGive, notSlot, gath, mAsgG, gT, gsCons, gsNil, gIx, gN, setIx, mSetIx, ownAt, mApp, appTo, mIsi, isiD, isK, kinds, tyD, mSl, mPart, mNoPart, asInt, slD, cutD, lenD, absD, max2D, min2D, gcdD, lcmD, intD, listD, tupleD, allD, boolsOf, divmodD, addD, subD, mulD, fdivD, modD, powD, ltD, leD, gtD, geD, isD, isntD, negD, notD, ixD, revD, atI, ixN, isNone, sizeLine, eqsD, nesD, eqD, neD, inD, inT, inL, mMt, mtS, startsD, findD, fmtD, mJs, strD]
theorem ev_is_ratio (a b : Int) : f_is_ratio [rat a b] = some (.ok (.val (.bool (isR a b))), .none) := by
  have e : f_is_row [rat a b, .int 2] = some (.ok (.val (.bool true)), .none) := by rw [ev_is_row]; rfl
  have hg : ∀ g : Nat, PyData.eqv (.int (g : Int)) (.int 1) = decide (g = 1) := fun g => by
    rw [eqv_int]
    by_cases h : g = 1
    · simp [h]
    · simp [h]; omega
  unfold isR
  by_cases h1 : 0 < b
  · by_cases h2 : b < bey
    · by_cases h3 : -bey < a
      · by_cases h4 : a < bey
        · simp [f_is_ratio, m_is_ratio, e, ev_is_integer, v_bey, h1, h2, h3, h4, shaped_int, hg, Int.gcd, mkFn, isListAt, slots, slot0, mSeq, mAsg, mRet, mIfS, mDrop, mB, bnd, Mi.ret, thaw, thawR, mVal, valR, mVar, mC, mBin, mUn, op1, op2, look, opN, lookAll, mCall, aT, aV, aNil, mStore, okSet, isT, asB, mTup, mLst, valsOf, mNx, outIo, retR, Md.isOwn, Md.isIo, Md.isLk, fI, mIf, mAnd, mOr, mNot, mAndV, mOrV, mChain, mPar, mPar3, mF, mFk, callF, callIo, putIo, freezeBy, flatD, flatAll, flatY, mayGive, notSlot, gath, mAsgG, gT, gsCons, gsNil, gIx, gN, setIx, mSetIx, ownAt, mApp, appTo, mIsi, isiD, isK, kinds, tyD, mSl, mPart, mNoPart, asInt, slD, cutD, lenD, absD, max2D, min2D, gcdD, lcmD, intD, listD, tupleD, allD, boolsOf, divmodD, addD, subD, mulD, fdivD, modD, powD, ltD, leD, gtD, geD, isD, isntD, negD, notD, ixD, revD, atI, ixN, isNone, sizeLine, eqsD, nesD, eqD, neD, inD, inT, inL, mMt, mtS, startsD, findD, fmtD, mJs, strD]
          try rfl
        · simp [f_is_ratio, m_is_ratio, e, ev_is_integer, v_bey, h1, h2, h3, h4, shaped_int, hg, mkFn, isListAt, slots, slot0, mSeq, mAsg, mRet, mIfS, mDrop, mB, bnd, Mi.ret, thaw, thawR, mVal, valR, mVar, mC, mBin, mUn, op1, op2, look, opN, lookAll, mCall, aT, aV, aNil, mStore, okSet, isT, asB, mTup, mLst, valsOf, mNx, outIo, retR, Md.isOwn, Md.isIo, Md.isLk, fI, mIf, mAnd, mOr, mNot, mAndV, mOrV, mChain, mPar, mPar3, mF, mFk, callF, callIo, putIo, freezeBy, flatD, flatAll, flatY, mayGive, notSlot, gath, mAsgG, gT, gsCons, gsNil, gIx, gN, setIx, mSetIx, ownAt, mApp, appTo, mIsi, isiD, isK, kinds, tyD, mSl, mPart, mNoPart, asInt, slD, cutD, lenD, absD, max2D, min2D, gcdD, lcmD, intD, listD, tupleD, allD, boolsOf, divmodD, addD, subD, mulD, fdivD, modD, powD, ltD, leD, gtD, geD, isD, isntD, negD, notD, ixD, revD, atI, ixN, isNone, sizeLine, eqsD, nesD, eqD, neD, inD, inT, inL, mMt, mtS, startsD, findD, fmtD, mJs, strD]
      · simp [f_is_ratio, m_is_ratio, e, ev_is_integer, v_bey, h1, h2, h3, shaped_int, hg, mkFn, isListAt, slots, slot0, mSeq, mAsg, mRet, mIfS, mDrop, mB, bnd, Mi.ret, thaw, thawR, mVal, valR, mVar, mC, mBin, mUn, op1, op2, look, opN, lookAll, mCall, aT, aV, aNil, mStore, okSet, isT, asB, mTup, mLst, valsOf, mNx, outIo, retR, Md.isOwn, Md.isIo, Md.isLk, fI, mIf, mAnd, mOr, mNot, mAndV, mOrV, mChain, mPar, mPar3, mF, mFk, callF, callIo, putIo, freezeBy, flatD, flatAll, flatY, mayGive, notSlot, gath, mAsgG, gT, gsCons, gsNil, gIx, gN, setIx, mSetIx, ownAt, mApp, appTo, mIsi, isiD, isK, kinds, tyD, mSl, mPart, mNoPart, asInt, slD, cutD, lenD, absD, max2D, min2D, gcdD, lcmD, intD, listD, tupleD, allD, boolsOf, divmodD, addD, subD, mulD, fdivD, modD, powD, ltD, leD, gtD, geD, isD, isntD, negD, notD, ixD, revD, atI, ixN, isNone, sizeLine, eqsD, nesD, eqD, neD, inD, inT, inL, mMt, mtS, startsD, findD, fmtD, mJs, strD]
    · simp [f_is_ratio, m_is_ratio, e, ev_is_integer, v_bey, h1, h2, shaped_int, hg, mkFn, isListAt, slots, slot0, mSeq, mAsg, mRet, mIfS, mDrop, mB, bnd, Mi.ret, thaw, thawR, mVal, valR, mVar, mC, mBin, mUn, op1, op2, look, opN, lookAll, mCall, aT, aV, aNil, mStore, okSet, isT, asB, mTup, mLst, valsOf, mNx, outIo, retR, Md.isOwn, Md.isIo, Md.isLk, fI, mIf, mAnd, mOr, mNot, mAndV, mOrV, mChain, mPar, mPar3, mF, mFk, callF, callIo, putIo, freezeBy, flatD, flatAll, flatY, mayGive, notSlot, gath, mAsgG, gT, gsCons, gsNil, gIx, gN, setIx, mSetIx, ownAt, mApp, appTo, mIsi, isiD, isK, kinds, tyD, mSl, mPart, mNoPart, asInt, slD, cutD, lenD, absD, max2D, min2D, gcdD, lcmD, intD, listD, tupleD, allD, boolsOf, divmodD, addD, subD, mulD, fdivD, modD, powD, ltD, leD, gtD, geD, isD, isntD, negD, notD, ixD, revD, atI, ixN, isNone, sizeLine, eqsD, nesD, eqD, neD, inD, inT, inL, mMt, mtS, startsD, findD, fmtD, mJs, strD]
  · simp [f_is_ratio, m_is_ratio, e, ev_is_integer, v_bey, h1, shaped_int, hg, mkFn, isListAt, slots, slot0, mSeq, mAsg, mRet, mIfS, mDrop, mB, bnd, Mi.ret, thaw, thawR, mVal, valR, mVar, mC, mBin, mUn, op1, op2, look, opN, lookAll, mCall, aT, aV, aNil, mStore, okSet, isT, asB, mTup, mLst, valsOf, mNx, outIo, retR, Md.isOwn, Md.isIo, Md.isLk, fI, mIf, mAnd, mOr, mNot, mAndV, mOrV, mChain, mPar, mPar3, mF, mFk, callF, callIo, putIo, freezeBy, flatD, flatAll, flatY, mayGive, notSlot, gath, mAsgG, gT, gsCons, gsNil, gIx, gN, setIx, mSetIx, ownAt, mApp, appTo, mIsi, isiD, isK, kinds, tyD, mSl, mPart, mNoPart, asInt, slD, cutD, lenD, absD, max2D, min2D, gcdD, lcmD, intD, listD, tupleD, allD, boolsOf, divmodD, addD, subD, mulD, fdivD, modD, powD, ltD, leD, gtD, geD, isD, isntD, negD, notD, ixD, revD, atI, ixN, isNone, sizeLine, eqsD, nesD, eqD, neD, inD, inT, inL, mMt, mtS, startsD, findD, fmtD, mJs, strD]
end K12

namespace K12
open PySem L2 Evl PySem.Spec Mi
/-! ### the automaton of the law -/
inductive St6 where
  | b | s | n | d | l | u
  deriving DecidableEq
def St6.str : St6 → Str
  | .b => "begin"
  | .s => "sign"
  | .n => "nought"
  | .d => "digits"
  | .l => "slash"
  | .u => "under"
def dig (c : Nat) : Bool := decide (48 ≤ c ∧ c ≤ 57)
def next (q : St6) (c m : Nat) : Option St6 := match q with
  | .b => if c = 45 then some .s else if dig c then (if c = 48 then some .n else some .d) else none
  | .s => if dig c then (if c = 48 then some .n else some .d) else none
  | .d => if dig c ∧ m < 400 then some .d else if c = 47 then some .l else none
  | .n => if c = 47 then some .l else none
  | .l => if dig c ∧ c ≠ 48 then some .u else none
  | .u => if dig c ∧ m < 400 then some .u else none
def sg1 (c : Nat) : Str := ⟨#[c]⟩
theorem sg_eq (c k : Nat) : ((⟨#[c]⟩ : Str) = ⟨#[k]⟩) ↔ c = k := by
  constructor
  · intro h
    have := congrArg (fun s : Str => s.cps.toList) h
    simpa using this
  · rintro rfl; rfl
theorem st_minus : ("-" : Str) = ⟨#[45]⟩ := by decide +kernel
theorem st_slash : ("/" : Str) = ⟨#[47]⟩ := by decide +kernel
theorem st_nought : ("0" : Str) = ⟨#[48]⟩ := by decide +kernel
theorem figs : ("0123456789" : Str).cps.toList = [48, 49, 50, 51, 52, 53, 54, 55, 56, 57] := by decide +kernel
theorem figs1 : ("123456789" : Str).cps.toList = [49, 50, 51, 52, 53, 54, 55, 56, 57] := by decide +kernel
theorem mem_figs (c : Nat) : decide (c ∈ ("0123456789" : Str).cps.toList) = dig c := by
  rw [figs]
  unfold dig
  congr 1
  simp only [List.mem_cons, List.not_mem_nil, or_false, eq_iff_iff]
  omega
theorem mem_figs1 (c : Nat) : decide (c ∈ ("123456789" : Str).cps.toList) = (dig c && decide (c ≠ 48)) := by
  rw [figs1]
  unfold dig
  rw [← Bool.decide_and]
  congr 1
  simp only [List.mem_cons, List.not_mem_nil, or_false, eq_iff_iff]
  omega
theorem in_figs (c : Nat) : inD false (.str ⟨#[c]⟩) (.str "0123456789") = some (.val (.bool (dig c))) := by
  simp only [inD, inT, Bool.false_eq_true, if_false]
  rw [mem_figs]
theorem in_figs1 (c : Nat) : inD false (.str ⟨#[c]⟩) (.str "123456789") = some (.val (.bool (dig c && decide (c ≠ 48)))) := by
  simp only [inD, inT, Bool.false_eq_true, if_false]
  rw [mem_figs1]
theorem nin_figs (c : Nat) : inD true (.str ⟨#[c]⟩) (.str "0123456789") = some (.val (.bool (!dig c))) := by
  simp only [inD, inT, if_true]
  rw [mem_figs]
theorem res_of {a : Option Res} {b : Bool} (h : (match a with | some (.val (.bool c)) => some c | _ => none) = some b) : a = some (.val (.bool b)) := by
  split at h
  · cases h; rfl
  · cases h
theorem in_bs (q : St6) : inD false (.str q.str) (.list [.str "begin", .str "sign"]) = some (.val (.bool (decide (q = .b ∨ q = .s)))) := by
  refine res_of ?_
  cases q <;> decide +kernel
theorem in_nd (q : St6) : inD false (.str q.str) (.list [.str "nought", .str "digits"]) = some (.val (.bool (decide (q = .n ∨ q = .d)))) := by
  refine res_of ?_
  cases q <;> decide +kernel
theorem nin_ndu (q : St6) : inD true (.str q.str) (.list [.str "nought", .str "digits", .str "under"]) = some (.val (.bool (!decide (q = .n ∨ q = .d ∨ q = .u)))) := by
  refine res_of ?_
  cases q <;> decide +kernel
theorem st_inj (q r : St6) : (q.str = r.str) ↔ q = r := by
  constructor
  · intro h
    cases q <;> cases r <;> first | rfl | (exact absurd h (by decide +kernel))
  · rintro rfl; rfl
theorem eqs_st (q r : St6) : eqsD (.str q.str) (.str r.str) = some (.val (.bool (decide (q = r)))) := by
  unfold eqsD
  by_cases h : q = r
  · subst h; simp
  · have : ¬ q.str = r.str := fun e => h ((st_inj q r).mp e)
    simp [h, this]
theorem eqs_sg (c k : Nat) : eqsD (.str ⟨#[c]⟩) (.str ⟨#[k]⟩) = some (.val (.bool (decide (c = k)))) := by
  unfold eqsD
  by_cases h : c = k
  · subst h; simp
  · have : ¬ (⟨#[c]⟩ : Str) = ⟨#[k]⟩ := fun e => h ((sg_eq c k).mp e)
    simp [h, this]
theorem lt400 (m : Nat) : ltD (.int (m : Nat)) (.int 400) = some (.val (.bool (decide (m < 400)))) := by
  simp [ltD, fI]; omega
theorem ev_next (q : St6) (c m : Nat) : f__law_next [.str q.str, .str ⟨#[c]⟩, .int (m : Nat)] = some (.ok (.val (match next q c m with | some r => .str r.str | none => .none)), .none) := by
  have e1 : eqsD (.str q.str) (.str "begin") = _ := eqs_st q .b
  have e2 : eqsD (.str q.str) (.str "digits") = _ := eqs_st q .d
  have e3 : eqsD (.str q.str) (.str "slash") = _ := eqs_st q .l
  have e4 : eqsD (.str q.str) (.str "under") = _ := eqs_st q .u
  have f1 := in_bs q
  have f2 := in_nd q
  have g1 := in_figs c
  have g2 := in_figs1 c
  have h1 : eqsD (.str ⟨#[c]⟩) (.str "-") = some (.val (.bool (decide (c = 45)))) := by rw [st_minus]; exact eqs_sg c 45
  have h2 : eqsD (.str ⟨#[c]⟩) (.str "/") = some (.val (.bool (decide (c = 47)))) := by rw [st_slash]; exact eqs_sg c 47
  have h3 : eqsD (.str ⟨#[c]⟩) (.str "0") = some (.val (.bool (decide (c = 48)))) := by rw [st_nought]; exact eqs_sg c 48
  have lt := lt400 m
  have dA : dig 48 = true := by decide
  have dB : dig 45 = false := by decide
  have dC : dig 47 = false := by decide
  generalize hst : q.str = qs at e1 e2 e3 e4 f1 f2 ⊢
  generalize (⟨#[c]⟩ : Str) = w at g1 g2 h1 h2 h3 ⊢
  by_cases d : dig c = true
  · have c45 : ¬ c = 45 := by unfold dig at d; have := of_decide_eq_true d; omega
    have c47 : ¬ c = 47 := by unfold dig at d; have := of_decide_eq_true d; omega
    by_cases c48 : c = 48 <;> by_cases m4 : m < 400 <;> cases q <;>
      simp [f__law_next, m__law_next, e1, e2, e3, e4, f1, f2, g1, g2, h1, h2, h3, lt, d, dA, dB, dC, c45, c47, c48, m4, next, St6.str, mkFn, isListAt, slots, slot0, mSeq, mAsg, mRet, mIfS, mDrop, mB, bnd, Mi.ret, thaw, thawR, mVal, valR, mVar, mC, mBin, mUn, op1, op2, look, opN, lookAll, mCall, aT, aV, aNil, mStore, okSet, isT, asB, mTup, mLst, valsOf, mNx, outIo, retR, Md.isOwn, Md.isIo, Md.isLk, fI, mIf, mAnd, mOr, mNot, mAndV, mOrV, mChain, mPar, mPar3, mF, mFk, callF, callIo, putIo, freezeBy, flatD, flatAll, flatY, mayGive, notSlot, gath, mAsgG, gT, gsCons, gsNil, gIx, gN, setIx, mSetIx, ownAt, mApp, appTo, mIsi, isiD, isK, kinds, tyD, mSl, mPart, mNoPart, asInt, slD, cutD, lenD, absD, max2D, min2D, gcdD, lcmD, intD, listD, tupleD, allD, boolsOf, divmodD, addD, subD, mulD, fdivD, modD, powD, leD, gtD, geD, isD, isntD, negD, notD, revD, isNone, sizeLine, mMt, mtS, startsD, findD, fmtD, mJs, strD]
  · have d : dig c = false := by simpa using d
    by_cases c45 : c = 45 <;> by_cases c47 : c = 47 <;> cases q <;>
      simp [f__law_next, m__law_next, e1, e2, e3, e4, f1, f2, g1, g2, h1, h2, h3, lt, d, dA, dB, dC, c45, c47, next, St6.str, mkFn, isListAt, slots, slot0, mSeq, mAsg, mRet, mIfS, mDrop, mB, bnd, Mi.ret, thaw, thawR, mVal, valR, mVar, mC, mBin, mUn, op1, op2, look, opN, lookAll, mCall, aT, aV, aNil, mStore, okSet, isT, asB, mTup, mLst, valsOf, mNx, outIo, retR, Md.isOwn, Md.isIo, Md.isLk, fI, mIf, mAnd, mOr, mNot, mAndV, mOrV, mChain, mPar, mPar3, mF, mFk, callF, callIo, putIo, freezeBy, flatD, flatAll, flatY, mayGive, notSlot, gath, mAsgG, gT, gsCons, gsNil, gIx, gN, setIx, mSetIx, ownAt, mApp, appTo, mIsi, isiD, isK, kinds, tyD, mSl, mPart, mNoPart, asInt, slD, cutD, lenD, absD, max2D, min2D, gcdD, lcmD, intD, listD, tupleD, allD, boolsOf, divmodD, addD, subD, mulD, fdivD, modD, powD, leD, gtD, geD, isD, isntD, negD, notD, revD, isNone, sizeLine, mMt, mtS, startsD, findD, fmtD, mJs, strD]
end K12

namespace K12
open PySem L2 Evl PySem.Spec Mi
/-- the automaton over a text's rest: the wrong place, or the last state -/
def run : St6 → Nat → List Nat → Nat → Nat ⊕ St6
  | q, _, [], _ => .inr q
  | q, m, c :: cs, p => match next q c m with
    | none => .inl p
    | some r => run r (if r = q then m + 1 else 1) cs (p + 1)
def bodyR : M Fl := (mSeq (mAsg 4 (mF 3 f__law_next none (aT (mVar 1) (aT (mBin ixD (mVar 0) (mVar 3)) (aT (mVar 2) aNil))))) (mSeq (mIfS (mB (mBin isD (mVar 4) (mC .none))) (mRet (mTup (aV (mVar 3) (aV (mC .none) aNil)))) mNx) (mSeq (mAsg 2 (mIf (mB (mBin eqsD (mVar 4) (mVar 1))) (mBin addD (mVar 2) (mC (.int 1))) (mC (.int 1)))) (mAsg 1 (mVar 4)))))
def Vl (s : Option Slot) : Prop := s = none ∨ ∃ t, s = some ⟨.val, t⟩
def rR (z : Str) (q : St6) (m : Nat) (s3 s4 : Option Slot) : R := [some ⟨.val, .str z⟩, some ⟨.val, .str q.str⟩, some ⟨.val, .int (m : Nat)⟩, s3, s4]
theorem ix_str {z : Str} {p c : Nat} (hz : z.length ≤ sizeLine) (h : z.cps.toList[p]? = some c) : ixD (.str z) (.int (p : Nat)) = some (.val (.str ⟨#[c]⟩)) := by
  have hp : p < z.cps.toList.length := (List.getElem?_eq_some_iff.mp h).1
  simp only [ixD, hz, if_true, atI, ixN]
  rw [if_pos (by omega), if_pos (by omega), Option.bind_some, Int.toNat_natCast, h]
  rfl
theorem bodyR_run {z : Str} {q : St6} {m p c : Nat} {s4 : Option Slot} (h4 : Vl s4) (hz : z.length ≤ sizeLine) (h : z.cps.toList[p]? = some c) :
    bodyR (rR z q m (some ⟨.val, .int (p : Nat)⟩) s4) = match next q c m with
      | none => some (.ok (.rt (.val (.tuple [.int (p : Nat), .none]))), rR z q m (some ⟨.val, .int (p : Nat)⟩) (some ⟨.val, .none⟩))
      | some r => some (.ok .nx, rR z r (if r = q then m + 1 else 1) (some ⟨.val, .int (p : Nat)⟩) (some ⟨.val, .str r.str⟩)) := by
  have e := ev_next q c m
  have i := ix_str hz h
  have es : ∀ r : St6, eqsD (.str r.str) (.str q.str) = some (.val (.bool (decide (r = q)))) := fun r => eqs_st r q
  simp only [rR]
  cases hn : next q c m with
  | none =>
    rw [hn] at e
    generalize q.str = qs at e es ⊢
    rcases h4 with rfl | ⟨t, rfl⟩ <;> simp [bodyR, e, i, mkFn, isListAt, slots, slot0, mSeq, mAsg, mRet, mIfS, mDrop, mB, bnd, Mi.ret, thaw, thawR, mVal, valR, mVar, mC, mBin, mUn, op1, op2, look, opN, lookAll, mCall, aT, aV, aNil, mStore, okSet, isT, asB, mTup, mLst, valsOf, mNx, outIo, retR, Md.isOwn, Md.isIo, Md.isLk, fI, mIf, mAnd, mOr, mNot, mAndV, mOrV, mChain, mPar, mPar3, mF, mFk, callF, callIo, putIo, freezeBy, flatD, flatAll, flatY, mayGive, notSlot, gath, mAsgG, gT, gsCons, gsNil, gIx, gN, setIx, mSetIx, ownAt, mApp, appTo, mIsi, isiD, isK, kinds, tyD, mSl, mPart, mNoPart, asInt, slD, cutD, lenD, absD, max2D, min2D, gcdD, lcmD, intD, listD, tupleD, allD, boolsOf, divmodD, addD, subD, mulD, fdivD, modD, powD, leD, gtD, geD, isD, isntD, negD, notD, revD, isNone, sizeLine, mMt, mtS, startsD, findD, fmtD, mJs, strD]
  | some r =>
    rw [hn] at e
    dsimp only at e
    have es := es r
    by_cases hr : r = q
    · subst hr
      generalize hq : r.str = qs at e es ⊢
      rcases h4 with rfl | ⟨t, rfl⟩ <;> simp [bodyR, e, i, es, mkFn, isListAt, slots, slot0, mSeq, mAsg, mRet, mIfS, mDrop, mB, bnd, Mi.ret, thaw, thawR, mVal, valR, mVar, mC, mBin, mUn, op1, op2, look, opN, lookAll, mCall, aT, aV, aNil, mStore, okSet, isT, asB, mTup, mLst, valsOf, mNx, outIo, retR, Md.isOwn, Md.isIo, Md.isLk, fI, mIf, mAnd, mOr, mNot, mAndV, mOrV, mChain, mPar, mPar3, mF, mFk, callF, callIo, putIo, freezeBy, flatD, flatAll, flatY, mayGive, notSlot, gath, mAsgG, gT, gsCons, gsNil, gIx, gN, setIx, mSetIx, ownAt, mApp, appTo, mIsi, isiD, isK, kinds, tyD, mSl, mPart, mNoPart, asInt, slD, cutD, lenD, absD, max2D, min2D, gcdD, lcmD, intD, listD, tupleD, allD, boolsOf, divmodD, addD, subD, mulD, fdivD, modD, powD, leD, gtD, geD, isD, isntD, negD, notD, revD, isNone, sizeLine, mMt, mtS, startsD, findD, fmtD, mJs, strD] <;> exact hq.symm
    · have hd : decide (r = q) = false := decide_eq_false hr
      rw [hd] at es
      simp only [hr, if_false]
      generalize q.str = qs at e es ⊢
      generalize r.str = rs at e es ⊢
      rcases h4 with rfl | ⟨t, rfl⟩ <;> simp [bodyR, e, i, es, mkFn, isListAt, slots, slot0, mSeq, mAsg, mRet, mIfS, mDrop, mB, bnd, Mi.ret, thaw, thawR, mVal, valR, mVar, mC, mBin, mUn, op1, op2, look, opN, lookAll, mCall, aT, aV, aNil, mStore, okSet, isT, asB, mTup, mLst, valsOf, mNx, outIo, retR, Md.isOwn, Md.isIo, Md.isLk, fI, mIf, mAnd, mOr, mNot, mAndV, mOrV, mChain, mPar, mPar3, mF, mFk, callF, callIo, putIo, freezeBy, flatD, flatAll, flatY, mayGive, notSlot, gath, mAsgG, gT, gsCons, gsNil, gIx, gN, setIx, mSetIx, ownAt, mApp, appTo, mIsi, isiD, isK, kinds, tyD, mSl, mPart, mNoPart, asInt, slD, cutD, lenD, absD, max2D, min2D, gcdD, lcmD, intD, listD, tupleD, allD, boolsOf, divmodD, addD, subD, mulD, fdivD, modD, powD, leD, gtD, geD, isD, isntD, negD, notD, revD, isNone, sizeLine, mMt, mtS, startsD, findD, fmtD, mJs, strD]
/-- the whole walk over a text -/
theorem loopR {z : Str} (hz : z.length ≤ sizeLine) : ∀ (cs : List Nat) (p : Nat) (q : St6) (m : Nat) (s3 s4 : Option Slot), (∀ j c, cs[j]? = some c → z.cps.toList[p + j]? = some c) → Vl s3 → Vl s4 →
    ∃ s3' s4' q' m', Vl s3' ∧ loopF (gN 3) bodyR ((List.range' p cs.length).map fun (i : Nat) => PyData.int (i : Nat)) (rR z q m s3 s4) = match run q m cs p with
      | .inl w => some (.ok (.rt (.val (.tuple [.int (w : Nat), .none]))), rR z q' m' s3' s4')
      | .inr r => some (.ok .nx, rR z r m' s3' s4')
  | [], p, q, m, s3, s4, _, h3, _ => ⟨s3, s4, q, m, h3, rfl⟩
  | c :: cs, p, q, m, s3, s4, hc, h3, h4 => by
    have h0 : z.cps.toList[p]? = some c := by simpa using hc 0 c rfl
    have st : gN 3 (.int (p : Nat)) (rR z q m s3 s4) = some (.ok (), rR z q m (some ⟨.val, .int (p : Nat)⟩) s4) := by
      rcases h3 with rfl | ⟨t, rfl⟩ <;> simp [rR, gN, mStore, okSet]
    have br := bodyR_run (z := z) (q := q) (m := m) (p := p) h4 hz h0
    have lr : ((List.range' p (c :: cs).length).map fun (i : Nat) => PyData.int (i : Nat)) = .int (p : Nat) :: ((List.range' (p + 1) cs.length).map fun (i : Nat) => PyData.int (i : Nat)) := by
      rw [List.length_cons, List.range'_succ, List.map_cons]
    rw [lr]
    cases hn : next q c m with
    | none =>
      rw [hn] at br
      refine ⟨some ⟨.val, .int (p : Nat)⟩, some ⟨.val, .none⟩, q, m, .inr ⟨_, rfl⟩, ?_⟩
      simp only [run, hn]
      unfold loopF bnd
      rw [st]
      dsimp only
      rw [br]
      rfl
    | some r =>
      rw [hn] at br
      obtain ⟨s3', s4', q', m', h5, e⟩ := loopR hz cs (p + 1) r (if r = q then m + 1 else 1) (some ⟨.val, .int (p : Nat)⟩) (some ⟨.val, .str r.str⟩) (fun j d hj => by
        have := hc (j + 1) d (by simpa using hj)
        rw [show p + 1 + j = p + (j + 1) by omega]
        exact this) (.inr ⟨_, rfl⟩) (.inr ⟨_, rfl⟩)
      refine ⟨s3', s4', q', m', h5, ?_⟩
      simp only [run, hn]
      unfold loopF bnd
      rw [st]
      dsimp only
      rw [br]
      exact e
end K12

namespace K12
open PySem L2 Evl PySem.Spec Mi
/-- leading digits, at most k -/
def dl : List Nat → Nat → Nat
  | [], _ => 0
  | _ :: _, 0 => 0
  | c :: cs, k + 1 => if dig c then dl cs k + 1 else 0
theorem dl_le : ∀ (cs : List Nat) (k : Nat), dl cs k ≤ cs.length ∧ dl cs k ≤ k
  | [], k => ⟨Nat.le_refl _, Nat.zero_le _⟩
  | c :: cs, 0 => ⟨Nat.zero_le _, Nat.le_refl _⟩
  | c :: cs, k + 1 => by
    obtain ⟨h1, h2⟩ := dl_le cs k
    unfold dl
    rw [List.length_cons]
    split <;> omega
/-- _behind_digits: the wrong place | the end -/
def bh (cs : List Nat) (start : Nat) (isU : Bool) : Nat ⊕ Nat := match cs.drop start with
  | [] => .inl start
  | c :: r => if dig c then (if c = 48 then (if isU then .inl start else .inr (start + 1)) else .inr (start + dl (c :: r) 400)) else .inl start
def cB : M Bool := (mAnd (mB (mBin ltD (mVar 3) (mCall lenD (aT (mVar 0) aNil)))) (mAnd (mB (mBin (inD false) (mBin ixD (mVar 0) (mVar 3)) (mC v_FIGURES))) (mB (mBin ltD (mBin subD (mVar 3) (mVar 1)) (mC v_DIGITS)))))
def bB : M Fl := (mAsg 3 (mBin addD (mVar 3) (mC (.int 1))))
def rB (z : Str) (start : Nat) (b : Bool) (s3 : Option Slot) : R := [some ⟨.val, .str z⟩, some ⟨.val, .int (start : Nat)⟩, some ⟨.val, .bool b⟩, s3]
theorem len_str {z : Str} (hz : z.length ≤ sizeLine) : lenD [.str z] = some (.val (.int (z.cps.toList.length : Nat))) := by
  have : z.length = z.cps.toList.length := Array.length_toList.symm
  simp only [lenD, hz, if_true]
  rw [this]
theorem cB_run {z : Str} {start at_ : Nat} {b : Bool} (hz : z.length ≤ sizeLine) (ha : start ≤ at_) : cB (rB z start b (some ⟨.val, .int (at_ : Nat)⟩)) =
    some (.ok (match z.cps.toList[at_]? with | some c => dig c && decide (at_ - start < 400) | none => false), rB z start b (some ⟨.val, .int (at_ : Nat)⟩)) := by
  have ln := len_str hz
  have lt : ltD (.int (at_ : Nat)) (.int (z.cps.toList.length : Nat)) = some (.val (.bool (decide (at_ < z.cps.toList.length)))) := by
    simp [ltD, fI]
  have lt2 : ltD (.int ((at_ : Int) - (start : Int))) (.int 400) = some (.val (.bool (decide (at_ - start < 400)))) := by
    simp only [ltD, fI, if_true]
    congr 4
    exact propext (by omega)
  cases h : z.cps.toList[at_]? with
  | none =>
    have hl : ¬ (at_ < z.cps.toList.length) := by
      have := List.getElem?_eq_none_iff.mp h
      omega
    have hd : decide (at_ < z.cps.toList.length) = false := decide_eq_false hl
    rw [hd] at lt
    generalize z.cps.toList.length = n at ln lt
    simp [cB, rB, ln, lt, mkFn, isListAt, slots, slot0, mSeq, mAsg, mRet, mIfS, mDrop, mB, bnd, Mi.ret, thaw, thawR, mVal, valR, mVar, mC, mBin, mUn, op1, op2, look, opN, lookAll, mCall, aT, aV, aNil, mStore, okSet, isT, asB, mTup, mLst, valsOf, mNx, outIo, retR, Md.isOwn, Md.isIo, Md.isLk, fI, mIf, mAnd, mOr, mNot, mAndV, mOrV, mChain, mPar, mPar3, mF, mFk, callF, callIo, putIo, freezeBy, flatD, flatAll, flatY, mayGive, notSlot, gath, mAsgG, gT, gsCons, gsNil, gIx, gN, setIx, mSetIx, ownAt, mApp, appTo, mIsi, isiD, isK, kinds, tyD, mSl, mPart, mNoPart, asInt, slD, cutD, lenD, absD, max2D, min2D, gcdD, lcmD, intD, listD, tupleD, allD, boolsOf, divmodD, addD, subD, mulD, fdivD, modD, powD, leD, gtD, geD, isD, isntD, negD, notD, revD, isNone, sizeLine, mMt, mtS, startsD, findD, fmtD, mJs, strD, -lenD]
  | some c =>
    have hl := (List.getElem?_eq_some_iff.mp h).1
    have hd : decide (at_ < z.cps.toList.length) = true := decide_eq_true hl
    rw [hd] at lt
    have i := ix_str hz h
    have f := in_figs c
    generalize z.cps.toList.length = n at ln lt
    have vd : v_DIGITS = .int 400 := rfl
    have vf : v_FIGURES = .str "0123456789" := rfl
    generalize (⟨#[c]⟩ : Str) = w at i f
    generalize decide (at_ - start < 400) = b2 at lt2
    cases hd : dig c
    · rw [hd] at f
      simp [cB, rB, ln, lt, i, f, vf, hd, mkFn, isListAt, slots, slot0, mSeq, mAsg, mRet, mIfS, mDrop, mB, bnd, Mi.ret, thaw, thawR, mVal, valR, mVar, mC, mBin, mUn, op1, op2, look, opN, lookAll, mCall, aT, aV, aNil, mStore, okSet, isT, asB, mTup, mLst, valsOf, mNx, outIo, retR, Md.isOwn, Md.isIo, Md.isLk, fI, mIf, mAnd, mOr, mNot, mAndV, mOrV, mChain, mPar, mPar3, mF, mFk, callF, callIo, putIo, freezeBy, flatD, flatAll, flatY, mayGive, notSlot, gath, mAsgG, gT, gsCons, gsNil, gIx, gN, setIx, mSetIx, ownAt, mApp, appTo, mIsi, isiD, isK, kinds, tyD, mSl, mPart, mNoPart, asInt, slD, cutD, lenD, absD, max2D, min2D, gcdD, lcmD, intD, listD, tupleD, allD, boolsOf, divmodD, addD, subD, mulD, fdivD, modD, powD, leD, gtD, geD, isD, isntD, negD, notD, revD, isNone, sizeLine, mMt, mtS, startsD, findD, fmtD, mJs, strD, -lenD]
    · rw [hd] at f
      simp [cB, rB, ln, lt, i, f, vd, vf, lt2, hd, mkFn, isListAt, slots, slot0, mSeq, mAsg, mRet, mIfS, mDrop, mB, bnd, Mi.ret, thaw, thawR, mVal, valR, mVar, mC, mBin, mUn, op1, op2, look, opN, lookAll, mCall, aT, aV, aNil, mStore, okSet, isT, asB, mTup, mLst, valsOf, mNx, outIo, retR, Md.isOwn, Md.isIo, Md.isLk, fI, mIf, mAnd, mOr, mNot, mAndV, mOrV, mChain, mPar, mPar3, mF, mFk, callF, callIo, putIo, freezeBy, flatD, flatAll, flatY, mayGive, notSlot, gath, mAsgG, gT, gsCons, gsNil, gIx, gN, setIx, mSetIx, ownAt, mApp, appTo, mIsi, isiD, isK, kinds, tyD, mSl, mPart, mNoPart, asInt, slD, cutD, lenD, absD, max2D, min2D, gcdD, lcmD, intD, listD, tupleD, allD, boolsOf, divmodD, addD, subD, mulD, fdivD, modD, powD, leD, gtD, geD, isD, isntD, negD, notD, revD, isNone, sizeLine, mMt, mtS, startsD, findD, fmtD, mJs, strD, -lenD]
theorem bB_run {z : Str} {start at_ : Nat} {b : Bool} : bB (rB z start b (some ⟨.val, .int (at_ : Nat)⟩)) = some (.ok .nx, rB z start b (some ⟨.val, .int ((at_ + 1 : Nat) : Int)⟩)) := by
  simp [bB, rB, mkFn, isListAt, slots, slot0, mSeq, mAsg, mRet, mIfS, mDrop, mB, bnd, Mi.ret, thaw, thawR, mVal, valR, mVar, mC, mBin, mUn, op1, op2, look, opN, lookAll, mCall, aT, aV, aNil, mStore, okSet, isT, asB, mTup, mLst, valsOf, mNx, outIo, retR, Md.isOwn, Md.isIo, Md.isLk, fI, mIf, mAnd, mOr, mNot, mAndV, mOrV, mChain, mPar, mPar3, mF, mFk, callF, callIo, putIo, freezeBy, flatD, flatAll, flatY, mayGive, notSlot, gath, mAsgG, gT, gsCons, gsNil, gIx, gN, setIx, mSetIx, ownAt, mApp, appTo, mIsi, isiD, isK, kinds, tyD, mSl, mPart, mNoPart, asInt, slD, cutD, lenD, absD, max2D, min2D, gcdD, lcmD, intD, listD, tupleD, allD, boolsOf, divmodD, addD, subD, mulD, fdivD, modD, powD, leD, gtD, geD, isD, isntD, negD, notD, revD, isNone, sizeLine, mMt, mtS, startsD, findD, fmtD, mJs, strD]
theorem loopB {z : Str} {start : Nat} {b : Bool} (hz : z.length ≤ sizeLine) : ∀ (k at_ : Nat) (n : Nat), start ≤ at_ → at_ - start + k = 400 → k + 1 ≤ n →
    mWhile cB bB n (rB z start b (some ⟨.val, .int (at_ : Nat)⟩)) = some (.ok .nx, rB z start b (some ⟨.val, .int ((at_ + dl (z.cps.toList.drop at_) k : Nat) : Int)⟩))
  | k, at_, n, ha, hk, hn => by
    obtain ⟨n, rfl⟩ : ∃ m, n = m + 1 := ⟨n - 1, by omega⟩
    have c := cB_run (b := b) hz ha
    rw [mWhile]
    unfold bnd
    rw [c]
    dsimp only
    cases h : z.cps.toList[at_]? with
    | none =>
      have hl := List.getElem?_eq_none_iff.mp h
      rw [List.drop_eq_nil_of_le hl]
      simp [dl, Mi.ret]
    | some c =>
      have hl := (List.getElem?_eq_some_iff.mp h).1
      have ed : z.cps.toList.drop at_ = c :: z.cps.toList.drop (at_ + 1) := by
        rw [List.drop_eq_getElem_cons hl]
        rw [List.getElem?_eq_getElem hl] at h
        cases h
        rfl
      rw [ed]
      dsimp only
      cases k with
      | zero =>
        have : ¬ (at_ - start < 400) := by omega
        simp [dl, this, Mi.ret]
      | succ k =>
        have l4 : at_ - start < 400 := by omega
        by_cases hd : dig c = true
        case neg =>
          have hd : dig c = false := by simpa using hd
          simp [dl, hd, Mi.ret]
        case pos =>
          have hc : (dig c && decide (at_ - start < 400)) = true := by rw [hd, decide_eq_true l4]; rfl
          rw [if_pos hc]
          rw [bB_run]
          dsimp only
          rw [loopB hz k (at_ + 1) n (by omega) (by omega) (by omega)]
          have : at_ + dl (c :: z.cps.toList.drop (at_ + 1)) (k + 1) = at_ + 1 + dl (z.cps.toList.drop (at_ + 1)) k := by
            simp only [dl, hd, if_true]
            omega
          rw [this]
end K12

namespace K12
open PySem L2 Evl PySem.Spec Mi
theorem eqv_int' (a b : Nat) : eqsD (.int (a : Nat)) (.int (b : Nat)) = some (.val (.bool (decide (a = b)))) := by
  simp only [eqsD, eqD, shaped_int, Bool.and_self, if_true, eqv_int]
  congr 4
  exact propext (by omega)
theorem seq_nx {a b : M Fl} {ρ ρ' : R} (h : a ρ = some (.ok .nx, ρ')) : mSeq a b ρ = b ρ' := by
  unfold mSeq bnd
  rw [h]
abbrev badR (w : Nat) : Exc := ⟨"BadRatio", [("position", .int (w : Nat))]⟩
theorem ev_behind {z : Str} {start : Nat} {b : Bool} (hz : z.length ≤ sizeLine) (hs : start ≤ z.cps.toList.length) : f__behind_digits [.str z, .int (start : Nat), .bool b] = match bh z.cps.toList start b with
    | .inl w => some (.exc (badR w), .none)
    | .inr e => some (.ok (.val (.int (e : Nat))), .none) := by
  have ln := len_str hz
  have q := eqv_int' start z.cps.toList.length
  unfold bh
  cases h : z.cps.toList[start]? with
  | none =>
    have hl := List.getElem?_eq_none_iff.mp h
    have es : start = z.cps.toList.length := by omega
    rw [List.drop_eq_nil_of_le hl]
    have hd : decide (start = z.cps.toList.length) = true := decide_eq_true es
    rw [hd] at q
    generalize z.cps.toList.length = n at ln q
    simp [f__behind_digits, m__behind_digits, ln, q, mRaise1, mkFn, isListAt, slots, slot0, mSeq, mAsg, mRet, mIfS, mDrop, mB, bnd, Mi.ret, thaw, thawR, mVal, valR, mVar, mC, mBin, mUn, op1, op2, look, opN, lookAll, mCall, aT, aV, aNil, mStore, okSet, isT, asB, mTup, mLst, valsOf, mNx, outIo, retR, Md.isOwn, Md.isIo, Md.isLk, fI, mIf, mAnd, mOr, mNot, mAndV, mOrV, mChain, mPar, mPar3, mF, mFk, callF, callIo, putIo, freezeBy, flatD, flatAll, flatY, mayGive, notSlot, gath, mAsgG, gT, gsCons, gsNil, gIx, gN, setIx, mSetIx, ownAt, mApp, appTo, mIsi, isiD, isK, kinds, tyD, mSl, mPart, mNoPart, asInt, slD, cutD, lenD, absD, max2D, min2D, gcdD, lcmD, intD, listD, tupleD, allD, boolsOf, divmodD, addD, subD, mulD, fdivD, modD, powD, leD, gtD, geD, isD, isntD, negD, notD, revD, isNone, sizeLine, mMt, mtS, startsD, findD, fmtD, mJs, strD, -lenD]
  | some c =>
    have hl := (List.getElem?_eq_some_iff.mp h).1
    have ed : z.cps.toList.drop start = c :: z.cps.toList.drop (start + 1) := by
      rw [List.drop_eq_getElem_cons hl]
      rw [List.getElem?_eq_getElem hl] at h
      cases h
      rfl
    have hd : decide (start = z.cps.toList.length) = false := decide_eq_false (by omega)
    rw [hd] at q
    have lp := loopB (b := b) hz 400 start 100000 (Nat.le_refl _) (by omega) (by omega)
    rw [ed] at lp ⊢
    dsimp only
    have i := ix_str hz h
    have f := nin_figs c
    have e48 : eqsD (.str ⟨#[c]⟩) (.str "0") = some (.val (.bool (decide (c = 48)))) := by rw [st_nought]; exact eqs_sg c 48
    have vf : v_FIGURES = .str "0123456789" := rfl
    generalize z.cps.toList.length = n at ln q
    generalize dl (c :: z.cps.toList.drop (start + 1)) 400 = k at lp ⊢
    generalize (⟨#[c]⟩ : Str) = w at i f e48
    by_cases dg : dig c = true
    · rw [dg] at f
      rw [if_pos dg]
      by_cases c48 : c = 48
      · have e48 : eqsD (.str w) (.str "0") = some (.val (.bool true)) := by rw [e48]; simp [c48]
        rw [if_pos c48]
        clear c48 dg ed h
        cases b
        · simp [f__behind_digits, m__behind_digits, ln, q, i, f, e48, vf, mRaise1, mkFn, isListAt, slots, slot0, mSeq, mAsg, mRet, mIfS, mDrop, mB, bnd, Mi.ret, thaw, thawR, mVal, valR, mVar, mC, mBin, mUn, op1, op2, look, opN, lookAll, mCall, aT, aV, aNil, mStore, okSet, isT, asB, mTup, mLst, valsOf, mNx, outIo, retR, Md.isOwn, Md.isIo, Md.isLk, fI, mIf, mAnd, mOr, mNot, mAndV, mOrV, mChain, mPar, mPar3, mF, mFk, callF, callIo, putIo, freezeBy, flatD, flatAll, flatY, mayGive, notSlot, gath, mAsgG, gT, gsCons, gsNil, gIx, gN, setIx, mSetIx, ownAt, mApp, appTo, mIsi, isiD, isK, kinds, tyD, mSl, mPart, mNoPart, asInt, slD, cutD, lenD, absD, max2D, min2D, gcdD, lcmD, intD, listD, tupleD, allD, boolsOf, divmodD, addD, subD, mulD, fdivD, modD, powD, leD, gtD, geD, isD, isntD, negD, notD, revD, isNone, sizeLine, mMt, mtS, startsD, findD, fmtD, mJs, strD, -lenD]
        · simp [f__behind_digits, m__behind_digits, ln, q, i, f, e48, vf, mRaise1, mkFn, isListAt, slots, slot0, mSeq, mAsg, mRet, mIfS, mDrop, mB, bnd, Mi.ret, thaw, thawR, mVal, valR, mVar, mC, mBin, mUn, op1, op2, look, opN, lookAll, mCall, aT, aV, aNil, mStore, okSet, isT, asB, mTup, mLst, valsOf, mNx, outIo, retR, Md.isOwn, Md.isIo, Md.isLk, fI, mIf, mAnd, mOr, mNot, mAndV, mOrV, mChain, mPar, mPar3, mF, mFk, callF, callIo, putIo, freezeBy, flatD, flatAll, flatY, mayGive, notSlot, gath, mAsgG, gT, gsCons, gsNil, gIx, gN, setIx, mSetIx, ownAt, mApp, appTo, mIsi, isiD, isK, kinds, tyD, mSl, mPart, mNoPart, asInt, slD, cutD, lenD, absD, max2D, min2D, gcdD, lcmD, intD, listD, tupleD, allD, boolsOf, divmodD, addD, subD, mulD, fdivD, modD, powD, leD, gtD, geD, isD, isntD, negD, notD, revD, isNone, sizeLine, mMt, mtS, startsD, findD, fmtD, mJs, strD, -lenD]
      · have e48 : eqsD (.str w) (.str "0") = some (.val (.bool false)) := by rw [e48]; simp [c48]
        rw [if_neg c48]
        clear c48 dg ed h
        generalize start + k = e at lp ⊢
        have a1 : (mIfS (mOr (mB (mBin eqsD (mVar 1) (mCall lenD (aT (mVar 0) aNil)))) (mB (mBin (inD true) (mBin ixD (mVar 0) (mVar 1)) (mC v_FIGURES)))) (mRaise1 "BadRatio" "position" (mVar 1)) mNx) (rB z start b none) = some (.ok .nx, rB z start b none) := by
          simp [rB, ln, q, i, f, vf, mkFn, isListAt, slots, slot0, mSeq, mAsg, mRet, mIfS, mDrop, mB, bnd, Mi.ret, thaw, thawR, mVal, valR, mVar, mC, mBin, mUn, op1, op2, look, opN, lookAll, mCall, aT, aV, aNil, mStore, okSet, isT, asB, mTup, mLst, valsOf, mNx, outIo, retR, Md.isOwn, Md.isIo, Md.isLk, fI, mIf, mAnd, mOr, mNot, mAndV, mOrV, mChain, mPar, mPar3, mF, mFk, callF, callIo, putIo, freezeBy, flatD, flatAll, flatY, mayGive, notSlot, gath, mAsgG, gT, gsCons, gsNil, gIx, gN, setIx, mSetIx, ownAt, mApp, appTo, mIsi, isiD, isK, kinds, tyD, mSl, mPart, mNoPart, asInt, slD, cutD, lenD, absD, max2D, min2D, gcdD, lcmD, intD, listD, tupleD, allD, boolsOf, divmodD, addD, subD, mulD, fdivD, modD, powD, leD, gtD, geD, isD, isntD, negD, notD, revD, isNone, sizeLine, mMt, mtS, startsD, findD, fmtD, mJs, strD, -lenD]
        have a2 : (mIfS (mB (mBin eqsD (mBin ixD (mVar 0) (mVar 1)) (mC (.str "0")))) (mSeq (mIfS (mB (mVar 2)) (mRaise1 "BadRatio" "position" (mVar 1)) mNx) (mRet (mBin addD (mVar 1) (mC (.int 1))))) mNx) (rB z start b none) = some (.ok .nx, rB z start b none) := by
          simp [rB, i, e48, mkFn, isListAt, slots, slot0, mSeq, mAsg, mRet, mIfS, mDrop, mB, bnd, Mi.ret, thaw, thawR, mVal, valR, mVar, mC, mBin, mUn, op1, op2, look, opN, lookAll, mCall, aT, aV, aNil, mStore, okSet, isT, asB, mTup, mLst, valsOf, mNx, outIo, retR, Md.isOwn, Md.isIo, Md.isLk, fI, mIf, mAnd, mOr, mNot, mAndV, mOrV, mChain, mPar, mPar3, mF, mFk, callF, callIo, putIo, freezeBy, flatD, flatAll, flatY, mayGive, notSlot, gath, mAsgG, gT, gsCons, gsNil, gIx, gN, setIx, mSetIx, ownAt, mApp, appTo, mIsi, isiD, isK, kinds, tyD, mSl, mPart, mNoPart, asInt, slD, cutD, lenD, absD, max2D, min2D, gcdD, lcmD, intD, listD, tupleD, allD, boolsOf, divmodD, addD, subD, mulD, fdivD, modD, powD, leD, gtD, geD, isD, isntD, negD, notD, revD, isNone, sizeLine, mMt, mtS, startsD, findD, fmtD, mJs, strD]
        have a3 : (mAsg 3 (mVar 1)) (rB z start b none) = some (.ok .nx, rB z start b (some ⟨.val, .int (start : Nat)⟩)) := by
          simp [rB, mkFn, isListAt, slots, slot0, mSeq, mAsg, mRet, mIfS, mDrop, mB, bnd, Mi.ret, thaw, thawR, mVal, valR, mVar, mC, mBin, mUn, op1, op2, look, opN, lookAll, mCall, aT, aV, aNil, mStore, okSet, isT, asB, mTup, mLst, valsOf, mNx, outIo, retR, Md.isOwn, Md.isIo, Md.isLk, fI, mIf, mAnd, mOr, mNot, mAndV, mOrV, mChain, mPar, mPar3, mF, mFk, callF, callIo, putIo, freezeBy, flatD, flatAll, flatY, mayGive, notSlot, gath, mAsgG, gT, gsCons, gsNil, gIx, gN, setIx, mSetIx, ownAt, mApp, appTo, mIsi, isiD, isK, kinds, tyD, mSl, mPart, mNoPart, asInt, slD, cutD, lenD, absD, max2D, min2D, gcdD, lcmD, intD, listD, tupleD, allD, boolsOf, divmodD, addD, subD, mulD, fdivD, modD, powD, leD, gtD, geD, isD, isntD, negD, notD, revD, isNone, sizeLine, mMt, mtS, startsD, findD, fmtD, mJs, strD]
        have em : m__behind_digits (rB z start b none) = some (.ok (.rt (.val (.int (e : Nat)))), rB z start b (some ⟨.val, .int (e : Nat)⟩)) := by
          show mSeq _ (mSeq _ (mSeq _ (mSeq (mWhile cB bB 100000) (mRet (mVar 3))))) _ = _
          rw [seq_nx a1, seq_nx a2, seq_nx a3, seq_nx lp]
          simp [rB, mkFn, isListAt, slots, slot0, mSeq, mAsg, mRet, mIfS, mDrop, mB, bnd, Mi.ret, thaw, thawR, mVal, valR, mVar, mC, mBin, mUn, op1, op2, look, opN, lookAll, mCall, aT, aV, aNil, mStore, okSet, isT, asB, mTup, mLst, valsOf, mNx, outIo, retR, Md.isOwn, Md.isIo, Md.isLk, fI, mIf, mAnd, mOr, mNot, mAndV, mOrV, mChain, mPar, mPar3, mF, mFk, callF, callIo, putIo, freezeBy, flatD, flatAll, flatY, mayGive, notSlot, gath, mAsgG, gT, gsCons, gsNil, gIx, gN, setIx, mSetIx, ownAt, mApp, appTo, mIsi, isiD, isK, kinds, tyD, mSl, mPart, mNoPart, asInt, slD, cutD, lenD, absD, max2D, min2D, gcdD, lcmD, intD, listD, tupleD, allD, boolsOf, divmodD, addD, subD, mulD, fdivD, modD, powD, leD, gtD, geD, isD, isntD, negD, notD, revD, isNone, sizeLine, mMt, mtS, startsD, findD, fmtD, mJs, strD]
        simp only [rB] at em
        simp [f__behind_digits, mkFn, isListAt, slots, slot0, em, outIo, retR]
    · have dg : dig c = false := by simpa using dg
      rw [dg] at f
      rw [if_neg (by rw [dg]; decide)]
      clear dg ed h
      simp [f__behind_digits, m__behind_digits, ln, q, i, f, vf, mRaise1, mkFn, isListAt, slots, slot0, mSeq, mAsg, mRet, mIfS, mDrop, mB, bnd, Mi.ret, thaw, thawR, mVal, valR, mVar, mC, mBin, mUn, op1, op2, look, opN, lookAll, mCall, aT, aV, aNil, mStore, okSet, isT, asB, mTup, mLst, valsOf, mNx, outIo, retR, Md.isOwn, Md.isIo, Md.isLk, fI, mIf, mAnd, mOr, mNot, mAndV, mOrV, mChain, mPar, mPar3, mF, mFk, callF, callIo, putIo, freezeBy, flatD, flatAll, flatY, mayGive, notSlot, gath, mAsgG, gT, gsCons, gsNil, gIx, gN, setIx, mSetIx, ownAt, mApp, appTo, mIsi, isiD, isK, kinds, tyD, mSl, mPart, mNoPart, asInt, slD, cutD, lenD, absD, max2D, min2D, gcdD, lcmD, intD, listD, tupleD, allD, boolsOf, divmodD, addD, subD, mulD, fdivD, modD, powD, leD, gtD, geD, isD, isntD, negD, notD, revD, isNone, sizeLine, mMt, mtS, startsD, findD, fmtD, mJs, strD, -lenD]
end K12

namespace K12
open PySem L2 Evl PySem.Spec Mi
def mk (cs : List Nat) : Str := ⟨cs.toArray⟩
theorem mk_cps (cs : List Nat) : (mk cs).cps.toList = cs := by simp [mk]
theorem mk_len (cs : List Nat) : (mk cs).length = cs.length := by simp [mk, Str.length]
theorem mk_of (z : Str) : mk z.cps.toList = z := by
  obtain ⟨a⟩ := z
  simp [mk]
theorem cut_to (cs : List Nat) (k : Nat) (h : k ≤ cs.length) : cutS (mk cs) none (some (k : Int)) = mk (cs.take k) := by
  unfold cutS
  rw [mk_cps, mk_len, HT.sIx_none, HT.sIx_nat, List.drop_zero, Nat.sub_zero, Nat.min_eq_left h]
  rfl
theorem cut_from (cs : List Nat) (k : Nat) (h : k ≤ cs.length) : cutS (mk cs) (some (k : Int)) none = mk (cs.drop k) := by
  unfold cutS
  rw [mk_cps, mk_len, HT.sIx_none, HT.sIx_nat, Nat.min_eq_left h, ← List.length_drop, List.take_length]
  rfl
def st0 (cs : List Nat) : Nat := match cs with
  | 45 :: _ => 1
  | _ => 0
theorem ext1 (c : Nat) (cs : List Nat) : (mk (c :: cs)).cps.extract 0 1 = #[c] := by
  apply Array.ext'
  simp [mk]
theorem starts_minus (cs : List Nat) : Txt.startswith (mk cs) "-" = decide (st0 cs = 1) := by
  rw [st_minus]
  cases cs with
  | nil => rfl
  | cons c cs =>
    have e : (Txt.startswith (mk (c :: cs)) ⟨#[45]⟩) = (decide (0 + 1 ≤ (mk (c :: cs)).length) && ((mk (c :: cs)).cps.extract 0 1 == #[45])) := rfl
    rw [e, ext1, mk_len]
    by_cases h : c = 45
    · subst h
      simp [st0]
    · have : st0 (c :: cs) = 0 := by
        unfold st0
        split
        · rename_i heq; cases heq; exact absurd rfl h
        · rfl
      rw [this]
      simp [h]
end K12

namespace K12
open PySem L2 Evl PySem.Spec Mi PySem.NumText
theorem dig_iff (c : Nat) : dig c = true ↔ 48 ≤ c ∧ c ≤ 57 := by unfold dig; simp
theorem dl_all : ∀ (cs : List Nat) (k : Nat), AllDigits (cs.take (dl cs k))
  | [], k => fun c h => by simp [dl] at h
  | c :: cs, 0 => fun d h => by simp [dl] at h
  | c :: cs, k + 1 => fun d h => by
    unfold dl at h
    split at h
    · rename_i hc
      rw [List.take_succ_cons] at h
      rcases List.mem_cons.mp h with e | e
      · subst e; exact (dig_iff _).mp hc
      · exact dl_all cs k d e
    · simp at h
/-- behind the digits: what is told of the end -/
theorem bh_inr {cs : List Nat} {s e : Nat} {u : Bool} (h : bh cs s u = .inr e) : s < e ∧ e ≤ cs.length ∧ e - s ≤ 400 ∧ AllDigits ((cs.drop s).take (e - s)) ∧ (u = true → ∃ c r, cs.drop s = c :: r ∧ c ≠ 48 ∧ dig c = true) := by
  unfold bh at h
  split at h
  · cases h
  · rename_i c r hd
    have hl : (cs.drop s).length = r.length + 1 := by rw [hd]; rfl
    rw [List.length_drop] at hl
    split at h
    · rename_i dg
      split at h
      · rename_i c48
        split at h
        · cases h
        · rename_i hu
          cases h
          refine ⟨by omega, by omega, by omega, ?_, fun q => absurd q hu⟩
          rw [hd, Nat.add_sub_cancel_left]
          intro d hd2
          simp at hd2
          subst hd2
          exact (dig_iff _).mp dg
      · rename_i c48
        cases h
        have h1 := dl_le (c :: r) 400
        have h2 := dl_all (c :: r) 400
        have h0 : 0 < dl (c :: r) 400 := by
          show 0 < dl (c :: r) (399 + 1)
          unfold dl
          rw [if_pos dg]
          omega
        rw [List.length_cons] at h1
        refine ⟨by omega, by omega, by omega, ?_, fun _ => ⟨c, r, hd, c48, dg⟩⟩
        rw [hd, Nat.add_sub_cancel_left]
        exact h2
    · cases h
/-- the number that digits, with a sign or without, tell -/
def iv (cs : List Nat) : Int := match cs with
  | 45 :: r => -((digitsVal r : Nat) : Int)
  | _ => ((digitsVal cs : Nat) : Int)
theorem no_minus {cs : List Nat} (h : ¬ ∃ r, cs = 45 :: r) : st0 cs = 0 ∧ iv cs = ((digitsVal cs : Nat) : Int) := by
  refine ⟨?_, ?_⟩
  · unfold st0
    split
    · rename_i r; exact absurd ⟨r, rfl⟩ h
    · rfl
  · unfold iv
    split
    · rename_i r; exact absurd ⟨r, rfl⟩ h
    · rfl
theorem iv_text {cs : List Nat} (hl : cs.length ≤ 640) (h : AllDigits (cs.drop (st0 cs))) (h1 : cs.drop (st0 cs) ≠ []) : intD [.str (mk cs)] = some (.val (.int (iv cs))) := by
  have hlen : (mk cs).length ≤ 640 := by rw [mk_len]; exact hl
  simp only [intD, hlen, if_true]
  by_cases hm : ∃ r, cs = 45 :: r
  · obtain ⟨r, rfl⟩ := hm
    have := intText_neg (x := mk (45 :: r)) (cs := r) (mk_cps _) (by simpa [st0] using h) (by simpa [st0] using h1) (by omega)
    rw [this]
    rfl
  · obtain ⟨e1, e2⟩ := no_minus hm
    rw [e1] at h h1
    have := intText_digits (x := mk cs) (by rw [mk_cps]; simpa using h) (by rw [mk_cps]; simpa using h1) (by omega)
    rw [this, mk_cps, e2]
    rfl
end K12

namespace K12
open PySem L2 Evl PySem.Spec Mi PySem.NumText
theorem digitsVal_lt : ∀ (cs : List Nat) (a : Nat), AllDigits cs → cs.foldl (fun acc c => acc * 10 + (c - 48)) a < (a + 1) * 10 ^ cs.length
  | [], a, _ => by simp
  | c :: cs, a, h => by
    have hc := h.head
    have := digitsVal_lt cs (a * 10 + (c - 48)) h.tail
    rw [List.foldl_cons, List.length_cons, Nat.pow_succ]
    refine Nat.lt_of_lt_of_le this ?_
    have e : (a + 1) * (10 ^ cs.length * 10) = (a * 10 + 10) * 10 ^ cs.length := by
      rw [Nat.mul_comm (10 ^ cs.length) 10, ← Nat.mul_assoc, Nat.add_mul]
    rw [e]
    exact Nat.mul_le_mul_right _ (by omega)
theorem iv_lt {cs : List Nat} (h : AllDigits (cs.drop (st0 cs))) (hl : cs.length ≤ 401) : (iv cs).natAbs < 10 ^ 401 := by
  have mono : ∀ n : Nat, n ≤ 401 → (10 : Nat) ^ n ≤ 10 ^ 401 := fun n hn => Nat.pow_le_pow_right (by decide) hn
  by_cases hm : ∃ r, cs = 45 :: r
  · obtain ⟨r, rfl⟩ := hm
    have hd : AllDigits r := by simpa [st0] using h
    have := digitsVal_lt r 0 hd
    rw [List.length_cons] at hl
    have q := mono r.length (by omega)
    show (-((digitsVal r : Nat) : Int)).natAbs < _
    unfold digitsVal
    omega
  · obtain ⟨e1, e2⟩ := no_minus hm
    rw [e1] at h
    have := digitsVal_lt cs 0 (by simpa using h)
    have q := mono cs.length hl
    rw [e2]
    unfold digitsVal
    omega
theorem seq_exc {a b : M Fl} {ρ ρ' : R} {x : Exc} (h : a ρ = some (.exc x, ρ')) : mSeq a b ρ = some (.exc x, ρ') := by
  unfold mSeq bnd
  rw [h]
theorem seq_rt {a b : M Fl} {ρ ρ' : R} {r : Res} (h : a ρ = some (.ok (.rt r), ρ')) : mSeq a b ρ = some (.ok (.rt r), ρ') := by
  unfold mSeq bnd
  rw [h]
  rfl
theorem digitsVal_pos {c : Nat} {r : List Nat} (hc : dig c = true) (h0 : c ≠ 48) : 0 < digitsVal (c :: r) := by
  have hc := (dig_iff c).mp hc
  have mono : ∀ (cs : List Nat) (a : Nat), 0 < a → 0 < cs.foldl (fun acc c => acc * 10 + (c - 48)) a := by
    intro cs
    induction cs with
    | nil => exact fun a h => h
    | cons d cs ih =>
      intro a h
      have q : 0 < a * 10 + (d - 48) := by omega
      exact ih _ q
  have q : 0 < 0 * 10 + (c - 48) := by omega
  exact mono r _ q
end K12

namespace K12
open PySem L2 Evl PySem.Spec Mi PySem.NumText
/-! ### the law's automaton and the program's reading go wrong at the same places -/
def fin (t : Nat) : Nat ⊕ St6 → Nat ⊕ Bool
  | .inl w => .inl w
  | .inr q => match q with
    | .n => .inr false
    | .d => .inr false
    | .u => .inr true
    | _ => .inl t
theorem dl_yes {c : Nat} {cs : List Nat} {m : Nat} (h : dig c = true) (g : m < 400) : dl (c :: cs) (400 - m) = dl cs (400 - (m + 1)) + 1 := by
  have e : 400 - m = (400 - (m + 1)) + 1 := by omega
  rw [e]
  show (if dig c = true then dl cs (400 - (m + 1)) + 1 else 0) = _
  rw [if_pos h]
theorem dl_no {c : Nat} {cs : List Nat} {m : Nat} (h : ¬ (dig c = true ∧ m < 400)) : dl (c :: cs) (400 - m) = 0 := by
  by_cases g : m < 400
  · have k : ¬ dig c = true := fun k => h ⟨k, g⟩
    have e : 400 - m = (400 - (m + 1)) + 1 := by omega
    rw [e]
    show (if dig c = true then dl cs (400 - (m + 1)) + 1 else 0) = _
    rw [if_neg k]
  · have e : 400 - m = 0 := by omega
    rw [e]
    rfl
theorem run_cons (q : St6) (m : Nat) (c : Nat) (cs : List Nat) (p : Nat) : run q m (c :: cs) p = match next q c m with
    | none => .inl p
    | some r => run r (if r = q then m + 1 else 1) cs (p + 1) := rfl
theorem run_u : ∀ (cs : List Nat) (m p : Nat), run .u m cs p = if dl cs (400 - m) = cs.length then .inr .u else .inl (p + dl cs (400 - m))
  | [], m, p => by simp [run, dl]
  | c :: cs, m, p => by
    rw [run_cons]
    by_cases h : dig c = true ∧ m < 400
    · have en : next .u c m = some .u := by
        show (if dig c = true ∧ m < 400 then some St6.u else none) = _
        rw [if_pos h]
      rw [en]
      dsimp only
      rw [if_pos rfl, run_u cs (m + 1) (p + 1), dl_yes h.1 h.2, List.length_cons]
      by_cases q : dl cs (400 - (m + 1)) = cs.length
      · rw [if_pos q, if_pos (by omega)]
      · rw [if_neg q, if_neg (by omega)]
        congr 1
        omega
    · have en : next .u c m = none := by
        show (if dig c = true ∧ m < 400 then some St6.u else none) = _
        rw [if_neg h]
      rw [en, dl_no h, List.length_cons, if_neg (by omega)]
      rfl
theorem run_d : ∀ (cs : List Nat) (m p : Nat), run .d m cs p = match cs.drop (dl cs (400 - m)) with
    | [] => .inr .d
    | c :: r => if c = 47 then run .l 1 r (p + dl cs (400 - m) + 1) else .inl (p + dl cs (400 - m))
  | [], m, p => by simp [run, dl]
  | c :: cs, m, p => by
    rw [run_cons]
    by_cases h : dig c = true ∧ m < 400
    · have en : next .d c m = some .d := by
        show (if dig c = true ∧ m < 400 then some St6.d else if c = 47 then some .l else none) = _
        rw [if_pos h]
      rw [en]
      dsimp only
      rw [if_pos rfl, run_d cs (m + 1) (p + 1), dl_yes h.1 h.2, List.drop_succ_cons]
      have e3 : p + 1 + dl cs (400 - (m + 1)) = p + (dl cs (400 - (m + 1)) + 1) := by omega
      rw [e3]
    · rw [dl_no h, List.drop_zero]
      dsimp only
      by_cases q : c = 47
      · have en : next .d c m = some .l := by
          show (if dig c = true ∧ m < 400 then some St6.d else if c = 47 then some .l else none) = _
          rw [if_neg h, if_pos q]
        rw [en, if_pos q]
        rfl
      · have en : next .d c m = none := by
          show (if dig c = true ∧ m < 400 then some St6.d else if c = 47 then some .l else none) = _
          rw [if_neg h, if_neg q]
        rw [en, if_neg q]
        rfl
theorem run_n (cs : List Nat) (m p : Nat) : run .n m cs p = match cs with
    | [] => .inr .n
    | c :: r => if c = 47 then run .l 1 r (p + 1) else .inl p := by
  cases cs with
  | nil => rfl
  | cons c r =>
    rw [run_cons]
    dsimp only
    by_cases q : c = 47
    · have en : next .n c m = some .l := by
        show (if c = 47 then some St6.l else none) = _
        rw [if_pos q]
      rw [en, if_pos q]
      rfl
    · have en : next .n c m = none := by
        show (if c = 47 then some St6.l else none) = _
        rw [if_neg q]
      rw [en, if_neg q]
/-- behind the slash -/
def un (p : Nat) : List Nat → Nat ⊕ Bool
  | [] => .inl p
  | c :: r => if dig c = true ∧ c ≠ 48 then (if dl r 399 = r.length then .inr true else .inl (p + 1 + dl r 399)) else .inl p
theorem fin_l {t p : Nat} {r : List Nat} (h : t = p + r.length) : fin t (run .l 1 r p) = un p r := by
  cases r with
  | nil => subst h; rfl
  | cons c r =>
    rw [run_cons]
    by_cases q : dig c = true ∧ c ≠ 48
    · have en : next .l c 1 = some .u := by
        show (if dig c = true ∧ c ≠ 48 then some St6.u else none) = _
        rw [if_pos q]
      rw [en]
      show fin t (run .u 1 r (p + 1)) = (if dig c = true ∧ c ≠ 48 then (if dl r 399 = r.length then .inr true else .inl (p + 1 + dl r 399)) else .inl p : Nat ⊕ Bool)
      rw [if_pos q, run_u]
      show fin t (if dl r 399 = r.length then .inr .u else .inl (p + 1 + dl r 399)) = _
      by_cases z : dl r 399 = r.length
      · rw [if_pos z, if_pos z]; rfl
      · rw [if_neg z, if_neg z]; rfl
    · have en : next .l c 1 = none := by
        show (if dig c = true ∧ c ≠ 48 then some St6.u else none) = _
        rw [if_neg q]
      rw [en]
      show _ = (if dig c = true ∧ c ≠ 48 then (if dl r 399 = r.length then .inr true else .inl (p + 1 + dl r 399)) else .inl p : Nat ⊕ Bool)
      rw [if_neg q]
      rfl
/-- the program's way behind the digits over the line -/
def tl1 (cs : List Nat) (e : Nat) : Nat ⊕ Option Nat := match cs.drop e with
  | [] => .inr none
  | c :: _ => if c = 47 then (match bh cs (e + 1) true with
      | .inl w => .inl w
      | .inr l => if l < cs.length then .inl l else .inr (some e))
    else .inl e
def pp (cs : List Nat) : Nat ⊕ Option Nat := match bh cs (st0 cs) false with
  | .inl w => .inl w
  | .inr e => tl1 cs e
def fl : Nat ⊕ Option Nat → Nat ⊕ Bool
  | .inl w => .inl w
  | .inr o => .inr o.isSome
theorem drop_one {cs : List Nat} {e : Nat} {c : Nat} {r : List Nat} (h : cs.drop e = c :: r) : cs.drop (e + 1) = r := by
  rw [← List.drop_drop, h]
  rfl
theorem drop_lt {cs : List Nat} {e : Nat} {c : Nat} {r : List Nat} (h : cs.drop e = c :: r) : cs.length = e + 1 + r.length := by
  have hl : (cs.drop e).length = r.length + 1 := by rw [h]; rfl
  rw [List.length_drop] at hl
  omega
theorem fl_tl {cs : List Nat} {e : Nat} : fl (tl1 cs e) = match cs.drop e with
    | [] => .inr false
    | c :: r => if c = 47 then un (e + 1) r else .inl e := by
  unfold tl1
  cases h : cs.drop e with
  | nil => rfl
  | cons c r =>
    dsimp only
    by_cases q : c = 47
    · rw [if_pos q, if_pos q]
      have hd := drop_one h
      have hl := drop_lt h
      unfold bh
      rw [hd]
      cases r with
      | nil => rfl
      | cons d r' =>
        dsimp only
        rw [List.length_cons] at hl
        show _ = (if dig d = true ∧ d ≠ 48 then (if dl r' 399 = r'.length then .inr true else .inl (e + 1 + 1 + dl r' 399)) else .inl (e + 1) : Nat ⊕ Bool)
        by_cases dd : dig d = true
        · rw [if_pos dd]
          by_cases d48 : d = 48
          · rw [if_pos d48, if_pos rfl, if_neg (fun (k : dig d = true ∧ d ≠ 48) => k.2 d48)]
            rfl
          · rw [if_neg d48, if_pos ⟨dd, d48⟩]
            dsimp only
            have e1 : dl (d :: r') 400 = dl r' 399 + 1 := dl_yes (m := 0) dd (by decide)
            have e2 := dl_le r' 399
            rw [e1, hl]
            by_cases z : dl r' 399 = r'.length
            · rw [if_pos z, if_neg (by omega)]
              rfl
            · rw [if_neg z, if_pos (by omega)]
              show Sum.inl _ = Sum.inl _
              congr 1
              omega
        · rw [if_neg dd, if_neg (fun k => dd k.1)]
          rfl
    · rw [if_neg q, if_neg q]
      rfl
theorem agree1 {cs rest : List Nat} {s m : Nat} {q : St6} (hq : q = .s ∨ (q = .b ∧ ∀ c r, rest = c :: r → c ≠ 45)) (hd : cs.drop s = rest) (hs : s ≤ cs.length) :
    fin cs.length (run q m rest s) = fl (match bh cs s false with | .inl w => .inl w | .inr e => tl1 cs e) := by
  unfold bh
  rw [hd]
  cases rest with
  | nil =>
    have : cs.length = s := by
      have hl : (cs.drop s).length = 0 := by rw [hd]; rfl
      rw [List.length_drop] at hl
      omega
    rw [this]
    rcases hq with rfl | ⟨rfl, _⟩ <;> rfl
  | cons c r =>
    have h1 := drop_one hd
    have hl := drop_lt hd
    dsimp only
    rw [run_cons]
    by_cases dg : dig c = true
    · rw [if_pos dg]
      have en : next q c m = if c = 48 then some .n else some .d := by
        rcases hq with rfl | ⟨rfl, h45⟩
        · show (if dig c = true then (if c = 48 then some St6.n else some .d) else none) = _
          rw [if_pos dg]
        · show (if c = 45 then some St6.s else if dig c = true then (if c = 48 then some St6.n else some .d) else none) = _
          rw [if_neg (h45 c r rfl), if_pos dg]
      rw [en]
      by_cases c48 : c = 48
      · rw [if_pos c48, if_pos c48, if_neg (by decide)]
        dsimp only
        rw [fl_tl, h1]
        have e1 : (if St6.n = q then m + 1 else 1) = 1 := by rcases hq with rfl | ⟨rfl, _⟩ <;> rfl
        rw [e1, run_n]
        cases r with
        | nil => rfl
        | cons d r' =>
          dsimp only
          by_cases z : d = 47
          · rw [if_pos z, if_pos z]
            exact fin_l (by rw [List.length_cons] at hl; omega)
          · rw [if_neg z, if_neg z]
            rfl
      · rw [if_neg c48, if_neg c48]
        dsimp only
        rw [fl_tl]
        have e1 : (if St6.d = q then m + 1 else 1) = 1 := by rcases hq with rfl | ⟨rfl, _⟩ <;> rfl
        have e2 : dl (c :: r) 400 = dl r 399 + 1 := dl_yes (m := 0) dg (by decide)
        have e3 : cs.drop (s + dl (c :: r) 400) = r.drop (dl r 399) := by
          rw [← List.drop_drop, hd, e2, List.drop_succ_cons]
        have e4 : s + 1 + dl r 399 = s + dl (c :: r) 400 := by omega
        rw [e1, run_d, e3]
        show fin cs.length (match r.drop (dl r 399) with | [] => .inr .d | c :: r' => if c = 47 then run .l 1 r' (s + 1 + dl r 399 + 1) else .inl (s + 1 + dl r 399)) = _
        rw [e4]
        cases hr : r.drop (dl r 399) with
        | nil => rfl
        | cons d r' =>
          have hl2 := drop_lt hr
          dsimp only
          by_cases z : d = 47
          · rw [if_pos z, if_pos z]
            exact fin_l (by omega)
          · rw [if_neg z, if_neg z]
            rfl
    · rw [if_neg dg]
      have en : next q c m = none := by
        rcases hq with rfl | ⟨rfl, h45⟩
        · show (if dig c = true then (if c = 48 then some St6.n else some .d) else none) = _
          rw [if_neg dg]
        · show (if c = 45 then some St6.s else if dig c = true then (if c = 48 then some St6.n else some .d) else none) = _
          rw [if_neg (h45 c r rfl), if_neg dg]
      rw [en]
      rfl
theorem st0_cases (cs : List Nat) : (∃ r, cs = 45 :: r ∧ st0 cs = 1) ∨ (st0 cs = 0 ∧ ∀ c r, cs = c :: r → c ≠ 45) := by
  by_cases hm : ∃ r, cs = 45 :: r
  · obtain ⟨r, rfl⟩ := hm
    exact .inl ⟨r, rfl, rfl⟩
  · exact .inr ⟨(no_minus hm).1, fun c r e z => hm ⟨r, by rw [e, z]⟩⟩
theorem agree (cs : List Nat) : fin cs.length (run .b 0 cs 0) = fl (pp cs) := by
  unfold pp
  rcases st0_cases cs with ⟨r, rfl, e⟩ | ⟨e, h⟩
  · rw [e]
    exact agree1 (cs := 45 :: r) (rest := r) (s := 1) (m := 1) (.inl rfl) rfl (by simp)
  · rw [e]
    exact agree1 (cs := cs) (rest := cs) (s := 0) (m := 0) (.inr ⟨rfl, h⟩) rfl (Nat.zero_le _)
end K12

namespace K12
open PySem L2 Evl PySem.Spec Mi PySem.NumText
/-! ### the first slash -/
theorem find_slash {cs : List Nat} {e : Nat} (h : cs[e]? = some 47) (hb : ∀ j, j < e → cs[j]? ≠ some 47) : Txt.find (mk cs) "/" = (e : Int) := by
  rw [st_slash]
  unfold Txt.find
  have hm := fun i => StrLaws.subAt_one (mk cs) 47 i
  simp only [mk_cps] at hm
  rcases StrLaws.occ_head_from (mk cs) ⟨#[47]⟩ 0 1 (Nat.le_refl 1) with ⟨h0, hn⟩ | ⟨k, r, h0, hlo, hk, hn⟩
  · exact absurd ((hm e).mpr h) (hn e (Nat.zero_le _))
  · rw [h0]
    dsimp only
    have hk := (hm k).mp hk
    have hke : k = e := by
      rcases Nat.lt_trichotomy k e with q | q | q
      · exact absurd hk (hb k q)
      · exact q
      · exact absurd ((hm e).mpr h) (hn e (Nat.zero_le _) q)
    rw [hke]
/-! ### the numbers of a text that is read -/
theorem st0_take {cs : List Nat} {e : Nat} (h : 0 < e) : st0 (cs.take e) = st0 cs := by
  obtain ⟨k, rfl⟩ : ∃ k, e = k + 1 := ⟨e - 1, by omega⟩
  cases cs with
  | nil => rfl
  | cons c r =>
    rw [List.take_succ_cons]
    by_cases q : c = 45
    · subst q; rfl
    · rw [(no_minus (cs := c :: r.take k) (by rintro ⟨r', z⟩; cases z; exact q rfl)).1, (no_minus (cs := c :: r) (by rintro ⟨r', z⟩; cases z; exact q rfl)).1]
structure NumAt (cs : List Nat) (e : Nat) : Prop where
  intro ::
  le : e ≤ cs.length
  pos : st0 cs < e
  few : e ≤ 401
  all : AllDigits ((cs.take e).drop (st0 (cs.take e)))
theorem st0_le (cs : List Nat) : st0 cs ≤ 1 := by
  rcases st0_cases cs with ⟨r, _, h⟩ | ⟨h, _⟩ <;> omega
theorem num_at {cs : List Nat} {e : Nat} (h : bh cs (st0 cs) false = .inr e) : NumAt cs e := by
  obtain ⟨h1, h2, h3, h4, _⟩ := bh_inr h
  have s := st0_le cs
  refine ⟨h2, h1, by omega, ?_⟩
  rw [st0_take (by omega), List.drop_take]
  exact h4
theorem NumAt.val {cs : List Nat} {e : Nat} (h : NumAt cs e) : intD [.str (mk (cs.take e))] = some (.val (.int (iv (cs.take e)))) ∧ (iv (cs.take e)).natAbs < 10 ^ 401 := by
  have hl : (cs.take e).length = e := by rw [List.length_take]; exact Nat.min_eq_left h.le
  have hf := h.few
  refine ⟨iv_text (by omega) h.all ?_, iv_lt h.all (by omega)⟩
  intro k
  have k := congrArg List.length k
  rw [List.length_drop, hl, st0_take (Nat.lt_of_le_of_lt (Nat.zero_le _) h.pos)] at k
  have := h.pos
  simp at k
  omega
/-- before the end of the digits there is no slash -/
theorem NumAt.free {cs : List Nat} {e j : Nat} (h : NumAt cs e) (hj : j < e) : cs[j]? ≠ some 47 := by
  intro q
  have s := st0_take (cs := cs) (e := e) (Nat.lt_of_le_of_lt (Nat.zero_le _) h.pos)
  have al := h.all
  rw [s] at al
  by_cases k : j < st0 cs
  · rcases st0_cases cs with ⟨r, e1, h1⟩ | ⟨h1, _⟩
    · have : j = 0 := by omega
      subst this
      rw [e1] at q
      cases q
    · omega
  · have q2 : ((cs.take e).drop (st0 cs))[j - st0 cs]? = some 47 := by
      rw [List.getElem?_drop, List.getElem?_take, show st0 cs + (j - st0 cs) = j by omega, if_pos hj, q]
    have := al 47 (List.mem_of_getElem? q2)
    omega
/-- the digits below the line -/
structure UndAt (cs : List Nat) (e : Nat) : Prop where
  intro ::
  few : (cs.drop (e + 1)).length ≤ 400
  all : AllDigits (cs.drop (e + 1))
  hd : ∃ c r, cs.drop (e + 1) = c :: r ∧ c ≠ 48 ∧ dig c = true
theorem und_at {cs : List Nat} {e l : Nat} (h : bh cs (e + 1) true = .inr l) (hl : ¬ l < cs.length) : UndAt cs e := by
  obtain ⟨h1, h2, h3, h4, h5⟩ := bh_inr h
  have el : l = cs.length := by omega
  subst el
  rw [← List.length_drop, List.take_length] at h4
  exact ⟨by rw [List.length_drop]; exact h3, h4, h5 rfl⟩
theorem UndAt.val {cs : List Nat} {e : Nat} (h : UndAt cs e) : intD [.str (mk (cs.drop (e + 1)))] = some (.val (.int ((digitsVal (cs.drop (e + 1)) : Nat) : Int))) ∧ digitsVal (cs.drop (e + 1)) < 10 ^ 401 ∧ 0 < digitsVal (cs.drop (e + 1)) := by
  obtain ⟨c, r, e1, c48, dg⟩ := h.hd
  have few := h.few
  have all := h.all
  generalize hx : cs.drop (e + 1) = xs at e1 few all ⊢
  subst e1
  have nm : ¬ ∃ r', c :: r = 45 :: r' := by
    rintro ⟨r', k⟩
    cases k
    exact absurd dg (by decide)
  obtain ⟨s, v⟩ := no_minus nm
  have t := iv_text (cs := c :: r) (by omega) (by rw [s]; exact all) (by rw [s]; simp)
  have b := iv_lt (cs := c :: r) (by rw [s]; exact all) (by omega)
  rw [v] at t b
  exact ⟨t, by simpa using b, digitsVal_pos dg c48⟩
/-- what pp tells -/
theorem pp_none {cs : List Nat} (h : pp cs = .inr none) : NumAt cs cs.length := by
  unfold pp at h
  split at h
  · cases h
  · rename_i e he
    have n := num_at he
    unfold tl1 at h
    split at h
    · rename_i hd
      have : e = cs.length := by
        have hl : (cs.drop e).length = 0 := by rw [hd]; rfl
        rw [List.length_drop] at hl
        have := n.le
        omega
      subst this
      exact n
    · split at h
      · split at h
        · cases h
        · split at h <;> cases h
      · cases h
theorem pp_some {cs : List Nat} {e : Nat} (h : pp cs = .inr (some e)) : NumAt cs e ∧ UndAt cs e ∧ cs[e]? = some 47 := by
  unfold pp at h
  split at h
  · cases h
  · rename_i e' he
    have n := num_at he
    unfold tl1 at h
    split at h
    · cases h
    · rename_i c r hd
      split at h
      · rename_i c47
        split at h
        · cases h
        · rename_i l hb
          split at h
          · cases h
          · rename_i hl
            cases h
            refine ⟨n, und_at hb hl, ?_⟩
            have := congrArg List.head? hd
            rw [List.head?_drop] at this
            rw [this, c47]
            rfl
      · cases h
end K12

namespace K12
open PySem L2 Evl PySem.Spec Mi PySem.NumText
def rP (z : Str) (s1 s2 s3 : Option Slot) : R := [some ⟨.val, .str z⟩, s1, s2, s3]
theorem nes_sg (c k : Nat) : nesD (.str ⟨#[c]⟩) (.str ⟨#[k]⟩) = some (.val (.bool (!decide (c = k)))) := by
  unfold nesD
  by_cases h : c = k
  · subst h; simp
  · have : ¬ (⟨#[c]⟩ : Str) = ⟨#[k]⟩ := fun e => h ((sg_eq c k).mp e)
    simp [h, this]
section
variable {z : Str} {e n l : Nat} {v u : Int} {d : D}
theorem p0 : (mIfS (mNot (mB (mIsi ["str"] (mVar 0)))) stuck mNx) (rP z none none none) = some (.ok .nx, rP z none none none) := by simp [rP, mkFn, isListAt, slots, slot0, mSeq, mAsg, mRet, mIfS, mDrop, mB, bnd, Mi.ret, thaw, thawR, mVal, valR, mVar, mC, mBin, mUn, op1, op2, look, opN, lookAll, mCall, aT, aV, aNil, mStore, okSet, isT, asB, mTup, mLst, valsOf, mNx, outIo, retR, Md.isOwn, Md.isIo, Md.isLk, fI, mIf, mAnd, mOr, mNot, mAndV, mOrV, mChain, mPar, mPar3, mF, mFk, callF, callIo, putIo, freezeBy, flatD, flatAll, flatY, mayGive, notSlot, gath, mAsgG, gT, gsCons, gsNil, gIx, gN, setIx, mSetIx, ownAt, mApp, appTo, mIsi, isiD, isK, kinds, tyD, mSl, mPart, mNoPart, asInt, slD, cutD, lenD, absD, max2D, min2D, gcdD, lcmD, intD, listD, tupleD, allD, boolsOf, divmodD, addD, subD, mulD, fdivD, modD, powD, leD, gtD, geD, isD, isntD, negD, notD, revD, isNone, sizeLine, mMt, mtS, startsD, findD, fmtD, mJs, strD]
theorem starts_of {s : Nat} (hs : Txt.startswith z "-" = decide (s = 1)) : startsD z [.str "-"] = some (.val (.bool (decide (s = 1)))) := by
  show some (Res.val (.bool (Txt.startswith z "-"))) = _
  rw [hs]
theorem p1 {s : Nat} (hs : Txt.startswith z "-" = decide (s = 1)) (h01 : s = 0 ∨ s = 1) (b : f__behind_digits [.str z, .int (s : Nat), .bool false] = some (.ok (.val (.int (e : Nat))), .none)) : (mAsg 1 (mF 3 f__behind_digits none (aT (mVar 0) (aT (mIf (mB (mMt startsD (mVar 0) (aT (mC (.str "-")) aNil))) (mC (.int 1)) (mC (.int 0))) (aT (mC (.bool false)) aNil))))) (rP z none none none) = some (.ok .nx, rP z (some ⟨.val, .int (e : Nat)⟩) none none) := by
  have sd := starts_of hs
  rcases h01 with rfl | rfl <;> simp at sd b <;> simp [rP, sd, b, mkFn, isListAt, slots, slot0, mSeq, mAsg, mRet, mIfS, mDrop, mB, bnd, Mi.ret, thaw, thawR, mVal, valR, mVar, mC, mBin, mUn, op1, op2, look, opN, lookAll, mCall, aT, aV, aNil, mStore, okSet, isT, asB, mTup, mLst, valsOf, mNx, outIo, retR, Md.isOwn, Md.isIo, Md.isLk, fI, mIf, mAnd, mOr, mNot, mAndV, mOrV, mChain, mPar, mPar3, mF, mFk, callF, callIo, putIo, freezeBy, flatD, flatAll, flatY, mayGive, notSlot, gath, mAsgG, gT, gsCons, gsNil, gIx, gN, setIx, mSetIx, ownAt, mApp, appTo, mIsi, isiD, isK, kinds, tyD, mSl, mPart, mNoPart, asInt, slD, cutD, lenD, absD, max2D, min2D, gcdD, lcmD, intD, listD, tupleD, allD, boolsOf, divmodD, addD, subD, mulD, fdivD, modD, powD, leD, gtD, geD, isD, isntD, negD, notD, revD, isNone, sizeLine, mMt, mtS, startsD, findD, fmtD, mJs, strD, -startsD]
theorem p1x {s w : Nat} (hs : Txt.startswith z "-" = decide (s = 1)) (h01 : s = 0 ∨ s = 1) (b : f__behind_digits [.str z, .int (s : Nat), .bool false] = some (.exc (badR w), .none)) : (mAsg 1 (mF 3 f__behind_digits none (aT (mVar 0) (aT (mIf (mB (mMt startsD (mVar 0) (aT (mC (.str "-")) aNil))) (mC (.int 1)) (mC (.int 0))) (aT (mC (.bool false)) aNil))))) (rP z none none none) = some (.exc (badR w), rP z none none none) := by
  have sd := starts_of hs
  rcases h01 with rfl | rfl <;> simp at sd b <;> simp [rP, sd, b, mkFn, isListAt, slots, slot0, mSeq, mAsg, mRet, mIfS, mDrop, mB, bnd, Mi.ret, thaw, thawR, mVal, valR, mVar, mC, mBin, mUn, op1, op2, look, opN, lookAll, mCall, aT, aV, aNil, mStore, okSet, isT, asB, mTup, mLst, valsOf, mNx, outIo, retR, Md.isOwn, Md.isIo, Md.isLk, fI, mIf, mAnd, mOr, mNot, mAndV, mOrV, mChain, mPar, mPar3, mF, mFk, callF, callIo, putIo, freezeBy, flatD, flatAll, flatY, mayGive, notSlot, gath, mAsgG, gT, gsCons, gsNil, gIx, gN, setIx, mSetIx, ownAt, mApp, appTo, mIsi, isiD, isK, kinds, tyD, mSl, mPart, mNoPart, asInt, slD, cutD, lenD, absD, max2D, min2D, gcdD, lcmD, intD, listD, tupleD, allD, boolsOf, divmodD, addD, subD, mulD, fdivD, modD, powD, leD, gtD, geD, isD, isntD, negD, notD, revD, isNone, sizeLine, mMt, mtS, startsD, findD, fmtD, mJs, strD, -startsD]
theorem sl_to (hz : z.length ≤ sizeLine) : slD none (some (e : Int)) (.str z) = some (.val (.str (cutS z none (some (e : Int))))) := by simp only [slD, hz, if_true]
theorem sl_from {i : Int} (hz : z.length ≤ sizeLine) : slD (some i) none (.str z) = some (.val (.str (cutS z (some i) none))) := by simp only [slD, hz, if_true]
theorem p2 (hz : z.length ≤ sizeLine) (i : intD [.str (cutS z none (some (e : Int)))] = some (.val (.int v))) : (mAsg 2 (mCall intD (aT (mSl (mVar 0) mNoPart (mPart (mVar 1))) aNil))) (rP z (some ⟨.val, .int (e : Nat)⟩) none none) = some (.ok .nx, rP z (some ⟨.val, .int (e : Nat)⟩) (some ⟨.val, .int v⟩) none) := by
  have sl := sl_to (e := e) hz
  generalize cutS z none (some (e : Int)) = w at i sl
  simp [rP, sl, i, mkFn, isListAt, slots, slot0, mSeq, mAsg, mRet, mIfS, mDrop, mB, bnd, Mi.ret, thaw, thawR, mVal, valR, mVar, mC, mBin, mUn, op1, op2, look, opN, lookAll, mCall, aT, aV, aNil, mStore, okSet, isT, asB, mTup, mLst, valsOf, mNx, outIo, retR, Md.isOwn, Md.isIo, Md.isLk, fI, mIf, mAnd, mOr, mNot, mAndV, mOrV, mChain, mPar, mPar3, mF, mFk, callF, callIo, putIo, freezeBy, flatD, flatAll, flatY, mayGive, notSlot, gath, mAsgG, gT, gsCons, gsNil, gIx, gN, setIx, mSetIx, ownAt, mApp, appTo, mIsi, isiD, isK, kinds, tyD, mSl, mPart, mNoPart, asInt, slD, cutD, lenD, absD, max2D, min2D, gcdD, lcmD, intD, listD, tupleD, allD, boolsOf, divmodD, addD, subD, mulD, fdivD, modD, powD, leD, gtD, geD, isD, isntD, negD, notD, revD, isNone, sizeLine, mMt, mtS, startsD, findD, fmtD, mJs, strD, -slD, -intD, -cutD]
theorem p3y (ln : lenD [.str z] = some (.val (.int (n : Nat)))) (h : e = n) (f : f_fraction [.int v, .int 1] = some (.ok (.val d), .none)) : (mIfS (mB (mBin eqsD (mVar 1) (mCall lenD (aT (mVar 0) aNil)))) (mRet (mF 2 f_fraction none (aT (mVar 2) (aT (mC (.int 1)) aNil)))) mNx) (rP z (some ⟨.val, .int (e : Nat)⟩) (some ⟨.val, .int v⟩) none) = some (.ok (.rt (.val d)), rP z (some ⟨.val, .int (e : Nat)⟩) (some ⟨.val, .int v⟩) none) := by
  have q := eqv_int' e n
  rw [decide_eq_true h] at q
  clear h
  simp [rP, ln, q, f, mkFn, isListAt, slots, slot0, mSeq, mAsg, mRet, mIfS, mDrop, mB, bnd, Mi.ret, thaw, thawR, mVal, valR, mVar, mC, mBin, mUn, op1, op2, look, opN, lookAll, mCall, aT, aV, aNil, mStore, okSet, isT, asB, mTup, mLst, valsOf, mNx, outIo, retR, Md.isOwn, Md.isIo, Md.isLk, fI, mIf, mAnd, mOr, mNot, mAndV, mOrV, mChain, mPar, mPar3, mF, mFk, callF, callIo, putIo, freezeBy, flatD, flatAll, flatY, mayGive, notSlot, gath, mAsgG, gT, gsCons, gsNil, gIx, gN, setIx, mSetIx, ownAt, mApp, appTo, mIsi, isiD, isK, kinds, tyD, mSl, mPart, mNoPart, asInt, slD, cutD, lenD, absD, max2D, min2D, gcdD, lcmD, intD, listD, tupleD, allD, boolsOf, divmodD, addD, subD, mulD, fdivD, modD, powD, leD, gtD, geD, isD, isntD, negD, notD, revD, isNone, sizeLine, mMt, mtS, startsD, findD, fmtD, mJs, strD, -lenD]
theorem p3n (ln : lenD [.str z] = some (.val (.int (n : Nat)))) (h : ¬ e = n) : (mIfS (mB (mBin eqsD (mVar 1) (mCall lenD (aT (mVar 0) aNil)))) (mRet (mF 2 f_fraction none (aT (mVar 2) (aT (mC (.int 1)) aNil)))) mNx) (rP z (some ⟨.val, .int (e : Nat)⟩) (some ⟨.val, .int v⟩) none) = some (.ok .nx, rP z (some ⟨.val, .int (e : Nat)⟩) (some ⟨.val, .int v⟩) none) := by
  have q := eqv_int' e n
  rw [decide_eq_false h] at q
  clear h
  simp [rP, ln, q, mkFn, isListAt, slots, slot0, mSeq, mAsg, mRet, mIfS, mDrop, mB, bnd, Mi.ret, thaw, thawR, mVal, valR, mVar, mC, mBin, mUn, op1, op2, look, opN, lookAll, mCall, aT, aV, aNil, mStore, okSet, isT, asB, mTup, mLst, valsOf, mNx, outIo, retR, Md.isOwn, Md.isIo, Md.isLk, fI, mIf, mAnd, mOr, mNot, mAndV, mOrV, mChain, mPar, mPar3, mF, mFk, callF, callIo, putIo, freezeBy, flatD, flatAll, flatY, mayGive, notSlot, gath, mAsgG, gT, gsCons, gsNil, gIx, gN, setIx, mSetIx, ownAt, mApp, appTo, mIsi, isiD, isK, kinds, tyD, mSl, mPart, mNoPart, asInt, slD, cutD, lenD, absD, max2D, min2D, gcdD, lcmD, intD, listD, tupleD, allD, boolsOf, divmodD, addD, subD, mulD, fdivD, modD, powD, leD, gtD, geD, isD, isntD, negD, notD, revD, isNone, sizeLine, mMt, mtS, startsD, findD, fmtD, mJs, strD, -lenD]
theorem p4y {w : Str} (i : ixD (.str z) (.int (e : Nat)) = some (.val (.str w))) (ne : nesD (.str w) (.str "/") = some (.val (.bool true))) : (mIfS (mB (mBin nesD (mBin ixD (mVar 0) (mVar 1)) (mC (.str "/")))) (mRaise1 "BadRatio" "position" (mVar 1)) mNx) (rP z (some ⟨.val, .int (e : Nat)⟩) (some ⟨.val, .int v⟩) none) = some (.exc (badR e), rP z (some ⟨.val, .int (e : Nat)⟩) (some ⟨.val, .int v⟩) none) := by
  simp [rP, i, ne, mRaise1, mkFn, isListAt, slots, slot0, mSeq, mAsg, mRet, mIfS, mDrop, mB, bnd, Mi.ret, thaw, thawR, mVal, valR, mVar, mC, mBin, mUn, op1, op2, look, opN, lookAll, mCall, aT, aV, aNil, mStore, okSet, isT, asB, mTup, mLst, valsOf, mNx, outIo, retR, Md.isOwn, Md.isIo, Md.isLk, fI, mIf, mAnd, mOr, mNot, mAndV, mOrV, mChain, mPar, mPar3, mF, mFk, callF, callIo, putIo, freezeBy, flatD, flatAll, flatY, mayGive, notSlot, gath, mAsgG, gT, gsCons, gsNil, gIx, gN, setIx, mSetIx, ownAt, mApp, appTo, mIsi, isiD, isK, kinds, tyD, mSl, mPart, mNoPart, asInt, slD, cutD, lenD, absD, max2D, min2D, gcdD, lcmD, intD, listD, tupleD, allD, boolsOf, divmodD, addD, subD, mulD, fdivD, modD, powD, leD, gtD, geD, isD, isntD, negD, notD, revD, isNone, sizeLine, mMt, mtS, startsD, findD, fmtD, mJs, strD]
theorem p4n {w : Str} (i : ixD (.str z) (.int (e : Nat)) = some (.val (.str w))) (ne : nesD (.str w) (.str "/") = some (.val (.bool false))) : (mIfS (mB (mBin nesD (mBin ixD (mVar 0) (mVar 1)) (mC (.str "/")))) (mRaise1 "BadRatio" "position" (mVar 1)) mNx) (rP z (some ⟨.val, .int (e : Nat)⟩) (some ⟨.val, .int v⟩) none) = some (.ok .nx, rP z (some ⟨.val, .int (e : Nat)⟩) (some ⟨.val, .int v⟩) none) := by
  simp [rP, i, ne, mRaise1, mkFn, isListAt, slots, slot0, mSeq, mAsg, mRet, mIfS, mDrop, mB, bnd, Mi.ret, thaw, thawR, mVal, valR, mVar, mC, mBin, mUn, op1, op2, look, opN, lookAll, mCall, aT, aV, aNil, mStore, okSet, isT, asB, mTup, mLst, valsOf, mNx, outIo, retR, Md.isOwn, Md.isIo, Md.isLk, fI, mIf, mAnd, mOr, mNot, mAndV, mOrV, mChain, mPar, mPar3, mF, mFk, callF, callIo, putIo, freezeBy, flatD, flatAll, flatY, mayGive, notSlot, gath, mAsgG, gT, gsCons, gsNil, gIx, gN, setIx, mSetIx, ownAt, mApp, appTo, mIsi, isiD, isK, kinds, tyD, mSl, mPart, mNoPart, asInt, slD, cutD, lenD, absD, max2D, min2D, gcdD, lcmD, intD, listD, tupleD, allD, boolsOf, divmodD, addD, subD, mulD, fdivD, modD, powD, leD, gtD, geD, isD, isntD, negD, notD, revD, isNone, sizeLine, mMt, mtS, startsD, findD, fmtD, mJs, strD]
theorem p5 (b : f__behind_digits [.str z, .int ((e : Int) + 1), .bool true] = some (.ok (.val (.int (l : Nat))), .none)) : (mAsg 3 (mF 3 f__behind_digits none (aT (mVar 0) (aT (mBin addD (mVar 1) (mC (.int 1))) (aT (mC (.bool true)) aNil))))) (rP z (some ⟨.val, .int (e : Nat)⟩) (some ⟨.val, .int v⟩) none) = some (.ok .nx, rP z (some ⟨.val, .int (e : Nat)⟩) (some ⟨.val, .int v⟩) (some ⟨.val, .int (l : Nat)⟩)) := by
  simp [rP, b, mkFn, isListAt, slots, slot0, mSeq, mAsg, mRet, mIfS, mDrop, mB, bnd, Mi.ret, thaw, thawR, mVal, valR, mVar, mC, mBin, mUn, op1, op2, look, opN, lookAll, mCall, aT, aV, aNil, mStore, okSet, isT, asB, mTup, mLst, valsOf, mNx, outIo, retR, Md.isOwn, Md.isIo, Md.isLk, fI, mIf, mAnd, mOr, mNot, mAndV, mOrV, mChain, mPar, mPar3, mF, mFk, callF, callIo, putIo, freezeBy, flatD, flatAll, flatY, mayGive, notSlot, gath, mAsgG, gT, gsCons, gsNil, gIx, gN, setIx, mSetIx, ownAt, mApp, appTo, mIsi, isiD, isK, kinds, tyD, mSl, mPart, mNoPart, asInt, slD, cutD, lenD, absD, max2D, min2D, gcdD, lcmD, intD, listD, tupleD, allD, boolsOf, divmodD, addD, subD, mulD, fdivD, modD, powD, leD, gtD, geD, isD, isntD, negD, notD, revD, isNone, sizeLine, mMt, mtS, startsD, findD, fmtD, mJs, strD]
theorem p5x {w : Nat} (b : f__behind_digits [.str z, .int ((e : Int) + 1), .bool true] = some (.exc (badR w), .none)) : (mAsg 3 (mF 3 f__behind_digits none (aT (mVar 0) (aT (mBin addD (mVar 1) (mC (.int 1))) (aT (mC (.bool true)) aNil))))) (rP z (some ⟨.val, .int (e : Nat)⟩) (some ⟨.val, .int v⟩) none) = some (.exc (badR w), rP z (some ⟨.val, .int (e : Nat)⟩) (some ⟨.val, .int v⟩) none) := by
  simp [rP, b, mkFn, isListAt, slots, slot0, mSeq, mAsg, mRet, mIfS, mDrop, mB, bnd, Mi.ret, thaw, thawR, mVal, valR, mVar, mC, mBin, mUn, op1, op2, look, opN, lookAll, mCall, aT, aV, aNil, mStore, okSet, isT, asB, mTup, mLst, valsOf, mNx, outIo, retR, Md.isOwn, Md.isIo, Md.isLk, fI, mIf, mAnd, mOr, mNot, mAndV, mOrV, mChain, mPar, mPar3, mF, mFk, callF, callIo, putIo, freezeBy, flatD, flatAll, flatY, mayGive, notSlot, gath, mAsgG, gT, gsCons, gsNil, gIx, gN, setIx, mSetIx, ownAt, mApp, appTo, mIsi, isiD, isK, kinds, tyD, mSl, mPart, mNoPart, asInt, slD, cutD, lenD, absD, max2D, min2D, gcdD, lcmD, intD, listD, tupleD, allD, boolsOf, divmodD, addD, subD, mulD, fdivD, modD, powD, leD, gtD, geD, isD, isntD, negD, notD, revD, isNone, sizeLine, mMt, mtS, startsD, findD, fmtD, mJs, strD]
theorem lt_nat (a b : Nat) : ltD (.int (a : Nat)) (.int (b : Nat)) = some (.val (.bool (decide (a < b)))) := by
  simp [ltD, fI]
theorem p6y (ln : lenD [.str z] = some (.val (.int (n : Nat)))) (h : l < n) : (mIfS (mB (mBin ltD (mVar 3) (mCall lenD (aT (mVar 0) aNil)))) (mRaise1 "BadRatio" "position" (mVar 3)) mNx) (rP z (some ⟨.val, .int (e : Nat)⟩) (some ⟨.val, .int v⟩) (some ⟨.val, .int (l : Nat)⟩)) = some (.exc (badR l), rP z (some ⟨.val, .int (e : Nat)⟩) (some ⟨.val, .int v⟩) (some ⟨.val, .int (l : Nat)⟩)) := by
  have q := lt_nat l n
  rw [decide_eq_true h] at q
  clear h
  simp [rP, ln, q, mRaise1, mkFn, isListAt, slots, slot0, mSeq, mAsg, mRet, mIfS, mDrop, mB, bnd, Mi.ret, thaw, thawR, mVal, valR, mVar, mC, mBin, mUn, op1, op2, look, opN, lookAll, mCall, aT, aV, aNil, mStore, okSet, isT, asB, mTup, mLst, valsOf, mNx, outIo, retR, Md.isOwn, Md.isIo, Md.isLk, fI, mIf, mAnd, mOr, mNot, mAndV, mOrV, mChain, mPar, mPar3, mF, mFk, callF, callIo, putIo, freezeBy, flatD, flatAll, flatY, mayGive, notSlot, gath, mAsgG, gT, gsCons, gsNil, gIx, gN, setIx, mSetIx, ownAt, mApp, appTo, mIsi, isiD, isK, kinds, tyD, mSl, mPart, mNoPart, asInt, slD, cutD, lenD, absD, max2D, min2D, gcdD, lcmD, intD, listD, tupleD, allD, boolsOf, divmodD, addD, subD, mulD, fdivD, modD, powD, leD, gtD, geD, isD, isntD, negD, notD, revD, isNone, sizeLine, mMt, mtS, startsD, findD, fmtD, mJs, strD, -lenD]
theorem p6n (ln : lenD [.str z] = some (.val (.int (n : Nat)))) (h : ¬ l < n) : (mIfS (mB (mBin ltD (mVar 3) (mCall lenD (aT (mVar 0) aNil)))) (mRaise1 "BadRatio" "position" (mVar 3)) mNx) (rP z (some ⟨.val, .int (e : Nat)⟩) (some ⟨.val, .int v⟩) (some ⟨.val, .int (l : Nat)⟩)) = some (.ok .nx, rP z (some ⟨.val, .int (e : Nat)⟩) (some ⟨.val, .int v⟩) (some ⟨.val, .int (l : Nat)⟩)) := by
  have q := lt_nat l n
  rw [decide_eq_false h] at q
  clear h
  simp [rP, ln, q, mRaise1, mkFn, isListAt, slots, slot0, mSeq, mAsg, mRet, mIfS, mDrop, mB, bnd, Mi.ret, thaw, thawR, mVal, valR, mVar, mC, mBin, mUn, op1, op2, look, opN, lookAll, mCall, aT, aV, aNil, mStore, okSet, isT, asB, mTup, mLst, valsOf, mNx, outIo, retR, Md.isOwn, Md.isIo, Md.isLk, fI, mIf, mAnd, mOr, mNot, mAndV, mOrV, mChain, mPar, mPar3, mF, mFk, callF, callIo, putIo, freezeBy, flatD, flatAll, flatY, mayGive, notSlot, gath, mAsgG, gT, gsCons, gsNil, gIx, gN, setIx, mSetIx, ownAt, mApp, appTo, mIsi, isiD, isK, kinds, tyD, mSl, mPart, mNoPart, asInt, slD, cutD, lenD, absD, max2D, min2D, gcdD, lcmD, intD, listD, tupleD, allD, boolsOf, divmodD, addD, subD, mulD, fdivD, modD, powD, leD, gtD, geD, isD, isntD, negD, notD, revD, isNone, sizeLine, mMt, mtS, startsD, findD, fmtD, mJs, strD, -lenD]
theorem p7 (hz : z.length ≤ sizeLine) (i : intD [.str (cutS z (some ((e : Int) + 1)) none)] = some (.val (.int u))) (f : f_fraction [.int v, .int u] = some (.ok (.val d), .none)) : (mRet (mF 2 f_fraction none (aT (mVar 2) (aT (mCall intD (aT (mSl (mVar 0) (mPart (mBin addD (mVar 1) (mC (.int 1)))) mNoPart) aNil)) aNil)))) (rP z (some ⟨.val, .int (e : Nat)⟩) (some ⟨.val, .int v⟩) (some ⟨.val, .int (l : Nat)⟩)) = some (.ok (.rt (.val d)), rP z (some ⟨.val, .int (e : Nat)⟩) (some ⟨.val, .int v⟩) (some ⟨.val, .int (l : Nat)⟩)) := by
  have sl := sl_from (i := (e : Int) + 1) hz
  generalize cutS z (some ((e : Int) + 1)) none = w at i sl
  simp [rP, sl, i, f, mkFn, isListAt, slots, slot0, mSeq, mAsg, mRet, mIfS, mDrop, mB, bnd, Mi.ret, thaw, thawR, mVal, valR, mVar, mC, mBin, mUn, op1, op2, look, opN, lookAll, mCall, aT, aV, aNil, mStore, okSet, isT, asB, mTup, mLst, valsOf, mNx, outIo, retR, Md.isOwn, Md.isIo, Md.isLk, fI, mIf, mAnd, mOr, mNot, mAndV, mOrV, mChain, mPar, mPar3, mF, mFk, callF, callIo, putIo, freezeBy, flatD, flatAll, flatY, mayGive, notSlot, gath, mAsgG, gT, gsCons, gsNil, gIx, gN, setIx, mSetIx, ownAt, mApp, appTo, mIsi, isiD, isK, kinds, tyD, mSl, mPart, mNoPart, asInt, slD, cutD, lenD, absD, max2D, min2D, gcdD, lcmD, intD, listD, tupleD, allD, boolsOf, divmodD, addD, subD, mulD, fdivD, modD, powD, leD, gtD, geD, isD, isntD, negD, notD, revD, isNone, sizeLine, mMt, mtS, startsD, findD, fmtD, mJs, strD, -slD, -intD, -cutD]
end
theorem f_of {z : Str} {r : Out Fl} {s1 s2 s3 : Option Slot} {q : Out Res} (em : m_parse_ratio (rP z none none none) = some (r, rP z s1 s2 s3)) (h : (r = .ok .nx ∧ q = .ok (.val .none)) ∨ (∃ d, r = .ok (.rt (.val d)) ∧ q = .ok (.val d)) ∨ ∃ x, r = .exc x ∧ q = .exc x) : f_parse_ratio [.str z] = some (q, .none) := by
  simp only [rP] at em
  rcases h with ⟨rfl, rfl⟩ | ⟨d, rfl, rfl⟩ | ⟨x, rfl, rfl⟩ <;> simp [f_parse_ratio, mkFn, isListAt, slots, slot0, em, outIo, retR]
theorem big9 : (10 : Nat) ^ 401 < 2 ^ 9000 := by decide +kernel
theorem ev_parse {cs : List Nat} (hl : cs.length ≤ sizeLine) : f_parse_ratio [.str (mk cs)] = match pp cs with
    | .inl w => some (.exc (badR w), .none)
    | .inr none => some (.ok (.val (red (iv cs) 1)), .none)
    | .inr (some e) => some (.ok (.val (red (iv (cs.take e)) ((digitsVal (cs.drop (e + 1)) : Nat) : Int))), .none) := by
  have hz : (mk cs).length ≤ sizeLine := by rw [mk_len]; exact hl
  have lc : (mk cs).cps.toList = cs := mk_cps cs
  have s1 := st0_le cs
  have s2 : st0 cs ≤ cs.length := by
    rcases st0_cases cs with ⟨r, e, h⟩ | ⟨h, _⟩
    · rw [h, e, List.length_cons]; omega
    · omega
  have b0 := ev_behind (z := mk cs) (start := st0 cs) (b := false) hz (by rw [lc]; exact s2)
  have ln := len_str hz
  rw [lc] at b0 ln
  have hs := starts_minus cs
  have h01 : st0 cs = 0 ∨ st0 cs = 1 := by omega
  have pk : ∀ X, pp cs = X → pp cs = X := fun _ h => h
  unfold pp
  cases hb : bh cs (st0 cs) false with
  | inl w =>
    rw [hb] at b0
    dsimp only at b0 ⊢
    refine f_of (r := .exc (badR w)) (s1 := none) (s2 := none) (s3 := none) ?_ (.inr (.inr ⟨_, rfl, rfl⟩))
    show mSeq _ (mSeq _ _) _ = _
    rw [seq_nx p0, seq_exc (p1x hs h01 b0)]
  | inr e =>
    rw [hb] at b0
    dsimp only at b0 ⊢
    have na := num_at hb
    obtain ⟨iv1, iv2⟩ := na.val
    rw [← cut_to cs e na.le] at iv1
    have P1 := p1 hs h01 b0
    have P2 := p2 hz iv1
    have ppe : pp cs = tl1 cs e := by unfold pp; rw [hb]
    unfold tl1 at ppe ⊢
    cases hd : cs.drop e with
    | nil =>
      dsimp only
      have ee : e = cs.length := by
        have hl : (cs.drop e).length = 0 := by rw [hd]; rfl
        rw [List.length_drop] at hl
        have := na.le
        omega
      have et : cs.take e = cs := by rw [ee]; exact List.take_length
      rw [et] at P2 iv2
      have F := ev_fraction (n := iv cs) (u := 1) (by decide) (Nat.lt_trans iv2 big9) (by decide)
      refine f_of (r := .ok (.rt (.val (red (iv cs) 1)))) (s1 := (some ⟨.val, .int (e : Nat)⟩)) (s2 := (some ⟨.val, .int (iv cs)⟩)) (s3 := none) ?_ (.inr (.inl ⟨_, rfl, rfl⟩))
      · show mSeq _ (mSeq _ (mSeq _ (mSeq _ _))) _ = _
        rw [seq_nx p0, seq_nx P1, seq_nx P2, seq_rt (p3y ln ee F)]
    | cons c r =>
      dsimp only
      have hlen := drop_lt hd
      have P3 := p3n (e := e) (v := iv (cs.take e)) ln (by omega)
      have hc : (mk cs).cps.toList[e]? = some c := by
        rw [lc]
        have := congrArg List.head? hd
        rw [List.head?_drop] at this
        exact this
      have ix := ix_str hz hc
      by_cases c47 : c = 47
      · rw [if_pos c47]
        have ne : nesD (.str ⟨#[c]⟩) (.str "/") = some (.val (.bool false)) := by rw [st_slash, nes_sg, decide_eq_true c47]; rfl
        have P4 := p4n (v := iv (cs.take e)) ix ne
        have b1 := ev_behind (z := mk cs) (start := e + 1) (b := true) hz (by rw [lc]; omega)
        rw [lc, show ((e + 1 : Nat) : Int) = (e : Int) + 1 by omega] at b1
        cases hb1 : bh cs (e + 1) true with
        | inl w =>
          rw [hb1] at b1
          dsimp only at b1 ⊢
          refine f_of (r := .exc (badR w)) (s1 := (some ⟨.val, .int (e : Nat)⟩)) (s2 := (some ⟨.val, .int (iv (cs.take e))⟩)) (s3 := none) ?_ (.inr (.inr ⟨_, rfl, rfl⟩))
          · show mSeq _ (mSeq _ (mSeq _ (mSeq _ (mSeq _ (mSeq _ _))))) _ = _
            rw [seq_nx p0, seq_nx P1, seq_nx P2, seq_nx P3, seq_nx P4, seq_exc (p5x b1)]
        | inr l =>
          rw [hb1] at b1
          dsimp only at b1 ⊢
          have P5 := p5 (v := iv (cs.take e)) b1
          by_cases ll : l < cs.length
          · rw [if_pos ll]
            dsimp only
            refine f_of (r := .exc (badR l)) (s1 := (some ⟨.val, .int (e : Nat)⟩)) (s2 := (some ⟨.val, .int (iv (cs.take e))⟩)) (s3 := (some ⟨.val, .int (l : Nat)⟩)) ?_ (.inr (.inr ⟨_, rfl, rfl⟩))
            · show mSeq _ (mSeq _ (mSeq _ (mSeq _ (mSeq _ (mSeq _ (mSeq _ _)))))) _ = _
              rw [seq_nx p0, seq_nx P1, seq_nx P2, seq_nx P3, seq_nx P4, seq_nx P5, seq_exc (p6y ln ll)]
          · rw [if_neg ll]
            dsimp only
            obtain ⟨u1, u2, u3⟩ := (und_at hb1 ll).val
            rw [← cut_from cs (e + 1) (by omega), show ((e + 1 : Nat) : Int) = (e : Int) + 1 by omega] at u1
            have F := ev_fraction (n := iv (cs.take e)) (u := ((digitsVal (cs.drop (e + 1)) : Nat) : Int)) (by omega) (Nat.lt_trans iv2 big9) (by rw [Int.natAbs_natCast]; exact Nat.lt_trans u2 big9)
            have P7 := p7 (l := l) hz u1 F
            refine f_of (r := .ok (.rt (.val (red (iv (cs.take e)) ((digitsVal (cs.drop (e + 1)) : Nat) : Int))))) (s1 := (some ⟨.val, .int (e : Nat)⟩)) (s2 := (some ⟨.val, .int (iv (cs.take e))⟩)) (s3 := (some ⟨.val, .int (l : Nat)⟩)) ?_ (.inr (.inl ⟨_, rfl, rfl⟩))
            · show mSeq _ (mSeq _ (mSeq _ (mSeq _ (mSeq _ (mSeq _ (mSeq _ _)))))) _ = _
              rw [seq_nx p0, seq_nx P1, seq_nx P2, seq_nx P3, seq_nx P4, seq_nx P5, seq_nx (p6n ln ll)]
              exact P7
      · rw [if_neg c47]
        dsimp only
        have ne : nesD (.str ⟨#[c]⟩) (.str "/") = some (.val (.bool true)) := by rw [st_slash, nes_sg, decide_eq_false c47]; rfl
        refine f_of (r := .exc (badR e)) (s1 := (some ⟨.val, .int (e : Nat)⟩)) (s2 := (some ⟨.val, .int (iv (cs.take e))⟩)) (s3 := none) ?_ (.inr (.inr ⟨_, rfl, rfl⟩))
        · show mSeq _ (mSeq _ (mSeq _ (mSeq _ (mSeq _ _)))) _ = _
          rw [seq_nx p0, seq_nx P1, seq_nx P2, seq_nx P3, seq_exc (p4y ix ne)]
end K12

namespace K12
open PySem L2 Evl PySem.Spec Mi PySem.NumText
theorem rng_len (n : Nat) : rangeD 0 n = (List.range' 0 n).map fun (i : Nat) => PyData.int (i : Nat) := by
  unfold rangeD
  rw [List.range_eq_range']
  refine List.map_congr_left fun i _ => ?_
  rw [Int.zero_add]
theorem nes_st (q r : St6) : nesD (.str q.str) (.str r.str) = some (.val (.bool (!decide (q = r)))) := by
  unfold nesD
  by_cases h : q = r
  · subst h; simp
  · have : ¬ q.str = r.str := fun e => h ((st_inj q r).mp e)
    simp [h, this]
section
variable {z : Str} {e n m : Nat} {v u : Int} {d : D} {q : St6} {s3 s4 : Option Slot}
theorem r0 : (mAsgG (gT 2 (gsCons (gN 1) (gsCons (gN 2) gsNil))) (mTup (aV (mC (.str "begin")) (aV (mC (.int 0)) aNil)))) [some ⟨.val, .str z⟩, none, none, none, none] = some (.ok .nx, rR z .b 0 none none) := by
  simp [rR, St6.str, mkFn, isListAt, slots, slot0, mSeq, mAsg, mRet, mIfS, mDrop, mB, bnd, Mi.ret, thaw, thawR, mVal, valR, mVar, mC, mBin, mUn, op1, op2, look, opN, lookAll, mCall, aT, aV, aNil, mStore, okSet, isT, asB, mTup, mLst, valsOf, mNx, outIo, retR, Md.isOwn, Md.isIo, Md.isLk, fI, mIf, mAnd, mOr, mNot, mAndV, mOrV, mChain, mPar, mPar3, mF, mFk, callF, callIo, putIo, freezeBy, flatD, flatAll, flatY, mayGive, notSlot, gath, mAsgG, gT, gsCons, gsNil, gIx, gN, setIx, mSetIx, ownAt, mApp, appTo, mIsi, isiD, isK, kinds, tyD, mSl, mPart, mNoPart, asInt, slD, cutD, lenD, absD, max2D, min2D, gcdD, lcmD, intD, listD, tupleD, allD, boolsOf, divmodD, addD, subD, mulD, fdivD, modD, powD, leD, gtD, geD, isD, isntD, negD, notD, revD, isNone, sizeLine, mMt, mtS, startsD, findD, fmtD, mJs, strD]
theorem r1 (ln : lenD [.str z] = some (.val (.int (n : Nat)))) (h : n < 1000000) : (mRng1 (aT (mCall lenD (aT (mVar 0) aNil)) aNil)) (rR z .b 0 none none) = some (.ok ⟨rangeD 0 n, []⟩, rR z .b 0 none none) := by
  have i : in62 (n : Int) = true := by unfold in62; exact decide_eq_true (by omega)
  simp [rR, mRng1, rng1, ln, i, mkFn, isListAt, slots, slot0, mSeq, mAsg, mRet, mIfS, mDrop, mB, bnd, Mi.ret, thaw, thawR, mVal, valR, mVar, mC, mBin, mUn, op1, op2, look, opN, lookAll, mCall, aT, aV, aNil, mStore, okSet, isT, asB, mTup, mLst, valsOf, mNx, outIo, retR, Md.isOwn, Md.isIo, Md.isLk, fI, mIf, mAnd, mOr, mNot, mAndV, mOrV, mChain, mPar, mPar3, mF, mFk, callF, callIo, putIo, freezeBy, flatD, flatAll, flatY, mayGive, notSlot, gath, mAsgG, gT, gsCons, gsNil, gIx, gN, setIx, mSetIx, ownAt, mApp, appTo, mIsi, isiD, isK, kinds, tyD, mSl, mPart, mNoPart, asInt, slD, cutD, lenD, absD, max2D, min2D, gcdD, lcmD, intD, listD, tupleD, allD, boolsOf, divmodD, addD, subD, mulD, fdivD, modD, powD, leD, gtD, geD, isD, isntD, negD, notD, revD, isNone, sizeLine, mMt, mtS, startsD, findD, fmtD, mJs, strD, -lenD]
theorem r2y (ln : lenD [.str z] = some (.val (.int (n : Nat)))) (hq : ¬ (q = .n ∨ q = .d ∨ q = .u)) : (mIfS (mB (mBin (inD true) (mVar 1) (mLst (aV (mC (.str "nought")) (aV (mC (.str "digits")) (aV (mC (.str "under")) aNil)))))) (mRet (mTup (aV (mCall lenD (aT (mVar 0) aNil)) (aV (mC .none) aNil)))) mNx) (rR z q m s3 s4) = some (.ok (.rt (.val (.tuple [.int (n : Nat), .none]))), rR z q m s3 s4) := by
  have i := nin_ndu q
  rw [decide_eq_false hq] at i
  simp only [rR]
  generalize q.str = qs at i ⊢
  simp [i, ln, mkFn, isListAt, slots, slot0, mSeq, mAsg, mRet, mIfS, mDrop, mB, bnd, Mi.ret, thaw, thawR, mVal, valR, mVar, mC, mBin, mUn, op1, op2, look, opN, lookAll, mCall, aT, aV, aNil, mStore, okSet, isT, asB, mTup, mLst, valsOf, mNx, outIo, retR, Md.isOwn, Md.isIo, Md.isLk, fI, mIf, mAnd, mOr, mNot, mAndV, mOrV, mChain, mPar, mPar3, mF, mFk, callF, callIo, putIo, freezeBy, flatD, flatAll, flatY, mayGive, notSlot, gath, mAsgG, gT, gsCons, gsNil, gIx, gN, setIx, mSetIx, ownAt, mApp, appTo, mIsi, isiD, isK, kinds, tyD, mSl, mPart, mNoPart, asInt, slD, cutD, lenD, absD, max2D, min2D, gcdD, lcmD, intD, listD, tupleD, allD, boolsOf, divmodD, addD, subD, mulD, fdivD, modD, powD, leD, gtD, geD, isD, isntD, negD, notD, revD, isNone, sizeLine, mMt, mtS, startsD, findD, fmtD, mJs, strD, -lenD]
theorem r2n (hq : q = .n ∨ q = .d ∨ q = .u) : (mIfS (mB (mBin (inD true) (mVar 1) (mLst (aV (mC (.str "nought")) (aV (mC (.str "digits")) (aV (mC (.str "under")) aNil)))))) (mRet (mTup (aV (mCall lenD (aT (mVar 0) aNil)) (aV (mC .none) aNil)))) mNx) (rR z q m s3 s4) = some (.ok .nx, rR z q m s3 s4) := by
  have i := nin_ndu q
  rw [decide_eq_true hq] at i
  simp only [rR]
  generalize q.str = qs at i ⊢
  simp [i, mkFn, isListAt, slots, slot0, mSeq, mAsg, mRet, mIfS, mDrop, mB, bnd, Mi.ret, thaw, thawR, mVal, valR, mVar, mC, mBin, mUn, op1, op2, look, opN, lookAll, mCall, aT, aV, aNil, mStore, okSet, isT, asB, mTup, mLst, valsOf, mNx, outIo, retR, Md.isOwn, Md.isIo, Md.isLk, fI, mIf, mAnd, mOr, mNot, mAndV, mOrV, mChain, mPar, mPar3, mF, mFk, callF, callIo, putIo, freezeBy, flatD, flatAll, flatY, mayGive, notSlot, gath, mAsgG, gT, gsCons, gsNil, gIx, gN, setIx, mSetIx, ownAt, mApp, appTo, mIsi, isiD, isK, kinds, tyD, mSl, mPart, mNoPart, asInt, slD, cutD, lenD, absD, max2D, min2D, gcdD, lcmD, intD, listD, tupleD, allD, boolsOf, divmodD, addD, subD, mulD, fdivD, modD, powD, leD, gtD, geD, isD, isntD, negD, notD, revD, isNone, sizeLine, mMt, mtS, startsD, findD, fmtD, mJs, strD, -lenD]
theorem r3y (i : intD [.str z] = some (.val (.int v))) (hq : ¬ q = .u) : (mIfS (mB (mBin nesD (mVar 1) (mC (.str "under")))) (mRet (mTup (aV (mC .none) (aV (mTup (aV (mCall intD (aT (mVar 0) aNil)) (aV (mC (.int 1)) aNil))) aNil)))) mNx) (rR z q m s3 s4) = some (.ok (.rt (.val (.tuple [.none, rat v 1]))), rR z q m s3 s4) := by
  have ne : nesD (.str q.str) (.str "under") = _ := nes_st q .u
  rw [decide_eq_false hq] at ne
  simp only [rR]
  generalize q.str = qs at ne ⊢
  simp [i, ne, mkFn, isListAt, slots, slot0, mSeq, mAsg, mRet, mIfS, mDrop, mB, bnd, Mi.ret, thaw, thawR, mVal, valR, mVar, mC, mBin, mUn, op1, op2, look, opN, lookAll, mCall, aT, aV, aNil, mStore, okSet, isT, asB, mTup, mLst, valsOf, mNx, outIo, retR, Md.isOwn, Md.isIo, Md.isLk, fI, mIf, mAnd, mOr, mNot, mAndV, mOrV, mChain, mPar, mPar3, mF, mFk, callF, callIo, putIo, freezeBy, flatD, flatAll, flatY, mayGive, notSlot, gath, mAsgG, gT, gsCons, gsNil, gIx, gN, setIx, mSetIx, ownAt, mApp, appTo, mIsi, isiD, isK, kinds, tyD, mSl, mPart, mNoPart, asInt, slD, cutD, lenD, absD, max2D, min2D, gcdD, lcmD, intD, listD, tupleD, allD, boolsOf, divmodD, addD, subD, mulD, fdivD, modD, powD, leD, gtD, geD, isD, isntD, negD, notD, revD, isNone, sizeLine, mMt, mtS, startsD, findD, fmtD, mJs, strD, -intD]
theorem r3n (hq : q = .u) : (mIfS (mB (mBin nesD (mVar 1) (mC (.str "under")))) (mRet (mTup (aV (mC .none) (aV (mTup (aV (mCall intD (aT (mVar 0) aNil)) (aV (mC (.int 1)) aNil))) aNil)))) mNx) (rR z q m s3 s4) = some (.ok .nx, rR z q m s3 s4) := by
  have ne : nesD (.str q.str) (.str "under") = _ := nes_st q .u
  rw [decide_eq_true hq] at ne
  simp only [rR]
  generalize q.str = qs at ne ⊢
  simp [ne, mkFn, isListAt, slots, slot0, mSeq, mAsg, mRet, mIfS, mDrop, mB, bnd, Mi.ret, thaw, thawR, mVal, valR, mVar, mC, mBin, mUn, op1, op2, look, opN, lookAll, mCall, aT, aV, aNil, mStore, okSet, isT, asB, mTup, mLst, valsOf, mNx, outIo, retR, Md.isOwn, Md.isIo, Md.isLk, fI, mIf, mAnd, mOr, mNot, mAndV, mOrV, mChain, mPar, mPar3, mF, mFk, callF, callIo, putIo, freezeBy, flatD, flatAll, flatY, mayGive, notSlot, gath, mAsgG, gT, gsCons, gsNil, gIx, gN, setIx, mSetIx, ownAt, mApp, appTo, mIsi, isiD, isK, kinds, tyD, mSl, mPart, mNoPart, asInt, slD, cutD, lenD, absD, max2D, min2D, gcdD, lcmD, intD, listD, tupleD, allD, boolsOf, divmodD, addD, subD, mulD, fdivD, modD, powD, leD, gtD, geD, isD, isntD, negD, notD, revD, isNone, sizeLine, mMt, mtS, startsD, findD, fmtD, mJs, strD, -intD]
theorem r4 (h3 : Vl s3) (f : Txt.find z "/" = (e : Int)) : (mAsg 3 (mMt findD (mVar 0) (aT (mC (.str "/")) aNil))) (rR z q m s3 s4) = some (.ok .nx, rR z q m (some ⟨.val, .int (e : Nat)⟩) s4) := by
  have fd : findD z [.str "/"] = some (.val (.int (e : Nat))) := by
    show some (Res.val (.int (Txt.find z "/"))) = _
    rw [f]
  rcases h3 with rfl | ⟨t, rfl⟩ <;> simp [rR, fd, mkFn, isListAt, slots, slot0, mSeq, mAsg, mRet, mIfS, mDrop, mB, bnd, Mi.ret, thaw, thawR, mVal, valR, mVar, mC, mBin, mUn, op1, op2, look, opN, lookAll, mCall, aT, aV, aNil, mStore, okSet, isT, asB, mTup, mLst, valsOf, mNx, outIo, retR, Md.isOwn, Md.isIo, Md.isLk, fI, mIf, mAnd, mOr, mNot, mAndV, mOrV, mChain, mPar, mPar3, mF, mFk, callF, callIo, putIo, freezeBy, flatD, flatAll, flatY, mayGive, notSlot, gath, mAsgG, gT, gsCons, gsNil, gIx, gN, setIx, mSetIx, ownAt, mApp, appTo, mIsi, isiD, isK, kinds, tyD, mSl, mPart, mNoPart, asInt, slD, cutD, lenD, absD, max2D, min2D, gcdD, lcmD, intD, listD, tupleD, allD, boolsOf, divmodD, addD, subD, mulD, fdivD, modD, powD, leD, gtD, geD, isD, isntD, negD, notD, revD, isNone, sizeLine, mMt, mtS, startsD, findD, fmtD, mJs, strD, -findD]
theorem r5 (hz : z.length ≤ sizeLine) (i1 : intD [.str (cutS z none (some (e : Int)))] = some (.val (.int v))) (i2 : intD [.str (cutS z (some ((e : Int) + 1)) none)] = some (.val (.int u))) (f : f__law_ratio [.int v, .int u] = some (.ok (.val d), .none)) : (mRet (mTup (aV (mC .none) (aV (mF 2 f__law_ratio none (aT (mCall intD (aT (mSl (mVar 0) mNoPart (mPart (mVar 3))) aNil)) (aT (mCall intD (aT (mSl (mVar 0) (mPart (mBin addD (mVar 3) (mC (.int 1)))) mNoPart) aNil)) aNil))) aNil)))) (rR z q m (some ⟨.val, .int (e : Nat)⟩) s4) = some (.ok (.rt (.val (.tuple [.none, d]))), rR z q m (some ⟨.val, .int (e : Nat)⟩) s4) := by
  have sl := sl_from (i := (e : Int) + 1) hz
  have sl2 := sl_to (e := e) hz
  generalize cutS z (some ((e : Int) + 1)) none = w at i2 sl
  generalize cutS z none (some (e : Int)) = w2 at i1 sl2
  simp [rR, sl, sl2, i1, i2, f, mkFn, isListAt, slots, slot0, mSeq, mAsg, mRet, mIfS, mDrop, mB, bnd, Mi.ret, thaw, thawR, mVal, valR, mVar, mC, mBin, mUn, op1, op2, look, opN, lookAll, mCall, aT, aV, aNil, mStore, okSet, isT, asB, mTup, mLst, valsOf, mNx, outIo, retR, Md.isOwn, Md.isIo, Md.isLk, fI, mIf, mAnd, mOr, mNot, mAndV, mOrV, mChain, mPar, mPar3, mF, mFk, callF, callIo, putIo, freezeBy, flatD, flatAll, flatY, mayGive, notSlot, gath, mAsgG, gT, gsCons, gsNil, gIx, gN, setIx, mSetIx, ownAt, mApp, appTo, mIsi, isiD, isK, kinds, tyD, mSl, mPart, mNoPart, asInt, slD, cutD, lenD, absD, max2D, min2D, gcdD, lcmD, intD, listD, tupleD, allD, boolsOf, divmodD, addD, subD, mulD, fdivD, modD, powD, leD, gtD, geD, isD, isntD, negD, notD, revD, isNone, sizeLine, mMt, mtS, startsD, findD, fmtD, mJs, strD, -slD, -intD, -cutD]
end
theorem g_of {z : Str} {d : D} {ρ : R} (em : m__law_read [some ⟨.val, .str z⟩, none, none, none, none] = some (.ok (.rt (.val d)), ρ)) : f__law_read [.str z] = some (.ok (.val d), .none) := by
  simp [f__law_read, mkFn, isListAt, slots, slot0, em, outIo, retR]
theorem fl_l {x : Nat ⊕ Option Nat} {w : Nat} (h : fl x = .inl w) : x = .inl w := by
  cases x with
  | inl w' => cases h; rfl
  | inr o => cases h
theorem fl_n {x : Nat ⊕ Option Nat} (h : fl x = .inr false) : x = .inr none := by
  cases x with
  | inl w' => cases h
  | inr o => cases o with
    | none => rfl
    | some e => cases h
theorem fl_s {x : Nat ⊕ Option Nat} (h : fl x = .inr true) : ∃ e, x = .inr (some e) := by
  cases x with
  | inl w' => cases h
  | inr o => cases o with
    | none => cases h
    | some e => exact ⟨e, rfl⟩
theorem ev_read {cs : List Nat} (hl : cs.length ≤ 100000) : f__law_read [.str (mk cs)] = match pp cs with
    | .inl w => some (.ok (.val (.tuple [.int (w : Nat), .none])), .none)
    | .inr none => some (.ok (.val (.tuple [.none, rat (iv cs) 1])), .none)
    | .inr (some e) => some (.ok (.val (.tuple [.none, red (iv (cs.take e)) ((digitsVal (cs.drop (e + 1)) : Nat) : Int)])), .none) := by
  have hz : (mk cs).length ≤ sizeLine := by rw [mk_len, show sizeLine = 16777216 from rfl]; omega
  have lc : (mk cs).cps.toList = cs := mk_cps cs
  have ln := len_str hz
  rw [lc] at ln
  have R1 := r1 ln (by omega)
  have ag := agree cs
  obtain ⟨s3, s4, q', m, h3, lp⟩ := loopR hz cs 0 .b 0 none none (fun j c h => by rw [lc, Nat.zero_add]; exact h) (.inl rfl) (.inl rfl)
  rw [← rng_len] at lp
  cases hr : run .b 0 cs 0 with
  | inl w =>
    rw [hr] at lp ag
    dsimp only at lp
    rw [fl_l ag.symm]
    dsimp only
    have L := for_run R1 lp
    unfold bodyR at L
    refine g_of (ρ := rR (mk cs) q' m s3 s4) ?_
    show mSeq _ (mSeq _ _) _ = _
    rw [seq_nx r0, seq_rt L]
  | inr q =>
    rw [hr] at lp ag
    dsimp only at lp
    have L := for_run R1 lp
    unfold bodyR at L
    have no : ¬ (q = .n ∨ q = .d ∨ q = .u) → pp cs = .inl cs.length → f__law_read [.str (mk cs)] = some (.ok (.val (.tuple [.int (cs.length : Nat), .none])), .none) := by
      intro hq _
      refine g_of (ρ := rR (mk cs) q m s3 s4) ?_
      show mSeq _ (mSeq _ (mSeq _ _)) _ = _
      rw [seq_nx r0, seq_nx L, seq_rt (r2y ln hq)]
    have nd : (q = .n ∨ q = .d) → pp cs = .inr none → f__law_read [.str (mk cs)] = some (.ok (.val (.tuple [.none, rat (iv cs) 1])), .none) := by
      intro hq hp
      have v := (pp_none hp).val.1
      rw [List.take_length] at v
      refine g_of (ρ := rR (mk cs) q m s3 s4) ?_
      show mSeq _ (mSeq _ (mSeq _ (mSeq _ _))) _ = _
      rw [seq_nx r0, seq_nx L, seq_nx (r2n (by rcases hq with h | h <;> simp [h])), seq_rt (r3y v (by rcases hq with h | h <;> simp [h]))]
    have ud : q = .u → ∀ e, pp cs = .inr (some e) → f__law_read [.str (mk cs)] = some (.ok (.val (.tuple [.none, red (iv (cs.take e)) ((digitsVal (cs.drop (e + 1)) : Nat) : Int)])), .none) := by
      intro hq e hp
      obtain ⟨na, ua, at47⟩ := pp_some hp
      obtain ⟨i1, b1⟩ := na.val
      obtain ⟨i2, b2, b3⟩ := ua.val
      have le := na.le
      have l2 := (List.getElem?_eq_some_iff.mp at47).1
      have F := ev_lratio (n := iv (cs.take e)) (u := ((digitsVal (cs.drop (e + 1)) : Nat) : Int)) (by omega) (Nat.lt_trans b1 big9) (by rw [Int.natAbs_natCast]; exact Nat.lt_trans b2 big9)
      rw [← cut_to cs e le] at i1
      rw [← cut_from cs (e + 1) (by omega), show ((e + 1 : Nat) : Int) = (e : Int) + 1 by omega] at i2
      have fd := find_slash at47 (fun j hj => na.free hj)
      refine g_of (ρ := rR (mk cs) q m (some ⟨.val, .int (e : Nat)⟩) s4) ?_
      show mSeq _ (mSeq _ (mSeq _ (mSeq _ (mSeq _ _)))) _ = _
      rw [seq_nx r0, seq_nx L, seq_nx (r2n (.inr (.inr hq))), seq_nx (r3n hq), seq_nx (r4 h3 fd)]
      exact r5 hz i1 i2 F
    cases q with
    | b => have h := fl_l ag.symm; rw [no (by simp) h, h]
    | s => have h := fl_l ag.symm; rw [no (by simp) h, h]
    | l => have h := fl_l ag.symm; rw [no (by simp) h, h]
    | n => have h := fl_n ag.symm; rw [nd (.inl rfl) h, h]
    | d => have h := fl_n ag.symm; rw [nd (.inr rfl) h, h]
    | u => obtain ⟨e, h⟩ := fl_s ag.symm; rw [ud rfl e h, h]
end K12

namespace K12
open PySem L2 Evl PySem.Spec Mi PySem.NumText
/-! ### what repr takes -/
theorem leaves_of : ∀ {d : D}, d.canLay0 = true → d.showable = true → d.leavesShort 1921 = true
  | .none, _, _ => rfl
  | .bool _, _, _ => rfl
  | .int i, _, h => by
    have h : i.natAbs.log2 < 1920 := by simpa [PyData.showable] using h
    simp only [PyData.leavesShort, decide_eq_true_eq]
    have q := int_text_length_le (k := 1920) (by decide) h
    show (Str.ofString (toString i)).length ≤ 1921
    rw [ofString_length]
    exact q
  | .str x, h, _ => by
    have h : PyData.strOk x = true := by simpa [PyData.canLay0] using h
    simp only [PyData.leavesShort]
    unfold PyData.strOk at h
    rw [List.all_eq_true]
    intro c hc
    have := Array.all_eq_true_iff_forall_mem.mp h c (by simpa using hc)
    simp only [decide_eq_true_eq] at this ⊢
    omega
  | .list xs, h, k => by
    simp only [PyData.canLay0] at h
    simp only [PyData.showable] at k
    simp only [PyData.leavesShort]
    exact go h k
  | .tuple xs, h, k => by
    simp only [PyData.canLay0] at h
    simp only [PyData.showable] at k
    simp only [PyData.leavesShort]
    exact go h k
  | .dict _, h, _ => by simp [PyData.canLay0] at h
where
  go : ∀ {xs : List D}, PyData.canLayAll0 xs = true → PyData.showableAll xs = true → PyData.leavesShortAll 1921 xs = true
  | [], _, _ => rfl
  | x :: xs, h, k => by
    simp only [PyData.canLayAll0, Bool.and_eq_true] at h
    simp only [PyData.showableAll, Bool.and_eq_true] at k
    simp only [PyData.leavesShortAll, Bool.and_eq_true]
    exact ⟨leaves_of h.1 k.1, go h.2 k.2⟩
theorem reprOk_of {d : D} (h1 : d.canLay0 = true) (h2 : d.showable = true) (h3 : d.depth ≤ 64) (h4 : d.bulk ≤ 8000) : reprOk d = true := by
  have h := PyData.shown_le_bulk 1921 (by decide) d (leaves_of h1 h2)
  unfold reprOk
  have e : sizeLine = 16777216 := rfl
  simp only [h1, h2, Bool.true_and, Bool.and_eq_true, decide_eq_true_eq]
  exact ⟨h3, by rw [e]; omega⟩
theorem lg1920 {i : Int} (h : i.natAbs < 10 ^ 500) : i.natAbs.log2 < 1920 := lg_of (Nat.lt_trans h (by decide +kernel)) (by decide)
theorem ok_rat {a b : Int} (ha : a.natAbs < 10 ^ 500) (hb : b.natAbs < 10 ^ 500) : reprOk (rat a b) = true := by
  have h1 := lg1920 ha
  have h2 := lg1920 hb
  refine reprOk_of ?_ ?_ ?_ ?_
  · simp [PyData.canLay0, PyData.canLayAll0]
  · simp [PyData.showable, PyData.showableAll, h1, h2]
  · simp [PyData.depth, PyData.depthAll]
  · simp [PyData.bulk, PyData.bulkAll]
abbrev badL (w : Nat) : D := .list [.str "bad", .int (w : Nat), .bool true, .bool true, .bool false]
theorem ok_bad {w : Nat} (h : w ≤ 100000) : reprOk (badL w) = true := by
  have h1 : ((w : Nat) : Int).natAbs.log2 < 1920 := by
    rw [Int.natAbs_natCast]
    exact lg_of (Nat.lt_of_le_of_lt h (by decide +kernel)) (by decide)
  have h1 : w.log2 < 1920 := by simpa using h1
  have s : PyData.strOk "bad" = true := by decide +kernel
  have l : ("bad" : Str).cps.size ≤ 7995 := by decide +kernel
  refine reprOk_of ?_ ?_ ?_ ?_
  · simp [PyData.canLay0, PyData.canLayAll0, s]
  · simp [PyData.showable, PyData.showableAll, h1]
  · simp [PyData.depth, PyData.depthAll]
  · simp [PyData.bulk, PyData.bulkAll, l]
theorem heard_ok {z : Str} {d : D} (e : f_parse_ratio [.str z] = some (.ok (.val d), .none)) : f__law_heard [.str z] = some (.ok (.val d), .none) := by
  simp [f__law_heard, m__law_heard, mTry, e, mkFn, isListAt, slots, slot0, mSeq, mAsg, mRet, mIfS, mDrop, mB, bnd, Mi.ret, thaw, thawR, mVal, valR, mVar, mC, mBin, mUn, op1, op2, look, opN, lookAll, mCall, aT, aV, aNil, mStore, okSet, isT, asB, mTup, mLst, valsOf, mNx, outIo, retR, Md.isOwn, Md.isIo, Md.isLk, fI, mIf, mAnd, mOr, mNot, mAndV, mOrV, mChain, mPar, mPar3, mF, mFk, callF, callIo, putIo, freezeBy, flatD, flatAll, flatY, mayGive, notSlot, gath, mAsgG, gT, gsCons, gsNil, gIx, gN, setIx, mSetIx, ownAt, mApp, appTo, mIsi, isiD, isK, kinds, tyD, mSl, mPart, mNoPart, asInt, slD, cutD, lenD, absD, max2D, min2D, gcdD, lcmD, intD, listD, tupleD, allD, boolsOf, divmodD, addD, subD, mulD, fdivD, modD, powD, leD, gtD, geD, isD, isntD, negD, notD, revD, isNone, sizeLine, mMt, mtS, startsD, findD, fmtD, mJs, strD]
theorem heard_bad {z : Str} {w : Nat} (e : f_parse_ratio [.str z] = some (.exc (badR w), .none)) : f__law_heard [.str z] = some (.ok (.fresh [.str "bad", .int (w : Nat), .bool true, .bool true, .bool false]), .none) := by
  have lk : List.lookup ("position" : Str) [(("position" : Str), (PyData.int (w : Nat)))] = some (.int (w : Nat)) := by
    simp [List.lookup]
  simp [f__law_heard, m__law_heard, mTry, ct1, mFld, mIsE, lk, e, mkFn, isListAt, slots, slot0, mSeq, mAsg, mRet, mIfS, mDrop, mB, bnd, Mi.ret, thaw, thawR, mVal, valR, mVar, mC, mBin, mUn, op1, op2, look, opN, lookAll, mCall, aT, aV, aNil, mStore, okSet, isT, asB, mTup, mLst, valsOf, mNx, outIo, retR, Md.isOwn, Md.isIo, Md.isLk, fI, mIf, mAnd, mOr, mNot, mAndV, mOrV, mChain, mPar, mPar3, mF, mFk, callF, callIo, putIo, freezeBy, flatD, flatAll, flatY, mayGive, notSlot, gath, mAsgG, gT, gsCons, gsNil, gIx, gN, setIx, mSetIx, ownAt, mApp, appTo, mIsi, isiD, isK, kinds, tyD, mSl, mPart, mNoPart, asInt, slD, cutD, lenD, absD, max2D, min2D, gcdD, lcmD, intD, listD, tupleD, allD, boolsOf, divmodD, addD, subD, mulD, fdivD, modD, powD, leD, gtD, geD, isD, isntD, negD, notD, revD, isNone, sizeLine, mMt, mtS, startsD, findD, fmtD, mJs, strD]
theorem right_good {z : Str} {d : D} (h1 : f__law_read [.str z] = some (.ok (.val (.tuple [.none, d])), .none)) (h2 : f__law_heard [.str z] = some (.ok (.val d), .none)) (ok : reprOk d = true) : f__law_right [.str z] = some (.ok (.val (.bool true)), .none) := by
  have r : reprD [d] = some (.val (.str d.shown)) := by simp only [reprD, ok, if_true]
  generalize d.shown = x at r
  have q : eqsD (.str x) (.str x) = some (.val (.bool true)) := by simp [eqsD]
  simp [f__law_right, m__law_right, h1, h2, r, q, mkFn, isListAt, slots, slot0, mSeq, mAsg, mRet, mIfS, mDrop, mB, bnd, Mi.ret, thaw, thawR, mVal, valR, mVar, mC, mBin, mUn, op1, op2, look, opN, lookAll, mCall, aT, aV, aNil, mStore, okSet, isT, asB, mTup, mLst, valsOf, mNx, outIo, retR, Md.isOwn, Md.isIo, Md.isLk, fI, mIf, mAnd, mOr, mNot, mAndV, mOrV, mChain, mPar, mPar3, mF, mFk, callF, callIo, putIo, freezeBy, flatD, flatAll, flatY, mayGive, notSlot, gath, mAsgG, gT, gsCons, gsNil, gIx, gN, setIx, mSetIx, ownAt, mApp, appTo, mIsi, isiD, isK, kinds, tyD, mSl, mPart, mNoPart, asInt, slD, cutD, lenD, absD, max2D, min2D, gcdD, lcmD, intD, listD, tupleD, allD, boolsOf, divmodD, addD, subD, mulD, fdivD, modD, powD, leD, gtD, geD, isD, isntD, negD, notD, revD, isNone, sizeLine, mMt, mtS, startsD, findD, fmtD, mJs, strD]
theorem right_bad {z : Str} {w : Nat} (h1 : f__law_read [.str z] = some (.ok (.val (.tuple [.int (w : Nat), .none])), .none)) (h2 : f__law_heard [.str z] = some (.ok (.fresh [.str "bad", .int (w : Nat), .bool true, .bool true, .bool false]), .none)) (ok : reprOk (badL w) = true) : f__law_right [.str z] = some (.ok (.val (.bool true)), .none) := by
  have r : reprD [badL w] = some (.val (.str (badL w).shown)) := by simp only [reprD, ok, if_true]
  generalize (badL w).shown = x at r
  have q : eqsD (.str x) (.str x) = some (.val (.bool true)) := by simp [eqsD]
  simp [f__law_right, m__law_right, h1, h2, r, q, mkFn, isListAt, slots, slot0, mSeq, mAsg, mRet, mIfS, mDrop, mB, bnd, Mi.ret, thaw, thawR, mVal, valR, mVar, mC, mBin, mUn, op1, op2, look, opN, lookAll, mCall, aT, aV, aNil, mStore, okSet, isT, asB, mTup, mLst, valsOf, mNx, outIo, retR, Md.isOwn, Md.isIo, Md.isLk, fI, mIf, mAnd, mOr, mNot, mAndV, mOrV, mChain, mPar, mPar3, mF, mFk, callF, callIo, putIo, freezeBy, flatD, flatAll, flatY, mayGive, notSlot, gath, mAsgG, gT, gsCons, gsNil, gIx, gN, setIx, mSetIx, ownAt, mApp, appTo, mIsi, isiD, isK, kinds, tyD, mSl, mPart, mNoPart, asInt, slD, cutD, lenD, absD, max2D, min2D, gcdD, lcmD, intD, listD, tupleD, allD, boolsOf, divmodD, addD, subD, mulD, fdivD, modD, powD, leD, gtD, geD, isD, isntD, negD, notD, revD, isNone, sizeLine, mMt, mtS, startsD, findD, fmtD, mJs, strD]
theorem bh_le {cs : List Nat} {s w : Nat} {u : Bool} (h : bh cs s u = .inl w) : w = s := by
  unfold bh at h
  split at h
  · cases h; rfl
  · split at h
    · split at h
      · split at h <;> cases h; rfl
      · cases h
    · cases h; rfl
theorem pp_le {cs : List Nat} {w : Nat} (h : pp cs = .inl w) : w ≤ cs.length := by
  unfold pp at h
  split at h
  · rename_i w' hb
    cases h
    rw [bh_le hb]
    rcases st0_cases cs with ⟨r, e, h⟩ | ⟨h, _⟩
    · rw [h, e, List.length_cons]; omega
    · omega
  · rename_i e he
    have n := num_at he
    unfold tl1 at h
    split at h
    · cases h
    · rename_i c r hd
      have hl := drop_lt hd
      split at h
      · split at h
        · rename_i w' hb
          cases h
          rw [bh_le hb]
          omega
        · split at h
          · cases h; omega
          · cases h
      · cases h; omega
theorem big5 : (10 : Nat) ^ 401 < 10 ^ 500 := by decide +kernel
theorem ev_right {cs : List Nat} (hl : cs.length ≤ 100000) : f__law_right [.str (mk cs)] = some (.ok (.val (.bool true)), .none) := by
  have a := ev_read hl
  have b := ev_parse (cs := cs) (by rw [show sizeLine = 16777216 from rfl]; omega)
  cases hp : pp cs with
  | inl w =>
    rw [hp] at a b
    exact right_bad a (heard_bad b) (ok_bad (Nat.le_trans (pp_le hp) hl))
  | inr o => cases o with
    | none =>
      rw [hp] at a b
      dsimp only at a b
      have n := pp_none hp
      have v := n.val.2
      rw [List.take_length] at v
      obtain ⟨e1, e2⟩ := red_self (a := iv cs) (b := 1) ⟨by decide, by simp⟩
      have e : red (iv cs) 1 = rat (iv cs) 1 := by unfold red; rw [e1, e2]
      rw [e] at b
      exact right_good a (heard_ok b) (ok_rat (Nat.lt_trans v big5) (by decide +kernel))
    | some e =>
      rw [hp] at a b
      dsimp only at a b
      obtain ⟨na, ua, _⟩ := pp_some hp
      have v := na.val.2
      have u := ua.val.2.1
      refine right_good a (heard_ok b) (ok_rat (Nat.lt_of_le_of_lt (redN_le _ _) (Nat.lt_trans v big5)) (Nat.lt_of_le_of_lt (redU_le _ _) ?_))
      rw [Int.natAbs_natCast]
      exact Nat.lt_trans u big5
/-- of any text of at most 100,000 signs -/
theorem ev_right_str {z : Str} (h : z.length ≤ 100000) : f__law_right [.str z] = some (.ok (.val (.bool true)), .none) := by
  have e := ev_right (cs := z.cps.toList) (by rw [Array.length_toList]; exact h)
  rw [mk_of] at e
  exact e
end K12

namespace K12
open PySem L2 Evl PySem.Spec Mi PySem.NumText TL
/-! ### numbers as text -/
def sgn (i : Int) : List Nat := if i < 0 then [45] else []
def numI (i : Int) : List Nat := sgn i ++ numL i.natAbs
abbrev S (i : Int) : Str := (toString i : String)
theorem cps_neg (n : Nat) : (Str.ofString (toString (Int.negSucc n))).cps.toList = 45 :: numL (n + 1) := by
  rw [PyProof.Rows.signs_ofString]
  show ("-" ++ Nat.repr (n + 1)).toList.map Char.toNat = _
  rw [String.toList_append, List.map_append, Nat.toList_repr]
  rfl
theorem cps_int (i : Int) : (S i).cps.toList = numI i := by
  unfold S numI sgn
  cases i with
  | ofNat n =>
    have h : ¬ (Int.ofNat n < 0) := by
      have : (0 : Int) ≤ Int.ofNat n := Int.natCast_nonneg n
      omega
    rw [if_neg h]
    exact tl_num n
  | negSucc n =>
    rw [if_pos (Int.negSucc_lt_zero n)]
    exact cps_neg n
theorem S_mk (i : Int) : S i = mk (numI i) := by
  rw [← cps_int, mk_of]
theorem numL_head (n : Nat) (h : 0 < n) : ∃ c r, numL n = c :: r ∧ c ≠ 48 ∧ dig c = true := by
  induction n using Nat.strongRecOn with
  | _ n ih =>
    by_cases k : n < 10
    · exact ⟨48 + n, [], TL.numL_lt k, by omega, (dig_iff _).mpr (by omega)⟩
    · obtain ⟨c, r, e, h1, h2⟩ := ih (n / 10) (by omega) (by omega)
      refine ⟨c, r ++ [48 + n % 10], ?_, h1, h2⟩
      rw [numL_step (by omega), e]
      rfl
theorem numL_zero : numL 0 = [48] := TL.numL_lt (by decide)
def Stop (rest : List Nat) : Prop := ∀ c r, rest = c :: r → dig c = false
theorem dl_app : ∀ (ds rest : List Nat) (k : Nat), AllDigits ds → ds.length ≤ k → Stop rest → dl (ds ++ rest) k = ds.length
  | [], rest, k, _, _, hs => by
    cases rest with
    | nil => rfl
    | cons c r =>
      cases k with
      | zero => rfl
      | succ k =>
        show (if dig c = true then dl r k + 1 else 0) = 0
        rw [hs c r rfl]
        rfl
  | d :: ds, rest, k, hd, hk, hs => by
    obtain ⟨k, rfl⟩ : ∃ m, k = m + 1 := ⟨k - 1, by rw [List.length_cons] at hk; omega⟩
    show (if dig d = true then dl (ds ++ rest) k + 1 else 0) = _
    rw [(dig_iff d).mpr hd.head, if_pos rfl, dl_app ds rest k hd.tail (by rw [List.length_cons] at hk; omega) hs]
    rfl
theorem bh_num {cs pre rest : List Nat} {n : Nat} {u : Bool} (e : cs = pre ++ (numL n ++ rest)) (hn : u = true → 0 < n) (hl : (numL n).length ≤ 400) (hs : Stop rest) : bh cs pre.length u = .inr (pre.length + (numL n).length) := by
  unfold bh
  rw [e, List.drop_left]
  by_cases h0 : n = 0
  · subst h0
    rw [numL_zero]
    dsimp only [List.cons_append, List.nil_append]
    have : ¬ u = true := fun q => absurd (hn q) (by decide)
    rw [if_pos (by decide), if_pos rfl, if_neg this]
    rfl
  · obtain ⟨c, r, e1, c48, dg⟩ := numL_head n (by omega)
    have hd := dl_app (numL n) rest 400 (numL_digits n) hl hs
    rw [e1] at hd ⊢
    rw [List.cons_append] at hd ⊢
    dsimp only
    rw [if_pos dg, if_neg c48, hd]
theorem st0_num (i : Int) (rest : List Nat) : st0 (numI i ++ rest) = (sgn i).length := by
  unfold numI sgn
  by_cases h : i < 0
  · rw [if_pos h]; rfl
  · rw [if_neg h]
    rcases st0_cases ([] ++ numL i.natAbs ++ rest) with ⟨r, e, _⟩ | ⟨e, _⟩
    · have ne := numL_ne i.natAbs
      have dg := numL_digits i.natAbs
      cases hx : numL i.natAbs with
      | nil => exact absurd hx ne
      | cons c r' =>
        rw [hx] at e dg
        have e : c :: (r' ++ rest) = 45 :: r := e
        have : c = 45 := by cases e; rfl
        have := dg.head
        omega
    · rw [e]; rfl
theorem iv_num (i : Int) : iv (numI i) = i := by
  unfold numI sgn
  by_cases h : i < 0
  · rw [if_pos h]
    show -((digitsVal (numL i.natAbs) : Nat) : Int) = i
    rw [numL_val]
    omega
  · rw [if_neg h]
    have nm : ¬ ∃ r, [] ++ numL i.natAbs = 45 :: r := by
      rintro ⟨r, e⟩
      have dg := numL_digits i.natAbs
      rw [List.nil_append] at e
      rw [e] at dg
      have := dg.head
      omega
    rw [(no_minus nm).2, List.nil_append, numL_val]
    omega
theorem pp_int {i : Int} (h : (numL i.natAbs).length ≤ 400) : pp (numI i) = .inr none := by
  have b := bh_num (cs := numI i) (pre := sgn i) (rest := []) (n := i.natAbs) (u := false) (by rw [List.append_nil]; rfl) (by simp) h (fun c r e => by cases e)
  have s := st0_num i []
  rw [List.append_nil] at s
  unfold pp
  rw [s, b]
  dsimp only
  unfold tl1
  have hd : (numI i).drop ((sgn i).length + (numL i.natAbs).length) = [] := by
    refine List.drop_eq_nil_of_le ?_
    unfold numI
    rw [List.length_append]
    exact Nat.le_refl _
  rw [hd]
theorem pp_two {i : Int} {u : Nat} (h : (numL i.natAbs).length ≤ 400) (hu : (numL u).length ≤ 400) (u0 : 0 < u) :
    pp (numI i ++ 47 :: numL u) = .inr (some (numI i).length) := by
  have st : Stop (47 :: numL u) := fun c r e => by cases e; decide
  have b := bh_num (cs := numI i ++ 47 :: numL u) (pre := sgn i) (rest := 47 :: numL u) (n := i.natAbs) (u := false) (by unfold numI; rw [List.append_assoc]) (by simp) h st
  have s := st0_num i (47 :: numL u)
  unfold pp
  rw [s, b]
  dsimp only
  have el : (sgn i).length + (numL i.natAbs).length = (numI i).length := by unfold numI; rw [List.length_append]
  rw [el]
  unfold tl1
  rw [List.drop_left]
  dsimp only
  rw [if_pos rfl]
  have b2 := bh_num (cs := numI i ++ 47 :: numL u) (pre := numI i ++ [47]) (rest := []) (n := u) (u := true) (by simp) (fun _ => u0) hu (fun c r e => by cases e)
  have e47 : List.length (numI i ++ [47]) = (numI i).length + 1 := by simp
  rw [e47] at b2
  rw [b2]
  dsimp only
  rw [if_neg (by rw [List.length_append, List.length_cons]; omega)]
theorem parse_int {i : Int} (h : (numL i.natAbs).length ≤ 400) : f_parse_ratio [.str (S i)] = some (.ok (.val (rat i 1)), .none) := by
  have lI : (numI i).length ≤ 401 := by
    unfold numI sgn
    rw [List.length_append]
    split <;> simp <;> omega
  have b := ev_parse (cs := numI i) (by rw [show sizeLine = 16777216 from rfl]; omega)
  rw [pp_int h] at b
  dsimp only at b
  rw [iv_num] at b
  obtain ⟨e1, e2⟩ := red_self (a := i) (b := 1) ⟨by decide, by simp⟩
  have e : red i 1 = rat i 1 := by unfold red; rw [e1, e2]
  rw [S_mk, b, e]
theorem mk_append (a b : List Nat) : mk a ++ mk b = mk (a ++ b) := by
  show (⟨a.toArray ++ b.toArray⟩ : Str) = ⟨(a ++ b).toArray⟩
  rw [List.append_toArray]
def two (a b : Int) : Str := S a ++ "/" ++ S b
theorem two_mk {a b : Int} (hb : 0 < b) : two a b = mk (numI a ++ 47 :: numL b.natAbs) := by
  unfold two
  have e : numI b = numL b.natAbs := by unfold numI sgn; rw [if_neg (by omega)]; rfl
  rw [S_mk, S_mk, st_slash, show (⟨#[47]⟩ : Str) = mk [47] from rfl, mk_append, mk_append, e, List.append_assoc]
  rfl
theorem numI_len {a : Int} (h : (numL a.natAbs).length ≤ 400) : (numI a).length ≤ 401 := by
  unfold numI sgn
  rw [List.length_append]
  split <;> simp <;> omega
theorem two_len {a b : Int} (hb : 0 < b) (h : (numL a.natAbs).length ≤ 400) (h2 : (numL b.natAbs).length ≤ 400) : (two a b).length ≤ 802 := by
  have := numI_len h
  rw [two_mk hb, mk_len, List.length_append, List.length_cons]
  omega
theorem parse_two {a b : Int} (hb : 0 < b) (g : Int.gcd a b = 1) (h : (numL a.natAbs).length ≤ 400) (h2 : (numL b.natAbs).length ≤ 400) : f_parse_ratio [.str (two a b)] = some (.ok (.val (rat a b)), .none) := by
  have lI := numI_len h
  have b1 := ev_parse (cs := numI a ++ 47 :: numL b.natAbs) (by rw [show sizeLine = 16777216 from rfl, List.length_append, List.length_cons]; omega)
  rw [pp_two h h2 (by omega)] at b1
  dsimp only at b1
  have d1 : (numI a ++ 47 :: numL b.natAbs).drop ((numI a).length + 1) = numL b.natAbs := drop_one (c := 47) (List.drop_left ..)
  rw [List.take_left, iv_num, d1, numL_val, show ((b.natAbs : Nat) : Int) = b by omega] at b1
  obtain ⟨e1, e2⟩ := red_self (a := a) (b := b) ⟨hb, g⟩
  have e : red a b = rat a b := by unfold red; rw [e1, e2]
  rw [two_mk hb, b1, e]
theorem numL_small {i : Int} (h : i.natAbs < 10 ^ 200) : (numL i.natAbs).length ≤ 400 := Nat.le_trans (numL_len (k := 200) (by decide) h) (by decide)
end K12

namespace K12
open PySem L2 Evl PySem.Spec Mi PySem.NumText TL
theorem bey_eq : bey = ((10 ^ 400 : Nat) : Int) := by decide +kernel
theorem isR_of {a b : Int} (h : Low a b) (ha : a.natAbs < 10 ^ 60) (hb : b.natAbs < 10 ^ 60) : isR a b = true := by
  have k : (10 : Nat) ^ 60 < 10 ^ 400 := by decide +kernel
  unfold isR
  rw [bey_eq]
  generalize (10 : Nat) ^ 400 = B at k
  generalize (10 : Nat) ^ 60 = C at k ha hb
  have h1 := h.1
  have h2 := h.2
  simp only [Bool.and_eq_true, decide_eq_true_eq]
  exact ⟨⟨⟨h1, by omega⟩, by omega, by omega⟩, h2⟩
theorem v_want {a b : Int} (h : isR a b = true) : f_want_ratio [rat a b] = some (.ok (.val (rat a b)), .none) := by
  have e := ev_is_ratio a b
  rw [h] at e
  simp [f_want_ratio, m_want_ratio, e, mkFn, isListAt, slots, slot0, mSeq, mAsg, mRet, mIfS, mDrop, mB, bnd, Mi.ret, thaw, thawR, mVal, valR, mVar, mC, mBin, mUn, op1, op2, look, opN, lookAll, mCall, aT, aV, aNil, mStore, okSet, isT, asB, mTup, mLst, valsOf, mNx, outIo, retR, Md.isOwn, Md.isIo, Md.isLk, fI, mIf, mAnd, mOr, mNot, mAndV, mOrV, mChain, mPar, mPar3, mF, mFk, callF, callIo, putIo, freezeBy, flatD, flatAll, flatY, mayGive, notSlot, gath, mAsgG, gT, gsCons, gsNil, gIx, gN, setIx, mSetIx, ownAt, mApp, appTo, mIsi, isiD, isK, kinds, tyD, mSl, mPart, mNoPart, asInt, slD, cutD, lenD, absD, max2D, min2D, gcdD, lcmD, intD, listD, tupleD, allD, boolsOf, divmodD, addD, subD, mulD, fdivD, modD, powD, ltD, leD, gtD, geD, isD, isntD, negD, notD, ixD, revD, atI, ixN, isNone, sizeLine, eqsD, nesD, eqD, neD, inD, inT, inL, mMt, mtS, startsD, findD, fmtD, mJs, strD]
theorem S_len {a : Int} (h : (numL a.natAbs).length ≤ 400) : (S a).length ≤ 401 := by
  rw [S_mk, mk_len]
  exact numI_len h
theorem add_str {x y : Str} (h : x.length + y.length ≤ sizeLine) : addD (.str x) (.str y) = some (.val (.str (x ++ y))) := by
  simp only [addD]
  rw [if_pos h]
theorem eqs_int (a b : Int) : eqsD (.int a) (.int b) = some (.val (.bool (decide (a = b)))) := by
  simp only [eqsD, eqD, shaped_int, Bool.and_self, if_true, eqv_int]
theorem sl_len : ("/" : Str).length = 1 := by decide +kernel
theorem ten60 : (10 : Nat) ^ 60 < 10 ^ 200 := by decide +kernel
theorem ten500 : (10 : Nat) ^ 60 < 10 ^ 500 := by decide +kernel
def txt (a b : Int) : Str := if b = 1 then S a else two a b
theorem str_int {a : Int} (h : a.natAbs.log2 < 1920) : strD [.int a] = some (.val (.str (S a))) := by
  simp only [strD]
  rw [if_pos h]
theorem fmt_int {a : Int} (h : a.natAbs.log2 < 1920) : fmtD (.int a) = some (.val (.str (S a))) := by
  simp only [fmtD]
  rw [if_pos h]
theorem ev_rtext {a b : Int} (hl : Low a b) (ha : a.natAbs < 10 ^ 60) (hb : b.natAbs < 10 ^ 60) : f_ratio_text [rat a b] = some (.ok (.val (.str (txt a b))), .none) := by
  have w := v_want (isR_of hl ha hb)
  have sa := str_int (lg1920 (Nat.lt_trans ha ten500))
  have fa := fmt_int (lg1920 (Nat.lt_trans ha ten500))
  have fb := fmt_int (lg1920 (Nat.lt_trans hb ten500))
  have la := S_len (numL_small (Nat.lt_trans ha ten60))
  have lb := S_len (numL_small (Nat.lt_trans hb ten60))
  have q := eqs_int b 1
  have j1 : (Str.empty ++ S a).length ≤ 16777216 := by rw [Str.empty_append]; omega
  have j2 : (Str.empty ++ S a ++ "/").length ≤ 16777216 := by rw [Str.empty_append, Str.length_append, sl_len]; omega
  have j3 : (Str.empty ++ S a ++ "/" ++ S b).length ≤ 16777216 := by rw [Str.empty_append, Str.length_append, Str.length_append, sl_len]; omega
  have jt : Str.empty ++ S a ++ "/" ++ S b = two a b := by rw [Str.empty_append]; rfl
  unfold txt
  generalize two a b = t at jt ⊢
  generalize S a = x at sa fa la j1 j2 j3 jt ⊢
  generalize S b = y at fb lb j3 jt
  by_cases h1 : b = 1
  · rw [decide_eq_true h1] at q
    rw [if_pos h1]
    clear h1
    simp [f_ratio_text, m_ratio_text, w, q, sa, mkFn, isListAt, slots, slot0, mSeq, mAsg, mRet, mIfS, mDrop, mB, bnd, Mi.ret, thaw, thawR, mVal, valR, mVar, mC, mBin, mUn, op1, op2, look, opN, lookAll, mCall, aT, aV, aNil, mStore, okSet, isT, asB, mTup, mLst, valsOf, mNx, outIo, retR, Md.isOwn, Md.isIo, Md.isLk, fI, mIf, mAnd, mOr, mNot, mAndV, mOrV, mChain, mPar, mPar3, mF, mFk, callF, callIo, putIo, freezeBy, flatD, flatAll, flatY, mayGive, notSlot, gath, mAsgG, gT, gsCons, gsNil, gIx, gN, setIx, mSetIx, ownAt, mApp, appTo, mIsi, isiD, isK, kinds, tyD, mSl, mPart, mNoPart, asInt, slD, cutD, lenD, absD, max2D, min2D, gcdD, lcmD, intD, listD, tupleD, allD, boolsOf, divmodD, addD, subD, mulD, fdivD, modD, powD, leD, gtD, geD, isD, isntD, negD, notD, revD, isNone, sizeLine, mMt, mtS, startsD, findD, fmtD, mJs, strD, ixD, atI, ixN, -strD]
  · rw [decide_eq_false h1] at q
    rw [if_neg h1]
    clear h1
    have j4 := j3
    rw [jt] at j4
    simp [f_ratio_text, m_ratio_text, w, q, fa, fb, j4, j1, j2, j3, jt, mkFn, isListAt, slots, slot0, mSeq, mAsg, mRet, mIfS, mDrop, mB, bnd, Mi.ret, thaw, thawR, mVal, valR, mVar, mC, mBin, mUn, op1, op2, look, opN, lookAll, mCall, aT, aV, aNil, mStore, okSet, isT, asB, mTup, mLst, valsOf, mNx, outIo, retR, Md.isOwn, Md.isIo, Md.isLk, fI, mIf, mAnd, mOr, mNot, mAndV, mOrV, mChain, mPar, mPar3, mF, mFk, callF, callIo, putIo, freezeBy, flatD, flatAll, flatY, mayGive, notSlot, gath, mAsgG, gT, gsCons, gsNil, gIx, gN, setIx, mSetIx, ownAt, mApp, appTo, mIsi, isiD, isK, kinds, tyD, mSl, mPart, mNoPart, asInt, slD, cutD, lenD, absD, max2D, min2D, gcdD, lcmD, intD, listD, tupleD, allD, boolsOf, divmodD, addD, subD, mulD, fdivD, modD, powD, leD, gtD, geD, isD, isntD, negD, notD, revD, isNone, sizeLine, mMt, mtS, startsD, findD, fmtD, mJs, strD, ixD, atI, ixN, -strD, -fmtD]
theorem ev_ltext {a b : Int} (ha : a.natAbs < 10 ^ 60) (hb : b.natAbs < 10 ^ 60) : f__law_text [rat a b] = some (.ok (.val (.str (txt a b))), .none) := by
  have sa := str_int (lg1920 (Nat.lt_trans ha ten500))
  have sb := str_int (lg1920 (Nat.lt_trans hb ten500))
  have la := S_len (numL_small (Nat.lt_trans ha ten60))
  have lb := S_len (numL_small (Nat.lt_trans hb ten60))
  have q := eqs_int b 1
  have a1 : addD (.str (S a)) (.str "/") = _ := add_str (by rw [sl_len, show sizeLine = 16777216 from rfl]; omega)
  have a2 : addD (.str (S a ++ "/")) (.str (S b)) = some (.val (.str (two a b))) := add_str (by rw [Str.length_append, sl_len, show sizeLine = 16777216 from rfl]; omega)
  unfold txt
  generalize two a b = t at a2 ⊢
  generalize S a ++ "/" = u at a1 a2
  generalize S a = x at sa la a1 ⊢
  generalize S b = y at sb lb a2
  by_cases h1 : b = 1
  · rw [decide_eq_true h1] at q
    rw [if_pos h1]
    clear h1
    simp [f__law_text, m__law_text, q, sa, mkFn, isListAt, slots, slot0, mSeq, mAsg, mRet, mIfS, mDrop, mB, bnd, Mi.ret, thaw, thawR, mVal, valR, mVar, mC, mBin, mUn, op1, op2, look, opN, lookAll, mCall, aT, aV, aNil, mStore, okSet, isT, asB, mTup, mLst, valsOf, mNx, outIo, retR, Md.isOwn, Md.isIo, Md.isLk, fI, mIf, mAnd, mOr, mNot, mAndV, mOrV, mChain, mPar, mPar3, mF, mFk, callF, callIo, putIo, freezeBy, flatD, flatAll, flatY, mayGive, notSlot, gath, mAsgG, gT, gsCons, gsNil, gIx, gN, setIx, mSetIx, ownAt, mApp, appTo, mIsi, isiD, isK, kinds, tyD, mSl, mPart, mNoPart, asInt, slD, cutD, lenD, absD, max2D, min2D, gcdD, lcmD, intD, listD, tupleD, allD, boolsOf, divmodD, addD, subD, mulD, fdivD, modD, powD, leD, gtD, geD, isD, isntD, negD, notD, revD, isNone, sizeLine, mMt, mtS, startsD, findD, fmtD, mJs, strD, ixD, atI, ixN, -strD]
  · rw [decide_eq_false h1] at q
    rw [if_neg h1]
    clear h1
    simp [f__law_text, m__law_text, q, sa, sb, a1, a2, mkFn, isListAt, slots, slot0, mSeq, mAsg, mRet, mIfS, mDrop, mB, bnd, Mi.ret, thaw, thawR, mVal, valR, mVar, mC, mBin, mUn, op1, op2, look, opN, lookAll, mCall, aT, aV, aNil, mStore, okSet, isT, asB, mTup, mLst, valsOf, mNx, outIo, retR, Md.isOwn, Md.isIo, Md.isLk, fI, mIf, mAnd, mOr, mNot, mAndV, mOrV, mChain, mPar, mPar3, mF, mFk, callF, callIo, putIo, freezeBy, flatD, flatAll, flatY, mayGive, notSlot, gath, mAsgG, gT, gsCons, gsNil, gIx, gN, setIx, mSetIx, ownAt, mApp, appTo, mIsi, isiD, isK, kinds, tyD, mSl, mPart, mNoPart, asInt, slD, cutD, lenD, absD, max2D, min2D, gcdD, lcmD, intD, listD, tupleD, allD, boolsOf, divmodD, addD, subD, mulD, fdivD, modD, powD, leD, gtD, geD, isD, isntD, negD, notD, revD, isNone, sizeLine, mMt, mtS, startsD, findD, fmtD, mJs, strD, ixD, atI, ixN, -strD, -addD]
theorem txt_parse {a b : Int} (hl : Low a b) (ha : a.natAbs < 10 ^ 60) (hb : b.natAbs < 10 ^ 60) : f_parse_ratio [.str (txt a b)] = some (.ok (.val (rat a b)), .none) := by
  have la := numL_small (Nat.lt_trans ha ten60)
  have lb := numL_small (Nat.lt_trans hb ten60)
  unfold txt
  by_cases h1 : b = 1
  · rw [if_pos h1, h1]
    exact parse_int la
  · rw [if_neg h1]
    exact parse_two hl.1 hl.2 la lb
theorem txt_len {a b : Int} (hb0 : 0 < b) (ha : a.natAbs < 10 ^ 60) (hb : b.natAbs < 10 ^ 60) : (txt a b).length ≤ 802 := by
  have la := numL_small (Nat.lt_trans ha ten60)
  have lb := numL_small (Nat.lt_trans hb ten60)
  unfold txt
  split
  · exact Nat.le_trans (S_len la) (by decide)
  · exact two_len hb0 la lb
theorem strOk_txt (cs : List Nat) (h : ∀ c ∈ cs, c < 128) : PyData.strOk (mk cs) = true := by
  unfold PyData.strOk
  rw [Array.all_eq_true_iff_forall_mem]
  intro c hc
  have := h c (by simpa [mk] using hc)
  simp
  omega
theorem numI_small {i : Int} {c : Nat} (h : c ∈ numI i) : c < 128 := by
  unfold numI sgn at h
  rcases List.mem_append.mp h with h | h
  · split at h
    · simp at h; omega
    · cases h
  · have := numL_digits _ c h
    omega
theorem ok_txt {a b : Int} (hb0 : 0 < b) (ha : a.natAbs < 10 ^ 60) (hb : b.natAbs < 10 ^ 60) : reprOk (.str (txt a b)) = true := by
  have hl := txt_len hb0 ha hb
  have hs : PyData.strOk (txt a b) = true := by
    unfold txt
    split
    · rw [S_mk]; exact strOk_txt _ fun c hc => numI_small hc
    · rw [two_mk hb0]
      refine strOk_txt _ fun c hc => ?_
      rcases List.mem_append.mp hc with hc | hc
      · exact numI_small hc
      · rcases List.mem_cons.mp hc with hc | hc
        · omega
        · have := numL_digits _ c hc
          omega
  generalize txt a b = z at hl hs
  refine reprOk_of ?_ ?_ ?_ ?_
  · simpa [PyData.canLay0] using hs
  · simp [PyData.showable]
  · simp [PyData.depth]
  · simp only [PyData.bulk]
    have : z.cps.size = z.length := rfl
    omega
end K12

namespace K12
open PySem L2 Evl PySem.Spec Mi PySem.NumText TL
/-! ### bent texts -/
theorem cut_len (z : Str) (a b : Option Int) : (cutS z a b).length ≤ z.length := by
  unfold cutS
  show (List.toArray _).size ≤ _
  rw [List.size_toArray, List.length_take, List.length_drop, Array.length_toList]
  show min _ (z.length - _) ≤ z.length
  omega
abbrev signs : List D := [.str "0", .str "1", .str "9", .str "-", .str "/", .str " ", .str "+", .str "a", .str ".", .str "_", .str "\n", .str "5", .str "~"]
theorem sign_len {x : D} (h : x ∈ signs) : ∃ s : Str, x = .str s ∧ s.length ≤ 1 := by
  simp only [signs, List.mem_cons, List.not_mem_nil, or_false] at h
  rcases h with rfl | rfl | rfl | rfl | rfl | rfl | rfl | rfl | rfl | rfl | rfl | rfl | rfl <;> exact ⟨_, rfl, by decide +kernel⟩
def rX (x y : Int) (z : Str) (s2 s3 s4 : Option Slot) : R := [some ⟨.io, .list [.int x, .int y]⟩, some ⟨.val, .str z⟩, s2, s3, s4]
abbrev iS (i : Int) : Option Slot := some ⟨.val, .int i⟩
theorem bent_end {x y r k : Int} {z s : Str} {n : Nat} (hz : z.length ≤ n) (hn : n ≤ 10000) (hs : s.length ≤ 1) (k0 : 0 ≤ k) (k1 : k < 6) : ∃ w : Str, w.length ≤ 3 * n + 3 ∧
    ((mSeq (mIfS (mB (mBin eqsD (mVar 3) (mC (.int 0)))) (mRet (mBin addD (mSl (mVar 1) mNoPart (mPart (mVar 2))) (mSl (mVar 1) (mPart (mBin addD (mVar 2) (mC (.int 1)))) mNoPart))) mNx) (mSeq (mIfS (mB (mBin eqsD (mVar 3) (mC (.int 1)))) (mRet (mBin addD (mBin addD (mSl (mVar 1) mNoPart (mPart (mVar 2))) (mVar 4)) (mSl (mVar 1) (mPart (mVar 2)) mNoPart))) mNx) (mSeq (mIfS (mB (mBin eqsD (mVar 3) (mC (.int 2)))) (mRet (mSl (mVar 1) mNoPart (mPart (mVar 2)))) mNx) (mSeq (mIfS (mB (mBin eqsD (mVar 3) (mC (.int 3)))) (mRet (mBin addD (mBin addD (mSl (mVar 1) mNoPart (mPart (mVar 2))) (mSl (mVar 1) (mPart (mVar 2)) (mPart (mBin addD (mVar 2) (mC (.int 1)))))) (mSl (mVar 1) (mPart (mVar 2)) mNoPart))) mNx) (mRet (mIf (mB (mBin eqsD (mVar 3) (mC (.int 4)))) (mBin addD (mBin addD (mSl (mVar 1) mNoPart (mPart (mVar 2))) (mVar 4)) (mSl (mVar 1) (mPart (mBin addD (mVar 2) (mC (.int 1)))) mNoPart)) (mBin addD (mVar 1) (mVar 4))))))))) (rX x y z (iS r) (iS k) (some ⟨.val, .str s⟩)) = some (.ok (.rt (.val (.str w))), rX x y z (iS r) (iS k) (some ⟨.val, .str s⟩)) := by
  have big : sizeLine = 16777216 := rfl
  have hz2 : z.length ≤ sizeLine := by omega
  have c1 : slD none (some r) (.str z) = some (.val (.str (cutS z none (some r)))) := by simp only [slD, hz2, if_true]
  have c2 : slD (some (r + 1)) none (.str z) = some (.val (.str (cutS z (some (r + 1)) none))) := by simp only [slD, hz2, if_true]
  have c3 : slD (some r) none (.str z) = some (.val (.str (cutS z (some r) none))) := by simp only [slD, hz2, if_true]
  have c4 : slD (some r) (some (r + 1)) (.str z) = some (.val (.str (cutS z (some r) (some (r + 1))))) := by simp only [slD, hz2, if_true]
  have l1 := cut_len z none (some r)
  have l2 := cut_len z (some (r + 1)) none
  have l3 := cut_len z (some r) none
  have l4 := cut_len z (some r) (some (r + 1))
  generalize cutS z none (some r) = A at c1 l1
  generalize cutS z (some (r + 1)) none = B at c2 l2
  generalize cutS z (some r) none = C at c3 l3
  generalize cutS z (some r) (some (r + 1)) = D' at c4 l4
  have d1 : addD (.str A) (.str B) = _ := add_str (by omega)
  have d2 : addD (.str A) (.str s) = _ := add_str (by omega)
  have d3 : addD (.str (A ++ s)) (.str C) = _ := add_str (by rw [Str.length_append]; omega)
  have d4 : addD (.str A) (.str D') = _ := add_str (by omega)
  have d5 : addD (.str (A ++ D')) (.str C) = _ := add_str (by rw [Str.length_append]; omega)
  have d6 : addD (.str (A ++ s)) (.str B) = _ := add_str (by rw [Str.length_append]; omega)
  have d7 : addD (.str z) (.str s) = _ := add_str (by omega)
  have q0 := eqs_int k 0
  have q1 := eqs_int k 1
  have q2 := eqs_int k 2
  have q3 := eqs_int k 3
  have q4 := eqs_int k 4
  have hk : k = 0 ∨ k = 1 ∨ k = 2 ∨ k = 3 ∨ k = 4 ∨ k = 5 := by omega
  rcases hk with rfl | rfl | rfl | rfl | rfl | rfl
  · refine ⟨A ++ B, by rw [Str.length_append]; omega, ?_⟩
    simp at q0
    simp [rX, iS, c1, c2, d1, q0, mkFn, isListAt, slots, slot0, mSeq, mAsg, mRet, mIfS, mDrop, mB, bnd, Mi.ret, thaw, thawR, mVal, valR, mVar, mC, mBin, mUn, op1, op2, look, opN, lookAll, mCall, aT, aV, aNil, mStore, okSet, isT, asB, mTup, mLst, valsOf, mNx, outIo, retR, Md.isOwn, Md.isIo, Md.isLk, fI, mIf, mAnd, mOr, mNot, mAndV, mOrV, mChain, mPar, mPar3, mF, mFk, callF, callIo, putIo, freezeBy, flatD, flatAll, flatY, mayGive, notSlot, gath, mAsgG, gT, gsCons, gsNil, gIx, gN, setIx, mSetIx, ownAt, mApp, appTo, mIsi, isiD, isK, kinds, tyD, mSl, mPart, mNoPart, asInt, slD, cutD, lenD, absD, max2D, min2D, gcdD, lcmD, intD, listD, tupleD, allD, boolsOf, divmodD, addD, subD, mulD, fdivD, modD, powD, leD, gtD, geD, isD, isntD, negD, notD, revD, isNone, sizeLine, mMt, mtS, startsD, findD, fmtD, mJs, strD, -slD, -addD, -cutD]
  · refine ⟨A ++ s ++ C, by rw [Str.length_append, Str.length_append]; omega, ?_⟩
    simp at q0 q1
    simp [rX, iS, c1, c3, d2, d3, q0, q1, mkFn, isListAt, slots, slot0, mSeq, mAsg, mRet, mIfS, mDrop, mB, bnd, Mi.ret, thaw, thawR, mVal, valR, mVar, mC, mBin, mUn, op1, op2, look, opN, lookAll, mCall, aT, aV, aNil, mStore, okSet, isT, asB, mTup, mLst, valsOf, mNx, outIo, retR, Md.isOwn, Md.isIo, Md.isLk, fI, mIf, mAnd, mOr, mNot, mAndV, mOrV, mChain, mPar, mPar3, mF, mFk, callF, callIo, putIo, freezeBy, flatD, flatAll, flatY, mayGive, notSlot, gath, mAsgG, gT, gsCons, gsNil, gIx, gN, setIx, mSetIx, ownAt, mApp, appTo, mIsi, isiD, isK, kinds, tyD, mSl, mPart, mNoPart, asInt, slD, cutD, lenD, absD, max2D, min2D, gcdD, lcmD, intD, listD, tupleD, allD, boolsOf, divmodD, addD, subD, mulD, fdivD, modD, powD, leD, gtD, geD, isD, isntD, negD, notD, revD, isNone, sizeLine, mMt, mtS, startsD, findD, fmtD, mJs, strD, -slD, -addD, -cutD]
  · refine ⟨A, by omega, ?_⟩
    simp at q0 q1 q2
    simp [rX, iS, c1, q0, q1, q2, mkFn, isListAt, slots, slot0, mSeq, mAsg, mRet, mIfS, mDrop, mB, bnd, Mi.ret, thaw, thawR, mVal, valR, mVar, mC, mBin, mUn, op1, op2, look, opN, lookAll, mCall, aT, aV, aNil, mStore, okSet, isT, asB, mTup, mLst, valsOf, mNx, outIo, retR, Md.isOwn, Md.isIo, Md.isLk, fI, mIf, mAnd, mOr, mNot, mAndV, mOrV, mChain, mPar, mPar3, mF, mFk, callF, callIo, putIo, freezeBy, flatD, flatAll, flatY, mayGive, notSlot, gath, mAsgG, gT, gsCons, gsNil, gIx, gN, setIx, mSetIx, ownAt, mApp, appTo, mIsi, isiD, isK, kinds, tyD, mSl, mPart, mNoPart, asInt, slD, cutD, lenD, absD, max2D, min2D, gcdD, lcmD, intD, listD, tupleD, allD, boolsOf, divmodD, addD, subD, mulD, fdivD, modD, powD, leD, gtD, geD, isD, isntD, negD, notD, revD, isNone, sizeLine, mMt, mtS, startsD, findD, fmtD, mJs, strD, -slD, -addD, -cutD]
  · refine ⟨A ++ D' ++ C, by rw [Str.length_append, Str.length_append]; omega, ?_⟩
    simp at q0 q1 q2 q3
    simp [rX, iS, c1, c3, c4, d4, d5, q0, q1, q2, q3, mkFn, isListAt, slots, slot0, mSeq, mAsg, mRet, mIfS, mDrop, mB, bnd, Mi.ret, thaw, thawR, mVal, valR, mVar, mC, mBin, mUn, op1, op2, look, opN, lookAll, mCall, aT, aV, aNil, mStore, okSet, isT, asB, mTup, mLst, valsOf, mNx, outIo, retR, Md.isOwn, Md.isIo, Md.isLk, fI, mIf, mAnd, mOr, mNot, mAndV, mOrV, mChain, mPar, mPar3, mF, mFk, callF, callIo, putIo, freezeBy, flatD, flatAll, flatY, mayGive, notSlot, gath, mAsgG, gT, gsCons, gsNil, gIx, gN, setIx, mSetIx, ownAt, mApp, appTo, mIsi, isiD, isK, kinds, tyD, mSl, mPart, mNoPart, asInt, slD, cutD, lenD, absD, max2D, min2D, gcdD, lcmD, intD, listD, tupleD, allD, boolsOf, divmodD, addD, subD, mulD, fdivD, modD, powD, leD, gtD, geD, isD, isntD, negD, notD, revD, isNone, sizeLine, mMt, mtS, startsD, findD, fmtD, mJs, strD, -slD, -addD, -cutD]
  · refine ⟨A ++ s ++ B, by rw [Str.length_append, Str.length_append]; omega, ?_⟩
    simp at q0 q1 q2 q3 q4
    simp [rX, iS, c1, c2, d2, d6, q0, q1, q2, q3, q4, mkFn, isListAt, slots, slot0, mSeq, mAsg, mRet, mIfS, mDrop, mB, bnd, Mi.ret, thaw, thawR, mVal, valR, mVar, mC, mBin, mUn, op1, op2, look, opN, lookAll, mCall, aT, aV, aNil, mStore, okSet, isT, asB, mTup, mLst, valsOf, mNx, outIo, retR, Md.isOwn, Md.isIo, Md.isLk, fI, mIf, mAnd, mOr, mNot, mAndV, mOrV, mChain, mPar, mPar3, mF, mFk, callF, callIo, putIo, freezeBy, flatD, flatAll, flatY, mayGive, notSlot, gath, mAsgG, gT, gsCons, gsNil, gIx, gN, setIx, mSetIx, ownAt, mApp, appTo, mIsi, isiD, isK, kinds, tyD, mSl, mPart, mNoPart, asInt, slD, cutD, lenD, absD, max2D, min2D, gcdD, lcmD, intD, listD, tupleD, allD, boolsOf, divmodD, addD, subD, mulD, fdivD, modD, powD, leD, gtD, geD, isD, isntD, negD, notD, revD, isNone, sizeLine, mMt, mtS, startsD, findD, fmtD, mJs, strD, -slD, -addD, -cutD]
  · refine ⟨z ++ s, by rw [Str.length_append]; omega, ?_⟩
    simp at q0 q1 q2 q3 q4
    simp [rX, iS, d7, q0, q1, q2, q3, q4, mkFn, isListAt, slots, slot0, mSeq, mAsg, mRet, mIfS, mDrop, mB, bnd, Mi.ret, thaw, thawR, mVal, valR, mVar, mC, mBin, mUn, op1, op2, look, opN, lookAll, mCall, aT, aV, aNil, mStore, okSet, isT, asB, mTup, mLst, valsOf, mNx, outIo, retR, Md.isOwn, Md.isIo, Md.isLk, fI, mIf, mAnd, mOr, mNot, mAndV, mOrV, mChain, mPar, mPar3, mF, mFk, callF, callIo, putIo, freezeBy, flatD, flatAll, flatY, mayGive, notSlot, gath, mAsgG, gT, gsCons, gsNil, gIx, gN, setIx, mSetIx, ownAt, mApp, appTo, mIsi, isiD, isK, kinds, tyD, mSl, mPart, mNoPart, asInt, slD, cutD, lenD, absD, max2D, min2D, gcdD, lcmD, intD, listD, tupleD, allD, boolsOf, divmodD, addD, subD, mulD, fdivD, modD, powD, leD, gtD, geD, isD, isntD, negD, notD, revD, isNone, sizeLine, mMt, mtS, startsD, findD, fmtD, mJs, strD, -slD, -addD, -cutD]
theorem ev_bent {p : D} (h : PotOk p) {z : Str} {n : Nat} (hz : z.length ≤ n) (hn : n ≤ 10000) : ∃ (w : Str) (p' : D), w.length ≤ 3 * n + 3 ∧ PotOk p' ∧ f__law_bent [p, .str z] = some (.ok (.val (.str w)), p') := by
  have big : sizeLine = 16777216 := rfl
  have ln := len_str (z := z) (by omega)
  have le : z.cps.toList.length = z.length := Array.length_toList
  rw [le] at ln
  have pw : (20000 : Nat) < 2 ^ 9000 := Nat.lt_of_lt_of_le (by decide : 20000 < 2 ^ 15) (Nat.pow_le_pow_right (by decide) (by decide))
  obtain ⟨r, p1, r0, r1, h1, e1⟩ := ev_draw h (n := (z.length : Int) + 1) (by omega) (by omega)
  obtain ⟨k, p2, k0, k1, h2, e2⟩ := ev_draw h1 (n := 6) (by decide) (by omega)
  obtain ⟨sg, p3, hm, h3, e3⟩ := ev_pick h2 (xs := signs) (by decide) (by decide)
  obtain ⟨s, rfl, hs⟩ := sign_len hm
  obtain ⟨x0, y0, _, _, _, rfl⟩ := h
  obtain ⟨x1, y1, _, _, _, rfl⟩ := h1
  obtain ⟨x2, y2, _, _, _, rfl⟩ := h2
  have h3' := h3
  obtain ⟨x3, y3, _, _, _, rfl⟩ := h3
  obtain ⟨w, hw, ew⟩ := bent_end (x := x3) (y := y3) (r := r) hz hn hs k0 k1
  refine ⟨w, _, hw, h3', ?_⟩
  have a0 : (mPar 2 3 (mF 2 f__law_draw (some 0) (aT (mVar 0) (aT (mBin addD (mCall lenD (aT (mVar 1) aNil)) (mC (.int 1))) aNil))) (mF 2 f__law_draw (some 0) (aT (mVar 0) (aT (mC (.int 6)) aNil)))) (rX x0 y0 z none none none) = some (.ok .nx, rX x2 y2 z (iS r) (iS k) none) := by
    generalize z.length = l at ln e1
    simp [rX, iS, ln, e1, e2, mkFn, isListAt, slots, slot0, mSeq, mAsg, mRet, mIfS, mDrop, mB, bnd, Mi.ret, thaw, thawR, mVal, valR, mVar, mC, mBin, mUn, op1, op2, look, opN, lookAll, mCall, aT, aV, aNil, mStore, okSet, isT, asB, mTup, mLst, valsOf, mNx, outIo, retR, Md.isOwn, Md.isIo, Md.isLk, fI, mIf, mAnd, mOr, mNot, mAndV, mOrV, mChain, mPar, mPar3, mF, mFk, callF, callIo, putIo, freezeBy, flatD, flatAll, flatY, mayGive, notSlot, gath, mAsgG, gT, gsCons, gsNil, gIx, gN, setIx, mSetIx, ownAt, mApp, appTo, mIsi, isiD, isK, kinds, tyD, mSl, mPart, mNoPart, asInt, slD, cutD, lenD, absD, max2D, min2D, gcdD, lcmD, intD, listD, tupleD, allD, boolsOf, divmodD, addD, subD, mulD, fdivD, modD, powD, leD, gtD, geD, isD, isntD, negD, notD, revD, isNone, sizeLine, mMt, mtS, startsD, findD, fmtD, mJs, strD, -lenD]
  have a1 : (mAsg 4 (mF 2 f__law_pick (some 0) (aT (mVar 0) (aT (mLst (aV (mC (.str "0")) (aV (mC (.str "1")) (aV (mC (.str "9")) (aV (mC (.str "-")) (aV (mC (.str "/")) (aV (mC (.str " ")) (aV (mC (.str "+")) (aV (mC (.str "a")) (aV (mC (.str ".")) (aV (mC (.str "_")) (aV (mC (.str "\n")) (aV (mC (.str "5")) (aV (mC (.str "~")) aNil)))))))))))))) aNil)))) (rX x2 y2 z (iS r) (iS k) none) = some (.ok .nx, rX x3 y3 z (iS r) (iS k) (some ⟨.val, .str s⟩)) := by
    simp only [signs] at e3
    simp [rX, iS, e3, mkFn, isListAt, slots, slot0, mSeq, mAsg, mRet, mIfS, mDrop, mB, bnd, Mi.ret, thaw, thawR, mVal, valR, mVar, mC, mBin, mUn, op1, op2, look, opN, lookAll, mCall, aT, aV, aNil, mStore, okSet, isT, asB, mTup, mLst, valsOf, mNx, outIo, retR, Md.isOwn, Md.isIo, Md.isLk, fI, mIf, mAnd, mOr, mNot, mAndV, mOrV, mChain, mPar, mPar3, mF, mFk, callF, callIo, putIo, freezeBy, flatD, flatAll, flatY, mayGive, notSlot, gath, mAsgG, gT, gsCons, gsNil, gIx, gN, setIx, mSetIx, ownAt, mApp, appTo, mIsi, isiD, isK, kinds, tyD, mSl, mPart, mNoPart, asInt, slD, cutD, lenD, absD, max2D, min2D, gcdD, lcmD, intD, listD, tupleD, allD, boolsOf, divmodD, addD, subD, mulD, fdivD, modD, powD, leD, gtD, geD, isD, isntD, negD, notD, revD, isNone, sizeLine, mMt, mtS, startsD, findD, fmtD, mJs, strD]
  have em : m__law_bent (rX x0 y0 z none none none) = some (.ok (.rt (.val (.str w))), rX x3 y3 z (iS r) (iS k) (some ⟨.val, .str s⟩)) := by
    unfold m__law_bent
    rw [seq_nx a0, seq_nx a1]
    exact ew
  simp only [rX] at em
  simp [f__law_bent, mkFn, isListAt, slots, slot0, em, outIo, retR]
end K12

namespace K12
open PySem L2 Evl PySem.Spec Mi PySem.NumText TL
/-! ### long texts -/
theorem strRep_len (d : Str) (n : Nat) : (strRep d n).length = n * d.length := by
  unfold strRep
  show (List.toArray _).size = _
  rw [List.size_toArray, List.length_flatten, List.map_replicate, List.sum_replicate_nat, Array.length_toList]
  rfl
theorem mul_str {d : Str} {m : Int} (hd : d.length ≤ 1) (m0 : 0 ≤ m) (m1 : m ≤ 405) : mulD (.str d) (.int m) = some (.val (.str (strRep d m.toNat))) ∧ (strRep d m.toNat).length ≤ 405 := by
  have big : sizeLine = 16777216 := rfl
  have hm : m.toNat ≤ 405 := by omega
  have hp : d.length * m.toNat ≤ 405 := by
    have := Nat.mul_le_mul hd hm
    omega
  have hp2 : m.toNat * d.length ≤ 405 := by rw [Nat.mul_comm]; exact hp
  have r : repOk d.length m = true := by
    unfold repOk
    exact decide_eq_true ⟨by omega, by omega, by omega⟩
  refine ⟨?_, by rw [strRep_len]; exact hp2⟩
  simp only [mulD, fI]
  rw [if_pos r]
theorem pick_int {x : D} {xs : List Int} {k : Int} (h : x ∈ xs.map PyData.int) (hx : ∀ i ∈ xs, 0 ≤ i ∧ i ≤ k) : ∃ i, x = .int i ∧ 0 ≤ i ∧ i ≤ k := by
  obtain ⟨i, hi, rfl⟩ := List.mem_map.mp h
  exact ⟨i, rfl, hx i hi⟩
theorem pick_str {x : D} {xs : List Str} {k : Nat} (h : x ∈ xs.map PyData.str) (hx : xs.all (fun s => decide (s.length ≤ k)) = true) : ∃ s, x = .str s ∧ s.length ≤ k := by
  obtain ⟨s, hs, rfl⟩ := List.mem_map.mp h
  exact ⟨s, rfl, of_decide_eq_true (List.all_eq_true.mp hx s hs)⟩
def rL (x y : Int) (s1 s2 s3 s4 : Option Slot) : R := [some ⟨.io, .list [.int x, .int y]⟩, s1, s2, s3, s4]
abbrev tS (s : Str) : Option Slot := some ⟨.val, .str s⟩
def Shorts (k : Nat) (ts : List D) : Prop := ∀ t ∈ ts, ∃ z : Str, t = .str z ∧ z.length ≤ k
theorem long_end {x y m o : Int} {d h : Str} (hd : d.length ≤ 1) (hh : h.length ≤ 406) (o0 : 0 ≤ o) (o1 : o ≤ 405) : ∃ ts : List D, ts.length = 6 ∧ Shorts 1000 ts ∧ flatAll ts = true ∧
    ((mRet (mLst (aV (mVar 4) (aV (mBin addD (mVar 4) (mC (.str "/3"))) (aV (mBin addD (mBin addD (mVar 4) (mC (.str "/"))) (mBin mulD (mVar 2) (mVar 3))) (aV (mBin addD (mC (.str "1/")) (mBin mulD (mVar 2) (mVar 3))) (aV (mBin addD (mC (.str "-0/")) (mBin mulD (mVar 2) (mVar 3))) (aV (mBin addD (mVar 4) (mC (.str "x"))) aNil))))))))) (rL x y (iS m) (tS d) (iS o) (tS h)) = some (.ok (.rt (.fresh ts)), rL x y (iS m) (tS d) (iS o) (tS h)) := by
  have big : sizeLine = 16777216 := rfl
  obtain ⟨e1, l1⟩ := mul_str hd o0 o1
  generalize strRep d o.toNat = w at e1 l1
  have k1 : ("/3" : Str).length = 2 := by decide +kernel
  have k2 : ("/" : Str).length = 1 := by decide +kernel
  have k3 : ("1/" : Str).length = 2 := by decide +kernel
  have k4 : ("-0/" : Str).length = 3 := by decide +kernel
  have k5 : ("x" : Str).length = 1 := by decide +kernel
  have d1 : addD (.str h) (.str "/3") = _ := add_str (by omega)
  have d2 : addD (.str h) (.str "/") = _ := add_str (by omega)
  have d3 : addD (.str (h ++ "/")) (.str w) = _ := add_str (by rw [Str.length_append]; omega)
  have d4 : addD (.str "1/") (.str w) = _ := add_str (by omega)
  have d5 : addD (.str "-0/") (.str w) = _ := add_str (by omega)
  have d6 : addD (.str h) (.str "x") = _ := add_str (by omega)
  refine ⟨[.str h, .str (h ++ "/3"), .str (h ++ "/" ++ w), .str ("1/" ++ w), .str ("-0/" ++ w), .str (h ++ "x")], rfl, ?_, rfl, ?_⟩
  · intro t ht
    simp only [List.mem_cons, List.not_mem_nil, or_false] at ht
    rcases ht with rfl | rfl | rfl | rfl | rfl | rfl <;> refine ⟨_, rfl, ?_⟩ <;> (try simp only [Str.length_append]) <;> omega
  · simp [rL, iS, tS, e1, d1, d2, d3, d4, d5, d6, mkFn, isListAt, slots, slot0, mSeq, mAsg, mRet, mIfS, mDrop, mB, bnd, Mi.ret, thaw, thawR, mVal, valR, mVar, mC, mBin, mUn, op1, op2, look, opN, lookAll, mCall, aT, aV, aNil, mStore, okSet, isT, asB, mTup, mLst, valsOf, mNx, outIo, retR, Md.isOwn, Md.isIo, Md.isLk, fI, mIf, mAnd, mOr, mNot, mAndV, mOrV, mChain, mPar, mPar3, mF, mFk, callF, callIo, putIo, freezeBy, flatD, flatAll, flatY, mayGive, notSlot, gath, mAsgG, gT, gsCons, gsNil, gIx, gN, setIx, mSetIx, ownAt, mApp, appTo, mIsi, isiD, isK, kinds, tyD, mSl, mPart, mNoPart, asInt, slD, cutD, lenD, absD, max2D, min2D, gcdD, lcmD, intD, listD, tupleD, allD, boolsOf, divmodD, addD, subD, mulD, fdivD, modD, powD, leD, gtD, geD, isD, isntD, negD, notD, revD, isNone, sizeLine, mMt, mtS, startsD, findD, fmtD, mJs, strD, -addD, -mulD]
theorem ev_long {p : D} (h : PotOk p) : ∃ (ts : List D) (p' : D), ts.length = 6 ∧ Shorts 1000 ts ∧ flatAll ts = true ∧ PotOk p' ∧ f__law_long_texts [p] = some (.ok (.fresh ts), p') := by
  have big : sizeLine = 16777216 := rfl
  obtain ⟨v1, p1, hm1, h1, e1⟩ := ev_pick h (xs := [.int 399, .int 400, .int 401, .int 402]) (by decide) (by decide)
  obtain ⟨m, rfl, m0, m1⟩ := pick_int (xs := [399, 400, 401, 402]) (k := 405) hm1 (by decide)
  obtain ⟨v2, p2, hm2, h2, e2⟩ := ev_pick h1 (xs := [.str "1", .str "9", .str "7"]) (by decide) (by decide)
  obtain ⟨d, rfl, hd⟩ := pick_str (xs := ["1", "9", "7"]) (k := 1) hm2 (by decide +kernel)
  obtain ⟨v3, p3, hm3, h3, e3⟩ := ev_pick h2 (xs := [.int 1, .int 2, .int 399, .int 400, .int 401, .int 405]) (by decide) (by decide)
  obtain ⟨o, rfl, o0, o1⟩ := pick_int (xs := [1, 2, 399, 400, 401, 405]) (k := 405) hm3 (by decide)
  obtain ⟨v4, p4, hm4, h4, e4⟩ := ev_pick h3 (xs := [.str "", .str "-"]) (by decide) (by decide)
  obtain ⟨s, rfl, hs⟩ := pick_str (xs := ["", "-"]) (k := 1) hm4 (by decide +kernel)
  obtain ⟨em, lm⟩ := mul_str hd m0 m1
  generalize strRep d m.toNat = w at em lm
  have da : addD (.str s) (.str w) = _ := add_str (by omega)
  obtain ⟨x0, y0, _, _, _, rfl⟩ := h
  obtain ⟨x1, y1, _, _, _, rfl⟩ := h1
  obtain ⟨x2, y2, _, _, _, rfl⟩ := h2
  obtain ⟨x3, y3, _, _, _, rfl⟩ := h3
  have h4' := h4
  obtain ⟨x4, y4, _, _, _, rfl⟩ := h4
  obtain ⟨ts, t1, t2, t3, t4⟩ := long_end (x := x4) (y := y4) (m := m) (o := o) (d := d) (h := s ++ w) hd (by rw [Str.length_append]; omega) o0 o1
  refine ⟨ts, _, t1, t2, t3, h4', ?_⟩
  have a0 : (mAsg 1 (mF 2 f__law_pick (some 0) (aT (mVar 0) (aT (mLst (aV (mC (.int 399)) (aV (mC (.int 400)) (aV (mC (.int 401)) (aV (mC (.int 402)) aNil))))) aNil)))) (rL x0 y0 none none none none) = some (.ok .nx, rL x1 y1 (iS m) none none none) := by
    simp [rL, iS, e1, mkFn, isListAt, slots, slot0, mSeq, mAsg, mRet, mIfS, mDrop, mB, bnd, Mi.ret, thaw, thawR, mVal, valR, mVar, mC, mBin, mUn, op1, op2, look, opN, lookAll, mCall, aT, aV, aNil, mStore, okSet, isT, asB, mTup, mLst, valsOf, mNx, outIo, retR, Md.isOwn, Md.isIo, Md.isLk, fI, mIf, mAnd, mOr, mNot, mAndV, mOrV, mChain, mPar, mPar3, mF, mFk, callF, callIo, putIo, freezeBy, flatD, flatAll, flatY, mayGive, notSlot, gath, mAsgG, gT, gsCons, gsNil, gIx, gN, setIx, mSetIx, ownAt, mApp, appTo, mIsi, isiD, isK, kinds, tyD, mSl, mPart, mNoPart, asInt, slD, cutD, lenD, absD, max2D, min2D, gcdD, lcmD, intD, listD, tupleD, allD, boolsOf, divmodD, addD, subD, mulD, fdivD, modD, powD, leD, gtD, geD, isD, isntD, negD, notD, revD, isNone, sizeLine, mMt, mtS, startsD, findD, fmtD, mJs, strD]
  have a1 : (mAsg 2 (mF 2 f__law_pick (some 0) (aT (mVar 0) (aT (mLst (aV (mC (.str "1")) (aV (mC (.str "9")) (aV (mC (.str "7")) aNil)))) aNil)))) (rL x1 y1 (iS m) none none none) = some (.ok .nx, rL x2 y2 (iS m) (tS d) none none) := by
    simp [rL, iS, tS, e2, mkFn, isListAt, slots, slot0, mSeq, mAsg, mRet, mIfS, mDrop, mB, bnd, Mi.ret, thaw, thawR, mVal, valR, mVar, mC, mBin, mUn, op1, op2, look, opN, lookAll, mCall, aT, aV, aNil, mStore, okSet, isT, asB, mTup, mLst, valsOf, mNx, outIo, retR, Md.isOwn, Md.isIo, Md.isLk, fI, mIf, mAnd, mOr, mNot, mAndV, mOrV, mChain, mPar, mPar3, mF, mFk, callF, callIo, putIo, freezeBy, flatD, flatAll, flatY, mayGive, notSlot, gath, mAsgG, gT, gsCons, gsNil, gIx, gN, setIx, mSetIx, ownAt, mApp, appTo, mIsi, isiD, isK, kinds, tyD, mSl, mPart, mNoPart, asInt, slD, cutD, lenD, absD, max2D, min2D, gcdD, lcmD, intD, listD, tupleD, allD, boolsOf, divmodD, addD, subD, mulD, fdivD, modD, powD, leD, gtD, geD, isD, isntD, negD, notD, revD, isNone, sizeLine, mMt, mtS, startsD, findD, fmtD, mJs, strD]
  have a2 : (mAsg 3 (mF 2 f__law_pick (some 0) (aT (mVar 0) (aT (mLst (aV (mC (.int 1)) (aV (mC (.int 2)) (aV (mC (.int 399)) (aV (mC (.int 400)) (aV (mC (.int 401)) (aV (mC (.int 405)) aNil))))))) aNil)))) (rL x2 y2 (iS m) (tS d) none none) = some (.ok .nx, rL x3 y3 (iS m) (tS d) (iS o) none) := by
    simp [rL, iS, tS, e3, mkFn, isListAt, slots, slot0, mSeq, mAsg, mRet, mIfS, mDrop, mB, bnd, Mi.ret, thaw, thawR, mVal, valR, mVar, mC, mBin, mUn, op1, op2, look, opN, lookAll, mCall, aT, aV, aNil, mStore, okSet, isT, asB, mTup, mLst, valsOf, mNx, outIo, retR, Md.isOwn, Md.isIo, Md.isLk, fI, mIf, mAnd, mOr, mNot, mAndV, mOrV, mChain, mPar, mPar3, mF, mFk, callF, callIo, putIo, freezeBy, flatD, flatAll, flatY, mayGive, notSlot, gath, mAsgG, gT, gsCons, gsNil, gIx, gN, setIx, mSetIx, ownAt, mApp, appTo, mIsi, isiD, isK, kinds, tyD, mSl, mPart, mNoPart, asInt, slD, cutD, lenD, absD, max2D, min2D, gcdD, lcmD, intD, listD, tupleD, allD, boolsOf, divmodD, addD, subD, mulD, fdivD, modD, powD, leD, gtD, geD, isD, isntD, negD, notD, revD, isNone, sizeLine, mMt, mtS, startsD, findD, fmtD, mJs, strD]
  have a3 : (mAsg 4 (mBin addD (mF 2 f__law_pick (some 0) (aT (mVar 0) (aT (mLst (aV (mC (.str "")) (aV (mC (.str "-")) aNil))) aNil))) (mBin mulD (mVar 2) (mVar 1)))) (rL x3 y3 (iS m) (tS d) (iS o) none) = some (.ok .nx, rL x4 y4 (iS m) (tS d) (iS o) (tS (s ++ w))) := by
    simp [rL, iS, tS, e4, em, da, mkFn, isListAt, slots, slot0, mSeq, mAsg, mRet, mIfS, mDrop, mB, bnd, Mi.ret, thaw, thawR, mVal, valR, mVar, mC, mBin, mUn, op1, op2, look, opN, lookAll, mCall, aT, aV, aNil, mStore, okSet, isT, asB, mTup, mLst, valsOf, mNx, outIo, retR, Md.isOwn, Md.isIo, Md.isLk, fI, mIf, mAnd, mOr, mNot, mAndV, mOrV, mChain, mPar, mPar3, mF, mFk, callF, callIo, putIo, freezeBy, flatD, flatAll, flatY, mayGive, notSlot, gath, mAsgG, gT, gsCons, gsNil, gIx, gN, setIx, mSetIx, ownAt, mApp, appTo, mIsi, isiD, isK, kinds, tyD, mSl, mPart, mNoPart, asInt, slD, cutD, lenD, absD, max2D, min2D, gcdD, lcmD, intD, listD, tupleD, allD, boolsOf, divmodD, addD, subD, mulD, fdivD, modD, powD, leD, gtD, geD, isD, isntD, negD, notD, revD, isNone, sizeLine, mMt, mtS, startsD, findD, fmtD, mJs, strD, -mulD, -addD]
  have em : m__law_long_texts (rL x0 y0 none none none none) = some (.ok (.rt (.fresh ts)), rL x4 y4 (iS m) (tS d) (iS o) (tS (s ++ w))) := by
    unfold m__law_long_texts
    rw [seq_nx a0, seq_nx a1, seq_nx a2, seq_nx a3]
    exact t4
  simp only [rL] at em
  simp [f__law_long_texts, mkFn, isListAt, slots, slot0, em, outIo, retR]
end K12

namespace K12
open PySem L2 Evl PySem.Spec Mi PySem.NumText TL
theorem pw18 : powOk 10 18 = true := by decide +kernel
theorem pot_fit (cell : Int) : 0 ≤ ((cell.fmod 2147483549) * 42013 + 907).fmod 2147483563 + 1 ∧ ((cell.fmod 2147483549) * 42013 + 907).fmod 2147483563 + 1 < 4294967296 ∧ mulOk (cell.fmod 2147483549) 42013 = true := by
  have h1 : cell.fmod 2147483549 = cell % 2147483549 := fmod_eq (by decide)
  have h2 := Int.emod_nonneg cell (b := 2147483549) (by decide)
  have h3 := Int.emod_lt_of_pos cell (b := 2147483549) (by decide)
  rw [h1, fmod_eq (a := cell % 2147483549 * 42013 + 907) (b := 2147483563) (by decide)]
  have h4 := Int.emod_nonneg (cell % 2147483549 * 42013 + 907) (b := 2147483563) (by decide)
  have h5 := Int.emod_lt_of_pos (cell % 2147483549 * 42013 + 907) (b := 2147483563) (by decide)
  exact ⟨by omega, by omega, mulOk_of (a := 33) (b := 33) (by omega) (by decide) (by decide) (by decide) (by decide)⟩
theorem pot_ret (cell : Int) (s : D) : ∃ xs : List D, PotOk (.list xs) ∧ (mRet (mLst (aV (mCall max2D (aT (mC (.int 0)) (aT (mBin subD (mVar 2) (mBin powD (mC (.int 10)) (mC (.int 18)))) aNil))) (aV (mBin addD (mBin modD (mCall intD (aT (mBin addD (mBin addD (mBin mulD (mBin modD (mCall intD (aT (mVar 2) aNil)) (mC (.int 2147483549))) (mC (.int 42013))) (mBin mulD (mC (.int 457)) (mVar 1))) (mC (.int 907))) aNil)) (mC (.int 2147483563))) (mC (.int 1))) aNil)))) [some ⟨.val, s⟩, some ⟨.val, .int 0⟩, some ⟨.val, .int cell⟩] = some (.ok (.rt (.fresh xs)), [some ⟨.val, s⟩, some ⟨.val, .int 0⟩, some ⟨.val, .int cell⟩]) := by
  obtain ⟨h1, h2, h3⟩ := pot_fit cell
  have m1 : mulOk 457 0 = true := by decide
  have p := pw18
  by_cases c : cell - 10 ^ 18 > 0
  · refine ⟨[.int (cell - 10 ^ 18), .int ((cell.fmod 2147483549 * 42013 + 907).fmod 2147483563 + 1)], ⟨_, _, by omega, h1, h2, rfl⟩, ?_⟩
    have c2 : 1000000000000000000 < cell := by omega
    simp [p, m1, h3, c2, mkFn, isListAt, slots, slot0, mSeq, mAsg, mRet, mIfS, mDrop, mB, bnd, Mi.ret, thaw, thawR, mVal, valR, mVar, mC, mBin, mUn, op1, op2, look, opN, lookAll, mCall, aT, aV, aNil, mStore, okSet, isT, asB, mTup, mLst, valsOf, mNx, outIo, retR, Md.isOwn, Md.isIo, Md.isLk, fI, mIf, mAnd, mOr, mNot, mAndV, mOrV, mChain, mPar, mPar3, mF, mFk, callF, callIo, putIo, freezeBy, flatD, flatAll, flatY, mayGive, notSlot, gath, mAsgG, gT, gsCons, gsNil, gIx, gN, setIx, mSetIx, ownAt, mApp, appTo, mIsi, isiD, isK, kinds, tyD, mSl, mPart, mNoPart, asInt, slD, cutD, lenD, absD, max2D, min2D, gcdD, lcmD, intD, listD, tupleD, allD, boolsOf, divmodD, addD, subD, mulD, fdivD, modD, powD, ltD, leD, gtD, geD, isD, isntD, negD, notD, ixD, revD, atI, ixN, isNone, sizeLine, eqsD, nesD, eqD, neD, inD, inT, inL, mMt, mtS, startsD, findD, fmtD, mJs, strD]
  · refine ⟨[.int 0, .int ((cell.fmod 2147483549 * 42013 + 907).fmod 2147483563 + 1)], ⟨_, _, by decide, h1, h2, rfl⟩, ?_⟩
    have c2 : ¬ (1000000000000000000 < cell) := by omega
    simp [p, m1, h3, c2, mkFn, isListAt, slots, slot0, mSeq, mAsg, mRet, mIfS, mDrop, mB, bnd, Mi.ret, thaw, thawR, mVal, valR, mVar, mC, mBin, mUn, op1, op2, look, opN, lookAll, mCall, aT, aV, aNil, mStore, okSet, isT, asB, mTup, mLst, valsOf, mNx, outIo, retR, Md.isOwn, Md.isIo, Md.isLk, fI, mIf, mAnd, mOr, mNot, mAndV, mOrV, mChain, mPar, mPar3, mF, mFk, callF, callIo, putIo, freezeBy, flatD, flatAll, flatY, mayGive, notSlot, gath, mAsgG, gT, gsCons, gsNil, gIx, gN, setIx, mSetIx, ownAt, mApp, appTo, mIsi, isiD, isK, kinds, tyD, mSl, mPart, mNoPart, asInt, slD, cutD, lenD, absD, max2D, min2D, gcdD, lcmD, intD, listD, tupleD, allD, boolsOf, divmodD, addD, subD, mulD, fdivD, modD, powD, ltD, leD, gtD, geD, isD, isntD, negD, notD, ixD, revD, atI, ixN, isNone, sizeLine, eqsD, nesD, eqD, neD, inD, inT, inL, mMt, mtS, startsD, findD, fmtD, mJs, strD]
theorem ev_pot (ns : List Int) : ∃ xs : List D, PotOk (.list xs) ∧ f__law_pot [.list (ns.map PyData.int), .int 0] = some (.ok (.fresh xs), .none) := by
  have m0 : mulOk 829 0 = true := by decide
  have a1 : ∃ cell : Int, (mAsg 2 (mIf (mB (mBin ltD (mVar 1) (mCall lenD (aT (mVar 0) aNil)))) (mCall absD (aT (mBin ixD (mVar 0) (mVar 1)) aNil)) (mBin addD (mBin mulD (mC (.int 829)) (mVar 1)) (mC (.int 1451))))) [some ⟨.val, .list (ns.map PyData.int)⟩, some ⟨.val, .int 0⟩, none] = some (.ok .nx, [some ⟨.val, .list (ns.map PyData.int)⟩, some ⟨.val, .int 0⟩, some ⟨.val, .int cell⟩]) := by
    cases ns with
    | nil => exact ⟨1451, by simp [m0, mkFn, isListAt, slots, slot0, mSeq, mAsg, mRet, mIfS, mDrop, mB, bnd, Mi.ret, thaw, thawR, mVal, valR, mVar, mC, mBin, mUn, op1, op2, look, opN, lookAll, mCall, aT, aV, aNil, mStore, okSet, isT, asB, mTup, mLst, valsOf, mNx, outIo, retR, Md.isOwn, Md.isIo, Md.isLk, fI, mIf, mAnd, mOr, mNot, mAndV, mOrV, mChain, mPar, mPar3, mF, mFk, callF, callIo, putIo, freezeBy, flatD, flatAll, flatY, mayGive, notSlot, gath, mAsgG, gT, gsCons, gsNil, gIx, gN, setIx, mSetIx, ownAt, mApp, appTo, mIsi, isiD, isK, kinds, tyD, mSl, mPart, mNoPart, asInt, slD, cutD, lenD, absD, max2D, min2D, gcdD, lcmD, intD, listD, tupleD, allD, boolsOf, divmodD, addD, subD, mulD, fdivD, modD, powD, ltD, leD, gtD, geD, isD, isntD, negD, notD, ixD, revD, atI, ixN, isNone, sizeLine, eqsD, nesD, eqD, neD, inD, inT, inL, mMt, mtS, startsD, findD, fmtD, mJs, strD]⟩
    | cons n ns =>
      refine ⟨if n < 0 then -n else n, ?_⟩
      have l0 : (0 : Int) < ((ns.length : Nat) : Int) + 1 := by omega
      simp [l0, mkFn, isListAt, slots, slot0, mSeq, mAsg, mRet, mIfS, mDrop, mB, bnd, Mi.ret, thaw, thawR, mVal, valR, mVar, mC, mBin, mUn, op1, op2, look, opN, lookAll, mCall, aT, aV, aNil, mStore, okSet, isT, asB, mTup, mLst, valsOf, mNx, outIo, retR, Md.isOwn, Md.isIo, Md.isLk, fI, mIf, mAnd, mOr, mNot, mAndV, mOrV, mChain, mPar, mPar3, mF, mFk, callF, callIo, putIo, freezeBy, flatD, flatAll, flatY, mayGive, notSlot, gath, mAsgG, gT, gsCons, gsNil, gIx, gN, setIx, mSetIx, ownAt, mApp, appTo, mIsi, isiD, isK, kinds, tyD, mSl, mPart, mNoPart, asInt, slD, cutD, lenD, absD, max2D, min2D, gcdD, lcmD, intD, listD, tupleD, allD, boolsOf, divmodD, addD, subD, mulD, fdivD, modD, powD, ltD, leD, gtD, geD, isD, isntD, negD, notD, ixD, revD, atI, ixN, isNone, sizeLine, eqsD, nesD, eqD, neD, inD, inT, inL, mMt, mtS, startsD, findD, fmtD, mJs, strD]
  obtain ⟨cell, a1⟩ := a1
  obtain ⟨xs, hx, a2⟩ := pot_ret cell (.list (ns.map PyData.int))
  refine ⟨xs, hx, ?_⟩
  have em : m__law_pot [some ⟨.val, .list (ns.map PyData.int)⟩, some ⟨.val, .int 0⟩, none] = some (.ok (.rt (.fresh xs)), [some ⟨.val, .list (ns.map PyData.int)⟩, some ⟨.val, .int 0⟩, some ⟨.val, .int cell⟩]) := by
    unfold m__law_pot
    rw [seq_nx a1]
    exact a2
  simp [f__law_pot, mkFn, isListAt, slots, slot0, em, outIo, retR]

/-! ### the law -/
def rT (sc : D) (xs : List D) (tl : D) (s3 s4 s5 s6 s7 s8 s9 : Option Slot) : R := [some ⟨.val, sc⟩, some ⟨.own, .list xs⟩, some ⟨.own, tl⟩, s3, s4, s5, s6, s7, s8, s9]
def isPos (k : Int) : D → Bool
  | .int i => decide (0 < i ∧ i ≤ k)
  | _ => false
theorem in_fI {l : List D} {k : Int} (h : l.all (isPos k) = true) {x : D} (hx : x ∈ l) : ∃ i, x = .int i ∧ 0 < i ∧ i ≤ k := by
  have this := List.all_eq_true.mp h x hx
  cases x with
  | int i => exact ⟨i, rfl, of_decide_eq_true this⟩
  | _ => cases this
theorem body1 {sc tl : D} {xs : List D} {t : Str} {s4 s5 s6 s7 s8 s9 : Option Slot} (ht : t.length ≤ 100000) : ((mIfS (mNot (mB (mF 1 f__law_right none (aT (mVar 3) aNil)))) (mRet (mC (.bool false))) mNx)) (rT sc xs tl (tS t) s4 s5 s6 s7 s8 s9) = some (.ok .nx, rT sc xs tl (tS t) s4 s5 s6 s7 s8 s9) := by
  have e := ev_right_str ht
  simp [rT, tS, e, mkFn, isListAt, slots, slot0, mSeq, mAsg, mRet, mIfS, mDrop, mB, bnd, Mi.ret, thaw, thawR, mVal, valR, mVar, mC, mBin, mUn, op1, op2, look, opN, lookAll, mCall, aT, aV, aNil, mStore, okSet, isT, asB, mTup, mLst, valsOf, mNx, outIo, retR, Md.isOwn, Md.isIo, Md.isLk, fI, mIf, mAnd, mOr, mNot, mAndV, mOrV, mChain, mPar, mPar3, mF, mFk, callF, callIo, putIo, freezeBy, flatD, flatAll, flatY, mayGive, notSlot, gath, mAsgG, gT, gsCons, gsNil, gIx, gN, setIx, mSetIx, ownAt, mApp, appTo, mIsi, isiD, isK, kinds, tyD, mSl, mPart, mNoPart, asInt, slD, cutD, lenD, absD, max2D, min2D, gcdD, lcmD, intD, listD, tupleD, allD, boolsOf, divmodD, addD, subD, mulD, fdivD, modD, powD, leD, gtD, geD, isD, isntD, negD, notD, revD, isNone, sizeLine, mMt, mtS, startsD, findD, fmtD, mJs, strD]
abbrev sizes : List D := [.int 9, .int 200, .int 1000000000, .int 1000000000000000000000000000000]
abbrev unders : List D := [.int 4, .int 30, .int 1000000000000]
theorem pw9 : powOk 10 9 = true := by decide +kernel
theorem pw30 : powOk 10 30 = true := by decide +kernel
theorem pw12 : powOk 10 12 = true := by decide +kernel
theorem body2 {sc tl : D} {xs : List D} (h : PotOk (.list xs)) {s3 s4 s5 s6 s7 s8 s9 : Option Slot} (h3 : Vl s3) (h5 : Vl s5) (h6 : Vl s6) (h7 : Vl s7) (h8 : Vl s8) (h9 : Vl s9) :
    ∃ xs' s3' s5' s6' s7' s8' s9', PotOk (.list xs') ∧ Vl s3' ∧ Vl s5' ∧ Vl s6' ∧ Vl s7' ∧ Vl s8' ∧ Vl s9' ∧ ((mSeq (mAsg 5 (mF 2 f__law_pick (some 0) (aT (mVar 1) (aT (mLst (aV (mC (.int 9)) (aV (mC (.int 200)) (aV (mBin powD (mC (.int 10)) (mC (.int 9))) (aV (mBin powD (mC (.int 10)) (mC (.int 30))) aNil))))) aNil)))) (mSeq (mPar 6 7 (mBin subD (mF 2 f__law_draw (some 0) (aT (mVar 1) (aT (mBin addD (mBin mulD (mC (.int 2)) (mVar 5)) (mC (.int 1))) aNil))) (mVar 5)) (mBin addD (mC (.int 1)) (mF 2 f__law_draw (some 0) (aT (mVar 1) (aT (mF 2 f__law_pick (some 0) (aT (mVar 1) (aT (mLst (aV (mC (.int 4)) (aV (mC (.int 30)) (aV (mBin powD (mC (.int 10)) (mC (.int 12))) aNil)))) aNil))) aNil))))) (mSeq (mPar 8 3 (mF 2 f__law_ratio none (aT (mVar 6) (aT (mVar 7) aNil))) (mBin addD (mBin addD (mCall strD (aT (mVar 6) aNil)) (mC (.str "/"))) (mCall strD (aT (mVar 7) aNil)))) (mSeq (mIfS (mOr (mB (mBin nesD (mCall reprD (aT (mF 1 f_ratio_text none (aT (mVar 8) aNil)) aNil)) (mCall reprD (aT (mF 1 f__law_text none (aT (mVar 8) aNil)) aNil)))) (mB (mBin nesD (mCall reprD (aT (mFk 0 1 [0] f_parse_ratio none aNil (aT (mFk 0 1 [0] f_ratio_text none aNil (aT (mVar 8) aNil)) aNil)) aNil)) (mCall reprD (aT (mVar 8) aNil))))) (mRet (mC (.bool false))) mNx) (mSeq (mAsg 9 (mF 2 f__law_bent (some 0) (aT (mVar 1) (aT (mVar 3) aNil)))) (mIfS (mOr (mNot (mB (mF 1 f__law_right none (aT (mVar 3) aNil)))) (mOr (mNot (mB (mF 1 f__law_right none (aT (mVar 9) aNil)))) (mNot (mB (mF 1 f__law_right none (aT (mF 2 f__law_bent (some 0) (aT (mVar 1) (aT (mVar 9) aNil))) aNil)))))) (mRet (mC (.bool false))) mNx))))))) (rT sc xs tl s3 s4 s5 s6 s7 s8 s9) = some (.ok .nx, rT sc xs' tl s3' s4 s5' s6' s7' s8' s9') := by
  have big : sizeLine = 16777216 := rfl
  have pw : (10000000000000000000000000000000 : Nat) < 2 ^ 9000 := Nat.lt_of_lt_of_le (by decide : 10000000000000000000000000000000 < 2 ^ 120) (Nat.pow_le_pow_right (by decide) (by decide))
  obtain ⟨v1, p1, hm1, h1, e1⟩ := ev_pick h (xs := sizes) (by decide) (by decide)
  obtain ⟨sz, rfl, z0, z1⟩ := in_fI (k := 1000000000000000000000000000000) (by decide) hm1
  obtain ⟨r, p2, r0, r1, h2, e2⟩ := ev_draw h1 (n := 2 * sz + 1) (by omega) (by omega)
  obtain ⟨v3, p3, hm3, h3p, e3⟩ := ev_pick h2 (xs := unders) (by decide) (by decide)
  obtain ⟨um, rfl, u0, u1⟩ := in_fI (k := 1000000000000) (by decide) hm3
  obtain ⟨w, p4, w0, w1, h4p, e4⟩ := ev_draw h3p (n := um) (by omega) (by omega)
  have mo : mulOk 2 sz = true := mulOk_of (a := 2) (b := 120) (by decide) (by omega) (by decide) (by decide) (by decide)
  obtain ⟨x0, y0, _, _, _, ex⟩ := h
  cases ex
  obtain ⟨x1, y1, _, _, _, rfl⟩ := h1
  obtain ⟨x2, y2, _, _, _, rfl⟩ := h2
  obtain ⟨x3, y3, _, _, _, rfl⟩ := h3p
  have h4' := h4p
  obtain ⟨x4, y4, _, _, _, rfl⟩ := h4p
  have a0 : (mAsg 5 (mF 2 f__law_pick (some 0) (aT (mVar 1) (aT (mLst (aV (mC (.int 9)) (aV (mC (.int 200)) (aV (mBin powD (mC (.int 10)) (mC (.int 9))) (aV (mBin powD (mC (.int 10)) (mC (.int 30))) aNil))))) aNil)))) (rT sc [.int x0, .int y0] tl s3 s4 s5 s6 s7 s8 s9) = some (.ok .nx, rT sc [.int x1, .int y1] tl s3 s4 (iS sz) s6 s7 s8 s9) := by
    have k9 := pw9
    have k30 := pw30
    simp only [sizes] at e1
    rcases h5 with rfl | ⟨t, rfl⟩ <;> simp [rT, iS, e1, k9, k30, mkFn, isListAt, slots, slot0, mSeq, mAsg, mRet, mIfS, mDrop, mB, bnd, Mi.ret, thaw, thawR, mVal, valR, mVar, mC, mBin, mUn, op1, op2, look, opN, lookAll, mCall, aT, aV, aNil, mStore, okSet, isT, asB, mTup, mLst, valsOf, mNx, outIo, retR, Md.isOwn, Md.isIo, Md.isLk, fI, mIf, mAnd, mOr, mNot, mAndV, mOrV, mChain, mPar, mPar3, mF, mFk, callF, callIo, putIo, freezeBy, flatD, flatAll, flatY, mayGive, notSlot, gath, mAsgG, gT, gsCons, gsNil, gIx, gN, setIx, mSetIx, ownAt, mApp, appTo, mIsi, isiD, isK, kinds, tyD, mSl, mPart, mNoPart, asInt, slD, cutD, lenD, absD, max2D, min2D, gcdD, lcmD, intD, listD, tupleD, allD, boolsOf, divmodD, addD, subD, mulD, fdivD, modD, powD, leD, gtD, geD, isD, isntD, negD, notD, revD, isNone, sizeLine, mMt, mtS, startsD, findD, fmtD, mJs, strD]
  have a1 : (mPar 6 7 (mBin subD (mF 2 f__law_draw (some 0) (aT (mVar 1) (aT (mBin addD (mBin mulD (mC (.int 2)) (mVar 5)) (mC (.int 1))) aNil))) (mVar 5)) (mBin addD (mC (.int 1)) (mF 2 f__law_draw (some 0) (aT (mVar 1) (aT (mF 2 f__law_pick (some 0) (aT (mVar 1) (aT (mLst (aV (mC (.int 4)) (aV (mC (.int 30)) (aV (mBin powD (mC (.int 10)) (mC (.int 12))) aNil)))) aNil))) aNil))))) (rT sc [.int x1, .int y1] tl s3 s4 (iS sz) s6 s7 s8 s9) = some (.ok .nx, rT sc [.int x4, .int y4] tl s3 s4 (iS sz) (iS (r - sz)) (iS (1 + w)) s8 s9) := by
    have k12 := pw12
    simp only [unders] at e3
    rcases h6 with rfl | ⟨t, rfl⟩ <;> rcases h7 with rfl | ⟨t, rfl⟩ <;> simp [rT, iS, mo, e2, e3, e4, k12, mkFn, isListAt, slots, slot0, mSeq, mAsg, mRet, mIfS, mDrop, mB, bnd, Mi.ret, thaw, thawR, mVal, valR, mVar, mC, mBin, mUn, op1, op2, look, opN, lookAll, mCall, aT, aV, aNil, mStore, okSet, isT, asB, mTup, mLst, valsOf, mNx, outIo, retR, Md.isOwn, Md.isIo, Md.isLk, fI, mIf, mAnd, mOr, mNot, mAndV, mOrV, mChain, mPar, mPar3, mF, mFk, callF, callIo, putIo, freezeBy, flatD, flatAll, flatY, mayGive, notSlot, gath, mAsgG, gT, gsCons, gsNil, gIx, gN, setIx, mSetIx, ownAt, mApp, appTo, mIsi, isiD, isK, kinds, tyD, mSl, mPart, mNoPart, asInt, slD, cutD, lenD, absD, max2D, min2D, gcdD, lcmD, intD, listD, tupleD, allD, boolsOf, divmodD, addD, subD, mulD, fdivD, modD, powD, leD, gtD, geD, isD, isntD, negD, notD, revD, isNone, sizeLine, mMt, mtS, startsD, findD, fmtD, mJs, strD]
  generalize hn : r - sz = n at a1
  generalize hu : 1 + w = u at a1
  have n60 : n.natAbs < 10 ^ 60 := Nat.lt_of_le_of_lt (by omega : n.natAbs ≤ 1000000000000000000000000000000) (by decide +kernel)
  have u60 : u.natAbs < 10 ^ 60 := Nat.lt_of_le_of_lt (by omega : u.natAbs ≤ 1000000000000000000000000000000) (by decide +kernel)
  have up : 0 < u := by omega
  have nine : (10 : Nat) ^ 60 < 2 ^ 9000 := by decide +kernel
  have lr : f__law_ratio [.int n, .int u] = some (.ok (.val (rat (redN n u) (redU n u))), .none) := ev_lratio (n := n) (u := u) up (Nat.lt_trans n60 nine) (Nat.lt_trans u60 nine)
  have sn := str_int (lg1920 (Nat.lt_trans n60 ten500))
  have su := str_int (lg1920 (Nat.lt_trans u60 ten500))
  have ln := S_len (numL_small (Nat.lt_trans n60 ten60))
  have lu := S_len (numL_small (Nat.lt_trans u60 ten60))
  have b1 : addD (.str (S n)) (.str "/") = _ := add_str (by rw [sl_len]; omega)
  have b2 : addD (.str (S n ++ "/")) (.str (S u)) = some (.val (.str (two n u))) := add_str (by rw [Str.length_append, sl_len]; omega)
  have lt := two_len (a := n) up (numL_small (Nat.lt_trans n60 ten60)) (numL_small (Nat.lt_trans u60 ten60))
  have low := red_low (n := n) (u := u) (by omega)
  have na := redN_le n u
  have nb := redU_le n u
  generalize redN n u = a at lr low na
  generalize redU n u = b at lr low nb
  have a60 : a.natAbs < 10 ^ 60 := Nat.lt_of_le_of_lt na n60
  have b60 : b.natAbs < 10 ^ 60 := Nat.lt_of_le_of_lt nb u60
  generalize S n ++ "/" = q at b1 b2
  generalize S n = qn at sn b1
  generalize S u = qu at su b2
  generalize two n u = t at b2 lt
  have a2 : (mPar 8 3 (mF 2 f__law_ratio none (aT (mVar 6) (aT (mVar 7) aNil))) (mBin addD (mBin addD (mCall strD (aT (mVar 6) aNil)) (mC (.str "/"))) (mCall strD (aT (mVar 7) aNil)))) (rT sc [.int x4, .int y4] tl s3 s4 (iS sz) (iS n) (iS u) s8 s9) = some (.ok .nx, rT sc [.int x4, .int y4] tl (tS t) s4 (iS sz) (iS n) (iS u) (some ⟨.val, rat a b⟩) s9) := by
    rcases h8 with rfl | ⟨t, rfl⟩ <;> rcases h3 with rfl | ⟨t, rfl⟩ <;> simp [rT, iS, tS, lr, sn, su, b1, b2, mkFn, isListAt, slots, slot0, mSeq, mAsg, mRet, mIfS, mDrop, mB, bnd, Mi.ret, thaw, thawR, mVal, valR, mVar, mC, mBin, mUn, op1, op2, look, opN, lookAll, mCall, aT, aV, aNil, mStore, okSet, isT, asB, mTup, mLst, valsOf, mNx, outIo, retR, Md.isOwn, Md.isIo, Md.isLk, fI, mIf, mAnd, mOr, mNot, mAndV, mOrV, mChain, mPar, mPar3, mF, mFk, callF, callIo, putIo, freezeBy, flatD, flatAll, flatY, mayGive, notSlot, gath, mAsgG, gT, gsCons, gsNil, gIx, gN, setIx, mSetIx, ownAt, mApp, appTo, mIsi, isiD, isK, kinds, tyD, mSl, mPart, mNoPart, asInt, slD, cutD, lenD, absD, max2D, min2D, gcdD, lcmD, intD, listD, tupleD, allD, boolsOf, divmodD, addD, subD, mulD, fdivD, modD, powD, leD, gtD, geD, isD, isntD, negD, notD, revD, isNone, sizeLine, mMt, mtS, startsD, findD, fmtD, mJs, strD, -strD, -addD]
  have g1 := ev_rtext low a60 b60
  have g2 := ev_ltext (a := a) (b := b) a60 b60
  have g3 := txt_parse low a60 b60
  have g4 : reprD [.str (txt a b)] = some (.val (.str (PyData.shown (.str (txt a b))))) := by
    have := ok_txt low.1 a60 b60
    simp only [reprD, this, if_true]
  have g5 : reprD [rat a b] = some (.val (.str (PyData.shown (rat a b)))) := by
    have := ok_rat (Nat.lt_trans a60 ten500) (Nat.lt_trans b60 ten500)
    simp only [reprD, this, if_true]
  generalize PyData.shown (.str (txt a b)) = v1 at g4
  generalize PyData.shown (rat a b) = v2 at g5
  generalize txt a b = tx at g1 g2 g3 g4
  have ne1 : nesD (.str v1) (.str v1) = some (.val (.bool false)) := by simp [nesD]
  have ne2 : nesD (.str v2) (.str v2) = some (.val (.bool false)) := by simp [nesD]
  have a3 : (mIfS (mOr (mB (mBin nesD (mCall reprD (aT (mF 1 f_ratio_text none (aT (mVar 8) aNil)) aNil)) (mCall reprD (aT (mF 1 f__law_text none (aT (mVar 8) aNil)) aNil)))) (mB (mBin nesD (mCall reprD (aT (mFk 0 1 [0] f_parse_ratio none aNil (aT (mFk 0 1 [0] f_ratio_text none aNil (aT (mVar 8) aNil)) aNil)) aNil)) (mCall reprD (aT (mVar 8) aNil))))) (mRet (mC (.bool false))) mNx) (rT sc [.int x4, .int y4] tl (tS t) s4 (iS sz) (iS n) (iS u) (some ⟨.val, rat a b⟩) s9) = some (.ok .nx, rT sc [.int x4, .int y4] tl (tS t) s4 (iS sz) (iS n) (iS u) (some ⟨.val, rat a b⟩) s9) := by
    simp [rT, iS, tS, g1, g2, g3, g4, g5, ne1, ne2, mkFn, isListAt, slots, slot0, mSeq, mAsg, mRet, mIfS, mDrop, mB, bnd, Mi.ret, thaw, thawR, mVal, valR, mVar, mC, mBin, mUn, op1, op2, look, opN, lookAll, mCall, aT, aV, aNil, mStore, okSet, isT, asB, mTup, mLst, valsOf, mNx, outIo, retR, Md.isOwn, Md.isIo, Md.isLk, fI, mIf, mAnd, mOr, mNot, mAndV, mOrV, mChain, mPar, mPar3, mF, mFk, callF, callIo, putIo, freezeBy, flatD, flatAll, flatY, mayGive, notSlot, gath, mAsgG, gT, gsCons, gsNil, gIx, gN, setIx, mSetIx, ownAt, mApp, appTo, mIsi, isiD, isK, kinds, tyD, mSl, mPart, mNoPart, asInt, slD, cutD, lenD, absD, max2D, min2D, gcdD, lcmD, intD, listD, tupleD, allD, boolsOf, divmodD, addD, subD, mulD, fdivD, modD, powD, leD, gtD, geD, isD, isntD, negD, notD, revD, isNone, sizeLine, mMt, mtS, startsD, findD, fmtD, mJs, strD]
  obtain ⟨b1, p5, hb1, h5p, e5⟩ := ev_bent h4' (z := t) (n := 802) lt (by decide)
  obtain ⟨b2, p6, hb2, h6p, e6⟩ := ev_bent h5p (z := b1) (n := 2409) hb1 (by decide)
  obtain ⟨x5, y5, _, _, _, rfl⟩ := h5p
  have h6' := h6p
  obtain ⟨x6, y6, _, _, _, rfl⟩ := h6p
  have a4 : (mAsg 9 (mF 2 f__law_bent (some 0) (aT (mVar 1) (aT (mVar 3) aNil)))) (rT sc [.int x4, .int y4] tl (tS t) s4 (iS sz) (iS n) (iS u) (some ⟨.val, rat a b⟩) s9) = some (.ok .nx, rT sc [.int x5, .int y5] tl (tS t) s4 (iS sz) (iS n) (iS u) (some ⟨.val, rat a b⟩) (tS b1)) := by
    rcases h9 with rfl | ⟨t, rfl⟩ <;> simp [rT, iS, tS, e5, mkFn, isListAt, slots, slot0, mSeq, mAsg, mRet, mIfS, mDrop, mB, bnd, Mi.ret, thaw, thawR, mVal, valR, mVar, mC, mBin, mUn, op1, op2, look, opN, lookAll, mCall, aT, aV, aNil, mStore, okSet, isT, asB, mTup, mLst, valsOf, mNx, outIo, retR, Md.isOwn, Md.isIo, Md.isLk, fI, mIf, mAnd, mOr, mNot, mAndV, mOrV, mChain, mPar, mPar3, mF, mFk, callF, callIo, putIo, freezeBy, flatD, flatAll, flatY, mayGive, notSlot, gath, mAsgG, gT, gsCons, gsNil, gIx, gN, setIx, mSetIx, ownAt, mApp, appTo, mIsi, isiD, isK, kinds, tyD, mSl, mPart, mNoPart, asInt, slD, cutD, lenD, absD, max2D, min2D, gcdD, lcmD, intD, listD, tupleD, allD, boolsOf, divmodD, addD, subD, mulD, fdivD, modD, powD, leD, gtD, geD, isD, isntD, negD, notD, revD, isNone, sizeLine, mMt, mtS, startsD, findD, fmtD, mJs, strD]
  have q1 := ev_right_str (z := t) (by omega)
  have q2 := ev_right_str (z := b1) (by omega)
  have q3 := ev_right_str (z := b2) (by omega)
  have a5 : (mIfS (mOr (mNot (mB (mF 1 f__law_right none (aT (mVar 3) aNil)))) (mOr (mNot (mB (mF 1 f__law_right none (aT (mVar 9) aNil)))) (mNot (mB (mF 1 f__law_right none (aT (mF 2 f__law_bent (some 0) (aT (mVar 1) (aT (mVar 9) aNil))) aNil)))))) (mRet (mC (.bool false))) mNx) (rT sc [.int x5, .int y5] tl (tS t) s4 (iS sz) (iS n) (iS u) (some ⟨.val, rat a b⟩) (tS b1)) = some (.ok .nx, rT sc [.int x6, .int y6] tl (tS t) s4 (iS sz) (iS n) (iS u) (some ⟨.val, rat a b⟩) (tS b1)) := by
    simp [rT, iS, tS, q1, q2, q3, e6, mkFn, isListAt, slots, slot0, mSeq, mAsg, mRet, mIfS, mDrop, mB, bnd, Mi.ret, thaw, thawR, mVal, valR, mVar, mC, mBin, mUn, op1, op2, look, opN, lookAll, mCall, aT, aV, aNil, mStore, okSet, isT, asB, mTup, mLst, valsOf, mNx, outIo, retR, Md.isOwn, Md.isIo, Md.isLk, fI, mIf, mAnd, mOr, mNot, mAndV, mOrV, mChain, mPar, mPar3, mF, mFk, callF, callIo, putIo, freezeBy, flatD, flatAll, flatY, mayGive, notSlot, gath, mAsgG, gT, gsCons, gsNil, gIx, gN, setIx, mSetIx, ownAt, mApp, appTo, mIsi, isiD, isK, kinds, tyD, mSl, mPart, mNoPart, asInt, slD, cutD, lenD, absD, max2D, min2D, gcdD, lcmD, intD, listD, tupleD, allD, boolsOf, divmodD, addD, subD, mulD, fdivD, modD, powD, leD, gtD, geD, isD, isntD, negD, notD, revD, isNone, sizeLine, mMt, mtS, startsD, findD, fmtD, mJs, strD]
  refine ⟨[.int x6, .int y6], tS t, iS sz, iS n, iS u, some ⟨.val, rat a b⟩, tS b1, h6', .inr ⟨_, rfl⟩, .inr ⟨_, rfl⟩, .inr ⟨_, rfl⟩, .inr ⟨_, rfl⟩, .inr ⟨_, rfl⟩, .inr ⟨_, rfl⟩, ?_⟩
  rw [seq_nx a0, seq_nx a1, seq_nx a2, seq_nx a3, seq_nx a4]
  exact a5
end K12

namespace K12
open PySem L2 Evl PySem.Spec Mi PySem.NumText TL
/-- the texts that the law names -/
def toldS : List Str := ["", "-", "0", "-0", "00", "01", "-01", "--1", "+1", "1/", "1/0", "1/05", "0/5", "4/2", "-4/6", "1 /2", "1/2 ", " 1", "1/-2", "a", "1/2/3", "10/100", "1/1", "/2", "-/2", "1.5", "1_0", "1\n", "-0/7", "0/", "5/10 ", "1//2"]
def toldD : List D := [.str "", .str "-", .str "0", .str "-0", .str "00", .str "01", .str "-01", .str "--1", .str "+1", .str "1/", .str "1/0", .str "1/05", .str "0/5", .str "4/2", .str "-4/6", .str "1 /2", .str "1/2 ", .str " 1", .str "1/-2", .str "a", .str "1/2/3", .str "10/100", .str "1/1", .str "/2", .str "-/2", .str "1.5", .str "1_0", .str "1\n", .str "-0/7", .str "0/", .str "5/10 ", .str "1//2"]
theorem told_eq : toldD = toldS.map PyData.str := rfl
theorem told_short : toldS.all (fun s => decide (s.length ≤ 1000)) = true := by decide +kernel
theorem shorts_told : Shorts 1000 toldD := by
  intro t ht
  rw [told_eq] at ht
  obtain ⟨s, e, h⟩ := pick_str ht told_short
  exact ⟨s, e, h⟩
theorem law_ok : LawOk f_law := by
  intro ns _ _
  obtain ⟨xs, hp, e0⟩ := ev_pot ns
  generalize ns.map PyData.int = is at e0 ⊢
  have a0 : (mAsg 1 (mF 2 f__law_pot none (aT (mVar 0) (aT (mC (.int 0)) aNil)))) [some ⟨.val, .list is⟩, none, none, none, none, none, none, none, none, none] = some (.ok .nx, [some ⟨.val, .list is⟩, some ⟨.own, .list xs⟩, none, none, none, none, none, none, none, none]) := by
    simp [e0, mkFn, isListAt, slots, slot0, mSeq, mAsg, mRet, mIfS, mDrop, mB, bnd, Mi.ret, thaw, thawR, mVal, valR, mVar, mC, mBin, mUn, op1, op2, look, opN, lookAll, mCall, aT, aV, aNil, mStore, okSet, isT, asB, mTup, mLst, valsOf, mNx, outIo, retR, Md.isOwn, Md.isIo, Md.isLk, fI, mIf, mAnd, mOr, mNot, mAndV, mOrV, mChain, mPar, mPar3, mF, mFk, callF, callIo, putIo, freezeBy, flatD, flatAll, flatY, mayGive, notSlot, gath, mAsgG, gT, gsCons, gsNil, gIx, gN, setIx, mSetIx, ownAt, mApp, appTo, mIsi, isiD, isK, kinds, tyD, mSl, mPart, mNoPart, asInt, slD, cutD, lenD, absD, max2D, min2D, gcdD, lcmD, intD, listD, tupleD, allD, boolsOf, divmodD, addD, subD, mulD, fdivD, modD, powD, ltD, leD, gtD, geD, isD, isntD, negD, notD, ixD, revD, atI, ixN, isNone, sizeLine, eqsD, nesD, eqD, neD, inD, inT, inL, mMt, mtS, startsD, findD, fmtD, mJs, strD]
  have a1 : (mAsg 2 (mLst (aV (mC (.str "")) (aV (mC (.str "-")) (aV (mC (.str "0")) (aV (mC (.str "-0")) (aV (mC (.str "00")) (aV (mC (.str "01")) (aV (mC (.str "-01")) (aV (mC (.str "--1")) (aV (mC (.str "+1")) (aV (mC (.str "1/")) (aV (mC (.str "1/0")) (aV (mC (.str "1/05")) (aV (mC (.str "0/5")) (aV (mC (.str "4/2")) (aV (mC (.str "-4/6")) (aV (mC (.str "1 /2")) (aV (mC (.str "1/2 ")) (aV (mC (.str " 1")) (aV (mC (.str "1/-2")) (aV (mC (.str "a")) (aV (mC (.str "1/2/3")) (aV (mC (.str "10/100")) (aV (mC (.str "1/1")) (aV (mC (.str "/2")) (aV (mC (.str "-/2")) (aV (mC (.str "1.5")) (aV (mC (.str "1_0")) (aV (mC (.str "1\n")) (aV (mC (.str "-0/7")) (aV (mC (.str "0/")) (aV (mC (.str "5/10 ")) (aV (mC (.str "1//2")) aNil)))))))))))))))))))))))))))))))))) [some ⟨.val, .list is⟩, some ⟨.own, .list xs⟩, none, none, none, none, none, none, none, none] = some (.ok .nx, rT (.list is) xs (.list toldD) none none none none none none none) := by
    simp [rT, toldD, mkFn, isListAt, slots, slot0, mSeq, mAsg, mRet, mIfS, mDrop, mB, bnd, Mi.ret, thaw, thawR, mVal, valR, mVar, mC, mBin, mUn, op1, op2, look, opN, lookAll, mCall, aT, aV, aNil, mStore, okSet, isT, asB, mTup, mLst, valsOf, mNx, outIo, retR, Md.isOwn, Md.isIo, Md.isLk, fI, mIf, mAnd, mOr, mNot, mAndV, mOrV, mChain, mPar, mPar3, mF, mFk, callF, callIo, putIo, freezeBy, flatD, flatAll, flatY, mayGive, notSlot, gath, mAsgG, gT, gsCons, gsNil, gIx, gN, setIx, mSetIx, ownAt, mApp, appTo, mIsi, isiD, isK, kinds, tyD, mSl, mPart, mNoPart, asInt, slD, cutD, lenD, absD, max2D, min2D, gcdD, lcmD, intD, listD, tupleD, allD, boolsOf, divmodD, addD, subD, mulD, fdivD, modD, powD, leD, gtD, geD, isD, isntD, negD, notD, revD, isNone, sizeLine, mMt, mtS, startsD, findD, fmtD, mJs, strD]
  obtain ⟨ts, p1, t1, t2, t3, hp1, e1⟩ := ev_long hp
  obtain ⟨x0, y0, _, _, _, ex⟩ := hp
  cases ex
  have hp1' := hp1
  obtain ⟨x1, y1, _, _, _, rfl⟩ := hp1
  have st := shorts_told
  have fl : toldD.length = 32 := rfl
  generalize toldD = td at a1 st fl
  have hi : (mItD (mBin addD (mVar 2) (mF 1 f__law_long_texts (some 0) (aT (mVar 1) aNil)))) (rT (.list is) [.int x0, .int y0] (.list td) none none none none none none none) = some (.ok ⟨td ++ ts, []⟩, rT (.list is) [.int x1, .int y1] (.list td) none none none none none none none) := by
    simp [mItD, rT, e1, t3, t1, fl, iterD, mkFn, isListAt, slots, slot0, mSeq, mAsg, mRet, mIfS, mDrop, mB, bnd, Mi.ret, thaw, thawR, mVal, valR, mVar, mC, mBin, mUn, op1, op2, look, opN, lookAll, mCall, aT, aV, aNil, mStore, okSet, isT, asB, mTup, mLst, valsOf, mNx, outIo, retR, Md.isOwn, Md.isIo, Md.isLk, fI, mIf, mAnd, mOr, mNot, mAndV, mOrV, mChain, mPar, mPar3, mF, mFk, callF, callIo, putIo, freezeBy, flatD, flatAll, flatY, mayGive, notSlot, gath, mAsgG, gT, gsCons, gsNil, gIx, gN, setIx, mSetIx, ownAt, mApp, appTo, mIsi, isiD, isK, kinds, tyD, mSl, mPart, mNoPart, asInt, slD, cutD, lenD, absD, max2D, min2D, gcdD, lcmD, intD, listD, tupleD, allD, boolsOf, divmodD, addD, subD, mulD, fdivD, modD, powD, leD, gtD, geD, isD, isntD, negD, notD, revD, isNone, sizeLine, mMt, mtS, startsD, findD, fmtD, mJs, strD]
  obtain ⟨ρ', l1, s3, h3, hρ⟩ := loopF_run (g := gN 3) (b := (mIfS (mNot (mB (mF 1 f__law_right none (aT (mVar 3) aNil)))) (mRet (mC (.bool false))) mNx)) (fun _ ρ => ∃ s3, Vl s3 ∧ ρ = rT (.list is) [.int x1, .int y1] (.list td) s3 none none none none none none) (td ++ ts) 0 _ ⟨none, .inl rfl, rfl⟩ (by
    intro i ρ d hd ⟨s3, h3, hρ⟩
    subst hρ
    have hm : d ∈ td ++ ts := List.mem_of_getElem? hd
    obtain ⟨z, rfl, hz⟩ : ∃ z : Str, d = .str z ∧ z.length ≤ 1000 := by
      rcases List.mem_append.mp hm with h | h
      · exact st d h
      · exact t2 d h
    refine ⟨rT (.list is) [.int x1, .int y1] (.list td) (tS z) none none none none none none, _, .nx, ?_, body1 (by omega), .inl rfl, tS z, .inr ⟨_, rfl⟩, rfl⟩
    rcases h3 with rfl | ⟨t, rfl⟩ <;> simp [rT, tS, gN, mStore, okSet])
  subst hρ
  have a2 := for_run hi l1
  have hr : (mRng1 (aT (mC (.int 8)) aNil)) (rT (.list is) [.int x1, .int y1] (.list td) s3 none none none none none none) = some (.ok ⟨rangeD 0 8, []⟩, rT (.list is) [.int x1, .int y1] (.list td) s3 none none none none none none) := by
    have : in62 8 = true := by decide
    simp [mRng1, rng1, this, rT, mkFn, isListAt, slots, slot0, mSeq, mAsg, mRet, mIfS, mDrop, mB, bnd, Mi.ret, thaw, thawR, mVal, valR, mVar, mC, mBin, mUn, op1, op2, look, opN, lookAll, mCall, aT, aV, aNil, mStore, okSet, isT, asB, mTup, mLst, valsOf, mNx, outIo, retR, Md.isOwn, Md.isIo, Md.isLk, fI, mIf, mAnd, mOr, mNot, mAndV, mOrV, mChain, mPar, mPar3, mF, mFk, callF, callIo, putIo, freezeBy, flatD, flatAll, flatY, mayGive, notSlot, gath, mAsgG, gT, gsCons, gsNil, gIx, gN, setIx, mSetIx, ownAt, mApp, appTo, mIsi, isiD, isK, kinds, tyD, mSl, mPart, mNoPart, asInt, slD, cutD, lenD, absD, max2D, min2D, gcdD, lcmD, intD, listD, tupleD, allD, boolsOf, divmodD, addD, subD, mulD, fdivD, modD, powD, ltD, leD, gtD, geD, isD, isntD, negD, notD, ixD, revD, atI, ixN, isNone, sizeLine, eqsD, nesD, eqD, neD, inD, inT, inL, mMt, mtS, startsD, findD, fmtD, mJs, strD]
  obtain ⟨ρ', l2, ys, s3, s4, s5, s6, s7, s8, s9, hy, h3, h4, h5, h6, h7, h8, h9, hρ⟩ := loopF_run (g := gN 4) (b := (mSeq (mAsg 5 (mF 2 f__law_pick (some 0) (aT (mVar 1) (aT (mLst (aV (mC (.int 9)) (aV (mC (.int 200)) (aV (mBin powD (mC (.int 10)) (mC (.int 9))) (aV (mBin powD (mC (.int 10)) (mC (.int 30))) aNil))))) aNil)))) (mSeq (mPar 6 7 (mBin subD (mF 2 f__law_draw (some 0) (aT (mVar 1) (aT (mBin addD (mBin mulD (mC (.int 2)) (mVar 5)) (mC (.int 1))) aNil))) (mVar 5)) (mBin addD (mC (.int 1)) (mF 2 f__law_draw (some 0) (aT (mVar 1) (aT (mF 2 f__law_pick (some 0) (aT (mVar 1) (aT (mLst (aV (mC (.int 4)) (aV (mC (.int 30)) (aV (mBin powD (mC (.int 10)) (mC (.int 12))) aNil)))) aNil))) aNil))))) (mSeq (mPar 8 3 (mF 2 f__law_ratio none (aT (mVar 6) (aT (mVar 7) aNil))) (mBin addD (mBin addD (mCall strD (aT (mVar 6) aNil)) (mC (.str "/"))) (mCall strD (aT (mVar 7) aNil)))) (mSeq (mIfS (mOr (mB (mBin nesD (mCall reprD (aT (mF 1 f_ratio_text none (aT (mVar 8) aNil)) aNil)) (mCall reprD (aT (mF 1 f__law_text none (aT (mVar 8) aNil)) aNil)))) (mB (mBin nesD (mCall reprD (aT (mFk 0 1 [0] f_parse_ratio none aNil (aT (mFk 0 1 [0] f_ratio_text none aNil (aT (mVar 8) aNil)) aNil)) aNil)) (mCall reprD (aT (mVar 8) aNil))))) (mRet (mC (.bool false))) mNx) (mSeq (mAsg 9 (mF 2 f__law_bent (some 0) (aT (mVar 1) (aT (mVar 3) aNil)))) (mIfS (mOr (mNot (mB (mF 1 f__law_right none (aT (mVar 3) aNil)))) (mOr (mNot (mB (mF 1 f__law_right none (aT (mVar 9) aNil)))) (mNot (mB (mF 1 f__law_right none (aT (mF 2 f__law_bent (some 0) (aT (mVar 1) (aT (mVar 9) aNil))) aNil)))))) (mRet (mC (.bool false))) mNx))))))) (fun _ ρ => ∃ ys s3 s4 s5 s6 s7 s8 s9, PotOk (.list ys) ∧ Vl s3 ∧ Vl s4 ∧ Vl s5 ∧ Vl s6 ∧ Vl s7 ∧ Vl s8 ∧ Vl s9 ∧ ρ = rT (.list is) ys (.list td) s3 s4 s5 s6 s7 s8 s9) (rangeD 0 8) 0 _ ⟨_, s3, none, none, none, none, none, none, hp1', h3, .inl rfl, .inl rfl, .inl rfl, .inl rfl, .inl rfl, .inl rfl, rfl⟩ (by
    intro i ρ d _ ⟨ys, s3, s4, s5, s6, s7, s8, s9, hy, h3, h4, h5, h6, h7, h8, h9, hρ⟩
    subst hρ
    obtain ⟨ys', s3', s5', s6', s7', s8', s9', hy', h3', h5', h6', h7', h8', h9', e⟩ := body2 (sc := .list is) (tl := .list td) (s4 := some ⟨.val, d⟩) hy h3 h5 h6 h7 h8 h9
    refine ⟨rT (.list is) ys (.list td) s3 (some ⟨.val, d⟩) s5 s6 s7 s8 s9, _, .nx, ?_, e, .inl rfl, ys', s3', some ⟨.val, d⟩, s5', s6', s7', s8', s9', hy', h3', .inr ⟨_, rfl⟩, h5', h6', h7', h8', h9', rfl⟩
    rcases h4 with rfl | ⟨t, rfl⟩ <;> simp [rT, gN, mStore, okSet])
  subst hρ
  have a3 := for_run hr l2
  refine ⟨.none, ?_⟩
  have em : m_law [some ⟨.val, .list is⟩, none, none, none, none, none, none, none, none, none] = some (.ok (.rt (.val (.bool true))), rT (.list is) ys (.list td) s3 s4 s5 s6 s7 s8 s9) := by
    unfold m_law
    rw [seq_nx a0, seq_nx a1, seq_nx a2, seq_nx a3]
    simp [rT, mkFn, isListAt, slots, slot0, mSeq, mAsg, mRet, mIfS, mDrop, mB, bnd, Mi.ret, thaw, thawR, mVal, valR, mVar, mC, mBin, mUn, op1, op2, look, opN, lookAll, mCall, aT, aV, aNil, mStore, okSet, isT, asB, mTup, mLst, valsOf, mNx, outIo, retR, Md.isOwn, Md.isIo, Md.isLk, fI, mIf, mAnd, mOr, mNot, mAndV, mOrV, mChain, mPar, mPar3, mF, mFk, callF, callIo, putIo, freezeBy, flatD, flatAll, flatY, mayGive, notSlot, gath, mAsgG, gT, gsCons, gsNil, gIx, gN, setIx, mSetIx, ownAt, mApp, appTo, mIsi, isiD, isK, kinds, tyD, mSl, mPart, mNoPart, asInt, slD, cutD, lenD, absD, max2D, min2D, gcdD, lcmD, intD, listD, tupleD, allD, boolsOf, divmodD, addD, subD, mulD, fdivD, modD, powD, leD, gtD, geD, isD, isntD, negD, notD, revD, isNone, sizeLine, mMt, mtS, startsD, findD, fmtD, mJs, strD]
  simp [f_law, mkFn, isListAt, slots, slot0, em, outIo, retR]
end K12

open PySem PySem.W PyProof.Rows L2
set_option maxRecDepth 100000 in
set_option maxHeartbeats 0 in
theorem PySem.Challenge.cw_carryoffice_k12_any_text_as_ratio_holds : PySem.Challenge.rw_carryoffice_k12_any_text_as_ratio.Holds := by
  w_on; o_law; k_head; (case hw => w_witness2)
  k_fill
  refine Mi.law_end (l := PySem.Challenge.rw_carryoffice_k12_any_text_as_ratio) (k := 7) (F := K12.f_law) rfl rfl ⟨rfl, by decide, by decide⟩ (fun w h Y => PySem.W.kIn_of Y) ?F K12.law_ok
  case F =>
    intro w mg fa h KX G hmg
    have T := by
      refine' K12.txt_mk KX G ?b_ValueError ?b_abs ?b_bool ?b_divmod ?b_int ?b_isinstance ?b_len ?b_max ?b_range ?b_repr ?b_str ?b_tuple ?g_gcd ?c_BEYOND ?c_DIGITS ?c_FIGURES ?aC_BadRatio ?xL_BadRatio ?vm_BadRatio ?sa_BadRatio ?ga_BadRatio ?gg_BadRatio ?no_BadRatio ?kC_BadRatio ?eC_BadRatio ?tC_BadRatio ?hC_BadRatio ?iC_BadRatio ?sC_BadRatio ?ha_BadRatio ?hn_BadRatio ?ht_BadRatio ?hm_BadRatio ?g_InvalidText ?g_OfficeError ?k_BadRatio_InvalidText ?k_BadRatio_OfficeError ?k_BadRatio_ValueError
      (case b_ValueError => k_is)
      (case b_abs => k_is)
      (case b_bool => k_is)
      (case b_divmod => k_is)
      (case b_int => k_is)
      (case b_isinstance => k_is)
      (case b_len => k_is)
      (case b_max => k_is)
      (case b_range => k_is)
      (case b_repr => k_is)
      (case b_str => k_is)
      (case b_tuple => k_is)
      (case g_gcd => k_is)
      (case c_BEYOND => k_is)
      (case c_DIGITS => k_is)
      (case c_FIGURES => k_is)
      (case aC_BadRatio => k_is)
      (case xL_BadRatio => k_is)
      (case vm_BadRatio => first | rfl | decide +kernel)
      (case sa_BadRatio => k_is)
      (case ga_BadRatio => k_is)
      (case gg_BadRatio => k_is)
      (case no_BadRatio => k_is)
      (case kC_BadRatio => k_is)
      (case eC_BadRatio => k_is)
      (case tC_BadRatio => k_is)
      (case hC_BadRatio => k_is)
      (case iC_BadRatio => k_is)
      (case sC_BadRatio => k_is)
      (case ha_BadRatio => k_is)
      (case hn_BadRatio => k_is)
      (case ht_BadRatio => k_is)
      (case hm_BadRatio => k_is)
      (case g_InvalidText => k_is)
      (case g_OfficeError => k_is)
      (case k_BadRatio_InvalidText => first | kit_is | k_is)
      (case k_BadRatio_OfficeError => first | kit_is | k_is)
      (case k_BadRatio_ValueError => first | kit_is | k_is)
    have d__law_draw := by
      refine' Mi.dat (x := "_law_draw") (y := "_law_draw") (st := K12.top 21) KX G ?a ?l ?c ?k
      (case a => k_is); (case l => k_is); (case c => k_is); (case k => k_is)
    have d__law_pick := by
      refine' Mi.dat (x := "_law_pick") (y := "_law_pick") (st := K12.top 22) KX G ?a ?l ?c ?k
      (case a => k_is); (case l => k_is); (case c => k_is); (case k => k_is)
    have d__law_common := by
      refine' Mi.dat (x := "_law_common") (y := "_law_common") (st := K12.top 23) KX G ?a ?l ?c ?k
      (case a => k_is); (case l => k_is); (case c => k_is); (case k => k_is)
    have d__law_next := by
      refine' Mi.dat (x := "_law_next") (y := "_law_next") (st := K12.top 26) KX G ?a ?l ?c ?k
      (case a => k_is); (case l => k_is); (case c => k_is); (case k => k_is)
    have d__law_ratio := by
      refine' Mi.dat (x := "_law_ratio") (y := "_law_ratio") (st := K12.top 24) KX G ?a ?l ?c ?k
      (case a => k_is); (case l => k_is); (case c => k_is); (case k => k_is)
    have d__behind_digits := by
      refine' Mi.dat (x := "_behind_digits") (y := "_behind_digits") (st := K12.top 17) KX G ?a ?l ?c ?k
      (case a => k_is); (case l => k_is); (case c => k_is); (case k => k_is)
    have d_fraction := by
      refine' Mi.dat (x := "fraction") (y := "fraction") (st := K12.top 15) KX G ?a ?l ?c ?k
      (case a => k_is); (case l => k_is); (case c => k_is); (case k => k_is)
    have d_parse_ratio := by
      refine' Mi.dat (x := "parse_ratio") (y := "parse_ratio") (st := K12.top 18) KX G ?a ?l ?c ?k
      (case a => k_is); (case l => k_is); (case c => k_is); (case k => k_is)
    have d__law_read := by
      refine' Mi.dat (x := "_law_read") (y := "_law_read") (st := K12.top 27) KX G ?a ?l ?c ?k
      (case a => k_is); (case l => k_is); (case c => k_is); (case k => k_is)
    have d__law_heard := by
      refine' Mi.dat (x := "_law_heard") (y := "_law_heard") (st := K12.top 29) KX G ?a ?l ?c ?k
      (case a => k_is); (case l => k_is); (case c => k_is); (case k => k_is)
    have d_is_row := by
      refine' Mi.dat (x := "is_row") (y := "is_row") (st := K12.top 8) KX G ?a ?l ?c ?k
      (case a => k_is); (case l => k_is); (case c => k_is); (case k => k_is)
    have d_is_integer := by
      refine' Mi.dat (x := "is_integer") (y := "is_integer") (st := K12.top 7) KX G ?a ?l ?c ?k
      (case a => k_is); (case l => k_is); (case c => k_is); (case k => k_is)
    have d_is_ratio := by
      refine' Mi.dat (x := "is_ratio") (y := "is_ratio") (st := K12.top 13) KX G ?a ?l ?c ?k
      (case a => k_is); (case l => k_is); (case c => k_is); (case k => k_is)
    have d_want_ratio := by
      refine' Mi.dat (x := "want_ratio") (y := "want_ratio") (st := K12.top 14) KX G ?a ?l ?c ?k
      (case a => k_is); (case l => k_is); (case c => k_is); (case k => k_is)
    have d__law_pot := by
      refine' Mi.dat (x := "_law_pot") (y := "_law_pot") (st := K12.top 20) KX G ?a ?l ?c ?k
      (case a => k_is); (case l => k_is); (case c => k_is); (case k => k_is)
    have d__law_long_texts := by
      refine' Mi.dat (x := "_law_long_texts") (y := "_law_long_texts") (st := K12.top 31) KX G ?a ?l ?c ?k
      (case a => k_is); (case l => k_is); (case c => k_is); (case k => k_is)
    have d__law_right := by
      refine' Mi.dat (x := "_law_right") (y := "_law_right") (st := K12.top 30) KX G ?a ?l ?c ?k
      (case a => k_is); (case l => k_is); (case c => k_is); (case k => k_is)
    have d_ratio_text := by
      refine' Mi.dat (x := "ratio_text") (y := "ratio_text") (st := K12.top 16) KX G ?a ?l ?c ?k
      (case a => k_is); (case l => k_is); (case c => k_is); (case k => k_is)
    have d__law_text := by
      refine' Mi.dat (x := "_law_text") (y := "_law_text") (st := K12.top 25) KX G ?a ?l ?c ?k
      (case a => k_is); (case l => k_is); (case c => k_is); (case k => k_is)
    have d__law_bent := by
      refine' Mi.dat (x := "_law_bent") (y := "_law_bent") (st := K12.top 28) KX G ?a ?l ?c ?k
      (case a => k_is); (case l => k_is); (case c => k_is); (case k => k_is)
    have d_law := by
      refine' Mi.dat (x := "law") (y := "law") (st := K12.top 32) KX G ?a ?l ?c ?k
      (case a => k_is); (case l => k_is); (case c => k_is); (case k => k_is)
    have i_BadRatio := by
      refine' Mi.idat (qual := "BadRatio.__init__") (st := inClass (K12.top 4) 0) KX T.x_BadRatio ?a ?t ?l ?c ?k
      (case a => k_is); (case t => k_is); (case l => k_is); (case c => k_is); (case k => k_is)
    exact K12.all hmg T i_BadRatio d__law_draw d__law_pick d__law_common d__law_next d__law_ratio d__behind_digits d_fraction d_parse_ratio d__law_read d__law_heard d_is_row d_is_integer d_is_ratio d_want_ratio d__law_pot d__law_long_texts d__law_right d_ratio_text d__law_text d__law_bent d_law

