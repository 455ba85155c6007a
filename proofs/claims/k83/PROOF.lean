import PyProof.Rows.All
import Wide.All
import OpenK.AllK
import Wide.FinOn
import HandS.ForMost
import HandS.ForExc
import HandS.Walk
import HandS.Wide
import HandS.WideBits
import HandS.Gcd
import HandS.IsInst
import HandS.RaiseMore
import HandS.FStr
import HandS.Defaults
import HandS.ExcInit
import HandS.TryOnly
import HandS.Evl
import HandS.Zip
import HandS.Conv
import HandS.TupAny
import HandS.Flow
import HandS.Style
import HandS.StrMore
import HandS.TupMul
import HandS.Deep
import HandS.TupLe
import HandS.ExcOwn
import HandS.Ends
import HandS.EndBits
import HandS.ExcField
import HandS.ExcIs
import KE.KExcIs
import KE.GoesMore
import PySem.Challenge.RW_carryoffice_k83_whole_even_rows
set_option Elab.async false
set_option linter.all false
set_option maxRecDepth 100000
set_option maxHeartbeats 4000000
set_option exponentiation.threshold 20000
/-! Mi: data over the hand layer: what stands for what, slots that own a list, states and how they go on. -/
namespace Mi
open PySem L2 Evl

abbrev D := PyData
/-- how a slot holds: a value that never changes; a list of its own; such a list while it is walked; a list of the caller's; that one while it is walked -/
inductive Md where
  | val | own | lock | io | iol
  deriving DecidableEq
def Md.isOwn : Md → Bool
  | .val => false
  | _ => true
def Md.isIo : Md → Bool
  | .io => true
  | .iol => true
  | _ => false
def Md.isLk : Md → Bool
  | .lock => true
  | .iol => true
  | _ => false
structure Slot where
  m : Md
  d : D
abbrev R := List (Option Slot)
/-- what an expression gives: a datum; a new list; the list that a slot owns -/
inductive Res where
  | val (d : D)
  | fresh (xs : List D)
  | slot (i : Nat)
structure Exc where
  cls : Str
  fs : List (Str × D)
inductive Out (α : Type) where
  | ok (a : α)
  | exc (e : Exc)
abbrev M (α : Type) := R → Option (Out α × R)
def ret {α : Type} (a : α) : M α := fun ρ => some (.ok a, ρ)
def bnd {α β : Type} (m : M α) (f : α → M β) : M β := fun ρ => match m ρ with
  | some (.ok a, ρ') => f a ρ'
  | some (.exc e, ρ') => some (.exc e, ρ')
  | none => none
def stuck {α : Type} : M α := fun _ => none

/-! ### what stands for what -/
mutual
inductive Rp (K : PySem.W.Frag) (H : Hp) : V → D → Prop
  | non : Rp K H .non .none
  | bl (b : Bool) : Rp K H (.bl b) (.bool b)
  | int (i : Int) : Rp K H (.int i) (.int i)
  | str (x : Str) : Rp K H (.str x) (.str x)
  | lst {a : Addr} {xs : List V} {ds : List D} : SqL K H a xs → RpAll K H xs ds → Rp K H (.ref a) (.list ds)
  | tup {a : Addr} {xs : List V} {ds : List D} : SqT K H a xs → RpAll K H xs ds → Rp K H (.ref a) (.tuple ds)
  | dct {a : Addr} {kvs : List (Key × V)} {ds : List (D × D)} : Rd H a (.dK kvs) → RpKv K H kvs ds → Rp K H (.ref a) (.dict ds)
inductive RpAll (K : PySem.W.Frag) (H : Hp) : List V → List D → Prop
  | nil : RpAll K H [] []
  | cons {v : V} {vs : List V} {d : D} {ds : List D} : Rp K H v d → RpAll K H vs ds → RpAll K H (v :: vs) (d :: ds)
inductive RpKv (K : PySem.W.Frag) (H : Hp) : List (Key × V) → List (D × D) → Prop
  | nil : RpKv K H [] []
  | cons {k : Key} {v : V} {kvs : List (Key × V)} {c d : D} {ds : List (D × D)} : Rp K H (kV k) c → Rp K H v d → RpKv K H kvs ds → RpKv K H ((k, v) :: kvs) ((c, d) :: ds)
end
section
variable {K : PySem.W.Frag} {H H' Hb Hb' : Hp} {v : V} {vs : List V} {d : D} {ds : List D}
mutual
theorem Rp.mono (e : Ex H H') : ∀ {v : V} {d : D}, Rp K H v d → Rp K H' v d
  | _, _, .non => .non
  | _, _, .bl b => .bl b
  | _, _, .int i => .int i
  | _, _, .str x => .str x
  | _, _, .lst h r => .lst (ex_l e h) (RpAll.mono e r)
  | _, _, .tup h r => .tup (ex_t e h) (RpAll.mono e r)
  | _, _, .dct h r => .dct (ex_rd e h) (RpKv.mono e r)
theorem RpAll.mono (e : Ex H H') : ∀ {vs : List V} {ds : List D}, RpAll K H vs ds → RpAll K H' vs ds
  | _, _, .nil => .nil
  | _, _, .cons a b => .cons (Rp.mono e a) (RpAll.mono e b)
theorem RpKv.mono (e : Ex H H') : ∀ {vs : List (Key × V)} {ds : List (D × D)}, RpKv K H vs ds → RpKv K H' vs ds
  | _, _, .nil => .nil
  | _, _, .cons a b c => .cons (Rp.mono e a) (Rp.mono e b) (RpKv.mono e c)
end
theorem RpAll.length : ∀ {vs : List V} {ds : List D}, RpAll K H vs ds → vs.length = ds.length
  | _, _, .nil => rfl
  | _, _, .cons _ b => congrArg Nat.succ b.length
theorem RpAll.get : ∀ {vs : List V} {ds : List D} {i : Nat} {d : D}, RpAll K H vs ds → ds[i]? = some d → ∃ v, vs[i]? = some v ∧ Rp K H v d
  | _, _, _, _, .nil, e => by simp at e
  | _, _, 0, _, .cons a _, e => by simp at e; subst e; exact ⟨_, rfl, a⟩
  | _, _, i + 1, _, .cons _ b, e => by
    obtain ⟨v, h1, h2⟩ := RpAll.get (i := i) b (by simpa using e)
    exact ⟨v, by simpa using h1, h2⟩
theorem RpAll.getV : ∀ {vs : List V} {ds : List D} {i : Nat} {v : V}, RpAll K H vs ds → vs[i]? = some v → ∃ d, ds[i]? = some d ∧ Rp K H v d
  | _, _, _, _, .nil, e => by simp at e
  | _, _, 0, _, .cons a _, e => by simp at e; subst e; exact ⟨_, rfl, a⟩
  | _, _, i + 1, _, .cons _ b, e => by
    obtain ⟨v, h1, h2⟩ := RpAll.getV (i := i) b (by simpa using e)
    exact ⟨v, by simpa using h1, h2⟩
theorem RpAll.append : ∀ {vs ws : List V} {ds es : List D}, RpAll K H vs ds → RpAll K H ws es → RpAll K H (vs ++ ws) (ds ++ es)
  | _, _, _, _, .nil, b => b
  | _, _, _, _, .cons a r, b => .cons a (r.append b)
theorem RpAll.take : ∀ {vs : List V} {ds : List D} (n : Nat), RpAll K H vs ds → RpAll K H (vs.take n) (ds.take n)
  | _, _, 0, _ => .nil
  | _, _, _ + 1, .nil => .nil
  | _, _, n + 1, .cons a b => .cons a (b.take n)
theorem RpAll.drop : ∀ {vs : List V} {ds : List D} (n : Nat), RpAll K H vs ds → RpAll K H (vs.drop n) (ds.drop n)
  | _, _, 0, r => r
  | _, _, _ + 1, .nil => .nil
  | _, _, n + 1, .cons _ b => b.drop n
theorem RpAll.set : ∀ {vs : List V} {ds : List D} (n : Nat) {v : V} {d : D}, RpAll K H vs ds → Rp K H v d → RpAll K H (vs.set n v) (ds.set n d)
  | _, _, _, _, _, .nil, _ => .nil
  | _, _, 0, _, _, .cons _ b, r => .cons r b
  | _, _, n + 1, _, _, .cons a b, r => .cons a (b.set n r)
theorem RpAll.rep {v : V} {d : D} (r : Rp K H v d) : ∀ n, RpAll K H (List.replicate n v) (List.replicate n d)
  | 0 => .nil
  | n + 1 => .cons r (RpAll.rep r n)
theorem RpAll.rev : ∀ {vs : List V} {ds : List D}, RpAll K H vs ds → RpAll K H vs.reverse ds.reverse
  | _, _, .nil => .nil
  | _, _, .cons a b => by
    rw [List.reverse_cons, List.reverse_cons]
    exact b.rev.append (.cons a .nil)
theorem Rp.int_inv {v : V} {i : Int} (h : Rp K H v (.int i)) : v = .int i := by cases h; rfl
theorem Rp.bool_inv {v : V} {i : Bool} (h : Rp K H v (.bool i)) : v = .bl i := by cases h; rfl
theorem Rp.str_inv {v : V} {i : Str} (h : Rp K H v (.str i)) : v = .str i := by cases h; rfl
theorem Rp.none_inv {v : V} (h : Rp K H v .none) : v = .non := by cases h; rfl
end

/-! ### states -/
def Own (σ : St) (ρ : R) (a : Addr) : Prop := ∃ (i : Nat) (s : Slot), ρ[i]? = some (some s) ∧ s.m.isOwn = true ∧ σ[i]? = some (some (.ref a))
structure Rel (K : PySem.W.Frag) (Hb H : Hp) (σ : St) (ρ : R) : Prop where
  len : σ.length = ρ.length
  ex : Ex Hb H
  val : ∀ (i : Nat) (s : Slot), ρ[i]? = some (some s) → s.m.isOwn = false → ∃ v, σ[i]? = some (some v) ∧ Rp K Hb v s.d
  own : ∀ (i : Nat) (s : Slot), ρ[i]? = some (some s) → s.m.isOwn = true → ∃ a vs xs, σ[i]? = some (some (.ref a)) ∧ s.d = .list xs ∧ Hb a = none ∧ H a = some (.lst vs) ∧ RpAll K Hb vs xs
  inj : ∀ (i j : Nat) (s t : Slot) (a : Addr), ρ[i]? = some (some s) → ρ[j]? = some (some t) → s.m.isOwn = true → t.m.isOwn = true → σ[i]? = some (some (.ref a)) → σ[j]? = some (some (.ref a)) → i = j
/-- from one state to a later one -/
structure Go (σ : St) (ρ : R) (Hb H : Hp) (σ' : St) (ρ' : R) (Hb' H' : Hp) : Prop where
  b : Ex Hb Hb'
  k : ∀ a o, H a = some o → ¬ Own σ ρ a → H' a = some o
  f : ∀ a, Hb a = none → Hb' a ≠ none → H a = none ∨ Own σ ρ a
  t : ∀ a, H a ≠ none → H' a ≠ none
  o : ∀ a, Own σ' ρ' a → Own σ ρ a ∨ H a = none
  io : ∀ (i : Nat) (s : Slot), ρ[i]? = some (some s) → s.m.isIo = true → σ'[i]? = σ[i]? ∧ ∃ s', ρ'[i]? = some (some s') ∧ s'.m.isIo = true
  lk : ∀ (i : Nat) (s : Slot), ρ[i]? = some (some s) → s.m.isLk = true → σ'[i]? = σ[i]? ∧ ρ'[i]? = some (some s)
section
variable {K : PySem.W.Frag} {σ σ1 σ2 : St} {ρ ρ1 ρ2 : R} {Hb H Hb1 H1 Hb2 H2 : Hp} {v : V} {r : Res} {d : D} {a p : Addr}
theorem Rel.owned (R : Rel K Hb H σ ρ) (h : Own σ ρ a) : Hb a = none ∧ ∃ vs, H a = some (.lst vs) := by
  obtain ⟨i, s, h1, h2, h3⟩ := h
  obtain ⟨a', vs, xs, e1, _, e2, e3, _⟩ := R.own i s h1 h2
  rw [h3] at e1
  cases e1
  exact ⟨e2, vs, e3⟩
theorem Go.refl : Go σ ρ Hb H σ ρ Hb H := ⟨Ex.refl _, fun _ _ h _ => h, fun a h1 h2 => absurd h1 h2, fun _ h => h, fun _ h => .inl h, fun i s h1 h2 => ⟨rfl, s, h1, h2⟩, fun i s h1 _ => ⟨rfl, h1⟩⟩
theorem Go.trans (x : Go σ ρ Hb H σ1 ρ1 Hb1 H1) (y : Go σ1 ρ1 Hb1 H1 σ2 ρ2 Hb2 H2) : Go σ ρ Hb H σ2 ρ2 Hb2 H2 where
  b := x.b.trans y.b
  k := fun a o h n => by
    refine y.k a o (x.k a o h n) fun q => ?_
    rcases x.o a q with z | z
    · exact n z
    · rw [h] at z; cases z
  f := fun a h1 h2 => by
    by_cases h3 : Hb1 a = none
    · rcases y.f a h3 h2 with z | z
      · left
        exact Classical.byContradiction fun q => x.t a q z
      · exact (x.o a z).symm
    · exact x.f a h1 h3
  t := fun a h => y.t a (x.t a h)
  o := fun a h => by
    rcases y.o a h with z | z
    · exact x.o a z
    · right
      exact Classical.byContradiction fun q => x.t a q z
  io := fun i s h1 h2 => by
    obtain ⟨e1, s1, h3, h4⟩ := x.io i s h1 h2
    obtain ⟨e2, s2, h5, h6⟩ := y.io i s1 h3 h4
    exact ⟨e2.trans e1, s2, h5, h6⟩
  lk := fun i s h1 h2 => by
    obtain ⟨e1, h3⟩ := x.lk i s h1 h2
    obtain ⟨e2, h4⟩ := y.lk i s h3 h2
    exact ⟨e2.trans e1, h4⟩
/-- new objects alone -/
structure New (Hb H Hb' H' : Hp) : Prop where
  b : Ex Hb Hb'
  h : Ex H H'
  e : Ex Hb' H'
  f : ∀ a, Hb a = none → Hb' a ≠ none → H a = none
theorem New.refl (e : Ex Hb H) : New Hb H Hb H := ⟨Ex.refl _, Ex.refl _, e, fun a h1 h2 => absurd h1 h2⟩
theorem New.trans (x : New Hb H Hb1 H1) (y : New Hb1 H1 Hb2 H2) : New Hb H Hb2 H2 := ⟨x.b.trans y.b, x.h.trans y.h, y.e, fun a h1 h2 => by
  by_cases h3 : Hb1 a = none
  · have z := y.f a h3 h2
    exact fresh_back x.h z
  · exact x.f a h1 h3⟩
theorem New.go (n : New Hb H Hb1 H1) : Go σ ρ Hb H σ ρ Hb1 H1 := ⟨n.b, fun a o h _ => n.h a o h, fun a h1 h2 => .inl (n.f a h1 h2), fun a h q => h (fresh_back n.h q), fun _ h => .inl h, fun i s h1 h2 => ⟨rfl, s, h1, h2⟩, fun i s h1 _ => ⟨rfl, h1⟩⟩
theorem New.rel (n : New Hb H Hb1 H1) (R : Rel K Hb H σ ρ) : Rel K Hb1 H1 σ ρ where
  len := R.len
  ex := n.e
  val := fun i s h1 h2 => by
    obtain ⟨v, e, r⟩ := R.val i s h1 h2
    exact ⟨v, e, r.mono n.b⟩
  own := fun i s h1 h2 => by
    obtain ⟨a, vs, xs, e1, e2, e3, e4, e5⟩ := R.own i s h1 h2
    refine ⟨a, vs, xs, e1, e2, ?_, n.h a _ e4, e5.mono n.b⟩
    refine Classical.byContradiction fun q => ?_
    have z := n.f a e3 q
    rw [e4] at z; cases z
  inj := R.inj
theorem ex_upd2 {o : HO} (e : Ex Hb H) : Ex (upd Hb p o) (upd H p o) := fun a u h => by
  by_cases q : a = p
  · subst q; rw [upd_same] at h ⊢; exact h
  · rw [upd_ne q] at h ⊢; exact e a u h
/-- a new object that never changes | that may change -/
theorem New.fix {o : HO} (e : Ex Hb H) (h : H p = none) : New Hb H (upd Hb p o) (upd H p o) := ⟨Ex.new (fresh_back e h), Ex.new h, ex_upd2 e, fun a h1 h2 => by
  by_cases q : a = p
  · rw [q]; exact h
  · rw [upd_ne q] at h2; exact absurd h1 h2⟩
theorem New.mut {o : HO} (e : Ex Hb H) (h : H p = none) : New Hb H Hb (upd H p o) := ⟨Ex.refl _, Ex.new h, e.mut (fresh_back e h), fun a h1 h2 => absurd h1 h2⟩

/-- what a value is of what was told -/
def RR (K : PySem.W.Frag) (Hb H H0 : Hp) (v : V) : Res → Prop
  | .val d => Rp K Hb v d
  | .fresh xs => ∃ a vs, v = .ref a ∧ Hb a = none ∧ H a = some (.lst vs) ∧ RpAll K Hb vs xs ∧ H0 a = none
  | .slot _ => False
def RepR (K : PySem.W.Frag) (Hb H : Hp) (σ : St) (ρ : R) (H0 : Hp) (v : V) : Res → Prop
  | .val d => Rp K Hb v d
  | .fresh xs => ∃ a vs, v = .ref a ∧ Hb a = none ∧ H a = some (.lst vs) ∧ RpAll K Hb vs xs ∧ H0 a = none ∧ ¬ Own σ ρ a
  | .slot i => σ[i]? = some (some v)
theorem RepR.step {H0 : Hp} (g : Go σ ρ Hb H σ ρ1 Hb1 H1) (h : RepR K Hb H σ ρ H0 v r) : RepR K Hb1 H1 σ ρ1 H0 v r := by
  cases r with
  | val d =>
    have h : Rp K Hb v d := h
    exact h.mono g.b
  | slot i => exact h
  | fresh xs =>
    obtain ⟨a, vs, e, h1, h2, h3, h4, h5⟩ := h
    refine ⟨a, vs, e, ?_, g.k a _ h2 h5, h3.mono g.b, h4, fun q => ?_⟩
    · refine Classical.byContradiction fun q => ?_
      rcases g.f a h1 q with z | z
      · rw [h2] at z; cases z
      · exact h5 z
    · rcases g.o a q with z | z
      · exact h5 z
      · rw [h2] at z; cases z
/-- read from an earlier state -/
theorem RepR.from' {H0 H00 : Hp} (t : ∀ a, H00 a ≠ none → H0 a ≠ none) (h : RepR K Hb H σ ρ H0 v r) : RepR K Hb H σ ρ H00 v r := by
  cases r with
  | val d => exact h
  | slot i => exact h
  | fresh xs =>
    obtain ⟨a, vs, e, h1, h2, h3, h4, h5⟩ := h
    exact ⟨a, vs, e, h1, h2, h3, Classical.byContradiction fun q => t a q h4, h5⟩
theorem RR.rep {H0 : Hp} (R : Rel K Hb H0 σ ρ) (h : RR K Hb1 H1 H0 v r) : RepR K Hb1 H1 σ ρ H0 v r := by
  cases r with
  | val d => exact h
  | slot i => exact h.elim
  | fresh xs =>
    obtain ⟨a, vs, e, h1, h2, h3, h4⟩ := h
    refine ⟨a, vs, e, h1, h2, h3, h4, fun q => ?_⟩
    obtain ⟨_, ws, z⟩ := R.owned q
    rw [h4] at z; cases z

/-- what is seen: the datum, its top perhaps in a list that may change -/
def Top (K : PySem.W.Frag) (Hb H : Hp) (v : V) (d : D) : Prop := Rp K Hb v d ∨ ∃ a vs xs, v = .ref a ∧ d = .list xs ∧ H a = some (.lst vs) ∧ RpAll K Hb vs xs
def look (r : Res) (ρ : R) : Option D := match r with
  | .val d => some d
  | .fresh xs => some (.list xs)
  | .slot i => match ρ[i]? with
    | some (some s) => some s.d
    | _ => none
theorem look_top {H0 : Hp} (R : Rel K Hb H σ ρ) (h : RepR K Hb H σ ρ H0 v r) (e : look r ρ = some d) : Top K Hb H v d := by
  cases r with
  | val d' => cases e; exact .inl h
  | fresh xs =>
    cases e
    obtain ⟨a, vs, e, h1, h2, h3, _⟩ := h
    exact .inr ⟨a, vs, xs, e, rfl, h2, h3⟩
  | slot i =>
    have h : σ[i]? = some (some v) := h
    unfold look at e
    dsimp only at e
    split at e
    · rename_i s hs
      cases e
      cases q : s.m.isOwn with
      | false =>
        obtain ⟨v', e1, e2⟩ := R.val i s hs q
        rw [h] at e1; cases e1
        exact .inl e2
      | true =>
        obtain ⟨a, vs, xs, e1, e2, e3, e4, e5⟩ := R.own i s hs q
        rw [h] at e1; cases e1
        exact .inr ⟨a, vs, xs, rfl, e2, e4, e5⟩
    · cases e
theorem Top.mono (n : New Hb H Hb1 H1) (h : Top K Hb H v d) : Top K Hb1 H1 v d := by
  rcases h with h | ⟨a, vs, xs, e1, e2, e3, e4⟩
  · exact .inl (h.mono n.b)
  · exact .inr ⟨a, vs, xs, e1, e2, n.h a _ e3, e4.mono n.b⟩
/-- .. in the heap as it is -/
theorem Top.rp (e : Ex Hb H) (h : Top K Hb H v d) : Rp K H v d := by
  rcases h with h | ⟨a, vs, xs, rfl, rfl, e3, e4⟩
  · exact h.mono e
  · exact .lst (SqL.of e3) (e4.mono e)
theorem Top.list {xs : List D} (e : Ex Hb H) (h : Top K Hb H v (.list xs)) : ∃ a vs, v = .ref a ∧ SqL K H a vs ∧ RpAll K Hb vs xs := by
  rcases h with h | ⟨a, vs, xs', rfl, e2, e3, e4⟩
  · cases h with
    | lst h1 h2 => exact ⟨_, _, rfl, ex_l e h1, h2⟩
  · cases e2
    exact ⟨a, vs, rfl, SqL.of e3, e4⟩
theorem Top.tuple {xs : List D} (e : Ex Hb H) (h : Top K Hb H v (.tuple xs)) : ∃ a vs, v = .ref a ∧ SqT K H a vs ∧ RpAll K Hb vs xs := by
  rcases h with h | ⟨a, vs, xs', rfl, e2, e3, e4⟩
  · cases h with
    | tup h1 h2 => exact ⟨_, _, rfl, ex_t e h1, h2⟩
  · cases e2
theorem Top.int {i : Int} (h : Top K Hb H v (.int i)) : v = .int i := by
  rcases h with h | ⟨a, vs, xs', rfl, e2, _⟩
  · exact h.int_inv
  · cases e2
theorem Top.bool {i : Bool} (h : Top K Hb H v (.bool i)) : v = .bl i := by
  rcases h with h | ⟨a, vs, xs', rfl, e2, _⟩
  · exact h.bool_inv
  · cases e2
theorem Top.str {i : Str} (h : Top K Hb H v (.str i)) : v = .str i := by
  rcases h with h | ⟨a, vs, xs', rfl, e2, _⟩
  · exact h.str_inv
  · cases e2
theorem Top.none (h : Top K Hb H v .none) : v = .non := by
  rcases h with h | ⟨a, vs, xs', rfl, e2, _⟩
  · exact h.none_inv
  · cases e2
end
end Mi

/-! Mi: readings by what a state-and-data function tells. -/
namespace Mi
open PySem L2 Evl

/-- nothing leaves -/
abbrev E0W : WX := fun _ _ _ _ => False
/-- an exception of the class e.cls -/
def ExcR (K : PySem.W.Frag) (mg : Str → Option Value) (Hb H : Hp) (c : Value) (d : Option Addr) (e : Exc) : Prop :=
  mg e.cls = some c ∧ ((d = none ∧ e.fs = []) ∨ ∃ dx fs, d = some dx ∧ H dx = some (.xd fs) ∧ Hb dx = none ∧ Paired (fun (p : Str × V) (q : Str × D) => p.1 = q.1 ∧ Rp K Hb p.2 q.2) fs e.fs)
section
variable (K : PySem.W.Frag) (mg : Str → Option Value) (E : WX)
def Sat {α : Type} (σ : St) (Hb H : Hp) (ρ : R) (m : M α) (P : α → St → R → Hp → Hp → Prop) : Prop :=
  ∃ out ρ', m ρ = some (out, ρ') ∧ (∀ a, out = .ok a → ∀ σ' Hb' H', Go σ ρ Hb H σ' ρ' Hb' H' → Rel K Hb' H' σ' ρ' → P a σ' ρ' Hb' H') ∧
    (∀ e, out = .exc e → ∀ σ' c d Hb' H', Go σ ρ Hb H σ' ρ' Hb' H' → Rel K Hb' H' σ' ρ' → ExcR K mg Hb' H' c d e → E c d σ' H')
/-- an expression's reading, a test's, an argument list's, a statement's -/
def tE (m : M Res) : TE := fun σ H Q => ∃ Hb ρ, Rel K Hb H σ ρ ∧ Sat K mg E σ Hb H ρ m fun r σ' ρ' Hb' H' => σ' = σ → ∀ v, RepR K Hb' H' σ ρ' H v r → Q v H'
def tT (m : M Bool) : TT := fun σ H Q => ∃ Hb ρ, Rel K Hb H σ ρ ∧ Sat K mg E σ Hb H ρ m fun b σ' ρ' Hb' H' => σ' = σ → Q b H'
/-- arguments: data and slots (no list is new) -/
inductive RepA (K : PySem.W.Frag) (Hb : Hp) (σ : St) : List V → List Res → Prop
  | nil : RepA K Hb σ [] []
  | val {v : V} {vs : List V} {d : D} {rs : List Res} : Rp K Hb v d → RepA K Hb σ vs rs → RepA K Hb σ (v :: vs) (.val d :: rs)
  | slot {v : V} {vs : List V} {i : Nat} {rs : List Res} : σ[i]? = some (some v) → RepA K Hb σ vs rs → RepA K Hb σ (v :: vs) (.slot i :: rs)
def tA (m : M (List Res)) : TA := fun σ H Q => ∃ Hb ρ, Rel K Hb H σ ρ ∧ Sat K mg E σ Hb H ρ m fun rs σ' ρ' Hb' H' => σ' = σ → ∀ vs, RepA K Hb' σ vs rs → Q vs H'
inductive Fl where
  | nx | bk | ct
  | rt (r : Res)
def FlP (De : Ends) (H0 : Hp) : Fl → St → R → Hp → Hp → Prop
  | .nx, σ', _, _, H' => De.nx σ' H'
  | .bk, σ', _, _, H' => De.bk σ' H'
  | .ct, σ', _, _, H' => De.ct σ' H'
  | .rt r, σ', ρ', Hb', H' => ∀ v, RepR K Hb' H' σ' ρ' H0 v r → De.rt v H'
def tS (m : M Fl) : TS := fun De σ H => ∃ Hb ρ, Rel K Hb H σ ρ ∧ Sat K mg E σ Hb H ρ m (FlP K De H)
/-- a target's -/
def tG (g : D → M Unit) : TG := fun v σ H Q => ∃ Hb ρ d, Rel K Hb H σ ρ ∧ Rp K Hb v d ∧ Sat K mg E σ Hb H ρ (g d) fun _ σ' _ _ H' => Q σ' H'
end

section
variable {K : PySem.W.Frag} {mg : Str → Option Value} {E : WX} {σ : St} {Hb H : Hp} {ρ : R} {α β : Type}
theorem Sat.mono {m : M α} {P P' : α → St → R → Hp → Hp → Prop} (h : Sat K mg E σ Hb H ρ m P)
    (k : ∀ a σ' ρ' Hb' H', Go σ ρ Hb H σ' ρ' Hb' H' → Rel K Hb' H' σ' ρ' → P a σ' ρ' Hb' H' → P' a σ' ρ' Hb' H') : Sat K mg E σ Hb H ρ m P' := by
  obtain ⟨out, ρ', e, h1, h2⟩ := h
  exact ⟨out, ρ', e, fun a q σ' Hb' H' g r => k a σ' ρ' Hb' H' g r (h1 a q σ' Hb' H' g r), h2⟩
theorem Sat.eq {m m' : M α} {P : α → St → R → Hp → Hp → Prop} (h : Sat K mg E σ Hb H ρ m P) (e : m ρ = m' ρ) : Sat K mg E σ Hb H ρ m' P := by
  unfold Sat at h ⊢
  rw [← e]
  exact h
theorem Sat.bnd0 {m : M α} {f : α → M β} {P : β → St → R → Hp → Hp → Prop} (h : Sat K mg E σ Hb H ρ (bnd m f) P) :
    Sat K mg E σ Hb H ρ m fun a σ1 ρ1 Hb1 H1 => ∃ out ρ2, f a ρ1 = some (out, ρ2) ∧ (∀ b, out = .ok b → ∀ σ2 Hb2 H2, Go σ ρ Hb H σ2 ρ2 Hb2 H2 → Rel K Hb2 H2 σ2 ρ2 → P b σ2 ρ2 Hb2 H2) ∧
      (∀ e, out = .exc e → ∀ σ' c d Hb' H', Go σ ρ Hb H σ' ρ2 Hb' H' → Rel K Hb' H' σ' ρ2 → ExcR K mg Hb' H' c d e → E c d σ' H') := by
  obtain ⟨out, ρ', e, h1, h2⟩ := h
  unfold Mi.bnd at e
  split at e
  · rename_i a ρ1 e1
    refine ⟨_, _, e1, fun a' q σ1 Hb1 H1 g1 r1 => ?_, fun e' q => (by cases q)⟩
    cases q
    exact ⟨out, ρ', e, h1, h2⟩
  · rename_i e' ρ1 e1
    cases e
    refine ⟨_, _, e1, fun a' q => (by cases q), fun e'' q => ?_⟩
    cases q
    exact h2 _ rfl
  · cases e
theorem Sat.bnd {m : M α} {f : α → M β} {P : β → St → R → Hp → Hp → Prop} (h : Sat K mg E σ Hb H ρ (bnd m f) P) :
    Sat K mg E σ Hb H ρ m fun a σ1 ρ1 Hb1 H1 => Sat K mg E σ1 Hb1 H1 ρ1 (f a) fun b σ2 ρ2 Hb2 H2 => Go σ ρ Hb H σ2 ρ2 Hb2 H2 → P b σ2 ρ2 Hb2 H2 :=
  h.bnd0.mono fun a σ1 ρ1 Hb1 H1 g1 R1 ⟨out, ρ2, e, h1, h2⟩ =>
    ⟨out, ρ2, e, fun b q σ2 Hb2 H2 _ r2 g => h1 b q σ2 Hb2 H2 g r2, fun e' q σ2 c d Hb2 H2 g2 r2 x => h2 e' q σ2 c d Hb2 H2 (g1.trans g2) r2 x⟩
theorem Sat.ret {a : α} {P : α → St → R → Hp → Hp → Prop} (R : Rel K Hb H σ ρ) (h : Sat K mg E σ Hb H ρ (ret a) P) : P a σ ρ Hb H := by
  obtain ⟨out, ρ', e, h1, _⟩ := h
  cases e
  exact h1 a rfl σ Hb H Go.refl R
end

/-! ### weakening -/
section
variable {X : Cx} {e : Expr} {t t' : TE} {es : List Expr}
theorem _root_.L2.PE.imp (h : PE X e t) (k : ∀ σ H Q, t' σ H Q → t σ H Q) : PE X e t' := ⟨fun pins s σ H Q I w => h.run pins s σ H Q I (k σ H Q w)⟩
theorem _root_.L2.PT.imp {t t' : TT} (h : PT X e t) (k : ∀ σ H Q, t' σ H Q → t σ H Q) : PT X e t' := ⟨fun pins s σ H Q I w => h.run pins s σ H Q I (k σ H Q w)⟩
theorem _root_.L2.PW.imp {t t' : TT} (h : PW X e t) (k : ∀ σ H Q, t' σ H Q → t σ H Q) : PW X e t' := ⟨fun wh pins s σ H Q I w => h.run wh pins s σ H Q I (k σ H Q w)⟩
theorem _root_.L2.PA.imp {t t' : TA} (h : PA X es t) (k : ∀ σ H Q, t' σ H Q → t σ H Q) : PA X es t' := ⟨fun pos pins s σ H Q I w => h.run pos pins s σ H Q I (k σ H Q w)⟩
theorem _root_.L2.PS.imp {st : Stmt} {t t' : TS} (h : PS X st t) (k : ∀ D σ H, t' D σ H → t D σ H) : PS X st t' := ⟨fun pins s σ H De I w => h.run pins s σ H De I (k De σ H w)⟩
theorem _root_.L2.PSs.imp {st : List Stmt} {t t' : TS} (h : PSs X st t) (k : ∀ D σ H, t' D σ H → t D σ H) : PSs X st t' := ⟨fun pins s σ H De I w => h.run pins s σ H De I (k De σ H w)⟩
theorem _root_.L2.PG.imp {tg : Expr} {t t' : TG} (h : PG X tg t) (k : ∀ v σ H Q, t' v σ H Q → t v σ H Q) : PG X tg t' := ⟨fun pins s σ H v u Q I r w => h.run pins s σ H v u Q I r (k v σ H Q w)⟩
end

/-! ### results made plain -/
/-- a new list becomes a datum -/
def thawR : Res → Res
  | .fresh xs => .val (.list xs)
  | r => r
def thaw (m : M Res) : M Res := bnd m fun r => ret (thawR r)
/-- any result becomes a datum; a slot's list is no more its own -/
def valR : Res → M D
  | .val d => ret d
  | .fresh xs => ret (.list xs)
  | .slot i => fun ρ => match ρ[i]? with
    | some (some ⟨.val, d⟩) => some (.ok d, ρ)
    | some (some ⟨.own, d⟩) => some (.ok d, ρ.set i (some ⟨.val, d⟩))
    | _ => none
def mVal (m : M Res) : M D := bnd m valR
section
variable {K : PySem.W.Frag} {mg : Str → Option Value} {E : WX} {σ : St} {Hb H Hb1 H1 : Hp} {ρ ρ1 : R} {v : V} {r : Res} {d : D}
/-- the new list at a is frozen -/
theorem freeze_fresh {a : Addr} {vs : List V} (g : Go σ ρ Hb H σ ρ1 Hb1 H1) (R1 : Rel K Hb1 H1 σ ρ1) (h1 : Hb1 a = none) (h2 : H1 a = some (.lst vs)) (h4 : H a = none) (h5 : ¬ Own σ ρ1 a) :
    Go σ ρ Hb H σ ρ1 (upd Hb1 a (.lst vs)) H1 ∧ Rel K (upd Hb1 a (.lst vs)) H1 σ ρ1 ∧ Ex Hb1 (upd Hb1 a (.lst vs)) ∧ SqL K (upd Hb1 a (.lst vs)) a vs := by
  have ex : Ex Hb1 (upd Hb1 a (.lst vs)) := Ex.new h1
  refine ⟨⟨g.b.trans ex, g.k, fun b q1 q2 => ?_, g.t, g.o, g.io, g.lk⟩, ⟨R1.len, fun b o q => ?_, fun i s q1 q2 => ?_, fun i s q1 q2 => ?_, R1.inj⟩, ex, SqL.of upd_same⟩
  · by_cases e : b = a
    · rw [e]; exact .inl h4
    · rw [upd_ne e] at q2; exact g.f b q1 q2
  · by_cases e : b = a
    · subst e; rw [upd_same] at q; cases q; exact h2
    · rw [upd_ne e] at q; exact R1.ex b o q
  · obtain ⟨w, e1, e2⟩ := R1.val i s q1 q2
    exact ⟨w, e1, e2.mono ex⟩
  · obtain ⟨b, ws, xs, e1, e2, e3, e4, e5⟩ := R1.own i s q1 q2
    refine ⟨b, ws, xs, e1, e2, ?_, e4, e5.mono ex⟩
    rw [upd_ne ?_]
    · exact e3
    · intro e
      exact h5 ⟨i, s, q1, q2, by rw [e1, e]⟩
/-- the list of slot i is frozen -/
theorem freeze_slot {i : Nat} {x : D} (R1 : Rel K Hb1 H1 σ ρ1) (hs : ρ1[i]? = some (some ⟨.own, x⟩)) :
    ∃ Hb2, Go σ ρ1 Hb1 H1 σ (ρ1.set i (some ⟨.val, x⟩)) Hb2 H1 ∧ Rel K Hb2 H1 σ (ρ1.set i (some ⟨.val, x⟩)) ∧ ∃ v, σ[i]? = some (some v) ∧ Rp K Hb2 v x := by
  obtain ⟨a, vs, xs, e1, e2, e3, e4, e5⟩ := R1.own i _ hs rfl
  have e2 : x = .list xs := e2
  subst e2
  have ex : Ex Hb1 (upd Hb1 a (.lst vs)) := Ex.new e3
  have hi : i < ρ1.length := (List.getElem?_eq_some_iff.mp hs).1
  have hown : Own σ ρ1 a := ⟨i, _, hs, rfl, e1⟩
  have back : ∀ (j : Nat) (s : Slot), (ρ1.set i (some ⟨.val, .list xs⟩))[j]? = some (some s) → (j = i ∧ s = ⟨.val, .list xs⟩) ∨ (j ≠ i ∧ ρ1[j]? = some (some s)) := fun j s q => by
    by_cases e : j = i
    · subst e
      rw [List.getElem?_set_self hi] at q
      cases q
      exact .inl ⟨rfl, rfl⟩
    · rw [List.getElem?_set_ne (Ne.symm e)] at q
      exact .inr ⟨e, q⟩
  have rp : Rp K (upd Hb1 a (.lst vs)) (.ref a) (.list xs) := .lst (SqL.of upd_same) (e5.mono ex)
  refine ⟨upd Hb1 a (.lst vs), ⟨ex, fun _ _ h _ => h, fun b q1 q2 => ?_, fun _ h => h, fun b q => ?_, fun j s q1 q2 => ?_, fun j s q1 q2 => ?_⟩, ⟨by simp [R1.len], fun b o q => ?_, fun j s q1 q2 => ?_, fun j s q1 q2 => ?_, fun j k s t b q1 q2 q3 q4 q5 q6 => ?_⟩, _, e1, rp⟩
  · by_cases e : b = a
    · rw [e]; exact .inr hown
    · rw [upd_ne e] at q2; exact absurd q1 q2
  · obtain ⟨j, s, q1, q2, q3⟩ := q
    rcases back j s q1 with ⟨_, z⟩ | ⟨_, z⟩
    · rw [z] at q2; cases q2
    · exact .inl ⟨j, s, z, q2, q3⟩
  · by_cases e : j = i
    · subst e; rw [hs] at q1; cases q1; cases q2
    · exact ⟨rfl, s, by rw [List.getElem?_set_ne (Ne.symm e)]; exact q1, q2⟩
  · by_cases e : j = i
    · subst e; rw [hs] at q1; cases q1; cases q2
    · exact ⟨rfl, by rw [List.getElem?_set_ne (Ne.symm e)]; exact q1⟩
  · by_cases e : b = a
    · subst e; rw [upd_same] at q; cases q; exact e4
    · rw [upd_ne e] at q; exact R1.ex b o q
  · rcases back j s q1 with ⟨z1, z⟩ | ⟨_, z⟩
    · subst z; subst z1
      exact ⟨_, e1, rp⟩
    · obtain ⟨w, f1, f2⟩ := R1.val j s z q2
      exact ⟨w, f1, f2.mono ex⟩
  · rcases back j s q1 with ⟨_, z⟩ | ⟨ne, z⟩
    · rw [z] at q2; cases q2
    · obtain ⟨b, ws, ys, f1, f2, f3, f4, f5⟩ := R1.own j s z q2
      refine ⟨b, ws, ys, f1, f2, ?_, f4, f5.mono ex⟩
      rw [upd_ne ?_]
      · exact f3
      · intro e
        subst e
        exact ne (R1.inj j i s _ b z hs q2 rfl f1 e1)
  · rcases back j s q1 with ⟨_, z⟩ | ⟨_, z⟩
    · rw [z] at q3; cases q3
    · rcases back k t q2 with ⟨_, z'⟩ | ⟨_, z'⟩
      · rw [z'] at q4; cases q4
      · exact R1.inj j k s t b z z' q3 q4 q5 q6
theorem rep_thaw (g : Go σ ρ Hb H σ ρ1 Hb1 H1) (R1 : Rel K Hb1 H1 σ ρ1) (h : RepR K Hb1 H1 σ ρ1 H v r) :
    ∃ Hb2, Go σ ρ Hb H σ ρ1 Hb2 H1 ∧ Rel K Hb2 H1 σ ρ1 ∧ Ex Hb1 Hb2 ∧ RepR K Hb2 H1 σ ρ1 H v (thawR r) := by
  cases r with
  | val d => exact ⟨Hb1, g, R1, Ex.refl _, h⟩
  | slot i => exact ⟨Hb1, g, R1, Ex.refl _, h⟩
  | fresh xs =>
    obtain ⟨a, vs, e, h1, h2, h3, h4, h5⟩ := h
    obtain ⟨g', R', ex, sq⟩ := freeze_fresh g R1 h1 h2 h4 h5
    refine ⟨_, g', R', ex, ?_⟩
    subst e
    exact .lst sq (h3.mono ex)
theorem rep_val {d : D} {ρ2 : R} (g : Go σ ρ Hb H σ ρ1 Hb1 H1) (R1 : Rel K Hb1 H1 σ ρ1) (h : RepR K Hb1 H1 σ ρ1 H v r) (e : valR r ρ1 = some (.ok d, ρ2)) :
    ∃ Hb2, Go σ ρ Hb H σ ρ2 Hb2 H1 ∧ Rel K Hb2 H1 σ ρ2 ∧ Rp K Hb2 v d := by
  cases r with
  | val d' =>
    cases e
    exact ⟨Hb1, g, R1, h⟩
  | fresh xs =>
    cases e
    obtain ⟨a, vs, e, h1, h2, h3, h4, h5⟩ := h
    obtain ⟨g', R', ex, sq⟩ := freeze_fresh g R1 h1 h2 h4 h5
    refine ⟨_, g', R', ?_⟩
    subst e
    exact .lst sq (h3.mono ex)
  | slot i =>
    have h : σ[i]? = some (some v) := h
    unfold valR at e
    dsimp only at e
    split at e
    · rename_i x hs
      cases e
      obtain ⟨w, e1, e2⟩ := R1.val i _ hs rfl
      rw [h] at e1; cases e1
      exact ⟨Hb1, g, R1, e2⟩
    · rename_i x hs
      cases e
      obtain ⟨Hb2, g2, R2, w, e1, e2⟩ := freeze_slot R1 hs
      rw [h] at e1; cases e1
      exact ⟨Hb2, g.trans g2, R2, e2⟩
    · cases e
theorem valR_exc {x : Exc} {ρ2 : R} (e : valR r ρ1 = some (.exc x, ρ2)) : False := by
  cases r with
  | val d => cases e
  | fresh xs => cases e
  | slot i =>
    unfold valR at e
    dsimp only at e
    split at e <;> cases e
end
section
variable {X : Cx} {e : Expr} {E : WX} {m : M Res}
theorem pe_thaw (h : PE X e (tE X.K X.mg E m)) : PE X e (tE X.K X.mg E (thaw m)) := h.imp fun σ H Q w => by
  obtain ⟨Hb, ρ, R, S⟩ := w
  refine ⟨Hb, ρ, R, S.bnd0.mono ?_⟩
  intro r σ' ρ1 Hb1 H1 g R1 S1 es v rep
  subst es
  obtain ⟨Hb2, g2, R2, _, rep2⟩ := rep_thaw g R1 rep
  obtain ⟨out, ρ', e1, h1, _⟩ := S1
  cases e1
  exact h1 _ rfl _ _ _ g2 R2 rfl v rep2
/-- the values of one expression | frozen, and what follows with it -/
theorem e_val {σ : St} {H : Hp} {K : PySem.W.Frag} {mg : Str → Option Value} {E : WX} {β : Type} {m : M Res} {f : D → M β} {Hb : Hp} {ρ : R} {P : β → St → R → Hp → Hp → Prop} (R : Rel K Hb H σ ρ) (S : Sat K mg E σ Hb H ρ (bnd (mVal m) f) P) :
    tE K mg E m σ H fun v H1 => ∃ Hb1 ρ1 d, Rel K Hb1 H1 σ ρ1 ∧ Rp K Hb1 v d ∧ Go σ ρ Hb H σ ρ1 Hb1 H1 ∧ Sat K mg E σ Hb1 H1 ρ1 (f d) fun b σ' ρ' Hb' H' => Go σ ρ Hb H σ' ρ' Hb' H' → P b σ' ρ' Hb' H' := by
  have S0 : Sat K mg E σ Hb H ρ (bnd m fun r => bnd (valR r) f) P := by
    refine S.eq ?_
    unfold mVal bnd
    cases m ρ with
    | none => rfl
    | some p =>
      obtain ⟨o, ρ'⟩ := p
      cases o <;> rfl
  refine ⟨Hb, ρ, R, S0.bnd0.mono ?_⟩
  intro r σ' ρ1 Hb1 H1 g R1 S1 es v rep
  subst es
  obtain ⟨out, ρ2, e1, h1, h2⟩ := S1
  unfold bnd at e1
  split at e1
  · rename_i d ρ3 e2
    obtain ⟨Hb2, g2, R2, rp⟩ := rep_val g R1 rep e2
    exact ⟨Hb2, ρ3, d, R2, rp, g2, out, ρ2, e1, fun b q σ2 Hb3 H3 _ R3 g3 => h1 b q σ2 Hb3 H3 g3 R3, fun e q σ2 c dd Hb3 H3 g3 R3 x => h2 e q σ2 c dd Hb3 H3 (g2.trans g3) R3 x⟩
  · rename_i e' ρ3 e2
    exact (valR_exc e2).elim
  · cases e1
/-- .. thawed (a list of a slot stays the slot's) -/
theorem e_thaw {σ : St} {H : Hp} {K : PySem.W.Frag} {mg : Str → Option Value} {E : WX} {β : Type} {m : M Res} {f : Res → M β} {Hb : Hp} {ρ : R} {P : β → St → R → Hp → Hp → Prop} (R : Rel K Hb H σ ρ) (S : Sat K mg E σ Hb H ρ (bnd (thaw m) f) P) :
    tE K mg E m σ H fun v H1 => ∃ Hb1 ρ1 r, Rel K Hb1 H1 σ ρ1 ∧ RepA K Hb1 σ [v] [r] ∧ Go σ ρ Hb H σ ρ1 Hb1 H1 ∧ Sat K mg E σ Hb1 H1 ρ1 (f r) fun b σ' ρ' Hb' H' => Go σ ρ Hb H σ' ρ' Hb' H' → P b σ' ρ' Hb' H' := by
  have S0 : Sat K mg E σ Hb H ρ (bnd m fun r => f (thawR r)) P := by
    refine S.eq ?_
    unfold thaw bnd ret
    cases m ρ with
    | none => rfl
    | some p =>
      obtain ⟨o, ρ'⟩ := p
      cases o <;> rfl
  refine ⟨Hb, ρ, R, S0.bnd0.mono ?_⟩
  intro r σ' ρ1 Hb1 H1 g R1 S1 es v rep
  subst es
  obtain ⟨out, ρ2, e1, h1, h2⟩ := S1
  obtain ⟨Hb2, g2, R2, _, rep2⟩ := rep_thaw g R1 rep
  refine ⟨Hb2, ρ1, thawR r, R2, ?_, g2, out, ρ2, e1, fun b q σ2 Hb3 H3 _ R3 g3 => h1 b q σ2 Hb3 H3 g3 R3, fun e q σ2 c dd Hb3 H3 g3 R3 x => h2 e q σ2 c dd Hb3 H3 (g2.trans g3) R3 x⟩
  cases r with
  | val d => exact .val rep2 .nil
  | fresh xs => exact .val rep2 .nil
  | slot i => exact .slot rep2 .nil
end
end Mi

/-! Mi: operators on data. -/
namespace Mi
open PySem L2 Evl

/-! ### data and the library's data -/
section
variable {K : PySem.W.Frag} {H : Hp}
mutual
theorem rp_dp : ∀ {v : V} {d : D}, d.canLay0 = true → Rp K H v d → Dp K H v d
  | _, _, _, .non => .non
  | _, _, _, .bl b => .bl b
  | _, _, _, .int i => .int i
  | _, _, _, .str x => .str x
  | _, _, e, .lst h r => .lst h (rp_dpAll (by simpa [PyData.canLay0] using e) r)
  | _, _, e, .tup h r => .tup h (rp_dpAll (by simpa [PyData.canLay0] using e) r)
  | _, _, e, .dct h r => by simp [PyData.canLay0] at e
theorem rp_dpAll : ∀ {vs : List V} {ds : List D}, PyData.canLayAll0 ds = true → RpAll K H vs ds → DpAll K H vs ds
  | _, _, _, .nil => .nil
  | _, _, e, .cons a b => by
    simp only [PyData.canLayAll0, Bool.and_eq_true] at e
    exact .cons (rp_dp e.1 a) (rp_dpAll e.2 b)
end
end

/-! ### two-place operations -/
def op2 (f : D → D → Option Res) (x y : Res) : M Res := fun ρ => match look x ρ, look y ρ with
  | some d, some e => match f d e with
    | some r => some (.ok r, ρ)
    | none => none
  | _, _ => none
def mBin (f : D → D → Option Res) (a b : M Res) : M Res := bnd (thaw a) fun x => bnd (thaw b) fun y => op2 f x y
def Bin (K : PySem.W.Frag) (r : R2) (f : D → D → Option Res) : Prop := ∀ (Hb H : Hp) (x y : V) (d e : D) (res : Res) (Q : VK), Ex Hb H → Top K Hb H x d → Top K Hb H y e → f d e = some res →
  (∀ v Hb' H', New Hb H Hb' H' → RR K Hb' H' H v res → Q v H') → r x y H Q
section
variable {K : PySem.W.Frag} {mg : Str → Option Value} {E : WX} {σ : St} {Hb H Hb1 H1 : Hp} {ρ ρ1 : R} {v : V} {r : Res} {d : D}
theorem repA_one {P : Prop} (h : RepA K Hb σ [v] [r]) (H : Hp) (ρ : R) (H0 : Hp) : RepR K Hb H σ ρ H0 v r := by
  cases h with
  | val h _ => exact h
  | slot h _ => exact h
theorem RepA.mono (e : Ex Hb Hb1) : ∀ {vs : List V} {rs : List Res}, RepA K Hb σ vs rs → RepA K Hb1 σ vs rs
  | _, _, .nil => .nil
  | _, _, .val a b => .val (a.mono e) (b.mono e)
  | _, _, .slot a b => .slot a (b.mono e)
theorem RepA.append : ∀ {vs ws : List V} {rs qs : List Res}, RepA K Hb σ vs rs → RepA K Hb σ ws qs → RepA K Hb σ (vs ++ ws) (rs ++ qs)
  | _, _, _, _, .nil, h => h
  | _, _, _, _, .val a b, h => .val a (b.append h)
  | _, _, _, _, .slot a b, h => .slot a (b.append h)
theorem RepA.length : ∀ {vs : List V} {rs : List Res}, RepA K Hb σ vs rs → vs.length = rs.length
  | _, _, .nil => rfl
  | _, _, .val _ b => congrArg Nat.succ b.length
  | _, _, .slot _ b => congrArg Nat.succ b.length
/-- what a slot or a datum shows -/
theorem repA_top (R : Rel K Hb H σ ρ) (h : RepA K Hb σ [v] [r]) (e : look r ρ = some d) : Top K Hb H v d :=
  look_top (H0 := H) R (repA_one (P := True) h H ρ H) e
/-- the end of an operation: a result over new objects -/
theorem sat_end {α : Type} {a : α} {P : α → St → R → Hp → Hp → Prop} {m : M α} (R : Rel K Hb H σ ρ) (S : Sat K mg E σ Hb H ρ m P) (e : m ρ = some (.ok a, ρ)) {Hb' H' : Hp} (n : New Hb H Hb' H') : P a σ ρ Hb' H' := by
  obtain ⟨out, ρ', e', h1, _⟩ := S
  rw [e] at e'
  cases e'
  exact h1 a rfl σ Hb' H' n.go (n.rel R)
theorem op2_some {f : D → D → Option Res} {x y : Res} {o : Out Res × R} (e : op2 f x y ρ = some o) : ∃ d e r, look x ρ = some d ∧ look y ρ = some e ∧ f d e = some r ∧ o = (.ok r, ρ) := by
  unfold op2 at e
  split at e
  · rename_i d e' h1 h2
    split at e
    · rename_i r h3
      cases e
      exact ⟨d, e', r, h1, h2, h3, rfl⟩
    · cases e
  · cases e
/-- the operation itself -/
theorem op2_run {f : D → D → Option Res} {r : R2} (hb : Bin K r f) {x y : Res} {v w : V} {Q : VK} (R : Rel K Hb H σ ρ) (hx : RepA K Hb σ [v] [x]) (hy : RepA K Hb σ [w] [y]) {H0 : Hp} (t : ∀ a, H0 a ≠ none → H a ≠ none)
    (S : Sat K mg E σ Hb H ρ (op2 f x y) fun r σ' ρ' Hb' H' => σ' = σ → ∀ v, RepR K Hb' H' σ ρ' H0 v r → Q v H') : r v w H Q := by
  obtain ⟨out, ρ', e, h1, h2⟩ := S
  obtain ⟨d, e', res, l1, l2, l3, l4⟩ := op2_some e
  cases l4
  refine hb Hb H v w d e' res Q R.ex (repA_top R hx l1) (repA_top R hy l2) l3 fun u Hb' H' n rr => ?_
  exact h1 res rfl σ Hb' H' n.go (n.rel R) rfl u ((rr.rep R).from' t)
end
theorem Sat.after {K : PySem.W.Frag} {mg : Str → Option Value} {E : WX} {σ : St} {Hb H Hb1 H1 : Hp} {ρ ρ1 : R} {α : Type} {m : M α} {P P' : α → St → R → Hp → Hp → Prop} (g : Go σ ρ Hb H σ ρ1 Hb1 H1)
    (S : Sat K mg E σ Hb1 H1 ρ1 m fun b σ' ρ' Hb' H' => Go σ ρ Hb H σ' ρ' Hb' H' → P b σ' ρ' Hb' H') (k : ∀ b σ' ρ' Hb' H', Go σ ρ1 Hb1 H1 σ' ρ' Hb' H' → Rel K Hb' H' σ' ρ' → P b σ' ρ' Hb' H' → P' b σ' ρ' Hb' H') : Sat K mg E σ Hb1 H1 ρ1 m P' :=
  S.mono fun b σ' ρ' Hb' H' g2 R2 p => k b σ' ρ' Hb' H' g2 R2 (p (g.trans g2))
theorem bin_read {K : PySem.W.Frag} {mg : Str → Option Value} {E : WX} {f : D → D → Option Res} {r : R2} (hb : Bin K r f) {ma mb : M Res} {σ : St} {H : Hp} {Q : VK} (w : tE K mg E (mBin f ma mb) σ H Q) : tOp r (tE K mg E ma) (tE K mg E mb) σ H Q := by
  obtain ⟨Hb, ρ, R, S⟩ := w
  have h1 := e_thaw (H := H) R S
  obtain ⟨Hb0, ρ0, R0, S0⟩ := h1
  refine ⟨Hb0, ρ0, R0, S0.mono fun x σ1 ρ1 Hb1 H1 g1 R1 c1 es v rep => ?_⟩
  obtain ⟨Hb1', ρ1', x', R1', rx, g1', S1⟩ := c1 es v rep
  obtain ⟨Hb2, ρ2, R2, S2⟩ := e_thaw (H := H1) R1' S1
  refine ⟨Hb2, ρ2, R2, S2.mono fun y σ2 ρ3 Hb3 H3 g3 R3 c3 es3 v3 rep3 => ?_⟩
  obtain ⟨Hb4, ρ4, y', R4, ry, g4, S4⟩ := c3 es3 v3 rep3
  refine op2_run (mg := mg) (E := E) hb (H0 := H) R4 (rx.mono g4.b) ry (g1'.trans g4).t ?_
  exact S4.mono fun b σ' ρ' Hb' H' g5 R5 p => p (g4.trans g5) ((g1'.trans g4).trans g5)
theorem pe_bin {X : Cx} {E : WX} {op : Operator} {a b : Expr} {pos : Pos} {r : R2} {f : D → D → Option Res} {ma mb : M Res} (ho : OpR X (binaryOp op) r) (hb : Bin X.K r f) (ha : PE X a (tE X.K X.mg E ma)) (hb' : PE X b (tE X.K X.mg E mb)) :
    PE X (.BinOp a op b pos) (tE X.K X.mg E (mBin f ma mb)) := (pe_op ho ha hb').imp fun _ _ _ w => bin_read hb w
theorem pe_cmp2 {X : Cx} {E : WX} {op : CmpOp} {a b : Expr} {pos : Pos} {r : R2} {f : D → D → Option Res} {ma mb : M Res} (ho : OpR X (compareOp op) r) (hb : Bin X.K r f) (ha : PE X a (tE X.K X.mg E ma)) (hb' : PE X b (tE X.K X.mg E mb))
    (hm : behindInMarks op b = false) : PE X (.Compare a [op] [b] pos) (tE X.K X.mg E (mBin f ma mb)) := (pe_cmpR ho ha hb' hm).imp fun _ _ _ w => bin_read hb w
theorem pe_ixo {X : Cx} {E : WX} {a b : Expr} {pos : Pos} {r : R2} {f : D → D → Option Res} {ma mb : M Res} (ho : IxR X r) (hb : Bin X.K r f) (ha : PE X a (tE X.K X.mg E ma)) (hb' : PE X b (tE X.K X.mg E mb))
    (hs : PlainIx b) : PE X (.Subscript a b pos) (tE X.K X.mg E (mBin f ma mb)) := (pe_ix ho ha hb' hs).imp fun _ _ _ w => bin_read hb w

/-! ### which -/
theorem Bin.or {K : PySem.W.Frag} {r r' : R2} {f f' : D → D → Option Res} (h : Bin K r f) (h' : Bin K r' f') : Bin K (fun x y H Q => r x y H Q ∨ r' x y H Q) (fun d e => match f d e with | some z => some z | none => f' d e) := by
  intro Hb H x y d e res Q ex hx hy hf k
  dsimp only at hf
  cases q : f d e with
  | some z =>
    rw [q] at hf
    exact .inl (h Hb H x y d e res Q ex hx hy (q.trans hf) k)
  | none =>
    rw [q] at hf
    exact .inr (h' Hb H x y d e res Q ex hx hy hf k)
theorem Bin.of {K : PySem.W.Frag} {r : R2} {f : D → D → Option Res} (h : ∀ (Hb H : Hp) (x y : V) (d e : D) (res : Res) (Q : VK), Ex Hb H → Top K Hb H x d → Top K Hb H y e → f d e = some res →
  (∀ v Hb' H', New Hb H Hb' H' → RR K Hb' H' H v res → Q v H') → r x y H Q) : Bin K r f := h

/-- ints, a condition, a result -/
def fI (C : Int → Int → Bool) (g : Int → Int → D) : D → D → Option Res
  | .int i, .int j => if C i j then some (.val (g i j)) else none
  | _, _ => none
theorem bin_I {K : PySem.W.Frag} {C : Int → Int → Prop} {C' : Int → Int → Bool} {g : Int → Int → V} {g' : Int → Int → D} (hC : ∀ i j, C' i j = true → C i j) (hg : ∀ i j Hb, Rp K Hb (g i j) (g' i j)) : Bin K (rI C g) (fI C' g') := by
  intro Hb H x y d e res Q ex hx hy hf k
  unfold fI at hf
  split at hf
  · rename_i i j
    split at hf
    · rename_i c
      cases hf
      exact ⟨i, j, hx.int, hy.int, hC i j c, k _ Hb H (New.refl ex) (hg i j Hb)⟩
    · cases hf
  · cases hf
theorem bin_I0 {K : PySem.W.Frag} {g : Int → Int → V} {g' : Int → Int → D} (hg : ∀ i j Hb, Rp K Hb (g i j) (g' i j)) : Bin K (rI0 g) (fI (fun _ _ => true) g') := by
  intro Hb H x y d e res Q ex hx hy hf k
  unfold fI at hf
  split at hf
  · rename_i i j
    split at hf
    · cases hf
      exact ⟨i, j, hx.int, hy.int, k _ Hb H (New.refl ex) (hg i j Hb)⟩
    · cases hf
  · cases hf
/-- + -/
def rAddS : R2 := fun x y H Q => ∃ i j, x = .str i ∧ y = .str j ∧ i.length + j.length ≤ sizeLine ∧ Q (.str (i ++ j)) H
def rAddL (K : PySem.W.Frag) : R2 := fun x y H Q => ∃ l b xs zs, x = .ref l ∧ y = .ref b ∧ SqL K H l xs ∧ SqL K H b zs ∧ xs.length + zs.length ≤ sizeLine ∧ ∀ p, H p = none → Q (.ref p) (upd H p (.lst (xs ++ zs)))
theorem op_addL {X : Cx} : OpR X (binaryOp .Add) (rAddL X.K) := by
  intro pins s σ H x y v u Q I rx ry h
  obtain ⟨l, b, xs, zs, rfl, rfl, hH, hB, hz, q⟩ := h
  cases rx
  cases ry
  obtain ⟨its, r, ⟨⟨cls, dd, data, sl⟩, n, ho, hc, hdd, hd⟩, _⟩ := I.list hH
  obtain ⟨its2, r2, ⟨⟨cls2, dd2, data2, sl2⟩, n2, ho2, hc2, hdd2, hd2⟩, _⟩ := I.list hB
  simp only at hc hd hdd hc2 hd2 hdd2
  subst hc hd hdd hc2 hd2 hdd2
  have hl := r.length
  have hl2 := r2.length
  have e : its.toArray ++ its2.toArray = (its ++ its2).toArray := by simp
  refine concat_meets ⟨_, ho, rfl⟩ ⟨_, ho2, rfl⟩ noFill_list_add seq_list_add PySem.F.slot_list_add PySem.F.entry_list_add (PySem.F.args_list_add_2 _ _) (PyProof.Rows.list_addW l b its.toArray its2.toArray n n2 none none sl sl2 (by simp only [List.size_toArray]; omega)) ⟨ho, ho2, ?_⟩
  rw [e]
  exact ⟨.ref _, _, I.lnew (t' := s.toks) (r.append r2) (by rw [List.length_append]; omega), rfl, q _ I.fresh⟩
def addS : D → D → Option Res
  | .str x, .str y => if x.length + y.length ≤ sizeLine then some (.val (.str (x ++ y))) else none
  | _, _ => none
def addL : D → D → Option Res
  | .list x, .list y => if x.length + y.length ≤ sizeLine then some (.fresh (x ++ y)) else none
  | _, _ => none
def addT : D → D → Option Res
  | .tuple x, .tuple y => if x.length + y.length ≤ sizeLine then some (.val (.tuple (x ++ y))) else none
  | _, _ => none
theorem bin_addS {K : PySem.W.Frag} : Bin K rAddS addS := by
  intro Hb H x y d e res Q ex hx hy hf k
  unfold addS at hf
  split at hf
  · rename_i i j
    split at hf
    · rename_i c
      cases hf
      exact ⟨i, j, hx.str, hy.str, c, k _ Hb H (New.refl ex) (.str _)⟩
    · cases hf
  · cases hf
theorem bin_addL {K : PySem.W.Frag} : Bin K (rAddL K) addL := by
  intro Hb H x y d e res Q ex hx hy hf k
  unfold addL at hf
  split at hf
  · rename_i i j
    split at hf
    · rename_i c
      cases hf
      obtain ⟨a, vs, rfl, sa, ra⟩ := hx.list ex
      obtain ⟨b, ws, rfl, sb, rb⟩ := hy.list ex
      refine ⟨a, b, vs, ws, rfl, rfl, sa, sb, by rw [ra.length, rb.length]; exact c, fun p hp => k _ Hb _ (New.mut ex hp) ?_⟩
      exact ⟨p, _, rfl, fresh_back ex hp, upd_same, ra.append rb, hp⟩
    · cases hf
  · cases hf
theorem Top.tuple' {K : PySem.W.Frag} {Hb H : Hp} {v : V} {xs : List D} (h : Top K Hb H v (.tuple xs)) : ∃ a vs, v = .ref a ∧ SqT K Hb a vs ∧ RpAll K Hb vs xs := by
  rcases h with h | ⟨a, vs, xs', rfl, e2, e3, e4⟩
  · cases h with
    | tup h1 h2 => exact ⟨_, _, rfl, h1, h2⟩
  · cases e2
theorem bin_addT {K : PySem.W.Frag} : Bin K (rCatA K) addT := by
  intro Hb H x y d e res Q ex hx hy hf k
  unfold addT at hf
  split at hf
  · rename_i i j
    split at hf
    · rename_i c
      cases hf
      obtain ⟨a, vs, rfl, sa, ra⟩ := hx.tuple'
      obtain ⟨b, ws, rfl, sb, rb⟩ := hy.tuple'
      refine ⟨a, b, vs, ws, rfl, rfl, ex_t ex sa, ex_t ex sb, by rw [ra.length, rb.length]; exact c, fun e => ?_, fun _ e => ?_, fun _ _ p hp => k _ _ _ (New.fix ex hp) ?_⟩
      · subst e
        cases ra
        exact k _ Hb H (New.refl ex) (.tup sb rb)
      · subst e
        cases rb
        refine k _ Hb H (New.refl ex) ?_
        rw [List.append_nil]
        exact .tup sa ra
      · have n := New.fix (o := HO.tup (vs ++ ws)) ex hp
        exact .tup (SqT.of upd_same) ((ra.append rb).mono n.b)
    · cases hf
  · cases hf
def addD : D → D → Option Res
  | .int i, .int j => some (.val (.int (i + j)))
  | .str x, .str y => if x.length + y.length ≤ sizeLine then some (.val (.str (x ++ y))) else none
  | .list x, .list y => if x.length + y.length ≤ sizeLine then some (.fresh (x ++ y)) else none
  | .tuple x, .tuple y => if x.length + y.length ≤ sizeLine then some (.val (.tuple (x ++ y))) else none
  | _, _ => none
theorem Bin.imp {K : PySem.W.Frag} {r : R2} {f f' : D → D → Option Res} (h : Bin K r f) (k : ∀ d e z, f' d e = some z → f d e = some z) : Bin K r f' := fun Hb H x y d e res Q ex hx hy hf => h Hb H x y d e res Q ex hx hy (k d e res hf)
def rAddA (K : PySem.W.Frag) : R2 := fun x y H Q => (rI0 (fun i j => .int (i + j)) x y H Q ∨ rAddS x y H Q) ∨ (rAddL K x y H Q ∨ rCatA K x y H Q)
theorem op_addA {X : Cx} : OpR X (binaryOp .Add) (rAddA X.K) := (op_add.or op_add_str).or (op_addL.or op_catA)
theorem bin_addA {K : PySem.W.Frag} : Bin K (rAddA K) addD := by
  have h := ((bin_I0 (K := K) (g := fun i j => V.int (i + j)) (g' := fun i j => .int (i + j)) fun i j Hb => .int _).or (bin_addS (K := K))).or ((bin_addL (K := K)).or (bin_addT (K := K)))
  refine h.imp fun d e z q => ?_
  cases d <;> cases e <;> simp_all [addD, fI, addS, addL, addT]
/-- - -/
def subD : D → D → Option Res := fI (fun _ _ => true) fun i j => .int (i - j)
theorem bin_subA {K : PySem.W.Frag} : Bin K (rI0 fun i j => .int (i - j)) subD := bin_I0 fun i j Hb => .int _
/-- * of ints; of a list, a text and an int -/
def rRepL (K : PySem.W.Frag) : R2 := fun x y H Q => ∃ l k xs, x = .ref l ∧ y = .int k ∧ SqL K H l xs ∧ -(2 ^ 63) ≤ k ∧ k < 2 ^ 63 ∧ xs.length * k.toNat ≤ sizeLine ∧
  ∀ p, H p = none → Q (.ref p) (upd H p (.lst (List.replicate k.toNat xs).flatten))
theorem vals_rep {xs : List V} {its : List Value} (r : Vals xs its) : ∀ n, Vals (List.replicate n xs).flatten (List.replicate n its).flatten
  | 0 => .nil
  | n + 1 => by
    rw [List.replicate_succ, List.replicate_succ, List.flatten_cons, List.flatten_cons]
    exact r.append (vals_rep r n)
theorem op_repL {X : Cx} : OpR X (binaryOp .Mult) (rRepL X.K) := by
  intro pins s σ H x y v u Q I rx ry h
  obtain ⟨l, k, xs, rfl, rfl, hH, h1, h2, hz, q⟩ := h
  cases rx
  obtain ⟨t, rfl⟩ := ry
  obtain ⟨its, r, ⟨⟨cls, d, data, sl⟩, n, ho, hc, hdd, hd⟩, _⟩ := I.list hH
  simp only at hc hd hdd
  subst hc hd hdd
  have hl := r.length
  have hz' : its.toArray.size * k.toNat ≤ 2 ^ 24 := by rw [List.size_toArray, ← hl]; exact hz
  refine wpAny_binaryOp_repeat_ref (T := "list") (U := "int") (by decide) ⟨_, ho, rfl⟩ (fun s' => typeIs_int s' k t) noFill_list_mul PySem.F.fills_int_mul PySem.F.slot_int_rmul repeat_list PySem.F.slot_int_index.lookup
    (call_meets PySem.F.slot_int_rmul (typeIs_int s k t) PySem.F.entry_int_rmul (PySem.F.args_int_rmul_2 _ _) (PySem.lm_int_rmul_list_any k t l its.toArray n none sl)
      ⟨ho, rfl, ⟨_, ho, rfl⟩, call_meets PySem.F.slot_list_mul ⟨_, ho, rfl⟩ PySem.F.entry_list_mul (PySem.F.args_list_mul_2 _ _)
        (PySem.lm_list_mul_any l its.toArray n none sl k t (by simp [Builtin.List.listFitsIndex]; omega) (by omega) (by simp [Builtin.List.listTooLong, sizeLine]; simpa using hz'))
        ⟨ho, ?_⟩⟩)
  rw [PyProof.Rows.listMul_foldl_if]
  have hz2 : (List.replicate k.toNat xs).flatten.length ≤ sizeLine := by rw [PyProof.Rows.lm_len_rep_flat, Nat.mul_comm]; exact hz
  exact ⟨.ref _, _, I.lnew (t' := s.toks) (vals_rep r k.toNat) hz2, rfl, q _ I.fresh⟩
/-- text * int -/
def strRep (x : Str) (n : Nat) : Str := ⟨(List.replicate n x.cps.toList).flatten.toArray⟩
def rRepS : R2 := fun x y H Q => ∃ z k, x = .str z ∧ y = .int k ∧ -(2 ^ 63) ≤ k ∧ k < 2 ^ 31 ∧ z.length * k.toNat ≤ sizeLine ∧ Q (.str (strRep z k.toNat)) H
theorem foldl_arr {α : Type} (xs : List α) : ∀ (n : Nat) (acc : List α), List.foldl (fun x1 x2 => x1 ++ x2) acc.toArray (List.replicate n xs.toArray) = (acc ++ (List.replicate n xs).flatten).toArray
  | 0, acc => by simp
  | n + 1, acc => by
    have e : acc.toArray ++ xs.toArray = (acc ++ xs).toArray := by simp
    rw [List.replicate_succ, List.foldl_cons, e, foldl_arr xs n, List.replicate_succ, List.flatten_cons, List.append_assoc]
theorem strRep_fold (x : Str) (n : Nat) : (⟨(List.replicate n x.cps).foldl (· ++ ·) #[]⟩ : Str) = strRep x n := by
  have h := foldl_arr x.cps.toList n []
  rw [List.nil_append, Array.toArray_toList] at h
  unfold strRep
  rw [← h]
theorem op_repS {X : Cx} : OpR X (binaryOp .Mult) rRepS := by
  intro pins s σ H x y v u Q I rx ry h
  obtain ⟨z, k, rfl, rfl, h1, h2, hz, q⟩ := h
  obtain ⟨t, rfl⟩ := rx
  obtain ⟨t', rfl⟩ := ry
  have zl : z.length = z.cps.size := rfl
  refine PySem.P.mul_str (by simp; omega) (fun a b => ?_) (fun a b => ?_) ?_
  · have h0 : 1 ≤ k := by omega
    have hk : (k.toNat : Int) = k := by omega
    have : (z.length : Int) * k ≤ 2 ^ 24 := by
      have e : ((z.length * k.toNat : Nat) : Int) ≤ ((2 ^ 24 : Nat) : Int) := Int.ofNat_le.mpr hz
      rw [Int.natCast_mul, hk] at e
      exact e
    have hd : (z.length : Int) ≤ 2 ^ 24 := by
      have : (z.length : Int) * 1 ≤ (z.length : Int) * k := Int.mul_le_mul_of_nonneg_left h0 (by omega)
      omega
    have : (2 ^ 24 : Int) ≤ (2 ^ 63 - 1) / k := by
      rw [Int.le_ediv_iff_mul_le (by omega)]
      have : (2 ^ 24 : Int) * k ≤ 2 ^ 24 * 2 ^ 31 := Int.mul_le_mul_of_nonneg_left (by omega) (by decide)
      omega
    omega
  · show decide (z.length * k.toNat > sizeLine) = false
    simp
    exact hz
  · split
    · rename_i c
      have e : k.toNat = 0 := by omega
      rw [e] at q
      exact ⟨by decide, .str _, H, I.tok _, ⟨_, rfl⟩, q⟩
    · split
      · rename_i c1 c2
        refine ⟨.str _, H, I, ⟨_, rfl⟩, ?_⟩
        have e : strRep z k.toNat = z := by
          rw [Bool.or_eq_true] at c2
          rcases c2 with c2 | c2
          · have e : k = 1 := by simpa using c2
            subst e
            show strRep z 1 = z
            unfold strRep
            simp
          · have e : z.cps.toList = [] := by
              have : z.length = 0 := by simpa using c2
              rw [← List.length_eq_zero_iff, Array.length_toList]
              exact this
            unfold strRep
            rw [e]
            have e2 : (List.replicate k.toNat ([] : List Nat)).flatten = [] := by simp
            rw [e2]
            cases z
            simp_all
        rw [e] at q
        exact q
      · rw [strRep_fold]
        refine ⟨?_, .str _, H, I.tok _, ⟨_, rfl⟩, q⟩
        show (strRep z k.toNat).cps.size ≤ sizeLine
        unfold strRep
        rw [List.size_toArray, PyProof.Rows.lm_len_rep_flat, Array.length_toList, Nat.mul_comm]
        exact hz
def mulOk (i j : Int) : Bool := decide (i.natAbs.log2 + j.natAbs.log2 < 1000000)
def repOk (n : Nat) (k : Int) : Bool := decide (-(2 ^ 63) ≤ k ∧ k < 2 ^ 31 ∧ n * k.toNat ≤ sizeLine)
def mulD : D → D → Option Res
  | .int i, .int j => if mulOk i j then some (.val (.int (i * j))) else none
  | .list x, .int k => if repOk x.length k then some (.fresh (List.replicate k.toNat x).flatten) else none
  | .str x, .int k => if repOk x.length k then some (.val (.str (strRep x k.toNat))) else none
  | _, _ => none
def mulL : D → D → Option Res
  | .list x, .int k => if repOk x.length k then some (.fresh (List.replicate k.toNat x).flatten) else none
  | _, _ => none
def mulS : D → D → Option Res
  | .str x, .int k => if repOk x.length k then some (.val (.str (strRep x k.toNat))) else none
  | _, _ => none
theorem RpAll.flat {K : PySem.W.Frag} {H : Hp} {vs : List V} {ds : List D} (r : RpAll K H vs ds) : ∀ n, RpAll K H (List.replicate n vs).flatten (List.replicate n ds).flatten
  | 0 => .nil
  | n + 1 => by
    rw [List.replicate_succ, List.replicate_succ, List.flatten_cons, List.flatten_cons]
    exact r.append (RpAll.flat r n)
theorem bin_mulL {K : PySem.W.Frag} : Bin K (rRepL K) mulL := by
  intro Hb H x y d e res Q ex hx hy hf k
  unfold mulL at hf
  split at hf
  · rename_i xs j
    split at hf
    · rename_i c
      cases hf
      unfold repOk at c
      have c := of_decide_eq_true c
      obtain ⟨a, vs, rfl, sa, ra⟩ := hx.list ex
      refine ⟨a, j, vs, rfl, hy.int, sa, c.1, Int.lt_trans c.2.1 (by decide), by rw [ra.length]; exact c.2.2, fun p hp => k _ Hb _ (New.mut ex hp) ?_⟩
      exact ⟨p, _, rfl, fresh_back ex hp, upd_same, ra.flat _, hp⟩
    · cases hf
  · cases hf
theorem bin_mulS {K : PySem.W.Frag} : Bin K rRepS mulS := by
  intro Hb H x y d e res Q ex hx hy hf k
  unfold mulS at hf
  split at hf
  · rename_i xs j
    split at hf
    · rename_i c
      cases hf
      unfold repOk at c
      have c := of_decide_eq_true c
      exact ⟨xs, j, hx.str, hy.int, c.1, c.2.1, c.2.2, k _ Hb H (New.refl ex) (.str _)⟩
    · cases hf
  · cases hf
def rMulA (K : PySem.W.Frag) : R2 := fun x y H Q => (rI CMulW (fun i j => .int (i * j)) x y H Q ∨ rRepL K x y H Q) ∨ rRepS x y H Q
theorem op_mulA {X : Cx} : OpR X (binaryOp .Mult) (rMulA X.K) := (op_mulW.or op_repL).or op_repS
theorem bin_mulA {K : PySem.W.Frag} : Bin K (rMulA K) mulD := by
  have h := ((bin_I (K := K) (C := CMulW) (C' := mulOk) (g := fun i j => V.int (i * j)) (g' := fun i j => .int (i * j)) (fun i j q => show i.natAbs.log2 + j.natAbs.log2 < 1000000 from of_decide_eq_true q) fun i j Hb => .int _).or (bin_mulL (K := K))).or (bin_mulS (K := K))
  refine h.imp fun d e z q => ?_
  cases d <;> cases e <;> simp_all [mulD, fI, mulL, mulS]
/-- //, %, ** -/
def divOk (j : Int) : Bool := decide (j ≠ 0 ∧ j.natAbs.log2 < 9000)
theorem op_fdivA {X : Cx} : OpR X (binaryOp .FloorDiv) (rI (fun _ j => j ≠ 0 ∧ j.natAbs.log2 < 9000) fun i j => .int (i.fdiv j)) := opI fun _ _ _ _ _ _ _ hc q => PyProof.Rows.floordiv_int hc.1 q (.inl (PyProof.noPylong_of_log2 hc.2))
def fdivD : D → D → Option Res := fI (fun _ j => divOk j) fun i j => .int (i.fdiv j)
theorem bin_fdivA {K : PySem.W.Frag} : Bin K (rI (fun _ j => j ≠ 0 ∧ j.natAbs.log2 < 9000) fun i j => .int (i.fdiv j)) fdivD := bin_I (fun i j q => of_decide_eq_true q) fun i j Hb => .int _
def modD : D → D → Option Res := fI (fun _ j => decide (j ≠ 0)) fun i j => .int (i.fmod j)
theorem bin_modA {K : PySem.W.Frag} : Bin K (rI (fun _ j => j ≠ 0) fun i j => .int (i.fmod j)) modD := bin_I (fun i j q => of_decide_eq_true q) fun i j Hb => .int _
def powOk (i j : Int) : Bool := decide (0 ≤ j ∧ (Builtin.Int.intBits i : Int) * j ≤ 2 ^ 27)
theorem op_powA {X : Cx} : OpR X (binaryOp .Pow) (rI (fun i j => 0 ≤ j ∧ (Builtin.Int.intBits i : Int) * j ≤ 2 ^ 27) fun i j => .int (i ^ j.toNat)) := opI fun _ _ _ _ _ _ _ hc q => PyProof.Rows.pow_int hc.1 hc.2 q
def powD : D → D → Option Res := fI powOk fun i j => .int (i ^ j.toNat)
theorem bin_powA {K : PySem.W.Frag} : Bin K (rI (fun i j => 0 ≤ j ∧ (Builtin.Int.intBits i : Int) * j ≤ 2 ^ 27) fun i j => .int (i ^ j.toNat)) powD := bin_I (fun i j q => of_decide_eq_true q) fun i j Hb => .int _

/-! ### comparisons -/
def ltD : D → D → Option Res := fI (fun _ _ => true) fun i j => .bool (decide (i < j))
def leD : D → D → Option Res := fI (fun _ _ => true) fun i j => .bool (decide (i ≤ j))
def gtD : D → D → Option Res := fI (fun _ _ => true) fun i j => .bool (decide (j < i))
def geD : D → D → Option Res := fI (fun _ _ => true) fun i j => .bool (decide (j ≤ i))
theorem bin_ltA {K : PySem.W.Frag} : Bin K (rI0 fun i j => .bl (decide (i < j))) ltD := bin_I0 fun i j Hb => .bl _
theorem bin_leA {K : PySem.W.Frag} : Bin K (rI0 fun i j => .bl (decide (i ≤ j))) leD := bin_I0 fun i j Hb => .bl _
theorem bin_gtA {K : PySem.W.Frag} : Bin K (rI0 fun i j => .bl (decide (j < i))) gtD := bin_I0 fun i j Hb => .bl _
theorem bin_geA {K : PySem.W.Frag} : Bin K (rI0 fun i j => .bl (decide (j ≤ i))) geD := bin_I0 fun i j Hb => .bl _
def eqD : D → D → Option Res := fun d e => if SeqAt.shaped d && SeqAt.shaped e then some (.val (.bool (PyData.eqv d e))) else none
def neD : D → D → Option Res := fun d e => if SeqAt.shaped d && SeqAt.shaped e then some (.val (.bool (!PyData.eqv d e))) else none
theorem shaped_can {d : D} (h : SeqAt.shaped d = true) : d.canLay0 = true := SeqAt.canLay_of_shaped h
theorem bin_eqA {K : PySem.W.Frag} : Bin K (rEqD K) eqD := by
  intro Hb H x y d e res Q ex hx hy hf k
  unfold eqD at hf
  split at hf
  · rename_i c
    cases hf
    rw [Bool.and_eq_true] at c
    exact ⟨d, e, rp_dp (shaped_can c.1) (hx.rp ex), rp_dp (shaped_can c.2) (hy.rp ex), c.1, c.2, k _ Hb H (New.refl ex) (.bl _)⟩
  · cases hf
theorem bin_neA {K : PySem.W.Frag} : Bin K (rNeD K) neD := by
  intro Hb H x y d e res Q ex hx hy hf k
  unfold neD at hf
  split at hf
  · rename_i c
    cases hf
    rw [Bool.and_eq_true] at c
    exact ⟨d, e, rp_dp (shaped_can c.1) (hx.rp ex), rp_dp (shaped_can c.2) (hy.rp ex), c.1, c.2, k _ Hb H (New.refl ex) (.bl _)⟩
  · cases hf
/-- is None; is True, is False -/
def isNone : D → Bool
  | .none => true
  | _ => false
def isD : D → D → Option Res
  | d, .none => some (.val (.bool (isNone d)))
  | .bool a, .bool b => some (.val (.bool (decide (a = b))))
  | _, _ => none
def isntD : D → D → Option Res
  | d, .none => some (.val (.bool (!isNone d)))
  | .bool a, .bool b => some (.val (.bool (!decide (a = b))))
  | _, _ => none
theorem top_none {K : PySem.W.Frag} {Hb H : Hp} {v : V} {d : D} (h : Top K Hb H v d) : decide (v = .non) = isNone d := by
  rcases h with h | ⟨a, vs, xs', rfl, rfl, _⟩
  · cases h <;> rfl
  · rfl
theorem bin_isA {K : PySem.W.Frag} : Bin K (fun x y H Q => (y = .non ∧ Q (.bl (decide (x = .non))) H) ∨ (∃ a b, x = .bl a ∧ y = .bl b ∧ Q (.bl (decide (a = b))) H)) isD := by
  intro Hb H x y d e res Q ex hx hy hf k
  unfold isD at hf
  split at hf
  · cases hf
    refine .inl ⟨hy.none, ?_⟩
    rw [top_none hx]
    exact k _ Hb H (New.refl ex) (.bl _)
  · cases hf
    exact .inr ⟨_, _, hx.bool, hy.bool, k _ Hb H (New.refl ex) (.bl _)⟩
  · cases hf
theorem bin_isntA {K : PySem.W.Frag} : Bin K (fun x y H Q => (y = .non ∧ Q (.bl (!decide (x = .non))) H) ∨ (∃ a b, x = .bl a ∧ y = .bl b ∧ Q (.bl (!decide (a = b))) H)) isntD := by
  intro Hb H x y d e res Q ex hx hy hf k
  unfold isntD at hf
  split at hf
  · cases hf
    refine .inl ⟨hy.none, ?_⟩
    rw [top_none hx]
    exact k _ Hb H (New.refl ex) (.bl _)
  · cases hf
    exact .inr ⟨_, _, hx.bool, hy.bool, k _ Hb H (New.refl ex) (.bl _)⟩
  · cases hf
theorem op_isA {X : Cx} : OpR X (compareOp .Is) (fun x y H Q => (y = .non ∧ Q (.bl (decide (x = .non))) H) ∨ (∃ a b, x = .bl a ∧ y = .bl b ∧ Q (.bl (decide (a = b))) H)) := op_isN.or op_is_bl
theorem op_isntA {X : Cx} : OpR X (compareOp .IsNot) (fun x y H Q => (y = .non ∧ Q (.bl (!decide (x = .non))) H) ∨ (∃ a b, x = .bl a ∧ y = .bl b ∧ Q (.bl (!decide (a = b))) H)) := op_notN.or op_isnot_bl
end Mi

/-! Mi: expressions. -/
namespace Mi
open PySem L2 Evl
section
variable {K : PySem.W.Frag} {mg : Str → Option Value} {E : WX} {σ : St} {H : Hp}
theorem tE_mono {m : M Res} {Q Q' : VK} (h : tE K mg E m σ H Q) (k : ∀ v H', Q v H' → Q' v H') : tE K mg E m σ H Q' := by
  obtain ⟨Hb, ρ, R, S⟩ := h
  exact ⟨Hb, ρ, R, S.mono fun r σ' ρ' Hb' H' _ _ p es v rep => k v H' (p es v rep)⟩
theorem tT_mono {m : M Bool} {Q Q' : Bool → Hp → Prop} (h : tT K mg E m σ H Q) (k : ∀ v H', Q v H' → Q' v H') : tT K mg E m σ H Q' := by
  obtain ⟨Hb, ρ, R, S⟩ := h
  exact ⟨Hb, ρ, R, S.mono fun r σ' ρ' Hb' H' _ _ p es => k r H' (p es)⟩
theorem tA_mono {m : M (List Res)} {Q Q' : List V → Hp → Prop} (h : tA K mg E m σ H Q) (k : ∀ v H', Q v H' → Q' v H') : tA K mg E m σ H Q' := by
  obtain ⟨Hb, ρ, R, S⟩ := h
  exact ⟨Hb, ρ, R, S.mono fun r σ' ρ' Hb' H' _ _ p es vs rep => k vs H' (p es vs rep)⟩
variable {Hb : Hp} {ρ : R} {β : Type} {P : β → St → R → Hp → Hp → Prop}
/-- arguments, then what follows -/
theorem e_args {m : M (List Res)} {f : List Res → M β} (R : Rel K Hb H σ ρ) (S : Sat K mg E σ Hb H ρ (bnd m f) P) :
    tA K mg E m σ H fun vs H1 => ∃ Hb1 ρ1 rs, Rel K Hb1 H1 σ ρ1 ∧ RepA K Hb1 σ vs rs ∧ Go σ ρ Hb H σ ρ1 Hb1 H1 ∧ Sat K mg E σ Hb1 H1 ρ1 (f rs) fun b σ' ρ' Hb' H' => Go σ ρ Hb H σ' ρ' Hb' H' → P b σ' ρ' Hb' H' := by
  refine ⟨Hb, ρ, R, S.bnd.mono ?_⟩
  intro rs σ' ρ1 Hb1 H1 g R1 S1 es vs rep
  subst es
  exact ⟨Hb1, ρ1, rs, R1, rep, g, S1⟩
/-- a test, then what follows -/
theorem e_test {m : M Bool} {f : Bool → M β} (R : Rel K Hb H σ ρ) (S : Sat K mg E σ Hb H ρ (bnd m f) P) :
    tT K mg E m σ H fun b H1 => ∃ Hb1 ρ1, Rel K Hb1 H1 σ ρ1 ∧ Go σ ρ Hb H σ ρ1 Hb1 H1 ∧ Sat K mg E σ Hb1 H1 ρ1 (f b) fun b σ' ρ' Hb' H' => Go σ ρ Hb H σ' ρ' Hb' H' → P b σ' ρ' Hb' H' := by
  refine ⟨Hb, ρ, R, S.bnd.mono ?_⟩
  intro b σ' ρ1 Hb1 H1 g R1 S1 es
  subst es
  exact ⟨Hb1, ρ1, R1, g, S1⟩
/-- an expression as it comes, last -/
theorem e_last {m : M Res} {Q : VK} {H0 : Hp} (R : Rel K Hb H σ ρ) (t : ∀ a, H0 a ≠ none → H a ≠ none) (S : Sat K mg E σ Hb H ρ m fun r σ' ρ' Hb' H' => σ' = σ → ∀ v, RepR K Hb' H' σ ρ' H0 v r → Q v H') : tE K mg E m σ H Q :=
  ⟨Hb, ρ, R, S.mono fun r σ' ρ' Hb' H' _ _ p es v rep => p es v (rep.from' t)⟩
end

/-! ### names, constants -/
def mVar (i : Nat) : M Res := fun ρ => match ρ[i]? with
  | some (some s) => some (.ok (if s.m.isOwn then .slot i else .val s.d), ρ)
  | _ => none
theorem var_read {K : PySem.W.Frag} {mg : Str → Option Value} {E : WX} {i : Nat} {σ : St} {H : Hp} {Q : VK} (w : tE K mg E (mVar i) σ H Q) : tVar i σ H Q := by
  obtain ⟨Hb, ρ, R, out, ρ', e, h1, _⟩ := w
  unfold mVar at e
  split at e
  · rename_i s hs
    cases e
    cases q : s.m.isOwn with
    | true =>
      obtain ⟨a, vs, xs, e1, _⟩ := R.own i s hs q
      refine ⟨.ref a, e1, ?_⟩
      have z := h1 _ rfl σ Hb H Go.refl R rfl (.ref a)
      rw [q] at z
      exact z e1
    | false =>
      obtain ⟨v, e1, e2⟩ := R.val i s hs q
      refine ⟨v, e1, ?_⟩
      have z := h1 _ rfl σ Hb H Go.refl R rfl v
      rw [q] at z
      exact z e2
  · cases e
def mC (d : D) : M Res := ret (.val d)
theorem const_read {K : PySem.W.Frag} {mg : Str → Option Value} {E : WX} {d : D} {v : V} (h : ∀ H, Rp K H v d) {σ : St} {H : Hp} {Q : VK} (w : tE K mg E (mC d) σ H Q) : tC v σ H Q := by
  obtain ⟨Hb, ρ, R, S⟩ := w
  exact S.ret R rfl v (h Hb)
section
variable {X : Cx} {E : WX} {pos : Pos}
theorem me_var (i : Nat) {x : Str} (hN : X.N[i]? = some x := by rfl) (hv : Vis X.env.scope x := by first | exact Or.inl rfl | exact Or.inr (Or.inl rfl) | exact Or.inr (Or.inr rfl)) (hd : (x == ("__debug__" : Str)) = false := by decide)
    (hcd : (x == ("__classdict__" : Str)) = false := by decide) : PE X (.Name x pos) (tE X.K X.mg E (mVar i)) := (pv i hN hv hd hcd).imp fun _ _ _ w => var_read w
theorem me_int {i j} : PE X (.Constant (.int i) j pos) (tE X.K X.mg E (mC (.int i))) := pe_int.imp fun _ _ _ w => const_read (fun _ => .int _) w
theorem me_bl {b j} : PE X (.Constant (.bool b) j pos) (tE X.K X.mg E (mC (.bool b))) := pe_bl.imp fun _ _ _ w => const_read (fun _ => .bl _) w
theorem me_non {j} : PE X (.Constant .none j pos) (tE X.K X.mg E (mC .none)) := pe_non.imp fun _ _ _ w => const_read (fun _ => .non) w
theorem me_str {x j} : PE X (.Constant (.str x) j pos) (tE X.K X.mg E (mC (.str x))) := pe_str.imp fun _ _ _ w => const_read (fun _ => .str _) w
/-- a module's constant -/
theorem me_glob {x : Str} {v : V} {u : Value} {d : D} (hg : Gl X x) (hm : X.mg x = some u) (r : RelV v u) (h : ∀ H, Rp X.K H v d) (hd : (x == ("__debug__" : Str)) = false := by decide) : PE X (.Name x pos) (tE X.K X.mg E (mC d)) :=
  (pe_glob hg hm r hd).imp fun _ _ _ w => const_read h w
end

/-! ### one-place operations on what is seen -/
def op1 (f : D → Option Res) (x : Res) : M Res := fun ρ => match look x ρ with
  | some d => match f d with
    | some r => some (.ok r, ρ)
    | none => none
  | none => none
def mUn (f : D → Option Res) (a : M Res) : M Res := bnd (thaw a) fun x => op1 f x
section
variable {K : PySem.W.Frag} {mg : Str → Option Value} {E : WX} {σ : St} {Hb H : Hp} {ρ : R}
theorem op1_some {f : D → Option Res} {x : Res} {o : Out Res × R} (e : op1 f x ρ = some o) : ∃ d r, look x ρ = some d ∧ f d = some r ∧ o = (.ok r, ρ) := by
  unfold op1 at e
  split at e
  · rename_i d h1
    split at e
    · rename_i r h3
      cases e
      exact ⟨d, r, h1, h3, rfl⟩
    · cases e
  · cases e
theorem op1_run {f : D → Option Res} {x : Res} {v : V} {Q : VK} {H0 : Hp} (R : Rel K Hb H σ ρ) (hx : RepA K Hb σ [v] [x]) (t : ∀ a, H0 a ≠ none → H a ≠ none)
    (S : Sat K mg E σ Hb H ρ (op1 f x) fun r σ' ρ' Hb' H' => σ' = σ → ∀ v, RepR K Hb' H' σ ρ' H0 v r → Q v H') :
    ∃ d res, Top K Hb H v d ∧ f d = some res ∧ ∀ u Hb' H', New Hb H Hb' H' → RR K Hb' H' H u res → Q u H' := by
  obtain ⟨out, ρ', e, h1, h2⟩ := S
  obtain ⟨d, res, l1, l3, l4⟩ := op1_some e
  cases l4
  exact ⟨d, res, repA_top R hx l1, l3, fun u Hb' H' n rr => h1 res rfl σ Hb' H' n.go (n.rel R) rfl u ((rr.rep R).from' t)⟩
theorem un_read {f : D → Option Res} {ma : M Res} {Q : VK} (w : tE K mg E (mUn f ma) σ H Q) :
    tE K mg E ma σ H fun v H1 => ∃ Hb d res, Ex Hb H1 ∧ Top K Hb H1 v d ∧ f d = some res ∧ ∀ u Hb' H', New Hb H1 Hb' H' → RR K Hb' H' H1 u res → Q u H' := by
  obtain ⟨Hb, ρ, R, S⟩ := w
  refine tE_mono (e_thaw R S) fun v H1 ⟨Hb1, ρ1, x, R1, rx, g1, S1⟩ => ?_
  obtain ⟨d, res, h1, h2, h3⟩ := op1_run R1 rx g1.t (S1.mono fun b σ' ρ' Hb' H' g2 R2 p => p (g1.trans g2))
  exact ⟨Hb1, d, res, R1.ex, h1, h2, h3⟩
end
def negD : D → Option Res
  | .int i => some (.val (.int (-i)))
  | _ => none
def notD : D → Option Res
  | .bool b => some (.val (.bool (!b)))
  | _ => none
section
variable {X : Cx} {E : WX} {pos : Pos} {a : Expr} {ma : M Res}
theorem me_neg (ha : PE X a (tE X.K X.mg E ma)) : PE X (.UnaryOp .USub a pos) (tE X.K X.mg E (mUn negD ma)) := (pe_un un_neg ha).imp fun σ H Q w => by
  refine tE_mono (un_read w) fun v H1 ⟨Hb, d, res, ex, h1, h2, h3⟩ => ?_
  unfold negD at h2
  split at h2
  · rename_i i
    cases h2
    exact ⟨i, h1.int, h3 _ Hb H1 (New.refl ex) (.int _)⟩
  · cases h2
theorem me_not (ha : PE X a (tE X.K X.mg E ma)) : PE X (.UnaryOp .Not a pos) (tE X.K X.mg E (mUn notD ma)) := (pe_not ha).imp fun σ H Q w => by
  refine tE_mono (un_read w) fun v H1 ⟨Hb, d, res, ex, h1, h2, h3⟩ => ?_
  unfold notD at h2
  split at h2
  · rename_i i
    cases h2
    exact ⟨i, h1.bool, h3 _ Hb H1 (New.refl ex) (.bl _)⟩
  · cases h2
end

/-! ### subscripts -/
def ixD : D → D → Option Res
  | .list xs, .int i => (atI xs i).map .val
  | .tuple xs, .int i => (atI xs i).map .val
  | .str z, .int i => if z.length ≤ sizeLine then (atI z.cps.toList i).map fun c => .val (.str ⟨#[c]⟩) else none
  | _, _ => none
theorem atI_rp {K : PySem.W.Frag} {H : Hp} {vs : List V} {xs : List D} {i : Int} {d : D} (r : RpAll K H vs xs) (e : atI xs i = some d) : ∃ v, atI vs i = some v ∧ Rp K H v d := by
  unfold atI at e ⊢
  rw [r.length]
  cases q : ixN xs.length i with
  | none => rw [q] at e; cases e
  | some j =>
    rw [q] at e
    exact r.get (i := j) e
theorem bin_ix {K : PySem.W.Frag} : Bin K (rIx K) ixD := by
  intro Hb H x y d e res Q ex hx hy hf k
  unfold ixD at hf
  split at hf
  · rename_i xs i
    obtain ⟨z, q, rfl⟩ := Option.map_eq_some_iff.mp hf
    obtain ⟨a, vs, rfl, s, r⟩ := hx.list ex
    obtain ⟨v, q1, q2⟩ := atI_rp r q
    exact .inl ⟨a, vs, i, v, rfl, hy.int, s, q1, k v Hb H (New.refl ex) q2⟩
  · rename_i xs i
    obtain ⟨z, q, rfl⟩ := Option.map_eq_some_iff.mp hf
    obtain ⟨a, vs, rfl, s, r⟩ := hx.tuple ex
    obtain ⟨v, q1, q2⟩ := atI_rp r q
    exact .inr (.inl ⟨a, vs, i, v, rfl, hy.int, s, q1, k v Hb H (New.refl ex) q2⟩)
  · rename_i z i
    split at hf
    · rename_i c
      obtain ⟨w, q, rfl⟩ := Option.map_eq_some_iff.mp hf
      exact .inr (.inr ⟨z, i, w, hx.str, hy.int, c, q, k _ Hb H (New.refl ex) (.str _)⟩)
    · cases hf
  · cases hf
/-- slices -/
def cutD (xs : List D) (lo hi : Option Int) : List D := (xs.drop (HT.sIx xs.length 0 lo)).take (HT.sIx xs.length xs.length hi - HT.sIx xs.length 0 lo)
def slD (lo hi : Option Int) : D → Option Res
  | .list xs => some (.fresh (cutD xs lo hi))
  | .tuple xs => some (.val (.tuple (cutD xs lo hi)))
  | .str z => if z.length ≤ sizeLine then some (.val (.str (cutS z lo hi))) else none
  | _ => none
def mNoPart : M (Option Int) := ret none
def asInt (r : Res) : M (Option Int) := fun ρ => match r with
  | .val (.int i) => some (.ok (some i), ρ)
  | _ => none
def mPart (m : M Res) : M (Option Int) := bnd (thaw m) asInt
def mSl (m : M Res) (lo hi : M (Option Int)) : M Res := bnd (thaw m) fun x => bnd lo fun l => bnd hi fun h => op1 (slD l h) x
section
variable (K : PySem.W.Frag) (mg : Str → Option Value) (E : WX)
def tP (m : M (Option Int)) : TO := fun σ H Q => ∃ Hb ρ, Rel K Hb H σ ρ ∧ Sat K mg E σ Hb H ρ m fun o σ' ρ' Hb' H' => σ' = σ → Q o H'
end
theorem e_part {K : PySem.W.Frag} {mg : Str → Option Value} {E : WX} {σ : St} {Hb H : Hp} {ρ : R} {β : Type} {P : β → St → R → Hp → Hp → Prop} {m : M (Option Int)} {f : Option Int → M β} (R : Rel K Hb H σ ρ) (S : Sat K mg E σ Hb H ρ (bnd m f) P) :
    tP K mg E m σ H fun b H1 => ∃ Hb1 ρ1, Rel K Hb1 H1 σ ρ1 ∧ Go σ ρ Hb H σ ρ1 Hb1 H1 ∧ Sat K mg E σ Hb1 H1 ρ1 (f b) fun b σ' ρ' Hb' H' => Go σ ρ Hb H σ' ρ' Hb' H' → P b σ' ρ' Hb' H' := by
  refine ⟨Hb, ρ, R, S.bnd.mono ?_⟩
  intro b σ' ρ1 Hb1 H1 g R1 S1 es
  subst es
  exact ⟨Hb1, ρ1, R1, g, S1⟩
theorem tP_mono {K : PySem.W.Frag} {mg : Str → Option Value} {E : WX} {σ : St} {H : Hp} {m : M (Option Int)} {Q Q' : Option Int → Hp → Prop} (h : tP K mg E m σ H Q) (k : ∀ v H', Q v H' → Q' v H') : tP K mg E m σ H Q' := by
  obtain ⟨Hb, ρ, R, S⟩ := h
  exact ⟨Hb, ρ, R, S.mono fun r σ' ρ' Hb' H' _ _ p es => k r H' (p es)⟩
section
variable {X : Cx} {E : WX} {pos p2 : Pos} {a e : Expr} {ma m : M Res} {lo hi : Option Expr} {ml mh : M (Option Int)}
theorem po_n : PO X none (tP X.K X.mg E mNoPart) := ⟨fun pins s σ H Q I w => po_none.run pins s σ H Q I (by
  obtain ⟨Hb, ρ, R, S⟩ := w
  exact S.ret R rfl)⟩
theorem po_s (h : PE X e (tE X.K X.mg E m)) : PO X (some e) (tP X.K X.mg E (mPart m)) := ⟨fun pins s σ H Q I w => (po_some h).run pins s σ H Q I (by
  obtain ⟨Hb, ρ, R, S⟩ := w
  refine tE_mono (e_thaw R S) fun v H1 ⟨Hb1, ρ1, x, R1, rx, g1, S1⟩ => ?_
  obtain ⟨out, ρ', e, h1, h2⟩ := S1
  unfold asInt at e
  split at e
  · rename_i i
    cases e
    refine ⟨i, ?_, h1 _ rfl σ Hb1 H1 Go.refl R1 g1 rfl⟩
    cases rx with
    | val h _ => exact h.int_inv
  · cases e)⟩
def rSlAll (K : PySem.W.Frag) : V → Option Int → Option Int → Hp → VK → Prop := fun x lo hi H Q => (rSlL K x lo hi H Q ∨ rSlA K x lo hi H Q) ∨ rSlS x lo hi H Q
theorem sl_all : SlR X (rSlAll X.K) := (sl_list.or sl_tupA).or sl_str
theorem cut_rp {K : PySem.W.Frag} {H : Hp} {vs : List V} {xs : List D} (r : RpAll K H vs xs) (lo hi : Option Int) : RpAll K H (cutV vs lo hi) (cutD xs lo hi) := by
  unfold cutV cutD
  rw [r.length]
  exact (r.drop _).take _
theorem sl_run {K : PySem.W.Frag} {Hb H : Hp} {x : V} {d : D} {lo hi : Option Int} {res : Res} {Q : VK} (ex : Ex Hb H) (hx : Top K Hb H x d) (hf : slD lo hi d = some res) (k : ∀ v Hb' H', New Hb H Hb' H' → RR K Hb' H' H v res → Q v H') : rSlAll K x lo hi H Q := by
  unfold slD at hf
  split at hf
  · rename_i xs
    cases hf
    obtain ⟨a, vs, rfl, s, r⟩ := hx.list ex
    exact .inl (.inl ⟨a, vs, rfl, s, fun p hp => k _ Hb _ (New.mut ex hp) ⟨p, _, rfl, fresh_back ex hp, upd_same, cut_rp r lo hi, hp⟩⟩)
  · rename_i xs
    cases hf
    obtain ⟨a, vs, rfl, s, r⟩ := hx.tuple'
    refine .inl (.inr ⟨a, vs, rfl, ex_t ex s, fun c => ?_, fun c p hp => ?_⟩)
    · refine k _ Hb H (New.refl ex) ?_
      have e : cutD xs lo hi = xs := by
        unfold cutD
        rw [← r.length, c.1, c.2, List.drop_zero, Nat.sub_zero]
        have : vs.length = xs.length := r.length
        rw [this, List.take_length]
      rw [e]
      exact .tup s r
    · have n := New.fix (o := HO.tup (cutV vs lo hi)) ex hp
      exact k _ _ _ n (.tup (SqT.of upd_same) ((cut_rp r lo hi).mono n.b))
  · rename_i z
    split at hf
    · rename_i c
      cases hf
      exact .inr ⟨z, hx.str, c, k _ Hb H (New.refl ex) (.str _)⟩
    · cases hf
  · cases hf
theorem me_sl (he : PE X e (tE X.K X.mg E m)) (hl : PO X lo (tP X.K X.mg E ml)) (hh : PO X hi (tP X.K X.mg E mh)) : PE X (.Subscript e (.Slice lo hi none p2) pos) (tE X.K X.mg E (mSl m ml mh)) := (pe_slice sl_all he hl hh).imp fun σ H Q w => by
  obtain ⟨Hb, ρ, R, S⟩ := w
  refine tE_mono (e_thaw R S) fun v H1 ⟨Hb1, ρ1, x, R1, rx, g1, S1⟩ => ?_
  refine tP_mono (e_part R1 S1) fun l H2 ⟨Hb2, ρ2, R2, g2, S2⟩ => ?_
  refine tP_mono (e_part R2 S2) fun h H3 ⟨Hb3, ρ3, R3, g3, S3⟩ => ?_
  obtain ⟨d, res, h1, h2, h3⟩ := op1_run R3 (rx.mono (g2.trans g3).b) (g1.trans (g2.trans g3)).t (S3.mono fun b σ' ρ' Hb' H' g4 R4 p => p (g3.trans g4) (g2.trans (g3.trans g4)) (g1.trans (g2.trans (g3.trans g4))))
  exact sl_run R3.ex h1 h2 h3
theorem me_ix (ha : PE X a (tE X.K X.mg E ma)) (hb : PE X e (tE X.K X.mg E m)) (hs : PlainIx e := by exact fun _ _ => rfl) : PE X (.Subscript a e pos) (tE X.K X.mg E (mBin ixD ma m)) := pe_ixo ix_seq bin_ix ha hb hs
end

/-! ### a chain of two comparisons -/
def isT : Res → Option Bool
  | .val (.bool b) => some b
  | _ => none
def mChain (f f' : D → D → Option Res) (a b c : M Res) : M Res := bnd (thaw a) fun x => bnd (thaw b) fun y => bnd (op2 f x y) fun r => match isT r with
  | some true => bnd (thaw c) fun z => op2 f' y z
  | some false => ret (.val (.bool false))
  | none => stuck
theorem isT_some {r : Res} {b : Bool} (h : isT r = some b) : r = .val (.bool b) := by
  unfold isT at h
  split at h <;> cases h
  rfl
theorem chain_read {K : PySem.W.Frag} {mg : Str → Option Value} {E : WX} {r r' : R2} {f f' : D → D → Option Res} {ma mb mc : M Res} (hf : Bin K r f) (hf' : Bin K r' f') {σ : St} {H : Hp} {Q : VK} (w : tE K mg E (mChain f f' ma mb mc) σ H Q) :
    tChain r r' (tE K mg E ma) (tE K mg E mb) (tE K mg E mc) σ H Q := by
  obtain ⟨Hb, ρ, R, S⟩ := w
  refine tE_mono (e_thaw R S) fun v H1 ⟨Hb1, ρ1, x, R1, rx, g1, S1⟩ => ?_
  refine tE_mono (e_thaw R1 S1) fun w H2 ⟨Hb2, ρ2, y, R2, ry, g2, S2⟩ => ?_
  have S3 := S2.bnd
  refine op2_run (mg := mg) (E := E) hf (H0 := H2) R2 (rx.mono g2.b) ry (fun _ q => q) (S3.mono fun res σ' ρ3 Hb3 H3 g3 R3 S4 es u rep => ?_)
  subst es
  cases q : isT res with
  | none =>
    rw [q] at S4
    obtain ⟨_, _, e, _⟩ := S4
    cases e
  | some k =>
    have e := isT_some q
    subst e
    rw [q] at S4
    cases (show u = .bl k from Rp.bool_inv rep)
    refine ⟨k, rfl, ?_⟩
    have g13 := g1.trans (g2.trans g3)
    cases k with
    | true =>
      rw [if_pos rfl]
      refine tE_mono (e_thaw R3 S4) fun w4 H4 ⟨Hb4, ρ4, z, R4, rz, g4, S5⟩ => ?_
      refine op2_run (mg := mg) (E := E) hf' (H0 := H) R4 (ry.mono (g3.trans g4).b) rz (g13.trans g4).t ?_
      exact S5.mono fun b σ' ρ' Hb' H' g5 R5 p => p (g4.trans g5) (g3.trans (g4.trans g5)) (g2.trans (g3.trans (g4.trans g5))) (g1.trans (g2.trans (g3.trans (g4.trans g5))))
    | false =>
      rw [if_neg Bool.false_ne_true]
      exact S4.ret R3 g3 (g2.trans g3) g13 rfl _ (.bl false)

theorem me_chain {X : Cx} {E : WX} {op op' : CmpOp} {a b c : Expr} {pos : Pos} {r r' : R2} {f f' : D → D → Option Res} {ma mb mc : M Res} (ho : OpR X (compareOp op) r) (ho' : OpR X (compareOp op') r') (hf : Bin X.K r f) (hf' : Bin X.K r' f')
    (ha : PE X a (tE X.K X.mg E ma)) (hb : PE X b (tE X.K X.mg E mb)) (hc : PE X c (tE X.K X.mg E mc)) (hm : lastMarks [op, op'] [b, c] = false := by with_unfolding_all rfl) :
    PE X (.Compare a [op, op'] [b, c] pos) (tE X.K X.mg E (mChain f f' ma mb mc)) := (pe_chain ho ho' ha hb hc hm).imp fun σ H Q w => chain_read hf hf' w
/-! ### tests -/
def asB (r : Res) : M Bool := fun ρ => match isT r with
  | some b => some (.ok b, ρ)
  | none => none
def mB (m : M Res) : M Bool := bnd (thaw m) asB
def mAnd (a b : M Bool) : M Bool := bnd a fun x => if x then b else ret false
def mOr (a b : M Bool) : M Bool := bnd a fun x => if x then ret true else b
def mNot (a : M Bool) : M Bool := bnd a fun x => ret (!x)
/-- the truth of a list, a tuple, a text, a number -/
def truD : D → Option Bool
  | .none => some false
  | .bool b => some b
  | .int i => some (i != 0)
  | .str x => if x.length ≤ sizeLine then some (x.length != 0) else none
  | .list xs => some (!xs.isEmpty)
  | .tuple xs => some (!xs.isEmpty)
  | _ => none
def asTru (r : Res) : M Bool := fun ρ => match look r ρ with
  | some d => match truD d with
    | some b => some (.ok b, ρ)
    | none => none
  | none => none
def mTru (m : M Res) : M Bool := bnd (thaw m) asTru
/-- a test as a value -/
def mOfB (m : M Bool) : M Res := bnd m fun b => ret (.val (.bool b))
section
variable {K : PySem.W.Frag} {mg : Str → Option Value} {E : WX} {σ : St} {H : Hp}
theorem b_read {m : M Res} {Q : Bool → Hp → Prop} (w : tT K mg E (mB m) σ H Q) : tE K mg E m σ H fun v H1 => ∃ c, v = .bl c ∧ Q c H1 := by
  obtain ⟨Hb, ρ, R, S⟩ := w
  refine tE_mono (e_thaw R S) fun v H1 ⟨Hb1, ρ1, x, R1, rx, g1, S1⟩ => ?_
  obtain ⟨out, ρ', e, h1, h2⟩ := S1
  unfold asB at e
  split at e
  · rename_i b hb
    cases e
    have e := isT_some hb
    subst e
    cases rx with
    | val h _ => exact ⟨b, h.bool_inv, h1 _ rfl σ Hb1 H1 Go.refl R1 g1 rfl⟩
  · cases e
variable {X : Cx} {pos : Pos} {a b : Expr} {rest : List Expr} {m : M Res} {ma mb : M Bool}
theorem mt_cmp {op : CmpOp} {r : R2} {f : D → D → Option Res} {m1 m2 : M Res} (ho : OpR X (compareOp op) r) (hf : Bin X.K r f) (ha : PE X a (tE X.K X.mg E m1)) (hb : PE X b (tE X.K X.mg E m2)) (hm : behindInMarks op b = false := by rfl) :
    PT X (.Compare a [op] [b] pos) (tT X.K X.mg E (mB (mBin f m1 m2))) := (pt_cmpR ho ha hb hm).imp fun σ H Q w => bin_read hf (b_read w)
theorem mt_chain {op op' : CmpOp} {c : Expr} {r r' : R2} {f f' : D → D → Option Res} {m1 m2 m3 : M Res} (ho : OpR X (compareOp op) r) (ho' : OpR X (compareOp op') r') (hf : Bin X.K r f) (hf' : Bin X.K r' f')
    (ha : PE X a (tE X.K X.mg E m1)) (hb : PE X b (tE X.K X.mg E m2)) (hc : PE X c (tE X.K X.mg E m3)) (hm : lastMarks [op, op'] [b, c] = false := by with_unfolding_all rfl) :
    PT X (.Compare a [op, op'] [b, c] pos) (tT X.K X.mg E (mB (mChain f f' m1 m2 m3))) := (pt_chain ho ho' ha hb hc hm).imp fun σ H Q w => chain_read hf hf' (b_read w)
theorem mt_val (he : PE X a (tE X.K X.mg E m)) (hs : ∀ whole, isTrue a X.env whole = (do let v ← whole; standAt a.pos; holding [v] (truthy v)) := by intro _; rfl) : PT X a (tT X.K X.mg E (mB m)) := (pt_val he hs).imp fun σ H Q w => b_read w
theorem mt_and (ha : PT X a (tT X.K X.mg E ma)) (hb : PW X (.BoolOp .And (b :: rest) pos) (tT X.K X.mg E mb)) : PW X (.BoolOp .And (a :: b :: rest) pos) (tT X.K X.mg E (mAnd ma mb)) := (pw_and ha hb).imp fun σ H Q w => by
  obtain ⟨Hb, ρ, R, S⟩ := w
  refine tT_mono (e_test R S) fun c H1 ⟨Hb1, ρ1, R1, g1, S1⟩ => ?_
  cases c with
  | true =>
    rw [if_pos rfl]
    exact ⟨Hb1, ρ1, R1, S1.mono fun b σ' ρ' Hb' H' g2 R2 p => p (g1.trans g2)⟩
  | false =>
    rw [if_neg Bool.false_ne_true]
    exact S1.ret R1 g1 rfl
theorem mt_or (ha : PT X a (tT X.K X.mg E ma)) (hb : PW X (.BoolOp .Or (b :: rest) pos) (tT X.K X.mg E mb)) : PW X (.BoolOp .Or (a :: b :: rest) pos) (tT X.K X.mg E (mOr ma mb)) := (pw_or ha hb).imp fun σ H Q w => by
  obtain ⟨Hb, ρ, R, S⟩ := w
  refine tT_mono (e_test R S) fun c H1 ⟨Hb1, ρ1, R1, g1, S1⟩ => ?_
  cases c with
  | false =>
    rw [if_neg Bool.false_ne_true]
    exact ⟨Hb1, ρ1, R1, S1.mono fun b σ' ρ' Hb' H' g2 R2 p => p (g1.trans g2)⟩
  | true =>
    rw [if_pos rfl]
    exact S1.ret R1 g1 rfl
theorem mt_and1 (ha : PT X a (tT X.K X.mg E ma)) : PW X (.BoolOp .And [a] pos) (tT X.K X.mg E ma) := pw_and1 ha
theorem mt_or1 (ha : PT X a (tT X.K X.mg E ma)) : PW X (.BoolOp .Or [a] pos) (tT X.K X.mg E ma) := pw_or1 ha
theorem mt_not (ha : PT X a (tT X.K X.mg E ma)) : PT X (.UnaryOp .Not a pos) (tT X.K X.mg E (mNot ma)) := (pt_not ha).imp fun σ H Q w => by
  obtain ⟨Hb, ρ, R, S⟩ := w
  refine tT_mono (e_test R S) fun c H1 ⟨Hb1, ρ1, R1, g1, S1⟩ => ?_
  exact S1.ret R1 g1 rfl
end
end Mi

/-! Mi: arguments, displays, calls of built-ins. -/
namespace Mi
open PySem L2 Evl

/-! ### values by truth, either or -/
def mAndV (a b : M Res) : M Res := bnd (thaw a) fun x => match isT x with
  | some true => b
  | some false => ret (.val (.bool false))
  | none => stuck
def mOrV (a b : M Res) : M Res := bnd (thaw a) fun x => match isT x with
  | some true => ret (.val (.bool true))
  | some false => b
  | none => stuck
def mIf (c : M Bool) (a b : M Res) : M Res := bnd c fun t => if t then a else b
section
variable {X : Cx} {E : WX} {pos : Pos} {a b c : Expr} {rest : List Expr} {ma mb : M Res} {mc : M Bool}
theorem isT_rep {K : PySem.W.Frag} {Hb : Hp} {σ : St} {v : V} {x : Res} {k : Bool} (rx : RepA K Hb σ [v] [x]) (q : isT x = some k) : v = .bl k := by
  have e := isT_some q
  subst e
  cases rx with
  | val h _ => exact h.bool_inv
theorem me_and (ha : PE X a (tE X.K X.mg E ma)) (hb : PE X (.BoolOp .And (b :: rest) pos) (tE X.K X.mg E mb)) : PE X (.BoolOp .And (a :: b :: rest) pos) (tE X.K X.mg E (mAndV ma mb)) := (pe_and ha hb).imp fun σ H Q w => by
  obtain ⟨Hb, ρ, R, S⟩ := w
  refine tE_mono (e_thaw R S) fun v H1 ⟨Hb1, ρ1, x, R1, rx, g1, S1⟩ => ?_
  cases q : isT x with
  | none =>
    rw [q] at S1
    obtain ⟨_, _, e, _⟩ := S1
    cases e
  | some k =>
    rw [q] at S1
    refine ⟨k, isT_rep rx q, ?_⟩
    cases k with
    | true =>
      rw [if_pos rfl]
      exact e_last R1 g1.t (S1.mono fun b σ' ρ' Hb' H' g2 R2 p => p (g1.trans g2))
    | false =>
      rw [if_neg Bool.false_ne_true]
      exact S1.ret R1 g1 rfl _ (.bl false)
theorem me_or (ha : PE X a (tE X.K X.mg E ma)) (hb : PE X (.BoolOp .Or (b :: rest) pos) (tE X.K X.mg E mb)) : PE X (.BoolOp .Or (a :: b :: rest) pos) (tE X.K X.mg E (mOrV ma mb)) := (pe_or ha hb).imp fun σ H Q w => by
  obtain ⟨Hb, ρ, R, S⟩ := w
  refine tE_mono (e_thaw R S) fun v H1 ⟨Hb1, ρ1, x, R1, rx, g1, S1⟩ => ?_
  cases q : isT x with
  | none =>
    rw [q] at S1
    obtain ⟨_, _, e, _⟩ := S1
    cases e
  | some k =>
    rw [q] at S1
    refine ⟨k, isT_rep rx q, ?_⟩
    cases k with
    | true =>
      rw [if_pos rfl]
      exact S1.ret R1 g1 rfl _ (.bl true)
    | false =>
      rw [if_neg Bool.false_ne_true]
      exact e_last R1 g1.t (S1.mono fun b σ' ρ' Hb' H' g2 R2 p => p (g1.trans g2))
theorem me_one {op} (h : PE X a (tE X.K X.mg E ma)) : PE X (.BoolOp op [a] pos) (tE X.K X.mg E ma) := pe_one h
theorem me_if (hc : PT X c (tT X.K X.mg E mc)) (ha : PE X a (tE X.K X.mg E ma)) (hb : PE X b (tE X.K X.mg E mb)) : PE X (.IfExp c a b pos) (tE X.K X.mg E (mIf mc ma mb)) := (pe_ifExp hc ha hb).imp fun σ H Q w => by
  obtain ⟨Hb, ρ, R, S⟩ := w
  refine tT_mono (e_test R S) fun t H1 ⟨Hb1, ρ1, R1, g1, S1⟩ => ?_
  cases t with
  | true =>
    rw [if_pos rfl]
    exact e_last R1 g1.t (S1.mono fun b σ' ρ' Hb' H' g2 R2 p => p (g1.trans g2))
  | false =>
    rw [if_neg Bool.false_ne_true]
    exact e_last R1 g1.t (S1.mono fun b σ' ρ' Hb' H' g2 R2 p => p (g1.trans g2))
/-- a test by the truth of any value -/
theorem mt_tru {m : M Res} (he : PE X a (tE X.K X.mg E m)) (hs : ∀ whole, isTrue a X.env whole = (do let v ← whole; standAt a.pos; holding [v] (truthy v)) := by intro _; rfl) : PT X a (tT X.K X.mg E (mTru m)) := (pt_truth he hs).imp fun σ H Q w => by
  obtain ⟨Hb, ρ, R, S⟩ := w
  refine tE_mono (e_thaw R S) fun v H1 ⟨Hb1, ρ1, x, R1, rx, g1, S1⟩ => ?_
  obtain ⟨out, ρ', e, h1, h2⟩ := S1
  unfold asTru at e
  split at e
  · rename_i d hd
    split at e
    · rename_i k hk
      cases e
      refine ⟨k, ?_, h1 _ rfl σ Hb1 H1 Go.refl R1 g1 rfl⟩
      have tp := repA_top R1 rx hd
      unfold truD at hk
      split at hk
      · cases hk; cases tp.none; rfl
      · cases hk; cases tp.bool; rfl
      · cases hk; cases tp.int; rfl
      · rename_i z
        split at hk
        · rename_i c
          cases hk
          cases tp.str
          refine ⟨c, ?_⟩
          cases q : z.length with
          | zero => rfl
          | succ n =>
            have e : ((n + 1 : Nat) : Int) ≠ 0 := by omega
            simp [e]
            omega
        · cases hk
      · rename_i xs
        cases hk
        obtain ⟨p, vs, rfl, s, r⟩ := tp.list R1.ex
        refine .inl ⟨vs, s, ?_⟩
        cases r <;> rfl
      · rename_i xs
        cases hk
        obtain ⟨p, vs, rfl, s, r⟩ := tp.tuple R1.ex
        refine .inr (.inl ⟨vs, s, ?_⟩)
        cases r <;> rfl
      · cases hk
    · cases e
  · cases e
end

/-! ### arguments -/
def aNil : M (List Res) := ret []
/-- an argument that is seen | that is kept -/
def aT (m : M Res) (r : M (List Res)) : M (List Res) := bnd (thaw m) fun x => bnd r fun xs => ret (x :: xs)
def aV (m : M Res) (r : M (List Res)) : M (List Res) := bnd (mVal m) fun d => bnd r fun xs => ret (.val d :: xs)
section
variable {X : Cx} {E : WX} {e : Expr} {es : List Expr} {m : M Res} {mr : M (List Res)}
theorem ma_nil : PA X [] (tA X.K X.mg E aNil) := ⟨fun pos pins s σ H Q I w => pa_nil.run pos pins s σ H Q I (by
  obtain ⟨Hb, ρ, R, S⟩ := w
  exact S.ret R rfl [] .nil)⟩
theorem ma_t (he : PE X e (tE X.K X.mg E m)) (hr : PA X es (tA X.K X.mg E mr)) (hs : starEach (e :: es) X.env = (false, eval e X.env) :: starEach es X.env := by rfl) : PA X (e :: es) (tA X.K X.mg E (aT m mr)) := (pa_cons he hr hs).imp fun σ H Q w => by
  obtain ⟨Hb, ρ, R, S⟩ := w
  refine tE_mono (e_thaw R S) fun v H1 ⟨Hb1, ρ1, x, R1, rx, g1, S1⟩ => ?_
  refine tA_mono (e_args R1 S1) fun vs H2 ⟨Hb2, ρ2, rs, R2, rr, g2, S2⟩ => ?_
  exact S2.ret R2 g2 (g1.trans g2) rfl _ ((rx.mono g2.b).append rr)
theorem ma_v (he : PE X e (tE X.K X.mg E m)) (hr : PA X es (tA X.K X.mg E mr)) (hs : starEach (e :: es) X.env = (false, eval e X.env) :: starEach es X.env := by rfl) : PA X (e :: es) (tA X.K X.mg E (aV m mr)) := (pa_cons he hr hs).imp fun σ H Q w => by
  obtain ⟨Hb, ρ, R, S⟩ := w
  refine tE_mono (e_val R S) fun v H1 ⟨Hb1, ρ1, d, R1, rx, g1, S1⟩ => ?_
  refine tA_mono (e_args R1 S1) fun vs H2 ⟨Hb2, ρ2, rs, R2, rr, g2, S2⟩ => ?_
  exact S2.ret R2 g2 (g1.trans g2) rfl _ (.val (rx.mono g2.b) rr)
end
/-- all data -/
def valsOf : List Res → Option (List D)
  | [] => some []
  | .val d :: rs => (valsOf rs).map (d :: ·)
  | _ :: _ => none
theorem valsOf_rp {K : PySem.W.Frag} {Hb : Hp} {σ : St} : ∀ {vs : List V} {rs : List Res} {ds : List D}, RepA K Hb σ vs rs → valsOf rs = some ds → RpAll K Hb vs ds
  | _, _, _, .nil, e => by cases e; exact .nil
  | _, _, _, .val a b, e => by
    unfold valsOf at e
    obtain ⟨es, e1, rfl⟩ := Option.map_eq_some_iff.mp e
    exact .cons a (valsOf_rp b e1)
  | _, _, _, .slot _ _, e => by cases e
def mTup (as : M (List Res)) : M Res := bnd as fun rs => fun ρ => match valsOf rs with
  | some ds => if ds.length ≤ sizeLine then some (.ok (.val (.tuple ds)), ρ) else none
  | none => none
def mLst (as : M (List Res)) : M Res := bnd as fun rs => fun ρ => match valsOf rs with
  | some ds => if ds.length ≤ sizeLine then some (.ok (.fresh ds), ρ) else none
  | none => none
section
variable {X : Cx} {E : WX} {es : List Expr} {pos : Pos} {mr : M (List Res)}
theorem me_tup {k} (h : PA X es (tA X.K X.mg E mr)) : PE X (.Tuple es k pos) (tE X.K X.mg E (mTup mr)) := (pe_tup h).imp fun σ H Q w => by
  obtain ⟨Hb, ρ, R, S⟩ := w
  refine tA_mono (e_args R S) fun vs H2 ⟨Hb2, ρ2, rs, R2, rr, g2, S2⟩ => ?_
  obtain ⟨out, ρ', e, h1, h2⟩ := S2
  dsimp only at e
  split at e
  · rename_i ds hd
    split at e
    · rename_i c
      cases e
      have r := valsOf_rp rr hd
      refine ⟨by rw [r.length]; exact c, fun p hp => ?_⟩
      have n := New.fix (o := HO.tup vs) R2.ex hp
      exact h1 _ rfl σ _ _ n.go (n.rel R2) (g2.trans n.go) rfl _ (.tup (SqT.of upd_same) (r.mono n.b))
    · cases e
  · cases e
theorem me_lst (h : PA X es (tA X.K X.mg E mr)) : PE X (.List es pos) (tE X.K X.mg E (mLst mr)) := (pe_lst h).imp fun σ H Q w => by
  obtain ⟨Hb, ρ, R, S⟩ := w
  refine tA_mono (e_args R S) fun vs H2 ⟨Hb2, ρ2, rs, R2, rr, g2, S2⟩ => ?_
  obtain ⟨out, ρ', e, h1, h2⟩ := S2
  dsimp only at e
  split at e
  · rename_i ds hd
    split at e
    · rename_i c
      cases e
      have r := valsOf_rp rr hd
      refine ⟨by rw [r.length]; exact c, fun p hp => ?_⟩
      have n := New.mut (o := HO.lst vs) R2.ex hp
      have g := g2.trans (n.go (σ := σ) (ρ := ρ2))
      refine h1 _ rfl σ _ _ n.go (n.rel R2) g rfl _ ⟨p, vs, rfl, fresh_back R2.ex hp, upd_same, r, Classical.byContradiction fun q => g2.t p q hp, fun q => ?_⟩
      obtain ⟨_, ws, z⟩ := R2.owned q
      rw [hp] at z; cases z
    · cases e
  · cases e
end

/-! ### calls of what is known by its values -/
abbrev TopAll (K : PySem.W.Frag) (Hb H : Hp) : List V → List D → Prop := Paired (Top K Hb H)
def lookAll : List Res → R → Option (List D)
  | [], _ => some []
  | r :: rs, ρ => match look r ρ, lookAll rs ρ with
    | some d, some ds => some (d :: ds)
    | _, _ => none
theorem lookAll_top {K : PySem.W.Frag} {Hb H : Hp} {σ : St} {ρ : R} (R : Rel K Hb H σ ρ) : ∀ {vs : List V} {rs : List Res} {ds : List D}, RepA K Hb σ vs rs → lookAll rs ρ = some ds → TopAll K Hb H vs ds
  | _, _, _, .nil, e => by cases e; exact .nil
  | _, _, _, .val a b, e => by
    unfold lookAll at e
    split at e
    · rename_i d ds h1 h2
      cases e
      exact .cons (repA_top R (.val a .nil) h1) (lookAll_top R b h2)
    · cases e
  | _, _, _, .slot a b, e => by
    unfold lookAll at e
    split at e
    · rename_i d ds h1 h2
      cases e
      exact .cons (repA_top R (.slot a .nil) h1) (lookAll_top R b h2)
    · cases e
def Cal (K : PySem.W.Frag) (r : List V → Hp → VK → Prop) (f : List D → Option Res) : Prop := ∀ (Hb H : Hp) (vs : List V) (ds : List D) (res : Res) (Q : VK), Ex Hb H → TopAll K Hb H vs ds → f ds = some res →
  (∀ v Hb' H', New Hb H Hb' H' → RR K Hb' H' H v res → Q v H') → r vs H Q
def opN (f : List D → Option Res) (rs : List Res) : M Res := fun ρ => match lookAll rs ρ with
  | some ds => match f ds with
    | some r => some (.ok r, ρ)
    | none => none
  | none => none
def mCall (f : List D → Option Res) (as : M (List Res)) : M Res := bnd as fun rs => opN f rs
theorem cal_read {K : PySem.W.Frag} {mg : Str → Option Value} {E : WX} {σ : St} {H : Hp} {Q : VK} {r : List V → Hp → VK → Prop} {f : List D → Option Res} {mr : M (List Res)} (hr : Cal K r f) (w : tE K mg E (mCall f mr) σ H Q) : tA K mg E mr σ H fun vs H1 => r vs H1 Q := by
  obtain ⟨Hb, ρ, R, S⟩ := w
  refine tA_mono (e_args R S) fun vs H2 ⟨Hb2, ρ2, rs, R2, rr, g2, S2⟩ => ?_
  obtain ⟨out, ρ', e, h1, h2⟩ := S2
  unfold opN at e
  split at e
  · rename_i ds hd
    split at e
    · rename_i res hf
      cases e
      exact hr Hb2 H2 vs ds res Q R2.ex (lookAll_top R2 rr hd) hf fun v Hb' H' n rr' => h1 _ rfl σ Hb' H' n.go (n.rel R2) (g2.trans n.go) rfl v ((rr'.rep R2).from' g2.t)
    · cases e
  · cases e
theorem Cal.or {K : PySem.W.Frag} {r r' : List V → Hp → VK → Prop} {f f' : List D → Option Res} (h : Cal K r f) (h' : Cal K r' f') : Cal K (fun vs H Q => r vs H Q ∨ r' vs H Q) (fun ds => match f ds with | some z => some z | none => f' ds) := by
  intro Hb H vs ds res Q ex hx hf k
  dsimp only at hf
  cases q : f ds with
  | some z =>
    rw [q] at hf
    exact .inl (h Hb H vs ds res Q ex hx (q.trans hf) k)
  | none =>
    rw [q] at hf
    exact .inr (h' Hb H vs ds res Q ex hx hf k)
theorem Cal.imp {K : PySem.W.Frag} {r : List V → Hp → VK → Prop} {f f' : List D → Option Res} (h : Cal K r f) (k : ∀ ds z, f' ds = some z → f ds = some z) : Cal K r f' := fun Hb H vs ds res Q ex hx hf => h Hb H vs ds res Q ex hx (k ds res hf)
theorem CallR.or' {X : Cx} {f : Value} {r r' : List V → Hp → VK → Prop} (h : CallR X f r) (h' : CallR X f r') : CallR X f fun vs H Q => r vs H Q ∨ r' vs H Q := by
  intro pins s σ H xs us Q I rv w
  rcases w with w | w
  · exact h pins s σ H xs us Q I rv w
  · exact h' pins s σ H xs us Q I rv w
section
variable {X : Cx} {E : WX} {e : Expr} {es : List Expr} {p pos : Pos} {x : Str} {id T : String} {r : List V → Hp → VK → Prop} {f : List D → Option Res} {mr : M (List Res)}
theorem me_callB (hc : CallR X (.builtin id) r) (hf : Cal X.K r f) (hg : Gl X x) (hm : X.mg x = none) (hv : bootBuiltins x = some (.builtin id)) (ha : PA X (e :: es) (tA X.K X.mg E mr)) (hn : x ≠ "__name__" := by decide) (hdb : (x == ("__debug__" : Str)) = false := by decide)
    (he : starEach (e :: es) X.env = (false, eval e X.env) :: starEach es X.env := by rfl) (hpl : (backTo pos (starEach es X.env)).any (·.1) = false := by rfl) : PE X (.Call (.Name x p) (e :: es) [] pos) (tE X.K X.mg E (mCall f mr)) :=
  (pe_callB hc hg hm hv ha hn hdb he hpl).imp fun _ _ _ w => cal_read hf w
theorem me_callT (hc : CallR X (.type T) r) (hf : Cal X.K r f) (hg : Gl X x) (hm : X.mg x = none) (hv : bootBuiltins x = some (.type T)) (ha : PA X (e :: es) (tA X.K X.mg E mr)) (hn : x ≠ "__name__" := by decide) (hdb : (x == ("__debug__" : Str)) = false := by decide)
    (he : starEach (e :: es) X.env = (false, eval e X.env) :: starEach es X.env := by rfl) (hpl : (backTo pos (starEach es X.env)).any (·.1) = false := by rfl) : PE X (.Call (.Name x p) (e :: es) [] pos) (tE X.K X.mg E (mCall f mr)) :=
  (pe_callTy hc hg hm hv ha hn hdb he hpl).imp fun _ _ _ w => cal_read hf w
/-- a name of the module that holds a built-in function -/
theorem me_callG (hc : CallR X (.builtin id) r) (hf : Cal X.K r f) (hg : Gl X x) (hm : X.mg x = some (.builtin id)) (ha : PA X (e :: es) (tA X.K X.mg E mr)) (hdb : (x == ("__debug__" : Str)) = false := by decide)
    (he : starEach (e :: es) X.env = (false, eval e X.env) :: starEach es X.env := by rfl) (hpl : (backTo pos (starEach es X.env)).any (·.1) = false := by rfl) : PE X (.Call (.Name x p) (e :: es) [] pos) (tE X.K X.mg E (mCall f mr)) :=
  (pe_callBfun hc hg hm ha hdb he hpl).imp fun _ _ _ w => cal_read hf w
end

/-! ### which -/
section
variable {K : PySem.W.Frag} {X : Cx}
theorem tops1 {Hb H : Hp} {vs : List V} {d : D} (h : TopAll K Hb H vs [d]) : ∃ v, vs = [v] ∧ Top K Hb H v d := by
  cases h with
  | cons a b =>
    cases b
    exact ⟨_, rfl, a⟩
theorem tops2 {Hb H : Hp} {vs : List V} {d e : D} (h : TopAll K Hb H vs [d, e]) : ∃ v w, vs = [v, w] ∧ Top K Hb H v d ∧ Top K Hb H w e := by
  cases h with
  | cons a b =>
    cases b with
    | cons a' b' =>
      cases b'
      exact ⟨_, _, rfl, a, a'⟩
def lenD : List D → Option Res
  | [.list xs] => some (.val (.int (xs.length : Nat)))
  | [.tuple xs] => some (.val (.int (xs.length : Nat)))
  | [.str z] => if z.length ≤ sizeLine then some (.val (.int (z.length : Nat))) else none
  | _ => none
theorem cal_len : Cal K (fun xs H Q => ∃ x n, xs = [x] ∧ LenV K x H n ∧ Q (.int n) H) lenD := by
  intro Hb H vs ds res Q ex hx hf k
  unfold lenD at hf
  split at hf
  · rename_i xs
    cases hf
    obtain ⟨v, rfl, tp⟩ := tops1 hx
    obtain ⟨p, ws, rfl, s, r⟩ := tp.list ex
    exact ⟨_, xs.length, rfl, .inl ⟨ws, s, r.length.symm⟩, k _ Hb H (New.refl ex) (.int _)⟩
  · rename_i xs
    cases hf
    obtain ⟨v, rfl, tp⟩ := tops1 hx
    obtain ⟨p, ws, rfl, s, r⟩ := tp.tuple ex
    exact ⟨_, xs.length, rfl, .inr ⟨ws, s, r.length.symm⟩, k _ Hb H (New.refl ex) (.int _)⟩
  · rename_i z
    split at hf
    · rename_i c
      cases hf
      obtain ⟨v, rfl, tp⟩ := tops1 hx
      cases tp.str
      exact ⟨_, z.length, rfl, ⟨c, rfl⟩, k _ Hb H (New.refl ex) (.int _)⟩
    · cases hf
  · cases hf
def absD : List D → Option Res
  | [.int i] => some (.val (.int (if i < 0 then -i else i)))
  | _ => none
theorem cal_abs : Cal K (fun xs H Q => ∃ i, xs = [.int i] ∧ Q (.int (if i < 0 then -i else i)) H) absD := by
  intro Hb H vs ds res Q ex hx hf k
  unfold absD at hf
  split at hf
  · cases hf
    obtain ⟨v, rfl, tp⟩ := tops1 hx
    cases tp.int
    exact ⟨_, rfl, k _ Hb H (New.refl ex) (.int _)⟩
  · cases hf
def max2D : List D → Option Res
  | [.int i, .int j] => some (.val (.int (if j > i then j else i)))
  | _ => none
def min2D : List D → Option Res
  | [.int i, .int j] => some (.val (.int (if j < i then j else i)))
  | _ => none
theorem cal_max2 : Cal K (fun xs H Q => ∃ i j, xs = [.int i, .int j] ∧ Q (.int (if j > i then j else i)) H) max2D := by
  intro Hb H vs ds res Q ex hx hf k
  unfold max2D at hf
  split at hf
  · cases hf
    obtain ⟨v, w, rfl, t1, t2⟩ := tops2 hx
    cases t1.int
    cases t2.int
    exact ⟨_, _, rfl, k _ Hb H (New.refl ex) (.int _)⟩
  · cases hf
theorem cal_min2 : Cal K (fun xs H Q => ∃ i j, xs = [.int i, .int j] ∧ Q (.int (if j < i then j else i)) H) min2D := by
  intro Hb H vs ds res Q ex hx hf k
  unfold min2D at hf
  split at hf
  · cases hf
    obtain ⟨v, w, rfl, t1, t2⟩ := tops2 hx
    cases t1.int
    cases t2.int
    exact ⟨_, _, rfl, k _ Hb H (New.refl ex) (.int _)⟩
  · cases hf
def gcdD : List D → Option Res
  | [.int i, .int j] => some (.val (.int ((Nat.gcd i.natAbs j.natAbs : Nat) : Int)))
  | _ => none
theorem cal_gcd : Cal K rGcd gcdD := by
  intro Hb H vs ds res Q ex hx hf k
  unfold gcdD at hf
  split at hf
  · cases hf
    obtain ⟨v, w, rfl, t1, t2⟩ := tops2 hx
    cases t1.int
    cases t2.int
    exact ⟨_, _, rfl, k _ Hb H (New.refl ex) (.int _)⟩
  · cases hf
def intD : List D → Option Res
  | [.int i] => some (.val (.int i))
  | [.bool b] => some (.val (.int (if b then 1 else 0)))
  | [.str a] => if a.length ≤ 640 then (PySem.intText? a).map fun n => .val (.int n) else none
  | _ => none
theorem cal_int : Cal K (fun xs H Q => ((∃ i, xs = [.int i] ∧ Q (.int i) H) ∨ ∃ k, xs = [.bl k] ∧ Q (.int (if k then 1 else 0)) H) ∨ ∃ a n, xs = [.str a] ∧ PySem.intText? a = some n ∧ a.length ≤ 640 ∧ Q (.int n) H) intD := by
  intro Hb H vs ds res Q ex hx hf k
  unfold intD at hf
  split at hf
  · cases hf
    obtain ⟨v, rfl, t1⟩ := tops1 hx
    cases t1.int
    exact .inl (.inl ⟨_, rfl, k _ Hb H (New.refl ex) (.int _)⟩)
  · cases hf
    obtain ⟨v, rfl, t1⟩ := tops1 hx
    cases t1.bool
    exact .inl (.inr ⟨_, rfl, k _ Hb H (New.refl ex) (.int _)⟩)
  · rename_i a
    split at hf
    · rename_i c
      obtain ⟨n, e, rfl⟩ := Option.map_eq_some_iff.mp hf
      obtain ⟨v, rfl, t1⟩ := tops1 hx
      cases t1.str
      exact .inr ⟨a, n, rfl, e, c, k _ Hb H (New.refl ex) (.int _)⟩
    · cases hf
  · cases hf
theorem cr_int : CallR X (.type "int") (fun xs H Q => ((∃ i, xs = [.int i] ∧ Q (.int i) H) ∨ ∃ k, xs = [.bl k] ∧ Q (.int (if k then 1 else 0)) H) ∨ ∃ a n, xs = [.str a] ∧ PySem.intText? a = some n ∧ a.length ≤ 640 ∧ Q (.int n) H) := CallR.or' call_int1 call_int_str
def strD : List D → Option Res
  | [.int i] => if i.natAbs.log2 < 1920 then some (.val (.str (toString i))) else none
  | [.str a] => some (.val (.str a))
  | _ => none
theorem cal_str : Cal K (fun xs H Q => (∃ i, xs = [.int i] ∧ i.natAbs.log2 < 1920 ∧ Q (.str (toString i)) H) ∨ ∃ a, xs = [.str a] ∧ Q (.str a) H) strD := by
  intro Hb H vs ds res Q ex hx hf k
  unfold strD at hf
  split at hf
  · split at hf
    · rename_i c
      cases hf
      obtain ⟨v, rfl, t1⟩ := tops1 hx
      cases t1.int
      exact .inl ⟨_, rfl, c, k _ Hb H (New.refl ex) (.str _)⟩
    · cases hf
  · cases hf
    obtain ⟨v, rfl, t1⟩ := tops1 hx
    cases t1.str
    exact .inr ⟨_, rfl, k _ Hb H (New.refl ex) (.str _)⟩
  · cases hf
theorem cr_str : CallR X (.type "str") (fun xs H Q => (∃ i, xs = [.int i] ∧ i.natAbs.log2 < 1920 ∧ Q (.str (toString i)) H) ∨ ∃ a, xs = [.str a] ∧ Q (.str a) H) := CallR.or' call_str_int SkE.call_str_str
def listD : List D → Option Res
  | [.list xs] => some (.fresh xs)
  | [.tuple xs] => some (.fresh xs)
  | _ => none
theorem cal_list : Cal K (fun xs H Q => ∃ p ys, xs = [.ref p] ∧ (SqL K H p ys ∨ SqT K H p ys) ∧ ∀ l, H l = none → Q (.ref l) (upd H l (.lst ys))) listD := by
  intro Hb H vs ds res Q ex hx hf k
  unfold listD at hf
  split at hf
  · cases hf
    obtain ⟨v, rfl, tp⟩ := tops1 hx
    obtain ⟨p, ws, rfl, s, r⟩ := tp.list ex
    exact ⟨p, ws, rfl, .inl s, fun l hl => k _ Hb _ (New.mut ex hl) ⟨l, ws, rfl, fresh_back ex hl, upd_same, r, hl⟩⟩
  · cases hf
    obtain ⟨v, rfl, tp⟩ := tops1 hx
    obtain ⟨p, ws, rfl, s, r⟩ := tp.tuple'
    exact ⟨p, ws, rfl, .inr (ex_t ex s), fun l hl => k _ Hb _ (New.mut ex hl) ⟨l, ws, rfl, fresh_back ex hl, upd_same, r, hl⟩⟩
  · cases hf
def tupleD : List D → Option Res
  | [.list xs] => some (.val (.tuple xs))
  | [.tuple xs] => some (.val (.tuple xs))
  | _ => none
theorem cal_tuple : Cal K (fun xs H Q => ∃ p ys, xs = [.ref p] ∧ ((SqL K H p ys ∧ ∀ l, H l = none → Q (.ref l) (upd H l (.tup ys))) ∨ (SqT K H p ys ∧ Q (.ref p) H))) tupleD := by
  intro Hb H vs ds res Q ex hx hf k
  unfold tupleD at hf
  split at hf
  · cases hf
    obtain ⟨v, rfl, tp⟩ := tops1 hx
    obtain ⟨p, ws, rfl, s, r⟩ := tp.list ex
    refine ⟨p, ws, rfl, .inl ⟨s, fun l hl => ?_⟩⟩
    have n := New.fix (o := HO.tup ws) ex hl
    exact k _ _ _ n (.tup (SqT.of upd_same) (r.mono n.b))
  · cases hf
    obtain ⟨v, rfl, tp⟩ := tops1 hx
    obtain ⟨p, ws, rfl, s, r⟩ := tp.tuple'
    exact ⟨p, ws, rfl, .inr ⟨ex_t ex s, k _ Hb H (New.refl ex) (.tup s r)⟩⟩
  · cases hf
/-- lists of ints, of truths -/
def intsOf : List D → Option (List Int)
  | [] => some []
  | .int i :: r => (intsOf r).map (i :: ·)
  | _ :: _ => none
def boolsOf : List D → Option (List Bool)
  | [] => some []
  | .bool i :: r => (boolsOf r).map (i :: ·)
  | _ :: _ => none
theorem ints_rp {H : Hp} : ∀ {vs : List V} {ds : List D} {ns : List Int}, RpAll K H vs ds → intsOf ds = some ns → vs = ns.map V.int
  | _, _, _, .nil, e => by cases e; rfl
  | _, d :: ds, _, .cons a b, e => by
    cases d <;> unfold intsOf at e <;> try cases e
    obtain ⟨es, e1, rfl⟩ := Option.map_eq_some_iff.mp e
    rw [a.int_inv, ints_rp b e1]
    rfl
theorem bools_rp {H : Hp} : ∀ {vs : List V} {ds : List D} {ns : List Bool}, RpAll K H vs ds → boolsOf ds = some ns → vs = ns.map V.bl
  | _, _, _, .nil, e => by cases e; rfl
  | _, d :: ds, _, .cons a b, e => by
    cases d <;> unfold boolsOf at e <;> try cases e
    obtain ⟨es, e1, rfl⟩ := Option.map_eq_some_iff.mp e
    rw [a.bool_inv, bools_rp b e1]
    rfl
def sumD : List D → Option Res
  | [.list xs] => (intsOf xs).map fun ns => .val (.int ns.sum)
  | _ => none
theorem cal_sum : Cal K (rSum K) sumD := by
  intro Hb H vs ds res Q ex hx hf k
  unfold sumD at hf
  split at hf
  · obtain ⟨ns, e, rfl⟩ := Option.map_eq_some_iff.mp hf
    obtain ⟨v, rfl, tp⟩ := tops1 hx
    obtain ⟨p, ws, rfl, s, r⟩ := tp.list ex
    rw [ints_rp r e] at s
    exact ⟨p, ns, rfl, s, k _ Hb H (New.refl ex) (.int _)⟩
  · cases hf
def allD : List D → Option Res
  | [.list xs] => (boolsOf xs).map fun ns => .val (.bool (ns.all id))
  | _ => none
def anyD : List D → Option Res
  | [.list xs] => (boolsOf xs).map fun ns => .val (.bool (ns.any id))
  | _ => none
theorem cal_all : Cal K (rAll K) allD := by
  intro Hb H vs ds res Q ex hx hf k
  unfold allD at hf
  split at hf
  · obtain ⟨ns, e, rfl⟩ := Option.map_eq_some_iff.mp hf
    obtain ⟨v, rfl, tp⟩ := tops1 hx
    obtain ⟨p, ws, rfl, s, r⟩ := tp.list ex
    rw [bools_rp r e] at s
    exact ⟨p, ns, rfl, s, k _ Hb H (New.refl ex) (.bl _)⟩
  · cases hf
theorem cal_any : Cal K (rAny K) anyD := by
  intro Hb H vs ds res Q ex hx hf k
  unfold anyD at hf
  split at hf
  · obtain ⟨ns, e, rfl⟩ := Option.map_eq_some_iff.mp hf
    obtain ⟨v, rfl, tp⟩ := tops1 hx
    obtain ⟨p, ws, rfl, s, r⟩ := tp.list ex
    rw [bools_rp r e] at s
    exact ⟨p, ns, rfl, s, k _ Hb H (New.refl ex) (.bl _)⟩
  · cases hf
def divmodD : List D → Option Res
  | [.int i, .int j] => if 0 < j ∧ j.natAbs.log2 < 9000 then some (.val (.tuple [.int (i / j), .int (i % j)])) else none
  | _ => none
theorem cal_divmod : Cal K (fun xs H Q => ∃ i j, xs = [.int i, .int j] ∧ CDivP i j ∧ ∀ p, H p = none → Q (.ref p) (upd H p (.tup [.int (i / j), .int (i % j)]))) divmodD := by
  intro Hb H vs ds res Q ex hx hf k
  unfold divmodD at hf
  split at hf
  · rename_i i j
    split at hf
    · rename_i c
      cases hf
      obtain ⟨v, w, rfl, t1, t2⟩ := tops2 hx
      cases t1.int
      cases t2.int
      refine ⟨_, _, rfl, ⟨c.1, PyProof.noPylong_of_log2 c.2⟩, fun p hp => ?_⟩
      have n := New.fix (o := HO.tup [.int (i / j), .int (i % j)]) ex hp
      exact k _ _ _ n (.tup (SqT.of upd_same) (.cons (.int _) (.cons (.int _) .nil)))
    · cases hf
  · cases hf
/-- repr -/
def reprOk (d : D) : Bool := d.canLay0 && d.showable && decide (d.depth ≤ 64) && decide (d.shown.length ≤ sizeLine)
def reprD : List D → Option Res
  | [d] => if reprOk d then some (.val (.str d.shown)) else none
  | _ => none
def rRepr (K : PySem.W.Frag) : List V → Hp → VK → Prop := fun vs H Q => ∃ v d, vs = [v] ∧ Dp K H v d ∧ reprOk d = true ∧ Q (.str d.shown) H
theorem cal_repr : Cal K (rRepr K) reprD := by
  intro Hb H vs ds res Q ex hx hf k
  unfold reprD at hf
  split at hf
  · split at hf
    · rename_i c
      cases hf
      obtain ⟨v, rfl, tp⟩ := tops1 hx
      have c' := c
      unfold reprOk at c'
      simp only [Bool.and_eq_true] at c'
      exact ⟨v, _, rfl, rp_dp c'.1.1.1 (tp.rp ex), c, k _ Hb H (New.refl ex) (.str _)⟩
    · cases hf
  · cases hf
end
end Mi

/-! Mi: statements. -/
namespace Mi
open PySem L2 Evl

/-! ### a slot is set -/
section
variable {K : PySem.W.Frag} {σ : St} {ρ : R} {Hb H Hb1 H1 : Hp} {ρ1 : R} {v : V} {d : D} {i : Nat}
theorem get_set {ρ : R} {i j : Nat} {s : Option Slot} {t : Option Slot} (h : (ρ.set i s)[j]? = some t) : (j = i ∧ t = s) ∨ (j ≠ i ∧ ρ[j]? = some t) := by
  by_cases e : j = i
  · subst e
    by_cases hi : j < ρ.length
    · rw [List.getElem?_set_self hi] at h
      cases h
      exact .inl ⟨rfl, rfl⟩
    · rw [List.getElem?_eq_none (by simpa using hi)] at h
      cases h
  · rw [List.getElem?_set_ne (Ne.symm e)] at h
    exact .inr ⟨e, h⟩
theorem get_set_V {σ : St} {i j : Nat} {s t : Option V} (h : (σ.set i s)[j]? = some t) : (j = i ∧ t = s) ∨ (j ≠ i ∧ σ[j]? = some t) := by
  by_cases e : j = i
  · subst e
    by_cases hi : j < σ.length
    · rw [List.getElem?_set_self hi] at h
      cases h
      exact .inl ⟨rfl, rfl⟩
    · rw [List.getElem?_eq_none (by simpa using hi)] at h
      cases h
  · rw [List.getElem?_set_ne (Ne.symm e)] at h
    exact .inr ⟨e, h⟩
/-- may be stored to -/
def okSet (ρ : R) (i : Nat) : Bool := decide (i < ρ.length) && match ρ[i]? with
  | some (some s) => match s.m with
    | .val => true
    | .own => true
    | _ => false
  | _ => true
theorem okSet_io (h : okSet ρ i = true) {s : Slot} (e : ρ[i]? = some (some s)) : s.m.isIo = false := by
  unfold okSet at h
  rw [e] at h
  obtain ⟨m, d⟩ := s
  cases m <;> simp_all [Md.isIo]
theorem okSet_lk (h : okSet ρ i = true) {s : Slot} (e : ρ[i]? = some (some s)) : s.m.isLk = false := by
  unfold okSet at h
  rw [e] at h
  obtain ⟨m, d⟩ := s
  cases m <;> simp_all [Md.isLk]
theorem okSet_lt (h : okSet ρ i = true) : i < ρ.length := by
  unfold okSet at h
  rw [Bool.and_eq_true] at h
  exact of_decide_eq_true h.1
theorem own_set {a : Addr} {s : Option Slot} {w : Option V} (hs : ∀ t, s = some t → t.m.isOwn = false) (q : Own (σ.set i w) (ρ.set i s) a) : Own σ ρ a := by
  obtain ⟨j, t, q1, q2, q3⟩ := q
  rcases get_set q1 with ⟨_, z⟩ | ⟨ne, z⟩
  · rw [hs t z.symm] at q2; cases q2
  · rcases get_set_V q3 with ⟨e, _⟩ | ⟨_, z'⟩
    · exact absurd e ne
    · exact ⟨j, t, z, q2, z'⟩
/-- a datum is stored -/
theorem set_val (R : Rel K Hb H σ ρ) (rp : Rp K Hb v d) (h : okSet ρ i = true) :
    Go σ ρ Hb H (σ.set i (some v)) (ρ.set i (some ⟨.val, d⟩)) Hb H ∧ Rel K Hb H (σ.set i (some v)) (ρ.set i (some ⟨.val, d⟩)) := by
  have hi := okSet_lt h
  refine ⟨⟨Ex.refl _, fun _ _ q _ => q, fun a q1 q2 => absurd q1 q2, fun _ q => q, fun a q => .inl (own_set (fun t e => by cases e; rfl) q), fun j s q1 q2 => ?_, fun j s q1 q2 => ?_⟩, ⟨by simp [R.len], R.ex, fun j s q1 q2 => ?_, fun j s q1 q2 => ?_, fun j k s t a q1 q2 q3 q4 q5 q6 => ?_⟩⟩
  · have ne : j ≠ i := fun e => by
      subst e
      rw [okSet_io h q1] at q2; cases q2
    exact ⟨List.getElem?_set_ne (Ne.symm ne), s, by rw [List.getElem?_set_ne (Ne.symm ne)]; exact q1, q2⟩
  · have ne : j ≠ i := fun e => by
      subst e
      rw [okSet_lk h q1] at q2; cases q2
    exact ⟨List.getElem?_set_ne (Ne.symm ne), by rw [List.getElem?_set_ne (Ne.symm ne)]; exact q1⟩
  · rcases get_set q1 with ⟨e, z⟩ | ⟨ne, z⟩
    · subst e
      cases z
      exact ⟨v, List.getElem?_set_self (by rw [R.len]; exact hi), rp⟩
    · obtain ⟨w, e1, e2⟩ := R.val j s z q2
      exact ⟨w, by rw [List.getElem?_set_ne (Ne.symm ne)]; exact e1, e2⟩
  · rcases get_set q1 with ⟨e, z⟩ | ⟨ne, z⟩
    · cases z; cases q2
    · obtain ⟨a, vs, xs, e1, e2⟩ := R.own j s z q2
      exact ⟨a, vs, xs, by rw [List.getElem?_set_ne (Ne.symm ne)]; exact e1, e2⟩
  · rcases get_set q1 with ⟨e, z⟩ | ⟨ne, z⟩
    · cases z; cases q3
    · rcases get_set q2 with ⟨e', z'⟩ | ⟨ne', z'⟩
      · cases z'; cases q4
      · rw [List.getElem?_set_ne (Ne.symm ne)] at q5
        rw [List.getElem?_set_ne (Ne.symm ne')] at q6
        exact R.inj j k s t a z z' q3 q4 q5 q6
/-- a new list is stored: the slot's own -/
theorem set_own {a : Addr} {vs : List V} {xs : List D} (g : Go σ ρ Hb H σ ρ1 Hb1 H1) (R : Rel K Hb1 H1 σ ρ1) (h1 : Hb1 a = none) (h2 : H1 a = some (.lst vs)) (h3 : RpAll K Hb1 vs xs) (h4 : H a = none) (h5 : ¬ Own σ ρ1 a) (h : okSet ρ1 i = true) :
    Go σ ρ Hb H (σ.set i (some (.ref a))) (ρ1.set i (some ⟨.own, .list xs⟩)) Hb1 H1 ∧ Rel K Hb1 H1 (σ.set i (some (.ref a))) (ρ1.set i (some ⟨.own, .list xs⟩)) := by
  have hi := okSet_lt h
  have hσ : i < σ.length := by rw [R.len]; exact hi
  have noti : ∀ (j : Nat) (s : Slot), j ≠ i → ρ1[j]? = some (some s) → s.m.isOwn = true → σ[j]? ≠ some (some (.ref a)) := fun j s _ q1 q2 q3 => h5 ⟨j, s, q1, q2, q3⟩
  refine ⟨⟨g.b, g.k, g.f, g.t, fun b q => ?_, fun j s q1 q2 => ?_, fun j s q1 q2 => ?_⟩, ⟨by simp [R.len], R.ex, fun j s q1 q2 => ?_, fun j s q1 q2 => ?_, fun j k s t b q1 q2 q3 q4 q5 q6 => ?_⟩⟩
  · obtain ⟨j, t, q1, q2, q3⟩ := q
    rcases get_set_V q3 with ⟨e, z⟩ | ⟨ne, z⟩
    · cases z
      exact .inr h4
    · rcases get_set q1 with ⟨e', _⟩ | ⟨_, z'⟩
      · exact absurd e' ne
      · exact g.o b ⟨j, t, z', q2, z⟩
  · obtain ⟨e1, s1, e2, e3⟩ := g.io j s q1 q2
    have ne : j ≠ i := fun e => by
      subst e
      rw [okSet_io h e2] at e3; cases e3
    exact ⟨List.getElem?_set_ne (Ne.symm ne), s1, by rw [List.getElem?_set_ne (Ne.symm ne)]; exact e2, e3⟩
  · obtain ⟨e1, e2⟩ := g.lk j s q1 q2
    have ne : j ≠ i := fun e => by
      subst e
      rw [okSet_lk h e2] at q2; cases q2
    exact ⟨List.getElem?_set_ne (Ne.symm ne), by rw [List.getElem?_set_ne (Ne.symm ne)]; exact e2⟩
  · rcases get_set q1 with ⟨e, z⟩ | ⟨ne, z⟩
    · cases z; cases q2
    · obtain ⟨w, e1, e2⟩ := R.val j s z q2
      exact ⟨w, by rw [List.getElem?_set_ne (Ne.symm ne)]; exact e1, e2⟩
  · rcases get_set q1 with ⟨e, z⟩ | ⟨ne, z⟩
    · subst e
      cases z
      exact ⟨a, vs, xs, List.getElem?_set_self hσ, rfl, h1, h2, h3⟩
    · obtain ⟨b, ws, ys, e1, e2⟩ := R.own j s z q2
      exact ⟨b, ws, ys, by rw [List.getElem?_set_ne (Ne.symm ne)]; exact e1, e2⟩
  · rcases get_set q1 with ⟨e, z⟩ | ⟨ne, z⟩
    · rcases get_set q2 with ⟨e', z'⟩ | ⟨ne', z'⟩
      · rw [e, e']
      · subst e
        rw [List.getElem?_set_self hσ] at q5
        cases q5
        rw [List.getElem?_set_ne (Ne.symm ne')] at q6
        exact absurd q6 (noti k t ne' z' q4)
    · rw [List.getElem?_set_ne (Ne.symm ne)] at q5
      rcases get_set q2 with ⟨e', z'⟩ | ⟨ne', z'⟩
      · subst e'
        rw [List.getElem?_set_self hσ] at q6
        cases q6
        exact absurd q5 (noti j s ne z q3)
      · rw [List.getElem?_set_ne (Ne.symm ne')] at q6
        exact R.inj j k s t b z z' q3 q4 q5 q6
/-- the list that a slot owns gets new contents -/
theorem set_cont {a : Addr} {ws : List V} {ys : List D} {s : Slot} (R : Rel K Hb H σ ρ) (hs : ρ[i]? = some (some s)) (ho : s.m.isOwn = true) (hlk : s.m.isLk = false) (ha : σ[i]? = some (some (.ref a))) (hy : RpAll K Hb ws ys) :
    Go σ ρ Hb H σ (ρ.set i (some ⟨s.m, .list ys⟩)) Hb (upd H a (.lst ws)) ∧ Rel K Hb (upd H a (.lst ws)) σ (ρ.set i (some ⟨s.m, .list ys⟩)) := by
  have hi : i < ρ.length := (List.getElem?_eq_some_iff.mp hs).1
  obtain ⟨a', vs, xs, e1, e2, e3, e4, e5⟩ := R.own i s hs ho
  rw [ha] at e1
  cases e1
  have hown : Own σ ρ a := ⟨i, s, hs, ho, ha⟩
  refine ⟨⟨Ex.refl _, fun b o q n => ?_, fun b q1 q2 => absurd q1 q2, fun b q => ?_, fun b q => ?_, fun j t q1 q2 => ⟨rfl, ?_⟩, fun j t q1 q2 => ⟨rfl, ?_⟩⟩, ⟨by simp [R.len], fun b o q => ?_, fun j t q1 q2 => ?_, fun j t q1 q2 => ?_, fun j k t u b q1 q2 q3 q4 q5 q6 => ?_⟩⟩
  · have ne : b ≠ a := fun e => n (e ▸ hown)
    rw [upd_ne ne]; exact q
  · by_cases e : b = a
    · rw [e, upd_same]; exact fun z => nomatch z
    · rw [upd_ne e]; exact q
  · obtain ⟨j, t, q1, q2, q3⟩ := q
    rcases get_set q1 with ⟨e, z⟩ | ⟨ne, z⟩
    · subst e
      exact .inl ⟨_, s, hs, ho, q3⟩
    · exact .inl ⟨j, t, z, q2, q3⟩
  · by_cases e : j = i
    · subst e
      rw [hs] at q1; cases q1
      exact ⟨_, List.getElem?_set_self hi, q2⟩
    · exact ⟨t, by rw [List.getElem?_set_ne (Ne.symm e)]; exact q1, q2⟩
  · by_cases e : j = i
    · subst e
      rw [hs] at q1; cases q1
      rw [hlk] at q2; cases q2
    · rw [List.getElem?_set_ne (Ne.symm e)]; exact q1
  · have ne : b ≠ a := fun e => by rw [e, e3] at q; cases q
    rw [upd_ne ne]; exact R.ex b o q
  · rcases get_set q1 with ⟨e, z⟩ | ⟨ne, z⟩
    · cases z
      have q2 : s.m.isOwn = false := q2
      rw [ho] at q2; cases q2
    · exact R.val j t z q2
  · rcases get_set q1 with ⟨e, z⟩ | ⟨ne, z⟩
    · subst e
      cases z
      exact ⟨a, ws, ys, ha, rfl, e3, upd_same, hy⟩
    · obtain ⟨b, us, zs, f1, f2, f3, f4, f5⟩ := R.own j t z q2
      refine ⟨b, us, zs, f1, f2, f3, ?_, f5⟩
      rw [upd_ne ?_]
      · exact f4
      · intro e
        subst e
        exact ne (R.inj j i t s _ z hs q2 ho f1 ha)
  · have h1 : ∃ t', ρ[j]? = some (some t') ∧ t'.m.isOwn = true := by
      rcases get_set q1 with ⟨e, z⟩ | ⟨ne, z⟩
      · subst e; exact ⟨s, hs, ho⟩
      · exact ⟨t, z, q3⟩
    have h2 : ∃ t', ρ[k]? = some (some t') ∧ t'.m.isOwn = true := by
      rcases get_set q2 with ⟨e, z⟩ | ⟨ne, z⟩
      · subst e; exact ⟨s, hs, ho⟩
      · exact ⟨u, z, q4⟩
    obtain ⟨t1, z1, z2⟩ := h1
    obtain ⟨t2, z3, z4⟩ := h2
    exact R.inj j k t1 t2 b z1 z3 z2 z4 q5 q6
end

/-! ### stores -/
def mStore (i : Nat) (r : Res) : M Unit := fun ρ => if okSet ρ i then match r with
    | .val d => some (.ok (), ρ.set i (some ⟨.val, d⟩))
    | .fresh xs => some (.ok (), ρ.set i (some ⟨.own, .list xs⟩))
    | .slot j => match valR (.slot j) ρ with
      | some (.ok d, ρ') => if okSet ρ' i then some (.ok (), ρ'.set i (some ⟨.val, d⟩)) else none
      | _ => none
  else none
theorem store_run {K : PySem.W.Frag} {σ : St} {ρ ρ1 ρ2 : R} {Hb H Hb1 H1 : Hp} {v : V} {r : Res} {i : Nat} {o : Out Unit} (g : Go σ ρ Hb H σ ρ1 Hb1 H1) (R : Rel K Hb1 H1 σ ρ1) (rep : RepR K Hb1 H1 σ ρ1 H v r) (e : mStore i r ρ1 = some (o, ρ2)) :
    o = .ok () ∧ ∃ Hb2, Go σ ρ Hb H (σ.set i (some v)) ρ2 Hb2 H1 ∧ Rel K Hb2 H1 (σ.set i (some v)) ρ2 := by
  unfold mStore at e
  split at e
  · rename_i h
    cases r with
    | val d =>
      cases e
      obtain ⟨g2, R2⟩ := set_val R rep h
      exact ⟨rfl, Hb1, g.trans g2, R2⟩
    | fresh xs =>
      cases e
      obtain ⟨a, vs, rfl, h1, h2, h3, h4, h5⟩ := rep
      obtain ⟨g2, R2⟩ := set_own g R h1 h2 h3 h4 h5 h
      exact ⟨rfl, Hb1, g2, R2⟩
    | slot j =>
      dsimp only at e
      split at e
      · rename_i d ρ' e2
        split at e
        · rename_i h'
          cases e
          obtain ⟨Hb2, g2, R2, rp⟩ := rep_val g R rep e2
          obtain ⟨g3, R3⟩ := set_val R2 rp h'
          exact ⟨rfl, Hb2, g2.trans g3, R3⟩
        · cases e
      · cases e
  · cases e
def mAsg (i : Nat) (m : M Res) : M Fl := bnd m fun r => bnd (mStore i r) fun _ => ret .nx
def mRet (m : M Res) : M Fl := bnd m fun r => ret (.rt r)
def mDrop (m : M Res) : M Fl := bnd m fun _ => ret .nx
def mIfS (c : M Bool) (a b : M Fl) : M Fl := bnd c fun t => if t then a else b
def mSeq (a b : M Fl) : M Fl := bnd a fun fl => match fl with
  | .nx => b
  | f => ret f
def mNx : M Fl := ret .nx
section
variable {K : PySem.W.Frag} {mg : Str → Option Value} {E : WX} {σ : St} {H : Hp} {De : Ends}
theorem asg_read {i : Nat} {m : M Res} (w : tS K mg E (mAsg i m) De σ H) : tAsg (tE K mg E m) (gName i) De σ H := by
  obtain ⟨Hb, ρ, R, S⟩ := w
  refine ⟨Hb, ρ, R, S.bnd0.mono fun r σ' ρ1 Hb1 H1 g1 R1 S1 es v rep => ?_⟩
  subst es
  obtain ⟨out, ρ3, e, h1, h2⟩ := S1
  unfold bnd at e
  split at e
  · rename_i u ρ2 e2
    obtain ⟨_, Hb2, g2, R2⟩ := store_run g1 R1 rep e2
    cases e
    exact h1 _ rfl _ _ _ g2 R2
  · rename_i x ρ2 e2
    obtain ⟨z, _⟩ := store_run g1 R1 rep e2
    cases z
  · cases e
theorem ret_read {m : M Res} (w : tS K mg E (mRet m) De σ H) : tRet (tE K mg E m) De σ H := by
  obtain ⟨Hb, ρ, R, S⟩ := w
  refine ⟨Hb, ρ, R, S.bnd.mono fun r σ' ρ1 Hb1 H1 g1 R1 S1 es v rep => ?_⟩
  subst es
  exact S1.ret R1 g1 v rep
theorem drop_read {m : M Res} (w : tS K mg E (mDrop m) De σ H) : tDrop (tE K mg E m) De σ H := by
  obtain ⟨Hb, ρ, R, S⟩ := w
  refine ⟨Hb, ρ, R, S.bnd.mono fun r σ' ρ1 Hb1 H1 g1 R1 S1 es v rep => ?_⟩
  subst es
  exact S1.ret R1 g1
theorem FlP.from' {H0 H00 : Hp} (t : ∀ a, H00 a ≠ none → H0 a ≠ none) {fl : Fl} {σ' : St} {ρ' : R} {Hb' H' : Hp} (h : FlP K De H00 fl σ' ρ' Hb' H') : FlP K De H0 fl σ' ρ' Hb' H' := by
  cases fl with
  | nx => exact h
  | bk => exact h
  | ct => exact h
  | rt r => exact fun v rep => h v (rep.from' t)
theorem tS_sat {m : M Fl} {Hb : Hp} {ρ : R} {H0 : Hp} (R : Rel K Hb H σ ρ) (t : ∀ a, H0 a ≠ none → H a ≠ none) (S : Sat K mg E σ Hb H ρ m (FlP K De H0)) : tS K mg E m De σ H :=
  ⟨Hb, ρ, R, S.mono fun fl σ' ρ' Hb' H' _ _ p => p.from' t⟩
theorem ifs_read {c : M Bool} {a b : M Fl} (w : tS K mg E (mIfS c a b) De σ H) : tIfS (tT K mg E c) (tS K mg E a) (tS K mg E b) De σ H := by
  obtain ⟨Hb, ρ, R, S⟩ := w
  refine tT_mono (e_test R S) fun t H1 ⟨Hb1, ρ1, R1, g1, S1⟩ => ?_
  have S2 := S1.mono fun b σ' ρ' Hb' H' g2 R2 p => p (g1.trans g2)
  cases t with
  | true =>
    rw [if_pos rfl]
    exact tS_sat R1 g1.t S2
  | false =>
    rw [if_neg Bool.false_ne_true]
    exact tS_sat R1 g1.t S2
theorem seq_read {a b : M Fl} (w : tS K mg E (mSeq a b) De σ H) : tSeq (tS K mg E a) (tS K mg E b) De σ H := by
  obtain ⟨Hb, ρ, R, S⟩ := w
  refine ⟨Hb, ρ, R, S.bnd.mono fun fl σ' ρ1 Hb1 H1 g1 R1 S1 => ?_⟩
  cases fl with
  | nx => exact tS_sat R1 g1.t (S1.mono fun b σ' ρ' Hb' H' g2 R2 p => p (g1.trans g2))
  | bk => exact S1.ret R1 g1
  | ct => exact S1.ret R1 g1
  | rt r => exact S1.ret R1 g1
end
section
variable {X : Cx} {E : WX} {pos : Pos} {e : Expr} {m : M Res} {st : Stmt} {rest : List Stmt} {a b : M Fl} {mc : M Bool}
theorem ms_set {i : Nat} {x : Str} {pos' : Pos} (hN : X.N.Nodup) (hi : X.N[i]? = some x) (hx : Loc X.env.scope x) (he : PE X e (tE X.K X.mg E m)) (hs : swapsWith e (some (.Name x pos')) pos.line X.env = pure false := by rfl)
    (hf : X.fn x = true ∨ X.env.scope.names.lookup x = some .local := by first | exact .inl rfl | exact .inr rfl | assumption) : PS X (.Assign [.Name x pos'] e pos) (tS X.K X.mg E (mAsg i m)) := (ps_set hN hi hx he hs hf).imp fun _ _ _ w => asg_read w
theorem ms_ret (he : PE X e (tE X.K X.mg E m)) : PS X (.Return (some e) pos) (tS X.K X.mg E (mRet m)) := (ps_ret he).imp fun _ _ _ w => ret_read w
theorem ms_retN : PS X (.Return none pos) (tS X.K X.mg E (ret (.rt (.val .none)))) := ps_retN.imp fun De σ H w => by
  obtain ⟨Hb, ρ, R, S⟩ := w
  exact S.ret R _ .non
theorem ms_expr (he : PE X e (tE X.K X.mg E m)) (hs : swapsWith e none pos.line X.env = pure false := by rfl) : PS X (.Expr e pos) (tS X.K X.mg E (mDrop m)) := (ps_expr he hs).imp fun _ _ _ w => drop_read w
theorem ms_pass : PS X (.Pass pos) (tS X.K X.mg E mNx) := ps_pass.imp fun De σ H w => by
  obtain ⟨Hb, ρ, R, S⟩ := w
  exact S.ret R
theorem ms_break : PS X (.Break pos) (tS X.K X.mg E (ret .bk)) := ps_break.imp fun De σ H w => by
  obtain ⟨Hb, ρ, R, S⟩ := w
  exact S.ret R
theorem ms_continue : PS X (.Continue pos) (tS X.K X.mg E (ret .ct)) := ps_continue.imp fun De σ H w => by
  obtain ⟨Hb, ρ, R, S⟩ := w
  exact S.ret R
/-- code that is not come to -/
theorem ms_never : PS X st (tS X.K X.mg E stuck) := ps_never.imp fun De σ H w => by
  obtain ⟨Hb, ρ, R, _, _, e, _⟩ := w
  cases e
theorem ms_if {c : Expr} {p q : List Stmt} (hc : PT X c (tT X.K X.mg E mc)) (ha : PSs X p (tS X.K X.mg E a)) (hb : PSs X q (tS X.K X.mg E b)) : PS X (.If c p q pos) (tS X.K X.mg E (mIfS mc a b)) := (ps_if hc ha hb).imp fun _ _ _ w => ifs_read w
theorem mss_nil : PSs X [] (tS X.K X.mg E mNx) := pss_nil.imp fun De σ H w => by
  obtain ⟨Hb, ρ, R, S⟩ := w
  exact S.ret R
theorem mss_one (h : PS X st (tS X.K X.mg E a)) : PSs X [st] (tS X.K X.mg E a) := pss_one h
theorem mss_cons (h : PS X st (tS X.K X.mg E a)) (hr : PSs X rest (tS X.K X.mg E b)) : PSs X (st :: rest) (tS X.K X.mg E (mSeq a b)) := (pss_cons h hr).imp fun _ _ _ w => seq_read w
end

/-! ### lists that a slot owns -/
def appTo (i : Nat) (d : D) : M Fl := fun ρ => match ρ[i]? with
  | some (some ⟨.own, .list xs⟩) => if xs.length < sizeLine then some (.ok .nx, ρ.set i (some ⟨.own, .list (xs ++ [d])⟩)) else none
  | some (some ⟨.io, .list xs⟩) => if xs.length < sizeLine then some (.ok .nx, ρ.set i (some ⟨.io, .list (xs ++ [d])⟩)) else none
  | _ => none
def ownAt (ρ : R) (i : Nat) : Bool := match ρ[i]? with
  | some (some s) => s.m.isOwn
  | _ => false
def mApp (i : Nat) (m : M Res) : M Fl := fun ρ => if ownAt ρ i then bnd (mVal m) (appTo i) ρ else none
theorem own_at {K : PySem.W.Frag} {Hb H : Hp} {σ : St} {ρ : R} {i : Nat} (Rr : Rel K Hb H σ ρ) (h : ownAt ρ i = true) : ∃ a vs, σ[i]? = some (some (.ref a)) ∧ H a = some (.lst vs) := by
  unfold ownAt at h
  split at h
  · rename_i s hs
    obtain ⟨a, vs, xs, e1, e2, e3, e4, e5⟩ := Rr.own i s hs h
    exact ⟨a, vs, e1, e4⟩
  · cases h
/-- slot i's list at an index -/
def setIx (i : Nat) (k : Res) (d : D) : M Unit := fun ρ => match k with
  | .val (.int n) => match ρ[i]? with
    | some (some ⟨.own, .list xs⟩) => match ixN xs.length n with
      | some j => some (.ok (), ρ.set i (some ⟨.own, .list (xs.set j d)⟩))
      | none => none
    | some (some ⟨.io, .list xs⟩) => match ixN xs.length n with
      | some j => some (.ok (), ρ.set i (some ⟨.io, .list (xs.set j d)⟩))
      | none => none
    | _ => none
  | _ => none
def mSetIx (i : Nat) (mk m : M Res) : M Fl := bnd (mVal m) fun d => fun ρ => if ownAt ρ i then bnd (thaw mk) (fun j => bnd (setIx i j d) fun _ => ret Fl.nx) ρ else none
section
variable {K : PySem.W.Frag} {mg : Str → Option Value} {E : WX} {σ : St} {Hb H : Hp} {ρ : R}
theorem setIx_run {i : Nat} {k : Res} {d : D} {v w : V} {o : Out Unit × R} (R : Rel K Hb H σ ρ) (rk : RepA K Hb σ [w] [k]) (rp : Rp K Hb v d) (e : setIx i k d ρ = some o) :
    ∃ a n vs j H', o.1 = .ok () ∧ σ[i]? = some (some (.ref a)) ∧ w = .int n ∧ H a = some (.lst vs) ∧ ixN vs.length n = some j ∧ H' = upd H a (.lst (vs.set j v)) ∧ Go σ ρ Hb H σ o.2 Hb H' ∧ Rel K Hb H' σ o.2 := by
  have fin : ∀ {m : Md} {xs : List D} {n : Int} {j : Nat}, ρ[i]? = some (some ⟨m, .list xs⟩) → m.isOwn = true → m.isLk = false → k = .val (.int n) → ixN xs.length n = some j → o = (.ok (), ρ.set i (some ⟨m, .list (xs.set j d)⟩)) →
      ∃ a n vs j H', o.1 = .ok () ∧ σ[i]? = some (some (.ref a)) ∧ w = .int n ∧ H a = some (.lst vs) ∧ ixN vs.length n = some j ∧ H' = upd H a (.lst (vs.set j v)) ∧ Go σ ρ Hb H σ o.2 Hb H' ∧ Rel K Hb H' σ o.2 := by
    intro m xs n j hs ho hlk hk hj hO
    subst hk
    subst hO
    obtain ⟨a, vs, xs', e1, e2, e3, e4, e5⟩ := R.own i _ hs ho
    cases e2
    have hw : w = .int n := by
      cases rk with
      | val h _ => exact h.int_inv
    obtain ⟨g, R2⟩ := set_cont (ws := vs.set j v) (ys := xs.set j d) R hs ho hlk e1 (e5.set j rp)
    exact ⟨a, n, vs, j, _, rfl, e1, hw, e4, by rw [e5.length]; exact hj, rfl, g, R2⟩
  unfold setIx at e
  split at e
  · rename_i n
    split at e
    · rename_i xs hs
      split at e
      · rename_i j hj
        cases e
        exact fin hs rfl rfl rfl hj rfl
      · cases e
    · rename_i xs hs
      split at e
      · rename_i j hj
        cases e
        exact fin hs rfl rfl rfl hj rfl
      · cases e
    · cases e
  · cases e
theorem app_run {i : Nat} {d : D} {v : V} {o : Out Fl × R} (Rr : Rel K Hb H σ ρ) (rp : Rp K Hb v d) (e : appTo i d ρ = some o) :
    ∃ a vs H', o.1 = .ok .nx ∧ σ[i]? = some (some (.ref a)) ∧ H a = some (.lst vs) ∧ vs.length < sizeLine ∧ H' = upd H a (.lst (vs ++ [v])) ∧ Go σ ρ Hb H σ o.2 Hb H' ∧ Rel K Hb H' σ o.2 := by
  have fin : ∀ {m : Md} {xs : List D}, ρ[i]? = some (some ⟨m, .list xs⟩) → m.isOwn = true → m.isLk = false → xs.length < sizeLine → o = (.ok .nx, ρ.set i (some ⟨m, .list (xs ++ [d])⟩)) →
      ∃ a vs H', o.1 = .ok .nx ∧ σ[i]? = some (some (.ref a)) ∧ H a = some (.lst vs) ∧ vs.length < sizeLine ∧ H' = upd H a (.lst (vs ++ [v])) ∧ Go σ ρ Hb H σ o.2 Hb H' ∧ Rel K Hb H' σ o.2 := by
    intro m xs hs ho hlk hl hO
    subst hO
    obtain ⟨a, vs, xs', e1, e2, e3, e4, e5⟩ := Rr.own i _ hs ho
    cases e2
    obtain ⟨g, R2⟩ := set_cont (ws := vs ++ [v]) (ys := xs ++ [d]) Rr hs ho hlk e1 (e5.append (.cons rp .nil))
    exact ⟨a, vs, _, rfl, e1, e4, by rw [e5.length]; exact hl, rfl, g, R2⟩
  unfold appTo at e
  split at e
  · rename_i xs hs
    split at e
    · rename_i c
      cases e
      exact fin hs rfl rfl c rfl
    · cases e
  · rename_i xs hs
    split at e
    · rename_i c
      cases e
      exact fin hs rfl rfl c rfl
    · cases e
  · cases e
end
section
variable {X : Cx} {E : WX} {pos apos cpos npos : Pos} {e k : Expr} {m mk : M Res}
/-- x.append(e), x the slot i's list -/
theorem ms_app {i : Nat} {x : Str} (hx : PE X (.Name x npos) (tVar i)) (he : PE X e (tE X.K X.mg E m)) (hs : starEach [e] X.env = (false, eval e X.env) :: starEach [] X.env := by rfl)
    (hsw : swapsWith (.Call (.Attribute (.Name x npos) "append" apos) [e] [] cpos) none pos.line X.env = pure false := by rfl)
    (hE : PE X (.Call (.Attribute (.Name x npos) "append" apos) [e] [] cpos) (tBM X.K "list" rAppend (tVar i) (tCons (tE X.K X.mg E m) tNil))) :
    PS X (.Expr (.Call (.Attribute (.Name x npos) "append" apos) [e] [] cpos) pos) (tS X.K X.mg E (mApp i m)) := (ps_expr hE hsw).imp fun De σ H w => by
  obtain ⟨Hb, ρ, R, S⟩ := w
  obtain ⟨c, S'⟩ : ownAt ρ i = true ∧ Sat X.K X.mg E σ Hb H ρ (bnd (mVal m) (appTo i)) (FlP X.K De H) := by
    obtain ⟨out, ρ', e, h⟩ := S
    unfold mApp at e
    split at e
    · rename_i c
      exact ⟨c, out, ρ', e, h⟩
    · cases e
  obtain ⟨a, vs, ea, ha⟩ := own_at R c
  refine ⟨.ref a, ea, .inl ⟨rfl, vs, SqL.of ha⟩, ?_⟩
  refine tE_mono (e_val R S') fun v H1 ⟨Hb1, ρ1, d, R1, rp, g1, S1⟩ => ?_
  obtain ⟨out, ρ', e, h1, h2⟩ := S1
  obtain ⟨b, ws, H', q1, q2, q3, q4, q5, q6, q7⟩ := app_run R1 rp e
  rw [ea] at q2
  cases q2
  subst q5
  exact ⟨a, ws, v, rfl, rfl, q3, q4, h1 .nx q1 σ Hb1 _ q6 q7 (g1.trans q6)⟩
/-- x[k] = e -/
theorem ms_setix {i : Nat} {x : Str} {pk : Pos} (hx : PE X (.Name x npos) (tVar i)) (hk : PE X k (tE X.K X.mg E mk)) (he : PE X e (tE X.K X.mg E m))
    (hs : swapsWithSole [.Subscript (.Name x npos) k pk] e pos.line X.env = pure false := by rfl) (hw : swappedStores [.Subscript (.Name x npos) k pk] e X.env = pure none := by rfl)
    (h1 : (assignEach [.Subscript (.Name x npos) k pk] X.env).map (·.2) = [assign (.Subscript (.Name x npos) k pk) X.env] := by rfl)
    (hg : PG X (.Subscript (.Name x npos) k pk) (gSub (tVar i) (tE X.K X.mg E mk) rSetL)) :
    PS X (.Assign [.Subscript (.Name x npos) k pk] e pos) (tS X.K X.mg E (mSetIx i mk m)) := (ps_asg he hg hs hw h1).imp fun De σ H w => by
  obtain ⟨Hb, ρ, R, S⟩ := w
  refine tE_mono (e_val R S) fun v H1 ⟨Hb1, ρ1, d, R1, rp, g1, S1⟩ => ?_
  obtain ⟨out, ρ', e, h⟩ := S1
  dsimp only at e
  split at e
  · rename_i c
    obtain ⟨a, vs, ea, ha⟩ := own_at R1 c
    refine ⟨.ref a, ea, ?_⟩
    refine tE_mono (e_thaw R1 (⟨out, ρ', e, h⟩ : Sat X.K X.mg E σ Hb1 H1 ρ1 (bnd (thaw mk) fun j => bnd (setIx i j d) fun _ => ret Fl.nx) fun b σ' ρ' Hb' H' => Go σ ρ Hb H σ' ρ' Hb' H' → FlP X.K De H b σ' ρ' Hb' H')) fun w H2 ⟨Hb2, ρ2, kr, R2, rk, g2, S2⟩ => ?_
    obtain ⟨out, ρ', e, h1, h2⟩ := S2
    unfold bnd at e
    split at e
    · rename_i u ρ3 e3
      cases e
      obtain ⟨b, n, ws, j, H', q1, q2, q3, q4, q5, q6, q7, q8⟩ := setIx_run R2 rk (rp.mono g2.b) e3
      rw [ea] at q2
      cases q2
      subst q6
      subst q3
      exact ⟨a, ws, n, j, rfl, rfl, q4, q5, h1 _ rfl σ Hb2 _ q7 q8 (g2.trans q7) (g1.trans (g2.trans q7))⟩
    · rename_i x ρ3 e3
      obtain ⟨b, n, ws, j, H', q1, _⟩ := setIx_run R2 rk (rp.mono g2.b) e3
      cases q1
    · cases e
  · cases e
end
end Mi

/-! Mi: defs. -/
namespace Mi
open PySem L2 Evl PySem.Spec

/-- what a def does with data: the answer, and what the list of the caller's at io holds behind it -/
abbrev Fn := List D → Option (Out Res × D)
def IoA (io : Option Nat) (vs : List V) (a : Addr) : Prop := ∃ i, io = some i ∧ vs[i]? = some (.ref a)
structure ArgR (K : PySem.W.Frag) (Hb H : Hp) (io : Option Nat) (vs : List V) (ds : List D) : Prop where
  len : vs.length = ds.length
  val : ∀ (i : Nat) (d : D), ds[i]? = some d → io ≠ some i → ∃ v, vs[i]? = some v ∧ Rp K Hb v d
  io : ∀ i, io = some i → ∃ a ws xs, vs[i]? = some (.ref a) ∧ ds[i]? = some (.list xs) ∧ Hb a = none ∧ H a = some (.lst ws) ∧ RpAll K Hb ws xs
structure GoF (io : Option Nat) (vs : List V) (Hb H Hb' H' : Hp) : Prop where
  b : Ex Hb Hb'
  e : Ex Hb' H'
  k : ∀ a o, H a = some o → ¬ IoA io vs a → H' a = some o
  f : ∀ a, Hb a = none → Hb' a ≠ none → H a = none
  t : ∀ a, H a ≠ none → H' a ≠ none
def IoR (K : PySem.W.Frag) (Hb' H' : Hp) (io : Option Nat) (vs : List V) (y : D) : Prop :=
  ∀ i a, io = some i → vs[i]? = some (.ref a) → Hb' a = none ∧ ∃ ws xs, y = .list xs ∧ H' a = some (.lst ws) ∧ RpAll K Hb' ws xs
def spF (K : PySem.W.Frag) (mg : Str → Option Value) (n : Nat) (io : Option Nat) (F : Fn) : Sp := fun vs H Q E => vs.length = n ∧ ∃ Hb ds, Ex Hb H ∧ ArgR K Hb H io vs ds ∧ ∃ out y, F ds = some (out, y) ∧
  (∀ r, out = .ok r → ∀ v Hb' H', GoF io vs Hb H Hb' H' → IoR K Hb' H' io vs y → RR K Hb' H' H v r → Q v H') ∧
  (∀ e, out = .exc e → ∀ c d Hb' H', GoF io vs Hb H Hb' H' → IoR K Hb' H' io vs y → ExcR K mg Hb' H' c d e → E c d H')

/-! ### a def's body as such a function -/
def slot0 (io : Option Nat) : Nat → List D → R
  | _, [] => []
  | i, d :: ds => some ⟨if io = some i then .io else .val, d⟩ :: slot0 io (i + 1) ds
def slots (n : Nat) (io : Option Nat) (ds : List D) : R := slot0 io 0 ds ++ List.replicate (n - ds.length) none
def outIo (io : Option Nat) (ρ : R) : D := match io with
  | none => .none
  | some i => match ρ[i]? with
    | some (some s) => s.d
    | _ => .none
def isListAt (io : Option Nat) (ds : List D) : Bool := match io with
  | none => true
  | some i => match ds[i]? with
    | some (.list _) => true
    | _ => false
def retR (r : Res) (ρ : R) : Option Res := match r with
  | .val d => some (.val d)
  | .fresh xs => some (.fresh xs)
  | .slot i => match ρ[i]? with
    | some (some ⟨.val, d⟩) => some (.val d)
    | some (some ⟨.own, .list xs⟩) => some (.fresh xs)
    | some (some ⟨.lock, .list xs⟩) => some (.fresh xs)
    | _ => none
/-- p parameters, n names -/
def mkFn (p n : Nat) (io : Option Nat) (body : M Fl) : Fn := fun ds => if ds.length = p ∧ isListAt io ds = true then match body (slots n io ds) with
  | some (.ok .nx, ρ) => some (.ok (.val .none), outIo io ρ)
  | some (.ok (.rt r), ρ) => match retR r ρ with
    | some r' => some (.ok r', outIo io ρ)
    | none => none
  | some (.ok _, _) => none
  | some (.exc e, ρ) => some (.exc e, outIo io ρ)
  | none => none
  else none

section
variable {K : PySem.W.Frag} {mg : Str → Option Value} {Hb H : Hp} {io : Option Nat} {vs : List V} {ds : List D} {n : Nat}
theorem slot0_get : ∀ {ds : List D} {k i : Nat} {s : Slot}, (slot0 io k ds)[i]? = some (some s) → ∃ d, ds[i]? = some d ∧ s = ⟨if io = some (k + i) then .io else .val, d⟩
  | [], _, _, _, h => by simp [slot0] at h
  | d :: ds, k, 0, s, h => by
    simp [slot0] at h
    exact ⟨d, rfl, h.symm⟩
  | d :: ds, k, i + 1, s, h => by
    have h' : (slot0 io (k + 1) ds)[i]? = some (some s) := by simpa [slot0] using h
    obtain ⟨d', e1, e2⟩ := slot0_get h'
    exact ⟨d', by simpa using e1, by rw [e2, show k + 1 + i = k + (i + 1) by omega]⟩
theorem slot0_length : ∀ (ds : List D) (k : Nat), (slot0 io k ds).length = ds.length
  | [], _ => rfl
  | d :: ds, k => by
    show (slot0 io (k + 1) ds).length + 1 = ds.length + 1
    rw [slot0_length ds]
theorem slots_get {i : Nat} {s : Slot} (h : (slots n io ds)[i]? = some (some s)) : ∃ d, ds[i]? = some d ∧ s = ⟨if io = some i then .io else .val, d⟩ := by
  unfold slots at h
  by_cases hi : i < (slot0 io 0 ds).length
  · rw [List.getElem?_append_left hi] at h
    obtain ⟨d, e1, e2⟩ := slot0_get h
    exact ⟨d, e1, by rw [e2, Nat.zero_add]⟩
  · rw [List.getElem?_append_right (by omega)] at h
    have := List.mem_of_getElem? h
    rw [List.mem_replicate] at this
    cases this.2
theorem start_get {N : List Str} {i : Nat} {v : V} (h : vs[i]? = some v) : (L2.start N vs)[i]? = some (some v) := by
  have hi : i < vs.length := (List.getElem?_eq_some_iff.mp h).1
  unfold L2.start
  rw [List.getElem?_append_left (by simpa using hi), List.getElem?_map, h]
  rfl
theorem start_of {N : List Str} {i : Nat} {v : V} (h : (L2.start N vs)[i]? = some (some v)) : vs[i]? = some v := by
  unfold L2.start at h
  by_cases hi : i < (vs.map some).length
  · rw [List.getElem?_append_left hi, List.getElem?_map] at h
    cases q : vs[i]? with
    | none => rw [q] at h; cases h
    | some w => rw [q] at h; cases h; rfl
  · rw [List.getElem?_append_right (by omega)] at h
    have := List.mem_of_getElem? h
    rw [List.mem_replicate] at this
    cases this.2
theorem slots_rel {N : List Str} (hn : N.length = n) (ex : Ex Hb H) (A : ArgR K Hb H io vs ds) : Rel K Hb H (L2.start N vs) (slots n io ds) where
  len := by
    unfold L2.start slots
    simp only [List.length_append, List.length_map, List.length_replicate, slot0_length]
    rw [A.len, hn]
  ex := ex
  val := fun i s h1 h2 => by
    obtain ⟨d, e1, e2⟩ := slots_get h1
    subst e2
    by_cases c : io = some i
    · rw [if_pos c] at h2; cases h2
    · obtain ⟨v, q1, q2⟩ := A.val i d e1 c
      exact ⟨v, start_get q1, q2⟩
  own := fun i s h1 h2 => by
    obtain ⟨d, e1, e2⟩ := slots_get h1
    subst e2
    by_cases c : io = some i
    · obtain ⟨a, ws, xs, q1, q2, q3, q4, q5⟩ := A.io i c
      rw [e1] at q2
      cases q2
      exact ⟨a, ws, xs, start_get q1, rfl, q3, q4, q5⟩
    · rw [if_neg c] at h2; cases h2
  inj := fun i j s t a h1 h2 h3 h4 h5 h6 => by
    obtain ⟨d, e1, e2⟩ := slots_get h1
    obtain ⟨d', e1', e2'⟩ := slots_get h2
    subst e2
    subst e2'
    by_cases c : io = some i
    · by_cases c' : io = some j
      · rw [c] at c'; exact Option.some.inj c'
      · rw [if_neg c'] at h4; cases h4
    · rw [if_neg c] at h3; cases h3
theorem slots_own {N : List Str} {a : Addr} (A : ArgR K Hb H io vs ds) : Own (L2.start N vs) (slots n io ds) a ↔ IoA io vs a := by
  constructor
  · rintro ⟨i, s, h1, h2, h3⟩
    obtain ⟨d, e1, e2⟩ := slots_get h1
    subst e2
    by_cases c : io = some i
    · exact ⟨i, c, start_of h3⟩
    · rw [if_neg c] at h2; cases h2
  · rintro ⟨i, c, h⟩
    obtain ⟨b, ws, xs, q1, q2, _⟩ := A.io i c
    have hi : i < ds.length := (List.getElem?_eq_some_iff.mp q2).1
    refine ⟨i, ⟨.io, .list xs⟩, ?_, rfl, start_get h⟩
    unfold slots
    rw [List.getElem?_append_left (by rw [slot0_length]; exact hi)]
    have key : ∀ (ds : List D) (k i : Nat) (d : D), ds[i]? = some d → (slot0 io k ds)[i]? = some (some ⟨if io = some (k + i) then .io else .val, d⟩) := by
      intro ds
      induction ds with
      | nil => intro k i d e; simp at e
      | cons x ds ih =>
        intro k i d e
        cases i with
        | zero => simp at e; subst e; rfl
        | succ i =>
          have := ih (k + 1) i d (by simpa using e)
          rw [show k + (i + 1) = k + 1 + i by omega]
          simpa [slot0] using this
    rw [key ds 0 i _ q2, Nat.zero_add, if_pos c]
/-- from the body's end to the def's -/
theorem go_fn {N : List Str} {σ' : L2.St} {ρ' : R} {Hb' H' : Hp} (A : ArgR K Hb H io vs ds) (g : Go (L2.start N vs) (slots n io ds) Hb H σ' ρ' Hb' H') (R' : Rel K Hb' H' σ' ρ') :
    GoF io vs Hb H Hb' H' ∧ IoR K Hb' H' io vs (outIo io ρ') ∧ (∀ a, Own σ' ρ' a → IoA io vs a ∨ H a = none) ∧ (∀ i a, io = some i → vs[i]? = some (.ref a) → σ'[i]? = some (some (.ref a)) ∧ ∃ s', ρ'[i]? = some (some s') ∧ s'.m.isIo = true) := by
  have keep : ∀ i a, io = some i → vs[i]? = some (.ref a) → σ'[i]? = some (some (.ref a)) ∧ ∃ s', ρ'[i]? = some (some s') ∧ s'.m.isIo = true := by
    intro i a c h
    have o := (slots_own (n := n) (N := N) A).mpr ⟨i, c, h⟩
    obtain ⟨j, s, h1, h2, h3⟩ := o
    obtain ⟨d, e1, e2⟩ := slots_get h1
    have cj : io = some j := by
      subst e2
      by_cases c : io = some j
      · exact c
      · rw [if_neg c] at h2; cases h2
    rw [c] at cj
    cases cj
    subst e2
    obtain ⟨k1, s', k2, k3⟩ := g.io i _ h1 (by rw [if_pos c]; rfl)
    exact ⟨k1.trans h3, s', k2, k3⟩
  have isOwn : ∀ {m : Md}, m.isIo = true → m.isOwn = true := fun {m} h => by cases m <;> simp_all [Md.isIo, Md.isOwn]
  have owned : ∀ i a, io = some i → vs[i]? = some (.ref a) → Hb' a = none ∧ ∃ ws xs, outIo io ρ' = .list xs ∧ H' a = some (.lst ws) ∧ RpAll K Hb' ws xs := by
    intro i a c h
    obtain ⟨k1, s', k2, k3⟩ := keep i a c h
    obtain ⟨b, ws, xs, q1, q2, q3, q4, q5⟩ := R'.own i s' k2 (isOwn k3)
    rw [k1] at q1
    cases q1
    refine ⟨q3, ws, xs, ?_, q4, q5⟩
    unfold outIo
    rw [c]
    dsimp only
    rw [k2]
    exact q2
  refine ⟨⟨g.b, R'.ex, fun a o h q => g.k a o h fun z => q ((slots_own A).mp z), fun a h1 h2 => ?_, g.t⟩, owned, fun a q => ?_, keep⟩
  · rcases g.f a h1 h2 with z | z
    · exact z
    · obtain ⟨i, c, h⟩ := (slots_own A).mp z
      exact absurd (owned i a c h).1 h2
  · rcases g.o a q with z | z
    · exact .inl ((slots_own A).mp z)
    · exact .inr z
end

/-! ### the promise over a stack without guards -/
structure FnG (P : Program) (w : World) (K : PySem.W.Frag) (mg : Str → Option Value) (base : Heap) (CX : CXT) (k : Nat) (f : Addr) (fd : FuncData) (ps : List Str) (sp : Sp) : Prop where
  len : ∀ vs H Q E, sp vs H Q E → vs.length = ps.length
  run : ∀ (A : Around) (outer : List Env) (s : Shared) (H : Hp) (args : Args) (us : List Value) (vs : List V) (Q : VK) (E : XK), Room k A → A.guards = some [] → Env0 P w K mg base A outer s H → BindsTo s fd args (ps.zip us) → Vals vs us → sp vs H Q E →
    codeAny (model P w) A (.call (.ref f) args) (CR CX outer P w H s Q E) s
theorem FnG.mono {P : Program} {w : World} {K : PySem.W.Frag} {mg : Str → Option Value} {base : Heap} {CX : CXT} {j k : Nat} {f : Addr} {fd : FuncData} {ps : List Str} {sp : Sp} (F : FnG P w K mg base CX j f fd ps sp) (h : j ≤ k) :
    FnG P w K mg base CX k f fd ps sp := ⟨F.len, fun A outer s H args us vs Q E hr => F.run A outer s H args us vs Q E (hr.mono h)⟩
theorem FnG.imp {P : Program} {w : World} {K : PySem.W.Frag} {mg : Str → Option Value} {base : Heap} {CX : CXT} {k : Nat} {f : Addr} {fd : FuncData} {ps : List Str} {sp sp' : Sp} (F : FnG P w K mg base CX k f fd ps sp)
    (h : ∀ vs H Q E, sp' vs H Q E → sp vs H Q E) : FnG P w K mg base CX k f fd ps sp' :=
  ⟨fun vs H Q E q => F.len vs H Q E (h _ _ _ _ q), fun A outer s H args us vs Q E hr hg he hb hv hs => F.run A outer s H args us vs Q E hr hg he hb hv (h _ _ _ _ hs)⟩
/-- from a body -/
theorem fng_of {P : Program} {w : World} {K : PySem.W.Frag} {mg : Str → Option Value} {base : Heap} {CX : CXT} {k : Nat} {f : Addr} {x qual : Str} {st : Stmt} {fd : FuncData} {N ps : List Str} {sp : Sp} (F : Fun K x qual st f fd) (S : FnScope N ps (defScope st))
    (len : ∀ vs H Q E, sp vs H Q E → vs.length = ps.length)
    (hbody : ∀ (cdv : Value) (A : Around) (outer : List Env) (s : Shared) (H : Hp) (vs : List V) (Q : VK) (E : XK), Room k (A.deeper (PyProof.Rows.envOfC qual (defScope st) s.heap.objs.size f cdv)) → A.guards = some [] → sp vs H Q E →
      ∃ t, PSs (cxOf CX P w K mg base N qual (defScope st) f cdv A outer s H E) (defBody st) t ∧ t { nx := fun _ H' => Q .non H', rt := Q } (L2.start N vs) H) :
    FnG P w K mg base CX (k + 1) f fd ps sp := by
  obtain ⟨oc, od, kV, doc, pm, an, cdv, ct, osl, rfl, lk, hcd⟩ := F.ex
  refine ⟨len, fun A outer s H args us vs Q E hr hgd e0 hb r hsp => ?_⟩
  have KX : K.In s.heap := e0.mod.kin.keeps fun b o e => (e0.bs b o e).1
  have lim : s.heap.NoLimit := e0.mod.nolimit.keeps fun b o e => (e0.bs b o e).1
  refine codeAny_call_function hr.depth (KX _ _ lk) rfl S.co S.gen rfl (PySem.W.codeRec_of KX hcd) (hb _ _ _ _ ?_)
  refine wpAny_newFunctionEnv_cells S.kind (fun ⟨y, v⟩ hy => ?_) fun env he s1 xx => ?_
  · rcases S.par y (List.of_mem_zip hy).1 with q | q
    · exact .inl q
    · exact .inr ⟨q, PySem.W.cellsFrom_some _ _ _ (.inl q)⟩
  subst he
  obtain ⟨t, ht, hq⟩ := hbody cdv A outer s H vs Q E (hr.deeper _) hgd hsp
  have I : L2.Inv (cxOf CX P w K mg base N qual (defScope st) f cdv A outer s H E) [] (L2.start N vs) H s1 := inv_start S hr.hd e0 (len _ _ _ _ hsp) r xx
  refine ⟨lim.keeps xx.toInCall.keep, codeAny_func (wpAny_mono (ht.run [] s1 (L2.start N vs) H _ I hq) (fun fl s' hs => ?_) fun e s' hs => hs)⟩
  cases fl with
  | ret u =>
    obtain ⟨v, σ', H', J, rv, q⟩ := hs
    exact ⟨v, H', J.os, J.bare, J.base, J.hok, rv, q⟩
  | next =>
    obtain ⟨σ', H', J, q⟩ := hs
    exact ⟨V.non, H', J.os, J.bare, J.base, J.hok, rfl, q⟩
  | brk =>
    obtain ⟨_, _, _, q⟩ := hs
    exact q.elim
  | cont =>
    obtain ⟨_, _, _, q⟩ := hs
    exact q.elim
/-- THE RULE for a def: its body does what the function tells -/
theorem def_ok {P : Program} {w : World} {K : PySem.W.Frag} {mg : Str → Option Value} {base : Heap} {k p n : Nat} {io : Option Nat} {f : Addr} {x qual : Str} {st : Stmt} {fd : FuncData} {N ps : List Str} {m : M Fl} (F : Fun K x qual st f fd) (S : FnScope N ps (defScope st))
    (hN : N.length = n) (hps : ps.length = p)
    (hbody : ∀ (cdv : Value) (A : Around) (outer : List Env) (s : Shared) (H : Hp) (E : XK), Room k (A.deeper (PyProof.Rows.envOfC qual (defScope st) s.heap.objs.size f cdv)) → A.guards = some [] →
      PSs (cxOf (L2.CX P w) P w K mg base N qual (defScope st) f cdv A outer s H E) (defBody st) (tS K mg (fun c d _ H => E c d H) m)) :
    FnG P w K mg base (L2.CX P w) (k + 1) f fd ps (spF K mg p io (mkFn p n io m)) := by
  refine fng_of F S (fun vs H Q E h => h.1.trans hps.symm) fun cdv A outer s H vs Q E hr hg h => ⟨_, hbody cdv A outer s H E hr hg, ?_⟩
  obtain ⟨hl, Hb, ds, ex, AR, out, y, e, h1, h2⟩ := h
  unfold mkFn at e
  split at e
  · refine ⟨Hb, slots n io ds, slots_rel hN ex AR, ?_⟩
    split at e
    · rename_i ρ' eb
      cases e
      refine ⟨_, _, eb, fun fl q σ' Hb' H' g R' => ?_, fun x q => by cases q⟩
      cases q
      obtain ⟨gf, ior, _⟩ := go_fn AR g R'
      exact h1 _ rfl .non Hb' H' gf ior .non
    · rename_i r ρ' eb
      split at e
      · rename_i r' er
        cases e
        refine ⟨_, _, eb, fun fl q σ' Hb' H' g R' => ?_, fun x q => by cases q⟩
        cases q
        intro v rep
        obtain ⟨gf, ior, own, kp⟩ := go_fn AR g R'
        refine h1 _ rfl v Hb' H' gf ior ?_
        have slotF : ∀ {i : Nat} {md : Md} {xs : List D}, σ'[i]? = some (some v) → ρ'[i]? = some (some ⟨md, .list xs⟩) → md.isOwn = true → md.isIo = false → RR K Hb' H' H v (.fresh xs) := by
          intro i md xs hv hs ho hi
          obtain ⟨a, ws, xs', q1, q2, q3, q4, q5⟩ := R'.own i _ hs ho
          cases q2
          rw [hv] at q1
          cases q1
          refine ⟨a, ws, rfl, q3, q4, q5, ?_⟩
          rcases own a ⟨i, _, hs, ho, hv⟩ with ⟨j, c, hj⟩ | z
          · obtain ⟨z1, s', z2, z3⟩ := kp j a c hj
            have : s'.m.isOwn = true := by
              cases hm : s'.m <;> simp_all [Md.isIo, Md.isOwn]
            have e := R'.inj i j _ s' a hs z2 ho this hv z1
            subst e
            rw [hs] at z2
            cases z2
            rw [hi] at z3; cases z3
          · exact z
        unfold retR at er
        split at er
        · cases er; exact rep
        · cases er
          obtain ⟨a, ws, q1, q2, q3, q4, q5, _⟩ := rep
          exact ⟨a, ws, q1, q2, q3, q4, q5⟩
        · rename_i i
          have hv : σ'[i]? = some (some v) := rep
          split at er
          · rename_i d hs
            cases er
            obtain ⟨w', q1, q2⟩ := R'.val i _ hs rfl
            rw [hv] at q1
            cases q1
            exact q2
          · rename_i xs hs
            cases er
            exact slotF hv hs rfl rfl
          · rename_i xs hs
            cases er
            exact slotF hv hs rfl rfl
          · cases er
      · cases e
    · cases e
    · rename_i x ρ' eb
      cases e
      refine ⟨_, _, eb, fun fl q => (by cases q), fun x' q σ' c d Hb' H' g R' xr => ?_⟩
      cases q
      obtain ⟨gf, ior, _⟩ := go_fn AR g R'
      exact h2 _ rfl c d Hb' H' gf ior xr
    · cases e
  · cases e
end Mi

/-! Mi: calls of defs. -/
namespace Mi
open PySem L2 Evl PySem.Spec

def notSlot (j : Nat) : Res → Bool
  | .slot k => k != j
  | _ => true
def mayGive : Md → Bool
  | .own => true
  | .io => true
  | _ => false
/-- the slot whose list is handed to be changed -/
def callIo (io : Option Nat) (rs : List Res) (ρ : R) : Option (Option Nat) := match io with
  | none => some none
  | some i => match rs[i]? with
    | some (.slot j) => match ρ[j]? with
      | some (some s) => if mayGive s.m && (rs.eraseIdx i).all (notSlot j) then some (some j) else none
      | _ => none
    | _ => none
def putIo (oj : Option Nat) (y : D) (ρ : R) : R := match oj with
  | none => ρ
  | some j => match ρ[j]? with
    | some (some s) => ρ.set j (some ⟨s.m, y⟩)
    | _ => ρ
mutual
/-- without a list or a dict -/
def flatD : D → Bool
  | .none => true
  | .bool _ => true
  | .int _ => true
  | .str _ => true
  | .tuple xs => flatAll xs
  | .list _ => false
  | .dict _ => false
def flatAll : List D → Bool
  | [] => true
  | x :: xs => flatD x && flatAll xs
end
def flatY : D → Bool
  | .none => true
  | .list xs => flatAll xs
  | _ => false
/-- the lists that were handed on as they are: nobody's own from here on -/
def freezeBy (oj : Option Nat) : List Res → R → Option R
  | [], ρ => some ρ
  | .slot k :: rs, ρ => if oj = some k then freezeBy oj rs ρ else match ρ[k]? with
    | some (some ⟨.own, d⟩) => freezeBy oj rs (ρ.set k (some ⟨.val, d⟩))
    | some (some ⟨.val, _⟩) => freezeBy oj rs ρ
    | _ => none
  | _ :: rs, ρ => freezeBy oj rs ρ
def callF (F : Fn) (io : Option Nat) (rs : List Res) : M Res := fun ρ => match callIo io rs ρ, lookAll rs ρ with
  | some oj, some ds => match F ds with
    | some (.ok (.val d), y) => if flatD d && flatY y then some (.ok (.val d), putIo oj y ρ) else match freezeBy oj rs (putIo oj y ρ) with
      | some ρ' => some (.ok (.val d), ρ')
      | none => none
    | some (.ok (.fresh xs), y) => if flatAll xs && flatY y then some (.ok (.fresh xs), putIo oj y ρ) else match freezeBy oj rs (putIo oj y ρ) with
      | some ρ' => some (.ok (.fresh xs), ρ')
      | none => none
    | some (.exc e, y) => match freezeBy oj rs (putIo oj y ρ) with
      | some ρ' => some (.exc e, ρ')
      | none => none
    | _ => none
  | _, _ => none
def mFn (F : Fn) (io : Option Nat) (as : M (List Res)) : M Res := bnd as fun rs => callF F io rs

section
variable {K : PySem.W.Frag} {mg : Str → Option Value} {E : WX} {σ : L2.St} {Hb H Hb1 H1 Hb2 H2 : Hp} {ρ : R} {vs : List V} {rs : List Res} {ds : List D} {io oj : Option Nat} {y : D}
theorem repA_get : ∀ {vs : List V} {rs : List Res} {i : Nat} {r : Res}, RepA K Hb σ vs rs → rs[i]? = some r → ∃ v, vs[i]? = some v ∧ RepA K Hb σ [v] [r]
  | _, _, _, _, .nil, e => by simp at e
  | _, _, 0, _, .val a _, e => by simp at e; subst e; exact ⟨_, rfl, .val a .nil⟩
  | _, _, 0, _, .slot a _, e => by simp at e; subst e; exact ⟨_, rfl, .slot a .nil⟩
  | _, _, i + 1, _, .val _ b, e => by
    obtain ⟨v, h1, h2⟩ := repA_get (i := i) b (by simpa using e)
    exact ⟨v, by simpa using h1, h2⟩
  | _, _, i + 1, _, .slot _ b, e => by
    obtain ⟨v, h1, h2⟩ := repA_get (i := i) b (by simpa using e)
    exact ⟨v, by simpa using h1, h2⟩
theorem lookAll_get : ∀ {rs : List Res} {ds : List D} {i : Nat} {d : D}, lookAll rs ρ = some ds → ds[i]? = some d → ∃ r, rs[i]? = some r ∧ look r ρ = some d
  | [], _, _, _, e, h => by cases e; simp at h
  | r :: rs, ds, i, d, e, h => by
    unfold lookAll at e
    split at e
    · rename_i d' ds' h1 h2
      cases e
      cases i with
      | zero => simp at h; subst h; exact ⟨r, rfl, h1⟩
      | succ i =>
        obtain ⟨r', q1, q2⟩ := lookAll_get (i := i) h2 (by simpa using h)
        exact ⟨r', by simpa using q1, q2⟩
    · cases e
theorem lookAll_len : ∀ {rs : List Res} {ds : List D}, lookAll rs ρ = some ds → rs.length = ds.length
  | [], _, e => by cases e; rfl
  | r :: rs, ds, e => by
    unfold lookAll at e
    split at e
    · rename_i d' ds' h1 h2
      cases e
      rw [List.length_cons, List.length_cons, lookAll_len h2]
    · cases e
/-- an address of a list that is handed on as it is -/
def ByV (σ : L2.St) (ρ : R) (rs : List Res) (oj : Option Nat) (a : Addr) : Prop := ∃ k s, Res.slot k ∈ rs ∧ oj ≠ some k ∧ ρ[k]? = some (some s) ∧ s.m.isOwn = true ∧ σ[k]? = some (some (.ref a))
theorem mayGive_own {m : Md} (h : mayGive m = true) : m.isOwn = true := by cases m <;> simp_all [mayGive, Md.isOwn]
theorem call_prep (Rr : Rel K Hb H σ ρ) (rr : RepA K Hb σ vs rs) (hio : callIo io rs ρ = some oj) (hl : lookAll rs ρ = some ds) :
    ∃ Hb1, Ex Hb Hb1 ∧ Ex Hb1 H ∧ (∀ a, Hb a = none → Hb1 a ≠ none → ByV σ ρ rs oj a) ∧ (∀ a, ByV σ ρ rs oj a → Hb1 a = H a) ∧ ArgR K Hb1 H io vs ds ∧ (∀ a, IoA io vs a ↔ ∃ j, oj = some j ∧ σ[j]? = some (some (.ref a))) ∧
      (∀ j, oj = some j → ∃ s, ρ[j]? = some (some s) ∧ mayGive s.m = true) := by
  have ioF : ∀ i, io = some i → ∃ j s, oj = some j ∧ rs[i]? = some (.slot j) ∧ ρ[j]? = some (some s) ∧ mayGive s.m = true ∧ (rs.eraseIdx i).all (notSlot j) = true := by
    intro i hi
    unfold callIo at hio
    rw [hi] at hio
    dsimp only at hio
    split at hio
    · rename_i j hj
      split at hio
      · rename_i s hs
        split at hio
        · rename_i c
          cases hio
          rw [Bool.and_eq_true] at c
          exact ⟨j, s, rfl, hj, hs, c.1, c.2⟩
        · cases hio
      · cases hio
    · cases hio
  have ioN : io = none → oj = none := fun h => by
    unfold callIo at hio
    rw [h] at hio
    cases hio
    rfl
  classical
  have owned : ∀ a, ByV σ ρ rs oj a → Hb a = none ∧ ∃ ws, H a = some (.lst ws) := fun a ⟨k, s, _, _, h3, h4, h5⟩ => Rr.owned ⟨k, s, h3, h4, h5⟩
  refine ⟨fun a => if ByV σ ρ rs oj a then H a else Hb a, fun a o h => ?_, fun a o h => ?_, fun a h1 h2 => ?_, fun a h => if_pos h, ?_, ?_, ?_⟩
  · show (if ByV σ ρ rs oj a then H a else Hb a) = some o
    rw [if_neg]
    · exact h
    · intro z
      rw [(owned a z).1] at h; cases h
  · have h : (if ByV σ ρ rs oj a then H a else Hb a) = some o := h
    by_cases z : ByV σ ρ rs oj a
    · rw [if_pos z] at h; exact h
    · rw [if_neg z] at h; exact Rr.ex a o h
  · have h2 : (if ByV σ ρ rs oj a then H a else Hb a) ≠ none := h2
    by_cases z : ByV σ ρ rs oj a
    · exact z
    · rw [if_neg z] at h2; exact absurd h1 h2
  · have ex1 : Ex Hb (fun a => if ByV σ ρ rs oj a then H a else Hb a) := fun a o h => by
      show (if ByV σ ρ rs oj a then H a else Hb a) = some o
      rw [if_neg]
      · exact h
      · intro z
        rw [(owned a z).1] at h; cases h
    refine ⟨rr.length.trans (lookAll_len hl), fun i d hd hi => ?_, fun i hi => ?_⟩
    · obtain ⟨r, e1, e2⟩ := lookAll_get hl hd
      obtain ⟨v, e3, e4⟩ := repA_get rr e1
      refine ⟨v, e3, ?_⟩
      cases e4 with
      | val h _ =>
        cases e2
        exact h.mono ex1
      | @slot _ _ k _ h _ =>
        unfold look at e2
        dsimp only at e2
        split at e2
        · rename_i s hs
          cases e2
          cases q : s.m.isOwn with
          | false =>
            obtain ⟨v', q1, q2⟩ := Rr.val k s hs q
            rw [h] at q1; cases q1
            exact q2.mono ex1
          | true =>
            obtain ⟨a, ws, xs, q1, q2, q3, q4, q5⟩ := Rr.own k s hs q
            rw [h] at q1; cases q1
            have bv : ByV σ ρ rs oj a := by
              refine ⟨k, s, List.mem_of_getElem? e1, fun z => ?_, hs, q, h⟩
              cases hio' : io with
              | none => rw [ioN hio'] at z; cases z
              | some i0 =>
                obtain ⟨j, s', f1, f2, f3, f4, f5⟩ := ioF i0 hio'
                rw [f1] at z
                cases z
                have ne : i ≠ i0 := fun e => hi (by rw [hio', e])
                have := List.all_eq_true.mp f5 (.slot k) (List.mem_eraseIdx_iff_getElem?.mpr ⟨i, ne, e1⟩)
                simp [notSlot] at this
            rw [q2]
            refine .lst (SqL.of (xs := ws) ?_) (q5.mono ex1)
            show (if ByV σ ρ rs oj a then H a else Hb a) = _
            rw [if_pos bv]
            exact q4
        · cases e2
    · obtain ⟨j, s, f1, f2, f3, f4, f5⟩ := ioF i hi
      obtain ⟨v, e3, e4⟩ := repA_get rr f2
      obtain ⟨a, ws, xs, q1, q2, q3, q4, q5⟩ := Rr.own j s f3 (mayGive_own f4)
      have ev : v = .ref a := by
        cases e4 with
        | slot h _ => rw [q1] at h; cases h; rfl
      subst ev
      refine ⟨a, ws, xs, e3, ?_, ?_, q4, q5.mono ex1⟩
      · have hi' : i < ds.length := by
          rw [← lookAll_len hl]
          exact (List.getElem?_eq_some_iff.mp f2).1
        obtain ⟨r, g1, g2⟩ := lookAll_get hl (List.getElem?_eq_getElem hi')
        rw [f2] at g1
        cases g1
        unfold look at g2
        dsimp only at g2
        rw [f3] at g2
        dsimp only at g2
        rw [List.getElem?_eq_getElem hi', ← g2, q2]
      · show (if ByV σ ρ rs oj a then H a else Hb a) = none
        rw [if_neg]
        · exact q3
        · rintro ⟨k, s', h1, h2, h3, h4, h5⟩
          have := Rr.inj k j s' s a h3 f3 h4 (mayGive_own f4) h5 q1
          subst this
          exact h2 f1
  · intro a
    constructor
    · rintro ⟨i, hi, hv⟩
      obtain ⟨j, s, f1, f2, f3, f4, f5⟩ := ioF i hi
      obtain ⟨v, e3, e4⟩ := repA_get rr f2
      rw [hv] at e3
      cases e3
      cases e4 with
      | slot h _ => exact ⟨j, f1, h⟩
    · rintro ⟨j, hj, hv⟩
      cases hio' : io with
      | none => rw [ioN hio'] at hj; cases hj
      | some i =>
        obtain ⟨j', s, f1, f2, f3, f4, f5⟩ := ioF i hio'
        rw [f1] at hj
        cases hj
        obtain ⟨v, e3, e4⟩ := repA_get rr f2
        cases e4 with
        | slot h _ =>
          rw [hv] at h
          cases h
          exact ⟨i, rfl, e3⟩
  · intro j hj
    cases hio' : io with
    | none => rw [ioN hio'] at hj; cases hj
    | some i =>
      obtain ⟨j', s, f1, f2, f3, f4, f5⟩ := ioF i hio'
      rw [f1] at hj
      cases hj
      exact ⟨s, f3, f4⟩

/-! ### behind the call -/
theorem putIo_get {j : Nat} {s : Slot} (h : (putIo oj y ρ)[j]? = some (some s)) : (oj ≠ some j ∧ ρ[j]? = some (some s)) ∨ (oj = some j ∧ ∃ s0, ρ[j]? = some (some s0) ∧ s = ⟨s0.m, y⟩) := by
  unfold putIo at h
  cases hoj : oj with
  | none => rw [hoj] at h; exact .inl ⟨fun z => (nomatch z), h⟩
  | some k =>
    rw [hoj] at h
    dsimp only at h
    split at h
    · rename_i s0 hs0
      rcases get_set h with ⟨e, z⟩ | ⟨ne, z⟩
      · subst e
        cases z
        exact .inr ⟨rfl, s0, hs0, rfl⟩
      · exact .inl ⟨fun z' => ne (by cases z'; rfl), z⟩
    · rename_i hn
      refine .inl ⟨fun z => ?_, h⟩
      cases z
      exact hn s h
theorem putIo_of {j : Nat} {s : Slot} (h : ρ[j]? = some (some s)) : ∃ s', (putIo oj y ρ)[j]? = some (some s') ∧ s'.m = s.m := by
  unfold putIo
  cases oj with
  | none => exact ⟨s, h, rfl⟩
  | some k =>
    dsimp only
    split
    · rename_i s0 hs0
      by_cases e : j = k
      · subst e
        rw [h] at hs0
        cases hs0
        exact ⟨_, List.getElem?_set_self (List.getElem?_eq_some_iff.mp h).1, rfl⟩
      · exact ⟨s, by rw [List.getElem?_set_ne (Ne.symm e)]; exact h, rfl⟩
    · exact ⟨s, h, rfl⟩
theorem putIo_lk {j : Nat} {s : Slot} (hj : ∀ j, oj = some j → ∃ s, ρ[j]? = some (some s) ∧ mayGive s.m = true) (h : ρ[j]? = some (some s)) (hl : s.m.isLk = true) : (putIo oj y ρ)[j]? = some (some s) := by
  unfold putIo
  cases hoj : oj with
  | none => exact h
  | some k =>
    dsimp only
    split
    · rename_i s0 hs0
      have e : j ≠ k := fun e => by
        subst e
        obtain ⟨s1, z1, z2⟩ := hj j hoj
        rw [h] at z1
        cases z1
        cases hm : s.m <;> simp_all [Md.isLk, mayGive]
      rw [List.getElem?_set_ne (Ne.symm e)]; exact h
    · exact h
theorem putIo_len : (putIo oj y ρ).length = ρ.length := by
  unfold putIo
  cases oj with
  | none => rfl
  | some k =>
    dsimp only
    split
    · simp
    · rfl
/-- the state behind a call: Hb2 the frozen part (Hb, or what the callee left) -/
theorem call_state (Rr : Rel K Hb H σ ρ) (b : Ex Hb Hb2) (e2 : Ex Hb2 H2) (k : ∀ a o, H a = some o → ¬ (∃ j, oj = some j ∧ σ[j]? = some (some (.ref a))) → H2 a = some o) (t : ∀ a, H a ≠ none → H2 a ≠ none)
    (f : ∀ a, Hb a = none → Hb2 a ≠ none → H a = none ∨ ByV σ ρ rs oj a)
    (hj : ∀ j, oj = some j → ∃ s, ρ[j]? = some (some s) ∧ mayGive s.m = true)
    (hio : ∀ j a, oj = some j → σ[j]? = some (some (.ref a)) → Hb2 a = none ∧ ∃ ws xs, y = .list xs ∧ H2 a = some (.lst ws) ∧ RpAll K Hb2 ws xs)
    {ρ' : R} (len' : ρ'.length = ρ.length)
    (get' : ∀ (i : Nat) (s' : Slot), ρ'[i]? = some (some s') → (s'.m.isOwn = true ∧ (putIo oj y ρ)[i]? = some (some s') ∧ ∀ a, ByV σ ρ rs oj a → Hb2 a ≠ none → σ[i]? ≠ some (some (.ref a))) ∨ (s'.m.isOwn = false ∧ ∃ s, ρ[i]? = some (some s) ∧ s.d = s'.d ∧ (s.m.isOwn = true → ∃ a ws xs, σ[i]? = some (some (.ref a)) ∧ s.d = .list xs ∧ Hb2 a = some (.lst ws) ∧ RpAll K Hb2 ws xs)))
    (iok : ∀ (i : Nat) (s : Slot), ρ[i]? = some (some s) → s.m.isIo = true → ∃ s', ρ'[i]? = some (some s') ∧ s'.m.isIo = true)
    (lkk : ∀ (i : Nat) (s : Slot), ρ[i]? = some (some s) → s.m.isLk = true → ρ'[i]? = some (some s)) :
    Go σ ρ Hb H σ ρ' Hb2 H2 ∧ Rel K Hb2 H2 σ ρ' := by
  have ownOf : ∀ a, Own σ ρ' a → Own σ ρ a := fun a ⟨i, s', h1, h2, h3⟩ => by
    rcases get' i s' h1 with ⟨_, p, _⟩ | ⟨q, _⟩
    · rcases putIo_get p with ⟨_, z⟩ | ⟨_, s0, z, e⟩
      · exact ⟨i, s', z, h2, h3⟩
      · subst e
        exact ⟨i, s0, z, h2, h3⟩
    · rw [q] at h2; cases h2
  have bvOwn : ∀ a, ByV σ ρ rs oj a → Own σ ρ a := fun a ⟨k, s, _, _, h3, h4, h5⟩ => ⟨k, s, h3, h4, h5⟩
  have ioOwn : ∀ a, (∃ j, oj = some j ∧ σ[j]? = some (some (.ref a))) → Own σ ρ a := fun a ⟨j, h1, h2⟩ => by
    obtain ⟨s, h3, h4⟩ := hj j h1
    exact ⟨j, s, h3, mayGive_own h4, h2⟩
  refine ⟨⟨b, fun a o h n => k a o h fun z => n (ioOwn a z), fun a h1 h2 => (f a h1 h2).imp id (bvOwn a), t, fun a h => .inl (ownOf a h), fun i s h1 h2 => ⟨rfl, iok i s h1 h2⟩, fun i s h1 h2 => ⟨rfl, lkk i s h1 h2⟩⟩, ⟨by rw [len']; exact Rr.len, e2, fun i s' h1 h2 => ?_, fun i s' h1 h2 => ?_, fun i j s t a h1 h2 h3 h4 h5 h6 => ?_⟩⟩
  · rcases get' i s' h1 with ⟨q, _⟩ | ⟨_, s, z, ed, zo⟩
    · rw [q] at h2; cases h2
    · cases qo : s.m.isOwn with
      | false =>
        obtain ⟨v, q1, q2⟩ := Rr.val i s z qo
        rw [← ed]
        exact ⟨v, q1, q2.mono b⟩
      | true =>
        obtain ⟨a, ws, xs, q1, q2, q3, q4⟩ := zo qo
        rw [← ed, q2]
        exact ⟨.ref a, q1, .lst (SqL.of q3) q4⟩
  · rcases get' i s' h1 with ⟨_, p, nb⟩ | ⟨q, _⟩
    · rcases putIo_get p with ⟨nj, z⟩ | ⟨ej, s0, z, e⟩
      · obtain ⟨a, ws, xs, q1, q2, q3, q4, q5⟩ := Rr.own i s' z h2
        have n1 : ¬ ∃ j, oj = some j ∧ σ[j]? = some (some (.ref a)) := fun ⟨j, z1, z2⟩ => by
          obtain ⟨s, z3, z4⟩ := hj j z1
          have := Rr.inj i j s' s a z z3 h2 (mayGive_own z4) q1 z2
          subst this
          exact nj z1
        refine ⟨a, ws, xs, q1, q2, ?_, k a _ q4 n1, q5.mono b⟩
        refine Classical.byContradiction fun q => ?_
        rcases f a q3 q with w | w
        · rw [q4] at w; cases w
        · exact nb a w q q1
      · subst e
        obtain ⟨a, ws, xs, q1, q2, q3, q4, q5⟩ := Rr.own i s0 z h2
        obtain ⟨w1, us, zs, w2, w3, w4⟩ := hio i a ej q1
        exact ⟨a, us, zs, q1, w2, w1, w3, w4⟩
    · rw [q] at h2; cases h2
  · have g : ∀ (i : Nat) (s' : Slot), ρ'[i]? = some (some s') → s'.m.isOwn = true → ∃ s, ρ[i]? = some (some s) ∧ s.m.isOwn = true := fun i s' h1 h2 => by
      rcases get' i s' h1 with ⟨_, p, _⟩ | ⟨q, _⟩
      · rcases putIo_get p with ⟨_, z⟩ | ⟨_, s0, z, e⟩
        · exact ⟨s', z, h2⟩
        · subst e
          exact ⟨s0, z, h2⟩
      · rw [q] at h2; cases h2
    obtain ⟨s1, z1, z2⟩ := g i s h1 h3
    obtain ⟨s2, z3, z4⟩ := g j t h2 h4
    exact Rr.inj i j s1 s2 a z1 z3 z2 z4 h5 h6
end
end Mi

/-! Mi: calls of defs, as expressions. -/
namespace Mi
open PySem L2 Evl PySem.Spec

section
variable {K : PySem.W.Frag} {mg : Str → Option Value} {E : WX} {σ : L2.St} {Hb H Hb1 H1 Hb2 H2 : Hp} {ρ : R} {vs : List V} {rs : List Res} {ds : List D} {io oj : Option Nat} {y : D}
theorem freezeBy_get : ∀ {rs : List Res} {ρ ρ' : R}, freezeBy oj rs ρ = some ρ' → ρ'.length = ρ.length ∧
    (∀ (i : Nat) (s' : Slot), ρ'[i]? = some (some s') → (ρ[i]? = some (some s') ∧ (s'.m.isOwn = true → ∀ k, Res.slot k ∈ rs → oj ≠ some k → k ≠ i)) ∨ (s'.m = .val ∧ ρ[i]? = some (some ⟨.own, s'.d⟩) ∧ Res.slot i ∈ rs ∧ oj ≠ some i)) ∧
    (∀ (i : Nat) (s : Slot), ρ[i]? = some (some s) → s.m.isIo = true ∨ s.m.isLk = true → ρ'[i]? = some (some s))
  | [], ρ, ρ', e => by
    cases e
    exact ⟨rfl, fun i s' h => .inl ⟨h, fun _ k hk => by cases hk⟩, fun i s h _ => h⟩
  | .val d :: rs, ρ, ρ', e => by
    have e : freezeBy oj rs ρ = some ρ' := e
    obtain ⟨l, g, o⟩ := freezeBy_get e
    refine ⟨l, fun i s' h => ?_, o⟩
    rcases g i s' h with ⟨h1, h2⟩ | ⟨h1, h2, h3, h4⟩
    · exact .inl ⟨h1, fun q k hk ho => h2 q k (by cases hk with | tail _ z => exact z) ho⟩
    · exact .inr ⟨h1, h2, List.mem_cons_of_mem _ h3, h4⟩
  | .fresh d :: rs, ρ, ρ', e => by
    have e : freezeBy oj rs ρ = some ρ' := e
    obtain ⟨l, g, o⟩ := freezeBy_get e
    refine ⟨l, fun i s' h => ?_, o⟩
    rcases g i s' h with ⟨h1, h2⟩ | ⟨h1, h2, h3, h4⟩
    · exact .inl ⟨h1, fun q k hk ho => h2 q k (by cases hk with | tail _ z => exact z) ho⟩
    · exact .inr ⟨h1, h2, List.mem_cons_of_mem _ h3, h4⟩
  | .slot k :: rs, ρ, ρ', e => by
    unfold freezeBy at e
    split at e
    · rename_i c
      obtain ⟨l, g, o⟩ := freezeBy_get e
      refine ⟨l, fun i s' h => ?_, o⟩
      rcases g i s' h with ⟨h1, h2⟩ | ⟨h1, h2, h3, h4⟩
      · refine .inl ⟨h1, fun q k' hk ho => ?_⟩
        rcases List.mem_cons.mp hk with z | z
        · cases z; exact absurd c ho
        · exact h2 q k' z ho
      · exact .inr ⟨h1, h2, List.mem_cons_of_mem _ h3, h4⟩
    · rename_i c
      split at e
      · rename_i d hd
        obtain ⟨l, g, o⟩ := freezeBy_get e
        refine ⟨by rw [l]; simp, fun i s' h => ?_, fun i s h1 h2 => ?_⟩
        · rcases g i s' h with ⟨h1, h2⟩ | ⟨h1, h2, h3, h4⟩
          · rcases get_set h1 with ⟨e1, z⟩ | ⟨ne, z⟩
            · subst e1
              cases z
              exact .inr ⟨rfl, hd, List.mem_cons_self, c⟩
            · refine .inl ⟨z, fun q k' hk ho => ?_⟩
              rcases List.mem_cons.mp hk with w | w
              · cases w; exact Ne.symm ne
              · exact h2 q k' w ho
          · rcases get_set h2 with ⟨e1, z⟩ | ⟨ne, z⟩
            · cases z
            · exact .inr ⟨h1, z, List.mem_cons_of_mem _ h3, h4⟩
        · have ne : i ≠ k := fun e1 => by
            subst e1
            rw [hd] at h1; cases h1; rcases h2 with h2 | h2 <;> cases h2
          exact o i s (by rw [List.getElem?_set_ne (Ne.symm ne)]; exact h1) h2
      · rename_i d hd
        obtain ⟨l, g, o⟩ := freezeBy_get e
        refine ⟨l, fun i s' h => ?_, o⟩
        rcases g i s' h with ⟨h1, h2⟩ | ⟨h1, h2, h3, h4⟩
        · refine .inl ⟨h1, fun q k' hk ho => ?_⟩
          rcases List.mem_cons.mp hk with w | w
          · cases w
            intro e1
            subst e1
            rw [hd] at h1; cases h1; cases q
          · exact h2 q k' w ho
        · exact .inr ⟨h1, h2, List.mem_cons_of_mem _ h3, h4⟩
      · cases e
mutual
theorem flat_rp {p : Addr → Prop} (hp : ∀ a, p a → ∃ ws, Hb a = some (.lst ws)) (hb : ∀ a, ¬ p a → Hb2 a = Hb a) : ∀ {v : V} {d : D}, Rp K Hb v d → flatD d = true → Rp K Hb2 v d
  | _, _, .non, _ => .non
  | _, _, .bl b, _ => .bl b
  | _, _, .int i, _ => .int i
  | _, _, .str x, _ => .str x
  | _, _, .lst _ _, f => by simp [flatD] at f
  | _, _, .dct _ _, f => by simp [flatD] at f
  | _, _, .tup (a := a) sq r, f => by
    simp only [flatD] at f
    refine .tup ?_ (flat_rpAll hp hb r f)
    rcases sq with (h | ⟨o, h⟩) | h
    · refine .inl (.inl ?_)
      rw [hb a fun z => by
        obtain ⟨ws, q⟩ := hp a z
        rw [h] at q; cases q]
      exact h
    · refine .inl (.inr ⟨o, ?_⟩)
      rw [hb a fun z => by
        obtain ⟨ws, q⟩ := hp a z
        rw [h] at q; cases q]
      exact h
    · exact .inr h
theorem flat_rpAll {p : Addr → Prop} (hp : ∀ a, p a → ∃ ws, Hb a = some (.lst ws)) (hb : ∀ a, ¬ p a → Hb2 a = Hb a) : ∀ {vs : List V} {ds : List D}, RpAll K Hb vs ds → flatAll ds = true → RpAll K Hb2 vs ds
  | _, _, .nil, _ => .nil
  | _, _, .cons a b, f => by
    simp only [flatAll, Bool.and_eq_true] at f
    exact .cons (flat_rp hp hb a f.1) (flat_rpAll hp hb b f.2)
end
open Classical in
/-- what is frozen behind a call that keeps nothing: all but the lists that were shown -/
noncomputable def lent (σ : L2.St) (ρ : R) (rs : List Res) (oj : Option Nat) (Hb : Hp) : Hp := fun a => if ByV σ ρ rs oj a then none else Hb a
/-- the call: what the callee promises, from what the caller's function tells -/
theorem call_run {F : Fn} {n : Nat} {Q : VK} {H0 : Hp} (Rr : Rel K Hb H σ ρ) (rr : RepA K Hb σ vs rs) (hl : vs.length = n) (t : ∀ a, H0 a ≠ none → H a ≠ none)
    (S : Sat K mg E σ Hb H ρ (callF F io rs) fun r σ' ρ' Hb' H' => σ' = σ → ∀ v, RepR K Hb' H' σ ρ' H0 v r → Q v H') : spF K mg n io F vs H Q (fun c d H => E c d σ H) := by
  obtain ⟨out, ρ', e, h1, h2⟩ := S
  unfold callF at e
  split at e
  · rename_i oj ds hio hlk
    obtain ⟨Hb1, b1, b2, b3, b4, AR, ioA, ioS⟩ := call_prep Rr rr hio hlk
    refine ⟨hl, Hb1, ds, b2, AR, ?_⟩
    -- the state behind, frozen
    have frz : ∀ {y : D} {ρ2 : R} {Hb' H' : Hp}, freezeBy oj rs (putIo oj y ρ) = some ρ2 → GoF io vs Hb1 H Hb' H' → IoR K Hb' H' io vs y → Go σ ρ Hb H σ ρ2 Hb' H' ∧ Rel K Hb' H' σ ρ2 := by
      intro y ρ2 Hb' H' ef gf ior
      obtain ⟨fl, fg, fo⟩ := freezeBy_get ef
      refine call_state (rs := rs) (oj := oj) (y := y) Rr (b1.trans gf.b) gf.e (fun a o h n => gf.k a o h fun z => n ((ioA a).mp z)) gf.t (fun a q1 q2 => ?_) ioS (fun j a hj hv => ?_) (by rw [fl, putIo_len]) (fun i s' q => ?_) (fun i s q1 q2 => ?_) (fun i s q1 q2 => ?_)
      · by_cases c : Hb1 a = none
        · exact .inl (gf.f a c q2)
        · exact .inr (b3 a q1 c)
      · obtain ⟨i, c1, c2⟩ := (ioA a).mpr ⟨j, hj, hv⟩
        exact ior i a c1 c2
      · rcases fg i s' q with ⟨g1, g2⟩ | ⟨g1, g2, g3, g4⟩
        · cases qo : s'.m.isOwn with
          | true =>
            refine .inl ⟨rfl, g1, fun a bv hn hv => ?_⟩
            obtain ⟨k, s, k1, k2, k3, k4, k5⟩ := bv
            have : ∃ s0, ρ[i]? = some (some s0) ∧ s0.m.isOwn = true := by
              rcases putIo_get g1 with ⟨_, z⟩ | ⟨_, s0, z, e0⟩
              · exact ⟨s', z, qo⟩
              · subst e0; exact ⟨s0, z, qo⟩
            obtain ⟨s0, z1, z2⟩ := this
            exact g2 qo k k1 k2 (Rr.inj k i s s0 a k3 z1 k4 z2 k5 hv)
          | false =>
            refine .inr ⟨rfl, ?_⟩
            rcases putIo_get g1 with ⟨_, z⟩ | ⟨ej, s0, z, e0⟩
            · exact ⟨s', z, rfl, fun w => by rw [qo] at w; cases w⟩
            · subst e0
              obtain ⟨s1, w1, w2⟩ := ioS i ej
              rw [z] at w1
              cases w1
              have qo : s0.m.isOwn = false := qo
              rw [mayGive_own w2] at qo; cases qo
        · refine .inr ⟨by rw [g1]; rfl, ?_⟩
          rcases putIo_get g2 with ⟨_, z⟩ | ⟨ej, _⟩
          · refine ⟨_, z, rfl, fun _ => ?_⟩
            obtain ⟨a, ws, xs, w1, w2, w3, w4, w5⟩ := Rr.own i _ z rfl
            refine ⟨a, ws, xs, w1, w2, gf.b a _ ?_, (w5.mono b1).mono gf.b⟩
            rw [b4 a ⟨i, _, g3, g4, z, rfl, w1⟩]
            exact w4
          · exact absurd ej g4
      · obtain ⟨s', w1, w2⟩ := putIo_of (oj := oj) (y := y) q1
        exact ⟨s', fo i s' w1 (.inl (by rw [w2]; exact q2)), by rw [w2]; exact q2⟩
      · exact fo i s (putIo_lk ioS q1 q2) (.inr q2)
    -- the state behind, nothing kept
    have lst1 : ∀ {Hb' H' : Hp}, GoF io vs Hb1 H Hb' H' → ∀ a, ByV σ ρ rs oj a → ∃ ws, Hb' a = some (.lst ws) := fun {Hb' H'} gf a bv => by
      obtain ⟨k, s, k1, k2, k3, k4, k5⟩ := bv
      obtain ⟨a', ws, xs, w1, w2, w3, w4, w5⟩ := Rr.own k s k3 k4
      rw [k5] at w1
      cases w1
      exact ⟨ws, gf.b a _ (by rw [b4 a ⟨k, s, k1, k2, k3, k4, k5⟩]; exact w4)⟩
    have lent1 : ∀ (Hb' : Hp) (a : Addr), ¬ ByV σ ρ rs oj a → lent σ ρ rs oj Hb' a = Hb' a := fun Hb' a h => if_neg h
    have lent0 : ∀ (Hb' : Hp) (a : Addr), ByV σ ρ rs oj a → lent σ ρ rs oj Hb' a = none := fun Hb' a h => if_pos h
    have lentS : ∀ (Hb' : Hp) (a : Addr) (o : HO), lent σ ρ rs oj Hb' a = some o → Hb' a = some o ∧ ¬ ByV σ ρ rs oj a := fun Hb' a o h => by
      by_cases c : ByV σ ρ rs oj a
      · rw [lent0 Hb' a c] at h; cases h
      · rw [lent1 Hb' a c] at h; exact ⟨h, c⟩
    have bor : ∀ {y : D} {Hb' H' : Hp}, flatY y = true → GoF io vs Hb1 H Hb' H' → IoR K Hb' H' io vs y → Go σ ρ Hb H σ (putIo oj y ρ) (lent σ ρ rs oj Hb') H' ∧ Rel K (lent σ ρ rs oj Hb') H' σ (putIo oj y ρ) := by
      intro y Hb' H' fy gf ior
      have bvOwn : ∀ a, ByV σ ρ rs oj a → Hb a = none := fun a ⟨k, s, k1, k2, k3, k4, k5⟩ => (Rr.owned ⟨k, s, k3, k4, k5⟩).1
      refine call_state (rs := rs) (oj := oj) (y := y) Rr (fun a o h => ?_) (fun a o h => gf.e a o (lentS Hb' a o h).1) (fun a o h n => gf.k a o h fun z => n ((ioA a).mp z)) gf.t (fun a q1 q2 => ?_) ioS (fun j a hj hv => ?_) putIo_len (fun i s' q => ?_) (fun i s q1 q2 => ?_) (fun i s q1 q2 => ?_)
      · rw [lent1 Hb' a fun z => by rw [bvOwn a z] at h; cases h]
        exact gf.b a o (b1 a o h)
      · by_cases c : Hb1 a = none
        · refine .inl (gf.f a c fun z => ?_)
          by_cases bv : ByV σ ρ rs oj a
          · exact q2 (lent0 Hb' a bv)
          · exact q2 (by rw [lent1 Hb' a bv]; exact z)
        · exact .inr (b3 a q1 c)
      · obtain ⟨i, c1, c2⟩ := (ioA a).mpr ⟨j, hj, hv⟩
        obtain ⟨z1, ws, xs, z2, z3, z4⟩ := ior i a c1 c2
        refine ⟨?_, ws, xs, z2, z3, flat_rpAll (lst1 gf) (lent1 Hb') z4 (by rw [z2] at fy; exact fy)⟩
        by_cases bv : ByV σ ρ rs oj a
        · exact lent0 Hb' a bv
        · rw [lent1 Hb' a bv]; exact z1
      · cases qo : s'.m.isOwn with
        | true =>
          refine .inl ⟨rfl, q, fun a bv hn => absurd (lent0 Hb' a bv) hn⟩
        | false =>
          refine .inr ⟨rfl, ?_⟩
          rcases putIo_get q with ⟨_, z⟩ | ⟨ej, s0, z, e0⟩
          · exact ⟨s', z, rfl, fun w => by rw [qo] at w; cases w⟩
          · subst e0
            obtain ⟨s1, w1, w2⟩ := ioS i ej
            rw [z] at w1
            cases w1
            have qo : s0.m.isOwn = false := qo
            rw [mayGive_own w2] at qo; cases qo
      · obtain ⟨s', w1, w2⟩ := putIo_of (oj := oj) (y := y) q1
        exact ⟨s', w1, by rw [w2]; exact q2⟩
      · exact putIo_lk ioS q1 q2
    split at e
    · rename_i d y hF
      refine ⟨_, y, hF, fun r q v Hb' H' gf ior rep => ?_, fun x q => by cases q⟩
      cases q
      split at e
      · rename_i c
        rw [Bool.and_eq_true] at c
        cases e
        obtain ⟨g, R'⟩ := bor c.2 gf ior
        exact h1 _ rfl σ _ _ g R' rfl v (flat_rp (lst1 gf) (lent1 Hb') rep c.1)
      · split at e
        · rename_i ρ2 ef
          cases e
          obtain ⟨g, R'⟩ := frz ef gf ior
          exact h1 _ rfl σ _ _ g R' rfl v rep
        · cases e
    · rename_i xs y hF
      refine ⟨_, y, hF, fun r q v Hb' H' gf ior rep => ?_, fun x q => by cases q⟩
      cases q
      obtain ⟨a, ws, q1, q2, q3, q4, q5⟩ := rep
      have notOwn : ∀ {ρ2 : R}, (∀ (i : Nat) (s' : Slot), ρ2[i]? = some (some s') → s'.m.isOwn = true → (putIo oj y ρ)[i]? = some (some s')) → ¬ Own σ ρ2 a := fun {ρ2} get ⟨i, s', z1, z2, z3⟩ => by
        rcases putIo_get (get i s' z1 z2) with ⟨_, z4⟩ | ⟨_, s0, z4, e0⟩
        · obtain ⟨_, us, w⟩ := Rr.owned ⟨i, s', z4, z2, z3⟩
          rw [q5] at w; cases w
        · subst e0
          obtain ⟨_, us, w⟩ := Rr.owned ⟨i, s0, z4, z2, z3⟩
          rw [q5] at w; cases w
      split at e
      · rename_i c
        rw [Bool.and_eq_true] at c
        cases e
        obtain ⟨g, R'⟩ := bor c.2 gf ior
        have q2' : lent σ ρ rs oj Hb' a = none := by
          by_cases bv : ByV σ ρ rs oj a
          · exact lent0 Hb' a bv
          · rw [lent1 Hb' a bv]; exact q2
        exact h1 _ rfl σ _ _ g R' rfl v ⟨a, ws, q1, q2', q3, flat_rpAll (lst1 gf) (lent1 Hb') q4 c.1, Classical.byContradiction fun z => t a z q5, notOwn fun i s' z _ => z⟩
      · split at e
        · rename_i ρ2 ef
          cases e
          obtain ⟨g, R'⟩ := frz ef gf ior
          obtain ⟨fl, fg, fo⟩ := freezeBy_get ef
          refine h1 _ rfl σ _ _ g R' rfl v ⟨a, ws, q1, q2, q3, q4, Classical.byContradiction fun z => t a z q5, notOwn fun i s' z ho => ?_⟩
          rcases fg i s' z with ⟨g1, _⟩ | ⟨g1, _⟩
          · exact g1
          · rw [g1] at ho; cases ho
        · cases e
    · rename_i x y hF
      refine ⟨_, y, hF, fun r q => (by cases q), fun x' q c d Hb' H' gf ior xr => ?_⟩
      cases q
      split at e
      · rename_i ρ2 ef
        cases e
        obtain ⟨g, R'⟩ := frz ef gf ior
        exact h2 _ rfl σ c d _ _ g R' xr
      · cases e
    · cases e
  · cases e
end

/-! ### how arguments come to parameters -/
def gath {α : Type} (ix : List Nat) (xs : List α) : List α := ix.filterMap fun i => xs[i]?
theorem gath_rep {K : PySem.W.Frag} {Hb : Hp} {σ : L2.St} {vs : List V} {rs : List Res} (h : RepA K Hb σ vs rs) : ∀ ix : List Nat, RepA K Hb σ (gath ix vs) (gath ix rs)
  | [] => .nil
  | i :: ix => by
    unfold gath
    rw [List.filterMap_cons, List.filterMap_cons]
    cases q : rs[i]? with
    | none =>
      have : vs[i]? = none := by
        rw [List.getElem?_eq_none_iff] at q ⊢
        rw [h.length]; exact q
      rw [this]
      exact gath_rep h ix
    | some r =>
      obtain ⟨v, e1, e2⟩ := repA_get h q
      rw [e1]
      exact e2.append (gath_rep h ix)
theorem gath_vals {vs : List V} {us : List Value} (h : Vals vs us) : ∀ ix : List Nat, Vals (gath ix vs) (gath ix us)
  | [] => .nil
  | i :: ix => by
    unfold gath
    rw [List.filterMap_cons, List.filterMap_cons]
    cases q : vs[i]? with
    | none =>
      rw [h.none_of q]
      exact gath_vals h ix
    | some r =>
      obtain ⟨v, e1, e2⟩ := h.get q
      rw [e1]
      exact .cons e2 (gath_vals h ix)
/-- n positional arguments, keywords ks, then the defaults' values; ix: where each parameter's value stands in that row -/
structure BindsX (K : PySem.W.Frag) (fd : FuncData) (ps : List Str) (n : Nat) (ks : List Str) (dvs : List V) (ds : List Value) (ix : List Nat) : Prop where
  to : ∀ (s : Shared) (us ws : List Value), K.In s.heap → us.length = n → ws.length = ks.length → BindsTo s fd ⟨us, ks.zip ws⟩ (ps.zip (gath ix (us ++ ws ++ ds)))
  vals : Vals dvs ds
section
variable {X : Cx} {CX : CXT} {k n : Nat} {f : Addr} {fd : FuncData} {ps ks : List Str} {sp : Sp} {dvs : List V} {dvals : List Value} {ix : List Nat} {E : WX} {x : Str} {p pos : Pos} {e : Expr} {es : List Expr} {kws : List Keyword} {t tk : TA}
def tCallX (sp : Sp) (n m : Nat) (dvs : List V) (ix : List Nat) (E : WX) (t tk : TA) : TE := fun σ H Q => t σ H fun vs H1 => tk σ H1 fun zs H2 => vs.length = n ∧ zs.length = m ∧ sp (gath ix (vs ++ zs ++ dvs)) H2 Q (fun c d H => E c d σ H)
theorem run_fnX {pins : List (Addr × Obj)} {σ : L2.St} {H : Hp} {s : Shared} {Q : VK} {us ws : List Value} {vs zs : List V} (F : FnG X.prog X.w X.K X.mg X.base CX k f fd ps sp) (hr : Room k X.A) (hgd : X.A.guards = some []) (hb : BindsX X.K fd ps n ks dvs dvals ix) (hx : PassesAt CX X σ (fun c d H => E c d σ H))
    (I : L2.Inv X pins σ H s) (r : Vals vs us) (rz : Vals zs ws) (l1 : vs.length = n) (l2 : zs.length = ks.length) (h : sp (gath ix (vs ++ zs ++ dvs)) H Q (fun c d H => E c d σ H)) : wpAny (model X.prog X.w) X.A (call (.ref f) us (ks.zip ws)) (EP X pins σ Q) X.xe s := by
  have r2 := gath_vals ((r.append rz).append hb.vals) ix
  refine wpAny_call (codeAny_mono (F.run X.A X.stack s H ⟨us, ks.zip ws⟩ _ _ Q _ hr hgd I.env0 (hb.to s us ws I.kIn (r.length.symm.trans l1) (rz.length.symm.trans l2)) r2 h) fun r s' hq => ?_)
  cases r with
  | error e => exact hx pins H s e s' I hq
  | ok fl =>
    cases fl with
    | ret u => exact I.after hq
    | next => exact hq.elim
    | brk => exact hq.elim
    | cont => exact hq.elim
/-- f(a, ..) -/
theorem pe_callX (F : FnG X.prog X.w X.K X.mg X.base CX k f fd ps sp) (hr : Room k X.A) (hgd : X.A.guards = some []) (hg : Gl X x) (hm : X.mg x = some (.ref f)) (hk : PySem.W.keepIn X.K (.ref f) = true) (hb : BindsX X.K fd ps n [] dvs dvals ix) (hx : ∀ σ, PassesAt CX X σ (fun c d H => E c d σ H))
    (ha : PA X (e :: es) t) (hdb : (x == ("__debug__" : Str)) = false := by decide) (he : starEach (e :: es) X.env = (false, eval e X.env) :: starEach es X.env := by rfl) (hpl : (backTo pos (starEach es X.env)).any (·.1) = false := by rfl) :
    PE X (.Call (.Name x p) (e :: es) [] pos) (tCallX sp n 0 dvs ix E t tNil) := by
  refine ⟨fun pins s σ H Q I h => ?_⟩
  refine wpAny_Call_Name_kw (ld_glob I hg hm ?_ hdb)
  refine PySem.W.callWith_K (h₀ := X.base) I.ok.mod.kin hk (thn (ha.run pos pins s σ H _ I h) fun us s1 ⟨vs, H1, I1, r, q⟩ => ⟨I1.kIn, ?_⟩) he hpl
  obtain ⟨q1, _, q2⟩ := q
  exact run_fnX (ws := []) (zs := []) F hr hgd hb (hx σ) I1 r .nil q1 rfl q2
/-- f() -/
theorem pe_callX0 (F : FnG X.prog X.w X.K X.mg X.base CX k f fd ps sp) (hr : Room k X.A) (hgd : X.A.guards = some []) (hg : Gl X x) (hm : X.mg x = some (.ref f)) (hk : PySem.W.keepIn X.K (.ref f) = true) (hb : BindsX X.K fd ps n [] dvs dvals ix) (hx : ∀ σ, PassesAt CX X σ (fun c d H => E c d σ H))
    (hdb : (x == ("__debug__" : Str)) = false := by decide) : PE X (.Call (.Name x p) [] [] pos) (tCallX sp n 0 dvs ix E tNil tNil) := by
  refine ⟨fun pins s σ H Q I h => ?_⟩
  refine wpAny_Call_Name_kw (ld_glob I hg hm ?_ hdb)
  obtain ⟨q1, _, q2⟩ := h
  exact PySem.W.callWith_K0 I.kIn hk (run_fnX (us := []) (ws := []) (vs := []) (zs := []) F hr hgd hb (hx σ) I .nil .nil q1 rfl q2)
/-- f(a, .., k = b, ..) -/
theorem pe_callXK (F : FnG X.prog X.w X.K X.mg X.base CX k f fd ps sp) (hr : Room k X.A) (hgd : X.A.guards = some []) (hg : Gl X x) (hm : X.mg x = some (.ref f)) (hk : PySem.W.keepIn X.K (.ref f) = true) (hb : BindsX X.K fd ps n ks dvs dvals ix) (hx : ∀ σ, PassesAt CX X σ (fun c d H => E c d σ H))
    (ha : PA X (e :: es) t) (hkw : PK X kws tk) (hall : (backToKw pos (keywordEach kws X.env)).all (·.1.isSome) = true := by rfl) (hks : (backToKw pos (keywordEach kws X.env)).filterMap (·.1) = ks := by rfl)
    (hdb : (x == ("__debug__" : Str)) = false := by decide) (he : starEach (e :: es) X.env = (false, eval e X.env) :: starEach es X.env := by rfl)
    (hpl : ((backTo pos (starEach (e :: es) X.env)).any (·.1) || (backToKw pos (keywordEach kws X.env)).any (·.1.isNone)) = false := by rfl) :
    PE X (.Call (.Name x p) (e :: es) kws pos) (tCallX sp n ks.length dvs ix E t tk) := by
  refine ⟨fun pins s σ H Q I h => ?_⟩
  refine wpAny_Call_Name_kw (ld_glob I hg hm ?_ hdb)
  refine PySem.W.callWith_KW (h₀ := X.base) I.ok.mod.kin hk hall (thn (ha.run pos pins s σ H _ I h) fun us s1 ⟨vs, H1, I1, r, q⟩ => ?_) hpl he
  refine thn (hkw.run pos pins s1 σ H1 _ I1 q) fun ws s2 ⟨zs, H2, I2, rz, l1, l2, q2⟩ => ⟨I2.kIn, ?_⟩
  rw [hks]
  exact run_fnX F hr hgd hb (hx σ) I2 r rz l1 l2 q2
/-- f(k = b, ..) -/
theorem pe_callXK0 (F : FnG X.prog X.w X.K X.mg X.base CX k f fd ps sp) (hr : Room k X.A) (hgd : X.A.guards = some []) (hg : Gl X x) (hm : X.mg x = some (.ref f)) (hk : PySem.W.keepIn X.K (.ref f) = true) (hb : BindsX X.K fd ps n ks dvs dvals ix) (hx : ∀ σ, PassesAt CX X σ (fun c d H => E c d σ H))
    (hkw : PK X kws tk) (hall : (backToKw pos (keywordEach kws X.env)).all (·.1.isSome) = true := by rfl) (hks : (backToKw pos (keywordEach kws X.env)).filterMap (·.1) = ks := by rfl)
    (hdb : (x == ("__debug__" : Str)) = false := by decide)
    (hpl : ((backTo pos (starEach [] X.env)).any (·.1) || (backToKw pos (keywordEach kws X.env)).any (·.1.isNone)) = false := by rfl) :
    PE X (.Call (.Name x p) [] kws pos) (tCallX sp n ks.length dvs ix E tNil tk) := by
  refine ⟨fun pins s σ H Q I h => ?_⟩
  refine wpAny_Call_Name_kw (ld_glob I hg hm ?_ hdb)
  refine PySem.W.callWith_KW0 (h₀ := X.base) I.ok.mod.kin hk hall ?_ hpl
  refine thn (hkw.run pos pins s σ H _ I h) fun ws s2 ⟨zs, H2, I2, rz, l1, l2, q2⟩ => ⟨I2.kIn, ?_⟩
  rw [hks]
  exact run_fnX (us := []) (vs := []) F hr hgd hb (hx σ) I2 .nil rz l1 l2 q2
end
/-- the defaults as results -/
def mCallX (F : Fn) (io : Option Nat) (n m : Nat) (dds : List D) (ix : List Nat) (as ks : M (List Res)) : M Res := bnd as fun rs => bnd ks fun qs => if rs.length = n ∧ qs.length = m then callF F io (gath ix (rs ++ qs ++ dds.map .val)) else stuck
theorem callX_read {K : PySem.W.Frag} {mg : Str → Option Value} {E : WX} {σ : L2.St} {H : Hp} {Q : VK} {F : Fn} {io : Option Nat} {n m p : Nat} {dds : List D} {dvs : List V} {ix : List Nat} {as ks : M (List Res)} (hd : ∀ Hb σ, RepA K Hb σ dvs (dds.map .val)) (hix : ∀ (rs : List Res), rs.length = n + m + dds.length → (gath ix rs).length = p)
    (w : tE K mg E (mCallX F io n m dds ix as ks) σ H Q) : tCallX (spF K mg p io F) n m dvs ix E (tA K mg E as) (tA K mg E ks) σ H Q := by
  obtain ⟨Hb, ρ, R, S⟩ := w
  refine tA_mono (e_args R S) fun vs H1 ⟨Hb1, ρ1, rs, R1, rr, g1, S1⟩ => ?_
  refine tA_mono (e_args R1 S1) fun zs H2 ⟨Hb2, ρ2, qs, R2, rq, g2, S2⟩ => ?_
  by_cases c : rs.length = n ∧ qs.length = m
  · rw [if_pos c] at S2
    refine ⟨rr.length.trans c.1, rq.length.trans c.2, ?_⟩
    have rp := gath_rep (((rr.mono g2.b).append rq).append (hd Hb2 σ)) ix
    refine call_run R2 rp ?_ (g1.trans g2).t (S2.mono fun b σ' ρ' Hb' H' g3 R3 q => q (g2.trans g3) (g1.trans (g2.trans g3)))
    rw [rp.length]
    exact hix _ (by simp [c.1, c.2]; omega)
  · rw [if_neg c] at S2
    obtain ⟨_, _, e, _⟩ := S2
    cases e
section
variable {X : Cx} {E : WX} {e : Expr} {kws : List Keyword} {nm : Option Str} {kpos : Pos} {m : M Res} {mr : M (List Res)}
theorem mk_nil : PK X [] (tA X.K X.mg E aNil) := ⟨fun pos pins s σ H Q I w => pk_nil.run pos pins s σ H Q I (by
  obtain ⟨Hb, ρ, R, S⟩ := w
  exact S.ret R rfl [] .nil)⟩
theorem mk_cons (he : PE X e (tE X.K X.mg E m)) (hr : PK X kws (tA X.K X.mg E mr)) : PK X (⟨nm, e, kpos⟩ :: kws) (tA X.K X.mg E (aT m mr)) := ⟨fun pos pins s σ H Q I w => (pk_cons he hr).run pos pins s σ H Q I (by
  obtain ⟨Hb, ρ, R, S⟩ := w
  refine tE_mono (e_thaw R S) fun v H1 ⟨Hb1, ρ1, x, R1, rx, g1, S1⟩ => ?_
  refine tA_mono (e_args R1 S1) fun vs H2 ⟨Hb2, ρ2, rs, R2, rr, g2, S2⟩ => ?_
  exact S2.ret R2 g2 (g1.trans g2) rfl _ ((rx.mono g2.b).append rr))⟩
end
/-- what a caller knows of a def -/
structure Knows (P : Program) (w : World) (K : PySem.W.Frag) (mg : Str → Option Value) (base : Heap) (k : Nat) (x : Str) (p : Nat) (io : Option Nat) (F : Fn) : Prop where
  it : ∃ (f : Addr) (fd : FuncData) (ps : List Str), FnG P w K mg base (L2.CX P w) k f fd ps (spF K mg p io F) ∧ mg x = some (.ref f) ∧ PySem.W.keepIn K (.ref f) = true
end Mi

/-! Mi: loops. -/
namespace Mi
open PySem L2 Evl PySem.Spec

/-! ### while -/
def mWhile (c : M Bool) (b : M Fl) : Nat → M Fl
  | 0 => stuck
  | n + 1 => bnd c fun t => if t then bnd b fun fl => match fl with
      | .nx => mWhile c b n
      | .ct => mWhile c b n
      | .bk => ret .nx
      | .rt r => ret (.rt r)
    else ret .nx
section
variable {K : PySem.W.Frag} {mg : Str → Option Value} {E : WX}
/-- how a run ends, told from a state before -/
structure Fin (K : PySem.W.Frag) (mg : Str → Option Value) (E : WX) (De : Ends) (σ : L2.St) (Hb H : Hp) (ρ : R) (out : Out Fl) (ρ2 : R) : Prop where
  ok : ∀ fl, out = .ok fl → ∀ σ' Hb' H', Go σ ρ Hb H σ' ρ2 Hb' H' → Rel K Hb' H' σ' ρ2 → FlP K De H fl σ' ρ2 Hb' H'
  exc : ∀ e, out = .exc e → ∀ σ' c d Hb' H', Go σ ρ Hb H σ' ρ2 Hb' H' → Rel K Hb' H' σ' ρ2 → ExcR K mg Hb' H' c d e → E c d σ' H'
theorem while_read {c : M Bool} {b : M Fl} {n : Nat} {De : Ends} {σ : L2.St} {H : Hp} (w : tS K mg E (mWhile c b n) De σ H) : tWhile (tT K mg E c) (tS K mg E b) De σ H := by
  obtain ⟨Hb, ρ, R, out, ρ2, e, h1, h2⟩ := w
  refine ⟨fun m σ' H' => ∃ Hb' ρ', Rel K Hb' H' σ' ρ' ∧ Go σ ρ Hb H σ' ρ' Hb' H' ∧ mWhile c b m ρ' = some (out, ρ2), ⟨n, Hb, ρ, R, Go.refl, e⟩, ?_⟩
  rintro m σ' H' ⟨Hb', ρ', R', g', e'⟩
  cases m with
  | zero => cases e'
  | succ k =>
    unfold mWhile bnd at e'
    refine ⟨Hb', ρ', R', ?_⟩
    split at e'
    · rename_i t ρ1 e1
      refine ⟨_, _, e1, fun t' q σ1 Hb1 H1 g1 R1 es => ?_, fun x q => (by cases q)⟩
      cases q
      subst es
      dsimp only at e'
      cases t with
      | false =>
        rw [if_neg Bool.false_ne_true] at e' ⊢
        cases e'
        exact h1 .nx rfl _ _ _ (g'.trans g1) R1
      | true =>
        rw [if_pos rfl] at e' ⊢
        refine ⟨fun σ3 H3 => ∃ Hb3 ρ3, Rel K Hb3 H3 σ3 ρ3 ∧ Go σ ρ Hb H σ3 ρ3 Hb3 H3 ∧ mWhile c b k ρ3 = some (out, ρ2), fun σ3 H3 q => ⟨k, Nat.lt_succ_self k, q⟩, Hb1, ρ1, R1, ?_⟩
        split at e'
        · rename_i fl ρ3 e3
          refine ⟨_, _, e3, fun fl' q σ4 Hb4 H4 g4 R4 => ?_, fun x q => (by cases q)⟩
          cases q
          have gg := g'.trans (g1.trans g4)
          cases fl with
          | nx => exact ⟨Hb4, ρ3, R4, gg, e'⟩
          | ct => exact ⟨Hb4, ρ3, R4, gg, e'⟩
          | bk =>
            cases e'
            exact h1 .nx rfl _ _ _ gg R4
          | rt r =>
            cases e'
            exact fun v rep => h1 (.rt r) rfl _ _ _ gg R4 v (rep.from' (g'.trans g1).t)
        · rename_i x ρ3 e3
          cases e'
          refine ⟨_, _, e3, fun fl' q => (by cases q), fun x' q σ4 cc dd Hb4 H4 g4 R4 xr => ?_⟩
          cases q
          exact h2 _ rfl σ4 cc dd Hb4 H4 (g'.trans (g1.trans g4)) R4 xr
        · cases e'
    · rename_i x ρ1 e1
      cases e'
      refine ⟨_, _, e1, fun fl' q => (by cases q), fun x' q σ4 cc dd Hb4 H4 g4 R4 xr => ?_⟩
      cases q
      exact h2 _ rfl σ4 cc dd Hb4 H4 (g'.trans g4) R4 xr
    · cases e'
end
theorem ms_while {X : Cx} {E : WX} {c : Expr} {body : List Stmt} {pos : Pos} {mc : M Bool} {mb : M Fl} (n : Nat) (hp : PassesOwn (model X.prog X.w) X.A X.env X.xe) (hc : PT X c (tT X.K X.mg E mc)) (hb : PSs X body (tS X.K X.mg E mb)) :
    PS X (.While c body [] pos) (tS X.K X.mg E (mWhile mc mb n)) := (ps_while hp hc hb).imp fun _ _ _ w => while_read w

/-! ### targets -/
section
variable (K : PySem.W.Frag) (mg : Str → Option Value) (E : WX)
def tGt (W : L2.St → L2.St → Prop) (g : D → M Unit) : TG := fun v σ H Q => ∃ Hb ρ d, Rel K Hb H σ ρ ∧ Rp K Hb v d ∧ Sat K mg E σ Hb H ρ (g d) fun _ σ' _ _ H' => W σ σ' → Q σ' H'
def tGts (W : L2.St → L2.St → Prop) (g : List D → M Unit) : TGs := fun vs σ H Q => ∃ Hb ρ ds, Rel K Hb H σ ρ ∧ RpAll K Hb vs ds ∧ Sat K mg E σ Hb H ρ (g ds) fun _ σ' _ _ H' => W σ σ' → Q σ' H'
end
def gN (i : Nat) : D → M Unit := fun d => mStore i (.val d)
def gT (n : Nat) (g : List D → M Unit) : D → M Unit := fun d => match d with
  | .tuple ds => if ds.length = n then g ds else stuck
  | _ => stuck
def gsNil : List D → M Unit := fun ds => match ds with
  | [] => ret ()
  | _ => stuck
def gsCons (g : D → M Unit) (r : List D → M Unit) : List D → M Unit := fun ds => match ds with
  | d :: ds => bnd (g d) fun _ => r ds
  | _ => stuck
def gIx (i : Nat) (mk : M Res) : D → M Unit := fun d => fun ρ => if ownAt ρ i then bnd (thaw mk) (fun k => setIx i k d) ρ else none
section
variable {X : Cx} {E : WX} {pos : Pos} {W : L2.St → L2.St → Prop}
theorem mg_name {i : Nat} {x : Str} (hW : ∀ σ v, W σ (σ.set i (some v))) (hN : X.N.Nodup) (hi : X.N[i]? = some x) (hx : Loc X.env.scope x) (hf : X.fn x = true ∨ X.env.scope.names.lookup x = some .local := by first | exact .inl rfl | exact .inr rfl | assumption) :
    PG X (.Name x pos) (tGt X.K X.mg E W (gN i)) := (pg_name hN hi hx hf).imp fun v σ H Q w => by
  obtain ⟨Hb, ρ, d, R, rp, out, ρ2, e, h1, h2⟩ := w
  obtain ⟨z, Hb2, g2, R2⟩ := store_run (H1 := H) (r := .val d) Go.refl R rp e
  exact h1 _ z _ _ _ g2 R2 (hW _ _)
theorem mg_nil (hW : ∀ σ, W σ σ) : PGs X [] (tGts X.K X.mg E W gsNil) := ⟨fun pins s σ H vs us Q I r w => pgs_nil.run pins s σ H vs us Q I r (by
  obtain ⟨Hb, ρ, ds, R, rp, S⟩ := w
  cases rp with
  | nil => exact ⟨rfl, S.ret R (hW σ)⟩
  | cons _ _ =>
    obtain ⟨_, _, e, _⟩ := S
    cases e)⟩
theorem mg_cons {t : Expr} {ts : List Expr} {g : D → M Unit} {r : List D → M Unit} (hs : (assignEach (t :: ts) X.env).map (·.2) = assign t X.env :: (assignEach ts X.env).map (·.2) := by rfl) (hW : ∀ a b c, W a b → W b c → W a c) (h : PG X t (tGt X.K X.mg E W g)) (hr : PGs X ts (tGts X.K X.mg E W r)) : PGs X (t :: ts) (tGts X.K X.mg E W (gsCons g r)) :=
  ⟨fun pins s σ H vs us Q I rv w => (pgs_cons h hr hs).run pins s σ H vs us Q I rv (by
  obtain ⟨Hb, ρ, ds, R, rp, S⟩ := w
  cases rp with
  | nil =>
    obtain ⟨_, _, e, _⟩ := S
    cases e
  | cons a b =>
    refine ⟨_, _, rfl, Hb, ρ, _, R, a, S.bnd.mono fun _ σ1 ρ1 Hb1 H1 g1 R1 S1 w1 => ?_⟩
    exact ⟨Hb1, ρ1, _, R1, b.mono g1.b, S1.mono fun _ σ2 ρ2 Hb2 H2 g2 R2 q w2 => q (g1.trans g2) (hW _ _ _ w1 w2)⟩)⟩
theorem mg_tup {es : List Expr} {k n : Nat} {g : List D → M Unit} (hc : X.calm = true) (h : PGs X es (tGts X.K X.mg E W g)) (hn : n = es.length)
    (hp : PG X (.Tuple es k pos) (gTup X.K n (tGts X.K X.mg E W g))) : PG X (.Tuple es k pos) (tGt X.K X.mg E W (gT n g)) := hp.imp fun v σ H Q w => by
  obtain ⟨Hb, ρ, d, R, rp, S⟩ := w
  cases rp with
  | @tup a xs ds sq ra =>
    obtain ⟨out, ρ2, e, h1⟩ := S
    have e : (if ds.length = n then g ds else stuck) ρ = some (out, ρ2) := e
    by_cases c : ds.length = n
    · rw [if_pos c] at e
      exact ⟨_, _, rfl, ex_t R.ex sq, ra.length.trans c, Hb, ρ, _, R, ra, out, ρ2, e, h1⟩
    · rw [if_neg c] at e
      cases e
  | _ =>
    obtain ⟨_, _, e, _⟩ := S
    cases e
/-- a list's place as a target -/
theorem mg_ix {i : Nat} {x : Str} {mk : M Res} {k : Expr} {npos : Pos} (hW : ∀ σ, W σ σ) (hg : PG X (.Subscript (.Name x npos) k pos) (gSub (tVar i) (tE X.K X.mg E mk) rSetL)) : PG X (.Subscript (.Name x npos) k pos) (tGt X.K X.mg E W (gIx i mk)) := hg.imp fun v σ H Q w => by
  obtain ⟨Hb, ρ, d, R, rp, out, ρ2, e, h⟩ := w
  unfold gIx at e
  split at e
  · rename_i c
    obtain ⟨a, vs, ea, ha⟩ := own_at R c
    refine ⟨.ref a, ea, ?_⟩
    refine tE_mono (e_thaw R (⟨out, ρ2, e, h⟩ : Sat X.K X.mg E σ Hb H ρ (bnd (thaw mk) fun k => setIx i k d) fun _ σ' _ _ H' => W σ σ' → Q σ' H')) fun w H2 ⟨Hb2, ρ3, kr, R2, rk, g2, S2⟩ => ?_
    obtain ⟨out, ρ', e3, h1, h2⟩ := S2
    obtain ⟨b, n, ws, j, H', q1, q2, q3, q4, q5, q6, q7, q8⟩ := setIx_run R2 rk (rp.mono g2.b) e3
    rw [ea] at q2
    cases q2
    subst q6
    subst q3
    exact ⟨a, ws, n, j, rfl, rfl, q4, q5, h1 _ q1 σ Hb2 _ q7 q8 (g2.trans q7) (hW σ)⟩
  · cases e
def mAsgG (g : D → M Unit) (m : M Res) : M Fl := bnd (mVal m) fun d => bnd (g d) fun _ => ret .nx
theorem ms_asgG {tg e : Expr} {g : D → M Unit} {m : M Res} (he : PE X e (tE X.K X.mg E m)) (hg : PG X tg (tGt X.K X.mg E (fun _ _ => True) g)) (hs : swapsWithSole [tg] e pos.line X.env = pure false := by rfl) (hw : swappedStores [tg] e X.env = pure none := by rfl)
    (h1 : (assignEach [tg] X.env).map (·.2) = [assign tg X.env] := by rfl) : PS X (.Assign [tg] e pos) (tS X.K X.mg E (mAsgG g m)) := (ps_asg he hg hs hw h1).imp fun De σ H w => by
  obtain ⟨Hb, ρ, R, S⟩ := w
  refine tE_mono (e_val R S) fun v H1 ⟨Hb1, ρ1, d, R1, rp, g1, S1⟩ => ?_
  exact ⟨Hb1, ρ1, d, R1, rp, S1.bnd.mono fun _ σ2 ρ2 Hb2 H2 g2 R2 S2 _ => S2.ret R2 g2 (g1.trans g2)⟩
end
/-- a, b = x, y -/
def settle : Res → M Res
  | .slot j => bnd (valR (.slot j)) fun d => ret (.val d)
  | r => ret r
def mSet (m : M Res) : M Res := bnd m settle
def mPar (i j : Nat) (m1 m2 : M Res) : M Fl := bnd (mVal m1) fun d => bnd (mVal m2) fun e => bnd (mStore i (.val d)) fun _ => bnd (mStore j (.val e)) fun _ => ret .nx
theorem par_read {K : PySem.W.Frag} {mg : Str → Option Value} {E : WX} {i j : Nat} {m1 m2 : M Res} {De : Ends} {σ : L2.St} {H : Hp} (w : tS K mg E (mPar i j m1 m2) De σ H) : tPar i j (tCons (tE K mg E m1) (tCons (tE K mg E m2) tNil)) De σ H := by
  obtain ⟨Hb, ρ, R, S⟩ := w
  refine tE_mono (e_val R S) fun v H1 ⟨Hb1, ρ1, d, R1, rp, g1, S1⟩ => ?_
  refine tE_mono (e_val R1 S1) fun u H2 ⟨Hb2, ρ2, e, R2, rq, g2, S2⟩ => ?_
  refine ⟨v, u, rfl, ?_⟩
  obtain ⟨out, ρ5, e5, h1, h2⟩ := S2
  unfold bnd at e5
  split at e5
  · rename_i x ρ3 e3
    obtain ⟨_, Hb3, g3, R3⟩ := store_run (H1 := H2) (r := .val d) Go.refl R2 (rp.mono g2.b) e3
    dsimp only at e5
    split at e5
    · rename_i y ρ4 e4
      obtain ⟨_, Hb4, g4, R4⟩ := store_run (H1 := H2) (r := .val e) Go.refl R3 (rq.mono g3.b) e4
      cases e5
      exact h1 .nx rfl _ _ _ (g3.trans g4) R4 (g2.trans (g3.trans g4)) (g1.trans (g2.trans (g3.trans g4)))
    · rename_i x ρ4 e4
      obtain ⟨z, _⟩ := store_run (H1 := H2) (r := .val e) Go.refl R3 (rq.mono g3.b) e4
      cases z
    · cases e5
  · rename_i x ρ3 e3
    obtain ⟨z, _⟩ := store_run (H1 := H2) (r := .val d) Go.refl R2 (rp.mono g2.b) e3
    cases z
  · cases e5
end Mi

/-! Mi: what is walked; for; comprehensions. -/
namespace Mi
open PySem L2 Evl PySem.Spec

/-- what a loop walks: the items; the slots that are locked meanwhile -/
structure Itd where
  items : List D
  lk : List (Nat × D)
def Held (σ0 : L2.St) (I : Itd) (σ : L2.St) (ρ : R) : Prop := ∀ p ∈ I.lk, σ[p.1]? = σ0[p.1]? ∧ ∃ m, Md.isLk m = true ∧ ρ[p.1]? = some (some ⟨m, p.2⟩)
structure Walks (K : PySem.W.Frag) (J : It) (σ0 : L2.St) (Hb0 : Hp) (I : Itd) : Prop where
  at' : ∀ (σ : L2.St) (ρ : R) (Hb H : Hp), Rel K Hb H σ ρ → Ex Hb0 Hb → Held σ0 I σ ρ →
    (∀ i, i < I.items.length → J.go i H) ∧ J.stop I.items.length H ∧ ∀ i x H', i < I.items.length → J.yld i H x H' → ∃ Hb', New Hb H Hb' H' ∧ ∃ d, I.items[i]? = some d ∧ Rp K Hb' x d
section
variable (K : PySem.W.Frag) (mg : Str → Option Value) (E : WX)
def tI (m : M Itd) : TI := fun σ H Rc => ∃ Hb ρ, Rel K Hb H σ ρ ∧ Sat K mg E σ Hb H ρ m fun I σ' ρ' Hb' H' => σ' = σ → Held σ I σ ρ' → ∀ J, Walks K J σ Hb' I → Rc J H'
end
/-- unlocking -/
def unlock1 (j : Nat) (d : D) : M Unit := fun ρ => match ρ[j]? with
  | some (some ⟨.lock, _⟩) => some (.ok (), ρ.set j (some ⟨.own, d⟩))
  | some (some ⟨.iol, _⟩) => some (.ok (), ρ.set j (some ⟨.io, d⟩))
  | _ => none
def unlock : List (Nat × D) → M Unit
  | [] => ret ()
  | p :: l => bnd (unlock1 p.1 p.2) fun _ => unlock l
def loopF (g : D → M Unit) (b : M Fl) : List D → M Fl
  | [] => ret .nx
  | d :: ds => bnd (g d) fun _ => bnd b fun fl => match fl with
    | .nx => loopF g b ds
    | .ct => loopF g b ds
    | .bk => ret .nx
    | .rt r => ret (.rt r)
def mFor (it : M Itd) (g : D → M Unit) (b : M Fl) : M Fl := bnd it fun I => bnd (loopF g b I.items) fun fl => bnd (unlock I.lk) fun _ => ret fl

section
variable {K : PySem.W.Frag} {mg : Str → Option Value} {E : WX} {σ σ' : L2.St} {Hb H Hb' H' : Hp} {ρ ρ' ρ2 : R}
theorem bnd_some {α β : Type} {m : M α} {f : α → M β} {o : Out β × R} (e : bnd m f ρ = some o) : (∃ a ρ1, m ρ = some (.ok a, ρ1) ∧ f a ρ1 = some o) ∨ ∃ x ρ1, m ρ = some (.exc x, ρ1) ∧ o = (.exc x, ρ1) := by
  unfold bnd at e
  split at e
  · rename_i a ρ1 e1
    exact .inl ⟨a, ρ1, e1, e⟩
  · rename_i x ρ1 e1
    cases e
    exact .inr ⟨x, ρ1, e1, rfl⟩
  · cases e
theorem unlock1_ok {j : Nat} {d : D} {o : Out Unit × R} (hm : ∃ m, Md.isLk m = true ∧ ρ'[j]? = some (some ⟨m, d⟩)) (e : unlock1 j d ρ' = some o) : o.1 = .ok () ∧ o.2.length = ρ'.length ∧
    ∃ m m', Md.isLk m = true ∧ Md.isLk m' = false ∧ Md.isOwn m' = true ∧ (Md.isIo m' = Md.isIo m) ∧ ρ'[j]? = some (some ⟨m, d⟩) ∧ o.2 = ρ'.set j (some ⟨m', d⟩) := by
  obtain ⟨m, hm, hj⟩ := hm
  unfold unlock1 at e
  rw [hj] at e
  cases m <;> first | cases hm | skip
  · cases e
    exact ⟨rfl, by simp, .lock, .own, rfl, rfl, rfl, rfl, hj, rfl⟩
  · cases e
    exact ⟨rfl, by simp, .iol, .io, rfl, rfl, rfl, rfl, hj, rfl⟩
/-- a slot is unlocked: the state goes on from one in which it was not locked -/
theorem unlock1_go {j : Nat} {d : D} {m m' : Md} (g : Go σ ρ Hb H σ' ρ' Hb' H') (R' : Rel K Hb' H' σ' ρ') (h0 : ∀ s, ρ[j]? = some (some s) → s.m.isLk = false) (hm : Md.isLk m = true) (hm' : Md.isOwn m' = true) (hio : Md.isIo m' = Md.isIo m) (hj : ρ'[j]? = some (some ⟨m, d⟩)) :
    Go σ ρ Hb H σ' (ρ'.set j (some ⟨m', d⟩)) Hb' H' ∧ Rel K Hb' H' σ' (ρ'.set j (some ⟨m', d⟩)) := by
  have hjl : j < ρ'.length := (List.getElem?_eq_some_iff.mp hj).1
  have mo : Md.isOwn m = true := by cases m <;> first | rfl | cases hm
  have ownE : ∀ a, Own σ' (ρ'.set j (some ⟨m', d⟩)) a → Own σ' ρ' a := fun a ⟨i, s, q1, q2, q3⟩ => by
    rcases get_set q1 with ⟨e, z⟩ | ⟨_, z⟩
    · subst e
      exact ⟨_, _, hj, mo, q3⟩
    · exact ⟨i, s, z, q2, q3⟩
  refine ⟨⟨g.b, g.k, g.f, g.t, fun a q => g.o a (ownE a q), fun i s q1 q2 => ?_, fun i s q1 q2 => ?_⟩, ⟨by simp [R'.len], R'.ex, fun i s q1 q2 => ?_, fun i s q1 q2 => ?_, fun i k s t a q1 q2 q3 q4 q5 q6 => ?_⟩⟩
  · obtain ⟨e1, s', e2, e3⟩ := g.io i s q1 q2
    refine ⟨e1, ?_⟩
    by_cases e : i = j
    · subst e
      rw [hj] at e2
      cases e2
      exact ⟨_, List.getElem?_set_self hjl, hio.trans e3⟩
    · exact ⟨s', by rw [List.getElem?_set_ne (Ne.symm e)]; exact e2, e3⟩
  · obtain ⟨e1, e2⟩ := g.lk i s q1 q2
    have ne : i ≠ j := fun e => by
      subst e
      rw [h0 s q1] at q2; cases q2
    exact ⟨e1, by rw [List.getElem?_set_ne (Ne.symm ne)]; exact e2⟩
  · rcases get_set q1 with ⟨e, z⟩ | ⟨_, z⟩
    · cases z
      rw [hm'] at q2; cases q2
    · exact R'.val i s z q2
  · rcases get_set q1 with ⟨e, z⟩ | ⟨_, z⟩
    · subst e
      cases z
      have q := R'.own i ⟨m, d⟩ hj mo
      exact q
    · exact R'.own i s z q2
  · have f1 : ∃ s', ρ'[i]? = some (some s') ∧ s'.m.isOwn = true := by
      rcases get_set q1 with ⟨e, z⟩ | ⟨_, z⟩
      · subst e; exact ⟨_, hj, mo⟩
      · exact ⟨s, z, q3⟩
    have f2 : ∃ s', ρ'[k]? = some (some s') ∧ s'.m.isOwn = true := by
      rcases get_set q2 with ⟨e, z⟩ | ⟨_, z⟩
      · subst e; exact ⟨_, hj, mo⟩
      · exact ⟨t, z, q4⟩
    obtain ⟨s1, z1, z2⟩ := f1
    obtain ⟨s2, z3, z4⟩ := f2
    exact R'.inj i k s1 s2 a z1 z3 z2 z4 q5 q6
/-- what is locked was not locked ahead -/
def WasFree (ρ : R) (l : List (Nat × D)) : Prop := ∀ p ∈ l, ∀ s, ρ[p.1]? = some (some s) → s.m.isLk = false
theorem unlock_go : ∀ {l : List (Nat × D)} {ρ' : R} {o : Out Unit × R}, Go σ ρ Hb H σ' ρ' Hb' H' → Rel K Hb' H' σ' ρ' → WasFree ρ l → (∀ p ∈ l, ∃ m, Md.isLk m = true ∧ ρ'[p.1]? = some (some ⟨m, p.2⟩)) → (l.map (·.1)).Nodup → unlock l ρ' = some o →
    o.1 = .ok () ∧ Go σ ρ Hb H σ' o.2 Hb' H' ∧ Rel K Hb' H' σ' o.2 ∧ ∀ a, Own σ' o.2 a → Own σ' ρ' a
  | [], ρ', o, g, R', _, _, _, e => by
    cases e
    exact ⟨rfl, g, R', fun _ h => h⟩
  | p :: l, ρ', o, g, R', wf, hl, nd, e => by
    rcases bnd_some (m := unlock1 p.1 p.2) e with ⟨u, ρ1, e1, e2⟩ | ⟨x, ρ1, e1, e2⟩
    · obtain ⟨h1, h2, m, m', q1, q2, q3, q4, q5, q6⟩ := unlock1_ok (hl p List.mem_cons_self) e1
      have q6 : ρ1 = ρ'.set p.1 (some ⟨m', p.2⟩) := q6
      subst q6
      obtain ⟨g1, R1⟩ := unlock1_go g R' (wf p List.mem_cons_self) q1 q3 q4 q5
      rw [List.map_cons, List.nodup_cons] at nd
      obtain ⟨z1, z2, z3, z4⟩ := unlock_go g1 R1 (fun q hq => wf q (List.mem_cons_of_mem _ hq)) (fun q hq => by
        obtain ⟨mq, w1, w2⟩ := hl q (List.mem_cons_of_mem _ hq)
        refine ⟨mq, w1, ?_⟩
        rw [List.getElem?_set_ne fun e => nd.1 (by rw [e]; exact List.mem_map_of_mem hq)]
        exact w2) nd.2 e2
      refine ⟨z1, z2, z3, fun a h => ?_⟩
      obtain ⟨i, s, w1, w2, w3⟩ := z4 a h
      rcases get_set w1 with ⟨e3, z⟩ | ⟨_, z⟩
      · subst e3
        refine ⟨_, _, q5, ?_, w3⟩
        cases m <;> first | rfl | cases q1
      · exact ⟨i, s, z, w2, w3⟩
    · obtain ⟨h1, _⟩ := unlock1_ok (hl p List.mem_cons_self) e1
      cases h1
theorem held_go {σ0 : L2.St} {I : Itd} (g : Go σ ρ Hb H σ' ρ' Hb' H') (h : Held σ0 I σ ρ) : Held σ0 I σ' ρ' := fun p hp => by
  obtain ⟨e, m, hm, hj⟩ := h p hp
  obtain ⟨e1, e2⟩ := g.lk p.1 ⟨m, p.2⟩ hj hm
  exact ⟨e1.trans e, m, hm, e2⟩
/-- iterators whose locks are in order -/
structure ItOk (m : M Itd) : Prop where
  nd : ∀ ρ I ρ', m ρ = some (.ok I, ρ') → (I.lk.map (·.1)).Nodup ∧ WasFree ρ I.lk
theorem for_read {it : M Itd} {g : D → M Unit} {b : M Fl} {De : Ends} (ok : ItOk it) (w : tS K mg E (mFor it g b) De σ H) : tFor (tI K mg E it) (tGt K mg E (fun _ _ => True) g) (tS K mg E b) De σ H := by
  obtain ⟨Hb, ρ, Rr, out, ρ2, e, h1, h2⟩ := w
  rcases bnd_some e with ⟨I, ρ1, e1, e2⟩ | ⟨x, ρ1, e1, e2⟩
  · obtain ⟨nd, wf⟩ := ok.nd ρ I ρ1 e1
    refine ⟨Hb, ρ, Rr, _, _, e1, fun I' q σ1 Hb1 H1 g1 R1 es hd J wk => ?_, fun x q => by cases q⟩
    cases q
    subst es
    -- the rest of the run from a turn on
    let rest : List D → M Fl := fun ds => bnd (loopF g b ds) fun fl => bnd (unlock I.lk) fun _ => ret fl
    -- the very end
    have fin : ∀ {fl : Fl} {σ' : L2.St} {ρ' : R} {Hb' H' H0 : Hp}, Go σ1 ρ Hb H σ' ρ' Hb' H' → Rel K Hb' H' σ' ρ' → Held σ1 I σ' ρ' → (∀ a, H a ≠ none → H0 a ≠ none) → (bnd (unlock I.lk) fun _ => ret fl) ρ' = some (out, ρ2) → FlP K De H0 fl σ' ρ' Hb' H' := by
      intro fl σ' ρ' Hb' H' H0 gg Rg hh t er
      rcases bnd_some er with ⟨u, ρ3, f1, f2⟩ | ⟨x, ρ3, f1, f2⟩
      · obtain ⟨_, z2, z3, z4⟩ := unlock_go gg Rg wf (fun p hp => (hh p hp).2) nd f1
        cases f2
        have q := h1 _ rfl σ' Hb' H' z2 z3
        cases fl with
        | nx => exact q
        | bk => exact q
        | ct => exact q
        | rt r =>
          intro v rep
          refine q v ?_
          cases r with
          | val d => exact rep
          | slot i => exact rep
          | fresh xs =>
            obtain ⟨a, vs, w1, w2, w3, w4, w5, w6⟩ := rep
            exact ⟨a, vs, w1, w2, w3, w4, Classical.byContradiction fun z => t a z w5, fun z => w6 (z4 a z)⟩
      · obtain ⟨z1, _⟩ := unlock_go gg Rg wf (fun p hp => (hh p hp).2) nd f1
        cases z1
    have excEnd : ∀ {x : Exc} {σ' : L2.St} {Hb' H' : Hp}, out = .exc x → ∀ c d, Go σ1 ρ Hb H σ' ρ2 Hb' H' → Rel K Hb' H' σ' ρ2 → ExcR K mg Hb' H' c d x → E c d σ' H' := fun {x σ' Hb' H'} q c d => h2 x q σ' c d Hb' H'
    refine ⟨fun i m σ' H' => m = I.items.length - i ∧ i ≤ I.items.length ∧ ∃ Hb' ρ', Rel K Hb' H' σ' ρ' ∧ Go σ1 ρ1 Hb1 H1 σ' ρ' Hb' H' ∧ rest (I.items.drop i) ρ' = some (out, ρ2), ⟨_, rfl, Nat.zero_le _, Hb1, ρ1, R1, Go.refl, by rw [List.drop_zero]; exact e2⟩, ?_⟩
    rintro i m σ' H' ⟨rfl, hi, Hb', ρ', R', g', e'⟩
    have hh := held_go g' hd
    obtain ⟨wgo, wstop, wy⟩ := wk.at' σ' ρ' Hb' H' R' g'.b hh
    by_cases c : i < I.items.length
    · refine .inr ⟨wgo i c, fun σ3 H3 => i + 1 ≤ I.items.length ∧ ∃ Hb3 ρ3, Rel K Hb3 H3 σ3 ρ3 ∧ Go σ1 ρ1 Hb1 H1 σ3 ρ3 Hb3 H3 ∧ rest (I.items.drop (i + 1)) ρ3 = some (out, ρ2), fun σ3 H3 q => ⟨I.items.length - (i + 1), by omega, rfl, q⟩, fun x H'' y => ?_⟩
      obtain ⟨Hb'', n, d, hd', rp⟩ := wy i x H'' c y
      have ed : I.items.drop i = d :: I.items.drop (i + 1) := by
        rw [List.drop_eq_getElem_cons c]
        rw [List.getElem?_eq_getElem c] at hd'
        cases hd'
        rfl
      rw [ed] at e'
      have gn := g'.trans (n.go (σ := σ') (ρ := ρ'))
      have e3 : (bnd (g d) fun _ => bnd b fun fl => bnd (match fl with
          | .nx => loopF g b (I.items.drop (i + 1))
          | .ct => loopF g b (I.items.drop (i + 1))
          | .bk => ret .nx
          | .rt r => ret (.rt r)) fun fl => bnd (unlock I.lk) fun _ => ret fl) ρ' = some (out, ρ2) := by
        rw [← e']
        show _ = bnd (bnd (g d) fun _ => bnd b fun fl => _) _ ρ'
        unfold bnd
        cases g d ρ' with
        | none => rfl
        | some o =>
          obtain ⟨o, ρa⟩ := o
          cases o with
          | exc x => rfl
          | ok u =>
            dsimp only
            cases b ρa with
            | none => rfl
            | some o =>
              obtain ⟨o, ρb⟩ := o
              cases o <;> rfl
      rcases bnd_some e3 with ⟨u, ρa, a1, a2⟩ | ⟨x, ρa, a1, a2⟩
      · refine ⟨Hb'', ρ', d, n.rel R', rp, _, _, a1, fun u' q σ2 Hb2 H2 g2 R2 _ => ?_, fun x q => by cases q⟩
        cases q
        have ga := gn.trans g2
        rcases bnd_some a2 with ⟨fl, ρb, b1, b2⟩ | ⟨x, ρb, b1, b2⟩
        · refine ⟨Hb2, ρa, R2, _, _, b1, fun fl' q σ3 Hb3 H3 g3 R3 => ?_, fun x q => by cases q⟩
          cases q
          have gb := ga.trans g3
          cases fl with
          | nx => exact ⟨c, Hb3, ρb, R3, gb, b2⟩
          | ct => exact ⟨c, Hb3, ρb, R3, gb, b2⟩
          | bk =>
            have b2 : (bnd (unlock I.lk) fun _ => ret Fl.nx) ρb = some (out, ρ2) := b2
            exact fin (fl := .nx) (H0 := H) (g1.trans gb) R3 (held_go gb hd) (fun _ q => q) b2
          | rt r =>
            have b2 : (bnd (unlock I.lk) fun _ => ret (Fl.rt r)) ρb = some (out, ρ2) := b2
            exact fin (fl := .rt r) (H0 := H2) (g1.trans gb) R3 (held_go gb hd) (g1.trans ga).t b2
        · cases b2
          refine ⟨Hb2, ρa, R2, _, _, b1, fun fl' q => (by cases q), fun x' q σ3 cc dd Hb3 H3 g3 R3 xr => ?_⟩
          cases q
          exact excEnd rfl cc dd (g1.trans (ga.trans g3)) R3 xr
      · cases a2
        refine ⟨Hb'', ρ', d, n.rel R', rp, _, _, a1, fun u' q => (by cases q), fun x' q σ3 cc dd Hb3 H3 g3 R3 xr => ?_⟩
        cases q
        exact excEnd rfl cc dd (g1.trans (gn.trans g3)) R3 xr
    · have ei : i = I.items.length := by omega
      subst ei
      refine .inl ⟨wstop, ?_⟩
      rw [List.drop_length] at e'
      have e' : (bnd (unlock I.lk) fun _ => ret Fl.nx) ρ' = some (out, ρ2) := e'
      exact fin (fl := .nx) (H0 := H) (g1.trans g') R' hh (fun _ q => q) e'
  · cases e2
    refine ⟨Hb, ρ, Rr, _, _, e1, fun I' q => (by cases q), fun x' q σ1 c d Hb1 H1 g1 R1 xr => ?_⟩
    cases q
    exact h2 _ rfl σ1 c d Hb1 H1 g1 R1 xr
end
theorem ms_for {X : Cx} {E : WX} {tg iter : Expr} {body : List Stmt} {pos : Pos} {mi : M Itd} {g : D → M Unit} {mb : M Fl} (hp : PassesOwn (model X.prog X.w) X.A X.env X.xe) (hc : X.calm = true) (ok : ItOk mi) (hi : PI X tg iter (tI X.K X.mg E mi)) (hg : PG X tg (tGt X.K X.mg E (fun _ _ => True) g)) (hb : PSs X body (tS X.K X.mg E mb))
    (hs : ∀ x, foldedSetIterable iter X.env x = pure x := by intro _; rfl) : PS X (.For tg iter body [] pos) (tS X.K X.mg E (mFor mi g mb)) := (ps_for hp hc hi hg hb hs).imp fun _ _ _ w => for_read ok w
end Mi

/-! Mi: the things that are walked; comprehensions. -/
namespace Mi
open PySem L2 Evl PySem.Spec

def freeAt (ρ : R) (j : Nat) : Bool := match ρ[j]? with
  | some (some s) => !s.m.isLk
  | _ => true
def chk (m : M Itd) : M Itd := fun ρ => match m ρ with
  | some (.ok I, ρ') => if (I.lk.map (·.1)).Nodup ∧ (I.lk.all fun p => freeAt ρ p.1) = true then some (.ok I, ρ') else none
  | o => o
theorem chk_some {m : M Itd} {ρ : R} {o : Out Itd × R} (e : chk m ρ = some o) : m ρ = some o := by
  unfold chk at e
  split at e
  · rename_i I ρ' e1
    split at e
    · cases e; exact e1
    · cases e
  · exact e
theorem chk_ok (m : M Itd) : ItOk (chk m) := ⟨fun ρ I ρ' e => by
  have e0 := chk_some e
  unfold chk at e
  rw [e0] at e
  dsimp only at e
  split at e
  · rename_i c
    refine ⟨c.1, fun p hp s hs => ?_⟩
    have := List.all_eq_true.mp c.2 p hp
    unfold freeAt at this
    rw [hs] at this
    simpa using this
  · cases e⟩
theorem tI_chk {K : PySem.W.Frag} {mg : Str → Option Value} {E : WX} {m : M Itd} {σ : L2.St} {H : Hp} {Rc : It → Hp → Prop} (w : tI K mg E (chk m) σ H Rc) : tI K mg E m σ H Rc := by
  obtain ⟨Hb, ρ, Rr, out, ρ', e, h⟩ := w
  exact ⟨Hb, ρ, Rr, out, ρ', chk_some e, h⟩
theorem PI_imp {X : Cx} {tg e : Expr} {w w' : TI} (h : PI X tg e w) (k : ∀ σ H Rc, w' σ H Rc → w σ H Rc) : PI X tg e w' := ⟨fun pins s σ H Rc I q => h.run pins s σ H Rc I (k σ H Rc q)⟩
theorem PI_or {X : Cx} {tg e : Expr} {w w' : TI} (h : PI X tg e w) (h' : PI X tg e w') : PI X tg e (fun σ H Rc => w σ H Rc ∨ w' σ H Rc) := ⟨fun pins s σ H Rc I q => by
  rcases q with q | q
  · exact h.run pins s σ H Rc I q
  · exact h'.run pins s σ H Rc I q⟩

/-! ### data -/
def signs (z : Str) : List D := z.cps.toList.map fun c => .str ⟨#[c]⟩
def iterD (r : Res) : M Itd := fun ρ => match r with
  | .val (.list xs) => some (.ok ⟨xs, []⟩, ρ)
  | .val (.tuple xs) => some (.ok ⟨xs, []⟩, ρ)
  | .val (.str z) => some (.ok ⟨signs z, []⟩, ρ)
  | .slot j => match ρ[j]? with
    | some (some ⟨.own, .list xs⟩) => some (.ok ⟨xs, [(j, .list xs)]⟩, ρ.set j (some ⟨.lock, .list xs⟩))
    | some (some ⟨.io, .list xs⟩) => some (.ok ⟨xs, [(j, .list xs)]⟩, ρ.set j (some ⟨.iol, .list xs⟩))
    | some (some ⟨.val, .list xs⟩) => some (.ok ⟨xs, []⟩, ρ)
    | _ => none
  | _ => none
def mItD (m : M Res) : M Itd := bnd (thaw m) iterD
section
variable {K : PySem.W.Frag} {mg : Str → Option Value} {E : WX} {σ : L2.St} {Hb H : Hp} {ρ : R}
theorem lock_go {j : Nat} {d : D} {m m' : Md} (Rr : Rel K Hb H σ ρ) (hm : Md.isOwn m = true) (hm2 : Md.isLk m = false) (hm' : Md.isOwn m' = true) (hio : Md.isIo m' = Md.isIo m) (hj : ρ[j]? = some (some ⟨m, d⟩)) :
    Go σ ρ Hb H σ (ρ.set j (some ⟨m', d⟩)) Hb H ∧ Rel K Hb H σ (ρ.set j (some ⟨m', d⟩)) := by
  have hjl : j < ρ.length := (List.getElem?_eq_some_iff.mp hj).1
  refine ⟨⟨Ex.refl _, fun _ _ h _ => h, fun a q1 q2 => absurd q1 q2, fun _ h => h, fun a ⟨i, s, q1, q2, q3⟩ => .inl ?_, fun i s q1 q2 => ⟨rfl, ?_⟩, fun i s q1 q2 => ⟨rfl, ?_⟩⟩, ⟨by simp [Rr.len], Rr.ex, fun i s q1 q2 => ?_, fun i s q1 q2 => ?_, fun i k s t a q1 q2 q3 q4 q5 q6 => ?_⟩⟩
  · rcases get_set q1 with ⟨e, z⟩ | ⟨_, z⟩
    · subst e; exact ⟨_, _, hj, hm, q3⟩
    · exact ⟨i, s, z, q2, q3⟩
  · by_cases e : i = j
    · subst e
      rw [hj] at q1; cases q1
      exact ⟨_, List.getElem?_set_self hjl, hio.trans q2⟩
    · exact ⟨s, by rw [List.getElem?_set_ne (Ne.symm e)]; exact q1, q2⟩
  · have e : i ≠ j := fun e => by
      subst e
      rw [hj] at q1; cases q1
      rw [hm2] at q2; cases q2
    rw [List.getElem?_set_ne (Ne.symm e)]; exact q1
  · rcases get_set q1 with ⟨e, z⟩ | ⟨_, z⟩
    · cases z
      rw [hm'] at q2; cases q2
    · exact Rr.val i s z q2
  · rcases get_set q1 with ⟨e, z⟩ | ⟨_, z⟩
    · subst e
      cases z
      have q := Rr.own i ⟨m, d⟩ hj hm
      exact q
    · exact Rr.own i s z q2
  · have f1 : ∃ s', ρ[i]? = some (some s') ∧ s'.m.isOwn = true := by
      rcases get_set q1 with ⟨e, z⟩ | ⟨_, z⟩
      · subst e; exact ⟨_, hj, hm⟩
      · exact ⟨s, z, q3⟩
    have f2 : ∃ s', ρ[k]? = some (some s') ∧ s'.m.isOwn = true := by
      rcases get_set q2 with ⟨e, z⟩ | ⟨_, z⟩
      · subst e; exact ⟨_, hj, hm⟩
      · exact ⟨t, z, q4⟩
    obtain ⟨s1, z1, z2⟩ := f1
    obtain ⟨s2, z3, z4⟩ := f2
    exact Rr.inj i k s1 s2 a z1 z3 z2 z4 q5 q6
theorem walks_list {a : Addr} {xs : List D} {Hb0 : Hp} {σ0 : L2.St} {vs : List V} {I : Itd} (hI : I.items = xs) (hs : ∀ (σ : L2.St) (ρ : R) (Hb H : Hp), Rel K Hb H σ ρ → Ex Hb0 Hb → Held σ0 I σ ρ → ∃ vs, SqL K H a vs ∧ RpAll K Hb vs xs) : Walks K (Itl K a) σ0 Hb0 I := ⟨fun σ ρ Hb H Rr ex hd => by
  obtain ⟨vs, s, r⟩ := hs σ ρ Hb H Rr ex hd
  subst hI
  refine ⟨fun i hi => ?_, ⟨vs, s, by rw [r.length]; exact Nat.le_refl _⟩, fun i x H' hi y => ?_⟩
  · have hi' : i < vs.length := by rw [r.length]; exact hi
    exact ⟨vs, vs[i], s, by simp [hi']⟩
  · obtain ⟨e, y⟩ := y
    subst e
    obtain ⟨d, e1, e2⟩ := r.getV (y vs s)
    exact ⟨Hb, New.refl Rr.ex, d, e1, e2⟩⟩
theorem walks_tup {a : Addr} {xs : List D} {Hb0 : Hp} {σ0 : L2.St} {vs : List V} (s : SqT K Hb0 a vs) (r : RpAll K Hb0 vs xs) : Walks K (Itt K a) σ0 Hb0 ⟨xs, []⟩ := ⟨fun σ ρ Hb H Rr ex hd => by
  have s' : SqT K H a vs := ex_t (ex.trans Rr.ex) s
  refine ⟨fun i hi => ?_, ⟨vs, s', by rw [r.length]; exact Nat.le_refl _⟩, fun i x H' hi y => ?_⟩
  · have hi' : i < vs.length := by rw [r.length]; exact hi
    exact ⟨vs, vs[i], s', by simp [hi']⟩
  · obtain ⟨e, y⟩ := y
    subst e
    obtain ⟨d, e1, e2⟩ := r.getV (y vs s')
    exact ⟨Hb, New.refl Rr.ex, d, e1, e2.mono ex⟩⟩
theorem walks_str {z : Str} {Hb0 : Hp} {σ0 : L2.St} : Walks K (Its z) σ0 Hb0 ⟨signs z, []⟩ := ⟨fun σ ρ Hb H Rr ex hd => by
  have hl : (signs z).length = z.cps.size := by unfold signs; simp
  refine ⟨fun i hi => by rw [hl] at hi; exact hi, (by show z.cps.size ≤ (signs z).length; omega), fun i x H' hi y => ?_⟩
  obtain ⟨e, c, y, q⟩ := y
  subst e
  subst q
  refine ⟨Hb, New.refl Rr.ex, .str ⟨#[c]⟩, ?_, .str _⟩
  show (signs z)[i]? = _
  unfold signs
  rw [List.getElem?_map, Array.getElem?_toList, y]
  rfl⟩
end
theorem thaw_some {m : M Res} {ρ ρ1 : R} {o : Out Res} (e : thaw m ρ = some (o, ρ1)) : (∃ r0, m ρ = some (.ok r0, ρ1) ∧ o = .ok (thawR r0)) ∨ ∃ x, m ρ = some (.exc x, ρ1) ∧ o = .exc x := by
  rcases bnd_some e with ⟨r0, ρ2, e1, e2⟩ | ⟨x, ρ2, e1, e2⟩
  · cases e2
    exact .inl ⟨r0, e1, rfl⟩
  · cases e2
    exact .inr ⟨x, e1, rfl⟩
theorem e_known {K : PySem.W.Frag} {mg : Str → Option Value} {E : WX} {σ : L2.St} {Hb H : Hp} {ρ ρ1 : R} {m : M Res} {r0 : Res} (Rr : Rel K Hb H σ ρ) (em : m ρ = some (.ok r0, ρ1)) :
    tE K mg E m σ H fun v H1 => ∃ Hb1, Rel K Hb1 H1 σ ρ1 ∧ RepA K Hb1 σ [v] [thawR r0] ∧ Go σ ρ Hb H σ ρ1 Hb1 H1 := by
  refine ⟨Hb, ρ, Rr, _, _, em, fun r q σ' Hb1 H1 g R1 es v rep => ?_, fun x q => by cases q⟩
  cases q
  subst es
  obtain ⟨Hb2, g2, R2, _, rep2⟩ := rep_thaw g R1 rep
  refine ⟨Hb2, R2, ?_, g2⟩
  cases r0 with
  | val d => exact .val rep2 .nil
  | fresh xs => exact .val rep2 .nil
  | slot i => exact .slot rep2 .nil
theorem e_exc {K : PySem.W.Frag} {mg : Str → Option Value} {E : WX} {σ : L2.St} {Hb H : Hp} {ρ ρ1 : R} {m : M Res} {x : Exc} {Q : VK} (Rr : Rel K Hb H σ ρ) (em : m ρ = some (.exc x, ρ1))
    (h : ∀ σ' c d Hb' H', Go σ ρ Hb H σ' ρ1 Hb' H' → Rel K Hb' H' σ' ρ1 → ExcR K mg Hb' H' c d x → E c d σ' H') : tE K mg E m σ H Q :=
  ⟨Hb, ρ, Rr, _, _, em, fun r q => (by cases q), fun x' q => by cases q; exact h⟩
section
variable {X : Cx} {E : WX} {tg e : Expr} {m : M Res}
theorem mi_data (h : PE X e (tE X.K X.mg E m)) : PI X tg e (tI X.K X.mg E (mItD m)) := PI_imp (PI_or (PI_or (pi_list h) (pi_tup h)) (pi_str h)) fun σ H Rc w => by
  obtain ⟨Hb, ρ, Rr, out, ρ2, e, h1, h2⟩ := w
  rcases bnd_some e with ⟨r, ρ1, e1, e2⟩ | ⟨x, ρ1, e1, e2⟩
  · rcases thaw_some e1 with ⟨r0, em, q⟩ | ⟨x, _, q⟩
    · cases q
      cases hr : thawR r0 with
      | fresh xs => cases r0 <;> cases hr
      | val d =>
        rw [hr] at e2
        unfold iterD at e2
        split at e2
        · rename_i xs hx
          cases hx
          cases e2
          refine .inl (.inl (tE_mono (e_known Rr em) fun v H1 ⟨Hb1, R1, rx, g1⟩ => ?_))
          rw [hr] at rx
          cases rx with
          | val rp _ =>
            cases rp with
            | @lst a vs _ sq ra =>
              refine ⟨a, rfl, ⟨vs, ex_l R1.ex sq⟩, h1 _ rfl σ Hb1 H1 g1 R1 rfl (fun p hp => by cases hp) _ (walks_list (vs := vs) rfl fun σ ρ Hb H Rr ex _ => ⟨vs, ex_l (ex.trans Rr.ex) sq, ra.mono ex⟩)⟩
        · rename_i xs hx
          cases hx
          cases e2
          refine .inl (.inr (tE_mono (e_known Rr em) fun v H1 ⟨Hb1, R1, rx, g1⟩ => ?_))
          rw [hr] at rx
          cases rx with
          | val rp _ =>
            cases rp with
            | @tup a vs _ sq ra => exact ⟨a, rfl, ⟨vs, ex_t R1.ex sq⟩, h1 _ rfl σ Hb1 H1 g1 R1 rfl (fun p hp => by cases hp) _ (walks_tup sq ra)⟩
        · rename_i z hx
          cases hx
          cases e2
          refine .inr (tE_mono (e_known Rr em) fun v H1 ⟨Hb1, R1, rx, g1⟩ => ?_)
          rw [hr] at rx
          cases rx with
          | val rp _ => exact ⟨z, rp.str_inv, h1 _ rfl σ Hb1 H1 g1 R1 rfl (fun p hp => by cases hp) _ walks_str⟩
        · rename_i hx
          cases hx
        · cases e2
      | slot j =>
        rw [hr] at e2
        -- a list that the slot owns is locked
        have own : ∀ {md md' : Md} {xs : List D}, ρ1[j]? = some (some ⟨md, .list xs⟩) → Md.isOwn md = true → Md.isLk md = false → Md.isLk md' = true → Md.isOwn md' = true → Md.isIo md' = Md.isIo md → out = .ok ⟨xs, [(j, .list xs)]⟩ → ρ2 = ρ1.set j (some ⟨md', .list xs⟩) →
            iList X.K (tE X.K X.mg E m) σ H Rc := by
          intro md md' xs hj ho hl hl' ho' hio hO hρ
          subst hO
          subst hρ
          refine tE_mono (e_known Rr em) fun v H1 ⟨Hb1, R1, rx, g1⟩ => ?_
          rw [hr] at rx
          obtain ⟨g2, R2⟩ := lock_go R1 ho hl ho' hio hj
          obtain ⟨a, vs, xs', q1, q2, q3, q4, q5⟩ := R1.own j _ hj ho
          cases q2
          have ev : v = .ref a := by
            cases rx with
            | slot h _ => rw [q1] at h; cases h; rfl
          subst ev
          have hjl : j < ρ1.length := (List.getElem?_eq_some_iff.mp hj).1
          refine ⟨a, rfl, ⟨vs, SqL.of q4⟩, h1 _ rfl σ Hb1 H1 (g1.trans g2) R2 rfl (fun p hp => ?_) _ (walks_list (vs := vs) rfl fun σ' ρ' Hb' H' R' ex hd => ?_)⟩
          · rcases List.mem_cons.mp hp with e | e
            · subst e
              exact ⟨rfl, md', hl', List.getElem?_set_self hjl⟩
            · cases e
          · obtain ⟨e1, m3, w1, w2⟩ := hd (j, .list xs) List.mem_cons_self
            have ow : Md.isOwn m3 = true := by cases m3 <;> first | rfl | cases w1
            obtain ⟨b, us, ys, z1, z2, z3, z4, z5⟩ := R'.own j _ w2 ow
            cases z2
            have e1 : σ'[j]? = σ[j]? := e1
            rw [e1, q1] at z1
            cases z1
            exact ⟨us, SqL.of z4, z5⟩
        unfold iterD at e2
        dsimp only at e2
        split at e2
        · rename_i xs hj
          cases e2
          exact .inl (.inl (own (md' := .lock) hj rfl rfl rfl rfl rfl rfl rfl))
        · rename_i xs hj
          cases e2
          exact .inl (.inl (own (md' := .iol) hj rfl rfl rfl rfl rfl rfl rfl))
        · rename_i xs hj
          cases e2
          refine .inl (.inl (tE_mono (e_known Rr em) fun v H1 ⟨Hb1, R1, rx, g1⟩ => ?_))
          rw [hr] at rx
          obtain ⟨w, q1, q2⟩ := R1.val j _ hj rfl
          have ev : v = w := by
            cases rx with
            | slot h _ => rw [q1] at h; cases h; rfl
          subst ev
          cases q2 with
          | @lst a vs _ sq ra =>
            refine ⟨a, rfl, ⟨vs, ex_l R1.ex sq⟩, h1 _ rfl σ Hb1 H1 g1 R1 rfl (fun p hp => by cases hp) _ (walks_list (vs := vs) rfl fun σ ρ Hb H Rr ex _ => ⟨vs, ex_l (ex.trans Rr.ex) sq, ra.mono ex⟩)⟩
        · cases e2
    · cases q
  · cases e2
    rcases thaw_some e1 with ⟨r0, em, q⟩ | ⟨x', em, q⟩
    · cases q
    · cases q
      exact .inl (.inl (e_exc Rr em (h2 _ rfl)))
end
end Mi

/-! Mi: ranges; comprehensions. -/
namespace Mi
open PySem L2 Evl PySem.Spec

def rangeD (lo : Int) (n : Nat) : List D := (List.range n).map fun i => .int (lo + (i : Nat))
def in62 (i : Int) : Bool := decide (-(2 ^ 62) ≤ i ∧ i < 2 ^ 62)
def rng1 (rs : List Res) : M Itd := fun ρ => match rs with
  | [.val (.int n)] => if in62 n then some (.ok ⟨rangeD 0 n.toNat, []⟩, ρ) else none
  | _ => none
def rng2 (rs : List Res) : M Itd := fun ρ => match rs with
  | [.val (.int a), .val (.int b)] => if in62 a && in62 b then some (.ok ⟨rangeD a (b - a).toNat, []⟩, ρ) else none
  | _ => none
def mRng1 (as : M (List Res)) : M Itd := bnd as rng1
def mRng2 (as : M (List Res)) : M Itd := bnd as rng2
theorem walks_rng {K : PySem.W.Frag} {lo : Int} {n : Nat} {Hb0 : Hp} {σ0 : L2.St} : Walks K (Itr lo n) σ0 Hb0 ⟨rangeD lo n, []⟩ := ⟨fun σ ρ Hb H Rr ex hd => by
  have hl : (rangeD lo n).length = n := by unfold rangeD; simp
  refine ⟨fun i hi => by rw [hl] at hi; exact hi, (by show n ≤ (rangeD lo n).length; omega), fun i x H' hi y => ?_⟩
  obtain ⟨e, y⟩ := y
  subst e
  subst y
  rw [hl] at hi
  refine ⟨Hb, New.refl Rr.ex, .int (lo + (i : Nat)), ?_, .int _⟩
  show (rangeD lo n)[i]? = _
  unfold rangeD
  rw [List.getElem?_map, List.getElem?_range hi]
  rfl⟩
section
variable {X : Cx} {E : WX} {tg a b : Expr} {p pos : Pos} {mr : M (List Res)}
theorem mi_rng1 (hg : Gl X "range") (hm : X.mg "range" = none) (ha : PA X [a] (tA X.K X.mg E mr)) (hs : starEach [a] X.env = [(false, eval a X.env)] := by rfl) : PI X tg (.Call (.Name "range" p) [a] [] pos) (tI X.K X.mg E (mRng1 mr)) :=
  PI_imp (pi_range1 hg hm ha hs) fun σ H Rc w => by
  obtain ⟨Hb, ρ, Rr, S⟩ := w
  refine tA_mono (e_args Rr S) fun vs H1 ⟨Hb1, ρ1, rs, R1, rr, g1, out, ρ2, e, h1, _⟩ => ?_
  unfold rng1 at e
  split at e
  · rename_i n
    split at e
    · rename_i c
      cases e
      have c := of_decide_eq_true c
      cases rr with
      | val rp r2 =>
        cases r2
        exact ⟨n, by rw [rp.int_inv], c.1, c.2, h1 _ rfl σ Hb1 H1 Go.refl R1 g1 rfl (fun p hp => by cases hp) _ walks_rng⟩
    · cases e
  · cases e
theorem mi_rng2 (hg : Gl X "range") (hm : X.mg "range" = none) (ha : PA X [a, b] (tA X.K X.mg E mr)) (hs : starEach [a, b] X.env = [(false, eval a X.env), (false, eval b X.env)] := by rfl) (hs2 : starEach [b] X.env = [(false, eval b X.env)] := by rfl) : PI X tg (.Call (.Name "range" p) [a, b] [] pos) (tI X.K X.mg E (mRng2 mr)) :=
  PI_imp (pi_range2 hg hm ha hs hs2) fun σ H Rc w => by
  obtain ⟨Hb, ρ, Rr, S⟩ := w
  refine tA_mono (e_args Rr S) fun vs H1 ⟨Hb1, ρ1, rs, R1, rr, g1, out, ρ2, e, h1, _⟩ => ?_
  unfold rng2 at e
  split at e
  · rename_i i j
    split at e
    · rename_i c
      cases e
      rw [Bool.and_eq_true] at c
      have c1 := of_decide_eq_true c.1
      have c2 := of_decide_eq_true c.2
      cases rr with
      | val rp r2 =>
        cases r2 with
        | val rp2 r3 =>
          cases r3
          exact ⟨i, j, by rw [rp.int_inv, rp2.int_inv], ⟨c1.1, c1.2, c2.1, c2.2⟩, h1 _ rfl σ Hb1 H1 Go.refl R1 g1 rfl (fun p hp => by cases hp) _ walks_rng⟩
    · cases e
  · cases e
end

/-! ### comprehensions -/
def wipeR (ρ : R) : List Nat → R
  | [] => ρ
  | v :: vs => (wipeR ρ vs).set v none
def restR (ρ0 ρ : R) : List Nat → R
  | [] => ρ
  | v :: vs => match ρ0[v]? with
    | some s => (restR ρ0 ρ vs).set v s
    | none => restR ρ0 ρ vs
def loopC (g : D → M Unit) (t : M Bool) (e : M Res) (vs : List Nat) : List D → R → List D → Option (List D × R)
  | [], ρ, acc => some (acc, ρ)
  | d :: ds, ρ, acc => match g d ρ with
    | some (.ok _, ρa) => match t ρa with
      | some (.ok true, ρb) => match mVal e ρb with
        | some (.ok y, ρc) => if acc.length < sizeLine then loopC g t e vs ds (wipeR ρc vs) (acc ++ [y]) else none
        | _ => none
      | some (.ok false, ρb) => loopC g t e vs ds (wipeR ρb vs) acc
      | _ => none
    | _ => none
def mLc (it : M Itd) (g : D → M Unit) (t : M Bool) (e : M Res) (vs : List Nat) : M Res := bnd (chk it) fun I => fun ρ1 => if (I.lk.all fun p => !vs.contains p.1) = true then match loopC g t e vs I.items (wipeR ρ1 vs) [] with
  | some (xs, ρe) => (bnd (unlock I.lk) fun _ => ret (.fresh xs)) (restR ρ1 ρe vs)
  | none => none else none
section
variable {ρ ρ0 : R} {σ : L2.St} {vs : List Nat}
theorem wipeR_get {i : Nat} {s : Slot} : ∀ {vs : List Nat}, (wipeR ρ vs)[i]? = some (some s) → ρ[i]? = some (some s) ∧ i ∉ vs
  | [], h => ⟨h, by simp⟩
  | v :: vs, h => by
    unfold wipeR at h
    rcases get_set h with ⟨_, z⟩ | ⟨ne, z⟩
    · cases z
    · obtain ⟨h1, h2⟩ := wipeR_get z
      exact ⟨h1, by simp only [List.mem_cons, not_or]; exact ⟨ne, h2⟩⟩
theorem wipeR_of {i : Nat} : ∀ {vs : List Nat}, i ∉ vs → (wipeR ρ vs)[i]? = ρ[i]?
  | [], _ => rfl
  | v :: vs, h => by
    unfold wipeR
    simp only [List.mem_cons, not_or] at h
    rw [List.getElem?_set_ne (Ne.symm h.1), wipeR_of h.2]
theorem wipeR_len : ∀ vs : List Nat, (wipeR ρ vs).length = ρ.length
  | [] => rfl
  | v :: vs => by unfold wipeR; rw [List.length_set, wipeR_len vs]
theorem wipe_of {i : Nat} : ∀ {vs : List Nat}, i ∉ vs → (wipe σ vs)[i]? = σ[i]?
  | [], _ => rfl
  | v :: vs, h => by
    unfold wipe
    simp only [List.mem_cons, not_or] at h
    rw [List.getElem?_set_ne (Ne.symm h.1), wipe_of h.2]
theorem restR_len : ∀ vs : List Nat, (restR ρ0 ρ vs).length = ρ.length
  | [] => rfl
  | v :: vs => by
    unfold restR
    split
    · rw [List.length_set, restR_len vs]
    · exact restR_len vs
theorem restR_get {i : Nat} {s : Slot} : ∀ {vs : List Nat}, (restR ρ0 ρ vs)[i]? = some (some s) → (i ∉ vs ∧ ρ[i]? = some (some s)) ∨ (i ∈ vs ∧ ρ0[i]? = some (some s)) ∨ (i ∈ vs ∧ ρ0[i]? = none)
  | [], h => .inl ⟨by simp, h⟩
  | v :: vs, h => by
    unfold restR at h
    split at h
    · rename_i t ht
      rcases get_set h with ⟨e, z⟩ | ⟨ne, z⟩
      · subst e
        exact .inr (.inl ⟨List.mem_cons_self, by rw [ht, z]⟩)
      · rcases restR_get z with ⟨h1, h2⟩ | ⟨h1, h2⟩ | ⟨h1, h2⟩
        · exact .inl ⟨by simp only [List.mem_cons, not_or]; exact ⟨ne, h1⟩, h2⟩
        · exact .inr (.inl ⟨List.mem_cons_of_mem _ h1, h2⟩)
        · exact .inr (.inr ⟨List.mem_cons_of_mem _ h1, h2⟩)
    · rename_i hn
      by_cases e : i = v
      · subst e
        exact .inr (.inr ⟨List.mem_cons_self, hn⟩)
      · rcases restR_get h with ⟨h1, h2⟩ | ⟨h1, h2⟩ | ⟨h1, h2⟩
        · exact .inl ⟨by simp only [List.mem_cons, not_or]; exact ⟨e, h1⟩, h2⟩
        · exact .inr (.inl ⟨List.mem_cons_of_mem _ h1, h2⟩)
        · exact .inr (.inr ⟨List.mem_cons_of_mem _ h1, h2⟩)
theorem restR_of {i : Nat} : ∀ {vs : List Nat}, i ∉ vs → (restR ρ0 ρ vs)[i]? = ρ[i]?
  | [], _ => rfl
  | v :: vs, h => by
    unfold restR
    simp only [List.mem_cons, not_or] at h
    split
    · rw [List.getElem?_set_ne (Ne.symm h.1), restR_of h.2]
    · exact restR_of h.2
theorem restR_in {i : Nat} {s : Option Slot} : ∀ {vs : List Nat}, i ∈ vs → ρ0[i]? = some s → i < ρ.length → (restR ρ0 ρ vs)[i]? = some s
  | v :: vs, h, hs, hl => by
    unfold restR
    by_cases e : i = v
    · subst e
      rw [hs]
      exact List.getElem?_set_self (by rw [restR_len]; exact hl)
    · have hm : i ∈ vs := by
        rcases List.mem_cons.mp h with z | z
        · exact absurd z e
        · exact z
      split
      · rw [List.getElem?_set_ne (Ne.symm e)]
        exact restR_in hm hs hl
      · exact restR_in hm hs hl
theorem wipe_idem : ∀ vs : List Nat, wipe (wipe σ vs) vs = wipe σ vs := by
  intro vs
  refine List.ext_getElem? fun i => ?_
  have key : ∀ (τ : L2.St) (ws : List Nat), (wipe τ ws)[i]? = if i ∈ ws then (if i < τ.length then some none else none) else τ[i]? := by
    intro τ ws
    induction ws with
    | nil => simp [wipe]
    | cons w ws ih =>
      unfold wipe
      by_cases e : w = i
      · subst e
        by_cases hl : w < (wipe τ ws).length
        · rw [List.getElem?_set_self hl]
          rw [wipe_length] at hl
          simp [hl]
        · rw [List.getElem?_eq_none (by rw [List.length_set]; omega)]
          rw [wipe_length] at hl
          simp [hl]
      · rw [List.getElem?_set_ne e, ih]
        by_cases hm : i ∈ ws
        · simp [hm, Ne.symm e]
        · simp [hm, Ne.symm e]
  rw [key, key, wipe_length]
  by_cases h : i ∈ vs
  · simp [h]
  · simp only [if_neg h]
theorem wipe_set {i : Nat} {x : Option V} : ∀ {vs : List Nat}, i ∈ vs → wipe (σ.set i x) vs = wipe σ vs := by
  intro vs hm
  refine List.ext_getElem? fun j => ?_
  have key : ∀ (τ : L2.St) (ws : List Nat), (wipe τ ws)[j]? = if j ∈ ws then (if j < τ.length then some none else none) else τ[j]? := by
    intro τ ws
    induction ws with
    | nil => simp [wipe]
    | cons w ws ih =>
      unfold wipe
      by_cases e : w = j
      · subst e
        by_cases hl : w < (wipe τ ws).length
        · rw [List.getElem?_set_self hl]
          rw [wipe_length] at hl
          simp [hl]
        · rw [List.getElem?_eq_none (by rw [List.length_set]; omega)]
          rw [wipe_length] at hl
          simp [hl]
      · rw [List.getElem?_set_ne e, ih]
        by_cases hm : j ∈ ws
        · simp [hm, Ne.symm e]
        · simp [hm, Ne.symm e]
  rw [key, key, List.length_set]
  by_cases h : j ∈ vs
  · simp [h]
  · have ne : j ≠ i := fun e => h (e ▸ hm)
    rw [if_neg h, if_neg h, List.getElem?_set_ne (Ne.symm ne)]
end
section
variable {K : PySem.W.Frag} {mg : Str → Option Value} {E : WX} {σ σ2 : L2.St} {Hb H Hb' H' : Hp} {ρ ρ1 ρ2 : R} {vs : List Nat}
theorem own_wipe {a : Addr} (h : Own (wipe σ vs) (wipeR ρ vs) a) : Own σ ρ a := by
  obtain ⟨i, s, h1, h2, h3⟩ := h
  obtain ⟨z1, z2⟩ := wipeR_get h1
  exact ⟨i, s, z1, h2, by rw [← wipe_of z2]; exact h3⟩
theorem rel_wipe (Rr : Rel K Hb H σ ρ) : Rel K Hb H (wipe σ vs) (wipeR ρ vs) where
  len := by rw [wipe_length, wipeR_len]; exact Rr.len
  ex := Rr.ex
  val := fun i s h1 h2 => by
    obtain ⟨z1, z2⟩ := wipeR_get h1
    rw [wipe_of z2]
    exact Rr.val i s z1 h2
  own := fun i s h1 h2 => by
    obtain ⟨z1, z2⟩ := wipeR_get h1
    rw [wipe_of z2]
    exact Rr.own i s z1 h2
  inj := fun i j s t a h1 h2 h3 h4 h5 h6 => by
    obtain ⟨z1, z2⟩ := wipeR_get h1
    obtain ⟨z3, z4⟩ := wipeR_get h2
    rw [wipe_of z2] at h5
    rw [wipe_of z4] at h6
    exact Rr.inj i j s t a z1 z3 h3 h4 h5 h6
/-- a turn's end: the block's own names are forgotten again -/
theorem go_wipe (g : Go (wipe σ vs) (wipeR ρ1 vs) Hb H σ2 ρ2 Hb' H') (e : wipe σ2 vs = wipe σ vs) : Go (wipe σ vs) (wipeR ρ1 vs) Hb H (wipe σ vs) (wipeR ρ2 vs) Hb' H' where
  b := g.b
  k := g.k
  f := g.f
  t := g.t
  o := fun a h => g.o a (own_wipe (by rw [e]; exact h))
  io := fun i s h1 h2 => by
    obtain ⟨e1, s', e2, e3⟩ := g.io i s h1 h2
    obtain ⟨_, z⟩ := wipeR_get h1
    exact ⟨rfl, s', by rw [wipeR_of z]; exact e2, e3⟩
  lk := fun i s h1 h2 => by
    obtain ⟨e1, e2⟩ := g.lk i s h1 h2
    obtain ⟨_, z⟩ := wipeR_get h1
    exact ⟨rfl, by rw [wipeR_of z]; exact e2⟩
/-- behind the block -/
theorem rest_state {ρe : R} (Rr : Rel K Hb H σ ρ1) (g : Go (wipe σ vs) (wipeR ρ1 vs) Hb H (wipe σ vs) ρe Hb' H') (Re : Rel K Hb' H' (wipe σ vs) ρe) (hv : ∀ i s, ρe[i]? = some (some s) → i ∉ vs) :
    Go σ ρ1 Hb H σ (restR ρ1 ρe vs) Hb' H' ∧ Rel K Hb' H' σ (restR ρ1 ρe vs) := by
  have lens : ρe.length = ρ1.length := by
    have := Re.len
    rw [wipe_length, Rr.len] at this
    exact this.symm
  have get : ∀ {i : Nat} {s : Slot}, (restR ρ1 ρe vs)[i]? = some (some s) → (i ∉ vs ∧ ρe[i]? = some (some s)) ∨ (i ∈ vs ∧ ρ1[i]? = some (some s)) := fun {i s} h => by
    rcases restR_get h with z | z | ⟨z1, z2⟩
    · exact .inl z
    · exact .inr z
    · rw [List.getElem?_eq_none_iff] at z2
      have := (List.getElem?_eq_some_iff.mp h).1
      rw [restR_len, lens] at this
      omega
  have inOwn : ∀ {i : Nat} {s : Slot} {a : Addr}, i ∈ vs → ρ1[i]? = some (some s) → s.m.isOwn = true → σ[i]? = some (some (.ref a)) → ¬ Own (wipe σ vs) (wipeR ρ1 vs) a := fun {i s a} hm h1 h2 h3 ⟨j, t, q1, q2, q3⟩ => by
    obtain ⟨z1, z2⟩ := wipeR_get q1
    rw [wipe_of z2] at q3
    have := Rr.inj i j s t a h1 z1 h2 q2 h3 q3
    subst this
    exact z2 hm
  refine ⟨⟨g.b, fun a o h n => g.k a o h fun z => n (own_wipe z), fun a h1 h2 => (g.f a h1 h2).imp id own_wipe, g.t, fun a ⟨i, s, h1, h2, h3⟩ => ?_, fun i s h1 h2 => ⟨rfl, ?_⟩, fun i s h1 h2 => ⟨rfl, ?_⟩⟩, ⟨by rw [restR_len, lens]; exact Rr.len, Re.ex, fun i s h1 h2 => ?_, fun i s h1 h2 => ?_, fun i j s t a h1 h2 h3 h4 h5 h6 => ?_⟩⟩
  · rcases get h1 with ⟨z1, z2⟩ | ⟨z1, z2⟩
    · rcases g.o a ⟨i, s, z2, h2, by rw [wipe_of z1]; exact h3⟩ with w | w
      · exact .inl (own_wipe w)
      · exact .inr w
    · exact .inl ⟨i, s, z2, h2, h3⟩
  · by_cases hm : i ∈ vs
    · exact ⟨s, restR_in hm h1 (by rw [lens]; exact (List.getElem?_eq_some_iff.mp h1).1), h2⟩
    · obtain ⟨_, s', e2, e3⟩ := g.io i s (by rw [wipeR_of hm]; exact h1) h2
      exact ⟨s', by rw [restR_of hm]; exact e2, e3⟩
  · by_cases hm : i ∈ vs
    · exact restR_in hm h1 (by rw [lens]; exact (List.getElem?_eq_some_iff.mp h1).1)
    · obtain ⟨_, e2⟩ := g.lk i s (by rw [wipeR_of hm]; exact h1) h2
      rw [restR_of hm]; exact e2
  · rcases get h1 with ⟨z1, z2⟩ | ⟨z1, z2⟩
    · obtain ⟨v, e1, e2⟩ := Re.val i s z2 h2
      exact ⟨v, by rw [← wipe_of z1]; exact e1, e2⟩
    · obtain ⟨v, e1, e2⟩ := Rr.val i s z2 h2
      exact ⟨v, e1, e2.mono g.b⟩
  · rcases get h1 with ⟨z1, z2⟩ | ⟨z1, z2⟩
    · obtain ⟨a, ws, xs, e1, e2⟩ := Re.own i s z2 h2
      exact ⟨a, ws, xs, by rw [← wipe_of z1]; exact e1, e2⟩
    · obtain ⟨a, ws, xs, e1, e2, e3, e4, e5⟩ := Rr.own i s z2 h2
      have no := inOwn z1 z2 h2 e1
      refine ⟨a, ws, xs, e1, e2, ?_, g.k a _ e4 no, e5.mono g.b⟩
      refine Classical.byContradiction fun q => ?_
      rcases g.f a e3 q with w | w
      · rw [e4] at w; cases w
      · exact no w
  · have cross : ∀ {i j : Nat} {s t : Slot}, i ∉ vs → ρe[i]? = some (some s) → s.m.isOwn = true → σ[i]? = some (some (.ref a)) → j ∈ vs → ρ1[j]? = some (some t) → t.m.isOwn = true → σ[j]? = some (some (.ref a)) → False := fun {i j s t} q1 q2 q3 q4 q5 q6 q7 q8 => by
      rcases g.o a ⟨i, s, q2, q3, by rw [wipe_of q1]; exact q4⟩ with w | w
      · exact inOwn q5 q6 q7 q8 w
      · obtain ⟨_, ws, z⟩ := Rr.owned ⟨j, t, q6, q7, q8⟩
        rw [w] at z; cases z
    rcases get h1 with ⟨z1, z2⟩ | ⟨z1, z2⟩
    · rcases get h2 with ⟨z3, z4⟩ | ⟨z3, z4⟩
      · exact Re.inj i j s t a z2 z4 h3 h4 (by rw [wipe_of z1]; exact h5) (by rw [wipe_of z3]; exact h6)
      · exact (cross z1 z2 h3 h5 z3 z4 h4 h6).elim
    · rcases get h2 with ⟨z3, z4⟩ | ⟨z3, z4⟩
      · exact (cross z3 z4 h4 h6 z1 z2 h3 h5).elim
      · exact Rr.inj i j s t a z2 z4 h3 h4 h5 h6
end

section
variable {K : PySem.W.Frag} {mg : Str → Option Value} {E : WX} {σ : L2.St} {H : Hp} {vs : List Nat}
/-- a step's end at an object that is neither frozen nor owned, and that was not at the base -/
theorem put_state {σ0 : L2.St} {ρ0 ρ : R} {Hb0 H0 Hb H : Hp} {σ : L2.St} {D : Addr} {o : HO} (g : Go σ0 ρ0 Hb0 H0 σ ρ Hb H) (Rr : Rel K Hb H σ ρ) (h0 : H0 D = none) (hb : Hb D = none) (ho : ¬ Own σ ρ D) :
    Go σ0 ρ0 Hb0 H0 σ ρ Hb (upd H D o) ∧ Rel K Hb (upd H D o) σ ρ := by
  have ne : ∀ {a : Addr} {x : HO}, Hb a = some x → a ≠ D := fun h e => by rw [e, hb] at h; cases h
  refine ⟨⟨g.b, fun a x h n => ?_, g.f, fun a h => ?_, g.o, g.io, g.lk⟩, ⟨Rr.len, fun a x h => ?_, Rr.val, fun i s h1 h2 => ?_, Rr.inj⟩⟩
  · rw [upd_ne (fun e => by rw [e, h0] at h; cases h)]
    exact g.k a x h n
  · by_cases e : a = D
    · rw [e, upd_same]; simp
    · rw [upd_ne e]; exact g.t a h
  · rw [upd_ne (ne h)]; exact Rr.ex a x h
  · obtain ⟨a, ws, xs, e1, e2, e3, e4, e5⟩ := Rr.own i s h1 h2
    exact ⟨a, ws, xs, e1, e2, e3, by rw [upd_ne fun e => ho ⟨i, s, h1, h2, by rw [← e]; exact e1⟩]; exact e4, e5⟩
theorem wipeR_no {ρ : R} : ∀ i s, (wipeR ρ vs)[i]? = some (some s) → i ∉ vs := fun _ _ h => (wipeR_get h).2
theorem lc_read {it : M Itd} {g : D → M Unit} {t : M Bool} {e : M Res} {Q : VK} (w : tE K mg E (mLc it g t e vs) σ H Q) :
    tLc (tI K mg E (chk it)) (tGt K mg E0W (fun σ σ' => wipe σ' vs = wipe σ vs) g) (tT K mg E0W t) (tE K mg E0W e) vs σ H Q := by
  obtain ⟨Hb, ρ, Rr, out, ρ2, er, h1, h2⟩ := w
  rcases bnd_some er with ⟨I, ρ1, e1, e2⟩ | ⟨x, ρ1, e1, e2⟩
  · obtain ⟨nd, wf⟩ := (chk_ok it).nd ρ I ρ1 e1
    refine ⟨Hb, ρ, Rr, _, _, e1, fun I' q σ1 Hb1 H1 g1 R1 es hd J wk => ?_, fun x q => by cases q⟩
    cases q
    subst es
    intro D hD
    -- the checks
    by_cases hv : (I.lk.all fun p => !vs.contains p.1) = true
    case neg => rw [if_neg hv] at e2; cases e2
    rw [if_pos hv] at e2
    have hv' : ∀ p ∈ I.lk, p.1 ∉ vs := fun p hp z => by
      have := List.all_eq_true.mp hv p hp
      simp [z] at this
    have hdw : Held σ1 I (wipe σ1 vs) (wipeR ρ1 vs) := fun p hp => by
      obtain ⟨z1, m, z2, z3⟩ := hd p hp
      exact ⟨by rw [wipe_of (hv' p hp)], m, z2, by rw [wipeR_of (hv' p hp)]; exact z3⟩
    generalize hl : loopC g t e vs I.items (wipeR ρ1 vs) [] = lr at e2
    cases lr with
    | none => cases e2
    | some pr =>
    obtain ⟨xs, ρe⟩ := pr
    have Rw := rel_wipe (vs := vs) R1
    have hDb : Hb1 D = none := by
      cases z : Hb1 D with
      | none => rfl
      | some o => have := R1.ex D o z; rw [hD] at this; cases this
    have noOwn : ∀ {σ' : L2.St} {ρ' : R} {H' : Hp}, Rel K Hb1 H1 σ' ρ' → ¬ Own σ' ρ' D := fun Rz z => by
      obtain ⟨_, ws, q⟩ := Rz.owned z
      rw [hD] at q; cases q
    refine ⟨fun i m H' => m = I.items.length - i ∧ i ≤ I.items.length ∧ ∃ Hb' ρ' avs acc, Rel K Hb' H' (wipe σ1 vs) ρ' ∧ Go (wipe σ1 vs) (wipeR ρ1 vs) Hb1 H1 (wipe σ1 vs) ρ' Hb' H' ∧ (∀ i s, ρ'[i]? = some (some s) → i ∉ vs) ∧
      H' D = some (.lst avs) ∧ RpAll K Hb' avs acc ∧ Hb' D = none ∧ ¬ Own (wipe σ1 vs) ρ' D ∧ loopC g t e vs (I.items.drop i) ρ' acc = some (xs, ρe), ⟨_, rfl, Nat.zero_le _, ?_⟩, ?_⟩
    · obtain ⟨q1, q2⟩ := put_state (o := .lst []) (Go.refl (σ := wipe σ1 vs) (ρ := wipeR ρ1 vs)) Rw hD hDb (noOwn (H' := H1) Rw)
      exact ⟨Hb1, wipeR ρ1 vs, [], [], q2, q1, wipeR_no, upd_same, .nil, hDb, noOwn (H' := H1) Rw, by rw [List.drop_zero]; exact hl⟩
    rintro i m H' ⟨rfl, hi, Hb', ρ', avs, acc, R', g', nv, hDl, ra, hDb', hDo, e'⟩
    have hh := held_go g' hdw
    obtain ⟨wgo, wstop, wy⟩ := wk.at' (wipe σ1 vs) ρ' Hb' H' R' g'.b hh
    by_cases c : i < I.items.length
    · refine .inr ⟨wgo i c, fun H3 => i + 1 ≤ I.items.length ∧ ∃ Hb' ρ' avs acc, Rel K Hb' H3 (wipe σ1 vs) ρ' ∧ Go (wipe σ1 vs) (wipeR ρ1 vs) Hb1 H1 (wipe σ1 vs) ρ' Hb' H3 ∧ (∀ i s, ρ'[i]? = some (some s) → i ∉ vs) ∧
        H3 D = some (.lst avs) ∧ RpAll K Hb' avs acc ∧ Hb' D = none ∧ ¬ Own (wipe σ1 vs) ρ' D ∧ loopC g t e vs (I.items.drop (i + 1)) ρ' acc = some (xs, ρe), fun H3 q => ⟨I.items.length - (i + 1), by omega, rfl, q⟩, fun x H'' y => ?_⟩
      obtain ⟨Hb'', n, d, hd', rp⟩ := wy i x H'' c y
      have ed : I.items.drop i = d :: I.items.drop (i + 1) := by
        rw [List.drop_eq_getElem_cons c]
        rw [List.getElem?_eq_getElem c] at hd'
        cases hd'
        rfl
      rw [ed] at e'
      have gn := n.go (σ := wipe σ1 vs) (ρ := ρ')
      have gn' := g'.trans gn
      -- D over a step
      have keepD : ∀ {σa σb : L2.St} {ρa ρb : R} {Ha Hc Hba Hbc : Hp} {o : HO}, Go σa ρa Hba Ha σb ρb Hbc Hc → Ha D = some o → Hba D = none → ¬ Own σa ρa D → Hc D = some o ∧ Hbc D = none ∧ ¬ Own σb ρb D := fun {σa σb ρa ρb Ha Hc Hba Hbc o} gg z1 z2 z3 => by
        refine ⟨gg.k D o z1 z3, ?_, fun z => ?_⟩
        · refine Classical.byContradiction fun q => ?_
          rcases gg.f D z2 q with u | u
          · rw [z1] at u; cases u
          · exact z3 u
        · rcases gg.o D z with u | u
          · exact z3 u
          · rw [z1] at u; cases u
      unfold loopC at e'
      split at e'
      case h_2 => cases e'
      rename_i ua ρa ea
      refine ⟨Hb'', ρ', d, n.rel R', rp, _, _, ea, fun u' q σ2 Hb2 H2 g2 R2 w2 => ?_, fun x q => by cases q⟩
      have w2 : wipe σ2 vs = wipe σ1 vs := by rw [w2, wipe_idem]
      have ga := gn.trans g2
      refine ⟨w2, Hb2, ρa, R2, ?_⟩
      split at e'
      case h_3 => cases e'
      · rename_i ρb eb
        refine ⟨_, _, eb, fun b q σ3 Hb3 H3 g3 R3 es => ?_, fun x q => by cases q⟩
        cases q
        subst es
        rw [if_pos rfl]
        split at e'
        case h_2 => cases e'
        rename_i y ρc ec
        split at e'
        case isFalse => cases e'
        rename_i csz
        have S4 : Sat K mg E0W σ3 Hb3 H3 ρb (bnd (mVal e) fun d => ret d) fun d' σ' ρ' Hb' H' => d' = y ∧ ρ' = ρc := by
          refine ⟨.ok y, ρc, ?_, fun a q => ?_, fun x q => by cases q⟩
          · unfold bnd; rw [ec]; rfl
          · cases q; exact fun _ _ _ _ _ => ⟨rfl, rfl⟩
        refine tE_mono (e_val R3 S4) fun v H4 ⟨Hb4, ρ4, d4, R4, rp4, g4, S5⟩ => ?_
        obtain ⟨rfl, rfl⟩ := S5.ret R4 g4
        have gb := (ga.trans g3).trans g4
        obtain ⟨k1, k2, k3⟩ := keepD gb hDl hDb' hDo
        have raa := ra.mono gb.b
        refine ⟨avs, k1, by rw [raa.length]; exact csz, c, ?_⟩
        have gfull := go_wipe (g'.trans gb) w2
        have Rfull : Rel K Hb4 H4 (wipe σ1 vs) (wipeR ρ4 vs) := by rw [← w2]; exact rel_wipe R4
        have no4 : ¬ Own (wipe σ1 vs) (wipeR ρ4 vs) D := fun z => k3 (own_wipe (by rw [w2]; exact z))
        obtain ⟨q1, q2⟩ := put_state (o := .lst (avs ++ [v])) gfull Rfull hD k2 no4
        exact ⟨Hb4, wipeR ρ4 vs, avs ++ [v], acc ++ [d4], q2, q1, wipeR_no, upd_same, raa.append (.cons rp4 .nil), k2, no4, e'⟩
      · rename_i ρb eb
        refine ⟨_, _, eb, fun b q σ3 Hb3 H3 g3 R3 es => ?_, fun x q => by cases q⟩
        cases q
        subst es
        rw [if_neg (by decide)]
        have gb := ga.trans g3
        obtain ⟨k1, k2, k3⟩ := keepD gb hDl hDb' hDo
        have gfull := go_wipe (g'.trans gb) w2
        have Rfull : Rel K Hb3 H3 (wipe σ1 vs) (wipeR ρb vs) := by rw [← w2]; exact rel_wipe R3
        have no4 : ¬ Own (wipe σ1 vs) (wipeR ρb vs) D := fun z => k3 (own_wipe (by rw [w2]; exact z))
        exact ⟨c, Hb3, wipeR ρb vs, avs, acc, Rfull, gfull, wipeR_no, k1, ra.mono gb.b, k2, no4, e'⟩
    · have ei : i = I.items.length := by omega
      subst ei
      refine .inl ⟨wstop, ?_⟩
      rw [List.drop_length] at e'
      cases e'
      obtain ⟨gr, Rz⟩ := rest_state R1 g' R' nv
      have hh2 := held_go gr hd
      rcases bnd_some e2 with ⟨u, ρ3, f1, f2⟩ | ⟨x, ρ3, f1, f2⟩
      · obtain ⟨_, z2, z3, z4⟩ := unlock_go (g1.trans gr) Rz wf (fun p hp => (hh2 p hp).2) nd f1
        cases f2
        refine h1 _ rfl σ1 Hb' H' z2 z3 rfl (.ref D) ⟨D, avs, rfl, hDb', hDl, ra, ?_, fun z => ?_⟩
        · exact Classical.byContradiction fun z => g1.t D z hD
        · have hz := z4 D z
          rcases gr.o D hz with q | q
          · exact noOwn (H' := H1) R1 q
          · obtain ⟨i, s, q1, q2, q3⟩ := hz
            rcases restR_get q1 with ⟨p1, p2⟩ | ⟨p1, p2⟩ | ⟨p1, p2⟩
            · exact hDo ⟨i, s, p2, q2, by rw [wipe_of p1]; exact q3⟩
            · exact noOwn (H' := H1) R1 ⟨i, s, p2, q2, q3⟩
            · rw [List.getElem?_eq_none_iff] at p2
              have l1 := R1.len
              have := (List.getElem?_eq_some_iff.mp q3).1
              omega
      · obtain ⟨z1, _⟩ := unlock_go (g1.trans gr) Rz wf (fun p hp => (hh2 p hp).2) nd f1
        cases z1
  · cases e2
    refine ⟨Hb, ρ, Rr, _, _, e1, fun I' q => (by cases q), fun x' q σ1 c d Hb1 H1 g1 R1 xr => ?_⟩
    cases q
    exact h2 _ rfl σ1 c d Hb1 H1 g1 R1 xr
end
section
variable {X : Cx} {E : WX} {elt tg iter : Expr} {scope : Scope} {own : List (Str × Nat)} {pos : Pos} {mi : M Itd} {g : D → M Unit} {me : M Res} {mt : M Bool} {ifs : List Expr}
theorem me_lc (hc : X.calm = true) (hN : X.N.Nodup) (hi : PI X tg iter (tI X.K X.mg E mi)) (ok : BlkOk X.N X.env.scope scope own)
    (hg : ∀ (s : Shared) (H : Hp) (C : Addr) (cl : List (Str × Addr)) (fp : List Addr), PG (X.blk s H scope (compEnvC scope cl C X.env) fp) tg (tGt X.K X.mg E0W (fun σ σ' => wipe σ' (own.map (·.2)) = wipe σ (own.map (·.2))) g)) (ht : ∀ (s : Shared) (H : Hp) (C : Addr) (cl : List (Str × Addr)) (fp : List Addr), PTs (X.blk s H scope (compEnvC scope cl C X.env) fp) ifs (tT X.K X.mg E0W mt))
    (he : ∀ (s : Shared) (H : Hp) (C : Addr) (cl : List (Str × Addr)) (fp : List Addr), PE (X.blk s H scope (compEnvC scope cl C X.env) fp) elt (tE X.K X.mg E0W me)) (hs : ∀ x, foldedSetIterable iter X.env x = pure x := by intro _; rfl) :
    PE X (.ListComp elt [⟨tg, iter, ifs, 0⟩] scope pos) (tE X.K X.mg E (mLc mi g mt me (own.map (·.2)))) :=
  (pe_lc hc hN (PI_imp hi fun σ H Rc w => tI_chk w) ok hg ht he hs).imp fun σ H Q w => lc_read w
theorem mts_nil : PTs X [] (tT X.K X.mg E0W (ret true)) := ⟨fun pins s σ H Q I h => pts_nil.run pins s σ H Q I (by
  obtain ⟨Hb, ρ, Rr, S⟩ := h
  exact S.ret Rr rfl)⟩
theorem mts_one {c : Expr} (h : PT X c (tT X.K X.mg E0W mt)) : PTs X [c] (tT X.K X.mg E0W mt) := pts_one h
theorem ms_setLc {i : Nat} {y : Str} {py spos : Pos} (hc : X.calm = true) (hN : X.N.Nodup) (hy : X.N[i]? = some y) (hyl : X.env.scope.names.lookup y = some .local)
    (hsw : swapsWith (.ListComp elt [⟨tg, iter, ifs, 0⟩] scope pos) (some (.Name y py)) spos.line X.env = pure true) (hi : PI X tg iter (tI X.K X.mg E mi)) (ok : BlkOk X.N X.env.scope scope own)
    (hg : ∀ (s : Shared) (H : Hp) (C : Addr) (cl : List (Str × Addr)) (fp : List Addr), PG (X.blk s H scope (compEnvC scope cl C X.env) fp) tg (tGt X.K X.mg E0W (fun σ σ' => wipe σ' (own.map (·.2)) = wipe σ (own.map (·.2))) g)) (ht : ∀ (s : Shared) (H : Hp) (C : Addr) (cl : List (Str × Addr)) (fp : List Addr), PTs (X.blk s H scope (compEnvC scope cl C X.env) fp) ifs (tT X.K X.mg E0W mt))
    (he : ∀ (s : Shared) (H : Hp) (C : Addr) (cl : List (Str × Addr)) (fp : List Addr), PE (X.blk s H scope (compEnvC scope cl C X.env) fp) elt (tE X.K X.mg E0W me)) (hs : ∀ x, foldedSetIterable iter X.env x = pure x := by intro _; rfl) :
    PS X (.Assign [.Name y py] (.ListComp elt [⟨tg, iter, ifs, 0⟩] scope pos) spos) (tS X.K X.mg E (mAsg i (mLc mi g mt me (own.map (·.2))))) :=
  (ps_setLc hc hN hy hyl hsw (PI_imp hi fun σ H Rc w => tI_chk w) ok hg ht he hs).imp fun De σ H w => lc_read (asg_read w)
end
end Mi

/-! Mi: repr, isinstance, lcm, reversed slices, in. -/
namespace Mi
open PySem L2 Evl PySem.Spec PyProof.Rows
section
variable {X : Cx} {K : PySem.W.Frag}
theorem lay_noDict : ∀ {d : D}, d.canLay0 = true → d.hasDict = false
  | .none, _ => rfl
  | .bool _, _ => rfl
  | .int _, _ => rfl
  | .str _, _ => rfl
  | .list xs, h => by
    have h : PyData.canLayAll0 xs = true := by simpa only [PyData.canLay0] using h
    show PyData.hasDictAll xs = false
    exact go h
  | .tuple xs, h => by
    have h : PyData.canLayAll0 xs = true := by simpa only [PyData.canLay0] using h
    show PyData.hasDictAll xs = false
    exact go h
  | .dict _, h => by simp [PyData.canLay0] at h
where
  go : ∀ {xs : List D}, PyData.canLayAll0 xs = true → PyData.hasDictAll xs = false
  | [], _ => rfl
  | x :: xs, h => by
    simp only [PyData.canLayAll0, Bool.and_eq_true] at h
    simp only [PyData.hasDictAll, Bool.or_eq_false_iff]
    exact ⟨lay_noDict h.1, go h.2⟩
theorem cr_repr (hg : X.A.guards = some []) (hu : X.A.units + 70 < cLine) : CallR X (.builtin "repr") (rRepr X.K) := by
  intro pins s σ H vs us Q I r h
  obtain ⟨v, d, rfl, hd, ok, q⟩ := h
  obtain ⟨u, rfl, rv⟩ := vals1 r
  unfold reprOk at ok
  simp only [Bool.and_eq_true, decide_eq_true_eq] at ok
  obtain ⟨⟨⟨o1, o2⟩, o3⟩, o4⟩ := ok
  have fin : ∀ (h' : Heap) (t tk : Nat), (∀ b o, s.heap.get? b = some o → h'.get? b = some o) → EP X pins σ Q (.str d.shown t) { s with heap := h', toks := tk } := fun h' t tk k => ⟨.str _, H, I.kept k, ⟨t, rfl⟩, q⟩
  have tok : EP X pins σ Q (.str d.shown s.toks) { s with toks := s.toks + 1 } := ⟨.str _, H, I.tok _, ⟨_, rfl⟩, q⟩
  obtain ⟨as, rd⟩ := Dp.reads I d v u hd rv
  have nd := lay_noDict o1
  cases hd with
  | non => cases rd; exact PySem.P.repr_of_none tok
  | bl b => cases rd; exact PySem.P.repr_of_bool tok
  | int i => cases rd; exact PySem.P.repr_of_int (by simpa [PyData.showable] using o2) tok
  | str x => cases rd; exact PySem.P.repr_of_str tok o4
  | lst _ _ =>
    cases rd with
    | list h1 h2 h3 h4 => exact repr_of_reads' (.list h1 h2 h3 h4) o2 (fun z => by rw [nd] at z; cases z) hg (by omega) (fun _ _ z => z) (fun h' u tk k => fin h' u tk k) o4
  | tup _ _ =>
    cases rd with
    | tuple h1 h2 h3 h4 => exact repr_of_reads' (.tuple h1 h2 h3 h4) o2 (fun z => by rw [nd] at z; cases z) hg (by omega) (fun _ _ z => z) (fun h' u tk k => fin h' u tk k) o4
end

/-! ### isinstance -/
def tyD : D → String
  | .none => "NoneType"
  | .bool _ => "bool"
  | .int _ => "int"
  | .str _ => "str"
  | .list _ => "list"
  | .tuple _ => "tuple"
  | .dict _ => "dict"
/-- of the type T (int, bool, str, list, tuple, dict) -/
def isK (T : String) (d : D) : Bool := T == tyD d || (T == "int" && tyD d == "bool")
def kinds : List String := ["int", "bool", "str", "list", "tuple", "dict"]
theorem kit_all : ∀ T ∈ kinds, ∀ a ∈ "NoneType" :: kinds, kitB a T = some (T == a || (T == "int" && a == "bool")) := by decide +kernel
theorem tyD_mem (d : D) : tyD d ∈ "NoneType" :: kinds := by cases d <;> simp [tyD, kinds]
theorem kit_isK {T : String} (h : kinds.contains T = true) (d : D) : kitB (tyD d) T = some (isK T d) := kit_all T (by simpa using h) _ (tyD_mem d)
theorem tyx_of {K : PySem.W.Frag} {H : Hp} {v : V} {d : D} (h : Rp K H v d) : TyX K H v (.type (tyD d)) := by
  cases h with
  | non => exact .base .non
  | bl b => exact .base (.bl b)
  | int i => exact .base (.int i)
  | str x => exact .base (.str x)
  | lst s _ =>
    rcases s with (q | ⟨o, q⟩) | ⟨o, its, n, q, c, _⟩
    · exact .base (.lst q)
    · exact .base (.frz q)
    · exact .kList q c
  | tup s _ =>
    rcases s with (q | ⟨o, q⟩) | ⟨o, its, n, q, c, _⟩
    · exact .base (.tup q)
    · exact .fTuple q
    · exact .kTuple q c
  | dct h _ =>
    rcases h with q | ⟨o, q⟩
    · exact .base (.dK q)
    · exact .fDict q
def isiD (Ts : List String) (d : D) : Option Res := if Ts.all fun T => kinds.contains T then some (.val (.bool (Ts.any fun T => isK T d))) else none
def mIsi (Ts : List String) (m : M Res) : M Res := bnd (thaw m) fun x => fun ρ => match look x ρ with
  | some d => match isiD Ts d with
    | some r => some (.ok r, ρ)
    | none => none
  | none => none
theorem isi_kitAny {K : PySem.W.Frag} {d : D} : ∀ {Ts : List String}, Ts.all (fun T => kinds.contains T) = true → PySem.W.kitAny K (.type (tyD d)) (Ts.map Value.type) = some (Ts.any fun T => isK T d)
  | [], _ => kitAny_nil
  | T :: Ts, h => by
    rw [List.all_cons, Bool.and_eq_true] at h
    refine kitAny_cons (kit_ty (kit_isK h.1 d)) (fun e => ?_) (fun e => by rw [List.any_cons, e, Bool.true_or])
    rw [isi_kitAny h.2, List.any_cons, e, Bool.false_or]
theorem cls_pair : ∀ Ts : List String, Paired ClsV (Ts.map V.ty) (Ts.map Value.type)
  | [] => .nil
  | T :: Ts => .cons (.ty T) (cls_pair Ts)
section
variable {X : Cx} {E : WX} {e : Expr} {p p1 p2 pos : Pos} {m : M Res} {T : Str}
theorem isi_read {σ : L2.St} {H : Hp} {Q : VK} {Ts : List String} (w : tE X.K X.mg E (mIsi Ts m) σ H Q) : tE X.K X.mg E m σ H fun v H1 => (Ts.all fun T => kinds.contains T) = true ∧ ∃ d, TyX X.K H1 v (.type (tyD d)) ∧ (∀ p o, H1 p = none → TyX X.K (upd H1 p o) v (.type (tyD d))) ∧ Q (.bl (Ts.any fun T => isK T d)) H1 ∧ ∀ p o, H1 p = none → Q (.bl (Ts.any fun T => isK T d)) (upd H1 p o) := by
  obtain ⟨Hb, ρ, R, S⟩ := w
  refine tE_mono (e_thaw R S) fun v H1 ⟨Hb1, ρ1, x, R1, rx, g1, out, ρ', eo, h1, h2⟩ => ?_
  dsimp only at eo
  split at eo
  · rename_i d hd
    unfold isiD at eo
    split at eo
    · rename_i r hr
      split at hr
      · rename_i c
        cases hr
        cases eo
        have tp := repA_top R1 rx hd
        refine ⟨c, d, tyx_of (tp.rp R1.ex), fun p o hp => ?_, h1 _ rfl σ Hb1 H1 Go.refl R1 g1 rfl _ (.bl _), fun p o hp => ?_⟩
        · have n := New.mut (o := o) R1.ex hp
          exact tyx_of ((tp.mono n).rp (n.rel R1).ex)
        · have n := New.mut (o := o) R1.ex hp
          exact h1 _ rfl σ _ _ n.go (n.rel R1) (g1.trans n.go) rfl _ (.bl _)
      · cases hr
    · cases eo
  · cases eo
theorem me_isi1 (hg : Gl X "isinstance") (hm : X.mg "isinstance" = none) (hgT : Gl X T) (hmT : X.mg T = none) (S : String) (hv : bootBuiltins T = some (.type S)) (he : PE X e (tE X.K X.mg E m)) (hn : T ≠ "__name__" := by decide) (hd : (T == ("__debug__" : Str)) = false := by decide)
    (hs : starEach [e, .Name T p2] X.env = [(false, eval e X.env), (false, eval (.Name T p2) X.env)] := by rfl) (hs2 : starEach [.Name T p2] X.env = [(false, eval (.Name T p2) X.env)] := by rfl) (hpl : (backTo pos (starEach [.Name T p2] X.env)).any (·.1) = false := by rfl) :
    PE X (.Call (.Name "isinstance" p) [e, .Name T p2] [] pos) (tE X.K X.mg E (mIsi [S] m)) :=
  (pe_callB call_isi hg hm rfl (pa_cons he (pa_cons (pe_bltn hgT hmT hv (v := .ty S) rfl hn hd) pa_nil hs2) hs) (by decide) (by decide) hs hpl).imp fun σ H Q w => by
    refine tE_mono (isi_read w) fun v H1 ⟨c, d, ty, _, q, _⟩ => ?_
    have k := kit_isK (T := S) (by simpa using c) d
    refine ⟨v, .ty S, _, .type S, _, rfl, .ty S, ty, kit_ty k, ?_⟩
    simpa using q
theorem me_isi2 {T2 : Str} {p3 p4 : Pos} {kk : Nat} (hg : Gl X "isinstance") (hm : X.mg "isinstance" = none) (hgT : Gl X T) (hmT : X.mg T = none) (S : String) (hv : bootBuiltins T = some (.type S)) (hgT2 : Gl X T2) (hmT2 : X.mg T2 = none) (S2 : String) (hv2 : bootBuiltins T2 = some (.type S2)) (he : PE X e (tE X.K X.mg E m)) (hn : T ≠ "__name__" := by decide) (hd : (T == ("__debug__" : Str)) = false := by decide) (hn2 : T2 ≠ "__name__" := by decide) (hd2 : (T2 == ("__debug__" : Str)) = false := by decide)
    (hs : starEach [e, .Tuple [.Name T p2, .Name T2 p3] kk p4] X.env = [(false, eval e X.env), (false, eval (.Tuple [.Name T p2, .Name T2 p3] kk p4) X.env)] := by rfl) (hs2 : starEach [.Tuple [.Name T p2, .Name T2 p3] kk p4] X.env = [(false, eval (.Tuple [.Name T p2, .Name T2 p3] kk p4) X.env)] := by rfl) (hpl : (backTo pos (starEach [.Tuple [.Name T p2, .Name T2 p3] kk p4] X.env)).any (·.1) = false := by rfl)
    (hs3 : starEach [.Name T p2, .Name T2 p3] X.env = [(false, eval (.Name T p2) X.env), (false, eval (.Name T2 p3) X.env)] := by rfl) (hs4 : starEach [.Name T2 p3] X.env = [(false, eval (.Name T2 p3) X.env)] := by rfl) :
    PE X (.Call (.Name "isinstance" p) [e, .Tuple [.Name T p2, .Name T2 p3] kk p4] [] pos) (tE X.K X.mg E (mIsi [S, S2] m)) :=
  (pe_callB call_isiT hg hm rfl (pa_cons he (pa_cons (pe_tup (pa_cons (pe_bltn hgT hmT hv (v := .ty S) rfl hn hd) (pa_cons (pe_bltn hgT2 hmT2 hv2 (v := .ty S2) rfl hn2 hd2) pa_nil hs4) hs3)) pa_nil hs2) hs) (by decide) (by decide) hs hpl).imp fun σ H Q w => by
    refine tE_mono (isi_read w) fun v H1 ⟨c, d, _, ty, _, q⟩ => ?_
    have k := isi_kitAny (K := X.K) (d := d) (Ts := [S, S2]) c
    refine ⟨by show 2 ≤ sizeLine; decide, fun p hp => ⟨v, p, [.ty S, .ty S2], _, [.type S, .type S2], _, rfl, upd_same, cls_pair [S, S2], ty p _ hp, k, ?_⟩⟩
    exact q p _ hp
end
/-! ### lcm, reversed lists, in -/
def lcmD : List D → Option Res
  | [.int i, .int j] => if i.natAbs.log2 < 9000 ∧ j.natAbs.log2 < 9000 then some (.val (.int ((Nat.lcm i.natAbs j.natAbs : Nat) : Int))) else none
  | _ => none
def rLcm : List V → Hp → VK → Prop := fun vs H Q => ∃ a b : Int, vs = [.int a, .int b] ∧ a.natAbs.log2 < 9000 ∧ b.natAbs.log2 < 9000 ∧ Q (.int ((Nat.lcm a.natAbs b.natAbs : Nat) : Int)) H
theorem log2_max {a b n : Nat} (ha : a.log2 < n) (hb : b.log2 < n) : (max a b).log2 < n := by
  rcases Nat.le_total a b with h | h
  · rw [Nat.max_eq_right h]; exact hb
  · rw [Nat.max_eq_left h]; exact ha
theorem cr_lcm {X : Cx} : CallR X (.builtin "math.lcm") rLcm := by
  intro pins s σ H vs us Q I r h
  obtain ⟨a, b, rfl, ha, hb, q⟩ := h
  obtain ⟨t, u, rfl⟩ := Vals.int2 r
  have h1 : (max 1 a.natAbs).log2 < 9000 := log2_max (by decide) ha
  have h2 : (max a.natAbs b.natAbs).log2 < 9000 := log2_max ha hb
  have hl : Nat.lcm 1 a.natAbs = a.natAbs := Nat.lcm_one_left _
  have hz : ((((Nat.lcm 1 a.natAbs).lcm b.natAbs : Nat) : Int)).natAbs.log2 < bitsLine := by
    rw [hl, Int.natAbs_natCast]
    have l1 : a.natAbs < 2 ^ 9000 := by
      rcases Nat.eq_zero_or_pos a.natAbs with z | z
      · rw [z]; exact Nat.two_pow_pos _
      · exact (Nat.log2_lt (Nat.pos_iff_ne_zero.mp z)).mp ha
    have l2 : b.natAbs < 2 ^ 9000 := by
      rcases Nat.eq_zero_or_pos b.natAbs with z | z
      · rw [z]; exact Nat.two_pow_pos _
      · exact (Nat.log2_lt (Nat.pos_iff_ne_zero.mp z)).mp hb
    have l3 : Nat.lcm a.natAbs b.natAbs ≤ a.natAbs * b.natAbs := Nat.div_le_self _ _
    have l4 : a.natAbs * b.natAbs < 2 ^ 9000 * 2 ^ 9000 := by
      rcases Nat.eq_zero_or_pos b.natAbs with z | z
      · rw [z, Nat.mul_zero]; exact Nat.mul_pos (Nat.two_pow_pos _) (Nat.two_pow_pos _)
      · exact Nat.mul_lt_mul_of_lt_of_le l1 (Nat.le_of_lt l2) (Nat.two_pow_pos _)
    rw [← Nat.pow_add] at l4
    rcases Nat.eq_zero_or_pos (Nat.lcm a.natAbs b.natAbs) with z | z
    · rw [z]; decide
    · exact Nat.lt_of_lt_of_le ((Nat.log2_lt (Nat.pos_iff_ne_zero.mp z)).mpr (Nat.lt_of_le_of_lt l3 l4)) (by decide)
  refine call_function_meets PySem.W.MGF.kind_lcm PySem.W.MGF.plain_lcm PySem.W.MGF.entry_lcm (PySem.W.MGF.args_lcm _ _) (PySem.W.mg_run_lcm a t b u (by omega) (by omega) hz).meets ?_
  rw [hl]
  exact ⟨.int _, H, I.tok _, ⟨_, rfl⟩, q⟩
theorem cal_lcm {K : PySem.W.Frag} : Cal K rLcm lcmD := by
  intro Hb H vs ds res Q ex hx hf k
  unfold lcmD at hf
  split at hf
  · split at hf
    · rename_i c
      cases hf
      obtain ⟨v, w, rfl, t1, t2⟩ := tops2 hx
      cases t1.int
      cases t2.int
      exact ⟨_, _, rfl, c.1, c.2, k _ Hb H (New.refl ex) (.int _)⟩
    · cases hf
  · cases hf
/-- xs[::-1] of a list -/
def revD : D → Option Res
  | .list xs => some (.fresh xs.reverse)
  | _ => none
theorem me_rev {X : Cx} {E : WX} {e : Expr} {k : Nat} {p1 p2 p3 pos : Pos} {m : M Res} (he : PE X e (tE X.K X.mg E m)) : PE X (.Subscript e (.Slice none none (some (.UnaryOp .USub (.Constant (.int 1) k p1) p2)) p3) pos) (tE X.K X.mg E (mUn revD m)) := (pe_revL he).imp fun σ H Q w => by
  refine tE_mono (un_read w) fun v H1 ⟨Hb, d, res, ex, h1, h2, h3⟩ => ?_
  unfold revD at h2
  split at h2
  · rename_i xs
    cases h2
    obtain ⟨a, vs, rfl, s, r⟩ := h1.list ex
    exact ⟨a, vs, rfl, s, fun p hp => h3 _ Hb _ (New.mut ex hp) ⟨p, _, rfl, fresh_back ex hp, upd_same, r.rev, hp⟩⟩
  · cases h2
end Mi

/-! Mi: the end of a law. -/
namespace Mi
open PySem L2 Evl PySem.Spec PyProof.Rows

/-- the promise of a law's function over data -/
def LawOk (F : Fn) : Prop := ∀ ns : List Int, ns.length ≤ 63 → (∀ z ∈ ns, Builtin.Int.intBits z ≤ 1048576) → ∃ y, F [.list (ns.map PyData.int)] = some (.ok (.val (.bool true)), y)
theorem rp_ints {K : PySem.W.Frag} {H : Hp} : ∀ ns : List Int, RpAll K H (ns.map V.int) (ns.map PyData.int)
  | [] => .nil
  | n :: ns => .cons (.int n) (rp_ints ns)
theorem end_sp {K : PySem.W.Frag} {mg : Str → Option Value} {F : Fn} {H : Hp} {a : Addr} {ns : List Int} {y : D} (hF : F [.list (ns.map PyData.int)] = some (.ok (.val (.bool true)), y)) (hS : SqL K H a (ns.map V.int)) :
    spF K mg 1 none F [.ref a] H (fun v _ => v = .bl true) fun _ _ _ => False := by
  refine ⟨rfl, H, [.list (ns.map PyData.int)], Ex.refl _, ⟨rfl, fun i d hi _ => ?_, fun i h => by cases h⟩, _, y, hF, fun r q v Hb' H' _ _ rr => ?_, fun e q => by cases q⟩
  · cases i with
    | zero =>
      cases hi
      exact ⟨_, rfl, .lst hS (rp_ints ns)⟩
    | succ i => simp at hi
  · cases q
    exact Rp.bool_inv rr
/-- a frame for the script alone: its heap of tracked objects -/
structure Lone (P : Program) (w : World) (K : PySem.W.Frag) (h : Heap) (a : Addr) (ns : List Int) (H : Hp) : Prop where
  only : ∀ b u, H b = some u → b = a ∧ K.lookup a = none ∧ ∃ o xs, u = .frz o (.lst xs)
  seq : SqL K H a (ns.map V.int)
  ok : HOk P w H h
theorem lone {P : Program} {w : World} {K : PySem.W.Frag} {h : Heap} {a : Addr} {vs : List Value} {ns : List Int} (KX : K.In h) (ha : h.get? a = some { cls := .type "list", data := .seq vs.toArray }) (hi : IntsAre vs ns) (hl : ns.length ≤ sizeLine) : ∃ H, Lone P w K h a ns H := by
  have rv : Vals (ns.map V.int) vs := vals_ints hi
  cases hk : K.lookup a with
  | some o =>
    have e := KX a o hk
    rw [ha] at e
    cases e
    refine ⟨fun _ => none, fun b u z => (nomatch z), .inr ⟨_, vs.toArray, _, hk, rfl, rfl, rfl, ?_, by simpa using rv⟩, fun b u z => (nomatch z)⟩
    rw [List.size_toArray, hi.length]
    exact hl
  | none =>
    have at_a : ∀ {b : Addr} {u : HO}, (if b = a then some (HO.frz { cls := .type "list", data := .seq vs.toArray } (.lst (ns.map V.int))) else none) = some u → b = a ∧ u = HO.frz { cls := .type "list", data := .seq vs.toArray } (.lst (ns.map V.int)) := fun {b u} z => by
      split at z
      · rename_i e
        exact ⟨e, (Option.some.inj z).symm⟩
      · cases z
    refine ⟨fun b => if b = a then some (.frz { cls := .type "list", data := .seq vs.toArray } (.lst (ns.map V.int))) else none, fun b u z => ?_, .inl (.inr ⟨_, if_pos rfl⟩), fun b u z => ?_⟩
    · obtain ⟨e1, e2⟩ := at_a z
      exact ⟨e1, hk, _, _, e2⟩
    · obtain ⟨e1, e2⟩ := at_a z
      subst e1
      subst e2
      exact ⟨ha, by rw [List.length_map]; exact hl, vs, _, rv, ha⟩
/-- the call of the law behind the top -/
theorem call_end {P : Program} {w : World} {K : PySem.W.Frag} {mg mb : Str → Option Value} {k : Nat} {fa a : Addr} {fd : FuncData} {x : Str} {F : Fn} {s : Shared} {vs : List Value} {ns : List Int}
    (KX : K.In s.heap) (glob : s.heap.Ns mainGlobals mg) (blt : s.heap.Ns builtinsNs mb) (names : ∀ z : Str, z ≠ "__name__" → mb z = bootBuiltins z) (lim : s.heap.NoLimit) (gens : s.gens = #[])
    (ha : s.heap.get? a = some { cls := .type "list", data := .seq vs.toArray }) (hi : IntsAre vs ns) (hl : ns.length ≤ sizeLine) (hr : Room k callerA)
    (fn : ∀ base : Heap, K.In base → base.Ns mainGlobals mg → FnG P w K mg base (L2.CX P w) k fa fd [x] (spF K mg 1 none F)) (bind : ∀ (s : Shared) (u : Value), BindsTo s fd ⟨[u], []⟩ [(x, u)])
    {y : D} (hF : F [.list (ns.map PyData.int)] = some (.ok (.val (.bool true)), y)) :
    codeAny (model P w) callerA (.call (.ref fa) ⟨[.ref a], []⟩) (fun r s' => r = .ok (.ret (.bool true)) ∧ OldK s.heap s'.heap ∧ s'.os = s.os ∧ AllBare s'.gens) s := by
  obtain ⟨H, L⟩ := lone (P := P) (w := w) KX ha hi hl
  -- what is no list is not tracked
  have free : ∀ {b : Addr} {o : Obj} {es : Array DictEntry} {n : Nat}, s.heap.get? b = some o → o.data = .dict es n → H b = none := fun {b o es n} e d => by
    cases q : H b with
    | none => rfl
    | some u =>
      obtain ⟨rfl, _⟩ := L.only b u q
      rw [ha] at e
      cases e
      exact Data.noConfusion d
  have hid : ∀ {b : Addr} {o : Obj}, s.heap.get? b = some o → H b = none → (hidT s.heap H).get? b = some o := hidT_get
  have ns_hid : ∀ {b : Addr} {m : Str → Option Value}, s.heap.Ns b m → (hidT s.heap H).Ns b m := fun {b m} ⟨o, es, n, e, d, r⟩ => ⟨o, es, n, hid e (free e d), d, r⟩
  have kin : K.In (hidT s.heap H) := fun b o e => by
    refine hid (KX b o e) ?_
    cases q : H b with
    | none => rfl
    | some u =>
      obtain ⟨rfl, hk, _⟩ := L.only b u q
      rw [hk] at e
      cases e
  obtain ⟨mc, l1, l2⟩ := lim
  have md : Mod K mg (hidT s.heap H) := ⟨kin, ns_hid glob, ⟨mb, ns_hid blt, names⟩, mc, ns_hid l1, l2⟩
  have nofr : ∀ b, b ∈ frs ([] : List Env) → False := fun b hb => (List.not_mem_nil hb)
  have e0 : Env0 P w K mg (hidT s.heap H) callerA [] s H := ⟨rfl, md, fun _ _ e => of_hidT e, Nat.le_of_eq (hidT_size _ _), trivial, fun b hb => (nofr b hb).elim, L.ok, .of_eq gens⟩
  have run := (fn _ kin (ns_hid glob)).run callerA [] s H ⟨[.ref a], []⟩ [.ref a] [.ref a] _ _ hr rfl e0 (bind s _) (.cons rfl .nil) (end_sp (mg := mg) hF L.seq)
  refine codeAny_mono run fun r s' h => ?_
  cases r with
  | error e =>
    obtain ⟨_, _, _, _, _, _, _, _, _, _, _, _, z⟩ := h
    exact z.elim
  | ok fl =>
    cases fl with
    | next => exact False.elim h
    | brk => exact False.elim h
    | cont => exact False.elim h
    | ret u =>
      obtain ⟨v, H', os, bare, un, ok', rv, q⟩ := h
      have q : v = .bl true := q
      subst q
      cases (show u = Value.bool true from rv)
      refine ⟨rfl, .of_keep fun b o e => ?_, os, bare⟩
      cases q : H b with
      | none => exact un.keep b o e q (fun z => (nofr b z).elim) (by simp)
      | some u =>
        obtain ⟨_, _, ob, xs, rfl⟩ := L.only b u q
        have q1 := (L.ok b _ q).1
        have q2 := (ok' b _ (un.frzs b ob _ q)).1
        rw [e] at q1
        cases q1
        exact q2
/-- the goal that k_head leaves -/
theorem law_end {l : PySem.W.OpenLaw} {k : Nat} {q : Program} {loose : List Str} {XP : (Str → Option Value) → Heap → Prop} {YP : World → Heap → Prop} {d : DefRec} {K : Params → PySem.W.Frag} {F : Fn}
    (hn : l.most = some 63) (hdf : d.params.defaults = []) (hr : Room k callerA) (hY : ∀ (w : World) (h : Heap), YP w h → (K w.params).In h)
    (fn : ∀ (w : World) (mg : Str → Option Value) (fa : Addr) (h : Heap), (K w.params).In h → h.Ns mainGlobals mg → mg d.name = some (.ref fa) →
      ∃ fd : FuncData, (∀ (s : Shared) (u : Value), BindsTo s fd ⟨[u], []⟩ [("script", u)]) ∧ ∀ base : Heap, (K w.params).In base → base.Ns mainGlobals mg → FnG l.prog w (K w.params) mg base (L2.CX l.prog w) k fa fd ["script"] (spF (K w.params) mg 1 none F))
    (hF : LawOk F) : PySem.W.WalkO q loose XP YP l.row.toRowW d [] (fun f vs => PySem.call f vs) := by
  refine Att.attach_callB hn hdf fun w s₀ s mg mb fa o pm cd doc a vs ns G Y ho hd hcd hmg hobj hints hlen hbits hg => ?_
  have KX := hY w _ Y
  obtain ⟨fd, hb, hfn⟩ := fn w mg fa _ KX G.T.g hmg
  obtain ⟨y, hy⟩ := hF ns hlen hbits
  exact call_end KX G.T.g G.T.b G.T.builtins G.T.nolimit hg hobj hints (Nat.le_trans hlen (by decide)) hr hfn hb hy
end Mi

/-! Mi: calls of defs by their names. -/
namespace Mi
open PySem L2 Evl PySem.Spec PyProof.Rows

/-- what a caller knows of a def: the name x, bound to the def y that stands at st -/
structure Kn (P : Program) (w : World) (K : PySem.W.Frag) (mg : Str → Option Value) (base : Heap) (k : Nat) (x y : Str) (st : Stmt) (ps : List Str) (io : Option Nat) (F : Fn) : Prop where
  it : ∃ (f : Addr) (fd : FuncData), FnG P w K mg base (L2.CX P w) k f fd ps (spF K mg ps.length io F) ∧ mg x = some (.ref f) ∧ Fun K y y st f fd
theorem Kn.mono {P : Program} {w : World} {K : PySem.W.Frag} {mg : Str → Option Value} {base : Heap} {j k : Nat} {x y : Str} {st : Stmt} {ps : List Str} {io : Option Nat} {F : Fn} (h : Kn P w K mg base j x y st ps io F) (hk : j ≤ k) : Kn P w K mg base k x y st ps io F := by
  obtain ⟨f, fd, h1, h2, h3⟩ := h.it
  exact ⟨f, fd, h1.mono hk, h2, h3⟩
/-- how n positional arguments and the keywords ks bind -/
def BindsQ (y : Str) (st : Stmt) (ps : List Str) (n : Nat) (ks : List Str) (ix : List Nat) : Prop := ∀ (kV doc pm : Value) (an : Option Addr) (cdv ct : Value) (us ws : List Value), us.length = n → ws.length = ks.length →
  bindArgs (PySem.W.fnOf y y (defArgs st) (defBody st) (defScope st) .none kV doc pm an cdv ct) ⟨us, ks.zip ws⟩ = pure (ps.zip (gath ix (us ++ ws)))
theorem BindsQ.x {K : PySem.W.Frag} {y : Str} {st : Stmt} {f : Addr} {fd : FuncData} {ps : List Str} {n : Nat} {ks : List Str} {ix : List Nat} (h : BindsQ y st ps n ks ix) (F : Fun K y y st f fd) : BindsX K fd ps n ks [] [] ix := by
  obtain ⟨oc, od, kV, doc, pm, an, cdv, ct, osl, rfl, lk, hcd⟩ := F.ex
  refine ⟨fun s us ws _ h1 h2 => .of_eq ?_, .nil⟩
  rw [h kV doc pm an cdv ct us ws h1 h2, List.append_nil]
/-- all positional, in place -/
def mF (p : Nat) (F : Fn) (io : Option Nat) (as : M (List Res)) : M Res := bnd as fun rs => if rs.length = p then callF F io rs else stuck
/-- with keywords: ix tells where each parameter's value stands in the row of the arguments -/
def mFk (n m : Nat) (ix : List Nat) (F : Fn) (io : Option Nat) (as ks : M (List Res)) : M Res := bnd as fun rs => bnd ks fun qs => if rs.length = n ∧ qs.length = m then callF F io (gath ix (rs ++ qs)) else stuck
section
variable {X : Cx} {E : WX} {x y : Str} {st : Stmt} {ps ks : List Str} {io : Option Nat} {F : Fn} {k n : Nat} {ix : List Nat} {p pos : Pos} {e : Expr} {es : List Expr} {kws : List Keyword} {as qs : M (List Res)}
theorem gath_all {α : Type} : ∀ (pre xs : List α), gath ((List.range xs.length).map (· + pre.length)) (pre ++ xs) = xs
  | pre, [] => rfl
  | pre, a :: xs => by
    have ih := gath_all (pre ++ [a]) xs
    rw [List.append_assoc] at ih
    have e : (List.range (a :: xs).length).map (· + pre.length) = pre.length :: (List.range xs.length).map (· + (pre ++ [a]).length) := by
      rw [List.length_cons, List.range_succ_eq_map, List.map_cons, List.map_map]
      simp only [List.length_append, List.length_cons, List.length_nil, Nat.zero_add]
      congr 1
      apply List.map_congr_left
      intro b _
      show b + 1 + pre.length = b + (pre.length + 1)
      omega
    rw [e]
    unfold gath at ih ⊢
    rw [List.filterMap_cons]
    simp only [List.getElem?_append_right (Nat.le_refl _), Nat.sub_self, List.getElem?_cons_zero]
    rw [show pre ++ a :: xs = pre ++ ([a] ++ xs) from rfl, ih]
theorem gath_id {α : Type} {xs : List α} {p : Nat} (h : xs.length = p) : gath (List.range p) xs = xs := by
  have := gath_all [] xs
  simpa [h] using this
theorem callK_read {σ : L2.St} {H : Hp} {Q : VK} {m : Nat} (hix : ∀ (rs : List Res), rs.length = n + m → (gath ix rs).length = ps.length) (w : tE X.K X.mg E (mFk n m ix F io as qs) σ H Q) : tCallX (spF X.K X.mg ps.length io F) n m [] ix E (tA X.K X.mg E as) (tA X.K X.mg E qs) σ H Q := by
  refine callX_read (dds := []) (fun _ _ => .nil) (fun rs h => hix rs (by simpa using h)) ?_
  have e : mCallX F io n m [] ix as qs = mFk n m ix F io as qs := by
    unfold mCallX mFk
    simp only [List.map_nil, List.append_nil]
  rw [e]
  exact w
theorem callP_read {σ : L2.St} {H : Hp} {Q : VK} {q : Nat} (w : tE X.K X.mg E (mF q F io as) σ H Q) : tCallX (spF X.K X.mg q io F) q 0 [] (List.range q) E (tA X.K X.mg E as) tNil σ H Q := by
  have w2 : tE X.K X.mg E (mFk q 0 (List.range q) F io as aNil) σ H Q := by
    obtain ⟨Hb, ρ, Rr, S⟩ := w
    refine ⟨Hb, ρ, Rr, S.eq ?_⟩
    unfold mF mFk aNil
    show bnd as _ ρ = bnd as _ ρ
    congr 1
    funext rs
    show _ = (if rs.length = q ∧ ([] : List Res).length = 0 then callF F io (gath (List.range q) (rs ++ [])) else stuck)
    by_cases c : rs.length = q
    · rw [if_pos c, if_pos ⟨c, rfl⟩, List.append_nil, gath_id c]
    · rw [if_neg c, if_neg fun z => c z.1]
  have := callX_read (p := q) (dds := []) (dvs := []) (n := q) (m := 0) (ix := List.range q) (fun _ _ => .nil) (fun rs h => by rw [gath_id (by simpa using h)]; simpa using h) (w := (by
    have e : mCallX F io q 0 [] (List.range q) as aNil = mFk q 0 (List.range q) F io as aNil := by
      unfold mCallX mFk
      simp only [List.map_nil, List.append_nil]
    rw [e]; exact w2))
  refine tA_mono this fun vs H1 h => ?_
  obtain ⟨Hb, ρ, Rr, S⟩ := h
  exact S.ret Rr rfl _ .nil
theorem me_call (G : Kn X.prog X.w X.K X.mg X.base k x y st ps io F) (hr : Room k X.A) (hgd : X.A.guards = some []) (hg : Gl X x) (q : Nat) (hq : ps.length = q) (hb : BindsQ y st ps q [] (List.range q)) (hx : ∀ σ, PassesAt (L2.CX X.prog X.w) X σ (fun c d H => E c d σ H))
    (ha : PA X (e :: es) (tA X.K X.mg E as)) (hdb : (x == ("__debug__" : Str)) = false := by decide) (he : starEach (e :: es) X.env = (false, eval e X.env) :: starEach es X.env := by rfl) (hpl : (backTo pos (starEach es X.env)).any (·.1) = false := by rfl) :
    PE X (.Call (.Name x p) (e :: es) [] pos) (tE X.K X.mg E (mF q F io as)) := by
  subst hq
  obtain ⟨f, fd, h1, h2, h3⟩ := G.it
  exact (pe_callX h1 hr hgd hg h2 h3.kp (hb.x h3) hx ha hdb he hpl).imp fun σ H Q w => callP_read w
theorem me_call0 (G : Kn X.prog X.w X.K X.mg X.base k x y st [] io F) (hr : Room k X.A) (hgd : X.A.guards = some []) (hg : Gl X x) (hb : BindsQ y st [] 0 [] []) (hx : ∀ σ, PassesAt (L2.CX X.prog X.w) X σ (fun c d H => E c d σ H))
    (hdb : (x == ("__debug__" : Str)) = false := by decide) : PE X (.Call (.Name x p) [] [] pos) (tE X.K X.mg E (mF 0 F io aNil)) := by
  obtain ⟨f, fd, h1, h2, h3⟩ := G.it
  exact (pe_callX0 h1 hr hgd hg h2 h3.kp (hb.x h3) hx hdb).imp fun σ H Q w => by
    have := callP_read w
    obtain ⟨Hb, ρ, Rr, S⟩ := this
    exact S.ret Rr rfl _ .nil
theorem me_callK (G : Kn X.prog X.w X.K X.mg X.base k x y st ps io F) (hr : Room k X.A) (hgd : X.A.guards = some []) (hg : Gl X x) (hb : BindsQ y st ps n ks ix) (hx : ∀ σ, PassesAt (L2.CX X.prog X.w) X σ (fun c d H => E c d σ H)) (hix : ∀ (rs : List Res), rs.length = n + ks.length → (gath ix rs).length = ps.length)
    (ha : PA X (e :: es) (tA X.K X.mg E as)) (hkw : PK X kws (tA X.K X.mg E qs)) (hall : (backToKw pos (keywordEach kws X.env)).all (·.1.isSome) = true := by rfl) (hks : (backToKw pos (keywordEach kws X.env)).filterMap (·.1) = ks := by rfl)
    (hdb : (x == ("__debug__" : Str)) = false := by decide) (he : starEach (e :: es) X.env = (false, eval e X.env) :: starEach es X.env := by rfl)
    (hpl : ((backTo pos (starEach (e :: es) X.env)).any (·.1) || (backToKw pos (keywordEach kws X.env)).any (·.1.isNone)) = false := by rfl) :
    PE X (.Call (.Name x p) (e :: es) kws pos) (tE X.K X.mg E (mFk n ks.length ix F io as qs)) := by
  obtain ⟨f, fd, h1, h2, h3⟩ := G.it
  exact (pe_callXK h1 hr hgd hg h2 h3.kp (hb.x h3) hx ha hkw hall hks hdb he hpl).imp fun σ H Q w => callK_read hix w
theorem me_callK0 (G : Kn X.prog X.w X.K X.mg X.base k x y st ps io F) (hr : Room k X.A) (hgd : X.A.guards = some []) (hg : Gl X x) (hb : BindsQ y st ps 0 ks ix) (hx : ∀ σ, PassesAt (L2.CX X.prog X.w) X σ (fun c d H => E c d σ H)) (hix : ∀ (rs : List Res), rs.length = 0 + ks.length → (gath ix rs).length = ps.length)
    (hkw : PK X kws (tA X.K X.mg E qs)) (hall : (backToKw pos (keywordEach kws X.env)).all (·.1.isSome) = true := by rfl) (hks : (backToKw pos (keywordEach kws X.env)).filterMap (·.1) = ks := by rfl)
    (hdb : (x == ("__debug__" : Str)) = false := by decide)
    (hpl : ((backTo pos (starEach [] X.env)).any (·.1) || (backToKw pos (keywordEach kws X.env)).any (·.1.isNone)) = false := by rfl) :
    PE X (.Call (.Name x p) [] kws pos) (tE X.K X.mg E (mFk 0 ks.length ix F io aNil qs)) := by
  obtain ⟨f, fd, h1, h2, h3⟩ := G.it
  exact (pe_callXK0 h1 hr hgd hg h2 h3.kp (hb.x h3) hx hkw hall hks hdb hpl).imp fun σ H Q w => by
    have := callK_read hix w
    obtain ⟨Hb, ρ, Rr, S⟩ := this
    exact S.ret Rr rfl _ .nil
end
theorem passB {X : Cx} (σ : L2.St) : PassesAt (L2.CX X.prog X.w) X σ (fun _ _ _ => False) := fun pins H s e s' I h => passL pins σ H s e s' I h
/-- a def, from its body -/
theorem kn_def {P : Program} {w : World} {K : PySem.W.Frag} {mg : Str → Option Value} {base : Heap} {k n : Nat} {io : Option Nat} {f : Addr} {x y : Str} {st : Stmt} {fd : FuncData} {N ps : List Str} {m : M Fl} (F : Fun K y y st f fd) (hm : mg x = some (.ref f)) (S : FnScope N ps (defScope st)) (hN : N.length = n)
    (hbody : ∀ (cdv : Value) (A : Around) (outer : List Env) (s : Shared) (H : Hp) (E : XK), Room k (A.deeper (PyProof.Rows.envOfC y (defScope st) s.heap.objs.size f cdv)) → A.guards = some [] →
      PSs (cxOf (L2.CX P w) P w K mg base N y (defScope st) f cdv A outer s H E) (defBody st) (tS K mg (fun c d _ H => E c d H) m)) :
    Kn P w K mg base (k + 1) x y st ps io (mkFn ps.length n io m) :=
  ⟨f, fd, def_ok F S hN rfl hbody, hm, F⟩
end Mi

/-! Mi: a, b = x, y. -/
namespace Mi
open PySem L2 Evl PySem.Spec PyProof.Rows
def mPar3 (i j l : Nat) (m1 m2 m3 : M Res) : M Fl := bnd (mVal m1) fun d => bnd (mVal m2) fun e => bnd (mVal m3) fun f => bnd (mStore i (.val d)) fun _ => bnd (mStore j (.val e)) fun _ => bnd (mStore l (.val f)) fun _ => ret .nx
section
variable {K : PySem.W.Frag} {mg : Str → Option Value} {E : WX} {De : Ends} {σ : L2.St} {H : Hp}
/-- a store of a datum, then what follows -/
theorem st_run {β : Type} {i : Nat} {d : D} {f : Unit → M β} {Hb : Hp} {ρ : R} {v : V} {P : β → L2.St → R → Hp → Hp → Prop} (Rr : Rel K Hb H σ ρ) (rp : Rp K Hb v d) (S : Sat K mg E σ Hb H ρ (bnd (mStore i (.val d)) f) P) :
    ∃ Hb1 ρ1, Go σ ρ Hb H (σ.set i (some v)) ρ1 Hb1 H ∧ Rel K Hb1 H (σ.set i (some v)) ρ1 ∧ Sat K mg E (σ.set i (some v)) Hb1 H ρ1 (f ()) fun b σ' ρ' Hb' H' => Go σ ρ Hb H σ' ρ' Hb' H' → P b σ' ρ' Hb' H' := by
  obtain ⟨out, ρ5, e5, h1, h2⟩ := S
  rcases bnd_some e5 with ⟨u, ρ3, e3, e4⟩ | ⟨x, ρ3, e3, e4⟩
  · obtain ⟨_, Hb3, g3, R3⟩ := store_run (H1 := H) (r := .val d) Go.refl Rr rp e3
    exact ⟨Hb3, ρ3, g3, R3, out, ρ5, e4, fun a q σ' Hb' H' _ R' g => h1 a q σ' Hb' H' g R', fun e q σ' c dd Hb' H' g R' x => h2 e q σ' c dd Hb' H' (g3.trans g) R' x⟩
  · obtain ⟨z, _⟩ := store_run (H1 := H) (r := .val d) Go.refl Rr rp e3
    cases z
theorem par3_read {i j l : Nat} {m1 m2 m3 : M Res} (w : tS K mg E (mPar3 i j l m1 m2 m3) De σ H) : tPar3 i j l (tCons (tE K mg E m1) (tCons (tE K mg E m2) (tCons (tE K mg E m3) tNil))) De σ H := by
  obtain ⟨Hb, ρ, Rr, S⟩ := w
  refine tE_mono (e_val Rr S) fun v H1 ⟨Hb1, ρ1, d, R1, rp, g1, S1⟩ => ?_
  refine tE_mono (e_val R1 S1) fun u H2 ⟨Hb2, ρ2, e, R2, rq, g2, S2⟩ => ?_
  refine tE_mono (e_val R2 S2) fun z H3 ⟨Hb3, ρ3, f, R3, rz, g3, S3⟩ => ?_
  refine ⟨v, u, z, rfl, ?_⟩
  obtain ⟨Hb4, ρ4, g4, R4, S4⟩ := st_run R3 (rp.mono (g2.trans g3).b) S3
  obtain ⟨Hb5, ρ5, g5, R5, S5⟩ := st_run R4 (rq.mono (g3.trans g4).b) S4
  obtain ⟨Hb6, ρ6, g6, R6, S6⟩ := st_run R5 (rz.mono (g4.trans g5).b) S5
  have q := S6.ret R6 g6
  exact q (g5.trans g6) (g4.trans (g5.trans g6)) (g3.trans (g4.trans (g5.trans g6))) (g2.trans (g3.trans (g4.trans (g5.trans g6)))) (g1.trans (g2.trans (g3.trans (g4.trans (g5.trans g6)))))
end
section
variable {X : Cx} {E : WX} {a b c : Expr} {m1 m2 m3 : M Res} {i j l : Nat} {x y z : Str} {px py pz pt pos pt2 : Pos} {kt k2 : Nat}
theorem ms_par (hc : X.calm = true) (hN : X.N.Nodup) (i j : Nat) (ha : PE X a (tE X.K X.mg E m1)) (hb : PE X b (tE X.K X.mg E m2)) (hi : X.N[i]? = some x := by rfl) (hj : X.N[j]? = some y := by rfl) (hij : i ≠ j := by decide)
    (hx : X.env.scope.names.lookup x = some .local := by rfl) (hy : X.env.scope.names.lookup y = some .local := by rfl)
    (s1 : starEach [a, b] X.env = (false, eval a X.env) :: starEach [b] X.env := by rfl) (s2 : starEach [b] X.env = (false, eval b X.env) :: starEach [] X.env := by rfl)
    (hw : swappedStores [.Tuple [.Name x px, .Name y py] kt pt] (.Tuple [a, b] k2 pt2) X.env = pure (some [x, y]) := by rfl)
    (hs : swapsWithSole [.Tuple [.Name x px, .Name y py] kt pt] (.Tuple [a, b] k2 pt2) pos.line X.env = pure false := by rfl) :
    PS X (.Assign [.Tuple [.Name x px, .Name y py] kt pt] (.Tuple [a, b] k2 pt2) pos) (tS X.K X.mg E (mPar i j m1 m2)) := (ps_par hc hN hi hj hij hx hy (pa_cons ha (pa_cons hb pa_nil s2) s1) hw hs).imp fun _ _ _ w => par_read w
theorem ms_par3 (hc : X.calm = true) (hN : X.N.Nodup) (i j l : Nat) (ha : PE X a (tE X.K X.mg E m1)) (hb : PE X b (tE X.K X.mg E m2)) (hcc : PE X c (tE X.K X.mg E m3)) (hi : X.N[i]? = some x := by rfl) (hj : X.N[j]? = some y := by rfl) (hl : X.N[l]? = some z := by rfl) (hij : i ≠ j := by decide) (hil : i ≠ l := by decide) (hjl : j ≠ l := by decide)
    (hx : X.env.scope.names.lookup x = some .local := by rfl) (hy : X.env.scope.names.lookup y = some .local := by rfl) (hz : X.env.scope.names.lookup z = some .local := by rfl)
    (s1 : starEach [a, b, c] X.env = (false, eval a X.env) :: starEach [b, c] X.env := by rfl) (s2 : starEach [b, c] X.env = (false, eval b X.env) :: starEach [c] X.env := by rfl) (s3 : starEach [c] X.env = (false, eval c X.env) :: starEach [] X.env := by rfl)
    (hw : swappedStores [.Tuple [.Name x px, .Name y py, .Name z pz] kt pt] (.Tuple [a, b, c] k2 pt2) X.env = pure (some [x, y, z]) := by rfl)
    (hs : swapsWithSole [.Tuple [.Name x px, .Name y py, .Name z pz] kt pt] (.Tuple [a, b, c] k2 pt2) pos.line X.env = pure false := by rfl) :
    PS X (.Assign [.Tuple [.Name x px, .Name y py, .Name z pz] kt pt] (.Tuple [a, b, c] k2 pt2) pos) (tS X.K X.mg E (mPar3 i j l m1 m2 m3)) := (ps_par3 hc hN hi hj hl hij hil hjl hx hy hz (pa_cons ha (pa_cons hb (pa_cons hcc pa_nil s3) s2) s1) hw hs).imp fun _ _ _ w => par3_read w
end
/-- a tuple constant of the written part -/
theorem rp_ktup {K : PySem.W.Frag} {a : Addr} {od : Option Addr} {its : Array Value} {n : Nat} {sl : Array (Option Value)} {xs : List V} {ds : List D} (l : K.lookup a = some ⟨.type "tuple", od, .seq its n, sl⟩) (hz : its.size ≤ sizeLine) (r : Vals xs its.toList) (h : ∀ H, RpAll K H xs ds) : ∀ H, Rp K H (.ref a) (.tuple ds) :=
  fun H => .tup (.inr ⟨_, its, n, l, rfl, rfl, hz, r⟩) (h H)
/-- a constant of the module -/
def Cst (K : PySem.W.Frag) (mg : Str → Option Value) (x : Str) (d : D) : Prop := ∃ (u : Value) (v : V), mg x = some u ∧ RelV v u ∧ ∀ H, Rp K H v d
theorem me_cst {X : Cx} {E : WX} {x : Str} {pos : Pos} {d : D} (hg : Gl X x) (h : Cst X.K X.mg x d) (hd : (x == ("__debug__" : Str)) = false := by decide) : PE X (.Name x pos) (tE X.K X.mg E (mC d)) := by
  obtain ⟨u, v, h1, h2, h3⟩ := h
  exact me_glob hg h1 h2 h3 hd
theorem cst_int {K : PySem.W.Frag} {h : Heap} {mg : Str → Option Value} {x : Str} {i : Int} {t : Tok} (X : K.In h) (G : h.Ns mainGlobals mg) (a : PySem.W.nsIn K mainGlobals x = some (some (.int i t))) : Cst K mg x (.int i) := ⟨_, .int i, PySem.W.mg_of X G a, ⟨t, rfl⟩, fun _ => .int i⟩
theorem cst_str {K : PySem.W.Frag} {h : Heap} {mg : Str → Option Value} {x : Str} {i : Str} {t : Tok} (X : K.In h) (G : h.Ns mainGlobals mg) (a : PySem.W.nsIn K mainGlobals x = some (some (.str i t))) : Cst K mg x (.str i) := ⟨_, .str i, PySem.W.mg_of X G a, ⟨t, rfl⟩, fun _ => .str i⟩
theorem cst_tup2 {K : PySem.W.Frag} {h : Heap} {mg : Str → Option Value} {x : Str} {i j : Int} {a : Addr} {t u : Tok} {od : Option Addr} {n : Nat} {sl : Array (Option Value)} (X : K.In h) (G : h.Ns mainGlobals mg) (q : PySem.W.nsIn K mainGlobals x = some (some (.ref a))) (l : K.lookup a = some ⟨.type "tuple", od, .seq #[.int i t, .int j u] n, sl⟩) : Cst K mg x (.tuple [.int i, .int j]) :=
  ⟨_, .ref a, PySem.W.mg_of X G q, rfl, rp_ktup (xs := [.int i, .int j]) l (by show 2 ≤ sizeLine; decide) (.cons ⟨t, rfl⟩ (.cons ⟨u, rfl⟩ .nil)) fun _ => .cons (.int i) (.cons (.int j) .nil)⟩
/-- a def as the top has written it -/
theorem dat {K : PySem.W.Frag} {h : Heap} {mg : Str → Option Value} {x y : Str} {st : Stmt} {f : Addr} {oc : Value} {od an : Option Addr} {osl : Array (Option Value)} {kV doc pm cdv ct : Value} (X : K.In h) (G : h.Ns mainGlobals mg) (a : PySem.W.nsIn K mainGlobals x = some (some (.ref f)))
    (l : K.lookup f = some ⟨oc, od, .func (PySem.W.fnOf y y (defArgs st) (defBody st) (defScope st) .none kV doc pm an cdv ct), osl⟩) (c : PySem.W.codeIn K cdv y = true) (k : PySem.W.keepIn K (.ref f) = true) : ∃ (f : Addr) (fd : FuncData), mg x = some (.ref f) ∧ Fun K y y st f fd :=
  ⟨f, _, PySem.W.mg_of X G a, fun_mk l c k⟩
theorem kn_of {P : Program} {w : World} {K : PySem.W.Frag} {mg : Str → Option Value} {base : Heap} {k : Nat} {x y : Str} {st : Stmt} {ps : List Str} {io : Option Nat} {F : Fn} {f : Addr} {fd : FuncData} (h : Kn P w K mg base k x y st ps io F) (hm : mg x = some (.ref f)) (hf : Fun K y y st f fd) : FnG P w K mg base (L2.CX P w) k f fd ps (spF K mg ps.length io F) := by
  obtain ⟨f', fd', h1, h2, h3⟩ := h.it
  rw [hm] at h2
  cases h2
  obtain ⟨_, _, _, _, _, _, _, _, _, _, l1, _⟩ := h3.ex
  obtain ⟨_, _, _, _, _, _, _, _, _, _, l2, _⟩ := hf.ex
  rw [l1] at l2
  cases l2
  exact h1
section
variable {X : Cx} {E : WX} {pos apos cpos npos pk : Pos} {e k : Expr} {m mk : M Res} {i : Nat} {x : Str} {W : L2.St → L2.St → Prop}
theorem ms_append (hx : PE X (.Name x npos) (tVar i)) (he : PE X e (tE X.K X.mg E m)) (hs : starEach [e] X.env = (false, eval e X.env) :: starEach [] X.env := by rfl)
    (hsw : swapsWith (.Call (.Attribute (.Name x npos) "append" apos) [e] [] cpos) none pos.line X.env = pure false := by rfl)
    (hbase : attributeBase (.Name x npos) "append" X.env (eval (.Name x npos) X.env) = eval (.Name x npos) X.env := by rfl)
    (hfew : ((backTo cpos (starEach [e] X.env)).all (fun x => !x.1) && (backToKw cpos (keywordEach [] X.env)).all (fun x => x.1.isSome) && decide ([e].length + ([] : List Keyword).length + (if ([] : List Keyword).isEmpty then 0 else 1) < 30)) = true := by rfl)
    (hline : (apos.endLine == cpos.line) = true := by rfl) (hplain : (backTo cpos (starEach [] X.env)).any (·.1) = false := by rfl) :
    PS X (.Expr (.Call (.Attribute (.Name x npos) "append" apos) [e] [] cpos) pos) (tS X.K X.mg E (mApp i m)) :=
  ms_app hx he hs hsw (pe_bm PySem.F.plainAttrs_list PySem.F.slot_list_append PySem.F.type_list_append mt_append hx (pa_cons he pa_nil hs) hbase hfew hline hs hplain)
theorem ms_setixS (hx : PE X (.Name x npos) (tVar i)) (hk : PE X k (tE X.K X.mg E mk)) (he : PE X e (tE X.K X.mg E m))
    (hs : swapsWithSole [.Subscript (.Name x npos) k pk] e pos.line X.env = pure false := by rfl) (hw : swappedStores [.Subscript (.Name x npos) k pk] e X.env = pure none := by rfl)
    (h1 : (assignEach [.Subscript (.Name x npos) k pk] X.env).map (·.2) = [assign (.Subscript (.Name x npos) k pk) X.env] := by rfl)
    (ha : ∀ v, assign (.Subscript (.Name x npos) k pk) X.env v = (do let ov ← holding [v] (eval (.Name x npos) X.env); let iv ← holding [v, ov] (eval k X.env); standAt pk; holding [v, ov, iv] (setItem ov iv v); release [v, ov, iv] []) := by intro _; rfl) :
    PS X (.Assign [.Subscript (.Name x npos) k pk] e pos) (tS X.K X.mg E (mSetIx i mk m)) := ms_setix hx hk he hs hw h1 (pg_sub hx hk set_list ha)
theorem mg_ixS (hW : ∀ σ, W σ σ) (hx : PE X (.Name x npos) (tVar i)) (hk : PE X k (tE X.K X.mg E mk))
    (ha : ∀ v, assign (.Subscript (.Name x npos) k pos) X.env v = (do let ov ← holding [v] (eval (.Name x npos) X.env); let iv ← holding [v, ov] (eval k X.env); standAt pos; holding [v, ov, iv] (setItem ov iv v); release [v, ov, iv] []) := by intro _; rfl) :
    PG X (.Subscript (.Name x npos) k pos) (tGt X.K X.mg E W (gIx i mk)) := mg_ix hW (pg_sub hx hk set_list ha)
theorem mg_tupS {es : List Expr} {kk n : Nat} {g : List D → M Unit} (hc : X.calm = true) (h : PGs X es (tGts X.K X.mg E W g)) (hn : n = es.length := by rfl)
    (h1 : (assignEach es X.env).length = n := by rfl) (h2 : (assignEach es X.env).findIdx? (·.1) = none := by rfl) : PG X (.Tuple es kk pos) (tGt X.K X.mg E W (gT n g)) := mg_tup hc h hn (pg_tup hc h h1 h2)
theorem ms_forC {tg iter : Expr} {body : List Stmt} {mi : M Itd} {g : D → M Unit} {mb : M Fl} (hp : PassesOwn (model X.prog X.w) X.A X.env X.xe) (hc : X.calm = true) (hi : PI X tg iter (tI X.K X.mg E mi)) (hg : PG X tg (tGt X.K X.mg E (fun _ _ => True) g)) (hb : PSs X body (tS X.K X.mg E mb))
    (hs : ∀ x, foldedSetIterable iter X.env x = pure x := by intro _; rfl) : PS X (.For tg iter body [] pos) (tS X.K X.mg E (mFor (chk mi) g mb)) := ms_for hp hc (chk_ok mi) (PI_imp hi fun _ _ _ w => tI_chk w) hg hb hs
end
theorem _root_.L2.Room.units64 {k : Nat} {A : Around} (r : Room k A) : A.units + 64 < cLine := by have := r.un; omega
theorem _root_.L2.Room.units70 {k : Nat} {A : Around} (r : Room k A) : A.units + 70 < cLine := by have := r.un; omega
end Mi

/-! Mi: == of texts beside == of data. -/
namespace Mi
open PySem L2 Evl PySem.Spec PyProof.Rows
def eqT : D → D → Option Res
  | .str x, .str y => some (.val (.bool (decide (x = y))))
  | _, _ => none
def neT : D → D → Option Res
  | .str x, .str y => some (.val (.bool (!decide (x = y))))
  | _, _ => none
def eqsD : D → D → Option Res
  | .str x, .str y => some (.val (.bool (decide (x = y))))
  | d, e => eqD d e
def nesD : D → D → Option Res
  | .str x, .str y => some (.val (.bool (!decide (x = y))))
  | d, e => neD d e
theorem dec_strV {x y : Str} : decide (V.str x = V.str y) = decide (x = y) := by
  by_cases h : x = y <;> simp [h]
theorem bin_eqT {K : PySem.W.Frag} : Bin K rEq eqT := by
  intro Hb H x y d e res Q ex hx hy hf k
  unfold eqT at hf
  split at hf
  · cases hf
    rw [hx.str, hy.str]
    refine ⟨rfl, ?_⟩
    rw [dec_strV]
    exact k _ Hb H (New.refl ex) (.bl _)
  · cases hf
theorem bin_neT {K : PySem.W.Frag} : Bin K rNe neT := by
  intro Hb H x y d e res Q ex hx hy hf k
  unfold neT at hf
  split at hf
  · cases hf
    rw [hx.str, hy.str]
    refine ⟨rfl, ?_⟩
    rw [dec_strV]
    exact k _ Hb H (New.refl ex) (.bl _)
  · cases hf
theorem op_eqS {X : Cx} (hu : X.A.units + 64 < cLine) : OpR X (compareOp .Eq) (fun x y H Q => rEq x y H Q ∨ rEqD X.K x y H Q) := op_eq.or (op_eqD hu)
theorem op_neS {X : Cx} (hu : X.A.units + 64 < cLine) : OpR X (compareOp .NotEq) (fun x y H Q => rNe x y H Q ∨ rNeD X.K x y H Q) := op_ne.or (op_neD hu)
theorem bin_eqS {K : PySem.W.Frag} : Bin K (fun x y H Q => rEq x y H Q ∨ rEqD K x y H Q) eqsD := (bin_eqT.or bin_eqA).imp fun d e z q => by
  cases d <;> cases e <;> first | exact q | (unfold eqsD at q; simp only [eqT]; exact q)
theorem bin_neS {K : PySem.W.Frag} : Bin K (fun x y H Q => rNe x y H Q ∨ rNeD K x y H Q) nesD := (bin_neT.or bin_neA).imp fun d e z q => by
  cases d <;> cases e <;> first | exact q | (unfold nesD at q; simp only [neT]; exact q)
end Mi

/-! Mi: runs of loops over data. -/
namespace Mi
open PySem L2 Evl PySem.Spec
theorem loopF_run {g : D → M Unit} {b : M Fl} (Inv : Nat → R → Prop) : ∀ (ds : List D) (k : Nat) (ρ : R), Inv k ρ →
    (∀ i ρ d, ds[i]? = some d → Inv (k + i) ρ → ∃ ρ1 ρ2 fl, g d ρ = some (.ok (), ρ1) ∧ b ρ1 = some (.ok fl, ρ2) ∧ (fl = .nx ∨ fl = .ct) ∧ Inv (k + i + 1) ρ2) → ∃ ρ', loopF g b ds ρ = some (.ok .nx, ρ') ∧ Inv (k + ds.length) ρ'
  | [], k, ρ, h0, _ => ⟨ρ, rfl, h0⟩
  | d :: ds, k, ρ, h0, step => by
    obtain ⟨ρ1, ρ2, fl, e1, e2, hf, h1⟩ := step 0 ρ d rfl h0
    obtain ⟨ρ', e3, h2⟩ := loopF_run Inv ds (k + 1) ρ2 h1 fun i ρ d hd hi => by
      have := step (i + 1) ρ d (by simpa using hd) (by rw [show k + (i + 1) = k + 1 + i by omega]; exact hi)
      rw [show k + (i + 1) + 1 = k + 1 + i + 1 by omega] at this
      exact this
    refine ⟨ρ', ?_, by rw [List.length_cons, show k + (ds.length + 1) = k + 1 + ds.length by omega]; exact h2⟩
    unfold loopF bnd
    rw [e1]
    dsimp only
    rw [e2]
    rcases hf with rfl | rfl <;> exact e3
/-- .. that may leave with a result -/
theorem loopF_exit {g : D → M Unit} {b : M Fl} (Inv : Nat → R → Prop) (Out : Fl → R → Prop) : ∀ (ds : List D) (k : Nat) (ρ : R), Inv k ρ →
    (∀ i ρ d, ds[i]? = some d → Inv (k + i) ρ → ∃ ρ1 ρ2 fl, g d ρ = some (.ok (), ρ1) ∧ b ρ1 = some (.ok fl, ρ2) ∧ ((fl = .nx ∨ fl = .ct) ∧ Inv (k + i + 1) ρ2 ∨ fl = .bk ∧ Out .nx ρ2 ∨ ∃ r, fl = .rt r ∧ Out (.rt r) ρ2)) →
    ∃ ρ' fl, loopF g b ds ρ = some (.ok fl, ρ') ∧ (fl = .nx ∧ Inv (k + ds.length) ρ' ∨ Out fl ρ')
  | [], k, ρ, h0, _ => ⟨ρ, .nx, rfl, .inl ⟨rfl, h0⟩⟩
  | d :: ds, k, ρ, h0, step => by
    obtain ⟨ρ1, ρ2, fl, e1, e2, hf⟩ := step 0 ρ d rfl h0
    rcases hf with ⟨hf, h1⟩ | ⟨rfl, h1⟩ | ⟨r, rfl, h1⟩
    · obtain ⟨ρ', fl', e3, h2⟩ := loopF_exit Inv Out ds (k + 1) ρ2 h1 fun i ρ d hd hi => by
        have := step (i + 1) ρ d (by simpa using hd) (by rw [show k + (i + 1) = k + 1 + i by omega]; exact hi)
        rw [show k + (i + 1) + 1 = k + 1 + i + 1 by omega] at this
        exact this
      refine ⟨ρ', fl', ?_, ?_⟩
      · unfold loopF bnd
        rw [e1]
        dsimp only
        rw [e2]
        rcases hf with rfl | rfl <;> exact e3
      · rw [List.length_cons, show k + (ds.length + 1) = k + 1 + ds.length by omega]
        exact h2
    · refine ⟨ρ2, .nx, ?_, .inr h1⟩
      unfold loopF bnd
      rw [e1]
      dsimp only
      rw [e2]
      rfl
    · refine ⟨ρ2, .rt r, ?_, .inr h1⟩
      unfold loopF bnd
      rw [e1]
      dsimp only
      rw [e2]
      rfl
/-- a comprehension without a test, over a state that the block leaves as it was -/
theorem loopC_map {g : D → M Unit} {e : M Res} {vs : List Nat} {ρw : R} {f : D → D} : ∀ (ds acc : List D), acc.length + ds.length ≤ sizeLine →
    (∀ d ∈ ds, ∃ ρa ρc, g d ρw = some (.ok (), ρa) ∧ mVal e ρa = some (.ok (f d), ρc) ∧ wipeR ρc vs = ρw) → loopC g (ret true) e vs ds ρw acc = some (acc ++ ds.map f, ρw)
  | [], acc, _, _ => by
    unfold loopC
    rw [List.map_nil, List.append_nil]
  | d :: ds, acc, hl, h => by
    obtain ⟨ρa, ρc, e1, e2, e3⟩ := h d List.mem_cons_self
    rw [List.length_cons] at hl
    unfold loopC
    rw [e1]
    dsimp only [ret]
    rw [e2]
    dsimp only
    rw [if_pos (by omega), e3, loopC_map ds (acc ++ [f d]) (by rw [List.length_append, List.length_cons, List.length_nil]; omega) fun d' hd => h d' (List.mem_cons_of_mem _ hd)]
    rw [List.map_cons, List.append_assoc]
    rfl
/-- a comprehension as a whole, nothing locked -/
theorem lc_run {it : M Itd} {g : D → M Unit} {t : M Bool} {e : M Res} {vs : List Nat} {ρ ρ1 ρe : R} {ds xs : List D} (hi : it ρ = some (.ok ⟨ds, []⟩, ρ1)) (hc : loopC g t e vs ds (wipeR ρ1 vs) [] = some (xs, ρe)) : mLc it g t e vs ρ = some (.ok (.fresh xs), restR ρ1 ρe vs) := by
  unfold mLc bnd chk
  rw [hi]
  dsimp only
  rw [if_pos (by simp)]
  dsimp only
  rw [if_pos (by simp)]
  rw [hc]
  rfl
/-- a loop as a whole, nothing locked -/
theorem for_run {it : M Itd} {g : D → M Unit} {b : M Fl} {ρ ρ1 ρ2 : R} {ds : List D} {fl : Fl} (hi : it ρ = some (.ok ⟨ds, []⟩, ρ1)) (hl : loopF g b ds ρ1 = some (.ok fl, ρ2)) : mFor (chk it) g b ρ = some (.ok fl, ρ2) := by
  unfold mFor bnd chk
  rw [hi]
  dsimp only
  rw [if_pos (by simp)]
  dsimp only
  rw [hl]
  rfl
end Mi

/-! Mi: exceptions: raise, try. -/
namespace Mi
open PySem L2 Evl PySem.Spec PyProof.Rows
/-! ### __init__: self.f = value -/
def spI1 (K : PySem.W.Frag) (f : Str) : Sp := fun vs H Q _ => ∃ (a C : Addr) (v : V), vs = [.ref a, v] ∧ OexC K C ∧ PySem.W.findIn K (.ref C) f = some none ∧ H a = some (exo a C none) ∧
  ∀ dx, H dx = none → dx ≠ a → Q .non (upd (upd H dx (exd dx [(f, v)])) a (exo a C (some dx)))
def spI2 (K : PySem.W.Frag) (f g : Str) : Sp := fun vs H Q _ => ∃ (a C : Addr) (v w : V), vs = [.ref a, v, w] ∧ OexC K C ∧ PySem.W.findIn K (.ref C) f = some none ∧ PySem.W.findIn K (.ref C) g = some none ∧ H a = some (exo a C none) ∧
  ∀ dx, H dx = none → dx ≠ a → ∀ H', H' a = some (exo a C (some dx)) → H' dx = some (exd dx [(g, w), (f, v)]) → (∀ b, b ≠ a → b ≠ dx → H' b = H b) → Q .non H'
/-! ### raise C(e) -/
def mRaise1 (cls f : Str) (m : M Res) : M Fl := bnd (mVal m) fun d => fun ρ => some (.exc ⟨cls, [(f, d)]⟩, ρ)
section
variable {K : PySem.W.Frag} {mg : Str → Option Value} {E : WX} {σ : L2.St} {H : Hp} {De : Ends}
theorem raise1_read {cls f : Str} {m : M Res} {C : Addr} (hm : mg cls = some (.ref C)) (T : OexC K C) (hno : PySem.W.findIn K (.ref C) f = some none) (w : tS K mg E (mRaise1 cls f m) De σ H) :
    tMkO C (spI1 K f) [] (tCons (tE K mg E m) tNil) σ H fun c d H' => E c d σ H' := by
  obtain ⟨Hb, ρ, Rr, S⟩ := w
  refine tE_mono (e_val Rr S) fun v H1 ⟨Hb1, ρ1, d, R1, rp, g1, out, ρ', e, h1, h2⟩ => ?_
  cases e
  refine ⟨by show 1 ≤ 1000; decide, fun a ha => ⟨a, C, v, rfl, T, hno, upd_same, fun dx hdx ne => ⟨rfl, dx, [(f, v)], upd_same, ?_, ?_, ?_⟩⟩⟩
  · rw [upd_ne ne, upd_same]
  · rw [upd_ne ne] at hdx; exact hdx
  · rw [upd_ne ne] at hdx
    have eu : upd (del (upd (upd (upd H1 a (exo a C none)) dx (exd dx [(f, v)])) a (exo a C (some dx))) a) dx (.xd [(f, v)]) = upd H1 dx (.xd [(f, v)]) := by
      funext b
      by_cases hb : b = dx
      · subst hb; rw [upd_same, upd_same]
      · rw [upd_ne hb, upd_ne hb]
        by_cases hba : b = a
        · subst hba; rw [del_same, ha]
        · rw [del_ne hba, upd_ne hba, upd_ne hb, upd_ne hba]
    rw [eu]
    have n := New.mut (o := HO.xd [(f, v)]) R1.ex hdx
    refine h2 _ rfl σ _ _ Hb1 _ n.go (n.rel R1) ⟨hm, .inr ⟨dx, _, rfl, upd_same, fresh_back R1.ex hdx, .cons ⟨rfl, rp⟩ .nil⟩⟩
end
theorem ok_init1 {P : Program} {w : World} {K : PySem.W.Frag} {mg : Str → Option Value} {base : Heap} {f : Addr} {fd : FuncData} {x qual : Str} {st : Stmt} {N : List Str} {a b fl : Str} (F : Fun K x qual st f fd) (S : FnScope N [a, b] (defScope st)) (hN : N = [a, b])
    (hb : ∀ {k : Nat} (cdv : Value) (A : Around) (outer : List Env) (s : Shared) (H : Hp) (E : XK), PSs (cxOf (L2.CX P w) P w K mg base N qual (defScope st) f cdv A outer s H E) (defBody st) (tOst K fl (tVar 0) (tVar 1))) : FnOk P w K mg base (L2.CX P w) 1 f fd [a, b] (spI1 K fl) := by
  subst hN
  refine F.okX S (fun vs H Q E h => ?_) (fun cdv A outer s H vs Q E hr h => ⟨_, hb (k := 0) cdv A outer s H E, ?_⟩)
  · obtain ⟨_, _, _, rfl, _⟩ := h
    rfl
  · obtain ⟨p, C, v, rfl, T, hno, ea, k⟩ := h
    exact ⟨v, rfl, .ref p, rfl, p, C, rfl, T, hno, .inl ⟨ea, fun dx n ne => k dx n ne⟩⟩
/-- what a raise of a class with one field asks -/
structure Ex1 (P : Program) (w : World) (K : PySem.W.Frag) (mg : Str → Option Value) (base : Heap) (x f : Str) : Prop where
  it : ∃ (C fI : Addr) (fdI : FuncData) (ps : List Str), OexC K C ∧ PySem.W.findIn K (.ref C) "__init__" = some (some (.ref fI)) ∧ PySem.W.typeIn K (.ref fI) = some (.type "function") ∧ mg x = some (.ref C) ∧ PySem.W.findIn K (.ref C) f = some none ∧
    FnOk P w K mg base (L2.CX P w) 1 fI fdI ps (spI1 K f) ∧ Binds K fdI ps []
theorem ms_raise1 {X : Cx} {E : WX} {x f : Str} {e : Expr} {m : M Res} {p pos pos' : Pos} (T : Ex1 X.prog X.w X.K X.mg X.base x f) (hc : X.calm = true) (tk : Takes X E) (hr : Room 2 X.A) (hg : Gl X x) (he : PE X e (tE X.K X.mg E m))
    (hdb : (x == ("__debug__" : Str)) = false := by decide) (hs : starEach [e] X.env = (false, eval e X.env) :: starEach [] X.env := by rfl) (hpl : (backTo pos (starEach [] X.env)).any (·.1) = false := by rfl) :
    PS X (.Raise (some (.Call (.Name x p) [e] [] pos)) none pos') (tS X.K X.mg E (mRaise1 x f m)) := by
  obtain ⟨C, fI, fdI, ps, T1, iC, tI, gC, hno, F1, hb⟩ := T.it
  exact (ps_raise hc tk (pmk_oex T1 iC tI F1 hr hb .nil passL hg gC (pa_cons he pa_nil hs) hdb hs hpl)).imp fun De σ H w => raise1_read gC T1 hno w
/-! ### try: one clause with a name -/
/-- the clause: which classes it takes; i: the name's slot -/
def mTry (b : M Fl) (catch_ : Str → Option Bool) (i : Nat) (h : Exc → M Fl) : M Fl := fun ρ => match b ρ with
  | some (.exc x, ρ') => match catch_ x.cls with
    | some true => match ρ'[i]?, h x ρ' with
      | some none, some (.ok .nx, ρ'') => match ρ''[i]? with
        | some none => some (.ok .nx, ρ'')
        | _ => none
      | _, _ => none
    | some false => some (.exc x, ρ')
    | none => none
  | o => o
/-- the exception at slot i -/
structure ExAt (K : PySem.W.Frag) (i : Nat) (a : Addr) (c : Value) (d : Option Addr) (x : Exc) (σ : L2.St) (Hb H : Hp) (mg : Str → Option Value) : Prop where
  at_ : σ[i]? = some (some (.ref a))
  ex : ExcR K mg Hb H c d x
/-- readings in a suite: as tE, tA, tS, the exception in its slot -/
def xE (F : L2.St → Hp → Hp → Prop) (K : PySem.W.Frag) (mg : Str → Option Value) (E : WX) (m : M Res) : TE := fun σ H Q => ∃ Hb ρ, Rel K Hb H σ ρ ∧ F σ Hb H ∧ Sat K mg E σ Hb H ρ m fun r σ' ρ' Hb' H' => σ' = σ → ∀ v, RepR K Hb' H' σ ρ' H v r → Q v H'
def xA (F : L2.St → Hp → Hp → Prop) (K : PySem.W.Frag) (mg : Str → Option Value) (E : WX) (m : M (List Res)) : TA := fun σ H Q => ∃ Hb ρ, Rel K Hb H σ ρ ∧ F σ Hb H ∧ Sat K mg E σ Hb H ρ m fun rs σ' ρ' Hb' H' => σ' = σ → ∀ vs, RepA K Hb' σ vs rs → Q vs H'
def xS (F : L2.St → Hp → Hp → Prop) (K : PySem.W.Frag) (mg : Str → Option Value) (E : WX) (m : M Fl) : TS := fun De σ H => ∃ Hb ρ, Rel K Hb H σ ρ ∧ F σ Hb H ∧ Sat K mg E σ Hb H ρ m (FlP K De H)
/-- kept by a step of an expression -/
def Stable (K : PySem.W.Frag) (F : L2.St → Hp → Hp → Prop) : Prop := ∀ σ ρ Hb H ρ' Hb' H', Go σ ρ Hb H σ ρ' Hb' H' → Rel K Hb H σ ρ → Rel K Hb' H' σ ρ' → F σ Hb H → F σ Hb' H'
section
variable {K : PySem.W.Frag} {mg : Str → Option Value} {E : WX}
theorem paired_mono {Hb Hb' : Hp} (e : Ex Hb Hb') : ∀ {fs : List (Str × V)} {gs : List (Str × D)}, Paired (fun (p : Str × V) (q : Str × D) => p.1 = q.1 ∧ Rp K Hb p.2 q.2) fs gs → Paired (fun (p : Str × V) (q : Str × D) => p.1 = q.1 ∧ Rp K Hb' p.2 q.2) fs gs
  | _, _, .nil => .nil
  | _, _, .cons a b => .cons ⟨a.1, a.2.mono e⟩ (paired_mono e b)
theorem exAt_stable {i : Nat} {a : Addr} {c : Value} {d : Option Addr} {x : Exc} : Stable K (fun σ Hb H => ExAt K i a c d x σ Hb H mg) := by
  intro σ ρ Hb H ρ' Hb' H' g Rr R' h
  refine ⟨h.at_, h.ex.1, ?_⟩
  rcases h.ex.2 with q | ⟨dx, fs, q1, q2, q3, q4⟩
  · exact .inl q
  · have no : ¬ Own σ ρ dx := fun z => by
      obtain ⟨_, ws, z⟩ := Rr.owned z
      rw [q2] at z; cases z
    refine .inr ⟨dx, fs, q1, g.k dx _ q2 no, Classical.byContradiction fun z => ?_, paired_mono g.b q4⟩
    rcases g.f dx q3 z with w | w
    · rw [q2] at w; cases w
    · exact no w
variable {F : L2.St → Hp → Hp → Prop} {X : Cx} {e : Expr} {es : List Expr} {m : M Res} {mr : M (List Res)} {pos : Pos}
theorem xe_of (h : PE X e (tE X.K X.mg E m)) : PE X e (xE F X.K X.mg E m) := h.imp fun σ H Q ⟨Hb, ρ, Rr, _, S⟩ => ⟨Hb, ρ, Rr, S⟩
theorem xa_nil : PA X [] (xA F X.K X.mg E aNil) := ⟨fun pos pins s σ H Q I w => ma_nil.run pos pins s σ H Q I (by
  obtain ⟨Hb, ρ, Rr, _, S⟩ := w
  exact ⟨Hb, ρ, Rr, S⟩)⟩
theorem xe_val (st : Stable K F) {σ : L2.St} {H : Hp} {β : Type} {f : D → M β} {Hb : Hp} {ρ : R} {P : β → L2.St → R → Hp → Hp → Prop} (Rr : Rel K Hb H σ ρ) (hF : F σ Hb H) (S : Sat K mg E σ Hb H ρ (bnd (mVal m) f) P) :
    xE F K mg E m σ H fun v H1 => ∃ Hb1 ρ1 d, Rel K Hb1 H1 σ ρ1 ∧ F σ Hb1 H1 ∧ Rp K Hb1 v d ∧ Go σ ρ Hb H σ ρ1 Hb1 H1 ∧ Sat K mg E σ Hb1 H1 ρ1 (f d) fun b σ' ρ' Hb' H' => Go σ ρ Hb H σ' ρ' Hb' H' → P b σ' ρ' Hb' H' := by
  have S0 : Sat K mg E σ Hb H ρ (bnd m fun r => bnd (valR r) f) P := by
    refine S.eq ?_
    unfold mVal bnd
    cases m ρ with
    | none => rfl
    | some p =>
      obtain ⟨o, ρ'⟩ := p
      cases o <;> rfl
  refine ⟨Hb, ρ, Rr, hF, S0.bnd0.mono ?_⟩
  intro r σ' ρ1 Hb1 H1 g R1 S1 es v rep
  subst es
  obtain ⟨out, ρ2, e1, h1, h2⟩ := S1
  rcases bnd_some e1 with ⟨d, ρ3, e2, e3⟩ | ⟨x, ρ3, e2, _⟩
  · obtain ⟨Hb2, g2, R2, rp⟩ := rep_val g R1 rep e2
    exact ⟨Hb2, ρ3, d, R2, st σ' ρ Hb H ρ3 Hb2 H1 g2 Rr R2 hF, rp, g2, out, ρ2, e3, fun b q σ2 Hb3 H3 _ R3 g3 => h1 b q σ2 Hb3 H3 g3 R3, fun e q σ2 c dd Hb3 H3 g3 R3 x => h2 e q σ2 c dd Hb3 H3 (g2.trans g3) R3 x⟩
  · exact (valR_exc e2).elim
theorem xa_v (st : Stable X.K F) (he : PE X e (xE F X.K X.mg E m)) (hr : PA X es (xA F X.K X.mg E mr)) (hs : starEach (e :: es) X.env = (false, eval e X.env) :: starEach es X.env := by rfl) : PA X (e :: es) (xA F X.K X.mg E (aV m mr)) := (pa_cons he hr hs).imp fun σ H Q w => by
  obtain ⟨Hb, ρ, Rr, hF, S⟩ := w
  obtain ⟨Hb', ρ', Rr', hF', S'⟩ := xe_val st Rr hF S
  refine ⟨Hb', ρ', Rr', hF', S'.mono fun r σ' ρ1 Hb1 H1 _ _ p es v rep => ?_⟩
  obtain ⟨Hb2, ρ2, d, R2, F2, rp, g2, S2⟩ := p es v rep
  refine ⟨Hb2, ρ2, R2, F2, S2.bnd.mono fun rs σ3 ρ3 Hb3 H3 g3 R3 S3 es3 vs rr => ?_⟩
  subst es3
  exact S3.ret R3 g3 (g2.trans g3) rfl _ (.val (rp.mono g3.b) rr)
theorem xe_lst (st : Stable X.K F) (h : PA X es (xA F X.K X.mg E mr)) : PE X (.List es pos) (xE F X.K X.mg E (mLst mr)) := (pe_lst h).imp fun σ H Q w => by
  obtain ⟨Hb, ρ, Rr, hF, S⟩ := w
  refine ⟨Hb, ρ, Rr, hF, S.bnd.mono fun rs σ' ρ2 Hb2 H2 g2 R2 S2 es vs rr => ?_⟩
  subst es
  obtain ⟨out, ρ', e, h1, h2⟩ := S2
  dsimp only at e
  split at e
  · rename_i ds hd
    split at e
    · rename_i c
      cases e
      have r := valsOf_rp rr hd
      refine ⟨by rw [r.length]; exact c, fun p hp => ?_⟩
      have n := New.mut (o := HO.lst vs) R2.ex hp
      have g := g2.trans (n.go (σ := σ') (ρ := ρ2))
      refine h1 _ rfl σ' _ _ n.go (n.rel R2) g rfl _ ⟨p, vs, rfl, fresh_back R2.ex hp, upd_same, r, Classical.byContradiction fun q => g2.t p q hp, fun q => ?_⟩
      obtain ⟨_, ws, z⟩ := R2.owned q
      rw [hp] at z; cases z
    · cases e
  · cases e
end
section
variable {K : PySem.W.Frag} {mg : Str → Option Value} {E : WX} {σ : L2.St} {ρ : R} {Hb H : Hp} {i : Nat} {u : Option V}
theorem rel_put (Rr : Rel K Hb H σ ρ) (h : ρ[i]? = some none) : Rel K Hb H (σ.set i u) ρ := by
  have ne : ∀ {j : Nat} {s : Slot}, ρ[j]? = some (some s) → (σ.set i u)[j]? = σ[j]? := fun {j s} hj => List.getElem?_set_ne fun e => by
    subst e
    rw [h] at hj; cases hj
  refine ⟨by rw [List.length_set]; exact Rr.len, Rr.ex, fun j s h1 h2 => ?_, fun j s h1 h2 => ?_, fun j k s t a h1 h2 h3 h4 h5 h6 => ?_⟩
  · rw [ne h1]; exact Rr.val j s h1 h2
  · rw [ne h1]; exact Rr.own j s h1 h2
  · rw [ne h1] at h5
    rw [ne h2] at h6
    exact Rr.inj j k s t a h1 h2 h3 h4 h5 h6
theorem go_put (h : ρ[i]? = some none) : Go σ ρ Hb H (σ.set i u) ρ Hb H := by
  have ne : ∀ {j : Nat} {s : Slot}, ρ[j]? = some (some s) → (σ.set i u)[j]? = σ[j]? := fun {j s} hj => List.getElem?_set_ne fun e => by
    subst e
    rw [h] at hj; cases hj
  exact ⟨Ex.refl _, fun _ _ h _ => h, fun a h1 h2 => absurd h1 h2, fun _ h => h, fun a ⟨j, s, h1, h2, h3⟩ => .inl ⟨j, s, h1, h2, by rw [← ne h1]; exact h3⟩, fun j s h1 h2 => ⟨ne h1, s, h1, h2⟩, fun j s h1 h2 => ⟨ne h1, h1⟩⟩
/-- the suite's reading: some exception stands in the slot -/
def sufS (K : PySem.W.Frag) (mg : Str → Option Value) (i : Nat) (h : Exc → M Fl) (a : Addr) (cls : Value) (d : Option Addr) : TS := fun De σ H => ∃ x, xS (fun σ Hb H => ExAt K i a cls d x σ Hb H mg) K mg E0W (h x) De σ H
theorem try_read {cv : Value} {mb : M Fl} {ct : Str → Option Bool} {h : Exc → M Fl} {De : Ends} (hct : ∀ n b c, ct n = some b → mg n = some c → PySem.W.exmOne K c cv = some b) (w : tS K mg E (mTry mb ct i h) De σ H) :
    tS K mg (wAs K cv i (sufS K mg i h) E De) mb De σ H := by
  obtain ⟨Hb, ρ, Rr, out, ρ2, e, h1, h2⟩ := w
  unfold mTry at e
  split at e
  · rename_i x ρ' eb
    refine ⟨Hb, ρ, Rr, _, _, eb, fun fl q => (by cases q), fun x' q σ' c d Hb' H' g R' xr => ?_⟩
    cases q
    split at e
    · rename_i hc
      split at e
      · rename_i ρ'' hi eh
        split at e
        · rename_i hi2
          cases e
          refine ⟨true, hct _ _ _ hc xr.1, fun _ a ha => ⟨x, Hb', ρ', rel_put R' hi, ⟨?_, xr⟩, _, _, eh, fun fl q σ2 Hb2 H2 g2 R2 => ?_, fun z q => by cases q⟩, fun q => by cases q⟩
          · refine List.getElem?_set_self ?_
            rw [R'.len]
            exact (List.getElem?_eq_some_iff.mp hi).1
          · cases q
            exact h1 _ rfl _ Hb2 H2 (((g.trans (go_put hi)).trans g2).trans (go_put hi2)) (rel_put R2 hi2)
        · cases e
      · cases e
    · rename_i hc
      cases e
      exact ⟨false, hct _ _ _ hc xr.1, fun q => (by cases q), fun _ => h2 _ rfl σ' c d Hb' H' g R' xr⟩
    · cases e
  · rename_i o no
    refine ⟨Hb, ρ, Rr, out, ρ2, e, h1, fun x q => ?_⟩
    subst q
    exact absurd e (no _ _)
end
theorem ms_try {X : Cx} {E : WX} {i : Nat} {body suite : List Stmt} {b0 : Stmt} {x n : Str} {cv : Value} {np pos pos' : Pos} {mb : M Fl} {ct : Str → Option Bool} {h : Exc → M Fl} (hs : X.stack = X.env :: X.outer) (hf : X.env.frame = some X.env.locals) (hN : X.N.Nodup) (hi : X.N[i]? = some n) (hln : X.env.kindOf n = some .local) (hc : Names X x cv) (tk : Takes X E)
    (hct : ∀ n b c, ct n = some b → X.mg n = some c → PySem.W.exmOne X.K c cv = some b)
    (hb : ∀ (W : WX) (pn : List (Addr × Obj)) (xe : Value → Shared → Prop), Takes (X.tr pn xe) W → PSs (X.tr pn xe) body (tS X.K X.mg W mb))
    (hsu : ∀ (a : Addr) (oe : Obj) (cls : Value) (d : Option Addr) (pn : List (Addr × Obj)), Zc cls d oe → (∃ vs, oe.data = .fields vs) → ∀ y, PSs (X.suite a ((a, oe) :: pn)) (b0 :: suite) (xS (fun σ Hb H => ExAt X.K i a cls d y σ Hb H X.mg) X.K X.mg E0W (h y))) :
    PS X (.Try body [.ExceptHandler (some (.Name x np)) (some n) (b0 :: suite) pos'] [] [] pos) (tS X.K X.mg E (mTry mb ct i h)) :=
  (ps_try_as (tb := fun W => tS X.K X.mg W mb) (ts := fun a cls d => sufS X.K X.mg i h a cls d) hs hf hN hi hln hc tk (fun W pn xe tk' _ => hb W pn xe tk')
    (fun a oe cls d pn hz hfi => ⟨fun pins s σ H De I w => by
      obtain ⟨y, w⟩ := w
      exact (hsu a oe cls d pn hz hfi y).run pins s σ H De I w⟩)).imp fun De σ H w => try_read hct w
/-! ### in a suite -/
section
variable {X : Cx} {E : WX} {F : L2.St → Hp → Hp → Prop}
theorem xs_set {j : Nat} {y : Str} {e : Expr} {m : M Res} {pos pos' : Pos} (hN : X.N.Nodup) (hi : X.N[j]? = some y) (hx : Loc X.env.scope y) (he : PE X e (xE F X.K X.mg E m)) (hs : swapsWith e (some (.Name y pos')) pos.line X.env = pure false := by rfl)
    (hf : X.fn y = true ∨ X.env.scope.names.lookup y = some .local := by first | exact .inl rfl | exact .inr rfl | assumption) : PS X (.Assign [.Name y pos'] e pos) (xS F X.K X.mg E (mAsg j m)) := (ps_set hN hi hx he hs hf).imp fun De σ H w => by
  obtain ⟨Hb, ρ, Rr, hF, S⟩ := w
  refine ⟨Hb, ρ, Rr, hF, S.bnd0.mono fun r σ' ρ1 Hb1 H1 g1 R1 S1 es v rep => ?_⟩
  subst es
  obtain ⟨out, ρ3, e, h1, h2⟩ := S1
  rcases bnd_some e with ⟨u, ρ2, e2, e3⟩ | ⟨x, ρ2, e2, _⟩
  · obtain ⟨_, Hb2, g2, R2⟩ := store_run g1 R1 rep e2
    cases e3
    exact h1 _ rfl _ _ _ g2 R2
  · obtain ⟨z, _⟩ := store_run g1 R1 rep e2
    cases z
theorem xss_one {st : Stmt} {m : M Fl} (h : PS X st (xS F X.K X.mg E m)) : PSs X [st] (xS F X.K X.mg E m) := pss_one h
end
/-- e.f, e the exception of the class cls -/
def mFld (cls f : Str) (x : Exc) : M Res := if x.cls = cls then match x.fs.lookup f with
  | some d => ret (.val d)
  | none => stuck
  else stuck
theorem paired_lookup {K : PySem.W.Frag} {Hb : Hp} {f : Str} {d : D} : ∀ {fs : List (Str × V)} {gs : List (Str × D)}, Paired (fun (p : Str × V) (q : Str × D) => p.1 = q.1 ∧ Rp K Hb p.2 q.2) fs gs → gs.lookup f = some d → ∃ v, fs.lookup f = some v ∧ Rp K Hb v d
  | _, _, .nil, h => by cases h
  | p :: fs, q :: gs, .cons a b, h => by
    obtain ⟨f1, v1⟩ := p
    obtain ⟨f2, v2⟩ := q
    obtain ⟨e, r⟩ := a
    have e : f1 = f2 := e
    subst e
    rw [List.lookup_cons] at h ⊢
    by_cases c : (f == f1) = true
    · rw [c] at h ⊢
      cases h
      exact ⟨v1, rfl, r⟩
    · have c : (f == f1) = false := by simpa using c
      rw [c] at h ⊢
      exact paired_lookup b h
theorem xe_fld {X : Cx} {E : WX} {a C : Addr} {oe : Obj} {cls : Value} {d : Option Addr} {pn : List (Addr × Obj)} {i : Nat} {x : Exc} {y cn f : Str} {np pos : Pos} (T : XfC X.K C) (hno : PySem.W.findIn X.K (.ref C) f = some none) (hcn : X.mg cn = some (.ref C))
    (hz : Zc cls d oe) (hf : ∃ vs, oe.data = .fields vs) (hv : PE (X.suite a ((a, oe) :: pn)) (.Name y np) (tVar i)) (hb : attributeBase (.Name y np) f X.env (eval (.Name y np) X.env) = eval (.Name y np) X.env := by rfl) :
    PE (X.suite a ((a, oe) :: pn)) (.Attribute (.Name y np) f pos) (xE (fun σ Hb H => ExAt X.K i a cls d x σ Hb H X.mg) X.K X.mg E (mFld cn f x)) := (pe_xf T hno hz hf hv hb).imp fun σ H Q w => by
  obtain ⟨Hb, ρ, Rr, ⟨ha, hm, hx⟩, out, ρ', e, h1, h2⟩ := w
  unfold mFld at e
  split at e
  · rename_i hc
    rw [hc, hcn] at hm
    cases hm
    cases hl : x.fs.lookup f with
    | none =>
      rw [hl] at e
      cases e
    | some v =>
      rw [hl] at e
      cases e
      rcases hx with ⟨_, q⟩ | ⟨dx, fs, q1, q2, q3, q4⟩
      · rw [q] at hl; cases hl
      · obtain ⟨u, l1, l2⟩ := paired_lookup q4 hl
        exact ⟨.ref a, ha, rfl, rfl, dx, fs, u, q1, q2, l1, h1 _ rfl σ Hb H Go.refl Rr rfl u l2⟩
  · cases e
/-- isinstance(e, c) -/
def mIsE (cls : Str) (b : Bool) (x : Exc) : M Res := if x.cls = cls then ret (.val (.bool b)) else stuck
/-- what isinstance asks of the class -/
structure IsC (K : PySem.W.Frag) (C : Addr) : Prop where
  cl : (PySem.W.clsIn K C).isSome = true
  xf : XfC K C
  ha : PySem.W.findIn K (.ref C) "__class__" = some (some (.builtin "object.__class__"))
  hn : PySem.W.specialIn K (.builtin "object.__class__") "__get__" = some (some (.builtin "getset_descriptor.__get__"))
  ht : PySem.W.takesIn K (.builtin "object.__class__") = some true
  hm : PySem.W.mroIn K C (.type "object") = some true
/-- isinstance(e, c): e the caught exception, with or without fields -/
def rIsX (K : PySem.W.Frag) (C a : Addr) (cls : Value) (d : Option Addr) : List V → Hp → VK → Prop := fun xs H Q => ∃ (c : V) (cv : Value) (b : Bool), xs = [.ref a, c] ∧ cls = .ref C ∧ (∀ u, RelV c u → u = cv) ∧ PySem.W.kitOne K (.ref C) cv = some b ∧ (d = none ∨ ∃ dx fs, d = some dx ∧ H dx = some (.xd fs)) ∧ Q (.bl b) H
theorem call_isX {X : Cx} {a C : Addr} {oe : Obj} {cls : Value} {d : Option Addr} {pn : List (Addr × Obj)} (T : IsC X.K C) (hz : Zc cls d oe) (hf : ∃ vs, oe.data = .fields vs) : CallR (X.suite a ((a, oe) :: pn)) (.builtin "isinstance") (rIsX X.K C a cls d) := by
  intro pins s σ H xs us Q I r h
  obtain ⟨c, cv, b, rfl, ec, hcv, e, hd, q⟩ := h
  subst ec
  cases r with
  | cons rx rr =>
    cases rr with
    | cons rt rr =>
      cases rr
      cases rx
      have ec := hcv _ rt
      subst ec
      obtain ⟨hget, _⟩ := I.pin (a, oe) (List.mem_append.mpr (.inl List.mem_cons_self))
      obtain ⟨vs, hv⟩ := hf
      obtain ⟨z1, z2⟩ := hz
      have J : ∃ od, PySem.W.InstAt s.heap a oe C od := by
        rcases hd with rfl | ⟨dx, fs, rfl, hdx⟩
        · exact ⟨none, hget, z1, by unfold PySem.W.notCls; rw [hv] <;> rfl, by rw [z2]; trivial⟩
        · obtain ⟨mA, hns, hr⟩ := (show ObjOk X.prog X.w H s.heap dx (.xd fs) from I.hok dx _ hdx)
          obtain ⟨od, ho, _⟩ := lookIn_ns hns
          exact ⟨some od, hget, z1, by unfold PySem.W.notCls; rw [hv] <;> rfl, by rw [z2]; exact ho⟩
      obtain ⟨od, J⟩ := J
      exact PySem.W.kia_one (PySem.W.kitx_exc T.cl T.xf.ga T.xf.gg T.xf.exC T.ha T.hn T.ht T.hm) I.kIn J e (fun z => nomatch z) fun tk => ⟨.bl b, H, I.kept (t' := tk) fun _ _ z => z, rfl, q⟩
theorem xe_isE {X : Cx} {E : WX} {a C : Addr} {oe : Obj} {cls : Value} {d : Option Addr} {pn : List (Addr × Obj)} {i : Nat} {x : Exc} {y cn T2 : Str} {p np p2 pos : Pos} {c : V} {cv : Value} {b : Bool} (T : IsC X.K C) (hcn : X.mg cn = some (.ref C)) (hk : PySem.W.kitOne X.K (.ref C) cv = some b)
    (hcv : ∀ u, RelV c u → u = cv) (hz : Zc cls d oe) (hf : ∃ vs, oe.data = .fields vs) (hv : PE (X.suite a ((a, oe) :: pn)) (.Name y np) (tVar i)) (hc : PE (X.suite a ((a, oe) :: pn)) (.Name T2 p2) (tC c))
    (hg : Gl (X.suite a ((a, oe) :: pn)) "isinstance") (hm : X.mg "isinstance" = none)
    (hs : starEach [.Name y np, .Name T2 p2] X.env = [(false, eval (.Name y np) X.env), (false, eval (.Name T2 p2) X.env)] := by rfl) (hs2 : starEach [.Name T2 p2] X.env = [(false, eval (.Name T2 p2) X.env)] := by rfl) (hpl : (backTo pos (starEach [.Name T2 p2] X.env)).any (·.1) = false := by rfl) :
    PE (X.suite a ((a, oe) :: pn)) (.Call (.Name "isinstance" p) [.Name y np, .Name T2 p2] [] pos) (xE (fun σ Hb H => ExAt X.K i a cls d x σ Hb H X.mg) X.K X.mg E (mIsE cn b x)) :=
  (pe_callB (X := X.suite a ((a, oe) :: pn)) (call_isX T hz hf) hg hm rfl (pa_cons hv (pa_cons hc pa_nil hs2) hs) (by decide) (by decide) hs hpl).imp fun σ H Q w => by
  obtain ⟨Hb, ρ, Rr, ⟨ha, hmx, hx⟩, out, ρ', e, h1, h2⟩ := w
  unfold mIsE at e
  split at e
  · rename_i hcl
    cases e
    rw [hcl, hcn] at hmx
    cases hmx
    refine ⟨.ref a, ha, c, cv, b, rfl, rfl, hcv, hk, ?_, h1 _ rfl σ Hb H Go.refl Rr rfl _ (.bl b)⟩
    rcases hx with ⟨q, _⟩ | ⟨dx, fs, q1, q2, _⟩
    · exact .inl q
    · exact .inr ⟨dx, fs, q1, q2⟩
  · cases e
end Mi

/-! Mi: in, methods of texts, f-strings. -/
namespace Mi
open PySem L2 Evl PySem.Spec PyProof.Rows
theorem _root_.L2.Room.units65 {k : Nat} {A : Around} (r : Room k A) : A.units + 65 < cLine := by have := r.un; omega
def inT (neg : Bool) : D → D → Option Res
  | .str x, .str z => match x.cps.toList with
    | [c] => some (.val (.bool (if neg then !decide (c ∈ z.cps.toList) else decide (c ∈ z.cps.toList))))
    | _ => none
  | _, _ => none
def inL (neg : Bool) : D → D → Option Res
  | d, .list ds => if SeqAt.shaped d && SeqAt.shaped (.list ds) then some (.val (.bool (if neg then !ds.any fun z => PyData.eqv z d else ds.any fun z => PyData.eqv z d))) else none
  | _, _ => none
def inD (neg : Bool) (d e : D) : Option Res := match inT neg d e with
  | some z => some z
  | none => inL neg d e
theorem one_sign {x : Str} {c : Nat} (h : x.cps.toList = [c]) : x = ⟨#[c]⟩ := by
  obtain ⟨a⟩ := x
  congr 1
  apply Array.ext'
  simpa using h
abbrev rInS' : R2 := fun x y H Q => ∃ (c : Nat) (z : Str), x = .str ⟨#[c]⟩ ∧ y = .str z ∧ Q (.bl (decide (c ∈ z.cps.toList))) H
abbrev rNinS' : R2 := fun x y H Q => ∃ (c : Nat) (z : Str), x = .str ⟨#[c]⟩ ∧ y = .str z ∧ Q (.bl (!decide (c ∈ z.cps.toList))) H
theorem bin_inT {K : PySem.W.Frag} : Bin K rInS' (inT false) := by
  intro Hb H x y d e res Q ex hx hy hf k
  unfold inT at hf
  split at hf
  · rename_i a z
    split at hf
    · rename_i c hc
      cases hf
      rw [one_sign hc] at hx
      exact ⟨c, z, hx.str, hy.str, k _ Hb H (New.refl ex) (.bl _)⟩
    · cases hf
  · cases hf
theorem bin_ninT {K : PySem.W.Frag} : Bin K rNinS' (inT true) := by
  intro Hb H x y d e res Q ex hx hy hf k
  unfold inT at hf
  split at hf
  · rename_i a z
    split at hf
    · rename_i c hc
      cases hf
      rw [one_sign hc] at hx
      exact ⟨c, z, hx.str, hy.str, k _ Hb H (New.refl ex) (.bl _)⟩
    · cases hf
  · cases hf
theorem bin_inL {K : PySem.W.Frag} : Bin K (rInD K) (inL false) := by
  intro Hb H x y d e res Q ex hx hy hf k
  unfold inL at hf
  split at hf
  · rename_i ds
    split at hf
    · rename_i c
      rw [Bool.and_eq_true] at c
      cases hf
      exact ⟨d, ds, rp_dp (shaped_can c.1) (hx.rp ex), rp_dp (shaped_can c.2) (hy.rp ex), c.1, c.2, k _ Hb H (New.refl ex) (.bl _)⟩
    · cases hf
  · cases hf
theorem bin_ninL {K : PySem.W.Frag} : Bin K (rNotInD K) (inL true) := by
  intro Hb H x y d e res Q ex hx hy hf k
  unfold inL at hf
  split at hf
  · rename_i ds
    split at hf
    · rename_i c
      rw [Bool.and_eq_true] at c
      cases hf
      exact ⟨d, ds, rp_dp (shaped_can c.1) (hx.rp ex), rp_dp (shaped_can c.2) (hy.rp ex), c.1, c.2, k _ Hb H (New.refl ex) (.bl _)⟩
    · cases hf
  · cases hf
theorem op_inA {X : Cx} (hu : X.A.units + 65 < cLine) : OpR X (compareOp .In) (fun x y H Q => rInS' x y H Q ∨ rInD X.K x y H Q) := op_in_sign.or (op_inD hu)
theorem op_ninA {X : Cx} (hu : X.A.units + 65 < cLine) : OpR X (compareOp .NotIn) (fun x y H Q => rNinS' x y H Q ∨ rNotInD X.K x y H Q) := op_notIn_sign.or (op_notInD hu)
theorem bin_inA {K : PySem.W.Frag} : Bin K (fun x y H Q => rInS' x y H Q ∨ rInD K x y H Q) (inD false) := bin_inT.or bin_inL
theorem bin_ninA {K : PySem.W.Frag} : Bin K (fun x y H Q => rNinS' x y H Q ∨ rNotInD K x y H Q) (inD true) := bin_ninT.or bin_ninL
/-! ### methods of texts -/
def MetS (K : PySem.W.Frag) (r : V → List V → Hp → VK → Prop) (f : Str → List D → Option Res) : Prop := ∀ (Hb H : Hp) (a : Str) (vs : List V) (ds : List D) (res : Res) (Q : VK), Ex Hb H → TopAll K Hb H vs ds → f a ds = some res →
  (∀ v Hb' H', New Hb H Hb' H' → RR K Hb' H' H v res → Q v H') → r (.str a) vs H Q
def mtS (f : Str → List D → Option Res) (x : Res) (rs : List Res) : M Res := fun ρ => match x, lookAll rs ρ with
  | .val (.str a), some ds => match f a ds with
    | some r => some (.ok r, ρ)
    | none => none
  | _, _ => none
def mMt (f : Str → List D → Option Res) (o : M Res) (as : M (List Res)) : M Res := bnd (thaw o) fun x => match x with
  | .val (.str _) => bnd as fun rs => mtS f x rs
  | _ => stuck
theorem mt_read {K : PySem.W.Frag} {mg : Str → Option Value} {E : WX} {σ : L2.St} {H : Hp} {Q : VK} {r : V → List V → Hp → VK → Prop} {f : Str → List D → Option Res} {mo : M Res} {as : M (List Res)} (hr : MetS K r f) (w : tE K mg E (mMt f mo as) σ H Q) : tBM K "str" r (tE K mg E mo) (tA K mg E as) σ H Q := by
  obtain ⟨Hb, ρ, Rr, S⟩ := w
  refine tE_mono (e_thaw Rr S) fun v H1 ⟨Hb1, ρ1, x, R1, rx, g1, S1⟩ => ?_
  split at S1
  · rename_i a
    have ev : v = .str a := by
      cases rx with
      | val h _ => exact h.str_inv
    subst ev
    refine ⟨rfl, ?_⟩
    refine tA_mono (e_args R1 S1) fun vs H2 ⟨Hb2, ρ2, rs, R2, rr, g2, S2⟩ => ?_
    obtain ⟨out, ρ', e, h1, h2⟩ := S2
    unfold mtS at e
    split at e
    · rename_i b ds hb hd
      cases hb
      split at e
      · rename_i res hf
        cases e
        exact hr Hb2 H2 _ vs ds res Q R2.ex (lookAll_top R2 rr hd) hf fun v Hb' H' n rr' => h1 _ rfl σ Hb' H' n.go (n.rel R2) (g2.trans n.go) (g1.trans (g2.trans n.go)) rfl v ((rr'.rep R2).from' (g1.trans g2).t)
      · cases e
    · cases e
  · obtain ⟨_, _, e, _⟩ := S1
    cases e
def startsD (a : Str) : List D → Option Res
  | [.str b] => some (.val (.bool (Txt.startswith a b)))
  | _ => none
def findD (a : Str) : List D → Option Res
  | [.str b] => some (.val (.int (Txt.find a b)))
  | _ => none
theorem met_starts {K : PySem.W.Frag} : MetS K (fun x xs H Q => ∃ a b, x = .str a ∧ xs = [.str b] ∧ Q (.bl (Txt.startswith a b)) H) startsD := by
  intro Hb H a vs ds res Q ex hx hf k
  unfold startsD at hf
  split at hf
  · rename_i b
    cases hf
    obtain ⟨v, rfl, tp⟩ := tops1 hx
    cases tp.str
    exact ⟨a, b, rfl, rfl, k _ Hb H (New.refl ex) (.bl _)⟩
  · cases hf
theorem met_find {K : PySem.W.Frag} : MetS K (fun x xs H Q => ∃ a b, x = .str a ∧ xs = [.str b] ∧ Q (.int (Txt.find a b)) H) findD := by
  intro Hb H a vs ds res Q ex hx hf k
  unfold findD at hf
  split at hf
  · rename_i b
    cases hf
    obtain ⟨v, rfl, tp⟩ := tops1 hx
    cases tp.str
    exact ⟨a, b, rfl, rfl, k _ Hb H (New.refl ex) (.int _)⟩
  · cases hf
/-! ### f-strings -/
def fmtD : D → Option Res
  | .str z => if z.length ≤ sizeLine then some (.val (.str z)) else none
  | .int i => if i.natAbs.log2 < 1920 then some (.val (.str (toString i))) else none
  | _ => none
theorem me_fmt {X : Cx} {E : WX} {e : Expr} {m : M Res} {pos : Pos} (he : PE X e (tE X.K X.mg E m)) : PE X (.FormattedValue e (-1) none pos) (tE X.K X.mg E (mUn fmtD m)) := (pe_fmt he).imp fun σ H Q w => by
  refine tE_mono (un_read w) fun v H1 ⟨Hb, d, res, ex, h1, h2, h3⟩ => ?_
  unfold fmtD at h2
  split at h2
  · rename_i z
    split at h2
    · rename_i c
      cases h2
      exact .inl ⟨z, h1.str, c, h3 _ Hb H1 (New.refl ex) (.str _)⟩
    · cases h2
  · rename_i i
    split at h2
    · rename_i c
      cases h2
      exact .inr ⟨i, h1.int, c, h3 _ Hb H1 (New.refl ex) (.str _)⟩
    · cases h2
  · cases h2
def mJs : List (M Res) → Str → M Res
  | [], acc => ret (.val (.str acc))
  | m :: ms, acc => bnd (thaw m) fun x => match x with
    | .val (.str y) => if (acc ++ y).length ≤ sizeLine then mJs ms (acc ++ y) else stuck
    | _ => stuck
inductive PJd (X : Cx) (E : WX) : List Expr → List (M Res) → Prop where
  | nil : PJd X E [] []
  | cons {e : Expr} {m : M Res} {es : List Expr} {ms : List (M Res)} (h : PE X e (tE X.K X.mg E m)) (r : PJd X E es ms) : PJd X E (e :: es) (m :: ms)
theorem PJd.pj {X : Cx} {E : WX} : ∀ {es : List Expr} {ms : List (M Res)}, PJd X E es ms → PJ X es (ms.map fun m => tE X.K X.mg E m)
  | _, _, .nil => .nil
  | _, _, .cons h r => .cons h r.pj
theorem js_read {K : PySem.W.Frag} {mg : Str → Option Value} {E : WX} {σ : L2.St} {Q : VK} : ∀ (ms : List (M Res)) (acc : Str) (Hb H : Hp) (ρ : R) (H0 : Hp), Rel K Hb H σ ρ → (∀ a, H0 a ≠ none → H a ≠ none) →
    Sat K mg E σ Hb H ρ (mJs ms acc) (fun r σ' ρ' Hb' H' => σ' = σ → ∀ v, RepR K Hb' H' σ ρ' H0 v r → Q v H') → tJs (ms.map fun m => tE K mg E m) acc σ H fun out H1 => Q (.str out) H1
  | [], acc, Hb, H, ρ, H0, Rr, _, S => S.ret Rr rfl _ (.str acc)
  | m :: ms, acc, Hb, H, ρ, H0, Rr, t, S => by
    show tE K mg E m σ H fun x H1 => ∃ y : Str, x = .str y ∧ (acc ++ y).length ≤ sizeLine ∧ tJs (ms.map fun m => tE K mg E m) (acc ++ y) σ H1 fun out H1 => Q (.str out) H1
    have S : Sat K mg E σ Hb H ρ (bnd (thaw m) fun x => match x with | .val (.str y) => if (acc ++ y).length ≤ sizeLine then mJs ms (acc ++ y) else stuck | _ => stuck) (fun r σ' ρ' Hb' H' => σ' = σ → ∀ v, RepR K Hb' H' σ ρ' H0 v r → Q v H') := S
    refine tE_mono (e_thaw Rr S) fun v H1 ⟨Hb1, ρ1, x, R1, rx, g1, S1⟩ => ?_
    split at S1
    · rename_i y
      split at S1
      · rename_i c
        have ev : v = .str y := by
          cases rx with
          | val h _ => exact h.str_inv
        exact ⟨y, ev, c, js_read ms (acc ++ y) Hb1 H1 ρ1 H0 R1 (fun a h => g1.t a (t a h)) (S1.mono fun r σ' ρ' Hb' H' g2 _ p => p (g1.trans g2))⟩
      · obtain ⟨_, _, e, _⟩ := S1
        cases e
    · obtain ⟨_, _, e, _⟩ := S1
      cases e
theorem me_js {X : Cx} {E : WX} {v1 v2 : Expr} {rest : List Expr} {ms : List (M Res)} {pos : Pos} (h : PJd X E (v1 :: v2 :: rest) ms) : PE X (.JoinedStr (v1 :: v2 :: rest) pos) (tE X.K X.mg E (mJs ms Str.empty)) := (pe_joined h.pj).imp fun σ H Q ⟨Hb, ρ, Rr, S⟩ => js_read ms Str.empty Hb H ρ H Rr (fun _ h => h) S
end Mi

/-! Mi: what is known of an exception class; a try's clause. -/
namespace Mi
open PySem L2 Evl PySem.Spec PyProof.Rows
/-- a clause that takes the one class cls -/
def ct1 (cls : Str) : Str → Option Bool := fun n => if n = cls then some true else none
theorem hct1 {K : PySem.W.Frag} {mg : Str → Option Value} {cls : Str} {C : Addr} (hC : mg cls = some (.ref C)) (he : PySem.W.exmOne K (.ref C) (.ref C) = some true) : ∀ n b c, ct1 cls n = some b → mg n = some c → PySem.W.exmOne K c (.ref C) = some b := by
  intro n b c h hm
  unfold ct1 at h
  split at h
  · rename_i e
    cases h
    subst e
    rw [hC] at hm
    cases hm
    exact he
  · cases h
/-- the class C, named x, with the one field f, as the top has written it -/
structure XcT (K : PySem.W.Frag) (mg : Str → Option Value) (x f : Str) (C : Addr) : Prop where
  gC : mg x = some (.ref C)
  ox : OexC K C
  xf : XfC K C
  no : PySem.W.findIn K (.ref C) f = some none
  ex : PySem.W.exmOne K (.ref C) (.ref C) = some true
  is : IsC K C
theorem exm_selfC {K : PySem.W.Frag} {S : Addr} (h1 : PySem.W.subIn K (.ref S) (.type "BaseException") = some true) (h2 : (PySem.W.clsIn K S).isSome = true) (h3 : PySem.W.typeIn K (.ref S) = some (.type "type")) (h4 : PySem.W.subIn K (.ref S) (.ref S) = some true) : PySem.W.exmOne K (.ref S) (.ref S) = some true := by
  have e1 : (PySem.W.subIn K (.ref S) (.type "BaseException") == some true) = true := by rw [h1] <;> rfl
  have e2 : ((PySem.W.clsIn K S).isSome && PySem.W.typeIn K (.ref S) == some (.type "type")) = true := by rw [h2, h3] <;> rfl
  unfold PySem.W.exmOne
  first
    | (rw [if_pos e1, if_pos e2]; exact h4)
    | (show (if (PySem.W.subIn K (.ref S) (.type "BaseException") == some true) = true then (if ((PySem.W.clsIn K S).isSome && PySem.W.typeIn K (.ref S) == some (.type "type")) = true then PySem.W.subIn K (.ref S) (.ref S) else none) else none) = some true
       rw [if_pos e1, if_pos e2]; exact h4)
theorem xct_mk {K : PySem.W.Frag} {h : Heap} {mg : Str → Option Value} {x f : Str} {C : Addr} {nm q : Str} {N : Addr} {bs bm : List Value} {sn : List Str} {sub : List Value} {ab : Bool} {col : Option Bool} {dd : Option Addr} {m0 m1 m2 m3 m5 : Option Value} (X : K.In h) (G : h.Ns mainGlobals mg)
    (aC : PySem.W.nsIn K mainGlobals x = some (some (.ref C))) (xL : K.lookup C = some (excClassObj nm q C N bs bm true sn sub ab col dd m0 m1 m2 m3 m5 "ValueError.__new__")) (vm : PySem.HandSPX.refsVE bm = true)
    (sa : PySem.W.findIn K (.ref C) "__setattr__" = some (some (.builtin "object.__setattr__"))) (ga : PySem.W.findIn K (.ref C) "__getattribute__" = some (some (.builtin "BaseException.__getattribute__"))) (gg : PySem.W.findIn K (.ref C) "__getattr__" = some none) (no : PySem.W.findIn K (.ref C) f = some none)
    (kC : PySem.W.keepIn K (.ref C) = true) (eC : PySem.W.subIn K (.ref C) (.type "BaseException") = some true) (tC : PySem.W.typeIn K (.ref C) = some (.type "type")) (hC : PySem.W.hasDictIn K C = true) (iC : (PySem.W.clsIn K C).isSome = true) (sC : PySem.W.subIn K (.ref C) (.ref C) = some true)
    (ha : PySem.W.findIn K (.ref C) "__class__" = some (some (.builtin "object.__class__"))) (hn : PySem.W.specialIn K (.builtin "object.__class__") "__get__" = some (some (.builtin "getset_descriptor.__get__"))) (ht : PySem.W.takesIn K (.builtin "object.__class__") = some true) (hm : PySem.W.mroIn K C (.type "object") = some true) : XcT K mg x f C :=
  ⟨PySem.W.mg_of X G aC, ⟨⟨nm, q, N, bs, bm, sn, sub, ab, col, dd, m0, m1, m2, m3, m5, xL, vm⟩, sa, eC, tC, kC⟩, ⟨ga, gg, eC, hC⟩, no, exm_selfC eC iC tC sC, ⟨iC, ⟨ga, gg, eC, hC⟩, ha, hn, ht, hm⟩⟩
theorem ex1_mk {P : Program} {w : World} {K : PySem.W.Frag} {mg : Str → Option Value} {base : Heap} {x f : Str} {C fI : Addr} {fdI : FuncData} {ps : List Str} (T : XcT K mg x f C) (a1 : PySem.W.findIn K (.ref C) "__init__" = some (some (.ref fI))) (t1 : PySem.W.typeIn K (.ref fI) = some (.type "function"))
    (F1 : FnOk P w K mg base (L2.CX P w) 1 fI fdI ps (spI1 K f)) (hb : Binds K fdI ps []) : Ex1 P w K mg base x f := ⟨C, fI, fdI, ps, T.ox, a1, t1, T.gC, T.no, F1, hb⟩
theorem idat {K : PySem.W.Frag} {h : Heap} {mg : Str → Option Value} {x fl qual : Str} {st : Stmt} {C f : Addr} {oc : Value} {od an : Option Addr} {osl : Array (Option Value)} {kV doc pm cdv ct : Value} (_ : K.In h) (_ : XcT K mg x fl C) (a : PySem.W.findIn K (.ref C) "__init__" = some (some (.ref f))) (t : PySem.W.typeIn K (.ref f) = some (.type "function"))
    (l : K.lookup f = some ⟨oc, od, .func (PySem.W.fnOf "__init__" qual (defArgs st) (defBody st) (defScope st) .none kV doc pm an cdv ct), osl⟩) (c : PySem.W.codeIn K cdv qual = true) (k : PySem.W.keepIn K (.ref f) = true) :
    ∃ (f : Addr) (fd : FuncData), PySem.W.findIn K (.ref C) "__init__" = some (some (.ref f)) ∧ PySem.W.typeIn K (.ref f) = some (.type "function") ∧ Fun K "__init__" qual st f fd := ⟨f, _, a, t, fun_mk l c k⟩
end Mi

/-! Mi: try with several clauses that bind one name. -/
namespace Mi
open PySem L2 Evl PySem.Spec PyProof.Rows
/-- a clause: its class, its suite's reading -/
abbrev Clz := Value × (Addr → Value → Option Addr → TS)
/-- the ends of a suite: the name's slot is emptied -/
def offAt (j : Nat) (De : Ends) : Ends := ⟨fun τ G => De.nx (τ.set j none) G, De.rt, fun τ G => De.bk (τ.set j none) G, fun τ G => De.ct (τ.set j none) G⟩
def wSome (K : PySem.W.Frag) (j : Nat) (Wo : WX) (De : Ends) : List Clz → WX
  | [] => Wo
  | p :: r => fun k d τ G => ∃ y, PySem.W.exmOne K k p.1 = some y ∧ (y = true → ∀ a, G a = none → p.2 a k d (offAt j De) (τ.set j (some (.ref a))) G) ∧ (y = false → wSome K j Wo De r k d τ G)
inductive Hands (X : Cx) (nm : Str) : List ExceptHandler → List Clz → Prop
  | none : Hands X nm [] []
  | more {x : Str} {c : Value} {rd : Addr → Value → Option Addr → TS} {b0 : Stmt} {su : List Stmt} {p1 p2 : Pos} {hl : List ExceptHandler} {l : List Clz} (who : Names X x c)
      (suite : ∀ (a : Addr) (ob : Obj) (k : Value) (d : Option Addr) (ps : List (Addr × Obj)), Zc k d ob → (∃ vs, ob.data = .fields vs) → PSs (X.suite a ((a, ob) :: ps)) (b0 :: su) (rd a k d)) (rest : Hands X nm hl l) :
      Hands X nm (.ExceptHandler (some (.Name x p1)) (some nm) (b0 :: su) p2 :: hl) ((c, rd) :: l)
section
variable {X : Cx} {nm : Str} {j : Nat} {body : List Stmt} {h1 : ExceptHandler} {hl : List ExceptHandler} {l : List Clz} {pos : Pos} {tb : WX → TS} {Wo : WX}
theorem ps_try_named (es : X.stack = X.env :: X.outer) (ef : X.env.frame = some X.env.locals) (nd : X.N.Nodup) (ej : X.N[j]? = some nm) (ek : X.env.kindOf nm = some .local) (tk : Takes X Wo)
    (hb : ∀ (W : WX) (ps : List (Addr × Obj)) (xe : Value → Shared → Prop), Takes (X.tr ps xe) W → PassesOwn (model X.prog X.w) X.A X.env xe → PSs (X.tr ps xe) body (tb W))
    (hh : Hands X nm (h1 :: hl) l) : PS X (.Try body (h1 :: hl) [] [] pos) (fun De τ G => tb (wSome X.K j Wo De l) De τ G) := by
  refine ⟨fun pins st τ G De Iv given => ?_⟩
  have bok := Iv.ok
  have frq : X.A.frames = some (X.env :: X.outer) := by rw [bok.frames, es]
  have lcl : Loc X.env.scope nm := .inl ek
  refine wpAny_Try_except (wpAny_mono ((hb (wSome X.K j Wo De l) (X.pn ++ pins) (fun ev t1 => wpAny (model X.prog X.w) X.A (noteFrame ev X.env) (fun _ t2 => wpAny (model X.prog X.w) X.A (setFlight ev none) (fun _ t3 =>
    wpAny (model X.prog X.w) X.A (handleBy ev X.env (h1 :: hl)) (SP X pins De) X.xe t3) X.xe t2) X.xe t1) (fun uu s5 caught => ?_) PassesOwn.looking).run [] st τ G De (Iv.toTry _) given) (fun fw s5 quiet => ?_) (fun _ _ z => z))
  · obtain ⟨a, Bq, si, pq, τ1, G1, kk, dd, rfl, Jq, nb, upq, skq, fra, osq, agq, wish⟩ := caught
    have Jb : Inv X pins τ1 G1 si := Jq.ofTry bok
    have skz : Sky Bq (X.env :: X.outer) a (Zc kk dd) X.env.locals s5.heap := by rw [← es]; exact skq
    show wpAny (model X.prog X.w) X.A (noteFrame (.ref a) X.env) _ _ _
    refine Sky.land Zc.steady frq ef skz fun hA flA upA => ?_
    have JA : Inv X pins τ1 G1 { s5 with heap := hA } := Jb.landed nb flA.1 (upq.trans upA) osq agq
    obtain ⟨oA, vA, geA, zA, dA⟩ := flA.there
    have out : a ∉ frs (X.env :: X.outer) := fun hm => by
      obtain ⟨_, ob, ge, no⟩ := flA.2.2.1.mem hm
      rw [geA] at ge; cases ge
      exact no _ dA
    have outL : a ≠ X.env.locals := fun z => out (List.mem_filterMap.mpr ⟨X.env, List.mem_cons_self, by rw [ef, z]⟩)
    have outF : a ∉ X.fs := fun hm => by
      obtain ⟨e1, m1, q1⟩ := List.mem_filterMap.mp hm
      exact out (List.mem_filterMap.mpr ⟨e1, List.mem_cons_of_mem _ m1, q1⟩)
    have SA := JA.suite geA dA fra outL outF
    have walk : ∀ {hs : List ExceptHandler} {cs : List Clz}, Hands X nm hs cs → wSome X.K j Wo De cs kk dd τ1 G1 → wpAny (model X.prog X.w) X.A (handleBy (.ref a) X.env hs) (SP X pins De) X.xe { s5 with heap := hA } := by
      intro hs cs hk
      induction hk with
      | none =>
        intro wi
        refine wpAny_handleBy_nil ?_
        obtain ⟨_, _, _, ob, vs, T, oT, ts1, ge, _, da, f1, _⟩ := id flA
        unfold PySem.passOn
        refine wpAny_bind (wpAny_field ge da f1 ?_)
        rw [if_neg (show ¬ ((Value.ref T == Value.none) = true) by simp)]
        have last : wpAny (model X.prog X.w) X.A (setFlight (.ref a) X.env.frame) (fun _ t4 => wpAny (model X.prog X.w) X.A (throw (.ref a) : Sem Flow) (SP X pins De) X.xe t4) X.xe { s5 with heap := hA } := by
          rw [ef]
          exact HandSPX.setFlight_upZ flA fun hB hhB upB => wpAny_throw (tk _ _ ⟨a, Bq, si, pins, τ1, G1, kk, dd, rfl, Jb, nb, (upq.trans upA).trans upB, .inr (.inr (by rw [es]; exact hhB)), fra, osq, agq, wi⟩)
        first
          | exact wpAny_bind (wpAny_pure (wpAny_bind last))
          | exact wpAny_bind last
      | @more x c rd b0 su p1 p2 hl2 l2 who suite rest ih =>
        intro wi
        obtain ⟨y, ey, yes, no⟩ := wi
        refine wpAny_handleBy_cons (codeAny_handlers_test ?_) (by intro q; cases q)
        have ty : PySem.W.Looks (model X.prog X.w) hA (typeOf (.ref a)) kk := fun _ _ _ _ kp q => wpAny_typeOf_ref (kp _ _ geA) (by rw [zA.1]; exact q)
        have mt := PySem.W.exm_one (M := model X.prog X.w) JA.kIn ty ey
        have ask : ∀ {Q E : Value → Shared → Prop}, Q c { s5 with heap := hA } → wpAny (model X.prog X.w) (X.A.mark (some (.ref a))) (eval (.Name x p1) X.env) Q E { s5 with heap := hA } := fun {Q E} q => by
          obtain ⟨g1, g2, g3 | ⟨g3, g4, g5⟩⟩ := who
          · exact ld_glob (X := X.suite a ((a, oA) :: (X.pn ++ pins))) SA g1 g3 q g2
          · exact ld_blt (X := X.suite a ((a, oA) :: (X.pn ++ pins))) SA g1 g3 g4 q g5 g2
        refine ask (mt.here ?_)
        cases y with
        | false => exact ih (no rfl)
        | true =>
          refine codeAny_handlers_suite_as (HandSPX.lands_againZ flA fun hB flB upB => ?_)
          have JB : Inv X pins τ1 G1 { s5 with heap := hB } := Jb.landed nb flB.1 ((upq.trans upA).trans upB) osq agq
          obtain ⟨oB, vB, geB, zB, dB⟩ := flB.there
          refine store_ok (X := X.suite a ((a, oB) :: (X.pn ++ pins))) (v := .ref a) (JB.suite geB dB fra outL outF) nd ej lcl rfl (fun s6 I6 => ?_) (.inr ek)
          refine wpAny_mono ((suite a oB kk dd (X.pn ++ pins) zB ⟨_, dB⟩).run [] s6 _ G1 _ I6 (yes rfl a fra)) (fun fw s7 sp => ?_) (fun _ _ z => False.elim z)
          have close : ∀ {τ7 : L2.St} {G7 : Hp} {Q : Shared → Prop}, Inv (X.suite a ((a, oB) :: (X.pn ++ pins))) [] τ7 G7 s7 → (∀ s8, Inv X pins (τ7.set j none) G7 s8 → Q s8) →
              wpAny (model X.prog X.w) X.A (do bindName X.env nm .none; unbindBehindTheSuite X.env nm p2) (fun _ s8 => Q s8) X.xe s7 := fun {τ7 G7 Q} I7 hq => gone_ok (I7.unsuite bok) nd ej ek hq
          cases fw with
          | ret _ =>
            obtain ⟨v7, τ7, G7, I7, r7, q7⟩ := sp
            exact close I7 fun s8 I8 => ⟨_, _, _, I8, r7, q7⟩
          | next =>
            obtain ⟨τ7, G7, I7, q7⟩ := sp
            exact close I7 fun s8 I8 => ⟨_, _, I8, q7⟩
          | brk =>
            obtain ⟨τ7, G7, I7, q7⟩ := sp
            exact close I7 fun s8 I8 => ⟨_, _, I8, q7⟩
          | cont =>
            obtain ⟨τ7, G7, I7, q7⟩ := sp
            exact close I7 fun s8 I8 => ⟨_, _, I8, q7⟩
    exact walk hh wish
  · cases fw with
    | ret _ =>
      obtain ⟨v6, τ6, G6, I6, r6, q6⟩ := quiet
      exact ⟨v6, τ6, G6, I6.ofTry bok, r6, q6⟩
    | next =>
      obtain ⟨τ6, G6, I6, q6⟩ := quiet
      exact wpAny_execs_nil ⟨τ6, G6, I6.ofTry bok, q6⟩
    | brk =>
      obtain ⟨τ6, G6, I6, q6⟩ := quiet
      exact ⟨τ6, G6, I6.ofTry bok, q6⟩
    | cont =>
      obtain ⟨τ6, G6, I6, q6⟩ := quiet
      exact ⟨τ6, G6, I6.ofTry bok, q6⟩
end
end Mi

/-! Mi: several clauses over data; or in a suite. -/
namespace Mi
open PySem L2 Evl PySem.Spec PyProof.Rows
/-- the clause that takes an exception of the class n: none: it is not known; some none: none takes it -/
def pickC : List ((Str → Option Bool) × (Exc → M Fl)) → Str → Option (Option (Exc → M Fl))
  | [], _ => some none
  | p :: r, n => match p.1 n with
    | some true => some (some p.2)
    | some false => pickC r n
    | none => none
def mTryN (b : M Fl) (i : Nat) (cs : List ((Str → Option Bool) × (Exc → M Fl))) : M Fl := fun ρ => match b ρ with
  | some (.exc x, ρ') => match pickC cs x.cls with
    | some (some h) => match ρ'[i]?, h x ρ' with
      | some none, some (.ok .nx, ρ'') => match ρ''[i]? with
        | some none => some (.ok .nx, ρ'')
        | _ => none
      | _, _ => none
    | some none => some (.exc x, ρ')
    | none => none
  | o => o
/-- a clause: its class, which classes it takes, its suite -/
abbrev Cla := Value × (Str → Option Bool) × (Exc → M Fl)
def clz (K : PySem.W.Frag) (mg : Str → Option Value) (i : Nat) (p : Cla) : Clz := (p.1, fun a cls d => sufS K mg i p.2.2 a cls d)
def ClaOk (K : PySem.W.Frag) (mg : Str → Option Value) (p : Cla) : Prop := ∀ n b c, p.2.1 n = some b → mg n = some c → PySem.W.exmOne K c p.1 = some b
section
variable {K : PySem.W.Frag} {mg : Str → Option Value} {E : WX} {σ : L2.St} {Hb H : Hp} {ρ : R} {i : Nat}
theorem some_of {De : Ends} {x : Exc} {c : Value} {d : Option Addr} (hm : mg x.cls = some c) : ∀ {L : List Cla} {o : Option (Exc → M Fl)}, (∀ p ∈ L, ClaOk K mg p) → pickC (L.map (·.2)) x.cls = some o →
    (∀ h, o = some h → ∀ a, H a = none → xS (fun σ Hb H => ExAt K i a c d x σ Hb H mg) K mg E0W (h x) (offAt i De) (σ.set i (some (.ref a))) H) → (o = none → E c d σ H) → wSome K i E De (L.map (clz K mg i)) c d σ H
  | [], o, _, hp, _, h2 => by
    cases hp
    exact h2 rfl
  | p :: L, o, ok, hp, h1, h2 => by
    have hp : (match p.2.1 x.cls with | some true => some (some p.2.2) | some false => pickC (L.map (·.2)) x.cls | none => none) = some o := hp
    split at hp
    · rename_i e
      cases hp
      refine ⟨true, ok p List.mem_cons_self _ _ _ e hm, fun _ a ha => ⟨x, h1 _ rfl a ha⟩, fun q => by cases q⟩
    · rename_i e
      refine ⟨false, ok p List.mem_cons_self _ _ _ e hm, fun q => (by cases q), fun _ => ?_⟩
      exact some_of hm (fun q hq => ok q (List.mem_cons_of_mem _ hq)) hp h1 h2
    · cases hp
theorem tryN_read {mb : M Fl} {De : Ends} {L : List Cla} (ok : ∀ p ∈ L, ClaOk K mg p) (w : tS K mg E (mTryN mb i (L.map (·.2))) De σ H) : tS K mg (wSome K i E De (L.map (clz K mg i))) mb De σ H := by
  obtain ⟨Hb, ρ, Rr, out, ρ2, e, h1, h2⟩ := w
  unfold mTryN at e
  split at e
  · rename_i x ρ' eb
    refine ⟨Hb, ρ, Rr, _, _, eb, fun fl q => (by cases q), fun x' q σ' c d Hb' H' g R' xr => ?_⟩
    cases q
    split at e
    · rename_i h hc
      refine some_of xr.1 ok hc (fun h' q a ha => ?_) (fun q => by cases q)
      cases q
      split at e
      · rename_i ρ'' hi eh
        split at e
        · rename_i hi2
          cases e
          refine ⟨Hb', ρ', rel_put R' hi, ⟨?_, xr⟩, _, _, eh, fun fl q σ2 Hb2 H2 g2 R2 => ?_, fun z q => by cases q⟩
          · refine List.getElem?_set_self ?_
            rw [R'.len]
            exact (List.getElem?_eq_some_iff.mp hi).1
          · cases q
            exact h1 _ rfl _ Hb2 H2 (((g.trans (go_put hi)).trans g2).trans (go_put hi2)) (rel_put R2 hi2)
        · cases e
      · cases e
    · rename_i hc
      cases e
      exact some_of xr.1 ok hc (fun h q => by cases q) (fun _ => h2 _ rfl σ' c d Hb' H' g R' xr)
    · cases e
  · rename_i o no
    refine ⟨Hb, ρ, Rr, out, ρ2, e, h1, fun x q => ?_⟩
    subst q
    exact absurd e (no _ _)
end
section
variable {X : Cx} {nm : Str} {i : Nat} {hl : List ExceptHandler} {L : List Cla}
theorem hands_more {x : Str} {cv : Value} {ct : Str → Option Bool} {h : Exc → M Fl} {b0 : Stmt} {su : List Stmt} {p1 p2 : Pos} (hc : Names X x cv)
    (hsu : ∀ (a : Addr) (oe : Obj) (cls : Value) (d : Option Addr) (pn : List (Addr × Obj)), Zc cls d oe → (∃ vs, oe.data = .fields vs) → ∀ y, PSs (X.suite a ((a, oe) :: pn)) (b0 :: su) (xS (fun σ Hb H => ExAt X.K i a cls d y σ Hb H X.mg) X.K X.mg E0W (h y)))
    (r : Hands X nm hl (L.map (clz X.K X.mg i))) : Hands X nm (.ExceptHandler (some (.Name x p1)) (some nm) (b0 :: su) p2 :: hl) (((cv, ct, h) :: L).map (clz X.K X.mg i)) :=
  .more hc (fun a oe cls d pn hz hf => ⟨fun pins s σ H De I w => by
    obtain ⟨y, w⟩ := w
    exact (hsu a oe cls d pn hz hf y).run pins s σ H De I w⟩) r
theorem hands_nil : Hands X nm [] ((([] : List Cla)).map (clz X.K X.mg i)) := .none
theorem clas_nil {K : PySem.W.Frag} {mg : Str → Option Value} : ∀ p ∈ ([] : List Cla), ClaOk K mg p := fun _ h => by cases h
theorem clas_more {K : PySem.W.Frag} {mg : Str → Option Value} {p : Cla} {L : List Cla} (h : ClaOk K mg p) (r : ∀ p ∈ L, ClaOk K mg p) : ∀ q ∈ p :: L, ClaOk K mg q := fun q hq => by
  rcases List.mem_cons.mp hq with e | e
  · subst e; exact h
  · exact r q e
theorem ms_tryN {E : WX} {body : List Stmt} {h1 : ExceptHandler} {pos : Pos} {mb : M Fl} (es : X.stack = X.env :: X.outer) (ef : X.env.frame = some X.env.locals) (nd : X.N.Nodup) (ej : X.N[i]? = some nm) (ek : X.env.kindOf nm = some .local) (tk : Takes X E)
    (ok : ∀ p ∈ L, ClaOk X.K X.mg p) (hb : ∀ (W : WX) (pn : List (Addr × Obj)) (xe : Value → Shared → Prop), Takes (X.tr pn xe) W → PSs (X.tr pn xe) body (tS X.K X.mg W mb)) (hh : Hands X nm (h1 :: hl) (L.map (clz X.K X.mg i))) :
    PS X (.Try body (h1 :: hl) [] [] pos) (tS X.K X.mg E (mTryN mb i (L.map (·.2)))) :=
  (ps_try_named (tb := fun W => tS X.K X.mg W mb) es ef nd ej ek tk (fun W pn xe tk' _ => hb W pn xe tk') hh).imp fun De σ H w => tryN_read ok w
end
/-! ### or in a suite -/
section
variable {K : PySem.W.Frag} {mg : Str → Option Value} {E : WX} {F : L2.St → Hp → Hp → Prop} {m : M Res}
theorem xe_thaw (st : Stable K F) {σ : L2.St} {H : Hp} {β : Type} {f : Res → M β} {Hb : Hp} {ρ : R} {P : β → L2.St → R → Hp → Hp → Prop} (Rr : Rel K Hb H σ ρ) (hF : F σ Hb H) (S : Sat K mg E σ Hb H ρ (bnd (thaw m) f) P) :
    xE F K mg E m σ H fun v H1 => ∃ Hb1 ρ1 r, Rel K Hb1 H1 σ ρ1 ∧ F σ Hb1 H1 ∧ RepA K Hb1 σ [v] [r] ∧ Go σ ρ Hb H σ ρ1 Hb1 H1 ∧ Sat K mg E σ Hb1 H1 ρ1 (f r) fun b σ' ρ' Hb' H' => Go σ ρ Hb H σ' ρ' Hb' H' → P b σ' ρ' Hb' H' := by
  have S0 : Sat K mg E σ Hb H ρ (bnd m fun r => f (thawR r)) P := by
    refine S.eq ?_
    unfold thaw bnd ret
    cases m ρ with
    | none => rfl
    | some p =>
      obtain ⟨o, _⟩ := p
      cases o <;> rfl
  refine ⟨Hb, ρ, Rr, hF, S0.bnd0.mono fun r σ' ρ1 Hb1 H1 g R1 S1 es v rep => ?_⟩
  subst es
  obtain ⟨out, ρ2, e1, h1, h2⟩ := S1
  obtain ⟨Hb2, g2, R2, _, rep2⟩ := rep_thaw g R1 rep
  refine ⟨Hb2, ρ1, thawR r, R2, st σ' ρ Hb H ρ1 Hb2 H1 g2 Rr R2 hF, ?_, g2, out, ρ2, e1, fun b q σ2 Hb3 H3 _ R3 g3 => h1 b q σ2 Hb3 H3 g3 R3, fun e q σ2 c dd Hb3 H3 g3 R3 x => h2 e q σ2 c dd Hb3 H3 (g2.trans g3) R3 x⟩
  cases r with
  | val _ => exact .val rep2 .nil
  | fresh _ => exact .val rep2 .nil
  | slot _ => exact .slot rep2 .nil
end
theorem xe_or {X : Cx} {E : WX} {F : L2.St → Hp → Hp → Prop} {pos : Pos} {a b : Expr} {rest : List Expr} {ma mb : M Res} (st : Stable X.K F) (ha : PE X a (xE F X.K X.mg E ma)) (hb : PE X (.BoolOp .Or (b :: rest) pos) (xE F X.K X.mg E mb)) :
    PE X (.BoolOp .Or (a :: b :: rest) pos) (xE F X.K X.mg E (mOrV ma mb)) := (pe_or ha hb).imp fun σ H Q w => by
  obtain ⟨Hb, ρ, Rr, hF, S⟩ := w
  obtain ⟨Hb0, ρ0, R0, F0, S0⟩ := xe_thaw st Rr hF S
  refine ⟨Hb0, ρ0, R0, F0, S0.mono fun r σ' ρ' Hb' H' _ _ p es v rep => ?_⟩
  obtain ⟨Hb1, ρ1, x, R1, F1, rx, g1, S1⟩ := p es v rep
  cases q : isT x with
  | none =>
    rw [q] at S1
    obtain ⟨_, _, e, _⟩ := S1
    cases e
  | some k =>
    rw [q] at S1
    refine ⟨k, isT_rep rx q, ?_⟩
    cases k with
    | true =>
      rw [if_pos rfl]
      exact S1.ret R1 g1 rfl _ (.bl true)
    | false =>
      rw [if_neg Bool.false_ne_true]
      exact ⟨Hb1, ρ1, R1, F1, S1.mono fun r σ2 ρ2 Hb2 H2 g2 R2 p2 es2 v2 rep2 => p2 (g1.trans g2) es2 v2 (rep2.from' g1.t)⟩
theorem xe_one {X : Cx} {op} {w : TE} {pos : Pos} {a : Expr} (ha : PE X a w) : PE X (.BoolOp op [a] pos) w := pe_one ha
end Mi

/-! Mi: enumerate and zip over lists and tuples. -/
namespace Mi
open PySem L2 Evl PySem.Spec PyProof.Rows
/-- a list (true) or a tuple (false) -/
def SqB (b : Bool) (K : PySem.W.Frag) (H : Hp) (a : Addr) (xs : List V) : Prop := match b with
  | true => SqL K H a xs
  | false => SqT K H a xs
def ItB (b : Bool) (h : Heap) (it a : Addr) (i : Nat) : Prop := match b with
  | true => h.IsListIter it a i
  | false => h.IsTupleIter it a i
def OfB (b : Bool) (h : Heap) (a : Addr) (xs : Array Value) : Prop := match b with
  | true => h.IsList a xs
  | false => h.IsTuple a xs
def itO (b : Bool) (a : Addr) : Obj := { cls := .type (match b with | true => "list_iterator" | false => "tuple_iterator"), data := .fields #[.ref a, .int 0 0] }
theorem draws_b {prog : Program} {w : World} {A : Around} (b : Bool) (hh : A.handled = none) (it a : Addr) (ne : a ≠ it) (xs : Array Value) : Draws prog w A it [it, a] xs.size (fun i v => xs[i]? = some v) (fun i h => ItB b h it a i ∧ OfB b h a xs) := by
  cases b
  · exact .tuple hh it a ne xs
  · exact .list hh it a ne xs
theorem begins_b (b : Bool) (a : Addr) (xs : Array Value) : Begins (.ref a) (itO b a) fun h => OfB b h a xs := by
  cases b
  · exact begins_tuple a xs
  · exact begins_list a xs
theorem itB_new {b : Bool} {h : Heap} {it a : Addr} (e : h.get? it = some (itO b a)) : ItB b h it a 0 := by
  cases b <;> exact ⟨_, e, rfl, rfl⟩
theorem ofB_cls {b : Bool} {h : Heap} {a : Addr} {xs : Array Value} (q : OfB b h a xs) : ∃ o, h.get? a = some o ∧ (o.cls = .type "list" ∨ o.cls = .type "tuple") := by
  cases b
  · obtain ⟨o, e, c, _⟩ := q
    exact ⟨o, e, .inr c⟩
  · obtain ⟨o, e, c, _⟩ := q
    exact ⟨o, e, .inl c⟩
theorem itB_cls {b : Bool} {h : Heap} {it a : Addr} {i : Nat} (q : ItB b h it a i) : ∃ o, h.get? it = some o ∧ (o.cls = .type "list_iterator" ∨ o.cls = .type "tuple_iterator") ∧ ∃ fs, o.data = .fields fs := by
  cases b
  · obtain ⟨o, e, c, d⟩ := q
    exact ⟨o, e, .inr c, _, d⟩
  · obtain ⟨o, e, c, d⟩ := q
    exact ⟨o, e, .inl c, _, d⟩
theorem itB_at {b : Bool} {h h' : Heap} {it a : Addr} {i : Nat} (q : ItB b h it a i) (k : ∀ o, h.get? it = some o → h'.get? it = some o) : ItB b h' it a i := by
  cases b
  · exact Heap.IsTupleIter.at q k
  · exact Heap.IsListIter.at q k
section
variable {X : Cx} {pins : List (Addr × Obj)} {σ : L2.St} {H : Hp} {s : Shared} {a : Addr} {xs ys : List V} {b : Bool}
theorem inv_b (I : Inv X pins σ H s) (h : SqB b X.K H a xs) : ∃ its : List Value, Vals xs its ∧ OfB b s.heap a its.toArray ∧ xs.length ≤ sizeLine := by
  cases b
  · obtain ⟨its, rv, p, hz⟩ := I.tuple h
    exact ⟨its, rv, p, hz⟩
  · obtain ⟨its, rv, p, hz⟩ := I.list h
    exact ⟨its, rv, p.isList, hz⟩
theorem inv_b_inj (I : Inv X pins σ H s) (h : SqB b X.K H a xs) (h' : SqB b X.K H a ys) : xs = ys := by
  cases b
  · exact I.tuple_inj h h'
  · exact I.list_inj h h'
end
theorem ne_cls {h : Heap} {a c : Addr} {o p : Obj} (ea : h.get? a = some o) (ec : h.get? c = some p) (n : o.cls ≠ p.cls) : a ≠ c := fun e => by
  subst e
  rw [ea] at ec
  cases ec
  exact n rfl
/-! ### enumerate -/
def Ie (b : Bool) (K : PySem.W.Frag) (a : Addr) : It :=
  ⟨fun i H => ∃ (xs : List V) (x : V), SqB b K H a xs ∧ xs[i]? = some x, fun i H v H' => ∃ T x, v = .ref T ∧ H T = none ∧ H' = upd H T (.tup [.int (i : Nat), x]) ∧ ∀ xs, SqB b K H a xs → xs[i]? = some x, fun i H => ∃ xs : List V, SqB b K H a xs ∧ xs.length = i⟩
theorem turn_e {P : Program} {w : World} {K : PySem.W.Frag} {elts : List Expr} {kk : Nat} {tpos : Pos} (b : Bool) (a e it : Addr) :
    Turn P w K (.Tuple elts kk tpos) (Ie b K a) [e, it] e (fun i h => (∃ old, IsEnum h e it ((i : Nat) : Int) old) ∧ ItB b h it a i) where
  mem := by simp
  obj := fun i h ⟨⟨old, he⟩, hit⟩ c hc => by
    obtain ⟨o, eo, _, fs, ef⟩ := itB_cls hit
    rcases (show c = e ∨ c = it by simpa using hc) with z | z
    · rw [z]; exact ⟨_, he, fun v q => nomatch q⟩
    · rw [z]; exact ⟨o, eo, fun v q => by rw [ef] at q; cases q⟩
  keep := fun i h h' ⟨⟨old, he⟩, hit⟩ k => ⟨⟨old, k e (by simp) _ he⟩, itB_at hit fun o q => k it (by simp) o q⟩
  item := by
    intro X hP hw hK hc i pins s σ H E I hf ⟨⟨old, he⟩, hit⟩ ⟨xs, x, hq, hx⟩
    subst hP hw hK
    obtain ⟨its, rv, ob, hz⟩ := inv_b I hq
    obtain ⟨u, hu, ru⟩ := rv.get hx
    obtain ⟨oa, ea, ca⟩ := ofB_cls ob
    obtain ⟨oi, ei, ci, _⟩ := itB_cls hit
    have nai : a ≠ it := ne_cls ea ei (by rcases ca with q | q <;> rcases ci with r | r <;> rw [q, r] <;> decide)
    have nei : e ≠ it := ne_cls he ei (by rcases ci with r | r <;> rw [r] <;> show Value.type "enumerate" ≠ _ <;> decide)
    have nea : e ≠ a := ne_cls he ea (by rcases ca with r | r <;> rw [r] <;> show Value.type "enumerate" ≠ _ <;> decide)
    have hel : e < s.heap.objs.size := Heap.lt_size he
    have hil : it < s.heap.objs.size := Heap.lt_size ei
    have hh : X.A.in1.handled = none := I.ok.hd hc
    have li : i < its.toArray.size := by
      have := (List.getElem?_eq_some_iff.mp hu).1
      simpa using this
    refine wpAny_pyNext_enum_itemD (draws_b (prog := X.prog) (w := X.w) b hh it a nai its.toArray) he ⟨hit, ob⟩ li nei (by simp [nei, nea]) fun x' h' tk hx' ho st' hT hsz hk => ?_
    have exu : x' = u := by
      have hx'' : its[i]? = some x' := by simpa using hx'
      rw [hu] at hx''
      cases hx''
      rfl
    subst exu
    refine ⟨_, rfl, wpAny_letOwnedTupleGo_enum (s := { s with heap := h', toks := tk + 1 }) ho fun h'' he' sb => ?_⟩
    have hT2 : h''.get? s.heap.objs.size = some { cls := .type "tuple", data := .seq #[.int i tk, x'] } := (sb.2 _ (Nat.ne_of_gt hel)).trans hT
    have new : ObjOk X.prog X.w (upd H s.heap.objs.size (.tup [.int (i : Nat), x])) h'' s.heap.objs.size (.tup [.int (i : Nat), x]) :=
      ⟨by show 2 ≤ sizeLine; decide, [.int i tk, x'], .cons ⟨_, rfl⟩ (.cons ru .nil), ⟨_, hT2, rfl, _, rfl⟩⟩
    have J := I.turnedNew (t' := tk + 1) (ch := [e, it]) (fun c o hb q => (sb.2 c (fun z => hb (by simp [z]))).trans (hk c o (fun z => hb (by simp [z])) (fun z => hb (by simp [z])) q)) hf (Nat.le_refl _) new
    refine ⟨.ref s.heap.objs.size, _, J, rfl, ⟨_, x, rfl, I.hok.fresh (Nat.le_refl _), rfl, fun ys hy => by rw [inv_b_inj I hy hq]; exact hx⟩, ⟨⟨x', ?_⟩, itB_at st'.1 fun o q => (sb.2 it (Ne.symm nei)).trans q⟩, fun c hb => ?_⟩
    · have e1 : ((i + 1 : Nat) : Int) = (i : Int) + 1 := by omega
      rw [e1]; exact he'
    · have hb' : c < s.heap.objs.size := by
        rcases (show c = e ∨ c = it by simpa using hb) with z | z
        · rw [z]; exact hel
        · rw [z]; exact hil
      rw [upd_ne (Nat.ne_of_lt hb')]
      exact (hf c hb).1
  done := by
    intro X hP hw hK hc i pins s σ H E I hf ⟨⟨old, he⟩, hit⟩ ⟨xs, hq, hx⟩
    subst hP hw hK
    obtain ⟨its, rv, ob, hz⟩ := inv_b I hq
    obtain ⟨oa, ea, ca⟩ := ofB_cls ob
    obtain ⟨oi, ei, ci, _⟩ := itB_cls hit
    have nai : a ≠ it := ne_cls ea ei (by rcases ca with q | q <;> rcases ci with r | r <;> rw [q, r] <;> decide)
    obtain ⟨f0, f1, f2, f3, f4, f5⟩ := hf it (by simp)
    have hh : X.A.in1.handled = none := I.ok.hd hc
    have en : its.toArray.size = i := by
      have hl := rv.length
      simp
      omega
    refine wpAny_pyNext_enum_endD (draws_b (prog := X.prog) (w := X.w) b hh it a nai its.toArray) he (by rw [en]; exact ⟨hit, ob⟩) fun h' eb => ⟨rfl, I.turned (t' := s.toks) (fun c o hb q => eb c o hb q) f0 f1 f3 f4 f5⟩
  self := fun A i s Q E ⟨⟨_, he⟩, _⟩ h => wpAny_pyIter_enum he h
set_option maxHeartbeats 1000000 in
theorem enum_new1 {v : Value} {o : Obj} {H : Heap → Prop} (B : Begins v o H) :
    Meets (Builtin.«enumerate.__new__» ⟨[.type "enumerate", v], []⟩) (fun _ R s => H s.heap ∧
      R (.ok (.ret (.ref (s.heap.push o).objs.size))) { s with heap := (s.heap.push o).push { cls := .type "enumerate", data := .fields #[.none, .bool false, .ref s.heap.objs.size, rawInt 0, .none, .none] } }) :=
  .of_wp fun prog w A R s h => by
    obtain ⟨hp, gg, dd, tk, os⟩ := s; obtain ⟨hH, h⟩ := h
    have hsub := sub_enumerate
    have q1 : ∀ {A' : Around} {E : Value → Shared → Prop} {Q : Value → Shared → Prop}, Q (.ref hp.objs.size) ⟨hp.push o, gg, dd, tk, os⟩ → wpAny (model prog w) A' (pyIter v) Q E ⟨hp, gg, dd, tk, os⟩ :=
      fun q => B.iter prog w _ _ _ _ hH q
    wp_walk using q1
    refine wpAny_stack_any fun st => wpAny_pure ?_
    split
    · rename_i c _ _ _ _ _
      cases (c == Value.type "enumerate") <;> (wp_walk using q1; exact ⟨_, rfl, h⟩)
    · wp_walk using q1
      exact ⟨_, rfl, h⟩
section
variable {prog : Program} {w : World} {A : Around} {E : Value → Shared → Prop} {s : Shared}
theorem call_enum1 {v : Value} {o : Obj} {H : Heap → Prop} {Q : Value → Shared → Prop} (B : Begins v o H) (hH : H s.heap)
    (h : ∀ h', IsEnum h' (s.heap.objs.size + 1) s.heap.objs.size 0 .none → h'.get? s.heap.objs.size = some o → (∀ c p, s.heap.get? c = some p → h'.get? c = some p) → Q (.ref (s.heap.objs.size + 1)) { s with heap := h' }) :
    wpAny (model prog w) A (call (.type "enumerate") [v]) Q E s := by
  refine callType_new F.called_enumerate (by decide) (F.typeCall_enumerate_1 _) (F.newCall_enumerate_1 _) (fun ob => F.args_object_init_2 ob _) F.entry_enumerate_new (enum_new1 B) ⟨hH, ?_⟩
  have sz : (s.heap.push o).objs.size = s.heap.objs.size + 1 := Heap.size_push ..
  have en := Heap.get?_push_size (s.heap.push o) (o := { cls := .type "enumerate", data := .fields #[.none, .bool false, .ref s.heap.objs.size, rawInt 0, .none, .none] }) rfl
  show _ ∧ _
  rw [sz] at en ⊢
  exact ⟨⟨_, en, rfl⟩, h _ en (Heap.get?_push_of_some _ (Heap.get?_push_size _ B.free)) fun c p x => Heap.get?_push_of_some _ (Heap.get?_push_of_some _ x)⟩
end
def iEn (K : PySem.W.Frag) (ta : TA) : TI := fun σ H R => ta σ H fun vs H1 => ∃ b a xs, vs = [.ref a] ∧ SqB b K H1 a xs ∧ R (Ie b K a) H1
theorem pi_en {X : Cx} {e : Expr} {ta : TA} {p pos tpos : Pos} {elts : List Expr} {kk : Nat} (hg : Gl X "enumerate") (hm : X.mg "enumerate" = none) (ha : PA X [e] ta) (hs : starEach [e] X.env = [(false, eval e X.env)] := by rfl) :
    PI X (.Tuple elts kk tpos) (.Call (.Name "enumerate" p) [e] [] pos) (iEn X.K ta) := ⟨fun pins s σ H R I h => by
  refine Call_ (ld_blt I hg hm boot_enumerate (PyProof.Rows.callWith_type1 (thn (ha.run pos pins s σ H _ I h) fun us t1 ⟨vs, H1, I1, rr, b, a, xs, ev, hq, q⟩ => ?_) hs rfl))
  subst ev
  cases rr with
  | cons r1 r2 =>
    cases r2
    cases r1
    obtain ⟨its, rv, ob, hz⟩ := inv_b I1 hq
    refine call_enum1 (begins_b b a its.toArray) ob fun h' he hi hk => wpAny_pyIter_enum he ?_
    refine ⟨t1.heap.objs.size + 1, [t1.heap.objs.size + 1, t1.heap.objs.size], _, _, H1, rfl, I1.kept (t' := t1.toks) hk, turn_e b a (t1.heap.objs.size + 1) t1.heap.objs.size, ⟨⟨.none, he⟩, itB_new hi⟩, fun c hc => ?_, q⟩
    have le : t1.heap.objs.size ≤ c := by
      rcases (show c = t1.heap.objs.size + 1 ∨ c = t1.heap.objs.size by simpa using hc) with z | z
      · rw [z]; exact Nat.le_add_right _ _
      · rw [z]; exact Nat.le_refl _
    exact I1.fpOk le (I1.hok.fresh le)⟩
/-! ### zip -/
def Iz (b1 b2 : Bool) (K : PySem.W.Frag) (a c : Addr) : It :=
  ⟨fun i H => ∃ (xs ys : List V) (x y : V), SqB b1 K H a xs ∧ SqB b2 K H c ys ∧ xs[i]? = some x ∧ ys[i]? = some y,
    fun i H v H' => ∃ T x y, v = .ref T ∧ H T = none ∧ H' = upd H T (.tup [x, y]) ∧ (∀ xs, SqB b1 K H a xs → xs[i]? = some x) ∧ ∀ ys, SqB b2 K H c ys → ys[i]? = some y,
    fun i H => ∃ xs ys : List V, SqB b1 K H a xs ∧ SqB b2 K H c ys ∧ min xs.length ys.length = i⟩
structure Zst (b1 b2 : Bool) (a c z TI TO i1 i2 : Addr) (i : Nat) (h : Heap) : Prop where
  z : IsZip h z TI TO .none
  tI : IsTupOf2 h TI (.ref i1) (.ref i2)
  tO : ∃ p q, IsTupOf2 h TO p q
  s1 : ItB b1 h i1 a i
  s2 : ItB b2 h i2 c i
  d : TI ≠ TO ∧ i1 ≠ i2 ∧ TO ≠ a ∧ TO ≠ c
theorem sep_z {b1 b2 : Bool} {a c z TI TO i1 i2 : Addr} {i : Nat} {h : Heap} {xs ys : Array Value} (S : Zst b1 b2 a c z TI TO i1 i2 i h) (o1 : OfB b1 h a xs) (o2 : OfB b2 h c ys) : ZipSep2 z TI TO i1 i2 [i1, a] [i2, c] := by
  obtain ⟨p, q, hTO⟩ := S.tO
  obtain ⟨oa, ea, ca⟩ := ofB_cls o1
  obtain ⟨oc, ec, cc⟩ := ofB_cls o2
  obtain ⟨p1, e1, k1, _⟩ := itB_cls S.s1
  obtain ⟨p2, e2, k2, _⟩ := itB_cls S.s2
  have zc : ∀ {d : Addr} {o : Obj}, h.get? d = some o → o.cls ≠ .type "zip" → z ≠ d := fun e n => ne_cls S.z e fun r => n r.symm
  have tc : ∀ {T : Addr} {x y : Value} {d : Addr} {o : Obj}, IsTupOf2 h T x y → h.get? d = some o → o.cls ≠ .type "tuple" → T ≠ d := fun ht e n => ne_cls ht e fun r => n r.symm
  have nz1 : p1.cls ≠ .type "zip" := by rcases k1 with r | r <;> rw [r] <;> decide
  have nz2 : p2.cls ≠ .type "zip" := by rcases k2 with r | r <;> rw [r] <;> decide
  have nza : oa.cls ≠ .type "zip" := by rcases ca with r | r <;> rw [r] <;> decide
  have nzc : oc.cls ≠ .type "zip" := by rcases cc with r | r <;> rw [r] <;> decide
  have nt1 : p1.cls ≠ .type "tuple" := by rcases k1 with r | r <;> rw [r] <;> decide
  have nt2 : p2.cls ≠ .type "tuple" := by rcases k2 with r | r <;> rw [r] <;> decide
  have n1c : i1 ≠ c := ne_cls e1 ec (by rcases k1 with r | r <;> rcases cc with t | t <;> rw [r, t] <;> decide)
  have n2a : i2 ≠ a := ne_cls e2 ea (by rcases k2 with r | r <;> rcases ca with t | t <;> rw [r, t] <;> decide)
  exact {
    TIz := Ne.symm (zc S.tI (by show Value.type "tuple" ≠ _; decide))
    TOz := Ne.symm (zc hTO (by show Value.type "tuple" ≠ _; decide))
    TITO := S.d.1
    TIi1 := tc S.tI e1 nt1
    mem1 := by simp
    zf1 := by simp [zc e1 nz1, zc ea nza]
    Tf1 := by simp [tc hTO e1 nt1, S.d.2.2.1]
    TIi2 := tc S.tI e2 nt2
    mem2 := by simp
    zf2 := by simp [zc e2 nz2, zc ec nzc]
    Tf2 := by simp [tc hTO e2 nt2, S.d.2.2.2]
    sep1_2 := by simp [S.d.2.1, n1c]
    sep2_1 := by simp [Ne.symm S.d.2.1, n2a] }
theorem turn_z {P : Program} {w : World} {K : PySem.W.Frag} {elts : List Expr} {kk : Nat} {tpos : Pos} (b1 b2 : Bool) (a c z TI TO i1 i2 : Addr) :
    Turn P w K (.Tuple elts kk tpos) (Iz b1 b2 K a c) [z, TI, TO, i1, i2] z (fun i h => Zst b1 b2 a c z TI TO i1 i2 i h) where
  mem := by simp
  obj := fun i h S d hd => by
    obtain ⟨p, q, hTO⟩ := S.tO
    obtain ⟨o1, e1, _, f1, d1⟩ := itB_cls S.s1
    obtain ⟨o2, e2, _, f2, d2⟩ := itB_cls S.s2
    rcases (show d = z ∨ d = TI ∨ d = TO ∨ d = i1 ∨ d = i2 by simpa using hd) with r | r | r | r | r
    · rw [r]; exact ⟨_, S.z, fun v q => nomatch q⟩
    · rw [r]; exact ⟨_, S.tI, fun v q => nomatch q⟩
    · rw [r]; exact ⟨_, hTO, fun v q => nomatch q⟩
    · rw [r]; exact ⟨o1, e1, fun v q => by rw [d1] at q; cases q⟩
    · rw [r]; exact ⟨o2, e2, fun v q => by rw [d2] at q; cases q⟩
  keep := fun i h h' S k => by
    obtain ⟨p, q, hTO⟩ := S.tO
    exact ⟨k z (by simp) _ S.z, k TI (by simp) _ S.tI, ⟨p, q, k TO (by simp) _ hTO⟩, itB_at S.s1 fun o e => k i1 (by simp) o e, itB_at S.s2 fun o e => k i2 (by simp) o e, S.d⟩
  item := by
    intro X hP hw hK hc i pins s σ H E I hf S ⟨xs, ys, x, y, hqx, hqy, hx, hy⟩
    subst hP hw hK
    obtain ⟨its, rv, ob, _⟩ := inv_b I hqx
    obtain ⟨its2, rv2, ob2, _⟩ := inv_b I hqy
    obtain ⟨u, hu, ru⟩ := rv.get hx
    obtain ⟨u2, hu2, ru2⟩ := rv2.get hy
    have sp := sep_z S ob ob2
    obtain ⟨p, q, hTO⟩ := S.tO
    have hh : X.A.in1.handled = none := I.ok.hd hc
    have nai : a ≠ i1 := fun e => by
      have := sp.zf1
      obtain ⟨oa, ea, ca⟩ := ofB_cls ob
      obtain ⟨o1, e1, k1, _⟩ := itB_cls S.s1
      exact ne_cls ea e1 (by rcases ca with q | q <;> rcases k1 with r | r <;> rw [q, r] <;> decide) e
    have nci : c ≠ i2 := fun e => by
      obtain ⟨oa, ea, ca⟩ := ofB_cls ob2
      obtain ⟨o1, e1, k1, _⟩ := itB_cls S.s2
      exact ne_cls ea e1 (by rcases ca with q | q <;> rcases k1 with r | r <;> rw [q, r] <;> decide) e
    have l1 : i < its.toArray.size := by
      have := (List.getElem?_eq_some_iff.mp hu).1
      simpa using this
    have l2 : i < its2.toArray.size := by
      have := (List.getElem?_eq_some_iff.mp hu2).1
      simpa using this
    refine wpAny_pyNext_zipD2_item sp (draws_b (prog := X.prog) (w := X.w) b1 hh i1 a nai its.toArray) (draws_b (prog := X.prog) (w := X.w) b2 hh i2 c nci its2.toArray) S.z S.tI hTO ⟨S.s1, ob⟩ ⟨S.s2, ob2⟩ l1 l2 fun v1 v2 h' tk hv1 hv2 hz' hTO' st1 st2 hT hsz hk => ?_
    have ev1 : v1 = u := by
      have r : its[i]? = some v1 := by simpa using hv1
      rw [hu] at r; cases r; rfl
    have ev2 : v2 = u2 := by
      have r : its2[i]? = some v2 := by simpa using hv2
      rw [hu2] at r; cases r; rfl
    subst ev1 ev2
    have zl : z < s.heap.objs.size := Heap.lt_size S.z
    refine ⟨_, rfl, wpAny_letOwnedTupleGo_zip (s := { s with heap := h', toks := tk }) hz' fun h'' hz'' sb => ?_⟩
    have hT2 : h''.get? s.heap.objs.size = some { cls := .type "tuple", data := .seq #[v1, v2] } := (sb.2 _ (Nat.ne_of_gt zl)).trans hT
    have new : ObjOk X.prog X.w (upd H s.heap.objs.size (.tup [x, y])) h'' s.heap.objs.size (.tup [x, y]) :=
      ⟨by show 2 ≤ sizeLine; decide, [v1, v2], .cons ru (.cons ru2 .nil), ⟨_, hT2, rfl, _, rfl⟩⟩
    have J := I.turnedNew (t' := tk) (ch := [z, TI, TO, i1, i2]) (fun d o hb q => (sb.2 d (fun r => hb (by simp [r]))).trans (hk d o (fun r => hb (by simp [r])) (fun r => hb (by simp [r])) (fun r => hb (by simp [r])) (fun r => hb (by simp [r])) q)) hf (Nat.le_refl _) new
    refine ⟨.ref s.heap.objs.size, _, J, rfl, ⟨_, x, y, rfl, I.hok.fresh (Nat.le_refl _), rfl, fun l hl => by rw [inv_b_inj I hl hqx]; exact hx, fun l hl => by rw [inv_b_inj I hl hqy]; exact hy⟩,
      ⟨hz'', (sb.2 _ sp.TIz).trans (hk _ _ sp.TIz sp.TITO sp.TIi1 sp.TIi2 S.tI), ⟨v1, v2, (sb.2 _ sp.TOz).trans hTO'⟩, itB_at st1.1 fun o q => (sb.2 _ (Ne.symm sp.zi1)).trans q, itB_at st2.1 fun o q => (sb.2 _ (Ne.symm sp.zi2)).trans q, S.d⟩, fun d hd => ?_⟩
    have lt : d < s.heap.objs.size := by
      rcases (show d = z ∨ d = TI ∨ d = TO ∨ d = i1 ∨ d = i2 by simpa using hd) with r | r | r | r | r
      · rw [r]; exact zl
      · rw [r]; exact Heap.lt_size S.tI
      · rw [r]; exact Heap.lt_size hTO
      · rw [r]; obtain ⟨_, e1, _⟩ := itB_cls S.s1; exact Heap.lt_size e1
      · rw [r]; obtain ⟨_, e2, _⟩ := itB_cls S.s2; exact Heap.lt_size e2
    rw [upd_ne (Nat.ne_of_lt lt)]
    exact (hf d hd).1
  done := by
    intro X hP hw hK hc i pins s σ H E I hf S ⟨xs, ys, hqx, hqy, hend⟩
    subst hP hw hK
    obtain ⟨its, rv, ob, _⟩ := inv_b I hqx
    obtain ⟨its2, rv2, ob2, _⟩ := inv_b I hqy
    have sp := sep_z S ob ob2
    obtain ⟨p, q, hTO⟩ := S.tO
    have hh : X.A.in1.handled = none := I.ok.hd hc
    have nai : a ≠ i1 := fun e => by
      obtain ⟨oa, ea, ca⟩ := ofB_cls ob
      obtain ⟨o1, e1, k1, _⟩ := itB_cls S.s1
      exact ne_cls ea e1 (by rcases ca with q | q <;> rcases k1 with r | r <;> rw [q, r] <;> decide) e
    have nci : c ≠ i2 := fun e => by
      obtain ⟨oa, ea, ca⟩ := ofB_cls ob2
      obtain ⟨o1, e1, k1, _⟩ := itB_cls S.s2
      exact ne_cls ea e1 (by rcases ca with q | q <;> rcases k1 with r | r <;> rw [q, r] <;> decide) e
    have n1 : its.toArray.size = xs.length := by rw [List.size_toArray]; exact rv.length.symm
    have n2 : its2.toArray.size = ys.length := by rw [List.size_toArray]; exact rv2.length.symm
    refine wpAny_pyNext_zipD2_end sp (draws_b (prog := X.prog) (w := X.w) b1 hh i1 a nai its.toArray) (draws_b (prog := X.prog) (w := X.w) b2 hh i2 c nci its2.toArray) S.z S.tI hTO ⟨S.s1, ob⟩ ⟨S.s2, ob2⟩ (by rw [n1]; omega) (by rw [n2]; omega) (by rw [n1, n2]; omega) fun h' tk hk => ⟨rfl, I.turnedL (t' := tk) (ch := [z, TI, TO, i1, i2]) (fun d o hb q =>
      hk d o (fun r => hb (by simp [r])) (fun r => hb (by simp [r])) (fun r => hb (by simp [r])) (fun r => hb (by simp [r])) q) hf⟩
  self := fun A i s Q E S h => wpAny_pyIter_zip S.z h
def iZp (K : PySem.W.Frag) (ta : TA) : TI := fun σ H R => ta σ H fun vs H1 => ∃ b1 b2 a c xs ys, vs = [.ref a, .ref c] ∧ SqB b1 K H1 a xs ∧ SqB b2 K H1 c ys ∧ R (Iz b1 b2 K a c) H1
theorem pi_zp {X : Cx} {e e2 : Expr} {ta : TA} {p pos tpos : Pos} {elts : List Expr} {kk : Nat} (hg : Gl X "zip") (hm : X.mg "zip" = none) (ha : PA X [e, e2] ta)
    (hs : starEach [e, e2] X.env = (false, eval e X.env) :: starEach [e2] X.env := by rfl) (hpl : (backTo pos (starEach [e2] X.env)).any (·.1) = false := by rfl) :
    PI X (.Tuple elts kk tpos) (.Call (.Name "zip" p) [e, e2] [] pos) (iZp X.K ta) := ⟨fun pins s σ H R I h => by
  refine Call_ (ld_blt I hg hm PyProof.Rows.boot_zip (PyProof.Rows.callWith_type1 (thn (ha.run pos pins s σ H _ I h) fun us t1 ⟨vs, H1, I1, rr, b1, b2, a, c, xs, ys, ev, hqx, hqy, q⟩ => ?_) hs hpl))
  subst ev
  cases rr with
  | cons r1 r2 =>
    cases r2 with
    | cons r2 r3 =>
      cases r3
      cases r1
      cases r2
      obtain ⟨its, rv, ob, _⟩ := inv_b I1 hqx
      obtain ⟨its2, rv2, ob2, _⟩ := inv_b I1 hqy
      refine zip_begins2 (begins_b b1 a its.toArray) (begins_b b2 c its2.toArray) ob ob2 fun h' hz hTI hTO h1 h2 hsz hk => wpAny_pyIter_zip hz ?_
      obtain ⟨oa, ea, _⟩ := ofB_cls ob
      obtain ⟨oc, ec, _⟩ := ofB_cls ob2
      have la : a < t1.heap.objs.size := Heap.lt_size ea
      have lc : c < t1.heap.objs.size := Heap.lt_size ec
      refine ⟨t1.heap.objs.size + 4, [t1.heap.objs.size + 4, t1.heap.objs.size + 2, t1.heap.objs.size + 3, t1.heap.objs.size, t1.heap.objs.size + 1], _, _, H1, rfl, I1.kept (t' := t1.toks) hk, turn_z b1 b2 a c _ _ _ _ _,
        ⟨hz, hTI, ⟨_, _, hTO⟩, itB_new h1, itB_new h2, fun e => ?_, fun e => ?_, fun e => ?_, fun e => ?_⟩, fun d hd => ?_, q⟩
      · exact absurd (show t1.heap.objs.size + 2 = t1.heap.objs.size + 3 from e) (by omega)
      · exact absurd (show t1.heap.objs.size = t1.heap.objs.size + 1 from e) (by omega)
      · rw [← e] at la
        exact absurd (show t1.heap.objs.size + 3 < t1.heap.objs.size from la) (by omega)
      · rw [← e] at lc
        exact absurd (show t1.heap.objs.size + 3 < t1.heap.objs.size from lc) (by omega)
      · have le : t1.heap.objs.size ≤ d := by
          rcases (show d = t1.heap.objs.size + 4 ∨ d = t1.heap.objs.size + 2 ∨ d = t1.heap.objs.size + 3 ∨ d = t1.heap.objs.size ∨ d = t1.heap.objs.size + 1 by simpa using hd) with r | r | r | r | r <;> rw [r] <;> first | exact Nat.le_add_right _ _ | exact Nat.le_refl _
        exact I1.fpOk le (I1.hok.fresh le)⟩
end Mi

/-! Mi: enumerate and zip over data. -/
namespace Mi
open PySem L2 Evl PySem.Spec PyProof.Rows
def iterL (r : Res) : M Itd := fun ρ => match r with
  | .val (.str _) => none
  | r => iterD r ρ
def mItL (m : M Res) : M Itd := bnd (thaw m) iterL
def enumL : Nat → List D → List D
  | _, [] => []
  | i, x :: xs => .tuple [.int (i : Nat), x] :: enumL (i + 1) xs
def zipL : List D → List D → List D
  | x :: xs, y :: ys => .tuple [x, y] :: zipL xs ys
  | _, _ => []
def mEnum (m : M Res) : M Itd := bnd (mItL m) fun I => ret ⟨enumL 0 I.items, I.lk⟩
def mZip (m1 m2 : M Res) : M Itd := bnd (mItL m1) fun I => bnd (mItL m2) fun J => ret ⟨zipL I.items J.items, I.lk ++ J.lk⟩
theorem enumL_len : ∀ (k : Nat) (xs : List D), (enumL k xs).length = xs.length
  | _, [] => rfl
  | k, x :: xs => by rw [enumL, List.length_cons, List.length_cons, enumL_len]
theorem enumL_get : ∀ (k : Nat) (xs : List D) (i : Nat) (d : D), xs[i]? = some d → (enumL k xs)[i]? = some (.tuple [.int ((k + i : Nat) : Int), d])
  | k, x :: xs, 0, d, h => by
    cases h
    rfl
  | k, x :: xs, i + 1, d, h => by
    have := enumL_get (k + 1) xs i d (by simpa using h)
    rw [enumL, List.getElem?_cons_succ, this, show k + 1 + i = k + (i + 1) by omega]
theorem zipL_len : ∀ xs ys : List D, (zipL xs ys).length = min xs.length ys.length
  | [], ys => by simp [zipL]
  | x :: xs, [] => by simp [zipL]
  | x :: xs, y :: ys => by rw [zipL, List.length_cons, zipL_len xs ys, List.length_cons, List.length_cons]; omega
theorem zipL_get : ∀ (xs ys : List D) (i : Nat) (d e : D), xs[i]? = some d → ys[i]? = some e → (zipL xs ys)[i]? = some (.tuple [d, e])
  | x :: xs, y :: ys, 0, d, e, h, k => by
    cases h
    cases k
    rfl
  | x :: xs, y :: ys, i + 1, d, e, h, k => by
    rw [zipL, List.getElem?_cons_succ]
    exact zipL_get xs ys i d e (by simpa using h) (by simpa using k)
/-- the list or tuple at a keeps the items, as long as what is held is held -/
def Src (b : Bool) (K : PySem.W.Frag) (a : Addr) (σ0 : L2.St) (Hb0 : Hp) (I : Itd) : Prop := ∀ (σ : L2.St) (ρ : R) (Hb H : Hp), Rel K Hb H σ ρ → Ex Hb0 Hb → Held σ0 I σ ρ → ∃ vs, SqB b K H a vs ∧ RpAll K Hb vs I.items
section
variable {K : PySem.W.Frag} {mg : Str → Option Value} {E : WX} {σ : L2.St} {Hb H : Hp} {ρ : R} {m : M Res}
theorem src_read {β : Type} {f : Itd → M β} {P : β → L2.St → R → Hp → Hp → Prop} (Rr : Rel K Hb H σ ρ) (S : Sat K mg E σ Hb H ρ (bnd (mItL m) f) P) :
    tE K mg E m σ H fun v H1 => ∃ b a Hb1 ρ1 I, v = .ref a ∧ Rel K Hb1 H1 σ ρ1 ∧ Go σ ρ Hb H σ ρ1 Hb1 H1 ∧ Held σ I σ ρ1 ∧ Src b K a σ Hb1 I ∧
      Sat K mg E σ Hb1 H1 ρ1 (f I) fun x σ' ρ' Hb' H' => Go σ ρ Hb H σ' ρ' Hb' H' → P x σ' ρ' Hb' H' := by
  obtain ⟨out, ρ2, e, h1, h2⟩ := S
  rcases bnd_some e with ⟨I, ρ1, e1, e2⟩ | ⟨x, ρ1, e1, e2⟩
  · have rest : ∀ {Hb1 H1 : Hp}, Go σ ρ Hb H σ ρ1 Hb1 H1 → Sat K mg E σ Hb1 H1 ρ1 (f I) fun x σ' ρ' Hb' H' => Go σ ρ Hb H σ' ρ' Hb' H' → P x σ' ρ' Hb' H' := fun {Hb1 H1} g =>
      ⟨out, ρ2, e2, fun x q σ' Hb' H' _ R' gg => h1 x q σ' Hb' H' gg R', fun x q σ' c d Hb' H' g' R' xr => h2 x q σ' c d Hb' H' (g.trans g') R' xr⟩
    rcases bnd_some (m := thaw m) (f := iterL) e1 with ⟨r, ρ0, f1, f2⟩ | ⟨x, ρ0, f1, f2⟩
    case inr => cases f2
    rcases thaw_some f1 with ⟨r0, em, q⟩ | ⟨x, _, q⟩
    case inr => cases q
    cases q
    cases hr : thawR r0 with
    | fresh xs => cases r0 <;> cases hr
    | val d =>
      rw [hr] at f2
      cases d with
      | list xs =>
        cases f2
        refine tE_mono (e_known Rr em) fun v H1 ⟨Hb1, R1, rx, g1⟩ => ?_
        rw [hr] at rx
        cases rx with
        | val rp _ =>
          cases rp with
          | @lst a vs _ sq ra => exact ⟨true, a, Hb1, ρ1, _, rfl, R1, g1, fun p hp => (by cases hp), fun σ' ρ' Hb' H' R' ex _ => ⟨vs, ex_l (ex.trans R'.ex) sq, ra.mono ex⟩, rest g1⟩
      | tuple xs =>
        cases f2
        refine tE_mono (e_known Rr em) fun v H1 ⟨Hb1, R1, rx, g1⟩ => ?_
        rw [hr] at rx
        cases rx with
        | val rp _ =>
          cases rp with
          | @tup a vs _ sq ra => exact ⟨false, a, Hb1, ρ1, _, rfl, R1, g1, fun p hp => (by cases hp), fun σ' ρ' Hb' H' R' ex _ => ⟨vs, ex_t (ex.trans R'.ex) sq, ra.mono ex⟩, rest g1⟩
      | _ => cases f2
    | slot j =>
      rw [hr] at f2
      have own : ∀ {md md' : Md} {xs : List D}, ρ0[j]? = some (some ⟨md, .list xs⟩) → Md.isOwn md = true → Md.isLk md = false → Md.isLk md' = true → Md.isOwn md' = true → Md.isIo md' = Md.isIo md → I = ⟨xs, [(j, .list xs)]⟩ → ρ1 = ρ0.set j (some ⟨md', .list xs⟩) →
          tE K mg E m σ H fun v H1 => ∃ b a Hb1 ρ1 I, v = .ref a ∧ Rel K Hb1 H1 σ ρ1 ∧ Go σ ρ Hb H σ ρ1 Hb1 H1 ∧ Held σ I σ ρ1 ∧ Src b K a σ Hb1 I ∧ Sat K mg E σ Hb1 H1 ρ1 (f I) fun x σ' ρ' Hb' H' => Go σ ρ Hb H σ' ρ' Hb' H' → P x σ' ρ' Hb' H' := by
        intro md md' xs hj ho hl hl' ho' hio hI hρ
        subst hI
        refine tE_mono (e_known Rr em) fun v H1 ⟨Hb1, R1, rx, g1⟩ => ?_
        rw [hr] at rx
        obtain ⟨g2, R2⟩ := lock_go R1 ho hl ho' hio hj
        obtain ⟨a, vs, xs', q1, q2, q3, q4, q5⟩ := R1.own j _ hj ho
        cases q2
        have ev : v = .ref a := by
          cases rx with
          | slot h _ => rw [q1] at h; cases h; rfl
        subst ev
        have hjl : j < ρ0.length := (List.getElem?_eq_some_iff.mp hj).1
        rw [← hρ] at g2 R2
        refine ⟨true, a, Hb1, ρ1, _, rfl, R2, g1.trans g2, fun p hp => ?_, fun σ' ρ' Hb' H' R' ex hd => ?_, rest (g1.trans g2)⟩
        · rcases List.mem_cons.mp hp with e | e
          · subst e
            exact ⟨rfl, md', hl', by rw [hρ]; exact List.getElem?_set_self hjl⟩
          · cases e
        · obtain ⟨y1, m3, w1, w2⟩ := hd (j, .list xs) List.mem_cons_self
          have ow : Md.isOwn m3 = true := by cases m3 <;> first | rfl | cases w1
          obtain ⟨c, us, ys, z1, z2, z3, z4, z5⟩ := R'.own j _ w2 ow
          cases z2
          have y1 : σ'[j]? = σ[j]? := y1
          rw [y1, q1] at z1
          cases z1
          exact ⟨us, SqL.of z4, z5⟩
      unfold iterL iterD at f2
      dsimp only at f2
      split at f2
      · rename_i xs hj
        cases f2
        exact own (md' := .lock) hj rfl rfl rfl rfl rfl rfl rfl
      · rename_i xs hj
        cases f2
        exact own (md' := .iol) hj rfl rfl rfl rfl rfl rfl rfl
      · rename_i xs hj
        cases f2
        refine tE_mono (e_known Rr em) fun v H1 ⟨Hb1, R1, rx, g1⟩ => ?_
        rw [hr] at rx
        obtain ⟨w, q1, q2⟩ := R1.val j _ hj rfl
        have ev : v = w := by
          cases rx with
          | slot h _ => rw [q1] at h; cases h; rfl
        subst ev
        cases q2 with
        | @lst a vs _ sq ra => exact ⟨true, a, Hb1, ρ1, _, rfl, R1, g1, fun p hp => (by cases hp), fun σ' ρ' Hb' H' R' ex _ => ⟨vs, ex_l (ex.trans R'.ex) sq, ra.mono ex⟩, rest g1⟩
      · cases f2
  · cases e2
    rcases bnd_some (m := thaw m) (f := iterL) e1 with ⟨r, ρ0, f1, f2⟩ | ⟨x', ρ0, f1, f2⟩
    · unfold iterL iterD at f2
      split at f2
      · cases f2
      · split at f2 <;> try cases f2
        split at f2 <;> cases f2
    · cases f2
      rcases thaw_some f1 with ⟨r0, em, q⟩ | ⟨x', em, q⟩
      · cases q
      · cases q
        exact e_exc Rr em (h2 _ rfl)
theorem walks_en {b : Bool} {a : Addr} {σ0 : L2.St} {Hb0 : Hp} {I : Itd} (s : Src b K a σ0 Hb0 I) : Walks K (Ie b K a) σ0 Hb0 ⟨enumL 0 I.items, I.lk⟩ := ⟨fun σ ρ Hb H Rr ex hd => by
  obtain ⟨vs, sq, ra⟩ := s σ ρ Hb H Rr ex hd
  have hl := ra.length
  refine ⟨fun i hi => ?_, ⟨vs, sq, by rw [enumL_len]; exact hl⟩, fun i x H' hi y => ?_⟩
  · rw [enumL_len] at hi
    have hi' : i < vs.length := by omega
    exact ⟨vs, vs[i], sq, by simp [hi']⟩
  · obtain ⟨T, x, rfl, hT, rfl, k⟩ := y
    obtain ⟨d, e1, e2⟩ := ra.getV (k vs sq)
    have n := New.fix (o := HO.tup [.int (i : Nat), x]) Rr.ex hT
    refine ⟨_, n, .tuple [.int (i : Nat), d], ?_, .tup (SqT.of upd_same) (.cons (.int _) (.cons (e2.mono n.b) .nil))⟩
    have := enumL_get 0 I.items i d e1
    rw [Nat.zero_add] at this
    exact this⟩
theorem held_l {σ0 σ : L2.St} {ρ : R} {I J : Itd} {xs : List D} (h : Held σ0 ⟨xs, I.lk ++ J.lk⟩ σ ρ) : Held σ0 I σ ρ ∧ Held σ0 J σ ρ :=
  ⟨fun p hp => h p (List.mem_append_left _ hp), fun p hp => h p (List.mem_append_right _ hp)⟩
theorem walks_zp {b1 b2 : Bool} {a c : Addr} {σ0 : L2.St} {Hb0 : Hp} {I J : Itd} (s : Src b1 K a σ0 Hb0 I) (t : Src b2 K c σ0 Hb0 J) : Walks K (Iz b1 b2 K a c) σ0 Hb0 ⟨zipL I.items J.items, I.lk ++ J.lk⟩ := ⟨fun σ ρ Hb H Rr ex hd => by
  obtain ⟨d1, d2⟩ := held_l hd
  obtain ⟨vs, sq, ra⟩ := s σ ρ Hb H Rr ex d1
  obtain ⟨us, tq, rb⟩ := t σ ρ Hb H Rr ex d2
  have l1 := ra.length
  have l2 := rb.length
  refine ⟨fun i hi => ?_, ⟨vs, us, sq, tq, by rw [zipL_len, l1, l2]⟩, fun i x H' hi y => ?_⟩
  · rw [zipL_len] at hi
    have h1 : i < vs.length := by omega
    have h2 : i < us.length := by omega
    exact ⟨vs, us, vs[i], us[i], sq, tq, by simp [h1], by simp [h2]⟩
  · obtain ⟨T, x, y, rfl, hT, rfl, k1, k2⟩ := y
    obtain ⟨d, e1, e2⟩ := ra.getV (k1 vs sq)
    obtain ⟨d', e3, e4⟩ := rb.getV (k2 us tq)
    have n := New.fix (o := HO.tup [x, y]) Rr.ex hT
    exact ⟨_, n, .tuple [d, d'], zipL_get _ _ i d d' e1 e3, .tup (SqT.of upd_same) (.cons (e2.mono n.b) (.cons (e4.mono n.b) .nil))⟩⟩
theorem src_now {b : Bool} {a : Addr} {Hb1 H1 : Hp} {ρ1 : R} {I : Itd} (s : Src b K a σ Hb1 I) (Rr : Rel K Hb1 H1 σ ρ1) (h : Held σ I σ ρ1) : ∃ vs, SqB b K H1 a vs := by
  obtain ⟨vs, q, _⟩ := s σ ρ1 Hb1 H1 Rr (Ex.refl _) h
  exact ⟨vs, q⟩
end
section
variable {X : Cx} {E : WX} {e e2 : Expr} {m m2 : M Res} {p pos tpos : Pos} {elts : List Expr} {kk : Nat}
theorem mi_en (hg : Gl X "enumerate") (hm : X.mg "enumerate" = none) (he : PE X e (tE X.K X.mg E m)) (hs : starEach [e] X.env = [(false, eval e X.env)] := by rfl) :
    PI X (.Tuple elts kk tpos) (.Call (.Name "enumerate" p) [e] [] pos) (tI X.K X.mg E (mEnum m)) := PI_imp (pi_en hg hm (pa_cons he pa_nil hs) hs) fun σ H Rc w => by
  obtain ⟨Hb, ρ, Rr, S⟩ := w
  refine tE_mono (src_read Rr S) fun v H1 ⟨b, a, Hb1, ρ1, I, ev, R1, g1, hh, sr, S1⟩ => ?_
  subst ev
  obtain ⟨vs, sq⟩ := src_now sr R1 hh
  exact ⟨b, a, vs, rfl, sq, S1.ret R1 g1 rfl hh _ (walks_en sr)⟩
theorem mi_zp (hg : Gl X "zip") (hm : X.mg "zip" = none) (he : PE X e (tE X.K X.mg E m)) (he2 : PE X e2 (tE X.K X.mg E m2)) (hs2 : starEach [e2] X.env = [(false, eval e2 X.env)] := by rfl)
    (hs : starEach [e, e2] X.env = (false, eval e X.env) :: starEach [e2] X.env := by rfl) (hpl : (backTo pos (starEach [e2] X.env)).any (·.1) = false := by rfl) :
    PI X (.Tuple elts kk tpos) (.Call (.Name "zip" p) [e, e2] [] pos) (tI X.K X.mg E (mZip m m2)) := PI_imp (pi_zp hg hm (pa_cons he (pa_cons he2 pa_nil hs2) hs) hs hpl) fun σ H Rc w => by
  obtain ⟨Hb, ρ, Rr, S⟩ := w
  refine tE_mono (src_read Rr S) fun v H1 ⟨b, a, Hb1, ρ1, I, ev, R1, g1, hh, sr, S1⟩ => ?_
  subst ev
  refine tE_mono (src_read R1 S1) fun v2 H2 ⟨b2, c, Hb2, ρ2, J, ev2, R2, g2, hh2, sr2, S2⟩ => ?_
  subst ev2
  have hI : Held σ I σ ρ2 := held_go g2 hh
  have sr' : Src b X.K a σ Hb2 I := fun σ' ρ' Hb' H' R' ex hd => sr σ' ρ' Hb' H' R' (g2.b.trans ex) hd
  obtain ⟨vs, sq⟩ := src_now sr' R2 hI
  obtain ⟨us, tq⟩ := src_now sr2 R2 hh2
  refine ⟨b, b2, a, c, vs, us, rfl, sq, tq, S2.ret R2 g2 (g1.trans g2) rfl (fun p hp => ?_) _ (walks_zp sr' sr2)⟩
  rcases List.mem_append.mp hp with q | q
  · exact hI p q
  · exact hh2 p q
end
end Mi

/-! Mi: an empty dict; a, b = x, y that keeps new lists owned. -/
namespace Mi
open PySem L2 Evl PySem.Spec PyProof.Rows
theorem me_dct0 {X : Cx} {E : WX} {pos : Pos} : PE X (.Dict [] [] pos) (tE X.K X.mg E (ret (.val (.dict [])))) := pe_dnewK.imp fun σ H Q w => by
  obtain ⟨Hb, ρ, Rr, out, ρ', e, h1, _⟩ := w
  cases e
  intro p hp
  have n := New.fix (o := HO.dK []) Rr.ex hp
  exact h1 _ rfl σ _ _ n.go (n.rel Rr) rfl _ (.dct (Rd.of upd_same) .nil)
/-- what may be stored as it comes -/
def noSlot : Res → Bool
  | .slot _ => false
  | _ => true
def mParO (i j : Nat) (m1 m2 : M Res) : M Fl := bnd m1 fun r => bnd m2 fun s => if noSlot r && noSlot s && i != j then bnd (mStore i r) fun _ => bnd (mStore j s) fun _ => ret .nx else stuck
section
variable {K : PySem.W.Frag} {mg : Str → Option Value} {E : WX} {σ : L2.St} {ρ ρ1 ρ2 : R} {Hb H Hb1 H1 : Hp} {v : V} {r : Res} {i : Nat}
theorem store_ns {o : Out Unit} (g : Go σ ρ Hb H σ ρ1 Hb1 H1) (R : Rel K Hb1 H1 σ ρ1) (rep : RepR K Hb1 H1 σ ρ1 H v r) (hn : noSlot r = true) (e : mStore i r ρ1 = some (o, ρ2)) :
    o = .ok () ∧ Go σ ρ Hb H (σ.set i (some v)) ρ2 Hb1 H1 ∧ Rel K Hb1 H1 (σ.set i (some v)) ρ2 ∧ ∀ a, Own (σ.set i (some v)) ρ2 a → Own σ ρ1 a ∨ v = .ref a ∧ ∃ xs, r = .fresh xs := by
  unfold mStore at e
  split at e
  · rename_i h
    cases r with
    | val d =>
      cases e
      obtain ⟨g2, R2⟩ := set_val R rep h
      refine ⟨rfl, g.trans g2, R2, fun a q => .inl ?_⟩
      exact own_set (fun t e => by cases e; rfl) q
    | fresh xs =>
      cases e
      obtain ⟨a, vs, rfl, h1, h2, h3, h4, h5⟩ := rep
      obtain ⟨g2, R2⟩ := set_own g R h1 h2 h3 h4 h5 h
      refine ⟨rfl, g2, R2, fun b q => ?_⟩
      obtain ⟨k, s, q1, q2, q3⟩ := q
      rcases get_set q1 with ⟨ek, z⟩ | ⟨ek, z⟩
      · subst ek
        have hl : k < σ.length := by rw [R.len]; exact okSet_lt h
        rw [List.getElem?_set_self hl] at q3
        cases q3
        exact .inr ⟨rfl, xs, rfl⟩
      · rw [List.getElem?_set_ne (Ne.symm ek)] at q3
        exact .inl ⟨k, s, z, q2, q3⟩
    | slot _ => cases hn
  · cases e
theorem par_readO {j : Nat} {m1 m2 : M Res} {De : Ends} (w : tS K mg E (mParO i j m1 m2) De σ H) : tPar i j (tCons (tE K mg E m1) (tCons (tE K mg E m2) tNil)) De σ H := by
  obtain ⟨Hb, ρ, R, S⟩ := w
  refine ⟨Hb, ρ, R, S.bnd0.mono fun r σ' ρ1 Hb1 H1 g1 R1 S1 es v rep => ?_⟩
  subst es
  obtain ⟨out, ρe, e, h1, h2⟩ := S1
  rcases bnd_some e with ⟨s, ρ2, em, e5⟩ | ⟨x, ρ2, em, eo⟩
  case inr =>
    refine ⟨Hb1, ρ1, R1, _, _, em, fun s q => (by cases q), fun x' q σ' c d Hb' H' g' R' xr => ?_⟩
    cases q
    cases eo
    exact h2 _ rfl σ' c d Hb' H' (g1.trans g') R' xr
  refine ⟨Hb1, ρ1, R1, _, _, em, fun s' q σ2 Hb2 H2 g2 R2 es u rep2 => ?_, fun x q => by cases q⟩
  cases q
  subst es
  refine ⟨v, u, rfl, ?_⟩
  split at e5
  case isFalse => cases e5
  rename_i c
  simp only [Bool.and_eq_true, bne_iff_ne, ne_eq] at c
  obtain ⟨⟨c1, c2⟩, c3⟩ := c
  have rep1 := RepR.step g2 rep
  rcases bnd_some e5 with ⟨x, ρ3, e3, e4⟩ | ⟨x, ρ3, e3, _⟩
  case inr =>
    obtain ⟨z, _⟩ := store_ns (g1.trans g2) R2 rep1 c1 e3
    cases z
  obtain ⟨_, g3, R3, ow⟩ := store_ns (g1.trans g2) R2 rep1 c1 e3
  have key : ∃ Hx : Hp, Go σ2 ρ Hb H (σ2.set i (some v)) ρ3 Hb2 Hx ∧ Go (σ2.set i (some v)) ρ3 Hb2 Hx (σ2.set i (some v)) ρ3 Hb2 H2 ∧ RepR K Hb2 H2 (σ2.set i (some v)) ρ3 Hx u s := by
    cases s with
    | slot _ => cases c2
    | val d => exact ⟨H2, g3, Go.refl, rep2⟩
    | fresh xs =>
      obtain ⟨a, vs, ea, w1, w2, w3, w4, w5⟩ := rep2
      have na : H a = none := Classical.byContradiction fun q => g1.t a q w4
      refine ⟨fun b => if b = a then none else H2 b, ⟨g3.b, fun b o q1 q2 => ?_, g3.f, fun b q => ?_, g3.o, g3.io, g3.lk⟩, ⟨Ex.refl _, fun b o q _ => ?_, fun b q1 q2 => absurd q1 q2, fun b q => ?_, fun b q => .inl q, fun k t q1 q2 => ⟨rfl, t, q1, q2⟩, fun k t q1 q2 => ⟨rfl, q1⟩⟩, ⟨a, vs, ea, w1, w2, w3, if_pos rfl, fun q => ?_⟩⟩
      · have ne : b ≠ a := fun e => by rw [e, na] at q1; cases q1
        rw [if_neg ne]
        exact g3.k b o q1 q2
      · have ne : b ≠ a := fun e => q (by rw [e]; exact na)
        rw [if_neg ne]
        exact g3.t b q
      · split at q
        · cases q
        · exact q
      · split at q
        · exact absurd rfl q
        · exact q
      · rcases ow a q with z | ⟨z, ys, ey⟩
        · exact w5 z
        · subst ey
          obtain ⟨b, us, eb, y1, y2, y3, y4, y5⟩ := rep
          rw [z] at eb
          cases eb
          rw [w4] at y2
          cases y2
  obtain ⟨Hx, k1, k2, k3⟩ := key
  rcases bnd_some e4 with ⟨x, ρ4, e6, e7⟩ | ⟨x, ρ4, e6, _⟩
  · obtain ⟨_, g4, R4, _⟩ := store_ns k2 R3 k3 c2 e6
    cases e7
    exact h1 .nx rfl _ _ _ (k1.trans g4) R4
  · obtain ⟨z, _⟩ := store_ns k2 R3 k3 c2 e6
    cases z
end
section
variable {X : Cx} {E : WX} {a b : Expr} {m1 m2 : M Res} {x y : Str} {px py pt pos : Pos} {kt k2 pt2}
theorem ms_parO (hc : X.calm = true) (hN : X.N.Nodup) (i j : Nat) (ha : PE X a (tE X.K X.mg E m1)) (hb : PE X b (tE X.K X.mg E m2)) (hi : X.N[i]? = some x := by rfl) (hj : X.N[j]? = some y := by rfl) (hij : i ≠ j := by decide)
    (hx : X.env.scope.names.lookup x = some .local := by rfl) (hy : X.env.scope.names.lookup y = some .local := by rfl)
    (s1 : starEach [a, b] X.env = (false, eval a X.env) :: starEach [b] X.env := by rfl) (s2 : starEach [b] X.env = (false, eval b X.env) :: starEach [] X.env := by rfl)
    (hw : swappedStores [.Tuple [.Name x px, .Name y py] kt pt] (.Tuple [a, b] k2 pt2) X.env = pure (some [x, y]) := by rfl)
    (hs : swapsWithSole [.Tuple [.Name x px, .Name y py] kt pt] (.Tuple [a, b] k2 pt2) pos.line X.env = pure false := by rfl) :
    PS X (.Assign [.Tuple [.Name x px, .Name y py] kt pt] (.Tuple [a, b] k2 pt2) pos) (tS X.K X.mg E (mParO i j m1 m2)) := (ps_par hc hN hi hj hij hx hy (pa_cons ha (pa_cons hb pa_nil s2) s1) hw hs).imp fun _ _ _ w => par_readO w
end
end Mi

/-! Mi: runs of loops and comprehensions over what is held. -/
namespace Mi
open PySem L2 Evl PySem.Spec PyProof.Rows
theorem zipL_map {α β : Type} (f : α → D) (g : β → D) : ∀ (xs : List α) (ys : List β), zipL (xs.map f) (ys.map g) = (xs.zip ys).map fun p => .tuple [f p.1, g p.2]
  | [], ys => by simp [zipL]
  | x :: xs, [] => by simp [zipL]
  | x :: xs, y :: ys => by
    rw [List.map_cons, List.map_cons, zipL, zipL_map f g xs ys, List.zip_cons_cons, List.map_cons]
theorem enumL_map {α : Type} (f : α → D) : ∀ (k : Nat) (xs : List α), enumL k (xs.map f) = (xs.zipIdx k).map fun p => .tuple [.int (p.2 : Nat), f p.1]
  | _, [] => rfl
  | k, x :: xs => by
    rw [List.map_cons, enumL, enumL_map f (k + 1) xs, List.zipIdx_cons, List.map_cons]
/-- a loop over what is held -/
theorem for_runK {it : M Itd} {g : D → M Unit} {b : M Fl} {ρ ρ1 ρ2 ρ3 : R} {I : Itd} {fl : Fl} (hi : it ρ = some (.ok I, ρ1)) (nd : (I.lk.map (·.1)).Nodup) (fr : (I.lk.all fun p => freeAt ρ p.1) = true) (hl : loopF g b I.items ρ1 = some (.ok fl, ρ2)) (hu : unlock I.lk ρ2 = some (.ok (), ρ3)) :
    mFor (chk it) g b ρ = some (.ok fl, ρ3) := by
  unfold mFor bnd chk
  rw [hi]
  dsimp only
  rw [if_pos ⟨nd, fr⟩]
  dsimp only
  rw [hl]
  dsimp only
  rw [hu]
  rfl
theorem lc_runK {it : M Itd} {g : D → M Unit} {t : M Bool} {e : M Res} {vs : List Nat} {ρ ρ1 ρe ρ2 : R} {I : Itd} {xs : List D} (hi : it ρ = some (.ok I, ρ1)) (nd : (I.lk.map (·.1)).Nodup) (fr : (I.lk.all fun p => freeAt ρ p.1) = true) (hv : (I.lk.all fun p => !vs.contains p.1) = true)
    (hc : loopC g t e vs I.items (wipeR ρ1 vs) [] = some (xs, ρe)) (hu : unlock I.lk (restR ρ1 ρe vs) = some (.ok (), ρ2)) : mLc it g t e vs ρ = some (.ok (.fresh xs), ρ2) := by
  unfold mLc bnd chk
  rw [hi]
  dsimp only
  rw [if_pos ⟨nd, fr⟩]
  dsimp only
  rw [if_pos hv, hc]
  dsimp only
  rw [hu]
  rfl
/-- a comprehension with a condition; nothing changes -/
theorem loopC_filter {g : D → M Unit} {t : M Bool} {e : M Res} {vs : List Nat} {ρw : R} {f : D → D} {q : D → Bool} : ∀ (ds acc : List D), acc.length + ds.length ≤ sizeLine →
    (∀ d ∈ ds, ∃ ρa ρb, g d ρw = some (.ok (), ρa) ∧ t ρa = some (.ok (q d), ρb) ∧ (q d = true → ∃ ρc, mVal e ρb = some (.ok (f d), ρc) ∧ wipeR ρc vs = ρw) ∧ (q d = false → wipeR ρb vs = ρw)) → loopC g t e vs ds ρw acc = some (acc ++ (ds.filter q).map f, ρw)
  | [], acc, _, _ => by
    unfold loopC
    rw [List.filter_nil, List.map_nil, List.append_nil]
  | d :: ds, acc, hl, h => by
    obtain ⟨ρa, ρb, e1, e2, e3, e4⟩ := h d List.mem_cons_self
    rw [List.length_cons] at hl
    unfold loopC
    rw [e1]
    dsimp only
    rw [e2]
    cases hq : q d with
    | true =>
      obtain ⟨ρc, e5, e6⟩ := e3 hq
      dsimp only
      rw [e5]
      dsimp only
      rw [if_pos (by omega), e6, loopC_filter ds (acc ++ [f d]) (by rw [List.length_append, List.length_singleton]; omega) fun d' h' => h d' (List.mem_cons_of_mem _ h')]
      rw [List.filter_cons_of_pos hq, List.map_cons, List.append_assoc]
      rfl
    | false =>
      dsimp only
      rw [e4 hq, loopC_filter ds acc (by omega) fun d' h' => h d' (List.mem_cons_of_mem _ h')]
      rw [List.filter_cons_of_neg (by rw [hq]; decide)]
/-- a comprehension that changes the state: each item's value, and the state, keep an invariant -/
theorem loopC_inv {g : D → M Unit} {e : M Res} {vs : List Nat} (Inv : R → Prop) (P : D → Prop) : ∀ (ds acc : List D) (ρ : R), acc.length + ds.length ≤ sizeLine → Inv ρ → (∀ y ∈ acc, P y) →
    (∀ d ∈ ds, ∀ ρ, Inv ρ → ∃ ρa y ρc, g d ρ = some (.ok (), ρa) ∧ mVal e ρa = some (.ok y, ρc) ∧ P y ∧ Inv (wipeR ρc vs)) → ∃ xs ρ', loopC g (ret true) e vs ds ρ acc = some (xs, ρ') ∧ Inv ρ' ∧ (∀ y ∈ xs, P y) ∧ xs.length = acc.length + ds.length
  | [], acc, ρ, _, h0, ha, _ => ⟨acc, ρ, rfl, h0, ha, by simp⟩
  | d :: ds, acc, ρ, hl, h0, ha, h => by
    obtain ⟨ρa, y, ρc, e1, e2, hy, h1⟩ := h d List.mem_cons_self ρ h0
    rw [List.length_cons] at hl
    obtain ⟨xs, ρ', e3, i1, i2, i3⟩ := loopC_inv Inv P ds (acc ++ [y]) (wipeR ρc vs) (by rw [List.length_append, List.length_singleton]; omega) h1 (fun z hz => by
      rcases List.mem_append.mp hz with q | q
      · exact ha z q
      · rw [List.mem_singleton.mp q]; exact hy) fun d' h' => h d' (List.mem_cons_of_mem _ h')
    refine ⟨xs, ρ', ?_, i1, i2, by rw [i3, List.length_append, List.length_singleton, List.length_cons]; omega⟩
    unfold loopC
    rw [e1]
    show (match mVal e ρa with | some (.ok y, ρc) => if acc.length < sizeLine then loopC g (ret true) e vs ds (wipeR ρc vs) (acc ++ [y]) else none | _ => none) = _
    rw [e2]
    dsimp only
    rw [if_pos (by omega)]
    exact e3
end Mi

/-! Mi: loops that return at the first item of a kind. -/
namespace Mi
open PySem L2 Evl PySem.Spec PyProof.Rows
def itemsOf {α : Type} (d : Nat → α → D) : List α → Nat → List D
  | [], _ => []
  | x :: xs, k => d k x :: itemsOf d xs (k + 1)
def firstOf {α : Type} (t : Nat → α → Option Res) : List α → Nat → Option Res
  | [], _ => none
  | x :: xs, k => match t k x with
    | some r => some r
    | none => firstOf t xs (k + 1)
def flOf : Option Res → Fl
  | some r => .rt r
  | none => .nx
theorem loopF_first {α : Type} {g : D → M Unit} {b : M Fl} {d : Nat → α → D} {t : Nat → α → Option Res} (St : R → Prop) : ∀ (xs : List α) (k : Nat) (ρ : R), St ρ →
    (∀ i x ρ, xs[i]? = some x → St ρ → ∃ ρ1 ρ2, g (d (k + i) x) ρ = some (.ok (), ρ1) ∧ b ρ1 = some (.ok (flOf (t (k + i) x)), ρ2) ∧ St ρ2) → ∃ ρ', loopF g b (itemsOf d xs k) ρ = some (.ok (flOf (firstOf t xs k)), ρ') ∧ St ρ'
  | [], k, ρ, h0, _ => ⟨ρ, rfl, h0⟩
  | x :: xs, k, ρ, h0, h => by
    obtain ⟨ρ1, ρ2, e1, e2, h1⟩ := h 0 x ρ rfl h0
    rw [Nat.add_zero] at e1 e2
    unfold itemsOf loopF bnd firstOf
    rw [e1]
    dsimp only
    rw [e2]
    cases ht : t k x with
    | some r => exact ⟨ρ2, rfl, h1⟩
    | none =>
      exact loopF_first St xs (k + 1) ρ2 h1 fun i y ρ hy hs => by
        have := h (i + 1) y ρ (by simpa using hy) hs
        rw [show k + (i + 1) = k + 1 + i by omega] at this
        exact this
theorem items_map {α : Type} (f : α → D) : ∀ (xs : List α) (k : Nat), xs.map f = itemsOf (fun _ x => f x) xs k
  | [], _ => rfl
  | x :: xs, k => by
    rw [List.map_cons, itemsOf, ← items_map f xs (k + 1)]
theorem items_enum {α : Type} (f : α → D) : ∀ (xs : List α) (k : Nat), enumL k (xs.map f) = itemsOf (fun k x => .tuple [.int (k : Nat), f x]) xs k
  | [], _ => rfl
  | x :: xs, k => by
    rw [List.map_cons, enumL, itemsOf, items_enum f xs (k + 1)]
end Mi

/-! Mi: loops that fold. -/
namespace Mi
open PySem L2 Evl PySem.Spec PyProof.Rows
def foldI {α S : Type} (f : Nat → α → S → S) : List α → Nat → S → S
  | [], _, s => s
  | x :: xs, k, s => foldI f xs (k + 1) (f k x s)
theorem loopF_fold {α S : Type} {g : D → M Unit} {b : M Fl} {d : Nat → α → D} {f : Nat → α → S → S} (St : S → R → Prop) : ∀ (xs : List α) (k : Nat) (s : S) (ρ : R), St s ρ →
    (∀ i x s ρ, xs[i]? = some x → St s ρ → ∃ ρ1 ρ2, g (d (k + i) x) ρ = some (.ok (), ρ1) ∧ b ρ1 = some (.ok .nx, ρ2) ∧ St (f (k + i) x s) ρ2) → ∃ ρ', loopF g b (itemsOf d xs k) ρ = some (.ok .nx, ρ') ∧ St (foldI f xs k s) ρ'
  | [], k, s, ρ, h0, _ => ⟨ρ, rfl, h0⟩
  | x :: xs, k, s, ρ, h0, h => by
    obtain ⟨ρ1, ρ2, e1, e2, h1⟩ := h 0 x s ρ rfl h0
    rw [Nat.add_zero] at e1 h1
    unfold itemsOf loopF bnd foldI
    rw [e1]
    dsimp only
    rw [e2]
    exact loopF_fold St xs (k + 1) (f k x s) ρ2 h1 fun i y s ρ hy hs => by
      have := h (i + 1) y s ρ (by simpa using hy) hs
      rw [show k + (i + 1) = k + 1 + i by omega] at this
      exact this
end Mi

/-! Mi: a new list handed on to be changed. -/
namespace Mi
open PySem L2 Evl PySem.Spec
def callT (F : Fn) : Res → M Res
  | .fresh xs => fun ρ => match F [.list xs] with
    | some (.ok (.val d), _) => some (.ok (.val d), ρ)
    | some (.exc e, _) => some (.exc e, ρ)
    | _ => none
  | _ => stuck
def mFT (F : Fn) (m : M Res) : M Res := bnd m (callT F)
theorem callT_read {K : PySem.W.Frag} {mg : Str → Option Value} {E : WX} {σ : L2.St} {H : Hp} {Q : VK} {F : Fn} {m : M Res} (w : tE K mg E (mFT F m) σ H Q) :
    tCallX (spF K mg 1 (some 0) F) 1 0 [] (List.range 1) E (fun σ H Q => tE K mg E m σ H fun v H1 => Q [v] H1) tNil σ H Q := by
  obtain ⟨Hb, ρ, R, S⟩ := w
  refine ⟨Hb, ρ, R, S.bnd0.mono fun r σ1 ρ1 Hb1 H1 g1 R1 h hσ v hv => ⟨rfl, rfl, rfl, ?_⟩⟩
  subst hσ
  obtain ⟨out, ρ2, e, h1, h2⟩ := h
  unfold callT at e
  split at e
  · rename_i xs
    obtain ⟨a, vs, rfl, n1, q1, rp, n0, no⟩ := hv
    have st : ∀ {Hb2 H2 : Hp} {y : D}, GoF (some 0) [.ref a] Hb1 H1 Hb2 H2 → Go σ1 ρ Hb H σ1 ρ1 Hb2 H2 ∧ Rel K Hb2 H2 σ1 ρ1 := by
      intro Hb2 H2 y gf
      have ka : ∀ b o, H1 b = some o → b ≠ a → H2 b = some o := fun b o q ne => gf.k b o q fun ⟨i, hi, hv⟩ => by
        cases hi
        cases hv
        exact ne rfl
      refine ⟨⟨g1.b.trans gf.b, fun b o q n => ka b o (g1.k b o q n) fun z => ?_, fun b q1 q2 => ?_, fun b q => gf.t b (g1.t b q), g1.o, g1.io, g1.lk⟩, ⟨R1.len, gf.e, fun i s q1 q2 => ?_, fun i s q1 q2 => ?_, R1.inj⟩⟩
      · subst z
        rw [n0] at q; cases q
      · by_cases c : Hb1 b = none
        · refine .inl (Classical.byContradiction fun z => g1.t b z (gf.f b c q2))
        · exact g1.f b q1 c
      · obtain ⟨v, e1, e2⟩ := R1.val i s q1 q2
        exact ⟨v, e1, e2.mono gf.b⟩
      · obtain ⟨b, ws, xs, e1, e2, e3, e4, e5⟩ := R1.own i s q1 q2
        have ne : b ≠ a := fun z => no ⟨i, s, q1, q2, by rw [e1, z]⟩
        refine ⟨b, ws, xs, e1, e2, Classical.byContradiction fun z => ?_, ka b _ e4 ne, e5.mono gf.b⟩
        have := gf.f b e3 z
        rw [e4] at this; cases this
    refine ⟨Hb1, [.list xs], R1.ex, ⟨rfl, fun i d hd hi => ?_, fun i hi => ?_⟩, ?_⟩
    · cases i with
      | zero => exact absurd rfl hi
      | succ i => simp at hd
    · cases hi
      exact ⟨a, vs, xs, rfl, rfl, n1, q1, rp⟩
    · split at e
      · rename_i d y eF
        cases e
        refine ⟨_, y, eF, fun r q v Hb2 H2 gf ior rep => ?_, fun x q => by cases q⟩
        cases q
        obtain ⟨g, R2⟩ := st (y := y) gf
        exact h1 _ rfl σ1 _ _ g R2 rfl v rep
      · rename_i x y eF
        cases e
        refine ⟨_, y, eF, fun r q => (by cases q), fun x' q c d Hb2 H2 gf ior xr => ?_⟩
        cases q
        obtain ⟨g, R2⟩ := st (y := y) gf
        exact h2 _ rfl σ1 c d _ _ g R2 xr
      · cases e
  · cases e
section
variable {X : Cx} {E : WX} {x y : Str} {st : Stmt} {ps : List Str} {F : Fn} {k : Nat} {p pos : Pos} {e : Expr} {m : M Res}
theorem me_callFT (G : Kn X.prog X.w X.K X.mg X.base k x y st ps (some 0) F) (hr : Room k X.A) (hgd : X.A.guards = some []) (hg : Gl X x) (hq : ps.length = 1) (hb : BindsQ y st ps 1 [] (List.range 1)) (hx : ∀ σ, PassesAt (L2.CX X.prog X.w) X σ (fun c d H => E c d σ H))
    (ha : PE X e (tE X.K X.mg E m)) (hdb : (x == ("__debug__" : Str)) = false := by decide) (he : starEach [e] X.env = (false, eval e X.env) :: starEach [] X.env := by rfl) (hpl : (backTo pos (starEach [] X.env)).any (·.1) = false := by rfl) :
    PE X (.Call (.Name x p) [e] [] pos) (tE X.K X.mg E (mFT F m)) := by
  obtain ⟨f, fd, h1, h2, h3⟩ := G.it
  rw [hq] at h1
  exact (pe_callX h1 hr hgd hg h2 h3.kp (hb.x h3) hx (pa_cons ha pa_nil he) hdb he hpl).imp fun σ H Q w => callT_read w
end
end Mi

/-! Mi: a, b, c = x, y, z that keeps new lists owned. -/
namespace Mi
open PySem L2 Evl PySem.Spec PyProof.Rows
def mPar3O (i j l : Nat) (m1 m2 m3 : M Res) : M Fl := bnd m1 fun r => bnd m2 fun s => bnd m3 fun t => if noSlot r && noSlot s && noSlot t && i != j && i != l && j != l then bnd (mStore i r) fun _ => bnd (mStore j s) fun _ => bnd (mStore l t) fun _ => ret .nx else stuck
section
variable {K : PySem.W.Frag} {mg : Str → Option Value} {E : WX} {σ σ0 : L2.St} {ρ ρ0 ρ1 ρ2 ρe : R} {Hb H Hb0 H0 Hb1 H1 : Hp} {v : V} {r : Res} {i : Nat}
theorem raw_next {α β : Type} {m : M α} {f : α → M β} {P : α → L2.St → R → Hp → Hp → Prop} {out : Out β} (e : bnd m f ρ1 = some (out, ρe)) (hx : ∀ x, out = .exc x → ∀ σ' c d Hb' H', Go σ ρ1 Hb1 H1 σ' ρe Hb' H' → Rel K Hb' H' σ' ρe → ExcR K mg Hb' H' c d x → E c d σ' H')
    (k : ∀ a ρ2, f a ρ2 = some (out, ρe) → ∀ σ2 Hb2 H2, Go σ ρ1 Hb1 H1 σ2 ρ2 Hb2 H2 → Rel K Hb2 H2 σ2 ρ2 → P a σ2 ρ2 Hb2 H2) : Sat K mg E σ Hb1 H1 ρ1 m P := by
  rcases bnd_some e with ⟨a, ρ2, em, e5⟩ | ⟨x, ρ2, em, eo⟩
  · refine ⟨_, _, em, fun a' q σ2 Hb2 H2 g R => ?_, fun x q => by cases q⟩
    cases q
    exact k a ρ2 e5 σ2 Hb2 H2 g R
  · refine ⟨_, _, em, fun s q => (by cases q), fun x' q σ' c d Hb' H' g' R' xr => ?_⟩
    cases q
    cases eo
    exact hx _ rfl σ' c d Hb' H' g' R' xr
theorem RepR.back {Hp0 : Hp} (t : ∀ a, Hp0 a ≠ none → H0 a ≠ none) (h : RepR K Hb H σ ρ H0 v r) : RepR K Hb H σ ρ Hp0 v r := by
  cases r with
  | val d => exact h
  | slot i => exact h
  | fresh xs =>
    obtain ⟨a, vs, e, h1, h2, h3, h4, h5⟩ := h
    exact ⟨a, vs, e, h1, h2, h3, Classical.byContradiction fun q => t a q h4, h5⟩
/-- two new lists, the second from behind the first -/
def Apart (v : V) (r : Res) (u : V) (s : Res) : Prop := ∀ xs ys a b, r = .fresh xs → s = .fresh ys → v = .ref a → u = .ref b → a ≠ b
theorem apart_of {u : V} {s : Res} {σ' : L2.St} {ρ' : R} {Hb' H' H2 : Hp} {σ2 : L2.St} {ρ2 : R} {Hb2 : Hp} (h : RepR K Hb' H' σ' ρ' H0 v r) (t : ∀ a, H' a ≠ none → H1 a ≠ none) (k : RepR K Hb2 H2 σ2 ρ2 H1 u s) : Apart v r u s := by
  rintro xs ys a b rfl rfl rfl rfl e
  subst e
  obtain ⟨a', vs, e, h1, h2, h3, h4, h5⟩ := h
  obtain ⟨b', ws, e', k1, k2, k3, k4, k5⟩ := k
  cases e
  cases e'
  exact t _ (by rw [h2]; simp) k4
theorem store_pend {o : Out Unit} (g : Go σ0 ρ0 Hb0 H0 σ ρ1 Hb1 H1) (R : Rel K Hb1 H1 σ ρ1) (rep : RepR K Hb1 H1 σ ρ1 H0 v r) (hn : noSlot r = true) (e : mStore i r ρ1 = some (o, ρ2)) :
    o = .ok () ∧ Go σ0 ρ0 Hb0 H0 (σ.set i (some v)) ρ2 Hb1 H1 ∧ Rel K Hb1 H1 (σ.set i (some v)) ρ2 ∧ ∀ u s, noSlot s = true → Apart v r u s → RepR K Hb1 H1 σ ρ1 H0 u s → RepR K Hb1 H1 (σ.set i (some v)) ρ2 H0 u s := by
  unfold mStore at e
  split at e
  · rename_i h
    cases r with
    | val d =>
      cases e
      obtain ⟨g2, R2⟩ := set_val R rep h
      refine ⟨rfl, g.trans g2, R2, fun u s hs _ rp => ?_⟩
      cases s with
      | val d => exact rp
      | slot k => cases hs
      | fresh ys =>
        obtain ⟨a, vs, e, h1, h2, h3, h4, h5⟩ := rp
        exact ⟨a, vs, e, h1, h2, h3, h4, fun q => h5 (own_set (fun t e => by cases e; rfl) q)⟩
    | fresh xs =>
      cases e
      obtain ⟨a, vs, rfl, h1, h2, h3, h4, h5⟩ := rep
      have hi := okSet_lt h
      have hσ : i < σ.length := by rw [R.len]; exact hi
      have gx : Go σ ρ1 Hb1 (fun b => if b = a then none else H1 b) σ ρ1 Hb1 H1 := ⟨Ex.refl _, fun b o q _ => by
        split at q
        · cases q
        · exact q, fun b q1 q2 => absurd q1 q2, fun b q => by
        split at q
        · exact absurd rfl q
        · exact q, fun b q => .inl q, fun k t q1 q2 => ⟨rfl, t, q1, q2⟩, fun k t q1 q2 => ⟨rfl, q1⟩⟩
      obtain ⟨_, R2⟩ := set_own gx R h1 h2 h3 (if_pos rfl) h5 h
      have ow : ∀ b, Own (σ.set i (some (.ref a))) (ρ1.set i (some ⟨.own, .list xs⟩)) b → b = a ∨ Own σ ρ1 b := fun b q => by
        obtain ⟨j, t, q1, q2, q3⟩ := q
        rcases get_set_V q3 with ⟨e, z⟩ | ⟨ne, z⟩
        · cases z
          exact .inl rfl
        · rcases get_set q1 with ⟨e', _⟩ | ⟨_, z'⟩
          · exact absurd e' ne
          · exact .inr ⟨j, t, z', q2, z⟩
      refine ⟨rfl, ⟨g.b, g.k, g.f, g.t, fun b q => ?_, fun j s q1 q2 => ?_, fun j s q1 q2 => ?_⟩, R2, fun u s hs ap rp => ?_⟩
      · rcases ow b q with rfl | q
        · exact .inr h4
        · exact g.o b q
      · obtain ⟨e1, s1, e2, e3⟩ := g.io j s q1 q2
        have ne : j ≠ i := fun e => by
          subst e
          rw [okSet_io h e2] at e3; cases e3
        exact ⟨by rw [List.getElem?_set_ne (Ne.symm ne)]; exact e1, s1, by rw [List.getElem?_set_ne (Ne.symm ne)]; exact e2, e3⟩
      · obtain ⟨e1, e2⟩ := g.lk j s q1 q2
        have ne : j ≠ i := fun e => by
          subst e
          rw [okSet_lk h e2] at q2; cases q2
        exact ⟨by rw [List.getElem?_set_ne (Ne.symm ne)]; exact e1, by rw [List.getElem?_set_ne (Ne.symm ne)]; exact e2⟩
      · cases s with
        | val d => exact rp
        | slot k => cases hs
        | fresh ys =>
          obtain ⟨b, ws, e, k1, k2, k3, k4, k5⟩ := rp
          refine ⟨b, ws, e, k1, k2, k3, k4, fun q => ?_⟩
          rcases ow b q with z | q
          · exact ap xs ys a b rfl rfl rfl e z.symm
          · exact k5 q
    | slot _ => cases hn
  · cases e
theorem par3_readO {De : Ends} {j l : Nat} {m1 m2 m3 : M Res} (w : tS K mg E (mPar3O i j l m1 m2 m3) De σ H) : tPar3 i j l (tCons (tE K mg E m1) (tCons (tE K mg E m2) (tCons (tE K mg E m3) tNil))) De σ H := by
  obtain ⟨Hb, ρ, R, S⟩ := w
  refine ⟨Hb, ρ, R, S.bnd0.mono fun r σ' ρ1 Hb1 H1 g1 R1 S1 es v rep => ?_⟩
  subst es
  obtain ⟨out, ρe, e, h1, h2⟩ := S1
  refine ⟨Hb1, ρ1, R1, raw_next e (fun x q σ2 c d Hb2 H2 g2 R2 xr => h2 x q σ2 c d Hb2 H2 (g1.trans g2) R2 xr) fun s ρ2 e σ2 Hb2 H2 g2 R2 es u rep2 => ?_⟩
  subst es
  refine ⟨Hb2, ρ2, R2, raw_next e (fun x q σ3 c d Hb3 H3 g3 R3 xr => h2 x q σ3 c d Hb3 H3 ((g1.trans g2).trans g3) R3 xr) fun t ρ3 e σ3 Hb3 H3 g3 R3 es z rep3 => ?_⟩
  subst es
  refine ⟨v, u, z, rfl, ?_⟩
  split at e
  case isFalse => cases e
  rename_i c
  simp only [Bool.and_eq_true, bne_iff_ne, ne_eq] at c
  obtain ⟨⟨⟨⟨⟨c1, c2⟩, c3⟩, c4⟩, c5⟩, c6⟩ := c
  have p1 := RepR.step (g2.trans g3) rep
  have p2 := RepR.back g1.t (RepR.step g3 rep2)
  have p3 := RepR.back (g1.trans g2).t rep3
  have a12 : Apart v r u s := apart_of rep (fun _ h => h) rep2
  have a13 : Apart v r z t := apart_of rep g2.t rep3
  have a23 : Apart u s z t := apart_of rep2 (fun _ h => h) rep3
  rcases bnd_some e with ⟨x, ρ4, e4, e⟩ | ⟨x, ρ4, e4, _⟩
  case inr =>
    obtain ⟨w, _⟩ := store_pend (g1.trans (g2.trans g3)) R3 p1 c1 e4
    cases w
  obtain ⟨_, g4, R4, k4⟩ := store_pend (g1.trans (g2.trans g3)) R3 p1 c1 e4
  have p2 := k4 u s c2 a12 p2
  have p3 := k4 z t c3 a13 p3
  rcases bnd_some e with ⟨x, ρ5, e5, e⟩ | ⟨x, ρ5, e5, _⟩
  case inr =>
    obtain ⟨w, _⟩ := store_pend g4 R4 p2 c2 e5
    cases w
  obtain ⟨_, g5, R5, k5⟩ := store_pend g4 R4 p2 c2 e5
  have p3 := k5 z t c3 a23 p3
  rcases bnd_some e with ⟨x, ρ6, e6, e⟩ | ⟨x, ρ6, e6, _⟩
  case inr =>
    obtain ⟨w, _⟩ := store_pend g5 R5 p3 c3 e6
    cases w
  obtain ⟨_, g6, R6, _⟩ := store_pend g5 R5 p3 c3 e6
  cases e
  exact h1 .nx rfl _ _ _ g6 R6
end
section
variable {X : Cx} {E : WX} {a b c : Expr} {m1 m2 m3 : M Res} {x y z : Str} {px py pz pt pos pt2 : Pos} {kt k2 : Nat}
theorem ms_par3O (hc : X.calm = true) (hN : X.N.Nodup) (i j l : Nat) (ha : PE X a (tE X.K X.mg E m1)) (hb : PE X b (tE X.K X.mg E m2)) (hcc : PE X c (tE X.K X.mg E m3)) (hi : X.N[i]? = some x := by rfl) (hj : X.N[j]? = some y := by rfl) (hl : X.N[l]? = some z := by rfl) (hij : i ≠ j := by decide) (hil : i ≠ l := by decide) (hjl : j ≠ l := by decide)
    (hx : X.env.scope.names.lookup x = some .local := by rfl) (hy : X.env.scope.names.lookup y = some .local := by rfl) (hz : X.env.scope.names.lookup z = some .local := by rfl)
    (s1 : starEach [a, b, c] X.env = (false, eval a X.env) :: starEach [b, c] X.env := by rfl) (s2 : starEach [b, c] X.env = (false, eval b X.env) :: starEach [c] X.env := by rfl) (s3 : starEach [c] X.env = (false, eval c X.env) :: starEach [] X.env := by rfl)
    (hw : swappedStores [.Tuple [.Name x px, .Name y py, .Name z pz] kt pt] (.Tuple [a, b, c] k2 pt2) X.env = pure (some [x, y, z]) := by rfl)
    (hs : swapsWithSole [.Tuple [.Name x px, .Name y py, .Name z pz] kt pt] (.Tuple [a, b, c] k2 pt2) pos.line X.env = pure false := by rfl) :
    PS X (.Assign [.Tuple [.Name x px, .Name y py, .Name z pz] kt pt] (.Tuple [a, b, c] k2 pt2) pos) (tS X.K X.mg E (mPar3O i j l m1 m2 m3)) := (ps_par3 hc hN hi hj hl hij hil hjl hx hy hz (pa_cons ha (pa_cons hb (pa_cons hcc pa_nil s3) s2) s1) hw hs).imp fun _ _ _ w => par3_readO w
end
end Mi

namespace K83
open PySem L2 Evl PySem.Spec PyProof.Rows Mi
def top (i : Nat) : Stmt := PySem.Challenge.pw_carryoffice_k83_whole_even_rows.main.body.getD i (.Pass ⟨0, 0, 0, 0⟩)
def v_BEYOND : D := .int 10000000000000000000000000000000000000000000000000000000000000000000000000000000000000000000000000000000000000000000000000000000000000000000000000000000000000000000000000000000000000000000000000000000000000000000000000000000000000000000000000000000000000000000000000000000000000000000000000000000000000000000000000000000000000000000000000000000000000000000000000000000000000000000000000000000000000000
def v_MOST_LETTERS : D := .int 2400
def v_MOST_SHARES : D := .int 500
structure Txt (K : PySem.W.Frag) (mg : Str → Option Value) : Prop where
  b_abs : mg "abs" = none
  b_all : mg "all" = none
  b_any : mg "any" = none
  b_bool : mg "bool" = none
  b_divmod : mg "divmod" = none
  b_enumerate : mg "enumerate" = none
  b_int : mg "int" = none
  b_isinstance : mg "isinstance" = none
  b_len : mg "len" = none
  b_list : mg "list" = none
  b_max : mg "max" = none
  b_range : mg "range" = none
  b_repr : mg "repr" = none
  b_sum : mg "sum" = none
  b_tuple : mg "tuple" = none
  b_zip : mg "zip" = none
  g_gcd : mg "gcd" = some (.builtin "math.gcd")
  c_BEYOND : Cst K mg "BEYOND" v_BEYOND
  c_MOST_LETTERS : Cst K mg "MOST_LETTERS" v_MOST_LETTERS
  c_MOST_SHARES : Cst K mg "MOST_SHARES" v_MOST_SHARES
theorem txt_mk {K : PySem.W.Frag} {h : Heap} {mg : Str → Option Value} (X : K.In h) (G : h.Ns mainGlobals mg) {t_BEYOND : Tok} {t_MOST_LETTERS : Tok} {t_MOST_SHARES : Tok}
    (b_abs : PySem.W.nsIn K mainGlobals "abs" = some none)
    (b_all : PySem.W.nsIn K mainGlobals "all" = some none)
    (b_any : PySem.W.nsIn K mainGlobals "any" = some none)
    (b_bool : PySem.W.nsIn K mainGlobals "bool" = some none)
    (b_divmod : PySem.W.nsIn K mainGlobals "divmod" = some none)
    (b_enumerate : PySem.W.nsIn K mainGlobals "enumerate" = some none)
    (b_int : PySem.W.nsIn K mainGlobals "int" = some none)
    (b_isinstance : PySem.W.nsIn K mainGlobals "isinstance" = some none)
    (b_len : PySem.W.nsIn K mainGlobals "len" = some none)
    (b_list : PySem.W.nsIn K mainGlobals "list" = some none)
    (b_max : PySem.W.nsIn K mainGlobals "max" = some none)
    (b_range : PySem.W.nsIn K mainGlobals "range" = some none)
    (b_repr : PySem.W.nsIn K mainGlobals "repr" = some none)
    (b_sum : PySem.W.nsIn K mainGlobals "sum" = some none)
    (b_tuple : PySem.W.nsIn K mainGlobals "tuple" = some none)
    (b_zip : PySem.W.nsIn K mainGlobals "zip" = some none)
    (g_gcd : PySem.W.nsIn K mainGlobals "gcd" = some (some (.builtin "math.gcd")))
    (c_BEYOND : PySem.W.nsIn K mainGlobals "BEYOND" = some (some (.int 10000000000000000000000000000000000000000000000000000000000000000000000000000000000000000000000000000000000000000000000000000000000000000000000000000000000000000000000000000000000000000000000000000000000000000000000000000000000000000000000000000000000000000000000000000000000000000000000000000000000000000000000000000000000000000000000000000000000000000000000000000000000000000000000000000000000000000 t_BEYOND)))
    (c_MOST_LETTERS : PySem.W.nsIn K mainGlobals "MOST_LETTERS" = some (some (.int 2400 t_MOST_LETTERS)))
    (c_MOST_SHARES : PySem.W.nsIn K mainGlobals "MOST_SHARES" = some (some (.int 500 t_MOST_SHARES)))
    : Txt K mg := ⟨PySem.W.mg_none_of X G b_abs, PySem.W.mg_none_of X G b_all, PySem.W.mg_none_of X G b_any, PySem.W.mg_none_of X G b_bool, PySem.W.mg_none_of X G b_divmod, PySem.W.mg_none_of X G b_enumerate, PySem.W.mg_none_of X G b_int, PySem.W.mg_none_of X G b_isinstance, PySem.W.mg_none_of X G b_len, PySem.W.mg_none_of X G b_list, PySem.W.mg_none_of X G b_max, PySem.W.mg_none_of X G b_range, PySem.W.mg_none_of X G b_repr, PySem.W.mg_none_of X G b_sum, PySem.W.mg_none_of X G b_tuple, PySem.W.mg_none_of X G b_zip, PySem.W.mg_of X G g_gcd, cst_int X G c_BEYOND, cst_int X G c_MOST_LETTERS, cst_int X G c_MOST_SHARES⟩
theorem b__law_pot_2 : BindsQ "_law_pot" (top 36) ["script", "k"] 2 [] (List.range 2) := fun _ _ _ _ _ _ us ws h1 h2 => match us, h1, ws, h2 with | [_, _], _, [], _ => rfl
theorem b__law_right_1 : BindsQ "_law_right" (top 48) ["pot"] 1 [] (List.range 1) := fun _ _ _ _ _ _ us ws h1 h2 => match us, h1, ws, h2 with | [_], _, [], _ => rfl
theorem b__law_draw_2 : BindsQ "_law_draw" (top 37) ["pot", "many"] 2 [] (List.range 2) := fun _ _ _ _ _ _ us ws h1 h2 => match us, h1, ws, h2 with | [_, _], _, [], _ => rfl
theorem b__law_shares_2 : BindsQ "_law_shares" (top 40) ["pot", "most"] 2 [] (List.range 2) := fun _ _ _ _ _ _ us ws h1 h2 => match us, h1, ws, h2 with | [_, _], _, [], _ => rfl
theorem b__law_even_2 : BindsQ "_law_even" (top 44) ["shares", "many"] 2 [] (List.range 2) := fun _ _ _ _ _ _ us ws h1 h2 => match us, h1, ws, h2 with | [_, _], _, [], _ => rfl
theorem b_even_row_2 : BindsQ "even_row" (top 33) ["shares", "many"] 2 [] (List.range 2) := fun _ _ _ _ _ _ us ws h1 h2 => match us, h1, ws, h2 with | [_, _], _, [], _ => rfl
theorem b__law_is_even_2 : BindsQ "_law_is_even" (top 45) ["shares", "row"] 2 [] (List.range 2) := fun _ _ _ _ _ _ us ws h1 h2 => match us, h1, ws, h2 with | [_, _], _, [], _ => rfl
theorem b__law_break_2 : BindsQ "_law_break" (top 42) ["shares", "row"] 2 [] (List.range 2) := fun _ _ _ _ _ _ us ws h1 h2 => match us, h1, ws, h2 with | [_, _], _, [], _ => rfl
theorem b_even_row_0_many_shares : BindsQ "even_row" (top 33) ["shares", "many"] 0 ["many", "shares"] [1, 0] := fun _ _ _ _ _ _ us ws h1 h2 => match us, h1, ws, h2 with | [], _, [_, _], _ => rfl
theorem b__law_value_right_2 : BindsQ "_law_value_right" (top 46) ["shares", "row"] 2 [] (List.range 2) := fun _ _ _ _ _ _ us ws h1 h2 => match us, h1, ws, h2 with | [_, _], _, [], _ => rfl
theorem b__law_turns_2 : BindsQ "_law_turns" (top 43) ["shares", "many"] 2 [] (List.range 2) := fun _ _ _ _ _ _ us ws h1 h2 => match us, h1, ws, h2 with | [_, _], _, [], _ => rfl
theorem b__law_bent_3 : BindsQ "_law_bent" (top 47) ["pot", "shares", "row"] 3 [] (List.range 3) := fun _ _ _ _ _ _ us ws h1 h2 => match us, h1, ws, h2 with | [_, _, _], _, [], _ => rfl
theorem b__law_pick_2 : BindsQ "_law_pick" (top 38) ["pot", "some"] 2 [] (List.range 2) := fun _ _ _ _ _ _ us ws h1 h2 => match us, h1, ws, h2 with | [_, _], _, [], _ => rfl
theorem b_is_even_2 : BindsQ "is_even" (top 34) ["shares", "value"] 2 [] (List.range 2) := fun _ _ _ _ _ _ us ws h1 h2 => match us, h1, ws, h2 with | [_, _], _, [], _ => rfl
theorem b__law_low_2 : BindsQ "_law_low" (top 39) ["number", "under"] 2 [] (List.range 2) := fun _ _ _ _ _ _ us ws h1 h2 => match us, h1, ws, h2 with | [_, _], _, [], _ => rfl
theorem b_want_shares_1 : BindsQ "want_shares" (top 23) ["value"] 1 [] (List.range 1) := fun _ _ _ _ _ _ us ws h1 h2 => match us, h1, ws, h2 with | [_], _, [], _ => rfl
theorem b_want_many_3 : BindsQ "want_many" (top 20) ["value", "least", "most"] 3 [] (List.range 3) := fun _ _ _ _ _ _ us ws h1 h2 => match us, h1, ws, h2 with | [_, _, _], _, [], _ => rfl
theorem b_next_even_4 : BindsQ "next_even" (top 32) ["shares", "counts", "moment", "parts"] 4 [] (List.range 4) := fun _ _ _ _ _ _ us ws h1 h2 => match us, h1, ws, h2 with | [_, _, _, _], _, [], _ => rfl
theorem b_is_shares_1 : BindsQ "is_shares" (top 22) ["value"] 1 [] (List.range 1) := fun _ _ _ _ _ _ us ws h1 h2 => match us, h1, ws, h2 with | [_], _, [], _ => rfl
theorem b_are_ratios_above_1 : BindsQ "are_ratios_above" (top 21) ["value"] 1 [] (List.range 1) := fun _ _ _ _ _ _ us ws h1 h2 => match us, h1, ws, h2 with | [_], _, [], _ => rfl
theorem b_common_under_1 : BindsQ "common_under" (top 18) ["ratios"] 1 [] (List.range 1) := fun _ _ _ _ _ _ us ws h1 h2 => match us, h1, ws, h2 with | [_], _, [], _ => rfl
theorem b_total_over_2 : BindsQ "total_over" (top 19) ["ratios", "whole"] 2 [] (List.range 2) := fun _ _ _ _ _ _ us ws h1 h2 => match us, h1, ws, h2 with | [_, _], _, [], _ => rfl
theorem b_is_ratio_1 : BindsQ "is_ratio" (top 13) ["value"] 1 [] (List.range 1) := fun _ _ _ _ _ _ us ws h1 h2 => match us, h1, ws, h2 with | [_], _, [], _ => rfl
theorem b_is_row_9_2 : BindsQ "is_row" (top 9) ["value", "many"] 2 [] (List.range 2) := fun _ _ _ _ _ _ us ws h1 h2 => match us, h1, ws, h2 with | [_, _], _, [], _ => rfl
theorem b_is_integer_1 : BindsQ "is_integer" (top 6) ["value"] 1 [] (List.range 1) := fun _ _ _ _ _ _ us ws h1 h2 => match us, h1, ws, h2 with | [_], _, [], _ => rfl
theorem b_common_part_2 : BindsQ "common_part" (top 17) ["one", "other"] 2 [] (List.range 2) := fun _ _ _ _ _ _ us ws h1 h2 => match us, h1, ws, h2 with | [_, _], _, [], _ => rfl
theorem b_is_count_1 : BindsQ "is_count" (top 7) ["value"] 1 [] (List.range 1) := fun _ _ _ _ _ _ us ws h1 h2 => match us, h1, ws, h2 with | [_], _, [], _ => rfl
theorem b_even_begin_3 : BindsQ "even_begin" (top 30) ["share", "turn", "parts"] 3 [] (List.range 3) := fun _ _ _ _ _ _ us ws h1 h2 => match us, h1, ws, h2 with | [_, _, _], _, [], _ => rfl
theorem b_even_end_3 : BindsQ "even_end" (top 31) ["share", "turn", "parts"] 3 [] (List.range 3) := fun _ _ _ _ _ _ us ws h1 h2 => match us, h1, ws, h2 with | [_, _, _], _, [], _ => rfl
theorem b__law_lags_2 : BindsQ "_law_lags" (top 41) ["shares", "row"] 2 [] (List.range 2) := fun _ _ _ _ _ _ us ws h1 h2 => match us, h1, ws, h2 with | [_, _], _, [], _ => rfl
theorem b_is_even_0_value_shares : BindsQ "is_even" (top 34) ["shares", "value"] 0 ["value", "shares"] [1, 0] := fun _ _ _ _ _ _ us ws h1 h2 => match us, h1, ws, h2 with | [], _, [_, _], _ => rfl
theorem b_is_kept_2 : BindsQ "is_kept" (top 28) ["shares", "value"] 2 [] (List.range 2) := fun _ _ _ _ _ _ us ws h1 h2 => match us, h1, ws, h2 with | [_, _], _, [], _ => rfl
theorem b_is_row_24_2 : BindsQ "is_row" (top 24) ["shares", "value"] 2 [] (List.range 2) := fun _ _ _ _ _ _ us ws h1 h2 => match us, h1, ws, h2 with | [_, _], _, [], _ => rfl
theorem b_lags_behind_2 : BindsQ "lags_behind" (top 26) ["shares", "row"] 2 [] (List.range 2) := fun _ _ _ _ _ _ us ws h1 h2 => match us, h1, ws, h2 with | [_, _], _, [], _ => rfl
theorem b_is_list_1 : BindsQ "is_list" (top 8) ["value"] 1 [] (List.range 1) := fun _ _ _ _ _ _ us ws h1 h2 => match us, h1, ws, h2 with | [_], _, [], _ => rfl
theorem b_break_of_2 : BindsQ "break_of" (top 27) ["shares", "row"] 2 [] (List.range 2) := fun _ _ _ _ _ _ us ws h1 h2 => match us, h1, ws, h2 with | [_, _], _, [], _ => rfl
theorem sc__law_draw : FnScope ["pot", "many", "digit"] ["pot", "many"] (defScope (top 37)) := ⟨rfl, rfl, rfl, by decide +kernel, rfl, by decide +kernel, by decide +kernel⟩
def m__law_draw : M Fl := (mSeq (mIfS (mB (mBin gtD (mBin ixD (mVar 0) (mC (.int 0))) (mC (.int 0)))) (mSeq (mAsgG (gT 2 (gsCons (gIx 0 (mC (.int 0))) (gsCons (gN 2) gsNil))) (mCall divmodD (aT (mBin ixD (mVar 0) (mC (.int 0))) (aT (mVar 1) aNil)))) (mRet (mVar 2))) mNx) (mSeq (mSetIx 0 (mC (.int 1)) (mBin modD (mCall intD (aT (mBin addD (mBin mulD (mBin ixD (mVar 0) (mC (.int 1))) (mC (.int 40014))) (mC (.int 27127))) aNil)) (mC (.int 2147483563)))) (mRet (mBin modD (mCall intD (aT (mBin fdivD (mBin modD (mCall intD (aT (mBin mulD (mBin ixD (mVar 0) (mC (.int 1))) (mBin ixD (mVar 0) (mC (.int 1)))) aNil)) (mC (.int 2147483587))) (mC (.int 21))) aNil)) (mVar 1)))))
def f__law_draw : Fn := mkFn 2 3 (some 0) m__law_draw
theorem sc__law_low : FnScope ["number", "under", "near", "far"] ["number", "under"] (defScope (top 39)) := ⟨rfl, rfl, rfl, by decide +kernel, rfl, by decide +kernel, by decide +kernel⟩
def m__law_low : M Fl := (mSeq (mPar 2 3 (mCall absD (aT (mVar 0) aNil)) (mVar 1)) (mSeq (mWhile (mB (mBin gtD (mVar 3) (mC (.int 0)))) (mPar 2 3 (mVar 3) (mBin modD (mCall intD (aT (mVar 2) aNil)) (mVar 3))) 100000) (mRet (mTup (aV (mBin fdivD (mVar 0) (mVar 2)) (aV (mBin fdivD (mVar 1) (mVar 2)) aNil))))))
def f__law_low : Fn := mkFn 2 4 none m__law_low
theorem sc__law_shares : FnScope ["pot", "most", "many", "way", "top", "parts", "turn", "part"] ["pot", "most"] (defScope (top 40)) := ⟨rfl, rfl, rfl, by decide +kernel, rfl, by decide +kernel, by decide +kernel⟩
def m__law_shares : M Fl := (mSeq (mPar 2 3 (mBin addD (mC (.int 1)) (mF 2 f__law_draw (some 0) (aT (mVar 0) (aT (mVar 1) aNil)))) (mF 2 f__law_draw (some 0) (aT (mVar 0) (aT (mC (.int 8)) aNil)))) (mSeq (mAsg 4 (mBin ixD (mLst (aV (mC (.int 1)) (aV (mC (.int 3)) (aV (mC (.int 9)) (aV (mC (.int 99)) (aV (mC (.int 5)) (aV (mBin powD (mC (.int 10)) (mC (.int 6))) (aV (mC (.int 4)) (aV (mC (.int 2)) aNil))))))))) (mVar 3))) (mSeq (mAsg 5 (mLc (mRng1 (aT (mVar 2) aNil)) (gN 6) (ret true) (mBin addD (mC (.int 1)) (mF 2 f__law_draw (some 0) (aT (mVar 0) (aT (mVar 4) aNil)))) [6])) (mSeq (mIfS (mB (mBin eqsD (mVar 3) (mC (.int 6)))) (mSetIx 5 (mF 2 f__law_draw (some 0) (aT (mVar 0) (aT (mVar 2) aNil))) (mBin addD (mBin mulD (mC (.int 5)) (mVar 2)) (mF 2 f__law_draw (some 0) (aT (mVar 0) (aT (mC (.int 9)) aNil))))) mNx) (mRet (mCall tupleD (aT (mLc (mItD (mVar 5)) (gN 7) (ret true) (mF 2 f__law_low none (aT (mVar 7) (aT (mCall sumD (aT (mVar 5) aNil)) aNil))) [7]) aNil)))))))
def f__law_shares : Fn := mkFn 2 8 (some 0) m__law_shares
theorem sc__law_even : FnScope ["shares", "many", "counts", "found", "parts", "moment", "best", "position", "number", "under", "last"] ["shares", "many"] (defScope (top 44)) := ⟨rfl, rfl, rfl, by decide +kernel, rfl, by decide +kernel, by decide +kernel⟩
def m__law_even : M Fl := (mSeq (mPar3O 2 3 4 (mBin mulD (mLst (aV (mC (.int 0)) aNil)) (mCall lenD (aT (mVar 0) aNil))) (mLst aNil) (mBin subD (mBin mulD (mC (.int 2)) (mCall lenD (aT (mVar 0) aNil))) (mC (.int 2)))) (mSeq (mFor (chk (mRng1 (aT (mVar 1) aNil))) (gN 5) (mSeq (mAsg 6 (mC .none)) (mSeq (mFor (chk (mEnum (mVar 0))) (gT 2 (gsCons (gN 7) (gsCons (gT 2 (gsCons (gN 8) (gsCons (gN 9) gsNil))) gsNil))) (mIfS (mOr (mB (mBin eqsD (mVar 4) (mC (.int 0)))) (mB (mBin leD (mBin mulD (mBin addD (mBin mulD (mBin ixD (mVar 2) (mVar 7)) (mVar 4)) (mC (.int 1))) (mVar 9)) (mBin mulD (mBin mulD (mBin addD (mVar 5) (mC (.int 1))) (mVar 8)) (mVar 4))))) (mSeq (mAsg 10 (mIf (mB (mBin eqsD (mVar 4) (mC (.int 0)))) (mC (.int 0)) (mBin fdivD (mBin mulD (mBin subD (mBin mulD (mBin addD (mBin ixD (mVar 2) (mVar 7)) (mC (.int 1))) (mVar 4)) (mC (.int 1))) (mVar 9)) (mBin mulD (mVar 8) (mVar 4))))) (mIfS (mOr (mB (mBin isD (mVar 6) (mC .none))) (mB (mBin ltD (mVar 10) (mBin ixD (mVar 6) (mC (.int 0)))))) (mAsg 6 (mTup (aV (mVar 10) (aV (mVar 7) aNil)))) mNx)) mNx)) (mSeq (mSetIx 2 (mBin ixD (mVar 6) (mC (.int 1))) (mBin addD (mBin ixD (mVar 2) (mBin ixD (mVar 6) (mC (.int 1)))) (mC (.int 1)))) (mApp 3 (mBin ixD (mVar 6) (mC (.int 1)))))))) (mRet (mVar 3))))
def f__law_even : Fn := mkFn 2 11 none m__law_even
theorem sc_is_row_9 : FnScope ["value", "many"] ["value", "many"] (defScope (top 9)) := ⟨rfl, rfl, rfl, by decide +kernel, rfl, by decide +kernel, by decide +kernel⟩
def m_is_row_9 : M Fl := (mRet (mAndV (mIsi ["tuple"] (mVar 0)) (mBin eqsD (mCall lenD (aT (mVar 0) aNil)) (mVar 1))))
def f_is_row_9 : Fn := mkFn 2 2 none m_is_row_9
theorem sc_is_integer : FnScope ["value"] ["value"] (defScope (top 6)) := ⟨rfl, rfl, rfl, by decide +kernel, rfl, by decide +kernel, by decide +kernel⟩
def m_is_integer : M Fl := (mRet (mAndV (mIsi ["int"] (mVar 0)) (mUn notD (mIsi ["bool"] (mVar 0)))))
def f_is_integer : Fn := mkFn 1 1 none m_is_integer
theorem sc_is_ratio : FnScope ["value"] ["value"] (defScope (top 13)) := ⟨rfl, rfl, rfl, by decide +kernel, rfl, by decide +kernel, by decide +kernel⟩
def m_is_ratio : M Fl := (mSeq (mIfS (mOr (mNot (mB (mF 2 f_is_row_9 none (aT (mVar 0) (aT (mC (.int 2)) aNil))))) (mOr (mNot (mB (mF 1 f_is_integer none (aT (mBin ixD (mVar 0) (mC (.int 0))) aNil)))) (mNot (mB (mF 1 f_is_integer none (aT (mBin ixD (mVar 0) (mC (.int 1))) aNil)))))) (mRet (mC (.bool false))) mNx) (mRet (mAndV (mChain ltD ltD (mC (.int 0)) (mBin ixD (mVar 0) (mC (.int 1))) (mC v_BEYOND)) (mAndV (mChain ltD ltD (mUn negD (mC v_BEYOND)) (mBin ixD (mVar 0) (mC (.int 0))) (mC v_BEYOND)) (mBin eqsD (mCall gcdD (aT (mBin ixD (mVar 0) (mC (.int 0))) (aT (mBin ixD (mVar 0) (mC (.int 1))) aNil))) (mC (.int 1)))))))
def f_is_ratio : Fn := mkFn 1 1 none m_is_ratio
theorem sc_are_ratios_above : FnScope ["value", "one"] ["value"] (defScope (top 21)) := ⟨rfl, rfl, rfl, by decide +kernel, rfl, by decide +kernel, by decide +kernel⟩
def m_are_ratios_above : M Fl := (mSeq (mIfS (mOr (mNot (mB (mIsi ["tuple"] (mVar 0)))) (mNot (mB (mChain leD leD (mC (.int 1)) (mCall lenD (aT (mVar 0) aNil)) (mC v_MOST_SHARES))))) (mRet (mC (.bool false))) mNx) (mRet (mCall allD (aT (mLc (mItD (mVar 0)) (gN 1) (ret true) (mAndV (mF 1 f_is_ratio none (aT (mVar 1) aNil)) (mBin gtD (mBin ixD (mVar 1) (mC (.int 0))) (mC (.int 0)))) [1]) aNil))))
def f_are_ratios_above : Fn := mkFn 1 2 none m_are_ratios_above
theorem sc_common_part : FnScope ["one", "other"] ["one", "other"] (defScope (top 17)) := ⟨rfl, rfl, rfl, by decide +kernel, rfl, by decide +kernel, by decide +kernel⟩
def m_common_part : M Fl := (mSeq (mWhile (mB (mBin gtD (mVar 1) (mC (.int 0)))) (mPar 0 1 (mVar 1) (mBin modD (mVar 0) (mVar 1))) 100000) (mRet (mVar 0)))
def f_common_part : Fn := mkFn 2 2 none m_common_part
theorem sc_common_under : FnScope ["ratios", "found", "number", "under"] ["ratios"] (defScope (top 18)) := ⟨rfl, rfl, rfl, by decide +kernel, rfl, by decide +kernel, by decide +kernel⟩
def m_common_under : M Fl := (mSeq (mAsg 1 (mC (.int 1))) (mSeq (mFor (chk (mItD (mVar 0))) (gT 2 (gsCons (gN 2) (gsCons (gN 3) gsNil))) (mAsg 1 (mBin mulD (mBin fdivD (mVar 1) (mF 2 f_common_part none (aT (mVar 1) (aT (mVar 3) aNil)))) (mVar 3)))) (mRet (mVar 1))))
def f_common_under : Fn := mkFn 1 4 none m_common_under
theorem sc_total_over : FnScope ["ratios", "whole", "number", "under"] ["ratios", "whole"] (defScope (top 19)) := ⟨rfl, rfl, rfl, by decide +kernel, rfl, by decide +kernel, by decide +kernel⟩
def m_total_over : M Fl := (mRet (mCall sumD (aT (mLc (mItD (mVar 0)) (gT 2 (gsCons (gN 2) (gsCons (gN 3) gsNil))) (ret true) (mBin mulD (mVar 2) (mBin fdivD (mVar 1) (mVar 3))) [2, 3]) aNil)))
def f_total_over : Fn := mkFn 2 4 none m_total_over
theorem sc_is_shares : FnScope ["value", "whole"] ["value"] (defScope (top 22)) := ⟨rfl, rfl, rfl, by decide +kernel, rfl, by decide +kernel, by decide +kernel⟩
def m_is_shares : M Fl := (mSeq (mIfS (mNot (mB (mF 1 f_are_ratios_above none (aT (mVar 0) aNil)))) (mRet (mC (.bool false))) mNx) (mSeq (mAsg 1 (mF 1 f_common_under none (aT (mVar 0) aNil))) (mRet (mBin eqsD (mF 2 f_total_over none (aT (mVar 0) (aT (mVar 1) aNil))) (mVar 1)))))
def f_is_shares : Fn := mkFn 1 2 none m_is_shares
theorem sc_want_shares : FnScope ["value"] ["value"] (defScope (top 23)) := ⟨rfl, rfl, rfl, by decide +kernel, rfl, by decide +kernel, by decide +kernel⟩
def m_want_shares : M Fl := (mSeq (mIfS (mNot (mB (mF 1 f_is_shares none (aT (mVar 0) aNil)))) stuck mNx) (mRet (mVar 0)))
def f_want_shares : Fn := mkFn 1 1 none m_want_shares
theorem sc_is_count : FnScope ["value"] ["value"] (defScope (top 7)) := ⟨rfl, rfl, rfl, by decide +kernel, rfl, by decide +kernel, by decide +kernel⟩
def m_is_count : M Fl := (mRet (mAndV (mF 1 f_is_integer none (aT (mVar 0) aNil)) (mBin geD (mVar 0) (mC (.int 0)))))
def f_is_count : Fn := mkFn 1 1 none m_is_count
theorem sc_want_many : FnScope ["value", "least", "most"] ["value", "least", "most"] (defScope (top 20)) := ⟨rfl, rfl, rfl, by decide +kernel, rfl, by decide +kernel, by decide +kernel⟩
def m_want_many : M Fl := (mIfS (mOr (mNot (mB (mF 1 f_is_count none (aT (mVar 0) aNil)))) (mNot (mB (mChain leD leD (mVar 1) (mVar 0) (mVar 2))))) stuck mNx)
def f_want_many : Fn := mkFn 3 3 none m_want_many
theorem sc_even_begin : FnScope ["share", "turn", "parts", "number", "under"] ["share", "turn", "parts"] (defScope (top 30)) := ⟨rfl, rfl, rfl, by decide +kernel, rfl, by decide +kernel, by decide +kernel⟩
def m_even_begin : M Fl := (mSeq (mAsgG (gT 2 (gsCons (gN 3) (gsCons (gN 4) gsNil))) (mVar 0)) (mRet (mBin subD (mBin fdivD (mBin subD (mBin addD (mBin mulD (mBin addD (mBin mulD (mBin subD (mVar 1) (mC (.int 1))) (mVar 2)) (mC (.int 1))) (mVar 4)) (mBin mulD (mVar 3) (mVar 2))) (mC (.int 1))) (mBin mulD (mVar 3) (mVar 2))) (mC (.int 1)))))
def f_even_begin : Fn := mkFn 3 5 none m_even_begin
theorem sc_even_end : FnScope ["share", "turn", "parts", "number", "under"] ["share", "turn", "parts"] (defScope (top 31)) := ⟨rfl, rfl, rfl, by decide +kernel, rfl, by decide +kernel, by decide +kernel⟩
def m_even_end : M Fl := (mSeq (mAsgG (gT 2 (gsCons (gN 3) (gsCons (gN 4) gsNil))) (mVar 0)) (mRet (mBin addD (mBin fdivD (mBin mulD (mBin subD (mBin mulD (mVar 1) (mVar 2)) (mC (.int 1))) (mVar 4)) (mBin mulD (mVar 3) (mVar 2))) (mC (.int 1)))))
def f_even_end : Fn := mkFn 3 5 none m_even_end
theorem sc_next_even : FnScope ["shares", "counts", "moment", "parts", "found", "first", "position", "share", "turn", "end"] ["shares", "counts", "moment", "parts"] (defScope (top 32)) := ⟨rfl, rfl, rfl, by decide +kernel, rfl, by decide +kernel, by decide +kernel⟩
def m_next_even : M Fl := (mSeq (mAsgG (gT 2 (gsCons (gN 4) (gsCons (gN 5) gsNil))) (mTup (aV (mC .none) (aV (mC .none) aNil)))) (mSeq (mFor (chk (mEnum (mVar 0))) (gT 2 (gsCons (gN 6) (gsCons (gN 7) gsNil))) (mSeq (mAsg 8 (mBin addD (mBin ixD (mVar 1) (mVar 6)) (mC (.int 1)))) (mIfS (mB (mBin leD (mF 3 f_even_begin none (aT (mVar 7) (aT (mVar 8) (aT (mVar 3) aNil)))) (mVar 2))) (mSeq (mAsg 9 (mF 3 f_even_end none (aT (mVar 7) (aT (mVar 8) (aT (mVar 3) aNil))))) (mIfS (mOr (mB (mBin isD (mVar 5) (mC .none))) (mB (mBin ltD (mVar 9) (mVar 5)))) (mPar 4 5 (mVar 6) (mVar 9)) mNx)) mNx))) (mRet (mVar 4))))
def f_next_even : Fn := mkFn 4 10 none m_next_even
theorem sc_even_row : FnScope ["shares", "many", "counts", "found", "moment", "letter"] ["shares", "many"] (defScope (top 33)) := ⟨rfl, rfl, rfl, by decide +kernel, rfl, by decide +kernel, by decide +kernel⟩
def m_even_row : M Fl := (mSeq (mDrop (mF 1 f_want_shares none (aT (mVar 0) aNil))) (mSeq (mDrop (mF 3 f_want_many none (aT (mVar 1) (aT (mC (.int 0)) (aT (mC v_MOST_LETTERS) aNil))))) (mSeq (mIfS (mB (mBin eqsD (mCall lenD (aT (mVar 0) aNil)) (mC (.int 1)))) (mRet (mBin mulD (mLst (aV (mC (.int 0)) aNil)) (mVar 1))) mNx) (mSeq (mParO 2 3 (mBin mulD (mLst (aV (mC (.int 0)) aNil)) (mCall lenD (aT (mVar 0) aNil))) (mLst aNil)) (mSeq (mFor (chk (mRng1 (aT (mVar 1) aNil))) (gN 4) (mSeq (mAsg 5 (mF 4 f_next_even none (aT (mVar 0) (aT (mVar 2) (aT (mVar 4) (aT (mBin subD (mBin mulD (mC (.int 2)) (mCall lenD (aT (mVar 0) aNil))) (mC (.int 2))) aNil)))))) (mSeq (mSetIx 2 (mVar 5) (mBin addD (mBin ixD (mVar 2) (mVar 5)) (mC (.int 1)))) (mApp 3 (mVar 5))))) (mRet (mVar 3)))))))
def f_even_row : Fn := mkFn 2 6 none m_even_row
theorem sc__law_lags : FnScope ["shares", "row", "counts", "found", "many", "share", "count"] ["shares", "row"] (defScope (top 41)) := ⟨rfl, rfl, rfl, by decide +kernel, rfl, by decide +kernel, by decide +kernel⟩
def m__law_lags : M Fl := (mSeq (mParO 2 3 (mBin mulD (mLst (aV (mC (.int 0)) aNil)) (mCall lenD (aT (mVar 0) aNil))) (mLst aNil)) (mSeq (mFor (chk (mRng1 (aT (mBin addD (mCall lenD (aT (mVar 1) aNil)) (mC (.int 1))) aNil))) (gN 4) (mSeq (mApp 3 (mLc (mZip (mVar 0) (mVar 2)) (gT 2 (gsCons (gN 5) (gsCons (gN 6) gsNil))) (ret true) (mTup (aV (mBin subD (mBin mulD (mVar 4) (mBin ixD (mVar 5) (mC (.int 0)))) (mBin mulD (mVar 6) (mBin ixD (mVar 5) (mC (.int 1))))) (aV (mBin ixD (mVar 5) (mC (.int 1))) aNil))) [5, 6])) (mIfS (mB (mBin ltD (mVar 4) (mCall lenD (aT (mVar 1) aNil)))) (mSetIx 2 (mBin ixD (mVar 1) (mVar 4)) (mBin addD (mBin ixD (mVar 2) (mBin ixD (mVar 1) (mVar 4))) (mC (.int 1)))) mNx))) (mRet (mVar 3))))
def f__law_lags : Fn := mkFn 2 7 none m__law_lags
theorem sc__law_is_even : FnScope ["shares", "row", "parts", "lags", "lag", "under"] ["shares", "row"] (defScope (top 45)) := ⟨rfl, rfl, rfl, by decide +kernel, rfl, by decide +kernel, by decide +kernel⟩
def m__law_is_even : M Fl := (mSeq (mAsg 2 (mBin subD (mBin mulD (mC (.int 2)) (mCall lenD (aT (mVar 0) aNil))) (mC (.int 2)))) (mSeq (mFor (chk (mItD (mF 2 f__law_lags none (aT (mVar 0) (aT (mVar 1) aNil))))) (gN 3) (mIfS (mAnd (mB (mBin gtD (mVar 2) (mC (.int 0)))) (mB (mCall anyD (aT (mLc (mItD (mVar 3)) (gT 2 (gsCons (gN 4) (gsCons (gN 5) gsNil))) (ret true) (mBin gtD (mBin mulD (mCall absD (aT (mVar 4) aNil)) (mVar 2)) (mBin mulD (mBin subD (mVar 2) (mC (.int 1))) (mVar 5))) [4, 5]) aNil)))) (mRet (mC (.bool false))) mNx)) (mRet (mC (.bool true)))))
def f__law_is_even : Fn := mkFn 2 6 none m__law_is_even
theorem sc__law_break : FnScope ["shares", "row", "many", "lags", "lag", "under"] ["shares", "row"] (defScope (top 42)) := ⟨rfl, rfl, rfl, by decide +kernel, rfl, by decide +kernel, by decide +kernel⟩
def m__law_break : M Fl := (mSeq (mFor (chk (mEnum (mF 2 f__law_lags none (aT (mVar 0) (aT (mVar 1) aNil))))) (gT 2 (gsCons (gN 2) (gsCons (gN 3) gsNil))) (mIfS (mB (mCall anyD (aT (mLc (mItD (mVar 3)) (gT 2 (gsCons (gN 4) (gsCons (gN 5) gsNil))) (ret true) (mBin geD (mCall absD (aT (mVar 4) aNil)) (mVar 5)) [4, 5]) aNil))) (mRet (mVar 2)) mNx)) (mRet (mC .none)))
def f__law_break : Fn := mkFn 2 6 none m__law_break
theorem sc_is_list : FnScope ["value"] ["value"] (defScope (top 8)) := ⟨rfl, rfl, rfl, by decide +kernel, rfl, by decide +kernel, by decide +kernel⟩
def m_is_list : M Fl := (mRet (mIsi ["list", "tuple"] (mVar 0)))
def f_is_list : Fn := mkFn 1 1 none m_is_list
theorem sc_is_row_24 : FnScope ["shares", "value", "one"] ["shares", "value"] (defScope (top 24)) := ⟨rfl, rfl, rfl, by decide +kernel, rfl, by decide +kernel, by decide +kernel⟩
def m_is_row_24 : M Fl := (mRet (mAndV (mF 1 f_is_list none (aT (mVar 1) aNil)) (mCall allD (aT (mLc (mItD (mVar 1)) (gN 2) (ret true) (mAndV (mF 1 f_is_count none (aT (mVar 2) aNil)) (mBin ltD (mVar 2) (mCall lenD (aT (mVar 0) aNil)))) [2]) aNil))))
def f_is_row_24 : Fn := mkFn 2 3 none m_is_row_24
theorem sc_lags_behind : FnScope ["shares", "row", "counts", "found", "moment", "letter", "number", "under", "count"] ["shares", "row"] (defScope (top 26)) := ⟨rfl, rfl, rfl, by decide +kernel, rfl, by decide +kernel, by decide +kernel⟩
def m_lags_behind : M Fl := (mSeq (mParO 2 3 (mBin mulD (mLst (aV (mC (.int 0)) aNil)) (mCall lenD (aT (mVar 0) aNil))) (mLst (aV (mBin mulD (mLst (aV (mC (.int 0)) aNil)) (mCall lenD (aT (mVar 0) aNil))) aNil))) (mSeq (mFor (chk (mEnum (mVar 1))) (gT 2 (gsCons (gN 4) (gsCons (gN 5) gsNil))) (mSeq (mSetIx 2 (mVar 5) (mBin addD (mBin ixD (mVar 2) (mVar 5)) (mC (.int 1)))) (mApp 3 (mLc (mZip (mVar 0) (mVar 2)) (gT 2 (gsCons (gT 2 (gsCons (gN 6) (gsCons (gN 7) gsNil))) (gsCons (gN 8) gsNil))) (ret true) (mBin subD (mBin mulD (mBin addD (mVar 4) (mC (.int 1))) (mVar 6)) (mBin mulD (mVar 8) (mVar 7))) [8, 6, 7])))) (mRet (mVar 3))))
def f_lags_behind : Fn := mkFn 2 9 none m_lags_behind
theorem sc_is_even : FnScope ["shares", "value", "parts", "lags", "lag", "number", "under"] ["shares", "value"] (defScope (top 34)) := ⟨rfl, rfl, rfl, by decide +kernel, rfl, by decide +kernel, by decide +kernel⟩
def m_is_even : M Fl := (mSeq (mDrop (mF 1 f_want_shares none (aT (mVar 0) aNil))) (mSeq (mIfS (mNot (mB (mF 2 f_is_row_24 none (aT (mVar 0) (aT (mVar 1) aNil))))) (mRet (mC (.bool false))) mNx) (mSeq (mAsg 2 (mBin subD (mBin mulD (mC (.int 2)) (mCall lenD (aT (mVar 0) aNil))) (mC (.int 2)))) (mSeq (mFor (chk (mItD (mF 2 f_lags_behind none (aT (mVar 0) (aT (mVar 1) aNil))))) (gN 3) (mFor (chk (mZip (mVar 3) (mVar 0))) (gT 2 (gsCons (gN 4) (gsCons (gT 2 (gsCons (gN 5) (gsCons (gN 6) gsNil))) gsNil))) (mIfS (mAnd (mB (mBin gtD (mBin mulD (mCall absD (aT (mVar 4) aNil)) (mVar 2)) (mBin mulD (mVar 6) (mBin subD (mVar 2) (mC (.int 1)))))) (mB (mBin gtD (mVar 2) (mC (.int 0))))) (mRet (mC (.bool false))) mNx))) (mRet (mC (.bool true)))))))
def f_is_even : Fn := mkFn 2 7 none m_is_even
theorem sc_break_of : FnScope ["shares", "row", "many", "lags", "lag", "number", "under"] ["shares", "row"] (defScope (top 27)) := ⟨rfl, rfl, rfl, by decide +kernel, rfl, by decide +kernel, by decide +kernel⟩
def m_break_of : M Fl := (mSeq (mFor (chk (mEnum (mF 2 f_lags_behind none (aT (mVar 0) (aT (mVar 1) aNil))))) (gT 2 (gsCons (gN 2) (gsCons (gN 3) gsNil))) (mFor (chk (mZip (mVar 3) (mVar 0))) (gT 2 (gsCons (gN 4) (gsCons (gT 2 (gsCons (gN 5) (gsCons (gN 6) gsNil))) gsNil))) (mIfS (mNot (mB (mChain ltD ltD (mBin subD (mC (.int 0)) (mVar 6)) (mVar 4) (mVar 6)))) (mRet (mVar 2)) mNx))) (mRet (mC .none)))
def f_break_of : Fn := mkFn 2 7 none m_break_of
theorem sc_is_kept : FnScope ["shares", "value"] ["shares", "value"] (defScope (top 28)) := ⟨rfl, rfl, rfl, by decide +kernel, rfl, by decide +kernel, by decide +kernel⟩
def m_is_kept : M Fl := (mSeq (mDrop (mF 1 f_want_shares none (aT (mVar 0) aNil))) (mRet (mAndV (mF 2 f_is_row_24 none (aT (mVar 0) (aT (mVar 1) aNil))) (mBin isD (mF 2 f_break_of none (aT (mVar 0) (aT (mVar 1) aNil))) (mC .none)))))
def f_is_kept : Fn := mkFn 2 2 none m_is_kept
theorem sc__law_value_right : FnScope ["shares", "row", "shown", "due"] ["shares", "row"] (defScope (top 46)) := ⟨rfl, rfl, rfl, by decide +kernel, rfl, by decide +kernel, by decide +kernel⟩
def m__law_value_right : M Fl := (mSeq (mPar 2 3 (mCall reprD (aT (mVar 1) aNil)) (mF 2 f__law_is_even none (aT (mVar 0) (aT (mVar 1) aNil)))) (mSeq (mIfS (mOr (mB (mBin nesD (mCall reprD (aT (mLst (aV (mF 2 f_is_even none (aT (mVar 0) (aT (mVar 1) aNil))) (aV (mFk 0 2 [1, 0] f_is_even none aNil (aT (mCall tupleD (aT (mVar 1) aNil)) (aT (mVar 0) aNil))) aNil))) aNil)) (mCall reprD (aT (mLst (aV (mVar 3) (aV (mVar 3) aNil))) aNil)))) (mB (mBin nesD (mCall reprD (aT (mVar 1) aNil)) (mVar 2)))) (mRet (mC (.bool false))) mNx) (mRet (mOrV (mUn notD (mVar 3)) (mBin isD (mF 2 f_is_kept none (aT (mVar 0) (aT (mVar 1) aNil))) (mC (.bool true)))))))
def f__law_value_right : Fn := mkFn 2 4 none m__law_value_right
theorem sc__law_turns : FnScope ["shares", "many", "counts", "found", "moment", "best", "position", "number", "under", "end"] ["shares", "many"] (defScope (top 43)) := ⟨rfl, rfl, rfl, by decide +kernel, rfl, by decide +kernel, by decide +kernel⟩
def m__law_turns : M Fl := (mSeq (mParO 2 3 (mBin mulD (mLst (aV (mC (.int 0)) aNil)) (mCall lenD (aT (mVar 0) aNil))) (mLst aNil)) (mSeq (mFor (chk (mRng1 (aT (mVar 1) aNil))) (gN 4) (mSeq (mAsg 5 (mC .none)) (mSeq (mFor (chk (mEnum (mVar 0))) (gT 2 (gsCons (gN 6) (gsCons (gT 2 (gsCons (gN 7) (gsCons (gN 8) gsNil))) gsNil))) (mIfS (mB (mBin ltD (mBin mulD (mBin ixD (mVar 2) (mVar 6)) (mVar 8)) (mBin mulD (mBin addD (mVar 4) (mC (.int 1))) (mVar 7)))) (mSeq (mAsg 9 (mBin subD (mC (.int 0)) (mBin fdivD (mBin subD (mC (.int 0)) (mBin mulD (mBin addD (mBin ixD (mVar 2) (mVar 6)) (mC (.int 1))) (mVar 8))) (mVar 7)))) (mIfS (mOr (mB (mBin isD (mVar 5) (mC .none))) (mB (mBin ltD (mVar 9) (mBin ixD (mVar 5) (mC (.int 0)))))) (mAsg 5 (mTup (aV (mVar 9) (aV (mVar 6) aNil)))) mNx)) mNx)) (mSeq (mSetIx 2 (mBin ixD (mVar 5) (mC (.int 1))) (mBin addD (mBin ixD (mVar 2) (mBin ixD (mVar 5) (mC (.int 1)))) (mC (.int 1)))) (mApp 3 (mBin ixD (mVar 5) (mC (.int 1)))))))) (mRet (mVar 3))))
def f__law_turns : Fn := mkFn 2 10 none m__law_turns
theorem sc__law_bent : FnScope ["pot", "shares", "row", "at", "other", "found"] ["pot", "shares", "row"] (defScope (top 47)) := ⟨rfl, rfl, rfl, by decide +kernel, rfl, by decide +kernel, by decide +kernel⟩
def m__law_bent : M Fl := (mSeq (mPar 3 4 (mF 2 f__law_draw (some 0) (aT (mVar 0) (aT (mCall max2D (aT (mC (.int 1)) (aT (mCall lenD (aT (mVar 2) aNil)) aNil))) aNil))) (mF 2 f__law_draw (some 0) (aT (mVar 0) (aT (mCall max2D (aT (mC (.int 1)) (aT (mCall lenD (aT (mVar 2) aNil)) aNil))) aNil)))) (mSeq (mIfS (mOr (mB (mBin eqsD (mVar 2) (mLst aNil))) (mB (mBin eqsD (mF 2 f__law_draw (some 0) (aT (mVar 0) (aT (mC (.int 2)) aNil))) (mC (.int 0))))) (mRet (mBin addD (mBin addD (mSl (mVar 2) mNoPart (mPart (mVar 3))) (mLst (aV (mF 2 f__law_draw (some 0) (aT (mVar 0) (aT (mCall lenD (aT (mVar 1) aNil)) aNil))) aNil))) (mSl (mVar 2) (mPart (mBin addD (mVar 3) (mC (.int 1)))) mNoPart))) mNx) (mSeq (mAsg 5 (mCall listD (aT (mVar 2) aNil))) (mSeq (mAsgG (gT 2 (gsCons (gIx 5 (mVar 3)) (gsCons (gIx 5 (mVar 4)) gsNil))) (mTup (aV (mBin ixD (mVar 2) (mVar 4)) (aV (mBin ixD (mVar 2) (mVar 3)) aNil)))) (mRet (mVar 5))))))
def f__law_bent : Fn := mkFn 3 6 (some 0) m__law_bent
theorem sc__law_pick : FnScope ["pot", "some"] ["pot", "some"] (defScope (top 38)) := ⟨rfl, rfl, rfl, by decide +kernel, rfl, by decide +kernel, by decide +kernel⟩
def m__law_pick : M Fl := (mRet (mBin ixD (mVar 1) (mF 2 f__law_draw (some 0) (aT (mVar 0) (aT (mCall lenD (aT (mVar 1) aNil)) aNil)))))
def f__law_pick : Fn := mkFn 2 2 (some 0) m__law_pick
theorem sc__law_right : FnScope ["pot", "shares", "many", "due", "told", "row", "turn", "odds", "odd", "half", "both"] ["pot"] (defScope (top 48)) := ⟨rfl, rfl, rfl, by decide +kernel, rfl, by decide +kernel, by decide +kernel⟩
def m__law_right : M Fl := (mSeq (mAsg 1 (mF 2 f__law_shares (some 0) (aT (mVar 0) (aT (mIf (mB (mBin eqsD (mF 2 f__law_draw (some 0) (aT (mVar 0) (aT (mC (.int 12)) aNil))) (mC (.int 0)))) (mC (.int 30)) (mC (.int 8))) aNil)))) (mSeq (mAsg 2 (mIf (mB (mBin eqsD (mF 2 f__law_draw (some 0) (aT (mVar 0) (aT (mC (.int 40)) aNil))) (mC (.int 0)))) (mC (.int 600)) (mF 2 f__law_draw (some 0) (aT (mVar 0) (aT (mC (.int 81)) aNil))))) (mSeq (mAsg 3 (mF 2 f__law_even none (aT (mVar 1) (aT (mVar 2) aNil)))) (mSeq (mAsg 4 (mF 2 f_even_row none (aT (mVar 1) (aT (mVar 2) aNil)))) (mSeq (mIfS (mOr (mB (mBin nesD (mCall reprD (aT (mVar 4) aNil)) (mCall reprD (aT (mVar 3) aNil)))) (mOr (mNot (mB (mF 2 f__law_is_even none (aT (mVar 1) (aT (mVar 3) aNil))))) (mB (mBin isntD (mF 2 f__law_break none (aT (mVar 1) (aT (mVar 3) aNil))) (mC .none))))) (mRet (mC (.bool false))) mNx) (mSeq (mApp 4 (mC .none)) (mSeq (mIfS (mOr (mB (mBin nesD (mCall reprD (aT (mFk 0 2 [1, 0] f_even_row none aNil (aT (mVar 2) (aT (mVar 1) aNil))) aNil)) (mCall reprD (aT (mVar 3) aNil)))) (mNot (mB (mF 2 f__law_value_right none (aT (mVar 1) (aT (mVar 3) aNil)))))) (mRet (mC (.bool false))) mNx) (mSeq (mFor (chk (mItD (mLst (aV (mF 2 f__law_turns none (aT (mVar 1) (aT (mVar 2) aNil))) (aV (mSl (mVar 3) mNoPart (mPart (mF 2 f__law_draw (some 0) (aT (mVar 0) (aT (mBin addD (mVar 2) (mC (.int 1))) aNil))))) aNil))))) (gN 5) (mIfS (mNot (mB (mF 2 f__law_value_right none (aT (mVar 1) (aT (mVar 5) aNil))))) (mRet (mC (.bool false))) mNx)) (mSeq (mFor (chk (mRng1 (aT (mC (.int 4)) aNil))) (gN 6) (mIfS (mNot (mB (mF 2 f__law_value_right none (aT (mVar 1) (aT (mF 3 f__law_bent (some 0) (aT (mVar 0) (aT (mVar 1) (aT (mVar 3) aNil)))) aNil))))) (mRet (mC (.bool false))) mNx)) (mSeq (mAsg 7 (mLst (aV (mC .none) (aV (mC (.int 0)) (aV (mC (.bool true)) (aV (mC (.str "")) (aV (ret (.val (.dict []))) (aV (mLst (aV (mC .none) aNil)) (aV (mLst (aV (mC (.bool true)) aNil)) (aV (mLst (aV (mCall lenD (aT (mVar 1) aNil)) aNil)) (aV (mLst (aV (mUn negD (mC (.int 1))) aNil)) (aV (mBin addD (mSl (mVar 3) mNoPart (mPart (mC (.int 20)))) (mLst (aV (mTup (aV (mC (.int 0)) aNil)) aNil))) (aV (mBin addD (mSl (mVar 3) mNoPart (mPart (mC (.int 20)))) (mLst (aV (mC (.str "0")) aNil))) aNil))))))))))))) (mSeq (mAsg 8 (mF 2 f__law_pick (some 0) (aT (mVar 0) (aT (mVar 7) aNil)))) (mSeq (mParO 9 10 (mTup (aV (mTup (aV (mC (.int 1)) (aV (mC (.int 2)) aNil))) (aV (mTup (aV (mC (.int 1)) (aV (mC (.int 2)) aNil))) aNil))) (mLst (aV (mC (.int 0)) (aV (mC (.int 1)) (aV (mC (.int 1)) (aV (mC (.int 0)) (aV (mC (.int 1)) (aV (mC (.int 0)) aNil)))))))) (mSeq (mAsg 4 (mLst (aV (mF 2 f_is_even none (aT (mVar 1) (aT (mVar 8) aNil))) (aV (mF 2 f_is_even none (aT (mVar 9) (aT (mVar 10) aNil))) (aV (mF 2 f_is_even none (aT (mVar 9) (aT (mLst (aV (mC (.int 0)) (aV (mC (.int 0)) aNil))) aNil))) (aV (mF 2 f_is_even none (aT (mTup (aV (mTup (aV (mC (.int 1)) (aV (mC (.int 1)) aNil))) aNil)) (aT (mBin mulD (mLst (aV (mC (.int 0)) aNil)) (mVar 2)) aNil))) aNil)))))) (mRet (mBin eqsD (mCall reprD (aT (mVar 4) aNil)) (mCall reprD (aT (mLst (aV (mC (.bool false)) (aV (mC (.bool true)) (aV (mC (.bool false)) (aV (mC (.bool true)) aNil))))) aNil)))))))))))))))))
def f__law_right : Fn := mkFn 1 11 (some 0) m__law_right
theorem sc__law_pot : FnScope ["script", "k", "cell"] ["script", "k"] (defScope (top 36)) := ⟨rfl, rfl, rfl, by decide +kernel, rfl, by decide +kernel, by decide +kernel⟩
def m__law_pot : M Fl := (mSeq (mAsg 2 (mIf (mB (mBin ltD (mVar 1) (mCall lenD (aT (mVar 0) aNil)))) (mCall absD (aT (mBin ixD (mVar 0) (mVar 1)) aNil)) (mBin addD (mBin addD (mBin mulD (mC (.int 5881)) (mVar 1)) (mC (.int 97))) (mBin modD (mCall absD (aT (mCall sumD (aT (mSl (mVar 0) mNoPart (mPart (mC (.int 1)))) aNil)) aNil)) (mC (.int 1000003)))))) (mRet (mLst (aV (mCall max2D (aT (mC (.int 0)) (aT (mBin subD (mVar 2) (mBin powD (mC (.int 10)) (mC (.int 18)))) aNil))) (aV (mBin addD (mBin modD (mCall intD (aT (mBin addD (mBin addD (mBin mulD (mBin modD (mCall intD (aT (mVar 2) aNil)) (mC (.int 2147483549))) (mC (.int 40637))) (mBin mulD (mC (.int 727)) (mVar 1))) (mC (.int 53))) aNil)) (mC (.int 2147483563))) (mC (.int 1))) aNil)))))
def f__law_pot : Fn := mkFn 2 3 none m__law_pot
theorem sc_law : FnScope ["script"] ["script"] (defScope (top 49)) := ⟨rfl, rfl, rfl, by decide +kernel, rfl, by decide +kernel, by decide +kernel⟩
def m_law : M Fl := (mRet (mFT f__law_right (mF 2 f__law_pot none (aT (mVar 0) (aT (mC (.int 0)) aNil)))))
def f_law : Fn := mkFn 1 1 none m_law
section
variable {w : World} {K : PySem.W.Frag} {mg : Str → Option Value} {base : Heap}
theorem kn__law_draw (T : Txt K mg)   {x : Str} {f : Addr} {fd : FuncData} (hm : mg x = some (.ref f)) (F : Fun K "_law_draw" "_law_draw" (top 37) f fd) : Kn PySem.Challenge.pw_carryoffice_k83_whole_even_rows w K mg base 1 x "_law_draw" (top 37) ["pot", "many"] (some 0) f__law_draw :=
  kn_def F hm sc__law_draw rfl fun cdv A outer s H E hr hgd => by
    have hx : ∀ σ : L2.St, PassesAt (L2.CX PySem.Challenge.pw_carryoffice_k83_whole_even_rows w) (cxOf (L2.CX PySem.Challenge.pw_carryoffice_k83_whole_even_rows w) PySem.Challenge.pw_carryoffice_k83_whole_even_rows w K mg base ["pot", "many", "digit"] "_law_draw" (defScope (top 37)) f cdv A outer s H E) σ (fun c d H => E c d H) := fun σ => passAt (takes_of rfl rfl rfl rfl) σ
    have tk : Takes (cxOf (L2.CX PySem.Challenge.pw_carryoffice_k83_whole_even_rows w) PySem.Challenge.pw_carryoffice_k83_whole_even_rows w K mg base ["pot", "many", "digit"] "_law_draw" (defScope (top 37)) f cdv A outer s H E) (fun c d _ H => E c d H) := takes_of rfl rfl rfl rfl
    exact (mss_cons (ms_if (mt_cmp op_gt bin_gtA (me_ix (me_var 0) me_int) me_int) (mss_cons (ms_asgG (me_callB call_divmodW cal_divmod (by rfl) T.b_divmod rfl (ma_t (me_ix (me_var 0) me_int) (ma_t (me_var 1) ma_nil))) (mg_tupS rfl (mg_cons rfl (fun _ _ _ _ _ => trivial) (mg_ixS (fun _ => trivial) (pv 0) me_int) (mg_cons rfl (fun _ _ _ _ _ => trivial) (mg_name (fun _ _ => trivial) sc__law_draw.nd rfl (Or.inl rfl)) (mg_nil (fun _ => trivial)))))) (mss_one (ms_ret (me_var 2)))) mss_nil) (mss_cons (ms_setixS (pv 0) me_int (pe_bin op_modN bin_modA (me_callT cr_int cal_int (by rfl) T.b_int rfl (ma_t (pe_bin op_addA bin_addA (pe_bin op_mulA bin_mulA (me_ix (me_var 0) me_int) me_int) me_int) ma_nil)) me_int)) (mss_one (ms_ret (pe_bin op_modN bin_modA (me_callT cr_int cal_int (by rfl) T.b_int rfl (ma_t (pe_bin op_fdivA bin_fdivA (pe_bin op_modN bin_modA (me_callT cr_int cal_int (by rfl) T.b_int rfl (ma_t (pe_bin op_mulA bin_mulA (me_ix (me_var 0) me_int) (me_ix (me_var 0) me_int)) ma_nil)) me_int) me_int) ma_nil)) (me_var 1))))))
theorem kn__law_low (T : Txt K mg)   {x : Str} {f : Addr} {fd : FuncData} (hm : mg x = some (.ref f)) (F : Fun K "_law_low" "_law_low" (top 39) f fd) : Kn PySem.Challenge.pw_carryoffice_k83_whole_even_rows w K mg base 1 x "_law_low" (top 39) ["number", "under"] none f__law_low :=
  kn_def F hm sc__law_low rfl fun cdv A outer s H E hr hgd => by
    have hx : ∀ σ : L2.St, PassesAt (L2.CX PySem.Challenge.pw_carryoffice_k83_whole_even_rows w) (cxOf (L2.CX PySem.Challenge.pw_carryoffice_k83_whole_even_rows w) PySem.Challenge.pw_carryoffice_k83_whole_even_rows w K mg base ["number", "under", "near", "far"] "_law_low" (defScope (top 39)) f cdv A outer s H E) σ (fun c d H => E c d H) := fun σ => passAt (takes_of rfl rfl rfl rfl) σ
    have tk : Takes (cxOf (L2.CX PySem.Challenge.pw_carryoffice_k83_whole_even_rows w) PySem.Challenge.pw_carryoffice_k83_whole_even_rows w K mg base ["number", "under", "near", "far"] "_law_low" (defScope (top 39)) f cdv A outer s H E) (fun c d _ H => E c d H) := takes_of rfl rfl rfl rfl
    exact (mss_cons (ms_par rfl sc__law_low.nd 2 3 (me_callB call_abs cal_abs (by rfl) T.b_abs rfl (ma_t (me_var 0) ma_nil)) (me_var 1)) (mss_cons (ms_while 100000 (passes_of rfl) (mt_cmp op_gt bin_gtA (me_var 3) me_int) (mss_one (ms_par rfl sc__law_low.nd 2 3 (me_var 3) (pe_bin op_modN bin_modA (me_callT cr_int cal_int (by rfl) T.b_int rfl (ma_t (me_var 2) ma_nil)) (me_var 3))))) (mss_one (ms_ret (me_tup (ma_v (pe_bin op_fdivA bin_fdivA (me_var 0) (me_var 2)) (ma_v (pe_bin op_fdivA bin_fdivA (me_var 1) (me_var 2)) ma_nil)))))))
theorem kn__law_shares (T : Txt K mg)  (q__law_draw : Kn PySem.Challenge.pw_carryoffice_k83_whole_even_rows w K mg base 1 "_law_draw" "_law_draw" (top 37) ["pot", "many"] (some 0) f__law_draw) (q__law_low : Kn PySem.Challenge.pw_carryoffice_k83_whole_even_rows w K mg base 1 "_law_low" "_law_low" (top 39) ["number", "under"] none f__law_low) {x : Str} {f : Addr} {fd : FuncData} (hm : mg x = some (.ref f)) (F : Fun K "_law_shares" "_law_shares" (top 40) f fd) : Kn PySem.Challenge.pw_carryoffice_k83_whole_even_rows w K mg base 2 x "_law_shares" (top 40) ["pot", "most"] (some 0) f__law_shares :=
  kn_def F hm sc__law_shares rfl fun cdv A outer s H E hr hgd => by
    have hx : ∀ σ : L2.St, PassesAt (L2.CX PySem.Challenge.pw_carryoffice_k83_whole_even_rows w) (cxOf (L2.CX PySem.Challenge.pw_carryoffice_k83_whole_even_rows w) PySem.Challenge.pw_carryoffice_k83_whole_even_rows w K mg base ["pot", "most", "many", "way", "top", "parts", "turn", "part"] "_law_shares" (defScope (top 40)) f cdv A outer s H E) σ (fun c d H => E c d H) := fun σ => passAt (takes_of rfl rfl rfl rfl) σ
    have tk : Takes (cxOf (L2.CX PySem.Challenge.pw_carryoffice_k83_whole_even_rows w) PySem.Challenge.pw_carryoffice_k83_whole_even_rows w K mg base ["pot", "most", "many", "way", "top", "parts", "turn", "part"] "_law_shares" (defScope (top 40)) f cdv A outer s H E) (fun c d _ H => E c d H) := takes_of rfl rfl rfl rfl
    exact (mss_cons (ms_par rfl sc__law_shares.nd 2 3 (pe_bin op_addA bin_addA me_int (me_call q__law_draw (hr.mono (by decide)) hgd (by rfl) 2 rfl b__law_draw_2 hx (ma_t (me_var 0) (ma_t (me_var 1) ma_nil)))) (me_call q__law_draw (hr.mono (by decide)) hgd (by rfl) 2 rfl b__law_draw_2 hx (ma_t (me_var 0) (ma_t me_int ma_nil)))) (mss_cons (ms_set sc__law_shares.nd rfl (Or.inr rfl) (me_ix (me_lst (ma_v me_int (ma_v me_int (ma_v me_int (ma_v me_int (ma_v me_int (ma_v (pe_bin op_powA bin_powA me_int me_int) (ma_v me_int (ma_v me_int ma_nil))))))))) (me_var 3))) (mss_cons (ms_set sc__law_shares.nd rfl (Or.inr rfl) (me_lc rfl sc__law_shares.nd (mi_rng1 (by rfl) T.b_range (ma_t (me_var 2) ma_nil)) (own := [("turn", 6)]) (blkOk_by (by rfl)) (fun _ _ _ _ _ => (mg_name (fun _ _ => wipe_set (by decide)) sc__law_shares.nd rfl (Or.inl rfl))) (fun _ _ _ _ _ => mts_nil) (fun _ _ _ _ _ => (pe_bin op_addA bin_addA me_int (me_call q__law_draw (hr.mono (by decide)) hgd (by rfl) 2 rfl b__law_draw_2 passB (ma_t (me_var 0) (ma_t (me_var 4) ma_nil))))))) (mss_cons (ms_if (mt_cmp (op_eqS hr.units64) bin_eqS (me_var 3) me_int) (mss_one (ms_setixS (pv 5) (me_call q__law_draw (hr.mono (by decide)) hgd (by rfl) 2 rfl b__law_draw_2 hx (ma_t (me_var 0) (ma_t (me_var 2) ma_nil))) (pe_bin op_addA bin_addA (pe_bin op_mulA bin_mulA me_int (me_var 2)) (me_call q__law_draw (hr.mono (by decide)) hgd (by rfl) 2 rfl b__law_draw_2 hx (ma_t (me_var 0) (ma_t me_int ma_nil)))))) mss_nil) (mss_one (ms_ret (me_callT call_tuple_of cal_tuple (by rfl) T.b_tuple rfl (ma_t (me_lc rfl sc__law_shares.nd (mi_data (me_var 5)) (own := [("part", 7)]) (blkOk_by (by rfl)) (fun _ _ _ _ _ => (mg_name (fun _ _ => wipe_set (by decide)) sc__law_shares.nd rfl (Or.inl rfl))) (fun _ _ _ _ _ => mts_nil) (fun _ _ _ _ _ => (me_call q__law_low (hr.mono (by decide)) hgd (by rfl) 2 rfl b__law_low_2 passB (ma_t (me_var 7) (ma_t (me_callB (cr_sum rfl) cal_sum (by rfl) T.b_sum rfl (ma_t (me_var 5) ma_nil)) ma_nil))))) ma_nil))))))))
theorem kn__law_even (T : Txt K mg)   {x : Str} {f : Addr} {fd : FuncData} (hm : mg x = some (.ref f)) (F : Fun K "_law_even" "_law_even" (top 44) f fd) : Kn PySem.Challenge.pw_carryoffice_k83_whole_even_rows w K mg base 1 x "_law_even" (top 44) ["shares", "many"] none f__law_even :=
  kn_def F hm sc__law_even rfl fun cdv A outer s H E hr hgd => by
    have hx : ∀ σ : L2.St, PassesAt (L2.CX PySem.Challenge.pw_carryoffice_k83_whole_even_rows w) (cxOf (L2.CX PySem.Challenge.pw_carryoffice_k83_whole_even_rows w) PySem.Challenge.pw_carryoffice_k83_whole_even_rows w K mg base ["shares", "many", "counts", "found", "parts", "moment", "best", "position", "number", "under", "last"] "_law_even" (defScope (top 44)) f cdv A outer s H E) σ (fun c d H => E c d H) := fun σ => passAt (takes_of rfl rfl rfl rfl) σ
    have tk : Takes (cxOf (L2.CX PySem.Challenge.pw_carryoffice_k83_whole_even_rows w) PySem.Challenge.pw_carryoffice_k83_whole_even_rows w K mg base ["shares", "many", "counts", "found", "parts", "moment", "best", "position", "number", "under", "last"] "_law_even" (defScope (top 44)) f cdv A outer s H E) (fun c d _ H => E c d H) := takes_of rfl rfl rfl rfl
    exact (mss_cons (ms_par3O rfl sc__law_even.nd 2 3 4 (pe_bin op_mulA bin_mulA (me_lst (ma_v me_int ma_nil)) (me_callB call_len cal_len (by rfl) T.b_len rfl (ma_t (me_var 0) ma_nil))) (me_lst ma_nil) (pe_bin op_sub bin_subA (pe_bin op_mulA bin_mulA me_int (me_callB call_len cal_len (by rfl) T.b_len rfl (ma_t (me_var 0) ma_nil))) me_int)) (mss_cons (ms_forC (passes_of rfl) rfl (mi_rng1 (by rfl) T.b_range (ma_t (me_var 1) ma_nil)) (mg_name (fun _ _ => trivial) sc__law_even.nd rfl (Or.inl rfl)) (mss_cons (ms_set sc__law_even.nd rfl (Or.inl rfl) me_non) (mss_cons (ms_forC (passes_of rfl) rfl (mi_en (by rfl) T.b_enumerate (me_var 0)) (mg_tupS rfl (mg_cons rfl (fun _ _ _ _ _ => trivial) (mg_name (fun _ _ => trivial) sc__law_even.nd rfl (Or.inl rfl)) (mg_cons rfl (fun _ _ _ _ _ => trivial) (mg_tupS rfl (mg_cons rfl (fun _ _ _ _ _ => trivial) (mg_name (fun _ _ => trivial) sc__law_even.nd rfl (Or.inl rfl)) (mg_cons rfl (fun _ _ _ _ _ => trivial) (mg_name (fun _ _ => trivial) sc__law_even.nd rfl (Or.inl rfl)) (mg_nil (fun _ => trivial))))) (mg_nil (fun _ => trivial))))) (mss_one (ms_if ((mt_or (mt_cmp (op_eqS hr.units64) bin_eqS (me_var 4) me_int) (mt_or1 (mt_cmp op_le bin_leA (pe_bin op_mulA bin_mulA (pe_bin op_addA bin_addA (pe_bin op_mulA bin_mulA (me_ix (me_var 2) (me_var 7)) (me_var 4)) me_int) (me_var 9)) (pe_bin op_mulA bin_mulA (pe_bin op_mulA bin_mulA (pe_bin op_addA bin_addA (me_var 5) me_int) (me_var 8)) (me_var 4)))))).pt (mss_cons (ms_set sc__law_even.nd rfl (Or.inl rfl) (me_if (mt_cmp (op_eqS hr.units64) bin_eqS (me_var 4) me_int) me_int (pe_bin op_fdivA bin_fdivA (pe_bin op_mulA bin_mulA (pe_bin op_sub bin_subA (pe_bin op_mulA bin_mulA (pe_bin op_addA bin_addA (me_ix (me_var 2) (me_var 7)) me_int) (me_var 4)) me_int) (me_var 9)) (pe_bin op_mulA bin_mulA (me_var 8) (me_var 4))))) (mss_one (ms_if ((mt_or (mt_cmp op_isA bin_isA (me_var 6) me_non) (mt_or1 (mt_cmp op_lt bin_ltA (me_var 10) (me_ix (me_var 6) me_int))))).pt (mss_one (ms_set sc__law_even.nd rfl (Or.inl rfl) (me_tup (ma_v (me_var 10) (ma_v (me_var 7) ma_nil))))) mss_nil))) mss_nil))) (mss_cons (ms_setixS (pv 2) (me_ix (me_var 6) me_int) (pe_bin op_addA bin_addA (me_ix (me_var 2) (me_ix (me_var 6) me_int)) me_int)) (mss_one (ms_append (pv 3) (me_ix (me_var 6) me_int))))))) (mss_one (ms_ret (me_var 3)))))
theorem kn_is_row_9 (T : Txt K mg)   {x : Str} {f : Addr} {fd : FuncData} (hm : mg x = some (.ref f)) (F : Fun K "is_row" "is_row" (top 9) f fd) : Kn PySem.Challenge.pw_carryoffice_k83_whole_even_rows w K mg base 1 x "is_row" (top 9) ["value", "many"] none f_is_row_9 :=
  kn_def F hm sc_is_row_9 rfl fun cdv A outer s H E hr hgd => by
    have hx : ∀ σ : L2.St, PassesAt (L2.CX PySem.Challenge.pw_carryoffice_k83_whole_even_rows w) (cxOf (L2.CX PySem.Challenge.pw_carryoffice_k83_whole_even_rows w) PySem.Challenge.pw_carryoffice_k83_whole_even_rows w K mg base ["value", "many"] "is_row" (defScope (top 9)) f cdv A outer s H E) σ (fun c d H => E c d H) := fun σ => passAt (takes_of rfl rfl rfl rfl) σ
    have tk : Takes (cxOf (L2.CX PySem.Challenge.pw_carryoffice_k83_whole_even_rows w) PySem.Challenge.pw_carryoffice_k83_whole_even_rows w K mg base ["value", "many"] "is_row" (defScope (top 9)) f cdv A outer s H E) (fun c d _ H => E c d H) := takes_of rfl rfl rfl rfl
    exact (mss_one (ms_ret (me_and (me_isi1 (by rfl) T.b_isinstance (by rfl) T.b_tuple "tuple" rfl (me_var 0)) (me_one (pe_cmp2 (op_eqS hr.units64) bin_eqS (me_callB call_len cal_len (by rfl) T.b_len rfl (ma_t (me_var 0) ma_nil)) (me_var 1) (by with_unfolding_all rfl))))))
theorem kn_is_integer (T : Txt K mg)   {x : Str} {f : Addr} {fd : FuncData} (hm : mg x = some (.ref f)) (F : Fun K "is_integer" "is_integer" (top 6) f fd) : Kn PySem.Challenge.pw_carryoffice_k83_whole_even_rows w K mg base 1 x "is_integer" (top 6) ["value"] none f_is_integer :=
  kn_def F hm sc_is_integer rfl fun cdv A outer s H E hr hgd => by
    have hx : ∀ σ : L2.St, PassesAt (L2.CX PySem.Challenge.pw_carryoffice_k83_whole_even_rows w) (cxOf (L2.CX PySem.Challenge.pw_carryoffice_k83_whole_even_rows w) PySem.Challenge.pw_carryoffice_k83_whole_even_rows w K mg base ["value"] "is_integer" (defScope (top 6)) f cdv A outer s H E) σ (fun c d H => E c d H) := fun σ => passAt (takes_of rfl rfl rfl rfl) σ
    have tk : Takes (cxOf (L2.CX PySem.Challenge.pw_carryoffice_k83_whole_even_rows w) PySem.Challenge.pw_carryoffice_k83_whole_even_rows w K mg base ["value"] "is_integer" (defScope (top 6)) f cdv A outer s H E) (fun c d _ H => E c d H) := takes_of rfl rfl rfl rfl
    exact (mss_one (ms_ret (me_and (me_isi1 (by rfl) T.b_isinstance (by rfl) T.b_int "int" rfl (me_var 0)) (me_one (me_not (me_isi1 (by rfl) T.b_isinstance (by rfl) T.b_bool "bool" rfl (me_var 0)))))))
theorem kn_is_ratio (T : Txt K mg)  (q_is_row_basics : Kn PySem.Challenge.pw_carryoffice_k83_whole_even_rows w K mg base 1 "is_row_basics" "is_row" (top 9) ["value", "many"] none f_is_row_9) (q_is_integer : Kn PySem.Challenge.pw_carryoffice_k83_whole_even_rows w K mg base 1 "is_integer" "is_integer" (top 6) ["value"] none f_is_integer) {x : Str} {f : Addr} {fd : FuncData} (hm : mg x = some (.ref f)) (F : Fun K "is_ratio" "is_ratio" (top 13) f fd) : Kn PySem.Challenge.pw_carryoffice_k83_whole_even_rows w K mg base 2 x "is_ratio" (top 13) ["value"] none f_is_ratio :=
  kn_def F hm sc_is_ratio rfl fun cdv A outer s H E hr hgd => by
    have hx : ∀ σ : L2.St, PassesAt (L2.CX PySem.Challenge.pw_carryoffice_k83_whole_even_rows w) (cxOf (L2.CX PySem.Challenge.pw_carryoffice_k83_whole_even_rows w) PySem.Challenge.pw_carryoffice_k83_whole_even_rows w K mg base ["value"] "is_ratio" (defScope (top 13)) f cdv A outer s H E) σ (fun c d H => E c d H) := fun σ => passAt (takes_of rfl rfl rfl rfl) σ
    have tk : Takes (cxOf (L2.CX PySem.Challenge.pw_carryoffice_k83_whole_even_rows w) PySem.Challenge.pw_carryoffice_k83_whole_even_rows w K mg base ["value"] "is_ratio" (defScope (top 13)) f cdv A outer s H E) (fun c d _ H => E c d H) := takes_of rfl rfl rfl rfl
    exact (mss_cons (ms_if ((mt_or (mt_not (mt_val (me_call q_is_row_basics (hr.mono (by decide)) hgd (by rfl) 2 rfl b_is_row_9_2 hx (ma_t (me_var 0) (ma_t me_int ma_nil))))) (mt_or (mt_not (mt_val (me_call q_is_integer (hr.mono (by decide)) hgd (by rfl) 1 rfl b_is_integer_1 hx (ma_t (me_ix (me_var 0) me_int) ma_nil)))) (mt_or1 (mt_not (mt_val (me_call q_is_integer (hr.mono (by decide)) hgd (by rfl) 1 rfl b_is_integer_1 hx (ma_t (me_ix (me_var 0) me_int) ma_nil)))))))).pt (mss_one (ms_ret me_bl)) mss_nil) (mss_one (ms_ret (me_and (me_chain op_lt op_lt bin_ltA bin_ltA me_int (me_ix (me_var 0) me_int) (me_cst (by rfl) T.c_BEYOND)) (me_and (me_chain op_lt op_lt bin_ltA bin_ltA (me_neg (me_cst (by rfl) T.c_BEYOND)) (me_ix (me_var 0) me_int) (me_cst (by rfl) T.c_BEYOND)) (me_one (pe_cmp2 (op_eqS hr.units64) bin_eqS (me_callG cr_gcd cal_gcd (by rfl) T.g_gcd (ma_t (me_ix (me_var 0) me_int) (ma_t (me_ix (me_var 0) me_int) ma_nil))) me_int (by with_unfolding_all rfl))))))))
theorem kn_are_ratios_above (T : Txt K mg)  (q_is_ratio : Kn PySem.Challenge.pw_carryoffice_k83_whole_even_rows w K mg base 2 "is_ratio" "is_ratio" (top 13) ["value"] none f_is_ratio) {x : Str} {f : Addr} {fd : FuncData} (hm : mg x = some (.ref f)) (F : Fun K "are_ratios_above" "are_ratios_above" (top 21) f fd) : Kn PySem.Challenge.pw_carryoffice_k83_whole_even_rows w K mg base 3 x "are_ratios_above" (top 21) ["value"] none f_are_ratios_above :=
  kn_def F hm sc_are_ratios_above rfl fun cdv A outer s H E hr hgd => by
    have hx : ∀ σ : L2.St, PassesAt (L2.CX PySem.Challenge.pw_carryoffice_k83_whole_even_rows w) (cxOf (L2.CX PySem.Challenge.pw_carryoffice_k83_whole_even_rows w) PySem.Challenge.pw_carryoffice_k83_whole_even_rows w K mg base ["value", "one"] "are_ratios_above" (defScope (top 21)) f cdv A outer s H E) σ (fun c d H => E c d H) := fun σ => passAt (takes_of rfl rfl rfl rfl) σ
    have tk : Takes (cxOf (L2.CX PySem.Challenge.pw_carryoffice_k83_whole_even_rows w) PySem.Challenge.pw_carryoffice_k83_whole_even_rows w K mg base ["value", "one"] "are_ratios_above" (defScope (top 21)) f cdv A outer s H E) (fun c d _ H => E c d H) := takes_of rfl rfl rfl rfl
    exact (mss_cons (ms_if ((mt_or (mt_not (mt_val (me_isi1 (by rfl) T.b_isinstance (by rfl) T.b_tuple "tuple" rfl (me_var 0)))) (mt_or1 (mt_not (mt_chain op_le op_le bin_leA bin_leA me_int (me_callB call_len cal_len (by rfl) T.b_len rfl (ma_t (me_var 0) ma_nil)) (me_cst (by rfl) T.c_MOST_SHARES)))))).pt (mss_one (ms_ret me_bl)) mss_nil) (mss_one (ms_ret (me_callB (cr_all rfl) cal_all (by rfl) T.b_all rfl (ma_t (me_lc rfl sc_are_ratios_above.nd (mi_data (me_var 0)) (own := [("one", 1)]) (blkOk_by (by rfl)) (fun _ _ _ _ _ => (mg_name (fun _ _ => wipe_set (by decide)) sc_are_ratios_above.nd rfl (Or.inl rfl))) (fun _ _ _ _ _ => mts_nil) (fun _ _ _ _ _ => (me_and (me_call q_is_ratio (hr.mono (by decide)) hgd (by rfl) 1 rfl b_is_ratio_1 passB (ma_t (me_var 1) ma_nil)) (me_one (pe_cmp2 op_gt bin_gtA (me_ix (me_var 1) me_int) me_int (by with_unfolding_all rfl)))))) ma_nil)))))
theorem kn_common_part (T : Txt K mg)   {x : Str} {f : Addr} {fd : FuncData} (hm : mg x = some (.ref f)) (F : Fun K "common_part" "common_part" (top 17) f fd) : Kn PySem.Challenge.pw_carryoffice_k83_whole_even_rows w K mg base 1 x "common_part" (top 17) ["one", "other"] none f_common_part :=
  kn_def F hm sc_common_part rfl fun cdv A outer s H E hr hgd => by
    have hx : ∀ σ : L2.St, PassesAt (L2.CX PySem.Challenge.pw_carryoffice_k83_whole_even_rows w) (cxOf (L2.CX PySem.Challenge.pw_carryoffice_k83_whole_even_rows w) PySem.Challenge.pw_carryoffice_k83_whole_even_rows w K mg base ["one", "other"] "common_part" (defScope (top 17)) f cdv A outer s H E) σ (fun c d H => E c d H) := fun σ => passAt (takes_of rfl rfl rfl rfl) σ
    have tk : Takes (cxOf (L2.CX PySem.Challenge.pw_carryoffice_k83_whole_even_rows w) PySem.Challenge.pw_carryoffice_k83_whole_even_rows w K mg base ["one", "other"] "common_part" (defScope (top 17)) f cdv A outer s H E) (fun c d _ H => E c d H) := takes_of rfl rfl rfl rfl
    exact (mss_cons (ms_while 100000 (passes_of rfl) (mt_cmp op_gt bin_gtA (me_var 1) me_int) (mss_one (ms_par rfl sc_common_part.nd 0 1 (me_var 1) (pe_bin op_modN bin_modA (me_var 0) (me_var 1))))) (mss_one (ms_ret (me_var 0))))
theorem kn_common_under (T : Txt K mg)  (q_common_part : Kn PySem.Challenge.pw_carryoffice_k83_whole_even_rows w K mg base 1 "common_part" "common_part" (top 17) ["one", "other"] none f_common_part) {x : Str} {f : Addr} {fd : FuncData} (hm : mg x = some (.ref f)) (F : Fun K "common_under" "common_under" (top 18) f fd) : Kn PySem.Challenge.pw_carryoffice_k83_whole_even_rows w K mg base 2 x "common_under" (top 18) ["ratios"] none f_common_under :=
  kn_def F hm sc_common_under rfl fun cdv A outer s H E hr hgd => by
    have hx : ∀ σ : L2.St, PassesAt (L2.CX PySem.Challenge.pw_carryoffice_k83_whole_even_rows w) (cxOf (L2.CX PySem.Challenge.pw_carryoffice_k83_whole_even_rows w) PySem.Challenge.pw_carryoffice_k83_whole_even_rows w K mg base ["ratios", "found", "number", "under"] "common_under" (defScope (top 18)) f cdv A outer s H E) σ (fun c d H => E c d H) := fun σ => passAt (takes_of rfl rfl rfl rfl) σ
    have tk : Takes (cxOf (L2.CX PySem.Challenge.pw_carryoffice_k83_whole_even_rows w) PySem.Challenge.pw_carryoffice_k83_whole_even_rows w K mg base ["ratios", "found", "number", "under"] "common_under" (defScope (top 18)) f cdv A outer s H E) (fun c d _ H => E c d H) := takes_of rfl rfl rfl rfl
    exact (mss_cons (ms_set sc_common_under.nd rfl (Or.inl rfl) me_int) (mss_cons (ms_forC (passes_of rfl) rfl (mi_data (me_var 0)) (mg_tupS rfl (mg_cons rfl (fun _ _ _ _ _ => trivial) (mg_name (fun _ _ => trivial) sc_common_under.nd rfl (Or.inl rfl)) (mg_cons rfl (fun _ _ _ _ _ => trivial) (mg_name (fun _ _ => trivial) sc_common_under.nd rfl (Or.inl rfl)) (mg_nil (fun _ => trivial))))) (mss_one (ms_set sc_common_under.nd rfl (Or.inl rfl) (pe_bin op_mulA bin_mulA (pe_bin op_fdivA bin_fdivA (me_var 1) (me_call q_common_part (hr.mono (by decide)) hgd (by rfl) 2 rfl b_common_part_2 hx (ma_t (me_var 1) (ma_t (me_var 3) ma_nil)))) (me_var 3))))) (mss_one (ms_ret (me_var 1)))))
theorem kn_total_over (T : Txt K mg)   {x : Str} {f : Addr} {fd : FuncData} (hm : mg x = some (.ref f)) (F : Fun K "total_over" "total_over" (top 19) f fd) : Kn PySem.Challenge.pw_carryoffice_k83_whole_even_rows w K mg base 1 x "total_over" (top 19) ["ratios", "whole"] none f_total_over :=
  kn_def F hm sc_total_over rfl fun cdv A outer s H E hr hgd => by
    have hx : ∀ σ : L2.St, PassesAt (L2.CX PySem.Challenge.pw_carryoffice_k83_whole_even_rows w) (cxOf (L2.CX PySem.Challenge.pw_carryoffice_k83_whole_even_rows w) PySem.Challenge.pw_carryoffice_k83_whole_even_rows w K mg base ["ratios", "whole", "number", "under"] "total_over" (defScope (top 19)) f cdv A outer s H E) σ (fun c d H => E c d H) := fun σ => passAt (takes_of rfl rfl rfl rfl) σ
    have tk : Takes (cxOf (L2.CX PySem.Challenge.pw_carryoffice_k83_whole_even_rows w) PySem.Challenge.pw_carryoffice_k83_whole_even_rows w K mg base ["ratios", "whole", "number", "under"] "total_over" (defScope (top 19)) f cdv A outer s H E) (fun c d _ H => E c d H) := takes_of rfl rfl rfl rfl
    exact (mss_one (ms_ret (me_callB (cr_sum rfl) cal_sum (by rfl) T.b_sum rfl (ma_t (me_lc rfl sc_total_over.nd (mi_data (me_var 0)) (own := [("number", 2), ("under", 3)]) (blkOk_by (by rfl)) (fun _ _ _ _ _ => (mg_tupS rfl (mg_cons rfl (fun _ _ _ p q => q.trans p) (mg_name (fun _ _ => wipe_set (by decide)) sc_total_over.nd rfl (Or.inl rfl)) (mg_cons rfl (fun _ _ _ p q => q.trans p) (mg_name (fun _ _ => wipe_set (by decide)) sc_total_over.nd rfl (Or.inl rfl)) (mg_nil (fun _ => rfl)))))) (fun _ _ _ _ _ => mts_nil) (fun _ _ _ _ _ => (pe_bin op_mulA bin_mulA (me_var 2) (pe_bin op_fdivA bin_fdivA (me_var 1) (me_var 3))))) ma_nil))))
theorem kn_is_shares (T : Txt K mg)  (q_are_ratios_above : Kn PySem.Challenge.pw_carryoffice_k83_whole_even_rows w K mg base 3 "are_ratios_above" "are_ratios_above" (top 21) ["value"] none f_are_ratios_above) (q_common_under : Kn PySem.Challenge.pw_carryoffice_k83_whole_even_rows w K mg base 2 "common_under" "common_under" (top 18) ["ratios"] none f_common_under) (q_total_over : Kn PySem.Challenge.pw_carryoffice_k83_whole_even_rows w K mg base 1 "total_over" "total_over" (top 19) ["ratios", "whole"] none f_total_over) {x : Str} {f : Addr} {fd : FuncData} (hm : mg x = some (.ref f)) (F : Fun K "is_shares" "is_shares" (top 22) f fd) : Kn PySem.Challenge.pw_carryoffice_k83_whole_even_rows w K mg base 4 x "is_shares" (top 22) ["value"] none f_is_shares :=
  kn_def F hm sc_is_shares rfl fun cdv A outer s H E hr hgd => by
    have hx : ∀ σ : L2.St, PassesAt (L2.CX PySem.Challenge.pw_carryoffice_k83_whole_even_rows w) (cxOf (L2.CX PySem.Challenge.pw_carryoffice_k83_whole_even_rows w) PySem.Challenge.pw_carryoffice_k83_whole_even_rows w K mg base ["value", "whole"] "is_shares" (defScope (top 22)) f cdv A outer s H E) σ (fun c d H => E c d H) := fun σ => passAt (takes_of rfl rfl rfl rfl) σ
    have tk : Takes (cxOf (L2.CX PySem.Challenge.pw_carryoffice_k83_whole_even_rows w) PySem.Challenge.pw_carryoffice_k83_whole_even_rows w K mg base ["value", "whole"] "is_shares" (defScope (top 22)) f cdv A outer s H E) (fun c d _ H => E c d H) := takes_of rfl rfl rfl rfl
    exact (mss_cons (ms_if (mt_not (mt_val (me_call q_are_ratios_above (hr.mono (by decide)) hgd (by rfl) 1 rfl b_are_ratios_above_1 hx (ma_t (me_var 0) ma_nil)))) (mss_one (ms_ret me_bl)) mss_nil) (mss_cons (ms_set sc_is_shares.nd rfl (Or.inl rfl) (me_call q_common_under (hr.mono (by decide)) hgd (by rfl) 1 rfl b_common_under_1 hx (ma_t (me_var 0) ma_nil))) (mss_one (ms_ret (pe_cmp2 (op_eqS hr.units64) bin_eqS (me_call q_total_over (hr.mono (by decide)) hgd (by rfl) 2 rfl b_total_over_2 hx (ma_t (me_var 0) (ma_t (me_var 1) ma_nil))) (me_var 1) (by with_unfolding_all rfl))))))
theorem kn_want_shares (T : Txt K mg)  (q_is_shares : Kn PySem.Challenge.pw_carryoffice_k83_whole_even_rows w K mg base 4 "is_shares" "is_shares" (top 22) ["value"] none f_is_shares) {x : Str} {f : Addr} {fd : FuncData} (hm : mg x = some (.ref f)) (F : Fun K "want_shares" "want_shares" (top 23) f fd) : Kn PySem.Challenge.pw_carryoffice_k83_whole_even_rows w K mg base 5 x "want_shares" (top 23) ["value"] none f_want_shares :=
  kn_def F hm sc_want_shares rfl fun cdv A outer s H E hr hgd => by
    have hx : ∀ σ : L2.St, PassesAt (L2.CX PySem.Challenge.pw_carryoffice_k83_whole_even_rows w) (cxOf (L2.CX PySem.Challenge.pw_carryoffice_k83_whole_even_rows w) PySem.Challenge.pw_carryoffice_k83_whole_even_rows w K mg base ["value"] "want_shares" (defScope (top 23)) f cdv A outer s H E) σ (fun c d H => E c d H) := fun σ => passAt (takes_of rfl rfl rfl rfl) σ
    have tk : Takes (cxOf (L2.CX PySem.Challenge.pw_carryoffice_k83_whole_even_rows w) PySem.Challenge.pw_carryoffice_k83_whole_even_rows w K mg base ["value"] "want_shares" (defScope (top 23)) f cdv A outer s H E) (fun c d _ H => E c d H) := takes_of rfl rfl rfl rfl
    exact (mss_cons (ms_if (mt_not (mt_val (me_call q_is_shares (hr.mono (by decide)) hgd (by rfl) 1 rfl b_is_shares_1 hx (ma_t (me_var 0) ma_nil)))) (mss_one ms_never) mss_nil) (mss_one (ms_ret (me_var 0))))
theorem kn_is_count (T : Txt K mg)  (q_is_integer : Kn PySem.Challenge.pw_carryoffice_k83_whole_even_rows w K mg base 1 "is_integer" "is_integer" (top 6) ["value"] none f_is_integer) {x : Str} {f : Addr} {fd : FuncData} (hm : mg x = some (.ref f)) (F : Fun K "is_count" "is_count" (top 7) f fd) : Kn PySem.Challenge.pw_carryoffice_k83_whole_even_rows w K mg base 2 x "is_count" (top 7) ["value"] none f_is_count :=
  kn_def F hm sc_is_count rfl fun cdv A outer s H E hr hgd => by
    have hx : ∀ σ : L2.St, PassesAt (L2.CX PySem.Challenge.pw_carryoffice_k83_whole_even_rows w) (cxOf (L2.CX PySem.Challenge.pw_carryoffice_k83_whole_even_rows w) PySem.Challenge.pw_carryoffice_k83_whole_even_rows w K mg base ["value"] "is_count" (defScope (top 7)) f cdv A outer s H E) σ (fun c d H => E c d H) := fun σ => passAt (takes_of rfl rfl rfl rfl) σ
    have tk : Takes (cxOf (L2.CX PySem.Challenge.pw_carryoffice_k83_whole_even_rows w) PySem.Challenge.pw_carryoffice_k83_whole_even_rows w K mg base ["value"] "is_count" (defScope (top 7)) f cdv A outer s H E) (fun c d _ H => E c d H) := takes_of rfl rfl rfl rfl
    exact (mss_one (ms_ret (me_and (me_call q_is_integer (hr.mono (by decide)) hgd (by rfl) 1 rfl b_is_integer_1 hx (ma_t (me_var 0) ma_nil)) (me_one (pe_cmp2 op_ge bin_geA (me_var 0) me_int (by with_unfolding_all rfl))))))
theorem kn_want_many (T : Txt K mg)  (q_is_count : Kn PySem.Challenge.pw_carryoffice_k83_whole_even_rows w K mg base 2 "is_count" "is_count" (top 7) ["value"] none f_is_count) {x : Str} {f : Addr} {fd : FuncData} (hm : mg x = some (.ref f)) (F : Fun K "want_many" "want_many" (top 20) f fd) : Kn PySem.Challenge.pw_carryoffice_k83_whole_even_rows w K mg base 3 x "want_many" (top 20) ["value", "least", "most"] none f_want_many :=
  kn_def F hm sc_want_many rfl fun cdv A outer s H E hr hgd => by
    have hx : ∀ σ : L2.St, PassesAt (L2.CX PySem.Challenge.pw_carryoffice_k83_whole_even_rows w) (cxOf (L2.CX PySem.Challenge.pw_carryoffice_k83_whole_even_rows w) PySem.Challenge.pw_carryoffice_k83_whole_even_rows w K mg base ["value", "least", "most"] "want_many" (defScope (top 20)) f cdv A outer s H E) σ (fun c d H => E c d H) := fun σ => passAt (takes_of rfl rfl rfl rfl) σ
    have tk : Takes (cxOf (L2.CX PySem.Challenge.pw_carryoffice_k83_whole_even_rows w) PySem.Challenge.pw_carryoffice_k83_whole_even_rows w K mg base ["value", "least", "most"] "want_many" (defScope (top 20)) f cdv A outer s H E) (fun c d _ H => E c d H) := takes_of rfl rfl rfl rfl
    exact (mss_one (ms_if ((mt_or (mt_not (mt_val (me_call q_is_count (hr.mono (by decide)) hgd (by rfl) 1 rfl b_is_count_1 hx (ma_t (me_var 0) ma_nil)))) (mt_or1 (mt_not (mt_chain op_le op_le bin_leA bin_leA (me_var 1) (me_var 0) (me_var 2)))))).pt (mss_one ms_never) mss_nil))
theorem kn_even_begin (T : Txt K mg)   {x : Str} {f : Addr} {fd : FuncData} (hm : mg x = some (.ref f)) (F : Fun K "even_begin" "even_begin" (top 30) f fd) : Kn PySem.Challenge.pw_carryoffice_k83_whole_even_rows w K mg base 1 x "even_begin" (top 30) ["share", "turn", "parts"] none f_even_begin :=
  kn_def F hm sc_even_begin rfl fun cdv A outer s H E hr hgd => by
    have hx : ∀ σ : L2.St, PassesAt (L2.CX PySem.Challenge.pw_carryoffice_k83_whole_even_rows w) (cxOf (L2.CX PySem.Challenge.pw_carryoffice_k83_whole_even_rows w) PySem.Challenge.pw_carryoffice_k83_whole_even_rows w K mg base ["share", "turn", "parts", "number", "under"] "even_begin" (defScope (top 30)) f cdv A outer s H E) σ (fun c d H => E c d H) := fun σ => passAt (takes_of rfl rfl rfl rfl) σ
    have tk : Takes (cxOf (L2.CX PySem.Challenge.pw_carryoffice_k83_whole_even_rows w) PySem.Challenge.pw_carryoffice_k83_whole_even_rows w K mg base ["share", "turn", "parts", "number", "under"] "even_begin" (defScope (top 30)) f cdv A outer s H E) (fun c d _ H => E c d H) := takes_of rfl rfl rfl rfl
    exact (mss_cons (ms_asgG (me_var 0) (mg_tupS rfl (mg_cons rfl (fun _ _ _ _ _ => trivial) (mg_name (fun _ _ => trivial) sc_even_begin.nd rfl (Or.inl rfl)) (mg_cons rfl (fun _ _ _ _ _ => trivial) (mg_name (fun _ _ => trivial) sc_even_begin.nd rfl (Or.inl rfl)) (mg_nil (fun _ => trivial)))))) (mss_one (ms_ret (pe_bin op_sub bin_subA (pe_bin op_fdivA bin_fdivA (pe_bin op_sub bin_subA (pe_bin op_addA bin_addA (pe_bin op_mulA bin_mulA (pe_bin op_addA bin_addA (pe_bin op_mulA bin_mulA (pe_bin op_sub bin_subA (me_var 1) me_int) (me_var 2)) me_int) (me_var 4)) (pe_bin op_mulA bin_mulA (me_var 3) (me_var 2))) me_int) (pe_bin op_mulA bin_mulA (me_var 3) (me_var 2))) me_int))))
theorem kn_even_end (T : Txt K mg)   {x : Str} {f : Addr} {fd : FuncData} (hm : mg x = some (.ref f)) (F : Fun K "even_end" "even_end" (top 31) f fd) : Kn PySem.Challenge.pw_carryoffice_k83_whole_even_rows w K mg base 1 x "even_end" (top 31) ["share", "turn", "parts"] none f_even_end :=
  kn_def F hm sc_even_end rfl fun cdv A outer s H E hr hgd => by
    have hx : ∀ σ : L2.St, PassesAt (L2.CX PySem.Challenge.pw_carryoffice_k83_whole_even_rows w) (cxOf (L2.CX PySem.Challenge.pw_carryoffice_k83_whole_even_rows w) PySem.Challenge.pw_carryoffice_k83_whole_even_rows w K mg base ["share", "turn", "parts", "number", "under"] "even_end" (defScope (top 31)) f cdv A outer s H E) σ (fun c d H => E c d H) := fun σ => passAt (takes_of rfl rfl rfl rfl) σ
    have tk : Takes (cxOf (L2.CX PySem.Challenge.pw_carryoffice_k83_whole_even_rows w) PySem.Challenge.pw_carryoffice_k83_whole_even_rows w K mg base ["share", "turn", "parts", "number", "under"] "even_end" (defScope (top 31)) f cdv A outer s H E) (fun c d _ H => E c d H) := takes_of rfl rfl rfl rfl
    exact (mss_cons (ms_asgG (me_var 0) (mg_tupS rfl (mg_cons rfl (fun _ _ _ _ _ => trivial) (mg_name (fun _ _ => trivial) sc_even_end.nd rfl (Or.inl rfl)) (mg_cons rfl (fun _ _ _ _ _ => trivial) (mg_name (fun _ _ => trivial) sc_even_end.nd rfl (Or.inl rfl)) (mg_nil (fun _ => trivial)))))) (mss_one (ms_ret (pe_bin op_addA bin_addA (pe_bin op_fdivA bin_fdivA (pe_bin op_mulA bin_mulA (pe_bin op_sub bin_subA (pe_bin op_mulA bin_mulA (me_var 1) (me_var 2)) me_int) (me_var 4)) (pe_bin op_mulA bin_mulA (me_var 3) (me_var 2))) me_int))))
theorem kn_next_even (T : Txt K mg)  (q_even_begin : Kn PySem.Challenge.pw_carryoffice_k83_whole_even_rows w K mg base 1 "even_begin" "even_begin" (top 30) ["share", "turn", "parts"] none f_even_begin) (q_even_end : Kn PySem.Challenge.pw_carryoffice_k83_whole_even_rows w K mg base 1 "even_end" "even_end" (top 31) ["share", "turn", "parts"] none f_even_end) {x : Str} {f : Addr} {fd : FuncData} (hm : mg x = some (.ref f)) (F : Fun K "next_even" "next_even" (top 32) f fd) : Kn PySem.Challenge.pw_carryoffice_k83_whole_even_rows w K mg base 2 x "next_even" (top 32) ["shares", "counts", "moment", "parts"] none f_next_even :=
  kn_def F hm sc_next_even rfl fun cdv A outer s H E hr hgd => by
    have hx : ∀ σ : L2.St, PassesAt (L2.CX PySem.Challenge.pw_carryoffice_k83_whole_even_rows w) (cxOf (L2.CX PySem.Challenge.pw_carryoffice_k83_whole_even_rows w) PySem.Challenge.pw_carryoffice_k83_whole_even_rows w K mg base ["shares", "counts", "moment", "parts", "found", "first", "position", "share", "turn", "end"] "next_even" (defScope (top 32)) f cdv A outer s H E) σ (fun c d H => E c d H) := fun σ => passAt (takes_of rfl rfl rfl rfl) σ
    have tk : Takes (cxOf (L2.CX PySem.Challenge.pw_carryoffice_k83_whole_even_rows w) PySem.Challenge.pw_carryoffice_k83_whole_even_rows w K mg base ["shares", "counts", "moment", "parts", "found", "first", "position", "share", "turn", "end"] "next_even" (defScope (top 32)) f cdv A outer s H E) (fun c d _ H => E c d H) := takes_of rfl rfl rfl rfl
    exact (mss_cons (ms_asgG (me_tup (ma_v me_non (ma_v me_non ma_nil))) (mg_tupS rfl (mg_cons rfl (fun _ _ _ _ _ => trivial) (mg_name (fun _ _ => trivial) sc_next_even.nd rfl (Or.inl rfl)) (mg_cons rfl (fun _ _ _ _ _ => trivial) (mg_name (fun _ _ => trivial) sc_next_even.nd rfl (Or.inl rfl)) (mg_nil (fun _ => trivial)))))) (mss_cons (ms_forC (passes_of rfl) rfl (mi_en (by rfl) T.b_enumerate (me_var 0)) (mg_tupS rfl (mg_cons rfl (fun _ _ _ _ _ => trivial) (mg_name (fun _ _ => trivial) sc_next_even.nd rfl (Or.inl rfl)) (mg_cons rfl (fun _ _ _ _ _ => trivial) (mg_name (fun _ _ => trivial) sc_next_even.nd rfl (Or.inl rfl)) (mg_nil (fun _ => trivial))))) (mss_cons (ms_set sc_next_even.nd rfl (Or.inl rfl) (pe_bin op_addA bin_addA (me_ix (me_var 1) (me_var 6)) me_int)) (mss_one (ms_if (mt_cmp op_le bin_leA (me_call q_even_begin (hr.mono (by decide)) hgd (by rfl) 3 rfl b_even_begin_3 hx (ma_t (me_var 7) (ma_t (me_var 8) (ma_t (me_var 3) ma_nil)))) (me_var 2)) (mss_cons (ms_set sc_next_even.nd rfl (Or.inl rfl) (me_call q_even_end (hr.mono (by decide)) hgd (by rfl) 3 rfl b_even_end_3 hx (ma_t (me_var 7) (ma_t (me_var 8) (ma_t (me_var 3) ma_nil))))) (mss_one (ms_if ((mt_or (mt_cmp op_isA bin_isA (me_var 5) me_non) (mt_or1 (mt_cmp op_lt bin_ltA (me_var 9) (me_var 5))))).pt (mss_one (ms_par rfl sc_next_even.nd 4 5 (me_var 6) (me_var 9))) mss_nil))) mss_nil)))) (mss_one (ms_ret (me_var 4)))))
theorem kn_even_row (T : Txt K mg)  (q_want_shares : Kn PySem.Challenge.pw_carryoffice_k83_whole_even_rows w K mg base 5 "want_shares" "want_shares" (top 23) ["value"] none f_want_shares) (q_want_many : Kn PySem.Challenge.pw_carryoffice_k83_whole_even_rows w K mg base 3 "want_many" "want_many" (top 20) ["value", "least", "most"] none f_want_many) (q_next_even : Kn PySem.Challenge.pw_carryoffice_k83_whole_even_rows w K mg base 2 "next_even" "next_even" (top 32) ["shares", "counts", "moment", "parts"] none f_next_even) {x : Str} {f : Addr} {fd : FuncData} (hm : mg x = some (.ref f)) (F : Fun K "even_row" "even_row" (top 33) f fd) : Kn PySem.Challenge.pw_carryoffice_k83_whole_even_rows w K mg base 6 x "even_row" (top 33) ["shares", "many"] none f_even_row :=
  kn_def F hm sc_even_row rfl fun cdv A outer s H E hr hgd => by
    have hx : ∀ σ : L2.St, PassesAt (L2.CX PySem.Challenge.pw_carryoffice_k83_whole_even_rows w) (cxOf (L2.CX PySem.Challenge.pw_carryoffice_k83_whole_even_rows w) PySem.Challenge.pw_carryoffice_k83_whole_even_rows w K mg base ["shares", "many", "counts", "found", "moment", "letter"] "even_row" (defScope (top 33)) f cdv A outer s H E) σ (fun c d H => E c d H) := fun σ => passAt (takes_of rfl rfl rfl rfl) σ
    have tk : Takes (cxOf (L2.CX PySem.Challenge.pw_carryoffice_k83_whole_even_rows w) PySem.Challenge.pw_carryoffice_k83_whole_even_rows w K mg base ["shares", "many", "counts", "found", "moment", "letter"] "even_row" (defScope (top 33)) f cdv A outer s H E) (fun c d _ H => E c d H) := takes_of rfl rfl rfl rfl
    exact (mss_cons (ms_expr (me_call q_want_shares (hr.mono (by decide)) hgd (by rfl) 1 rfl b_want_shares_1 hx (ma_t (me_var 0) ma_nil))) (mss_cons (ms_expr (me_call q_want_many (hr.mono (by decide)) hgd (by rfl) 3 rfl b_want_many_3 hx (ma_t (me_var 1) (ma_t me_int (ma_t (me_cst (by rfl) T.c_MOST_LETTERS) ma_nil))))) (mss_cons (ms_if (mt_cmp (op_eqS hr.units64) bin_eqS (me_callB call_len cal_len (by rfl) T.b_len rfl (ma_t (me_var 0) ma_nil)) me_int) (mss_one (ms_ret (pe_bin op_mulA bin_mulA (me_lst (ma_v me_int ma_nil)) (me_var 1)))) mss_nil) (mss_cons (ms_parO rfl sc_even_row.nd 2 3 (pe_bin op_mulA bin_mulA (me_lst (ma_v me_int ma_nil)) (me_callB call_len cal_len (by rfl) T.b_len rfl (ma_t (me_var 0) ma_nil))) (me_lst ma_nil)) (mss_cons (ms_forC (passes_of rfl) rfl (mi_rng1 (by rfl) T.b_range (ma_t (me_var 1) ma_nil)) (mg_name (fun _ _ => trivial) sc_even_row.nd rfl (Or.inl rfl)) (mss_cons (ms_set sc_even_row.nd rfl (Or.inl rfl) (me_call q_next_even (hr.mono (by decide)) hgd (by rfl) 4 rfl b_next_even_4 hx (ma_t (me_var 0) (ma_t (me_var 2) (ma_t (me_var 4) (ma_t (pe_bin op_sub bin_subA (pe_bin op_mulA bin_mulA me_int (me_callB call_len cal_len (by rfl) T.b_len rfl (ma_t (me_var 0) ma_nil))) me_int) ma_nil)))))) (mss_cons (ms_setixS (pv 2) (me_var 5) (pe_bin op_addA bin_addA (me_ix (me_var 2) (me_var 5)) me_int)) (mss_one (ms_append (pv 3) (me_var 5)))))) (mss_one (ms_ret (me_var 3))))))))
theorem kn__law_lags (T : Txt K mg)   {x : Str} {f : Addr} {fd : FuncData} (hm : mg x = some (.ref f)) (F : Fun K "_law_lags" "_law_lags" (top 41) f fd) : Kn PySem.Challenge.pw_carryoffice_k83_whole_even_rows w K mg base 1 x "_law_lags" (top 41) ["shares", "row"] none f__law_lags :=
  kn_def F hm sc__law_lags rfl fun cdv A outer s H E hr hgd => by
    have hx : ∀ σ : L2.St, PassesAt (L2.CX PySem.Challenge.pw_carryoffice_k83_whole_even_rows w) (cxOf (L2.CX PySem.Challenge.pw_carryoffice_k83_whole_even_rows w) PySem.Challenge.pw_carryoffice_k83_whole_even_rows w K mg base ["shares", "row", "counts", "found", "many", "share", "count"] "_law_lags" (defScope (top 41)) f cdv A outer s H E) σ (fun c d H => E c d H) := fun σ => passAt (takes_of rfl rfl rfl rfl) σ
    have tk : Takes (cxOf (L2.CX PySem.Challenge.pw_carryoffice_k83_whole_even_rows w) PySem.Challenge.pw_carryoffice_k83_whole_even_rows w K mg base ["shares", "row", "counts", "found", "many", "share", "count"] "_law_lags" (defScope (top 41)) f cdv A outer s H E) (fun c d _ H => E c d H) := takes_of rfl rfl rfl rfl
    exact (mss_cons (ms_parO rfl sc__law_lags.nd 2 3 (pe_bin op_mulA bin_mulA (me_lst (ma_v me_int ma_nil)) (me_callB call_len cal_len (by rfl) T.b_len rfl (ma_t (me_var 0) ma_nil))) (me_lst ma_nil)) (mss_cons (ms_forC (passes_of rfl) rfl (mi_rng1 (by rfl) T.b_range (ma_t (pe_bin op_addA bin_addA (me_callB call_len cal_len (by rfl) T.b_len rfl (ma_t (me_var 1) ma_nil)) me_int) ma_nil)) (mg_name (fun _ _ => trivial) sc__law_lags.nd rfl (Or.inr rfl)) (mss_cons (ms_append (pv 3) (me_lc rfl sc__law_lags.nd (mi_zp (by rfl) T.b_zip (me_var 0) (me_var 2)) (own := [("share", 5), ("count", 6)]) (blkOk_by (by rfl)) (fun _ _ _ _ _ => (mg_tupS rfl (mg_cons rfl (fun _ _ _ p q => q.trans p) (mg_name (fun _ _ => wipe_set (by decide)) sc__law_lags.nd rfl (Or.inl rfl)) (mg_cons rfl (fun _ _ _ p q => q.trans p) (mg_name (fun _ _ => wipe_set (by decide)) sc__law_lags.nd rfl (Or.inl rfl)) (mg_nil (fun _ => rfl)))))) (fun _ _ _ _ _ => mts_nil) (fun _ _ _ _ _ => (me_tup (ma_v (pe_bin op_sub bin_subA (pe_bin op_mulA bin_mulA (me_var 4) (me_ix (me_var 5) me_int)) (pe_bin op_mulA bin_mulA (me_var 6) (me_ix (me_var 5) me_int))) (ma_v (me_ix (me_var 5) me_int) ma_nil)))))) (mss_one (ms_if (mt_cmp op_lt bin_ltA (me_var 4) (me_callB call_len cal_len (by rfl) T.b_len rfl (ma_t (me_var 1) ma_nil))) (mss_one (ms_setixS (pv 2) (me_ix (me_var 1) (me_var 4)) (pe_bin op_addA bin_addA (me_ix (me_var 2) (me_ix (me_var 1) (me_var 4))) me_int))) mss_nil)))) (mss_one (ms_ret (me_var 3)))))
theorem kn__law_is_even (T : Txt K mg)  (q__law_lags : Kn PySem.Challenge.pw_carryoffice_k83_whole_even_rows w K mg base 1 "_law_lags" "_law_lags" (top 41) ["shares", "row"] none f__law_lags) {x : Str} {f : Addr} {fd : FuncData} (hm : mg x = some (.ref f)) (F : Fun K "_law_is_even" "_law_is_even" (top 45) f fd) : Kn PySem.Challenge.pw_carryoffice_k83_whole_even_rows w K mg base 2 x "_law_is_even" (top 45) ["shares", "row"] none f__law_is_even :=
  kn_def F hm sc__law_is_even rfl fun cdv A outer s H E hr hgd => by
    have hx : ∀ σ : L2.St, PassesAt (L2.CX PySem.Challenge.pw_carryoffice_k83_whole_even_rows w) (cxOf (L2.CX PySem.Challenge.pw_carryoffice_k83_whole_even_rows w) PySem.Challenge.pw_carryoffice_k83_whole_even_rows w K mg base ["shares", "row", "parts", "lags", "lag", "under"] "_law_is_even" (defScope (top 45)) f cdv A outer s H E) σ (fun c d H => E c d H) := fun σ => passAt (takes_of rfl rfl rfl rfl) σ
    have tk : Takes (cxOf (L2.CX PySem.Challenge.pw_carryoffice_k83_whole_even_rows w) PySem.Challenge.pw_carryoffice_k83_whole_even_rows w K mg base ["shares", "row", "parts", "lags", "lag", "under"] "_law_is_even" (defScope (top 45)) f cdv A outer s H E) (fun c d _ H => E c d H) := takes_of rfl rfl rfl rfl
    exact (mss_cons (ms_set sc__law_is_even.nd rfl (Or.inr rfl) (pe_bin op_sub bin_subA (pe_bin op_mulA bin_mulA me_int (me_callB call_len cal_len (by rfl) T.b_len rfl (ma_t (me_var 0) ma_nil))) me_int)) (mss_cons (ms_forC (passes_of rfl) rfl (mi_data (me_call q__law_lags (hr.mono (by decide)) hgd (by rfl) 2 rfl b__law_lags_2 hx (ma_t (me_var 0) (ma_t (me_var 1) ma_nil)))) (mg_name (fun _ _ => trivial) sc__law_is_even.nd rfl (Or.inl rfl)) (mss_one (ms_if ((mt_and (mt_cmp op_gt bin_gtA (me_var 2) me_int) (mt_and1 (mt_val (me_callB (cr_any rfl) cal_any (by rfl) T.b_any rfl (ma_t (me_lc rfl sc__law_is_even.nd (mi_data (me_var 3)) (own := [("lag", 4), ("under", 5)]) (blkOk_by (by rfl)) (fun _ _ _ _ _ => (mg_tupS rfl (mg_cons rfl (fun _ _ _ p q => q.trans p) (mg_name (fun _ _ => wipe_set (by decide)) sc__law_is_even.nd rfl (Or.inl rfl)) (mg_cons rfl (fun _ _ _ p q => q.trans p) (mg_name (fun _ _ => wipe_set (by decide)) sc__law_is_even.nd rfl (Or.inl rfl)) (mg_nil (fun _ => rfl)))))) (fun _ _ _ _ _ => mts_nil) (fun _ _ _ _ _ => (pe_cmp2 op_gt bin_gtA (pe_bin op_mulA bin_mulA (me_callB call_abs cal_abs (by rfl) T.b_abs rfl (ma_t (me_var 4) ma_nil)) (me_var 2)) (pe_bin op_mulA bin_mulA (pe_bin op_sub bin_subA (me_var 2) me_int) (me_var 5)) (by with_unfolding_all rfl)))) ma_nil)))))).pt (mss_one (ms_ret me_bl)) mss_nil))) (mss_one (ms_ret me_bl))))
theorem kn__law_break (T : Txt K mg)  (q__law_lags : Kn PySem.Challenge.pw_carryoffice_k83_whole_even_rows w K mg base 1 "_law_lags" "_law_lags" (top 41) ["shares", "row"] none f__law_lags) {x : Str} {f : Addr} {fd : FuncData} (hm : mg x = some (.ref f)) (F : Fun K "_law_break" "_law_break" (top 42) f fd) : Kn PySem.Challenge.pw_carryoffice_k83_whole_even_rows w K mg base 2 x "_law_break" (top 42) ["shares", "row"] none f__law_break :=
  kn_def F hm sc__law_break rfl fun cdv A outer s H E hr hgd => by
    have hx : ∀ σ : L2.St, PassesAt (L2.CX PySem.Challenge.pw_carryoffice_k83_whole_even_rows w) (cxOf (L2.CX PySem.Challenge.pw_carryoffice_k83_whole_even_rows w) PySem.Challenge.pw_carryoffice_k83_whole_even_rows w K mg base ["shares", "row", "many", "lags", "lag", "under"] "_law_break" (defScope (top 42)) f cdv A outer s H E) σ (fun c d H => E c d H) := fun σ => passAt (takes_of rfl rfl rfl rfl) σ
    have tk : Takes (cxOf (L2.CX PySem.Challenge.pw_carryoffice_k83_whole_even_rows w) PySem.Challenge.pw_carryoffice_k83_whole_even_rows w K mg base ["shares", "row", "many", "lags", "lag", "under"] "_law_break" (defScope (top 42)) f cdv A outer s H E) (fun c d _ H => E c d H) := takes_of rfl rfl rfl rfl
    exact (mss_cons (ms_forC (passes_of rfl) rfl (mi_en (by rfl) T.b_enumerate (me_call q__law_lags (hr.mono (by decide)) hgd (by rfl) 2 rfl b__law_lags_2 hx (ma_t (me_var 0) (ma_t (me_var 1) ma_nil)))) (mg_tupS rfl (mg_cons rfl (fun _ _ _ _ _ => trivial) (mg_name (fun _ _ => trivial) sc__law_break.nd rfl (Or.inl rfl)) (mg_cons rfl (fun _ _ _ _ _ => trivial) (mg_name (fun _ _ => trivial) sc__law_break.nd rfl (Or.inl rfl)) (mg_nil (fun _ => trivial))))) (mss_one (ms_if (mt_val (me_callB (cr_any rfl) cal_any (by rfl) T.b_any rfl (ma_t (me_lc rfl sc__law_break.nd (mi_data (me_var 3)) (own := [("lag", 4), ("under", 5)]) (blkOk_by (by rfl)) (fun _ _ _ _ _ => (mg_tupS rfl (mg_cons rfl (fun _ _ _ p q => q.trans p) (mg_name (fun _ _ => wipe_set (by decide)) sc__law_break.nd rfl (Or.inl rfl)) (mg_cons rfl (fun _ _ _ p q => q.trans p) (mg_name (fun _ _ => wipe_set (by decide)) sc__law_break.nd rfl (Or.inl rfl)) (mg_nil (fun _ => rfl)))))) (fun _ _ _ _ _ => mts_nil) (fun _ _ _ _ _ => (pe_cmp2 op_ge bin_geA (me_callB call_abs cal_abs (by rfl) T.b_abs rfl (ma_t (me_var 4) ma_nil)) (me_var 5) (by with_unfolding_all rfl)))) ma_nil))) (mss_one (ms_ret (me_var 2))) mss_nil))) (mss_one (ms_ret me_non)))
theorem kn_is_list (T : Txt K mg)   {x : Str} {f : Addr} {fd : FuncData} (hm : mg x = some (.ref f)) (F : Fun K "is_list" "is_list" (top 8) f fd) : Kn PySem.Challenge.pw_carryoffice_k83_whole_even_rows w K mg base 1 x "is_list" (top 8) ["value"] none f_is_list :=
  kn_def F hm sc_is_list rfl fun cdv A outer s H E hr hgd => by
    have hx : ∀ σ : L2.St, PassesAt (L2.CX PySem.Challenge.pw_carryoffice_k83_whole_even_rows w) (cxOf (L2.CX PySem.Challenge.pw_carryoffice_k83_whole_even_rows w) PySem.Challenge.pw_carryoffice_k83_whole_even_rows w K mg base ["value"] "is_list" (defScope (top 8)) f cdv A outer s H E) σ (fun c d H => E c d H) := fun σ => passAt (takes_of rfl rfl rfl rfl) σ
    have tk : Takes (cxOf (L2.CX PySem.Challenge.pw_carryoffice_k83_whole_even_rows w) PySem.Challenge.pw_carryoffice_k83_whole_even_rows w K mg base ["value"] "is_list" (defScope (top 8)) f cdv A outer s H E) (fun c d _ H => E c d H) := takes_of rfl rfl rfl rfl
    exact (mss_one (ms_ret (me_isi2 (by rfl) T.b_isinstance (by rfl) T.b_list "list" rfl (by rfl) T.b_tuple "tuple" rfl (me_var 0))))
theorem kn_is_row_24 (T : Txt K mg)  (q_is_list : Kn PySem.Challenge.pw_carryoffice_k83_whole_even_rows w K mg base 1 "is_list" "is_list" (top 8) ["value"] none f_is_list) (q_is_count : Kn PySem.Challenge.pw_carryoffice_k83_whole_even_rows w K mg base 2 "is_count" "is_count" (top 7) ["value"] none f_is_count) {x : Str} {f : Addr} {fd : FuncData} (hm : mg x = some (.ref f)) (F : Fun K "is_row" "is_row" (top 24) f fd) : Kn PySem.Challenge.pw_carryoffice_k83_whole_even_rows w K mg base 3 x "is_row" (top 24) ["shares", "value"] none f_is_row_24 :=
  kn_def F hm sc_is_row_24 rfl fun cdv A outer s H E hr hgd => by
    have hx : ∀ σ : L2.St, PassesAt (L2.CX PySem.Challenge.pw_carryoffice_k83_whole_even_rows w) (cxOf (L2.CX PySem.Challenge.pw_carryoffice_k83_whole_even_rows w) PySem.Challenge.pw_carryoffice_k83_whole_even_rows w K mg base ["shares", "value", "one"] "is_row" (defScope (top 24)) f cdv A outer s H E) σ (fun c d H => E c d H) := fun σ => passAt (takes_of rfl rfl rfl rfl) σ
    have tk : Takes (cxOf (L2.CX PySem.Challenge.pw_carryoffice_k83_whole_even_rows w) PySem.Challenge.pw_carryoffice_k83_whole_even_rows w K mg base ["shares", "value", "one"] "is_row" (defScope (top 24)) f cdv A outer s H E) (fun c d _ H => E c d H) := takes_of rfl rfl rfl rfl
    exact (mss_one (ms_ret (me_and (me_call q_is_list (hr.mono (by decide)) hgd (by rfl) 1 rfl b_is_list_1 hx (ma_t (me_var 1) ma_nil)) (me_one (me_callB (cr_all rfl) cal_all (by rfl) T.b_all rfl (ma_t (me_lc rfl sc_is_row_24.nd (mi_data (me_var 1)) (own := [("one", 2)]) (blkOk_by (by rfl)) (fun _ _ _ _ _ => (mg_name (fun _ _ => wipe_set (by decide)) sc_is_row_24.nd rfl (Or.inl rfl))) (fun _ _ _ _ _ => mts_nil) (fun _ _ _ _ _ => (me_and (me_call q_is_count (hr.mono (by decide)) hgd (by rfl) 1 rfl b_is_count_1 passB (ma_t (me_var 2) ma_nil)) (me_one (pe_cmp2 op_lt bin_ltA (me_var 2) (me_callB call_len cal_len (by rfl) T.b_len rfl (ma_t (me_var 0) ma_nil)) (by with_unfolding_all rfl)))))) ma_nil))))))
theorem kn_lags_behind (T : Txt K mg)   {x : Str} {f : Addr} {fd : FuncData} (hm : mg x = some (.ref f)) (F : Fun K "lags_behind" "lags_behind" (top 26) f fd) : Kn PySem.Challenge.pw_carryoffice_k83_whole_even_rows w K mg base 1 x "lags_behind" (top 26) ["shares", "row"] none f_lags_behind :=
  kn_def F hm sc_lags_behind rfl fun cdv A outer s H E hr hgd => by
    have hx : ∀ σ : L2.St, PassesAt (L2.CX PySem.Challenge.pw_carryoffice_k83_whole_even_rows w) (cxOf (L2.CX PySem.Challenge.pw_carryoffice_k83_whole_even_rows w) PySem.Challenge.pw_carryoffice_k83_whole_even_rows w K mg base ["shares", "row", "counts", "found", "moment", "letter", "number", "under", "count"] "lags_behind" (defScope (top 26)) f cdv A outer s H E) σ (fun c d H => E c d H) := fun σ => passAt (takes_of rfl rfl rfl rfl) σ
    have tk : Takes (cxOf (L2.CX PySem.Challenge.pw_carryoffice_k83_whole_even_rows w) PySem.Challenge.pw_carryoffice_k83_whole_even_rows w K mg base ["shares", "row", "counts", "found", "moment", "letter", "number", "under", "count"] "lags_behind" (defScope (top 26)) f cdv A outer s H E) (fun c d _ H => E c d H) := takes_of rfl rfl rfl rfl
    exact (mss_cons (ms_parO rfl sc_lags_behind.nd 2 3 (pe_bin op_mulA bin_mulA (me_lst (ma_v me_int ma_nil)) (me_callB call_len cal_len (by rfl) T.b_len rfl (ma_t (me_var 0) ma_nil))) (me_lst (ma_v (pe_bin op_mulA bin_mulA (me_lst (ma_v me_int ma_nil)) (me_callB call_len cal_len (by rfl) T.b_len rfl (ma_t (me_var 0) ma_nil))) ma_nil))) (mss_cons (ms_forC (passes_of rfl) rfl (mi_en (by rfl) T.b_enumerate (me_var 1)) (mg_tupS rfl (mg_cons rfl (fun _ _ _ _ _ => trivial) (mg_name (fun _ _ => trivial) sc_lags_behind.nd rfl (Or.inr rfl)) (mg_cons rfl (fun _ _ _ _ _ => trivial) (mg_name (fun _ _ => trivial) sc_lags_behind.nd rfl (Or.inl rfl)) (mg_nil (fun _ => trivial))))) (mss_cons (ms_setixS (pv 2) (me_var 5) (pe_bin op_addA bin_addA (me_ix (me_var 2) (me_var 5)) me_int)) (mss_one (ms_append (pv 3) (me_lc rfl sc_lags_behind.nd (mi_zp (by rfl) T.b_zip (me_var 0) (me_var 2)) (own := [("count", 8), ("number", 6), ("under", 7)]) (blkOk_by (by rfl)) (fun _ _ _ _ _ => (mg_tupS rfl (mg_cons rfl (fun _ _ _ p q => q.trans p) (mg_tupS rfl (mg_cons rfl (fun _ _ _ p q => q.trans p) (mg_name (fun _ _ => wipe_set (by decide)) sc_lags_behind.nd rfl (Or.inl rfl)) (mg_cons rfl (fun _ _ _ p q => q.trans p) (mg_name (fun _ _ => wipe_set (by decide)) sc_lags_behind.nd rfl (Or.inl rfl)) (mg_nil (fun _ => rfl))))) (mg_cons rfl (fun _ _ _ p q => q.trans p) (mg_name (fun _ _ => wipe_set (by decide)) sc_lags_behind.nd rfl (Or.inl rfl)) (mg_nil (fun _ => rfl)))))) (fun _ _ _ _ _ => mts_nil) (fun _ _ _ _ _ => (pe_bin op_sub bin_subA (pe_bin op_mulA bin_mulA (pe_bin op_addA bin_addA (me_var 4) me_int) (me_var 6)) (pe_bin op_mulA bin_mulA (me_var 8) (me_var 7))))))))) (mss_one (ms_ret (me_var 3)))))
theorem kn_is_even (T : Txt K mg)  (q_want_shares : Kn PySem.Challenge.pw_carryoffice_k83_whole_even_rows w K mg base 5 "want_shares" "want_shares" (top 23) ["value"] none f_want_shares) (q_is_row_turns : Kn PySem.Challenge.pw_carryoffice_k83_whole_even_rows w K mg base 3 "is_row_turns" "is_row" (top 24) ["shares", "value"] none f_is_row_24) (q_lags_behind : Kn PySem.Challenge.pw_carryoffice_k83_whole_even_rows w K mg base 1 "lags_behind" "lags_behind" (top 26) ["shares", "row"] none f_lags_behind) {x : Str} {f : Addr} {fd : FuncData} (hm : mg x = some (.ref f)) (F : Fun K "is_even" "is_even" (top 34) f fd) : Kn PySem.Challenge.pw_carryoffice_k83_whole_even_rows w K mg base 6 x "is_even" (top 34) ["shares", "value"] none f_is_even :=
  kn_def F hm sc_is_even rfl fun cdv A outer s H E hr hgd => by
    have hx : ∀ σ : L2.St, PassesAt (L2.CX PySem.Challenge.pw_carryoffice_k83_whole_even_rows w) (cxOf (L2.CX PySem.Challenge.pw_carryoffice_k83_whole_even_rows w) PySem.Challenge.pw_carryoffice_k83_whole_even_rows w K mg base ["shares", "value", "parts", "lags", "lag", "number", "under"] "is_even" (defScope (top 34)) f cdv A outer s H E) σ (fun c d H => E c d H) := fun σ => passAt (takes_of rfl rfl rfl rfl) σ
    have tk : Takes (cxOf (L2.CX PySem.Challenge.pw_carryoffice_k83_whole_even_rows w) PySem.Challenge.pw_carryoffice_k83_whole_even_rows w K mg base ["shares", "value", "parts", "lags", "lag", "number", "under"] "is_even" (defScope (top 34)) f cdv A outer s H E) (fun c d _ H => E c d H) := takes_of rfl rfl rfl rfl
    exact (mss_cons (ms_expr (me_call q_want_shares (hr.mono (by decide)) hgd (by rfl) 1 rfl b_want_shares_1 hx (ma_t (me_var 0) ma_nil))) (mss_cons (ms_if (mt_not (mt_val (me_call q_is_row_turns (hr.mono (by decide)) hgd (by rfl) 2 rfl b_is_row_24_2 hx (ma_t (me_var 0) (ma_t (me_var 1) ma_nil))))) (mss_one (ms_ret me_bl)) mss_nil) (mss_cons (ms_set sc_is_even.nd rfl (Or.inl rfl) (pe_bin op_sub bin_subA (pe_bin op_mulA bin_mulA me_int (me_callB call_len cal_len (by rfl) T.b_len rfl (ma_t (me_var 0) ma_nil))) me_int)) (mss_cons (ms_forC (passes_of rfl) rfl (mi_data (me_call q_lags_behind (hr.mono (by decide)) hgd (by rfl) 2 rfl b_lags_behind_2 hx (ma_t (me_var 0) (ma_t (me_var 1) ma_nil)))) (mg_name (fun _ _ => trivial) sc_is_even.nd rfl (Or.inl rfl)) (mss_one (ms_forC (passes_of rfl) rfl (mi_zp (by rfl) T.b_zip (me_var 3) (me_var 0)) (mg_tupS rfl (mg_cons rfl (fun _ _ _ _ _ => trivial) (mg_name (fun _ _ => trivial) sc_is_even.nd rfl (Or.inl rfl)) (mg_cons rfl (fun _ _ _ _ _ => trivial) (mg_tupS rfl (mg_cons rfl (fun _ _ _ _ _ => trivial) (mg_name (fun _ _ => trivial) sc_is_even.nd rfl (Or.inl rfl)) (mg_cons rfl (fun _ _ _ _ _ => trivial) (mg_name (fun _ _ => trivial) sc_is_even.nd rfl (Or.inl rfl)) (mg_nil (fun _ => trivial))))) (mg_nil (fun _ => trivial))))) (mss_one (ms_if ((mt_and (mt_cmp op_gt bin_gtA (pe_bin op_mulA bin_mulA (me_callB call_abs cal_abs (by rfl) T.b_abs rfl (ma_t (me_var 4) ma_nil)) (me_var 2)) (pe_bin op_mulA bin_mulA (me_var 6) (pe_bin op_sub bin_subA (me_var 2) me_int))) (mt_and1 (mt_cmp op_gt bin_gtA (me_var 2) me_int)))).pt (mss_one (ms_ret me_bl)) mss_nil))))) (mss_one (ms_ret me_bl))))))
theorem kn_break_of (T : Txt K mg)  (q_lags_behind : Kn PySem.Challenge.pw_carryoffice_k83_whole_even_rows w K mg base 1 "lags_behind" "lags_behind" (top 26) ["shares", "row"] none f_lags_behind) {x : Str} {f : Addr} {fd : FuncData} (hm : mg x = some (.ref f)) (F : Fun K "break_of" "break_of" (top 27) f fd) : Kn PySem.Challenge.pw_carryoffice_k83_whole_even_rows w K mg base 2 x "break_of" (top 27) ["shares", "row"] none f_break_of :=
  kn_def F hm sc_break_of rfl fun cdv A outer s H E hr hgd => by
    have hx : ∀ σ : L2.St, PassesAt (L2.CX PySem.Challenge.pw_carryoffice_k83_whole_even_rows w) (cxOf (L2.CX PySem.Challenge.pw_carryoffice_k83_whole_even_rows w) PySem.Challenge.pw_carryoffice_k83_whole_even_rows w K mg base ["shares", "row", "many", "lags", "lag", "number", "under"] "break_of" (defScope (top 27)) f cdv A outer s H E) σ (fun c d H => E c d H) := fun σ => passAt (takes_of rfl rfl rfl rfl) σ
    have tk : Takes (cxOf (L2.CX PySem.Challenge.pw_carryoffice_k83_whole_even_rows w) PySem.Challenge.pw_carryoffice_k83_whole_even_rows w K mg base ["shares", "row", "many", "lags", "lag", "number", "under"] "break_of" (defScope (top 27)) f cdv A outer s H E) (fun c d _ H => E c d H) := takes_of rfl rfl rfl rfl
    exact (mss_cons (ms_forC (passes_of rfl) rfl (mi_en (by rfl) T.b_enumerate (me_call q_lags_behind (hr.mono (by decide)) hgd (by rfl) 2 rfl b_lags_behind_2 hx (ma_t (me_var 0) (ma_t (me_var 1) ma_nil)))) (mg_tupS rfl (mg_cons rfl (fun _ _ _ _ _ => trivial) (mg_name (fun _ _ => trivial) sc_break_of.nd rfl (Or.inl rfl)) (mg_cons rfl (fun _ _ _ _ _ => trivial) (mg_name (fun _ _ => trivial) sc_break_of.nd rfl (Or.inl rfl)) (mg_nil (fun _ => trivial))))) (mss_one (ms_forC (passes_of rfl) rfl (mi_zp (by rfl) T.b_zip (me_var 3) (me_var 0)) (mg_tupS rfl (mg_cons rfl (fun _ _ _ _ _ => trivial) (mg_name (fun _ _ => trivial) sc_break_of.nd rfl (Or.inl rfl)) (mg_cons rfl (fun _ _ _ _ _ => trivial) (mg_tupS rfl (mg_cons rfl (fun _ _ _ _ _ => trivial) (mg_name (fun _ _ => trivial) sc_break_of.nd rfl (Or.inl rfl)) (mg_cons rfl (fun _ _ _ _ _ => trivial) (mg_name (fun _ _ => trivial) sc_break_of.nd rfl (Or.inl rfl)) (mg_nil (fun _ => trivial))))) (mg_nil (fun _ => trivial))))) (mss_one (ms_if (mt_not (mt_chain op_lt op_lt bin_ltA bin_ltA (pe_bin op_sub bin_subA me_int (me_var 6)) (me_var 4) (me_var 6))) (mss_one (ms_ret (me_var 2))) mss_nil))))) (mss_one (ms_ret me_non)))
theorem kn_is_kept (T : Txt K mg)  (q_want_shares : Kn PySem.Challenge.pw_carryoffice_k83_whole_even_rows w K mg base 5 "want_shares" "want_shares" (top 23) ["value"] none f_want_shares) (q_is_row_turns : Kn PySem.Challenge.pw_carryoffice_k83_whole_even_rows w K mg base 3 "is_row_turns" "is_row" (top 24) ["shares", "value"] none f_is_row_24) (q_break_of : Kn PySem.Challenge.pw_carryoffice_k83_whole_even_rows w K mg base 2 "break_of" "break_of" (top 27) ["shares", "row"] none f_break_of) {x : Str} {f : Addr} {fd : FuncData} (hm : mg x = some (.ref f)) (F : Fun K "is_kept" "is_kept" (top 28) f fd) : Kn PySem.Challenge.pw_carryoffice_k83_whole_even_rows w K mg base 6 x "is_kept" (top 28) ["shares", "value"] none f_is_kept :=
  kn_def F hm sc_is_kept rfl fun cdv A outer s H E hr hgd => by
    have hx : ∀ σ : L2.St, PassesAt (L2.CX PySem.Challenge.pw_carryoffice_k83_whole_even_rows w) (cxOf (L2.CX PySem.Challenge.pw_carryoffice_k83_whole_even_rows w) PySem.Challenge.pw_carryoffice_k83_whole_even_rows w K mg base ["shares", "value"] "is_kept" (defScope (top 28)) f cdv A outer s H E) σ (fun c d H => E c d H) := fun σ => passAt (takes_of rfl rfl rfl rfl) σ
    have tk : Takes (cxOf (L2.CX PySem.Challenge.pw_carryoffice_k83_whole_even_rows w) PySem.Challenge.pw_carryoffice_k83_whole_even_rows w K mg base ["shares", "value"] "is_kept" (defScope (top 28)) f cdv A outer s H E) (fun c d _ H => E c d H) := takes_of rfl rfl rfl rfl
    exact (mss_cons (ms_expr (me_call q_want_shares (hr.mono (by decide)) hgd (by rfl) 1 rfl b_want_shares_1 hx (ma_t (me_var 0) ma_nil))) (mss_one (ms_ret (me_and (me_call q_is_row_turns (hr.mono (by decide)) hgd (by rfl) 2 rfl b_is_row_24_2 hx (ma_t (me_var 0) (ma_t (me_var 1) ma_nil))) (me_one (pe_cmp2 op_isA bin_isA (me_call q_break_of (hr.mono (by decide)) hgd (by rfl) 2 rfl b_break_of_2 hx (ma_t (me_var 0) (ma_t (me_var 1) ma_nil))) me_non (by with_unfolding_all rfl)))))))
theorem kn__law_value_right (T : Txt K mg)  (q__law_is_even : Kn PySem.Challenge.pw_carryoffice_k83_whole_even_rows w K mg base 2 "_law_is_even" "_law_is_even" (top 45) ["shares", "row"] none f__law_is_even) (q_is_even : Kn PySem.Challenge.pw_carryoffice_k83_whole_even_rows w K mg base 6 "is_even" "is_even" (top 34) ["shares", "value"] none f_is_even) (q_is_kept : Kn PySem.Challenge.pw_carryoffice_k83_whole_even_rows w K mg base 6 "is_kept" "is_kept" (top 28) ["shares", "value"] none f_is_kept) {x : Str} {f : Addr} {fd : FuncData} (hm : mg x = some (.ref f)) (F : Fun K "_law_value_right" "_law_value_right" (top 46) f fd) : Kn PySem.Challenge.pw_carryoffice_k83_whole_even_rows w K mg base 7 x "_law_value_right" (top 46) ["shares", "row"] none f__law_value_right :=
  kn_def F hm sc__law_value_right rfl fun cdv A outer s H E hr hgd => by
    have hx : ∀ σ : L2.St, PassesAt (L2.CX PySem.Challenge.pw_carryoffice_k83_whole_even_rows w) (cxOf (L2.CX PySem.Challenge.pw_carryoffice_k83_whole_even_rows w) PySem.Challenge.pw_carryoffice_k83_whole_even_rows w K mg base ["shares", "row", "shown", "due"] "_law_value_right" (defScope (top 46)) f cdv A outer s H E) σ (fun c d H => E c d H) := fun σ => passAt (takes_of rfl rfl rfl rfl) σ
    have tk : Takes (cxOf (L2.CX PySem.Challenge.pw_carryoffice_k83_whole_even_rows w) PySem.Challenge.pw_carryoffice_k83_whole_even_rows w K mg base ["shares", "row", "shown", "due"] "_law_value_right" (defScope (top 46)) f cdv A outer s H E) (fun c d _ H => E c d H) := takes_of rfl rfl rfl rfl
    exact (mss_cons (ms_par rfl sc__law_value_right.nd 2 3 (me_callB (cr_repr hgd (hr.units70)) cal_repr (by rfl) T.b_repr rfl (ma_t (me_var 1) ma_nil)) (me_call q__law_is_even (hr.mono (by decide)) hgd (by rfl) 2 rfl b__law_is_even_2 hx (ma_t (me_var 0) (ma_t (me_var 1) ma_nil)))) (mss_cons (ms_if ((mt_or (mt_cmp (op_neS hr.units64) bin_neS (me_callB (cr_repr hgd (hr.units70)) cal_repr (by rfl) T.b_repr rfl (ma_t (me_lst (ma_v (me_call q_is_even (hr.mono (by decide)) hgd (by rfl) 2 rfl b_is_even_2 hx (ma_t (me_var 0) (ma_t (me_var 1) ma_nil))) (ma_v (me_callK0 q_is_even (hr.mono (by decide)) hgd (by rfl) b_is_even_0_value_shares hx (fun rs h => match rs, h with | [_, _], _ => rfl) (mk_cons (me_callT call_tuple_of cal_tuple (by rfl) T.b_tuple rfl (ma_t (me_var 1) ma_nil)) (mk_cons (me_var 0) mk_nil))) ma_nil))) ma_nil)) (me_callB (cr_repr hgd (hr.units70)) cal_repr (by rfl) T.b_repr rfl (ma_t (me_lst (ma_v (me_var 3) (ma_v (me_var 3) ma_nil))) ma_nil))) (mt_or1 (mt_cmp (op_neS hr.units64) bin_neS (me_callB (cr_repr hgd (hr.units70)) cal_repr (by rfl) T.b_repr rfl (ma_t (me_var 1) ma_nil)) (me_var 2))))).pt (mss_one (ms_ret me_bl)) mss_nil) (mss_one (ms_ret (me_or (me_not (me_var 3)) (me_one (pe_cmp2 op_isA bin_isA (me_call q_is_kept (hr.mono (by decide)) hgd (by rfl) 2 rfl b_is_kept_2 hx (ma_t (me_var 0) (ma_t (me_var 1) ma_nil))) me_bl (by with_unfolding_all rfl))))))))
theorem kn__law_turns (T : Txt K mg)   {x : Str} {f : Addr} {fd : FuncData} (hm : mg x = some (.ref f)) (F : Fun K "_law_turns" "_law_turns" (top 43) f fd) : Kn PySem.Challenge.pw_carryoffice_k83_whole_even_rows w K mg base 1 x "_law_turns" (top 43) ["shares", "many"] none f__law_turns :=
  kn_def F hm sc__law_turns rfl fun cdv A outer s H E hr hgd => by
    have hx : ∀ σ : L2.St, PassesAt (L2.CX PySem.Challenge.pw_carryoffice_k83_whole_even_rows w) (cxOf (L2.CX PySem.Challenge.pw_carryoffice_k83_whole_even_rows w) PySem.Challenge.pw_carryoffice_k83_whole_even_rows w K mg base ["shares", "many", "counts", "found", "moment", "best", "position", "number", "under", "end"] "_law_turns" (defScope (top 43)) f cdv A outer s H E) σ (fun c d H => E c d H) := fun σ => passAt (takes_of rfl rfl rfl rfl) σ
    have tk : Takes (cxOf (L2.CX PySem.Challenge.pw_carryoffice_k83_whole_even_rows w) PySem.Challenge.pw_carryoffice_k83_whole_even_rows w K mg base ["shares", "many", "counts", "found", "moment", "best", "position", "number", "under", "end"] "_law_turns" (defScope (top 43)) f cdv A outer s H E) (fun c d _ H => E c d H) := takes_of rfl rfl rfl rfl
    exact (mss_cons (ms_parO rfl sc__law_turns.nd 2 3 (pe_bin op_mulA bin_mulA (me_lst (ma_v me_int ma_nil)) (me_callB call_len cal_len (by rfl) T.b_len rfl (ma_t (me_var 0) ma_nil))) (me_lst ma_nil)) (mss_cons (ms_forC (passes_of rfl) rfl (mi_rng1 (by rfl) T.b_range (ma_t (me_var 1) ma_nil)) (mg_name (fun _ _ => trivial) sc__law_turns.nd rfl (Or.inl rfl)) (mss_cons (ms_set sc__law_turns.nd rfl (Or.inl rfl) me_non) (mss_cons (ms_forC (passes_of rfl) rfl (mi_en (by rfl) T.b_enumerate (me_var 0)) (mg_tupS rfl (mg_cons rfl (fun _ _ _ _ _ => trivial) (mg_name (fun _ _ => trivial) sc__law_turns.nd rfl (Or.inl rfl)) (mg_cons rfl (fun _ _ _ _ _ => trivial) (mg_tupS rfl (mg_cons rfl (fun _ _ _ _ _ => trivial) (mg_name (fun _ _ => trivial) sc__law_turns.nd rfl (Or.inl rfl)) (mg_cons rfl (fun _ _ _ _ _ => trivial) (mg_name (fun _ _ => trivial) sc__law_turns.nd rfl (Or.inl rfl)) (mg_nil (fun _ => trivial))))) (mg_nil (fun _ => trivial))))) (mss_one (ms_if (mt_cmp op_lt bin_ltA (pe_bin op_mulA bin_mulA (me_ix (me_var 2) (me_var 6)) (me_var 8)) (pe_bin op_mulA bin_mulA (pe_bin op_addA bin_addA (me_var 4) me_int) (me_var 7))) (mss_cons (ms_set sc__law_turns.nd rfl (Or.inl rfl) (pe_bin op_sub bin_subA me_int (pe_bin op_fdivA bin_fdivA (pe_bin op_sub bin_subA me_int (pe_bin op_mulA bin_mulA (pe_bin op_addA bin_addA (me_ix (me_var 2) (me_var 6)) me_int) (me_var 8))) (me_var 7)))) (mss_one (ms_if ((mt_or (mt_cmp op_isA bin_isA (me_var 5) me_non) (mt_or1 (mt_cmp op_lt bin_ltA (me_var 9) (me_ix (me_var 5) me_int))))).pt (mss_one (ms_set sc__law_turns.nd rfl (Or.inl rfl) (me_tup (ma_v (me_var 9) (ma_v (me_var 6) ma_nil))))) mss_nil))) mss_nil))) (mss_cons (ms_setixS (pv 2) (me_ix (me_var 5) me_int) (pe_bin op_addA bin_addA (me_ix (me_var 2) (me_ix (me_var 5) me_int)) me_int)) (mss_one (ms_append (pv 3) (me_ix (me_var 5) me_int))))))) (mss_one (ms_ret (me_var 3)))))
theorem kn__law_bent (T : Txt K mg)  (q__law_draw : Kn PySem.Challenge.pw_carryoffice_k83_whole_even_rows w K mg base 1 "_law_draw" "_law_draw" (top 37) ["pot", "many"] (some 0) f__law_draw) {x : Str} {f : Addr} {fd : FuncData} (hm : mg x = some (.ref f)) (F : Fun K "_law_bent" "_law_bent" (top 47) f fd) : Kn PySem.Challenge.pw_carryoffice_k83_whole_even_rows w K mg base 2 x "_law_bent" (top 47) ["pot", "shares", "row"] (some 0) f__law_bent :=
  kn_def F hm sc__law_bent rfl fun cdv A outer s H E hr hgd => by
    have hx : ∀ σ : L2.St, PassesAt (L2.CX PySem.Challenge.pw_carryoffice_k83_whole_even_rows w) (cxOf (L2.CX PySem.Challenge.pw_carryoffice_k83_whole_even_rows w) PySem.Challenge.pw_carryoffice_k83_whole_even_rows w K mg base ["pot", "shares", "row", "at", "other", "found"] "_law_bent" (defScope (top 47)) f cdv A outer s H E) σ (fun c d H => E c d H) := fun σ => passAt (takes_of rfl rfl rfl rfl) σ
    have tk : Takes (cxOf (L2.CX PySem.Challenge.pw_carryoffice_k83_whole_even_rows w) PySem.Challenge.pw_carryoffice_k83_whole_even_rows w K mg base ["pot", "shares", "row", "at", "other", "found"] "_law_bent" (defScope (top 47)) f cdv A outer s H E) (fun c d _ H => E c d H) := takes_of rfl rfl rfl rfl
    exact (mss_cons (ms_par rfl sc__law_bent.nd 3 4 (me_call q__law_draw (hr.mono (by decide)) hgd (by rfl) 2 rfl b__law_draw_2 hx (ma_t (me_var 0) (ma_t (me_callB (call_max2 rfl) cal_max2 (by rfl) T.b_max rfl (ma_t me_int (ma_t (me_callB call_len cal_len (by rfl) T.b_len rfl (ma_t (me_var 2) ma_nil)) ma_nil))) ma_nil))) (me_call q__law_draw (hr.mono (by decide)) hgd (by rfl) 2 rfl b__law_draw_2 hx (ma_t (me_var 0) (ma_t (me_callB (call_max2 rfl) cal_max2 (by rfl) T.b_max rfl (ma_t me_int (ma_t (me_callB call_len cal_len (by rfl) T.b_len rfl (ma_t (me_var 2) ma_nil)) ma_nil))) ma_nil)))) (mss_cons (ms_if ((mt_or (mt_cmp (op_eqS hr.units64) bin_eqS (me_var 2) (me_lst ma_nil)) (mt_or1 (mt_cmp (op_eqS hr.units64) bin_eqS (me_call q__law_draw (hr.mono (by decide)) hgd (by rfl) 2 rfl b__law_draw_2 hx (ma_t (me_var 0) (ma_t me_int ma_nil))) me_int)))).pt (mss_one (ms_ret (pe_bin op_addA bin_addA (pe_bin op_addA bin_addA (me_sl (me_var 2) po_n (po_s (me_var 3))) (me_lst (ma_v (me_call q__law_draw (hr.mono (by decide)) hgd (by rfl) 2 rfl b__law_draw_2 hx (ma_t (me_var 0) (ma_t (me_callB call_len cal_len (by rfl) T.b_len rfl (ma_t (me_var 1) ma_nil)) ma_nil))) ma_nil))) (me_sl (me_var 2) (po_s (pe_bin op_addA bin_addA (me_var 3) me_int)) po_n)))) mss_nil) (mss_cons (ms_set sc__law_bent.nd rfl (Or.inl rfl) (me_callT call_list_of cal_list (by rfl) T.b_list rfl (ma_t (me_var 2) ma_nil))) (mss_cons (ms_asgG (me_tup (ma_v (me_ix (me_var 2) (me_var 4)) (ma_v (me_ix (me_var 2) (me_var 3)) ma_nil))) (mg_tupS rfl (mg_cons rfl (fun _ _ _ _ _ => trivial) (mg_ixS (fun _ => trivial) (pv 5) (me_var 3)) (mg_cons rfl (fun _ _ _ _ _ => trivial) (mg_ixS (fun _ => trivial) (pv 5) (me_var 4)) (mg_nil (fun _ => trivial)))))) (mss_one (ms_ret (me_var 5)))))))
theorem kn__law_pick (T : Txt K mg)  (q__law_draw : Kn PySem.Challenge.pw_carryoffice_k83_whole_even_rows w K mg base 1 "_law_draw" "_law_draw" (top 37) ["pot", "many"] (some 0) f__law_draw) {x : Str} {f : Addr} {fd : FuncData} (hm : mg x = some (.ref f)) (F : Fun K "_law_pick" "_law_pick" (top 38) f fd) : Kn PySem.Challenge.pw_carryoffice_k83_whole_even_rows w K mg base 2 x "_law_pick" (top 38) ["pot", "some"] (some 0) f__law_pick :=
  kn_def F hm sc__law_pick rfl fun cdv A outer s H E hr hgd => by
    have hx : ∀ σ : L2.St, PassesAt (L2.CX PySem.Challenge.pw_carryoffice_k83_whole_even_rows w) (cxOf (L2.CX PySem.Challenge.pw_carryoffice_k83_whole_even_rows w) PySem.Challenge.pw_carryoffice_k83_whole_even_rows w K mg base ["pot", "some"] "_law_pick" (defScope (top 38)) f cdv A outer s H E) σ (fun c d H => E c d H) := fun σ => passAt (takes_of rfl rfl rfl rfl) σ
    have tk : Takes (cxOf (L2.CX PySem.Challenge.pw_carryoffice_k83_whole_even_rows w) PySem.Challenge.pw_carryoffice_k83_whole_even_rows w K mg base ["pot", "some"] "_law_pick" (defScope (top 38)) f cdv A outer s H E) (fun c d _ H => E c d H) := takes_of rfl rfl rfl rfl
    exact (mss_one (ms_ret (me_ix (me_var 1) (me_call q__law_draw (hr.mono (by decide)) hgd (by rfl) 2 rfl b__law_draw_2 hx (ma_t (me_var 0) (ma_t (me_callB call_len cal_len (by rfl) T.b_len rfl (ma_t (me_var 1) ma_nil)) ma_nil))))))
theorem kn__law_right (T : Txt K mg)  (q__law_shares : Kn PySem.Challenge.pw_carryoffice_k83_whole_even_rows w K mg base 2 "_law_shares" "_law_shares" (top 40) ["pot", "most"] (some 0) f__law_shares) (q__law_draw : Kn PySem.Challenge.pw_carryoffice_k83_whole_even_rows w K mg base 1 "_law_draw" "_law_draw" (top 37) ["pot", "many"] (some 0) f__law_draw) (q__law_even : Kn PySem.Challenge.pw_carryoffice_k83_whole_even_rows w K mg base 1 "_law_even" "_law_even" (top 44) ["shares", "many"] none f__law_even) (q_even_row : Kn PySem.Challenge.pw_carryoffice_k83_whole_even_rows w K mg base 6 "even_row" "even_row" (top 33) ["shares", "many"] none f_even_row) (q__law_is_even : Kn PySem.Challenge.pw_carryoffice_k83_whole_even_rows w K mg base 2 "_law_is_even" "_law_is_even" (top 45) ["shares", "row"] none f__law_is_even) (q__law_break : Kn PySem.Challenge.pw_carryoffice_k83_whole_even_rows w K mg base 2 "_law_break" "_law_break" (top 42) ["shares", "row"] none f__law_break) (q__law_value_right : Kn PySem.Challenge.pw_carryoffice_k83_whole_even_rows w K mg base 7 "_law_value_right" "_law_value_right" (top 46) ["shares", "row"] none f__law_value_right) (q__law_turns : Kn PySem.Challenge.pw_carryoffice_k83_whole_even_rows w K mg base 1 "_law_turns" "_law_turns" (top 43) ["shares", "many"] none f__law_turns) (q__law_bent : Kn PySem.Challenge.pw_carryoffice_k83_whole_even_rows w K mg base 2 "_law_bent" "_law_bent" (top 47) ["pot", "shares", "row"] (some 0) f__law_bent) (q__law_pick : Kn PySem.Challenge.pw_carryoffice_k83_whole_even_rows w K mg base 2 "_law_pick" "_law_pick" (top 38) ["pot", "some"] (some 0) f__law_pick) (q_is_even : Kn PySem.Challenge.pw_carryoffice_k83_whole_even_rows w K mg base 6 "is_even" "is_even" (top 34) ["shares", "value"] none f_is_even) {x : Str} {f : Addr} {fd : FuncData} (hm : mg x = some (.ref f)) (F : Fun K "_law_right" "_law_right" (top 48) f fd) : Kn PySem.Challenge.pw_carryoffice_k83_whole_even_rows w K mg base 8 x "_law_right" (top 48) ["pot"] (some 0) f__law_right :=
  kn_def F hm sc__law_right rfl fun cdv A outer s H E hr hgd => by
    have hx : ∀ σ : L2.St, PassesAt (L2.CX PySem.Challenge.pw_carryoffice_k83_whole_even_rows w) (cxOf (L2.CX PySem.Challenge.pw_carryoffice_k83_whole_even_rows w) PySem.Challenge.pw_carryoffice_k83_whole_even_rows w K mg base ["pot", "shares", "many", "due", "told", "row", "turn", "odds", "odd", "half", "both"] "_law_right" (defScope (top 48)) f cdv A outer s H E) σ (fun c d H => E c d H) := fun σ => passAt (takes_of rfl rfl rfl rfl) σ
    have tk : Takes (cxOf (L2.CX PySem.Challenge.pw_carryoffice_k83_whole_even_rows w) PySem.Challenge.pw_carryoffice_k83_whole_even_rows w K mg base ["pot", "shares", "many", "due", "told", "row", "turn", "odds", "odd", "half", "both"] "_law_right" (defScope (top 48)) f cdv A outer s H E) (fun c d _ H => E c d H) := takes_of rfl rfl rfl rfl
    exact (mss_cons (ms_set sc__law_right.nd rfl (Or.inl rfl) (me_call q__law_shares (hr.mono (by decide)) hgd (by rfl) 2 rfl b__law_shares_2 hx (ma_t (me_var 0) (ma_t (me_if (mt_cmp (op_eqS hr.units64) bin_eqS (me_call q__law_draw (hr.mono (by decide)) hgd (by rfl) 2 rfl b__law_draw_2 hx (ma_t (me_var 0) (ma_t me_int ma_nil))) me_int) me_int me_int) ma_nil)))) (mss_cons (ms_set sc__law_right.nd rfl (Or.inl rfl) (me_if (mt_cmp (op_eqS hr.units64) bin_eqS (me_call q__law_draw (hr.mono (by decide)) hgd (by rfl) 2 rfl b__law_draw_2 hx (ma_t (me_var 0) (ma_t me_int ma_nil))) me_int) me_int (me_call q__law_draw (hr.mono (by decide)) hgd (by rfl) 2 rfl b__law_draw_2 hx (ma_t (me_var 0) (ma_t me_int ma_nil))))) (mss_cons (ms_set sc__law_right.nd rfl (Or.inl rfl) (me_call q__law_even (hr.mono (by decide)) hgd (by rfl) 2 rfl b__law_even_2 hx (ma_t (me_var 1) (ma_t (me_var 2) ma_nil)))) (mss_cons (ms_set sc__law_right.nd rfl (Or.inl rfl) (me_call q_even_row (hr.mono (by decide)) hgd (by rfl) 2 rfl b_even_row_2 hx (ma_t (me_var 1) (ma_t (me_var 2) ma_nil)))) (mss_cons (ms_if ((mt_or (mt_cmp (op_neS hr.units64) bin_neS (me_callB (cr_repr hgd (hr.units70)) cal_repr (by rfl) T.b_repr rfl (ma_t (me_var 4) ma_nil)) (me_callB (cr_repr hgd (hr.units70)) cal_repr (by rfl) T.b_repr rfl (ma_t (me_var 3) ma_nil))) (mt_or (mt_not (mt_val (me_call q__law_is_even (hr.mono (by decide)) hgd (by rfl) 2 rfl b__law_is_even_2 hx (ma_t (me_var 1) (ma_t (me_var 3) ma_nil))))) (mt_or1 (mt_cmp op_isntA bin_isntA (me_call q__law_break (hr.mono (by decide)) hgd (by rfl) 2 rfl b__law_break_2 hx (ma_t (me_var 1) (ma_t (me_var 3) ma_nil))) me_non))))).pt (mss_one (ms_ret me_bl)) mss_nil) (mss_cons (ms_append (pv 4) me_non) (mss_cons (ms_if ((mt_or (mt_cmp (op_neS hr.units64) bin_neS (me_callB (cr_repr hgd (hr.units70)) cal_repr (by rfl) T.b_repr rfl (ma_t (me_callK0 q_even_row (hr.mono (by decide)) hgd (by rfl) b_even_row_0_many_shares hx (fun rs h => match rs, h with | [_, _], _ => rfl) (mk_cons (me_var 2) (mk_cons (me_var 1) mk_nil))) ma_nil)) (me_callB (cr_repr hgd (hr.units70)) cal_repr (by rfl) T.b_repr rfl (ma_t (me_var 3) ma_nil))) (mt_or1 (mt_not (mt_val (me_call q__law_value_right (hr.mono (by decide)) hgd (by rfl) 2 rfl b__law_value_right_2 hx (ma_t (me_var 1) (ma_t (me_var 3) ma_nil)))))))).pt (mss_one (ms_ret me_bl)) mss_nil) (mss_cons (ms_forC (passes_of rfl) rfl (mi_data (me_lst (ma_v (me_call q__law_turns (hr.mono (by decide)) hgd (by rfl) 2 rfl b__law_turns_2 hx (ma_t (me_var 1) (ma_t (me_var 2) ma_nil))) (ma_v (me_sl (me_var 3) po_n (po_s (me_call q__law_draw (hr.mono (by decide)) hgd (by rfl) 2 rfl b__law_draw_2 hx (ma_t (me_var 0) (ma_t (pe_bin op_addA bin_addA (me_var 2) me_int) ma_nil))))) ma_nil)))) (mg_name (fun _ _ => trivial) sc__law_right.nd rfl (Or.inl rfl)) (mss_one (ms_if (mt_not (mt_val (me_call q__law_value_right (hr.mono (by decide)) hgd (by rfl) 2 rfl b__law_value_right_2 hx (ma_t (me_var 1) (ma_t (me_var 5) ma_nil))))) (mss_one (ms_ret me_bl)) mss_nil))) (mss_cons (ms_forC (passes_of rfl) rfl (mi_rng1 (by rfl) T.b_range (ma_t me_int ma_nil)) (mg_name (fun _ _ => trivial) sc__law_right.nd rfl (Or.inl rfl)) (mss_one (ms_if (mt_not (mt_val (me_call q__law_value_right (hr.mono (by decide)) hgd (by rfl) 2 rfl b__law_value_right_2 hx (ma_t (me_var 1) (ma_t (me_call q__law_bent (hr.mono (by decide)) hgd (by rfl) 3 rfl b__law_bent_3 hx (ma_t (me_var 0) (ma_t (me_var 1) (ma_t (me_var 3) ma_nil)))) ma_nil))))) (mss_one (ms_ret me_bl)) mss_nil))) (mss_cons (ms_set sc__law_right.nd rfl (Or.inl rfl) (me_lst (ma_v me_non (ma_v me_int (ma_v me_bl (ma_v me_str (ma_v me_dct0 (ma_v (me_lst (ma_v me_non ma_nil)) (ma_v (me_lst (ma_v me_bl ma_nil)) (ma_v (me_lst (ma_v (me_callB call_len cal_len (by rfl) T.b_len rfl (ma_t (me_var 1) ma_nil)) ma_nil)) (ma_v (me_lst (ma_v (me_neg me_int) ma_nil)) (ma_v (pe_bin op_addA bin_addA (me_sl (me_var 3) po_n (po_s me_int)) (me_lst (ma_v (me_tup (ma_v me_int ma_nil)) ma_nil))) (ma_v (pe_bin op_addA bin_addA (me_sl (me_var 3) po_n (po_s me_int)) (me_lst (ma_v me_str ma_nil))) ma_nil))))))))))))) (mss_cons (ms_set sc__law_right.nd rfl (Or.inl rfl) (me_call q__law_pick (hr.mono (by decide)) hgd (by rfl) 2 rfl b__law_pick_2 hx (ma_t (me_var 0) (ma_t (me_var 7) ma_nil)))) (mss_cons (ms_parO rfl sc__law_right.nd 9 10 (me_tup (ma_v (me_tup (ma_v me_int (ma_v me_int ma_nil))) (ma_v (me_tup (ma_v me_int (ma_v me_int ma_nil))) ma_nil))) (me_lst (ma_v me_int (ma_v me_int (ma_v me_int (ma_v me_int (ma_v me_int (ma_v me_int ma_nil)))))))) (mss_cons (ms_set sc__law_right.nd rfl (Or.inl rfl) (me_lst (ma_v (me_call q_is_even (hr.mono (by decide)) hgd (by rfl) 2 rfl b_is_even_2 hx (ma_t (me_var 1) (ma_t (me_var 8) ma_nil))) (ma_v (me_call q_is_even (hr.mono (by decide)) hgd (by rfl) 2 rfl b_is_even_2 hx (ma_t (me_var 9) (ma_t (me_var 10) ma_nil))) (ma_v (me_call q_is_even (hr.mono (by decide)) hgd (by rfl) 2 rfl b_is_even_2 hx (ma_t (me_var 9) (ma_t (me_lst (ma_v me_int (ma_v me_int ma_nil))) ma_nil))) (ma_v (me_call q_is_even (hr.mono (by decide)) hgd (by rfl) 2 rfl b_is_even_2 hx (ma_t (me_tup (ma_v (me_tup (ma_v me_int (ma_v me_int ma_nil))) ma_nil)) (ma_t (pe_bin op_mulA bin_mulA (me_lst (ma_v me_int ma_nil)) (me_var 2)) ma_nil))) ma_nil)))))) (mss_one (ms_ret (pe_cmp2 (op_eqS hr.units64) bin_eqS (me_callB (cr_repr hgd (hr.units70)) cal_repr (by rfl) T.b_repr rfl (ma_t (me_var 4) ma_nil)) (me_callB (cr_repr hgd (hr.units70)) cal_repr (by rfl) T.b_repr rfl (ma_t (me_lst (ma_v me_bl (ma_v me_bl (ma_v me_bl (ma_v me_bl ma_nil))))) ma_nil)) (by with_unfolding_all rfl)))))))))))))))))
theorem kn__law_pot (T : Txt K mg)   {x : Str} {f : Addr} {fd : FuncData} (hm : mg x = some (.ref f)) (F : Fun K "_law_pot" "_law_pot" (top 36) f fd) : Kn PySem.Challenge.pw_carryoffice_k83_whole_even_rows w K mg base 1 x "_law_pot" (top 36) ["script", "k"] none f__law_pot :=
  kn_def F hm sc__law_pot rfl fun cdv A outer s H E hr hgd => by
    have hx : ∀ σ : L2.St, PassesAt (L2.CX PySem.Challenge.pw_carryoffice_k83_whole_even_rows w) (cxOf (L2.CX PySem.Challenge.pw_carryoffice_k83_whole_even_rows w) PySem.Challenge.pw_carryoffice_k83_whole_even_rows w K mg base ["script", "k", "cell"] "_law_pot" (defScope (top 36)) f cdv A outer s H E) σ (fun c d H => E c d H) := fun σ => passAt (takes_of rfl rfl rfl rfl) σ
    have tk : Takes (cxOf (L2.CX PySem.Challenge.pw_carryoffice_k83_whole_even_rows w) PySem.Challenge.pw_carryoffice_k83_whole_even_rows w K mg base ["script", "k", "cell"] "_law_pot" (defScope (top 36)) f cdv A outer s H E) (fun c d _ H => E c d H) := takes_of rfl rfl rfl rfl
    exact (mss_cons (ms_set sc__law_pot.nd rfl (Or.inl rfl) (me_if (mt_cmp op_lt bin_ltA (me_var 1) (me_callB call_len cal_len (by rfl) T.b_len rfl (ma_t (me_var 0) ma_nil))) (me_callB call_abs cal_abs (by rfl) T.b_abs rfl (ma_t (me_ix (me_var 0) (me_var 1)) ma_nil)) (pe_bin op_addA bin_addA (pe_bin op_addA bin_addA (pe_bin op_mulA bin_mulA me_int (me_var 1)) me_int) (pe_bin op_modN bin_modA (me_callB call_abs cal_abs (by rfl) T.b_abs rfl (ma_t (me_callB (cr_sum rfl) cal_sum (by rfl) T.b_sum rfl (ma_t (me_sl (me_var 0) po_n (po_s me_int)) ma_nil)) ma_nil)) me_int)))) (mss_one (ms_ret (me_lst (ma_v (me_callB (call_max2 rfl) cal_max2 (by rfl) T.b_max rfl (ma_t me_int (ma_t (pe_bin op_sub bin_subA (me_var 2) (pe_bin op_powA bin_powA me_int me_int)) ma_nil))) (ma_v (pe_bin op_addA bin_addA (pe_bin op_modN bin_modA (me_callT cr_int cal_int (by rfl) T.b_int rfl (ma_t (pe_bin op_addA bin_addA (pe_bin op_addA bin_addA (pe_bin op_mulA bin_mulA (pe_bin op_modN bin_modA (me_callT cr_int cal_int (by rfl) T.b_int rfl (ma_t (me_var 2) ma_nil)) me_int) me_int) (pe_bin op_mulA bin_mulA me_int (me_var 1))) me_int) ma_nil)) me_int) me_int) ma_nil))))))
theorem kn_law (T : Txt K mg)  (q__law_right : Kn PySem.Challenge.pw_carryoffice_k83_whole_even_rows w K mg base 8 "_law_right" "_law_right" (top 48) ["pot"] (some 0) f__law_right) (q__law_pot : Kn PySem.Challenge.pw_carryoffice_k83_whole_even_rows w K mg base 1 "_law_pot" "_law_pot" (top 36) ["script", "k"] none f__law_pot) {x : Str} {f : Addr} {fd : FuncData} (hm : mg x = some (.ref f)) (F : Fun K "law" "law" (top 49) f fd) : Kn PySem.Challenge.pw_carryoffice_k83_whole_even_rows w K mg base 9 x "law" (top 49) ["script"] none f_law :=
  kn_def F hm sc_law rfl fun cdv A outer s H E hr hgd => by
    have hx : ∀ σ : L2.St, PassesAt (L2.CX PySem.Challenge.pw_carryoffice_k83_whole_even_rows w) (cxOf (L2.CX PySem.Challenge.pw_carryoffice_k83_whole_even_rows w) PySem.Challenge.pw_carryoffice_k83_whole_even_rows w K mg base ["script"] "law" (defScope (top 49)) f cdv A outer s H E) σ (fun c d H => E c d H) := fun σ => passAt (takes_of rfl rfl rfl rfl) σ
    have tk : Takes (cxOf (L2.CX PySem.Challenge.pw_carryoffice_k83_whole_even_rows w) PySem.Challenge.pw_carryoffice_k83_whole_even_rows w K mg base ["script"] "law" (defScope (top 49)) f cdv A outer s H E) (fun c d _ H => E c d H) := takes_of rfl rfl rfl rfl
    exact (mss_one (ms_ret (me_callFT q__law_right (hr.mono (by decide)) hgd (by rfl) rfl b__law_right_1 hx (me_call q__law_pot (hr.mono (by decide)) hgd (by rfl) 2 rfl b__law_pot_2 hx (ma_t (me_var 0) (ma_t me_int ma_nil))))))
end
theorem all {w : World} {K : PySem.W.Frag} {mg : Str → Option Value} {fa : Addr} (hfa : mg "law" = some (.ref fa)) (T : Txt K mg)
    (d__law_draw : ∃ (f : Addr) (fd : FuncData), mg "_law_draw" = some (.ref f) ∧ Fun K "_law_draw" "_law_draw" (top 37) f fd)
    (d__law_low : ∃ (f : Addr) (fd : FuncData), mg "_law_low" = some (.ref f) ∧ Fun K "_law_low" "_law_low" (top 39) f fd)
    (d_is_row_basics : ∃ (f : Addr) (fd : FuncData), mg "is_row_basics" = some (.ref f) ∧ Fun K "is_row" "is_row" (top 9) f fd)
    (d_is_integer : ∃ (f : Addr) (fd : FuncData), mg "is_integer" = some (.ref f) ∧ Fun K "is_integer" "is_integer" (top 6) f fd)
    (d_is_ratio : ∃ (f : Addr) (fd : FuncData), mg "is_ratio" = some (.ref f) ∧ Fun K "is_ratio" "is_ratio" (top 13) f fd)
    (d_common_part : ∃ (f : Addr) (fd : FuncData), mg "common_part" = some (.ref f) ∧ Fun K "common_part" "common_part" (top 17) f fd)
    (d_are_ratios_above : ∃ (f : Addr) (fd : FuncData), mg "are_ratios_above" = some (.ref f) ∧ Fun K "are_ratios_above" "are_ratios_above" (top 21) f fd)
    (d_common_under : ∃ (f : Addr) (fd : FuncData), mg "common_under" = some (.ref f) ∧ Fun K "common_under" "common_under" (top 18) f fd)
    (d_total_over : ∃ (f : Addr) (fd : FuncData), mg "total_over" = some (.ref f) ∧ Fun K "total_over" "total_over" (top 19) f fd)
    (d_is_shares : ∃ (f : Addr) (fd : FuncData), mg "is_shares" = some (.ref f) ∧ Fun K "is_shares" "is_shares" (top 22) f fd)
    (d_is_count : ∃ (f : Addr) (fd : FuncData), mg "is_count" = some (.ref f) ∧ Fun K "is_count" "is_count" (top 7) f fd)
    (d_even_begin : ∃ (f : Addr) (fd : FuncData), mg "even_begin" = some (.ref f) ∧ Fun K "even_begin" "even_begin" (top 30) f fd)
    (d_even_end : ∃ (f : Addr) (fd : FuncData), mg "even_end" = some (.ref f) ∧ Fun K "even_end" "even_end" (top 31) f fd)
    (d_want_shares : ∃ (f : Addr) (fd : FuncData), mg "want_shares" = some (.ref f) ∧ Fun K "want_shares" "want_shares" (top 23) f fd)
    (d_want_many : ∃ (f : Addr) (fd : FuncData), mg "want_many" = some (.ref f) ∧ Fun K "want_many" "want_many" (top 20) f fd)
    (d_next_even : ∃ (f : Addr) (fd : FuncData), mg "next_even" = some (.ref f) ∧ Fun K "next_even" "next_even" (top 32) f fd)
    (d__law_lags : ∃ (f : Addr) (fd : FuncData), mg "_law_lags" = some (.ref f) ∧ Fun K "_law_lags" "_law_lags" (top 41) f fd)
    (d_is_list : ∃ (f : Addr) (fd : FuncData), mg "is_list" = some (.ref f) ∧ Fun K "is_list" "is_list" (top 8) f fd)
    (d_is_row_turns : ∃ (f : Addr) (fd : FuncData), mg "is_row_turns" = some (.ref f) ∧ Fun K "is_row" "is_row" (top 24) f fd)
    (d_lags_behind : ∃ (f : Addr) (fd : FuncData), mg "lags_behind" = some (.ref f) ∧ Fun K "lags_behind" "lags_behind" (top 26) f fd)
    (d_break_of : ∃ (f : Addr) (fd : FuncData), mg "break_of" = some (.ref f) ∧ Fun K "break_of" "break_of" (top 27) f fd)
    (d__law_is_even : ∃ (f : Addr) (fd : FuncData), mg "_law_is_even" = some (.ref f) ∧ Fun K "_law_is_even" "_law_is_even" (top 45) f fd)
    (d_is_even : ∃ (f : Addr) (fd : FuncData), mg "is_even" = some (.ref f) ∧ Fun K "is_even" "is_even" (top 34) f fd)
    (d_is_kept : ∃ (f : Addr) (fd : FuncData), mg "is_kept" = some (.ref f) ∧ Fun K "is_kept" "is_kept" (top 28) f fd)
    (d__law_shares : ∃ (f : Addr) (fd : FuncData), mg "_law_shares" = some (.ref f) ∧ Fun K "_law_shares" "_law_shares" (top 40) f fd)
    (d__law_even : ∃ (f : Addr) (fd : FuncData), mg "_law_even" = some (.ref f) ∧ Fun K "_law_even" "_law_even" (top 44) f fd)
    (d_even_row : ∃ (f : Addr) (fd : FuncData), mg "even_row" = some (.ref f) ∧ Fun K "even_row" "even_row" (top 33) f fd)
    (d__law_break : ∃ (f : Addr) (fd : FuncData), mg "_law_break" = some (.ref f) ∧ Fun K "_law_break" "_law_break" (top 42) f fd)
    (d__law_value_right : ∃ (f : Addr) (fd : FuncData), mg "_law_value_right" = some (.ref f) ∧ Fun K "_law_value_right" "_law_value_right" (top 46) f fd)
    (d__law_turns : ∃ (f : Addr) (fd : FuncData), mg "_law_turns" = some (.ref f) ∧ Fun K "_law_turns" "_law_turns" (top 43) f fd)
    (d__law_bent : ∃ (f : Addr) (fd : FuncData), mg "_law_bent" = some (.ref f) ∧ Fun K "_law_bent" "_law_bent" (top 47) f fd)
    (d__law_pick : ∃ (f : Addr) (fd : FuncData), mg "_law_pick" = some (.ref f) ∧ Fun K "_law_pick" "_law_pick" (top 38) f fd)
    (d__law_right : ∃ (f : Addr) (fd : FuncData), mg "_law_right" = some (.ref f) ∧ Fun K "_law_right" "_law_right" (top 48) f fd)
    (d__law_pot : ∃ (f : Addr) (fd : FuncData), mg "_law_pot" = some (.ref f) ∧ Fun K "_law_pot" "_law_pot" (top 36) f fd)
    (d_law : ∃ (f : Addr) (fd : FuncData), mg "law" = some (.ref f) ∧ Fun K "law" "law" (top 49) f fd)
    : ∃ fd : FuncData, (∀ (s : Shared) (u : Value), BindsTo s fd ⟨[u], []⟩ [("script", u)]) ∧ ∀ base : Heap, K.In base → base.Ns mainGlobals mg → FnG PySem.Challenge.pw_carryoffice_k83_whole_even_rows w K mg base (L2.CX PySem.Challenge.pw_carryoffice_k83_whole_even_rows w) 9 fa fd ["script"] (spF K mg 1 none f_law) := by
  obtain ⟨a__law_draw, fd__law_draw, h__law_draw, F__law_draw⟩ := d__law_draw
  obtain ⟨a__law_low, fd__law_low, h__law_low, F__law_low⟩ := d__law_low
  obtain ⟨a_is_row_basics, fd_is_row_basics, h_is_row_basics, F_is_row_basics⟩ := d_is_row_basics
  obtain ⟨a_is_integer, fd_is_integer, h_is_integer, F_is_integer⟩ := d_is_integer
  obtain ⟨a_is_ratio, fd_is_ratio, h_is_ratio, F_is_ratio⟩ := d_is_ratio
  obtain ⟨a_common_part, fd_common_part, h_common_part, F_common_part⟩ := d_common_part
  obtain ⟨a_are_ratios_above, fd_are_ratios_above, h_are_ratios_above, F_are_ratios_above⟩ := d_are_ratios_above
  obtain ⟨a_common_under, fd_common_under, h_common_under, F_common_under⟩ := d_common_under
  obtain ⟨a_total_over, fd_total_over, h_total_over, F_total_over⟩ := d_total_over
  obtain ⟨a_is_shares, fd_is_shares, h_is_shares, F_is_shares⟩ := d_is_shares
  obtain ⟨a_is_count, fd_is_count, h_is_count, F_is_count⟩ := d_is_count
  obtain ⟨a_even_begin, fd_even_begin, h_even_begin, F_even_begin⟩ := d_even_begin
  obtain ⟨a_even_end, fd_even_end, h_even_end, F_even_end⟩ := d_even_end
  obtain ⟨a_want_shares, fd_want_shares, h_want_shares, F_want_shares⟩ := d_want_shares
  obtain ⟨a_want_many, fd_want_many, h_want_many, F_want_many⟩ := d_want_many
  obtain ⟨a_next_even, fd_next_even, h_next_even, F_next_even⟩ := d_next_even
  obtain ⟨a__law_lags, fd__law_lags, h__law_lags, F__law_lags⟩ := d__law_lags
  obtain ⟨a_is_list, fd_is_list, h_is_list, F_is_list⟩ := d_is_list
  obtain ⟨a_is_row_turns, fd_is_row_turns, h_is_row_turns, F_is_row_turns⟩ := d_is_row_turns
  obtain ⟨a_lags_behind, fd_lags_behind, h_lags_behind, F_lags_behind⟩ := d_lags_behind
  obtain ⟨a_break_of, fd_break_of, h_break_of, F_break_of⟩ := d_break_of
  obtain ⟨a__law_is_even, fd__law_is_even, h__law_is_even, F__law_is_even⟩ := d__law_is_even
  obtain ⟨a_is_even, fd_is_even, h_is_even, F_is_even⟩ := d_is_even
  obtain ⟨a_is_kept, fd_is_kept, h_is_kept, F_is_kept⟩ := d_is_kept
  obtain ⟨a__law_shares, fd__law_shares, h__law_shares, F__law_shares⟩ := d__law_shares
  obtain ⟨a__law_even, fd__law_even, h__law_even, F__law_even⟩ := d__law_even
  obtain ⟨a_even_row, fd_even_row, h_even_row, F_even_row⟩ := d_even_row
  obtain ⟨a__law_break, fd__law_break, h__law_break, F__law_break⟩ := d__law_break
  obtain ⟨a__law_value_right, fd__law_value_right, h__law_value_right, F__law_value_right⟩ := d__law_value_right
  obtain ⟨a__law_turns, fd__law_turns, h__law_turns, F__law_turns⟩ := d__law_turns
  obtain ⟨a__law_bent, fd__law_bent, h__law_bent, F__law_bent⟩ := d__law_bent
  obtain ⟨a__law_pick, fd__law_pick, h__law_pick, F__law_pick⟩ := d__law_pick
  obtain ⟨a__law_right, fd__law_right, h__law_right, F__law_right⟩ := d__law_right
  obtain ⟨a__law_pot, fd__law_pot, h__law_pot, F__law_pot⟩ := d__law_pot
  obtain ⟨a_law, fd_law, h_law, F_law⟩ := d_law
  have e := hfa.symm.trans h_law
  cases e
  refine ⟨fd_law, fun s u => ?_, fun base _ _ => ?_⟩
  · obtain ⟨_, _, _, _, _, _, _, _, _, rfl, _, _⟩ := F_law.ex
    exact .of_eq rfl
  · skip
    have k__law_draw := kn__law_draw (base := base) (w := w) T  h__law_draw F__law_draw
    have k__law_low := kn__law_low (base := base) (w := w) T  h__law_low F__law_low
    have k__law_shares := kn__law_shares (base := base) (w := w) T k__law_draw k__law_low h__law_shares F__law_shares
    have k__law_even := kn__law_even (base := base) (w := w) T  h__law_even F__law_even
    have k_is_row_basics := kn_is_row_9 (base := base) (w := w) T  h_is_row_basics F_is_row_basics
    have k_is_integer := kn_is_integer (base := base) (w := w) T  h_is_integer F_is_integer
    have k_is_ratio := kn_is_ratio (base := base) (w := w) T k_is_row_basics k_is_integer h_is_ratio F_is_ratio
    have k_are_ratios_above := kn_are_ratios_above (base := base) (w := w) T k_is_ratio h_are_ratios_above F_are_ratios_above
    have k_common_part := kn_common_part (base := base) (w := w) T  h_common_part F_common_part
    have k_common_under := kn_common_under (base := base) (w := w) T k_common_part h_common_under F_common_under
    have k_total_over := kn_total_over (base := base) (w := w) T  h_total_over F_total_over
    have k_is_shares := kn_is_shares (base := base) (w := w) T k_are_ratios_above k_common_under k_total_over h_is_shares F_is_shares
    have k_want_shares := kn_want_shares (base := base) (w := w) T k_is_shares h_want_shares F_want_shares
    have k_is_count := kn_is_count (base := base) (w := w) T k_is_integer h_is_count F_is_count
    have k_want_many := kn_want_many (base := base) (w := w) T k_is_count h_want_many F_want_many
    have k_even_begin := kn_even_begin (base := base) (w := w) T  h_even_begin F_even_begin
    have k_even_end := kn_even_end (base := base) (w := w) T  h_even_end F_even_end
    have k_next_even := kn_next_even (base := base) (w := w) T k_even_begin k_even_end h_next_even F_next_even
    have k_even_row := kn_even_row (base := base) (w := w) T k_want_shares k_want_many k_next_even h_even_row F_even_row
    have k__law_lags := kn__law_lags (base := base) (w := w) T  h__law_lags F__law_lags
    have k__law_is_even := kn__law_is_even (base := base) (w := w) T k__law_lags h__law_is_even F__law_is_even
    have k__law_break := kn__law_break (base := base) (w := w) T k__law_lags h__law_break F__law_break
    have k_is_list := kn_is_list (base := base) (w := w) T  h_is_list F_is_list
    have k_is_row_turns := kn_is_row_24 (base := base) (w := w) T k_is_list k_is_count h_is_row_turns F_is_row_turns
    have k_lags_behind := kn_lags_behind (base := base) (w := w) T  h_lags_behind F_lags_behind
    have k_is_even := kn_is_even (base := base) (w := w) T k_want_shares k_is_row_turns k_lags_behind h_is_even F_is_even
    have k_break_of := kn_break_of (base := base) (w := w) T k_lags_behind h_break_of F_break_of
    have k_is_kept := kn_is_kept (base := base) (w := w) T k_want_shares k_is_row_turns k_break_of h_is_kept F_is_kept
    have k__law_value_right := kn__law_value_right (base := base) (w := w) T k__law_is_even k_is_even k_is_kept h__law_value_right F__law_value_right
    have k__law_turns := kn__law_turns (base := base) (w := w) T  h__law_turns F__law_turns
    have k__law_bent := kn__law_bent (base := base) (w := w) T k__law_draw h__law_bent F__law_bent
    have k__law_pick := kn__law_pick (base := base) (w := w) T k__law_draw h__law_pick F__law_pick
    have k__law_right := kn__law_right (base := base) (w := w) T k__law_shares k__law_draw k__law_even k_even_row k__law_is_even k__law_break k__law_value_right k__law_turns k__law_bent k__law_pick k_is_even h__law_right F__law_right
    have k__law_pot := kn__law_pot (base := base) (w := w) T  h__law_pot F__law_pot
    have k_law := kn_law (base := base) (w := w) T k__law_right k__law_pot h_law F_law
    exact kn_of k_law h_law F_law
end K83

namespace K83
open PySem L2 Evl PySem.Spec Mi
def PotOk (d : D) : Prop := ∃ a b : Int, 0 ≤ a ∧ 0 ≤ b ∧ b < 4294967296 ∧ d = .list [.int a, .int b]
theorem lg_of {n k : Nat} (h : n < 2 ^ k) (hk : 0 < k) : n.log2 < k := by
  rcases Nat.eq_zero_or_pos n with z | z
  · subst z; exact hk
  · exact (Nat.log2_lt (Nat.pos_iff_ne_zero.mp z)).mpr h
theorem mulOk_of {i j : Int} {a b : Nat} (hi : i.natAbs < 2 ^ a) (hj : j.natAbs < 2 ^ b) (ha : 0 < a) (hb : 0 < b) (h : a + b < 1000000) : mulOk i j = true := by
  have h1 := lg_of hi ha
  have h2 := lg_of hj hb
  exact decide_eq_true (by omega)
theorem divOk_of {j : Int} {k : Nat} (h0 : j ≠ 0) (hj : j.natAbs < 2 ^ k) (h : 0 < k ∧ k ≤ 9000) : divOk j = true := by
  have := lg_of hj h.1
  exact decide_eq_true ⟨h0, by omega⟩
theorem fmod_eq {a b : Int} (h : 0 < b) : a.fmod b = a % b := Int.fmod_eq_emod_of_nonneg _ (Int.le_of_lt h)
theorem fdiv_eq {a b : Int} (h : 0 < b) : a.fdiv b = a / b := Int.fdiv_eq_ediv_of_nonneg _ (Int.le_of_lt h)
theorem ev_draw {p : D} (h : PotOk p) {n : Int} (hn : 0 < n) (hb : n.natAbs < 2 ^ 9000) : ∃ r p', 0 ≤ r ∧ r < n ∧ PotOk p' ∧ f__law_draw [p, .int n] = some (.ok (.val (.int r)), p') := by
  obtain ⟨a, b, ha, h0, h1, rfl⟩ := h
  have hl : n.natAbs.log2 < 9000 := lg_of hb (by decide)
  by_cases c : 0 < a
  · refine ⟨a % n, .list [.int (a / n), .int b], Int.emod_nonneg _ (by omega), Int.emod_lt_of_pos _ hn, ⟨a / n, b, Int.ediv_nonneg ha (by omega), h0, h1, rfl⟩, ?_⟩
    simp [f__law_draw, m__law_draw, c, hn, hl, mkFn, isListAt, slots, slot0, mSeq, mAsg, mRet, mIfS, mDrop, mB, bnd, Mi.ret, thaw, thawR, mVal, valR, mVar, mC, mBin, mUn, op1, op2, look, opN, lookAll, mCall, aT, aV, aNil, mStore, okSet, isT, asB, mTup, mLst, valsOf, mNx, outIo, retR, Md.isOwn, Md.isIo, Md.isLk, fI, mIf, mAnd, mOr, mNot, mAndV, mOrV, mChain, mPar, mPar3, mF, mFk, callF, callIo, putIo, freezeBy, flatD, flatAll, flatY, mayGive, notSlot, gath, mAsgG, gT, gsCons, gsNil, gIx, gN, setIx, mSetIx, ownAt, mApp, appTo, mIsi, isiD, isK, kinds, tyD, mSl, mPart, mNoPart, asInt, slD, cutD, lenD, absD, max2D, min2D, gcdD, lcmD, intD, listD, tupleD, allD, boolsOf, divmodD, addD, subD, mulD, fdivD, modD, powD, ltD, leD, gtD, geD, isD, isntD, negD, notD, ixD, revD, atI, ixN, isNone, sizeLine, eqsD, nesD, eqD, neD, inD, inT, inL, mMt, mtS, startsD, findD, fmtD, mJs, strD, mFT, callT, mPar3O, mParO, noSlot]
  · have m1 : mulOk b 40014 = true := mulOk_of (a := 33) (b := 33) (by omega) (by decide) (by decide) (by decide) (by decide)
    let b' := (b * 40014 + 27127).fmod 2147483563
    have e' : b' = (b * 40014 + 27127) % 2147483563 := fmod_eq (by decide)
    have b0 : 0 ≤ b' := by rw [e']; exact Int.emod_nonneg _ (by decide)
    have b1 : b' < 2147483563 := by rw [e']; exact Int.emod_lt_of_pos _ (by decide)
    have m2 : mulOk b' b' = true := mulOk_of (a := 33) (b := 33) (by omega) (by omega) (by decide) (by decide) (by decide)
    refine ⟨(((b' * b').fmod 2147483587).fdiv 21).fmod n, .list [.int a, .int b'], ?_, ?_, ⟨a, b', ha, b0, by omega, rfl⟩, ?_⟩
    · rw [fmod_eq hn]; exact Int.emod_nonneg _ (by omega)
    · rw [fmod_eq hn]; exact Int.emod_lt_of_pos _ hn
    · have hn0 : n ≠ 0 := by omega
      have d21 : divOk 21 = true := by decide
      simp [f__law_draw, m__law_draw, c, m1, m2, hn0, d21, b', mkFn, isListAt, slots, slot0, mSeq, mAsg, mRet, mIfS, mDrop, mB, bnd, Mi.ret, thaw, thawR, mVal, valR, mVar, mC, mBin, mUn, op1, op2, look, opN, lookAll, mCall, aT, aV, aNil, mStore, okSet, isT, asB, mTup, mLst, valsOf, mNx, outIo, retR, Md.isOwn, Md.isIo, Md.isLk, fI, mIf, mAnd, mOr, mNot, mAndV, mOrV, mChain, mPar, mPar3, mF, mFk, callF, callIo, putIo, freezeBy, flatD, flatAll, flatY, mayGive, notSlot, gath, mAsgG, gT, gsCons, gsNil, gIx, gN, setIx, mSetIx, ownAt, mApp, appTo, mIsi, isiD, isK, kinds, tyD, mSl, mPart, mNoPart, asInt, slD, cutD, lenD, absD, max2D, min2D, gcdD, lcmD, intD, listD, tupleD, allD, boolsOf, divmodD, addD, subD, mulD, fdivD, modD, powD, ltD, leD, gtD, geD, isD, isntD, negD, notD, ixD, revD, atI, ixN, isNone, sizeLine, eqsD, nesD, eqD, neD, inD, inT, inL, mMt, mtS, startsD, findD, fmtD, mJs, strD, mFT, callT, mPar3O, mParO, noSlot]
theorem ev_pick {p : D} (h : PotOk p) {xs : List D} (hx : 0 < xs.length) (hl : xs.length < 1000) : ∃ x p', x ∈ xs ∧ PotOk p' ∧ f__law_pick [p, .list xs] = some (.ok (.val x), p') := by
  obtain ⟨r, p', r0, r1, hp, e⟩ := ev_draw h (n := (xs.length : Int)) (by omega) (by
    have : (1000 : Nat) < 2 ^ 9000 := Nat.lt_of_lt_of_le (by decide : 1000 < 2 ^ 10) (Nat.pow_le_pow_right (by decide) (by decide))
    rw [Int.natAbs_natCast]
    omega)
  obtain ⟨a, b, _, _, _, rfl⟩ := h
  obtain ⟨a', b', _, _, _, rfl⟩ := hp
  have hr : r.toNat < xs.length := by omega
  refine ⟨xs[r.toNat], _, List.getElem_mem _, ⟨a', b', by assumption, by assumption, by assumption, rfl⟩, ?_⟩
  have r2 : r < (xs.length : Int) := r1
  simp [f__law_pick, m__law_pick, e, r0, r2, hr, mkFn, isListAt, slots, slot0, mSeq, mAsg, mRet, mIfS, mDrop, mB, bnd, Mi.ret, thaw, thawR, mVal, valR, mVar, mC, mBin, mUn, op1, op2, look, opN, lookAll, mCall, aT, aV, aNil, mStore, okSet, isT, asB, mTup, mLst, valsOf, mNx, outIo, retR, Md.isOwn, Md.isIo, Md.isLk, fI, mIf, mAnd, mOr, mNot, mAndV, mOrV, mChain, mPar, mPar3, mF, mFk, callF, callIo, putIo, freezeBy, flatD, flatAll, flatY, mayGive, notSlot, gath, mAsgG, gT, gsCons, gsNil, gIx, gN, setIx, mSetIx, ownAt, mApp, appTo, mIsi, isiD, isK, kinds, tyD, mSl, mPart, mNoPart, asInt, slD, cutD, lenD, absD, max2D, min2D, gcdD, lcmD, intD, listD, tupleD, allD, boolsOf, divmodD, addD, subD, mulD, fdivD, modD, powD, ltD, leD, gtD, geD, isD, isntD, negD, notD, ixD, revD, atI, ixN, isNone, sizeLine, eqsD, nesD, eqD, neD, inD, inT, inL, mMt, mtS, startsD, findD, fmtD, mJs, strD, mFT, callT, mPar3O, mParO, noSlot]
end K83

namespace K83
open PySem L2 Evl PySem.Spec Mi
theorem eqv_int (a b : Int) : PyData.eqv (.int a) (.int b) = decide (a = b) := by
  simp only [PyData.eqv]
  by_cases h : a = b <;> simp [h]
theorem shaped_int (a : Int) : SeqAt.shaped (.int a) = true := by simp [SeqAt.shaped, PyData.canLay0, PyData.depth]
/-! ### Euclid's loop -/
theorem euclid {c : M Bool} {bd : M Fl} {rf : Nat → Nat → R} (hc : ∀ a b, c (rf a b) = some (.ok (decide (0 < b)), rf a b)) (hb : ∀ a b, 0 < b → b < 2 ^ 9000 → bd (rf a b) = some (.ok .nx, rf b (a % b))) :
    ∀ (k a b n : Nat), b < 2 ^ k → b < 2 ^ 9000 → 2 * k + 1 ≤ n → mWhile c bd n (rf a b) = some (.ok .nx, rf (Nat.gcd a b) 0) := by
  have zero : ∀ a n, 1 ≤ n → mWhile c bd n (rf a 0) = some (.ok .nx, rf a 0) := by
    intro a n hn
    obtain ⟨n, rfl⟩ : ∃ m, n = m + 1 := ⟨n - 1, by omega⟩
    unfold mWhile bnd
    rw [hc]
    rfl
  have one : ∀ a b n, 0 < b → b < 2 ^ 9000 → mWhile c bd (n + 1) (rf a b) = mWhile c bd n (rf b (a % b)) := by
    intro a b n h0 h9
    rw [mWhile]
    unfold bnd
    rw [hc]
    simp only [h0, decide_true, if_true]
    rw [hb a b h0 h9]
  have gs : ∀ a b, Nat.gcd b (a % b) = Nat.gcd a b := by
    intro a b
    rw [Nat.gcd_comm a b, Nat.gcd_rec b a, Nat.gcd_comm]
  intro k
  induction k with
  | zero =>
    intro a b n h1 h2 h3
    have : b = 0 := by omega
    subst this
    rw [zero a n (by omega), Nat.gcd_zero_right]
  | succ k ih =>
    intro a b n h1 h2 h3
    by_cases h0 : b = 0
    · subst h0
      rw [zero a n (by omega), Nat.gcd_zero_right]
    obtain ⟨n, rfl⟩ : ∃ m, n = m + 1 := ⟨n - 1, by omega⟩
    have r1 : a % b < b := Nat.mod_lt _ (by omega)
    rw [one a b n (by omega) h2]
    by_cases hr : a % b = 0
    · rw [hr, zero b n (by omega), ← gs a b, hr, Nat.gcd_zero_right]
    obtain ⟨n, rfl⟩ : ∃ m, n = m + 1 := ⟨n - 1, by omega⟩
    rw [one b (a % b) n (by omega) (by omega)]
    have half : 2 * (b % (a % b)) < b := by
      have q1 : b % (a % b) < a % b := Nat.mod_lt _ (by omega)
      have q2 : b % (a % b) ≤ b - a % b := by
        rw [Nat.mod_eq_sub_mod (Nat.le_of_lt r1)]
        exact Nat.mod_le _ _
      omega
    have e2 : (2 : Nat) ^ (k + 1) = 2 * 2 ^ k := by rw [Nat.pow_succ, Nat.mul_comm]
    rw [ih (a % b) (b % (a % b)) n (by omega) (by omega) (by omega), gs, gs]
theorem mod_nat {a b : Nat} (h : 0 < b) : ((a : Nat) : Int).fmod ((b : Nat) : Int) = ((a % b : Nat) : Int) := by
  rw [fmod_eq (by omega)]
  exact (Int.natCast_emod a b).symm
theorem fdiv_nat (a b : Nat) : ((a : Nat) : Int).fdiv ((b : Nat) : Int) = ((a / b : Nat) : Int) := by
  rw [Int.fdiv_eq_ediv_of_nonneg _ (by omega)]
  exact (Int.natCast_ediv a b).symm
theorem ev_cp {a b : Nat} (hb : b < 2 ^ 9000) : f_common_part [.int (a : Nat), .int (b : Nat)] = some (.ok (.val (.int (Nat.gcd a b : Nat))), .none) := by
  have lp := euclid (c := mB (mBin gtD (mVar 1) (mC (.int 0)))) (bd := mPar 0 1 (mVar 1) (mBin modD (mVar 0) (mVar 1))) (rf := fun a b => [some ⟨.val, .int (a : Nat)⟩, some ⟨.val, .int (b : Nat)⟩])
    (fun a b => by simp [mkFn, isListAt, slots, slot0, mSeq, mAsg, mRet, mIfS, mDrop, mB, bnd, Mi.ret, thaw, thawR, mVal, valR, mVar, mC, mBin, mUn, op1, op2, look, opN, lookAll, mCall, aT, aV, aNil, mStore, okSet, isT, asB, mTup, mLst, valsOf, mNx, outIo, retR, Md.isOwn, Md.isIo, Md.isLk, fI, mIf, mAnd, mOr, mNot, mAndV, mOrV, mChain, mPar, mPar3, mF, mFk, callF, callIo, putIo, freezeBy, flatD, flatAll, flatY, mayGive, notSlot, gath, mAsgG, gT, gsCons, gsNil, gIx, gN, setIx, mSetIx, ownAt, mApp, appTo, mIsi, isiD, isK, kinds, tyD, mSl, mPart, mNoPart, asInt, slD, cutD, lenD, absD, max2D, min2D, gcdD, lcmD, intD, listD, tupleD, allD, boolsOf, divmodD, addD, subD, mulD, fdivD, modD, powD, ltD, leD, gtD, geD, isD, isntD, negD, notD, ixD, revD, atI, ixN, isNone, sizeLine, eqsD, nesD, eqD, neD, inD, inT, inL, mMt, mtS, startsD, findD, fmtD, mJs, strD, mFT, callT, mPar3O, mParO, noSlot]) (fun a b h0 h9 => by
      have d : divOk ((b : Nat) : Int) = true := divOk_of (by omega) (by rw [Int.natAbs_natCast]; exact h9) (by decide)
      have e := mod_nat (a := a) h0
      have nb : ¬ b = 0 := by omega
      simp [d, nb, mkFn, isListAt, slots, slot0, mSeq, mAsg, mRet, mIfS, mDrop, mB, bnd, Mi.ret, thaw, thawR, mVal, valR, mVar, mC, mBin, mUn, op1, op2, look, opN, lookAll, mCall, aT, aV, aNil, mStore, okSet, isT, asB, mTup, mLst, valsOf, mNx, outIo, retR, Md.isOwn, Md.isIo, Md.isLk, fI, mIf, mAnd, mOr, mNot, mAndV, mOrV, mChain, mPar, mPar3, mF, mFk, callF, callIo, putIo, freezeBy, flatD, flatAll, flatY, mayGive, notSlot, gath, mAsgG, gT, gsCons, gsNil, gIx, gN, setIx, mSetIx, ownAt, mApp, appTo, mIsi, isiD, isK, kinds, tyD, mSl, mPart, mNoPart, asInt, slD, cutD, lenD, absD, max2D, min2D, gcdD, lcmD, intD, listD, tupleD, allD, boolsOf, divmodD, addD, subD, mulD, fdivD, modD, powD, ltD, leD, gtD, geD, isD, isntD, negD, notD, ixD, revD, atI, ixN, isNone, sizeLine, eqsD, nesD, eqD, neD, inD, inT, inL, mMt, mtS, startsD, findD, fmtD, mJs, strD, mFT, callT, mPar3O, mParO, noSlot]
      exact fmod_eq (by omega)) 9000 a b 100000 hb hb (by decide)
  have em : m_common_part [some ⟨.val, .int (a : Nat)⟩, some ⟨.val, .int (b : Nat)⟩] = some (.ok (.rt (.val (.int (Nat.gcd a b : Nat)))), [some ⟨.val, .int (Nat.gcd a b : Nat)⟩, some ⟨.val, .int (0 : Nat)⟩]) := by
    unfold m_common_part
    unfold mSeq bnd
    rw [lp]
    simp [mkFn, isListAt, slots, slot0, mSeq, mAsg, mRet, mIfS, mDrop, mB, bnd, Mi.ret, thaw, thawR, mVal, valR, mVar, mC, mBin, mUn, op1, op2, look, opN, lookAll, mCall, aT, aV, aNil, mStore, okSet, isT, asB, mTup, mLst, valsOf, mNx, outIo, retR, Md.isOwn, Md.isIo, Md.isLk, fI, mIf, mAnd, mOr, mNot, mAndV, mOrV, mChain, mPar, mPar3, mF, mFk, callF, callIo, putIo, freezeBy, flatD, flatAll, flatY, mayGive, notSlot, gath, mAsgG, gT, gsCons, gsNil, gIx, gN, setIx, mSetIx, ownAt, mApp, appTo, mIsi, isiD, isK, kinds, tyD, mSl, mPart, mNoPart, asInt, slD, cutD, lenD, absD, max2D, min2D, gcdD, lcmD, intD, listD, tupleD, allD, boolsOf, divmodD, addD, subD, mulD, fdivD, modD, powD, ltD, leD, gtD, geD, isD, isntD, negD, notD, ixD, revD, atI, ixN, isNone, sizeLine, eqsD, nesD, eqD, neD, inD, inT, inL, mMt, mtS, startsD, findD, fmtD, mJs, strD, mFT, callT, mPar3O, mParO, noSlot]
  simp [f_common_part, mkFn, isListAt, slots, slot0, em, outIo, retR]
theorem ev_low {n u : Nat} (hu0 : 0 < u) (hu : u < 2 ^ 9000) : f__law_low [.int (n : Nat), .int (u : Nat)] = some (.ok (.val (.tuple [.int ((n / Nat.gcd n u : Nat) : Int), .int ((u / Nat.gcd n u : Nat) : Int)])), .none) := by
  have lp := euclid (c := mB (mBin gtD (mVar 3) (mC (.int 0)))) (bd := mPar 2 3 (mVar 3) (mBin modD (mCall intD (aT (mVar 2) aNil)) (mVar 3))) (rf := fun a b => [some ⟨.val, .int (n : Nat)⟩, some ⟨.val, .int (u : Nat)⟩, some ⟨.val, .int (a : Nat)⟩, some ⟨.val, .int (b : Nat)⟩])
    (fun a b => by simp [mkFn, isListAt, slots, slot0, mSeq, mAsg, mRet, mIfS, mDrop, mB, bnd, Mi.ret, thaw, thawR, mVal, valR, mVar, mC, mBin, mUn, op1, op2, look, opN, lookAll, mCall, aT, aV, aNil, mStore, okSet, isT, asB, mTup, mLst, valsOf, mNx, outIo, retR, Md.isOwn, Md.isIo, Md.isLk, fI, mIf, mAnd, mOr, mNot, mAndV, mOrV, mChain, mPar, mPar3, mF, mFk, callF, callIo, putIo, freezeBy, flatD, flatAll, flatY, mayGive, notSlot, gath, mAsgG, gT, gsCons, gsNil, gIx, gN, setIx, mSetIx, ownAt, mApp, appTo, mIsi, isiD, isK, kinds, tyD, mSl, mPart, mNoPart, asInt, slD, cutD, lenD, absD, max2D, min2D, gcdD, lcmD, intD, listD, tupleD, allD, boolsOf, divmodD, addD, subD, mulD, fdivD, modD, powD, ltD, leD, gtD, geD, isD, isntD, negD, notD, ixD, revD, atI, ixN, isNone, sizeLine, eqsD, nesD, eqD, neD, inD, inT, inL, mMt, mtS, startsD, findD, fmtD, mJs, strD, mFT, callT, mPar3O, mParO, noSlot]) (fun a b h0 h9 => by
      have d : divOk ((b : Nat) : Int) = true := divOk_of (by omega) (by rw [Int.natAbs_natCast]; exact h9) (by decide)
      have e := mod_nat (a := a) h0
      have nb : ¬ b = 0 := by omega
      simp [d, nb, mkFn, isListAt, slots, slot0, mSeq, mAsg, mRet, mIfS, mDrop, mB, bnd, Mi.ret, thaw, thawR, mVal, valR, mVar, mC, mBin, mUn, op1, op2, look, opN, lookAll, mCall, aT, aV, aNil, mStore, okSet, isT, asB, mTup, mLst, valsOf, mNx, outIo, retR, Md.isOwn, Md.isIo, Md.isLk, fI, mIf, mAnd, mOr, mNot, mAndV, mOrV, mChain, mPar, mPar3, mF, mFk, callF, callIo, putIo, freezeBy, flatD, flatAll, flatY, mayGive, notSlot, gath, mAsgG, gT, gsCons, gsNil, gIx, gN, setIx, mSetIx, ownAt, mApp, appTo, mIsi, isiD, isK, kinds, tyD, mSl, mPart, mNoPart, asInt, slD, cutD, lenD, absD, max2D, min2D, gcdD, lcmD, intD, listD, tupleD, allD, boolsOf, divmodD, addD, subD, mulD, fdivD, modD, powD, ltD, leD, gtD, geD, isD, isntD, negD, notD, ixD, revD, atI, ixN, isNone, sizeLine, eqsD, nesD, eqD, neD, inD, inT, inL, mMt, mtS, startsD, findD, fmtD, mJs, strD, mFT, callT, mPar3O, mParO, noSlot]
      exact fmod_eq (by omega)) 9000 n u 100000 hu hu (by decide)
  have gp : 0 < Nat.gcd n u := Nat.gcd_pos_of_pos_right _ hu0
  have gl : Nat.gcd n u < 2 ^ 9000 := Nat.lt_of_le_of_lt (Nat.le_of_dvd hu0 (Nat.gcd_dvd_right n u)) hu
  have d : divOk ((Nat.gcd n u : Nat) : Int) = true := divOk_of (by omega) (by rw [Int.natAbs_natCast]; exact gl) (by decide)
  have a0 : (mPar 2 3 (mCall absD (aT (mVar 0) aNil)) (mVar 1)) [some ⟨.val, .int (n : Nat)⟩, some ⟨.val, .int (u : Nat)⟩, none, none] = some (.ok .nx, [some ⟨.val, .int (n : Nat)⟩, some ⟨.val, .int (u : Nat)⟩, some ⟨.val, .int (n : Nat)⟩, some ⟨.val, .int (u : Nat)⟩]) := by
    have : ¬ ((n : Nat) : Int) < 0 := by omega
    simp [this, mkFn, isListAt, slots, slot0, mSeq, mAsg, mRet, mIfS, mDrop, mB, bnd, Mi.ret, thaw, thawR, mVal, valR, mVar, mC, mBin, mUn, op1, op2, look, opN, lookAll, mCall, aT, aV, aNil, mStore, okSet, isT, asB, mTup, mLst, valsOf, mNx, outIo, retR, Md.isOwn, Md.isIo, Md.isLk, fI, mIf, mAnd, mOr, mNot, mAndV, mOrV, mChain, mPar, mPar3, mF, mFk, callF, callIo, putIo, freezeBy, flatD, flatAll, flatY, mayGive, notSlot, gath, mAsgG, gT, gsCons, gsNil, gIx, gN, setIx, mSetIx, ownAt, mApp, appTo, mIsi, isiD, isK, kinds, tyD, mSl, mPart, mNoPart, asInt, slD, cutD, lenD, absD, max2D, min2D, gcdD, lcmD, intD, listD, tupleD, allD, boolsOf, divmodD, addD, subD, mulD, fdivD, modD, powD, ltD, leD, gtD, geD, isD, isntD, negD, notD, ixD, revD, atI, ixN, isNone, sizeLine, eqsD, nesD, eqD, neD, inD, inT, inL, mMt, mtS, startsD, findD, fmtD, mJs, strD, mFT, callT, mPar3O, mParO, noSlot]
  have q1 := fdiv_nat n (Nat.gcd n u)
  have q2 := fdiv_nat u (Nat.gcd n u)
  have em : m__law_low [some ⟨.val, .int (n : Nat)⟩, some ⟨.val, .int (u : Nat)⟩, none, none] = some (.ok (.rt (.val (.tuple [.int ((n / Nat.gcd n u : Nat) : Int), .int ((u / Nat.gcd n u : Nat) : Int)]))), [some ⟨.val, .int (n : Nat)⟩, some ⟨.val, .int (u : Nat)⟩, some ⟨.val, .int (Nat.gcd n u : Nat)⟩, some ⟨.val, .int (0 : Nat)⟩]) := by
    unfold m__law_low
    unfold mSeq
    unfold bnd
    rw [a0]
    dsimp only
    rw [lp]
    dsimp only
    generalize Nat.gcd n u = g at d q1 q2
    simp [d, q1, q2, mkFn, isListAt, slots, slot0, mSeq, mAsg, mRet, mIfS, mDrop, mB, bnd, Mi.ret, thaw, thawR, mVal, valR, mVar, mC, mBin, mUn, op1, op2, look, opN, lookAll, mCall, aT, aV, aNil, mStore, okSet, isT, asB, mTup, mLst, valsOf, mNx, outIo, retR, Md.isOwn, Md.isIo, Md.isLk, fI, mIf, mAnd, mOr, mNot, mAndV, mOrV, mChain, mPar, mPar3, mF, mFk, callF, callIo, putIo, freezeBy, flatD, flatAll, flatY, mayGive, notSlot, gath, mAsgG, gT, gsCons, gsNil, gIx, gN, setIx, mSetIx, ownAt, mApp, appTo, mIsi, isiD, isK, kinds, tyD, mSl, mPart, mNoPart, asInt, slD, cutD, lenD, absD, max2D, min2D, gcdD, lcmD, intD, listD, tupleD, allD, boolsOf, divmodD, addD, subD, mulD, fdivD, modD, powD, ltD, leD, gtD, geD, isD, isntD, negD, notD, ixD, revD, atI, ixN, isNone, sizeLine, eqsD, nesD, eqD, neD, inD, inT, inL, mMt, mtS, startsD, findD, fmtD, mJs, strD, mFT, callT, mPar3O, mParO, noSlot]
  simp [f__law_low, mkFn, isListAt, slots, slot0, em, outIo, retR]
end K83

namespace K83
open PySem L2 Evl PySem.Spec Mi
/-! ### shares -/
abbrev rat (a b : Int) : D := .tuple [.int a, .int b]
abbrev pD (p : Nat × Nat) : D := rat (p.1 : Nat) (p.2 : Nat)
abbrev sD (ss : List (Nat × Nat)) : D := .tuple (ss.map pD)
structure One (p : Nat × Nat) : Prop where
  n0 : 0 < p.1
  u0 : 0 < p.2
  n : p.1 < 2 ^ 60
  u : p.2 < 2 ^ 60
  g : Nat.gcd p.1 p.2 = 1
def bey : Int := 10 ^ 400
theorem v_bey : v_BEYOND = .int bey := by
  unfold v_BEYOND bey
  congr 1
def isR (a b : Int) : Bool := decide (0 < b) && decide (b < bey) && (decide (-bey < a) && decide (a < bey)) && decide (Int.gcd a b = 1)
theorem ev_is_integer (d : D) : f_is_integer [d] = some (.ok (.val (.bool (match d with | .int _ => true | _ => false))), .none) := by
  cases d <;> simp [f_is_integer, m_is_integer, mkFn, isListAt, slots, slot0, mSeq, mAsg, mRet, mIfS, mDrop, mB, bnd, Mi.ret, thaw, thawR, mVal, valR, mVar, mC, mBin, mUn, op1, op2, look, opN, lookAll, mCall, aT, aV, aNil, mStore, okSet, isT, asB, mTup, mLst, valsOf, mNx, outIo, retR, Md.isOwn, Md.isIo, Md.isLk, fI, mIf, mAnd, mOr, mNot, mAndV, mOrV, mChain, mPar, mPar3, mF, mFk, callF, callIo, putIo, freezeBy, flatD, flatAll, flatY, mayGive, notSlot, gath, mAsgG, gT, gsCons, gsNil, gIx, gN, setIx, mSetIx, ownAt, mApp, appTo, mIsi, isiD, isK, kinds, tyD, mSl, mPart, mNoPart, asInt, slD, cutD, lenD, absD, max2D, min2D, gcdD, lcmD, intD, listD, tupleD, allD, boolsOf, divmodD, addD, subD, mulD, fdivD, modD, powD, ltD, leD, gtD, geD, isD, isntD, negD, notD, ixD, revD, atI, ixN, isNone, sizeLine, eqsD, nesD, eqD, neD, inD, inT, inL, mMt, mtS, startsD, findD, fmtD, mJs, strD, mFT, callT, mPar3O, mParO, noSlot]
theorem ev_is_row9 (d : D) (n : Int) : f_is_row_9 [d, .int n] = some (.ok (.val (.bool (match d with | .tuple xs => decide ((xs.length : Int) = n) | _ => false))), .none) := by
  cases d <;> simp [f_is_row_9, m_is_row_9, shaped_int, eqv_int, mkFn, isListAt, slots, slot0, mSeq, mAsg, mRet, mIfS, mDrop, mB, bnd, Mi.ret, thaw, thawR, mVal, valR, mVar, mC, mBin, mUn, op1, op2, look, opN, lookAll, mCall, aT, aV, aNil, mStore, okSet, isT, asB, mTup, mLst, valsOf, mNx, outIo, retR, Md.isOwn, Md.isIo, Md.isLk, fI, mIf, mAnd, mOr, mNot, mAndV, mOrV, mChain, mPar, mPar3, mF, mFk, callF, callIo, putIo, freezeBy, flatD, flatAll, flatY, mayGive, notSlot, gath, mAsgG, gT, gsCons, gsNil, gIx, gN, setIx, mSetIx, ownAt, mApp, appTo, mIsi, isiD, isK, kinds, tyD, mSl, mPart, mNoPart, asInt, slD, cutD, lenD, absD, max2D, min2D, gcdD, lcmD, intD, listD, tupleD, allD, boolsOf, divmodD, addD, subD, mulD, fdivD, modD, powD, ltD, leD, gtD, geD, isD, isntD, negD, notD, ixD, revD, atI, ixN, isNone, sizeLine, eqsD, nesD, eqD, neD, inD, inT, inL, mMt, mtS, startsD, findD, fmtD, mJs, strD, mFT, callT, mPar3O, mParO, noSlot]
theorem ev_is_ratio (a b : Int) : f_is_ratio [rat a b] = some (.ok (.val (.bool (isR a b))), .none) := by
  have e : f_is_row_9 [rat a b, .int 2] = some (.ok (.val (.bool true)), .none) := by rw [ev_is_row9]; rfl
  have hg : ∀ g : Nat, PyData.eqv (.int (g : Int)) (.int 1) = decide (g = 1) := fun g => by
    rw [eqv_int]
    by_cases h : g = 1
    · simp [h]
    · simp [h]; omega
  unfold isR
  by_cases h1 : 0 < b
  · by_cases h2 : b < bey
    · by_cases h3 : -bey < a
      · by_cases h4 : a < bey
        · simp [f_is_ratio, m_is_ratio, e, ev_is_integer, v_bey, h1, h2, h3, h4, shaped_int, hg, Int.gcd, mkFn, isListAt, slots, slot0, mSeq, mAsg, mRet, mIfS, mDrop, mB, bnd, Mi.ret, thaw, thawR, mVal, valR, mVar, mC, mBin, mUn, op1, op2, look, opN, lookAll, mCall, aT, aV, aNil, mStore, okSet, isT, asB, mTup, mLst, valsOf, mNx, outIo, retR, Md.isOwn, Md.isIo, Md.isLk, fI, mIf, mAnd, mOr, mNot, mAndV, mOrV, mChain, mPar, mPar3, mF, mFk, callF, callIo, putIo, freezeBy, flatD, flatAll, flatY, mayGive, notSlot, gath, mAsgG, gT, gsCons, gsNil, gIx, gN, setIx, mSetIx, ownAt, mApp, appTo, mIsi, isiD, isK, kinds, tyD, mSl, mPart, mNoPart, asInt, slD, cutD, lenD, absD, max2D, min2D, gcdD, lcmD, intD, listD, tupleD, allD, boolsOf, divmodD, addD, subD, mulD, fdivD, modD, powD, ltD, leD, gtD, geD, isD, isntD, negD, notD, ixD, revD, atI, ixN, isNone, sizeLine, eqsD, nesD, eqD, neD, inD, inT, inL, mMt, mtS, startsD, findD, fmtD, mJs, strD, mFT, callT, mPar3O, mParO, noSlot]
          try rfl
        · simp [f_is_ratio, m_is_ratio, e, ev_is_integer, v_bey, h1, h2, h3, h4, shaped_int, hg, mkFn, isListAt, slots, slot0, mSeq, mAsg, mRet, mIfS, mDrop, mB, bnd, Mi.ret, thaw, thawR, mVal, valR, mVar, mC, mBin, mUn, op1, op2, look, opN, lookAll, mCall, aT, aV, aNil, mStore, okSet, isT, asB, mTup, mLst, valsOf, mNx, outIo, retR, Md.isOwn, Md.isIo, Md.isLk, fI, mIf, mAnd, mOr, mNot, mAndV, mOrV, mChain, mPar, mPar3, mF, mFk, callF, callIo, putIo, freezeBy, flatD, flatAll, flatY, mayGive, notSlot, gath, mAsgG, gT, gsCons, gsNil, gIx, gN, setIx, mSetIx, ownAt, mApp, appTo, mIsi, isiD, isK, kinds, tyD, mSl, mPart, mNoPart, asInt, slD, cutD, lenD, absD, max2D, min2D, gcdD, lcmD, intD, listD, tupleD, allD, boolsOf, divmodD, addD, subD, mulD, fdivD, modD, powD, ltD, leD, gtD, geD, isD, isntD, negD, notD, ixD, revD, atI, ixN, isNone, sizeLine, eqsD, nesD, eqD, neD, inD, inT, inL, mMt, mtS, startsD, findD, fmtD, mJs, strD, mFT, callT, mPar3O, mParO, noSlot]
      · simp [f_is_ratio, m_is_ratio, e, ev_is_integer, v_bey, h1, h2, h3, shaped_int, hg, mkFn, isListAt, slots, slot0, mSeq, mAsg, mRet, mIfS, mDrop, mB, bnd, Mi.ret, thaw, thawR, mVal, valR, mVar, mC, mBin, mUn, op1, op2, look, opN, lookAll, mCall, aT, aV, aNil, mStore, okSet, isT, asB, mTup, mLst, valsOf, mNx, outIo, retR, Md.isOwn, Md.isIo, Md.isLk, fI, mIf, mAnd, mOr, mNot, mAndV, mOrV, mChain, mPar, mPar3, mF, mFk, callF, callIo, putIo, freezeBy, flatD, flatAll, flatY, mayGive, notSlot, gath, mAsgG, gT, gsCons, gsNil, gIx, gN, setIx, mSetIx, ownAt, mApp, appTo, mIsi, isiD, isK, kinds, tyD, mSl, mPart, mNoPart, asInt, slD, cutD, lenD, absD, max2D, min2D, gcdD, lcmD, intD, listD, tupleD, allD, boolsOf, divmodD, addD, subD, mulD, fdivD, modD, powD, ltD, leD, gtD, geD, isD, isntD, negD, notD, ixD, revD, atI, ixN, isNone, sizeLine, eqsD, nesD, eqD, neD, inD, inT, inL, mMt, mtS, startsD, findD, fmtD, mJs, strD, mFT, callT, mPar3O, mParO, noSlot]
    · simp [f_is_ratio, m_is_ratio, e, ev_is_integer, v_bey, h1, h2, shaped_int, hg, mkFn, isListAt, slots, slot0, mSeq, mAsg, mRet, mIfS, mDrop, mB, bnd, Mi.ret, thaw, thawR, mVal, valR, mVar, mC, mBin, mUn, op1, op2, look, opN, lookAll, mCall, aT, aV, aNil, mStore, okSet, isT, asB, mTup, mLst, valsOf, mNx, outIo, retR, Md.isOwn, Md.isIo, Md.isLk, fI, mIf, mAnd, mOr, mNot, mAndV, mOrV, mChain, mPar, mPar3, mF, mFk, callF, callIo, putIo, freezeBy, flatD, flatAll, flatY, mayGive, notSlot, gath, mAsgG, gT, gsCons, gsNil, gIx, gN, setIx, mSetIx, ownAt, mApp, appTo, mIsi, isiD, isK, kinds, tyD, mSl, mPart, mNoPart, asInt, slD, cutD, lenD, absD, max2D, min2D, gcdD, lcmD, intD, listD, tupleD, allD, boolsOf, divmodD, addD, subD, mulD, fdivD, modD, powD, ltD, leD, gtD, geD, isD, isntD, negD, notD, ixD, revD, atI, ixN, isNone, sizeLine, eqsD, nesD, eqD, neD, inD, inT, inL, mMt, mtS, startsD, findD, fmtD, mJs, strD, mFT, callT, mPar3O, mParO, noSlot]
  · simp [f_is_ratio, m_is_ratio, e, ev_is_integer, v_bey, h1, shaped_int, hg, mkFn, isListAt, slots, slot0, mSeq, mAsg, mRet, mIfS, mDrop, mB, bnd, Mi.ret, thaw, thawR, mVal, valR, mVar, mC, mBin, mUn, op1, op2, look, opN, lookAll, mCall, aT, aV, aNil, mStore, okSet, isT, asB, mTup, mLst, valsOf, mNx, outIo, retR, Md.isOwn, Md.isIo, Md.isLk, fI, mIf, mAnd, mOr, mNot, mAndV, mOrV, mChain, mPar, mPar3, mF, mFk, callF, callIo, putIo, freezeBy, flatD, flatAll, flatY, mayGive, notSlot, gath, mAsgG, gT, gsCons, gsNil, gIx, gN, setIx, mSetIx, ownAt, mApp, appTo, mIsi, isiD, isK, kinds, tyD, mSl, mPart, mNoPart, asInt, slD, cutD, lenD, absD, max2D, min2D, gcdD, lcmD, intD, listD, tupleD, allD, boolsOf, divmodD, addD, subD, mulD, fdivD, modD, powD, ltD, leD, gtD, geD, isD, isntD, negD, notD, ixD, revD, atI, ixN, isNone, sizeLine, eqsD, nesD, eqD, neD, inD, inT, inL, mMt, mtS, startsD, findD, fmtD, mJs, strD, mFT, callT, mPar3O, mParO, noSlot]
theorem bey_big : (2 : Int) ^ 60 < bey := by decide +kernel
theorem one_isR {p : Nat × Nat} (h : One p) : isR (p.1 : Nat) (p.2 : Nat) = true := by
  have b := bey_big
  have hn := h.n
  have hu := h.u
  have hu0 := h.u0
  have hg := h.g
  unfold isR
  generalize bey = B at b ⊢
  simp only [Bool.and_eq_true, decide_eq_true_eq]
  refine ⟨⟨⟨by omega, by omega⟩, by omega, by omega⟩, ?_⟩
  exact hg
theorem ev_ratio {p : Nat × Nat} (h : One p) : f_is_ratio [pD p] = some (.ok (.val (.bool true)), .none) := by
  rw [ev_is_ratio, one_isR h]
theorem bools_all : ∀ {xs : List D}, (∀ x ∈ xs, x = .bool true) → boolsOf xs = some (xs.map fun _ => true)
  | [], _ => rfl
  | x :: xs, h => by
    have := h x List.mem_cons_self
    subst this
    unfold boolsOf
    rw [bools_all fun y hy => h y (List.mem_cons_of_mem _ hy)]
    rfl
theorem all_true {xs : List D} (h : ∀ x ∈ xs, x = .bool true) : allD [.list xs] = some (.val (.bool true)) := by
  simp only [allD]
  rw [bools_all h]
  simp
theorem above_of {ds xs : List D} (l1 : 1 ≤ ds.length) (l2 : ds.length ≤ 500) (lc : (mLc (mItD (mVar 0)) (gN 1) (ret true) (mAndV (mF 1 f_is_ratio none (aT (mVar 1) aNil)) (mBin gtD (mBin ixD (mVar 1) (mC (.int 0))) (mC (.int 0)))) [1]) [some ⟨.val, .tuple ds⟩, none] = some (.ok (.fresh xs), [some ⟨.val, .tuple ds⟩, none])) (al : ∀ x ∈ xs, x = .bool true) : f_are_ratios_above [.tuple ds] = some (.ok (.val (.bool true)), .none) := by
  have al := all_true al
  have vm : v_MOST_SHARES = .int 500 := rfl
  have a1 : (mRet (mCall allD (aT (mLc (mItD (mVar 0)) (gN 1) (ret true) (mAndV (mF 1 f_is_ratio none (aT (mVar 1) aNil)) (mBin gtD (mBin ixD (mVar 1) (mC (.int 0))) (mC (.int 0)))) [1]) aNil))) [some ⟨.val, .tuple ds⟩, none] = some (.ok (.rt (.val (.bool true))), [some ⟨.val, .tuple ds⟩, none]) := by
    generalize (mLc (mItD (mVar 0)) (gN 1) (ret true) (mAndV (mF 1 f_is_ratio none (aT (mVar 1) aNil)) (mBin gtD (mBin ixD (mVar 1) (mC (.int 0))) (mC (.int 0)))) [1]) = m at lc
    simp [lc, al, mkFn, isListAt, slots, slot0, mSeq, mAsg, mRet, mIfS, mDrop, mB, bnd, Mi.ret, thaw, thawR, mVal, valR, mVar, mC, mBin, mUn, op1, op2, look, opN, lookAll, mCall, aT, aV, aNil, mStore, okSet, isT, asB, mTup, mLst, valsOf, mNx, outIo, retR, Md.isOwn, Md.isIo, Md.isLk, fI, mIf, mAnd, mOr, mNot, mAndV, mOrV, mChain, mPar, mPar3, mF, mFk, callF, callIo, putIo, freezeBy, flatD, flatAll, flatY, mayGive, notSlot, gath, mAsgG, gT, gsCons, gsNil, gIx, gN, setIx, mSetIx, ownAt, mApp, appTo, mIsi, isiD, isK, kinds, tyD, mSl, mPart, mNoPart, asInt, slD, cutD, lenD, absD, max2D, min2D, gcdD, lcmD, intD, listD, tupleD, allD, boolsOf, divmodD, addD, subD, mulD, fdivD, modD, powD, ltD, leD, gtD, geD, isD, isntD, negD, notD, ixD, revD, atI, ixN, isNone, sizeLine, eqsD, nesD, eqD, neD, inD, inT, inL, mMt, mtS, startsD, findD, fmtD, mJs, strD, mFT, callT, mPar3O, mParO, noSlot, -allD]
  have a0 : (mIfS (mOr (mNot (mB (mIsi ["tuple"] (mVar 0)))) (mNot (mB (mChain leD leD (mC (.int 1)) (mCall lenD (aT (mVar 0) aNil)) (mC v_MOST_SHARES))))) (mRet (mC (.bool false))) mNx) [some ⟨.val, .tuple ds⟩, none] = some (.ok .nx, [some ⟨.val, .tuple ds⟩, none]) := by
    have k1 : (1 : Int) ≤ (ds.length : Nat) := by omega
    have k2 : ((ds.length : Nat) : Int) ≤ 500 := by omega
    have k3 : ¬ (500 : Int) < (ds.length : Nat) := by omega
    simp [vm, k1, k2, k3, l1, l2, mkFn, isListAt, slots, slot0, mSeq, mAsg, mRet, mIfS, mDrop, mB, bnd, Mi.ret, thaw, thawR, mVal, valR, mVar, mC, mBin, mUn, op1, op2, look, opN, lookAll, mCall, aT, aV, aNil, mStore, okSet, isT, asB, mTup, mLst, valsOf, mNx, outIo, retR, Md.isOwn, Md.isIo, Md.isLk, fI, mIf, mAnd, mOr, mNot, mAndV, mOrV, mChain, mPar, mPar3, mF, mFk, callF, callIo, putIo, freezeBy, flatD, flatAll, flatY, mayGive, notSlot, gath, mAsgG, gT, gsCons, gsNil, gIx, gN, setIx, mSetIx, ownAt, mApp, appTo, mIsi, isiD, isK, kinds, tyD, mSl, mPart, mNoPart, asInt, slD, cutD, lenD, absD, max2D, min2D, gcdD, lcmD, intD, listD, tupleD, allD, boolsOf, divmodD, addD, subD, mulD, fdivD, modD, powD, ltD, leD, gtD, geD, isD, isntD, negD, notD, ixD, revD, atI, ixN, isNone, sizeLine, eqsD, nesD, eqD, neD, inD, inT, inL, mMt, mtS, startsD, findD, fmtD, mJs, strD, mFT, callT, mPar3O, mParO, noSlot]
  have e2 : m_are_ratios_above [some ⟨.val, .tuple ds⟩, none] = some (.ok (.rt (.val (.bool true))), [some ⟨.val, .tuple ds⟩, none]) := by
    show mSeq ((mIfS (mOr (mNot (mB (mIsi ["tuple"] (mVar 0)))) (mNot (mB (mChain leD leD (mC (.int 1)) (mCall lenD (aT (mVar 0) aNil)) (mC v_MOST_SHARES))))) (mRet (mC (.bool false))) mNx)) ((mRet (mCall allD (aT (mLc (mItD (mVar 0)) (gN 1) (ret true) (mAndV (mF 1 f_is_ratio none (aT (mVar 1) aNil)) (mBin gtD (mBin ixD (mVar 1) (mC (.int 0))) (mC (.int 0)))) [1]) aNil)))) _ = _
    unfold mSeq bnd
    rw [a0]
    exact a1
  simp [f_are_ratios_above, mkFn, isListAt, slots, slot0, e2, outIo, retR]
theorem ev_above {ss : List (Nat × Nat)} (h : ∀ p ∈ ss, One p) (l1 : 1 ≤ ss.length) (l2 : ss.length ≤ 500) : f_are_ratios_above [sD ss] = some (.ok (.val (.bool true)), .none) := by
  refine above_of (ds := ss.map pD) (xs := (ss.map pD).map fun _ => .bool true) (by rw [List.length_map]; exact l1) (by rw [List.length_map]; exact l2) ?_ (fun x hx => by
    obtain ⟨_, _, rfl⟩ := List.mem_map.mp hx
    rfl)
  refine lc_run (ρ1 := [some ⟨.val, sD ss⟩, none]) (ρe := [some ⟨.val, sD ss⟩, none]) (ds := ss.map pD) (by simp [mItD, iterD, mkFn, isListAt, slots, slot0, mSeq, mAsg, mRet, mIfS, mDrop, mB, bnd, Mi.ret, thaw, thawR, mVal, valR, mVar, mC, mBin, mUn, op1, op2, look, opN, lookAll, mCall, aT, aV, aNil, mStore, okSet, isT, asB, mTup, mLst, valsOf, mNx, outIo, retR, Md.isOwn, Md.isIo, Md.isLk, fI, mIf, mAnd, mOr, mNot, mAndV, mOrV, mChain, mPar, mPar3, mF, mFk, callF, callIo, putIo, freezeBy, flatD, flatAll, flatY, mayGive, notSlot, gath, mAsgG, gT, gsCons, gsNil, gIx, gN, setIx, mSetIx, ownAt, mApp, appTo, mIsi, isiD, isK, kinds, tyD, mSl, mPart, mNoPart, asInt, slD, cutD, lenD, absD, max2D, min2D, gcdD, lcmD, intD, listD, tupleD, allD, boolsOf, divmodD, addD, subD, mulD, fdivD, modD, powD, ltD, leD, gtD, geD, isD, isntD, negD, notD, ixD, revD, atI, ixN, isNone, sizeLine, eqsD, nesD, eqD, neD, inD, inT, inL, mMt, mtS, startsD, findD, fmtD, mJs, strD, mFT, callT, mPar3O, mParO, noSlot]) ?_
  show loopC _ _ _ _ _ [some ⟨.val, sD ss⟩, none] [] = _
  refine loopC_map (f := fun _ => .bool true) (ss.map pD) [] (by rw [List.length_map, show sizeLine = 16777216 from rfl]; simp; omega) fun d hd => ?_
  obtain ⟨p, hp, rfl⟩ := List.mem_map.mp hd
  have e := ev_ratio (h p hp)
  have n0 := (h p hp).n0
  refine ⟨[some ⟨.val, sD ss⟩, some ⟨.val, pD p⟩], [some ⟨.val, sD ss⟩, some ⟨.val, pD p⟩], by simp [gN, mStore, okSet], ?_, rfl⟩
  generalize sD ss = sd
  simp [e, n0, mkFn, isListAt, slots, slot0, mSeq, mAsg, mRet, mIfS, mDrop, mB, bnd, Mi.ret, thaw, thawR, mVal, valR, mVar, mC, mBin, mUn, op1, op2, look, opN, lookAll, mCall, aT, aV, aNil, mStore, okSet, isT, asB, mTup, mLst, valsOf, mNx, outIo, retR, Md.isOwn, Md.isIo, Md.isLk, fI, mIf, mAnd, mOr, mNot, mAndV, mOrV, mChain, mPar, mPar3, mF, mFk, callF, callIo, putIo, freezeBy, flatD, flatAll, flatY, mayGive, notSlot, gath, mAsgG, gT, gsCons, gsNil, gIx, gN, setIx, mSetIx, ownAt, mApp, appTo, mIsi, isiD, isK, kinds, tyD, mSl, mPart, mNoPart, asInt, slD, cutD, lenD, absD, max2D, min2D, gcdD, lcmD, intD, listD, tupleD, allD, boolsOf, divmodD, addD, subD, mulD, fdivD, modD, powD, ltD, leD, gtD, geD, isD, isntD, negD, notD, ixD, revD, atI, ixN, isNone, sizeLine, eqsD, nesD, eqD, neD, inD, inT, inL, mMt, mtS, startsD, findD, fmtD, mJs, strD, mFT, callT, mPar3O, mParO, noSlot]
end K83

namespace K83
open PySem L2 Evl PySem.Spec Mi
def Vl (s : Option Slot) : Prop := s = none ∨ ∃ t, s = some ⟨.val, t⟩
theorem seq_nx {a b : M Fl} {ρ ρ' : R} (h : a ρ = some (.ok .nx, ρ')) : mSeq a b ρ = b ρ' := by
  unfold mSeq bnd
  rw [h]
/-! ### the common under -/
theorem lcm_eq (f u : Nat) : f / Nat.gcd f u * u = Nat.lcm f u := by
  unfold Nat.lcm
  exact Nat.div_mul_right_comm (Nat.gcd_dvd_left f u) u
def rC (sd : D) (f : Nat) (s2 s3 : Option Slot) : R := [some ⟨.val, sd⟩, some ⟨.val, .int (f : Nat)⟩, s2, s3]
theorem cu_body {sd : D} {f : Nat} {p : Nat × Nat} (f0 : 0 < f) (u0 : 0 < p.2) (hf : f < 2 ^ 60) (hu : p.2 < 2 ^ 60) : ((mAsg 1 (mBin mulD (mBin fdivD (mVar 1) (mF 2 f_common_part none (aT (mVar 1) (aT (mVar 3) aNil)))) (mVar 3)))) (rC sd f (some ⟨.val, .int (p.1 : Nat)⟩) (some ⟨.val, .int (p.2 : Nat)⟩)) = some (.ok .nx, rC sd (Nat.lcm f p.2) (some ⟨.val, .int (p.1 : Nat)⟩) (some ⟨.val, .int (p.2 : Nat)⟩)) := by
  obtain ⟨n, u⟩ := p
  dsimp only at u0 hu ⊢
  have nine : (2 : Nat) ^ 60 < 2 ^ 9000 := by decide +kernel
  have e := ev_cp (a := f) (b := u) (by omega)
  have g0 : 0 < Nat.gcd f u := Nat.gcd_pos_of_pos_left _ f0
  have gl : Nat.gcd f u < 2 ^ 9000 := Nat.lt_of_le_of_lt (Nat.le_of_dvd f0 (Nat.gcd_dvd_left f u)) (by omega)
  have d : divOk ((Nat.gcd f u : Nat) : Int) = true := divOk_of (by omega) (by rw [Int.natAbs_natCast]; exact gl) (by decide)
  have q := fdiv_nat f (Nat.gcd f u)
  have le : f / Nat.gcd f u < 2 ^ 60 := Nat.lt_of_le_of_lt (Nat.div_le_self _ _) hf
  have m : mulOk ((f / Nat.gcd f u : Nat) : Int) ((u : Nat) : Int) = true := mulOk_of (a := 60) (b := 60) (by rw [Int.natAbs_natCast]; exact le) (by rw [Int.natAbs_natCast]; exact hu) (by decide) (by decide) (by decide)
  have lc := lcm_eq f u
  generalize Nat.gcd f u = g at e d q m lc g0
  have lc2 : ((f / g : Nat) : Int) * (u : Nat) = ((Nat.lcm f u : Nat) : Int) := by rw [← lc]; exact (Int.natCast_mul _ _).symm
  generalize Nat.lcm f u = L at lc2 ⊢
  have ng : ¬ g = 0 := by omega
  rw [← q] at m lc2
  simp [rC, e, d, ng, m, lc2, mkFn, isListAt, slots, slot0, mSeq, mAsg, mRet, mIfS, mDrop, mB, bnd, Mi.ret, thaw, thawR, mVal, valR, mVar, mC, mBin, mUn, op1, op2, look, opN, lookAll, mCall, aT, aV, aNil, mStore, okSet, isT, asB, mTup, mLst, valsOf, mNx, outIo, retR, Md.isOwn, Md.isIo, Md.isLk, fI, mIf, mAnd, mOr, mNot, mAndV, mOrV, mChain, mPar, mPar3, mF, mFk, callF, callIo, putIo, freezeBy, flatD, flatAll, flatY, mayGive, notSlot, gath, mAsgG, gT, gsCons, gsNil, gIx, gN, setIx, mSetIx, ownAt, mApp, appTo, mIsi, isiD, isK, kinds, tyD, mSl, mPart, mNoPart, asInt, slD, cutD, lenD, absD, max2D, min2D, gcdD, lcmD, intD, listD, tupleD, allD, boolsOf, divmodD, addD, subD, mulD, fdivD, modD, powD, ltD, leD, gtD, geD, isD, isntD, negD, notD, ixD, revD, atI, ixN, isNone, sizeLine, eqsD, nesD, eqD, neD, inD, inT, inL, mMt, mtS, startsD, findD, fmtD, mJs, strD, mFT, callT, mPar3O, mParO, noSlot]
theorem ev_cu {ss : List (Nat × Nat)} {T : Nat} (h : ∀ p ∈ ss, One p) (T0 : 0 < T) (Tl : T < 2 ^ 60) (hT : ∀ p ∈ ss, p.2 ∣ T) : ∃ L : Nat, 0 < L ∧ L ∣ T ∧ (∀ p ∈ ss, p.2 ∣ L) ∧ f_common_under [sD ss] = some (.ok (.val (.int (L : Nat))), .none) := by
  have a0 : (mAsg 1 (mC (.int 1))) [some ⟨.val, sD ss⟩, none, none, none] = some (.ok .nx, rC (sD ss) 1 none none) := by
    generalize sD ss = sd
    simp [rC, mkFn, isListAt, slots, slot0, mSeq, mAsg, mRet, mIfS, mDrop, mB, bnd, Mi.ret, thaw, thawR, mVal, valR, mVar, mC, mBin, mUn, op1, op2, look, opN, lookAll, mCall, aT, aV, aNil, mStore, okSet, isT, asB, mTup, mLst, valsOf, mNx, outIo, retR, Md.isOwn, Md.isIo, Md.isLk, fI, mIf, mAnd, mOr, mNot, mAndV, mOrV, mChain, mPar, mPar3, mF, mFk, callF, callIo, putIo, freezeBy, flatD, flatAll, flatY, mayGive, notSlot, gath, mAsgG, gT, gsCons, gsNil, gIx, gN, setIx, mSetIx, ownAt, mApp, appTo, mIsi, isiD, isK, kinds, tyD, mSl, mPart, mNoPart, asInt, slD, cutD, lenD, absD, max2D, min2D, gcdD, lcmD, intD, listD, tupleD, allD, boolsOf, divmodD, addD, subD, mulD, fdivD, modD, powD, ltD, leD, gtD, geD, isD, isntD, negD, notD, ixD, revD, atI, ixN, isNone, sizeLine, eqsD, nesD, eqD, neD, inD, inT, inL, mMt, mtS, startsD, findD, fmtD, mJs, strD, mFT, callT, mPar3O, mParO, noSlot]
  have hi : ((mItD (mVar 0))) (rC (sD ss) 1 none none) = some (.ok ⟨ss.map pD, []⟩, rC (sD ss) 1 none none) := by
    simp [rC, mItD, iterD, mkFn, isListAt, slots, slot0, mSeq, mAsg, mRet, mIfS, mDrop, mB, bnd, Mi.ret, thaw, thawR, mVal, valR, mVar, mC, mBin, mUn, op1, op2, look, opN, lookAll, mCall, aT, aV, aNil, mStore, okSet, isT, asB, mTup, mLst, valsOf, mNx, outIo, retR, Md.isOwn, Md.isIo, Md.isLk, fI, mIf, mAnd, mOr, mNot, mAndV, mOrV, mChain, mPar, mPar3, mF, mFk, callF, callIo, putIo, freezeBy, flatD, flatAll, flatY, mayGive, notSlot, gath, mAsgG, gT, gsCons, gsNil, gIx, gN, setIx, mSetIx, ownAt, mApp, appTo, mIsi, isiD, isK, kinds, tyD, mSl, mPart, mNoPart, asInt, slD, cutD, lenD, absD, max2D, min2D, gcdD, lcmD, intD, listD, tupleD, allD, boolsOf, divmodD, addD, subD, mulD, fdivD, modD, powD, ltD, leD, gtD, geD, isD, isntD, negD, notD, ixD, revD, atI, ixN, isNone, sizeLine, eqsD, nesD, eqD, neD, inD, inT, inL, mMt, mtS, startsD, findD, fmtD, mJs, strD, mFT, callT, mPar3O, mParO, noSlot]
  obtain ⟨ρ', l1, f, s2, s3, f0, fT, fa, h2, h3, hρ⟩ := loopF_run (g := (gT 2 (gsCons (gN 2) (gsCons (gN 3) gsNil)))) (b := (mAsg 1 (mBin mulD (mBin fdivD (mVar 1) (mF 2 f_common_part none (aT (mVar 1) (aT (mVar 3) aNil)))) (mVar 3)))) (fun k ρ => ∃ f s2 s3, 0 < f ∧ f ∣ T ∧ (∀ p ∈ ss.take k, p.2 ∣ f) ∧ Vl s2 ∧ Vl s3 ∧ ρ = rC (sD ss) f s2 s3) (ss.map pD) 0 _ ⟨1, none, none, by decide, Nat.one_dvd _, fun p hp => by simp at hp, .inl rfl, .inl rfl, rfl⟩ (by
    intro i ρ d hd ⟨f, s2, s3, f0, fT, fa, h2, h3, hρ⟩
    subst hρ
    rw [List.getElem?_map] at hd
    cases hp : ss[i]? with
    | none => rw [hp] at hd; cases hd
    | some p =>
      rw [hp] at hd
      cases hd
      have hm := List.mem_of_getElem? hp
      have o := h p hm
      have fl : f < 2 ^ 60 := Nat.lt_of_le_of_lt (Nat.le_of_dvd T0 fT) Tl
      refine ⟨rC (sD ss) f (some ⟨.val, .int (p.1 : Nat)⟩) (some ⟨.val, .int (p.2 : Nat)⟩), _, .nx, ?_, cu_body f0 o.u0 fl o.u, .inl rfl, Nat.lcm f p.2, _, _, Nat.lcm_pos f0 o.u0, Nat.lcm_dvd fT (hT p hm), fun q hq => ?_, .inr ⟨_, rfl⟩, .inr ⟨_, rfl⟩, rfl⟩
      · generalize sD ss = sd
        rcases h2 with rfl | ⟨t, rfl⟩ <;> rcases h3 with rfl | ⟨t, rfl⟩ <;> simp [rC, gT, gsCons, gsNil, gN, mStore, okSet, mkFn, isListAt, slots, slot0, mSeq, mAsg, mRet, mIfS, mDrop, mB, bnd, Mi.ret, thaw, thawR, mVal, valR, mVar, mC, mBin, mUn, op1, op2, look, opN, lookAll, mCall, aT, aV, aNil, mStore, okSet, isT, asB, mTup, mLst, valsOf, mNx, outIo, retR, Md.isOwn, Md.isIo, Md.isLk, fI, mIf, mAnd, mOr, mNot, mAndV, mOrV, mChain, mPar, mPar3, mF, mFk, callF, callIo, putIo, freezeBy, flatD, flatAll, flatY, mayGive, notSlot, gath, mAsgG, gT, gsCons, gsNil, gIx, gN, setIx, mSetIx, ownAt, mApp, appTo, mIsi, isiD, isK, kinds, tyD, mSl, mPart, mNoPart, asInt, slD, cutD, lenD, absD, max2D, min2D, gcdD, lcmD, intD, listD, tupleD, allD, boolsOf, divmodD, addD, subD, mulD, fdivD, modD, powD, ltD, leD, gtD, geD, isD, isntD, negD, notD, ixD, revD, atI, ixN, isNone, sizeLine, eqsD, nesD, eqD, neD, inD, inT, inL, mMt, mtS, startsD, findD, fmtD, mJs, strD, mFT, callT, mPar3O, mParO, noSlot]
      · rw [Nat.zero_add, List.take_add_one, hp] at hq
        rcases List.mem_append.mp hq with r | r
        · exact Nat.dvd_trans (fa q (by rw [Nat.zero_add]; exact r)) (Nat.dvd_lcm_left _ _)
        · have : q = p := by simpa using r
          subst this
          exact Nat.dvd_lcm_right _ _)
  subst hρ
  have a1 := for_run hi l1
  refine ⟨f, f0, fT, fun p hp => fa p (by rw [List.length_map, Nat.zero_add, List.take_length]; exact hp), ?_⟩
  have em : m_common_under [some ⟨.val, sD ss⟩, none, none, none] = some (.ok (.rt (.val (.int (f : Nat)))), rC (sD ss) f s2 s3) := by
    unfold m_common_under
    rw [seq_nx a0, seq_nx a1]
    simp [rC, mkFn, isListAt, slots, slot0, mSeq, mAsg, mRet, mIfS, mDrop, mB, bnd, Mi.ret, thaw, thawR, mVal, valR, mVar, mC, mBin, mUn, op1, op2, look, opN, lookAll, mCall, aT, aV, aNil, mStore, okSet, isT, asB, mTup, mLst, valsOf, mNx, outIo, retR, Md.isOwn, Md.isIo, Md.isLk, fI, mIf, mAnd, mOr, mNot, mAndV, mOrV, mChain, mPar, mPar3, mF, mFk, callF, callIo, putIo, freezeBy, flatD, flatAll, flatY, mayGive, notSlot, gath, mAsgG, gT, gsCons, gsNil, gIx, gN, setIx, mSetIx, ownAt, mApp, appTo, mIsi, isiD, isK, kinds, tyD, mSl, mPart, mNoPart, asInt, slD, cutD, lenD, absD, max2D, min2D, gcdD, lcmD, intD, listD, tupleD, allD, boolsOf, divmodD, addD, subD, mulD, fdivD, modD, powD, ltD, leD, gtD, geD, isD, isntD, negD, notD, ixD, revD, atI, ixN, isNone, sizeLine, eqsD, nesD, eqD, neD, inD, inT, inL, mMt, mtS, startsD, findD, fmtD, mJs, strD, mFT, callT, mPar3O, mParO, noSlot]
  generalize sD ss = sd at em ⊢
  simp [f_common_under, mkFn, isListAt, slots, slot0, em, outIo, retR]
end K83

namespace K83
open PySem L2 Evl PySem.Spec Mi
/-! ### the shares of parts -/
def shO (S q : Nat) : Nat × Nat := (q / Nat.gcd q S, S / Nat.gcd q S)
section
variable {S q : Nat}
theorem shO_rel (hS : 0 < S) : (shO S q).1 * S = q * (shO S q).2 := by
  unfold shO
  have g1 := Nat.gcd_dvd_left q S
  have g2 := Nat.gcd_dvd_right q S
  dsimp only
  obtain ⟨a, ha⟩ := g1
  obtain ⟨b, hb⟩ := g2
  have g0 : 0 < Nat.gcd q S := Nat.gcd_pos_of_pos_right _ hS
  generalize Nat.gcd q S = g at ha hb g0
  have e1 : q / g = a := by rw [ha]; exact Nat.mul_div_cancel_left _ g0
  have e2 : S / g = b := by rw [hb]; exact Nat.mul_div_cancel_left _ g0
  rw [e1, e2]
  rw [ha, hb]
  ac_rfl
theorem shO_dvd : (shO S q).2 ∣ S := Nat.div_dvd_of_dvd (Nat.gcd_dvd_right q S)
theorem shO_one (hq : 0 < q) (hS : 0 < S) (hl : S < 2 ^ 60) (hqS : q ≤ S) : One (shO S q) := by
  have g0 : 0 < Nat.gcd q S := Nat.gcd_pos_of_pos_right _ hS
  refine ⟨Nat.div_pos (Nat.le_of_dvd hq (Nat.gcd_dvd_left q S)) g0, Nat.div_pos (Nat.le_of_dvd hS (Nat.gcd_dvd_right q S)) g0, ?_, ?_, Nat.coprime_div_gcd_div_gcd g0⟩
  · exact Nat.lt_of_le_of_lt (Nat.le_trans (Nat.div_le_self _ _) hqS) hl
  · exact Nat.lt_of_le_of_lt (Nat.div_le_self _ _) hl
end
theorem tot_mul {S L : Nat} (hS : 0 < S) : ∀ ps : List Nat, (∀ p ∈ ps.map (shO S), p.2 ∣ L) → (((ps.map (shO S)).map fun p => p.1 * (L / p.2)).sum) * S = ps.sum * L
  | [], _ => by simp
  | q :: ps, h => by
    have ih := tot_mul hS ps fun p hp => h p (List.mem_cons_of_mem _ hp)
    have hd : (shO S q).2 ∣ L := h _ List.mem_cons_self
    have rel := shO_rel (S := S) (q := q) hS
    rw [List.map_cons, List.map_cons, List.sum_cons, List.sum_cons, Nat.add_mul, Nat.add_mul, ih]
    congr 1
    obtain ⟨k, hk⟩ := hd
    generalize (shO S q).1 = n at rel ⊢
    generalize (shO S q).2 = u at rel hk ⊢
    by_cases u0 : u = 0
    · subst u0
      rw [Nat.zero_mul] at hk
      subst hk
      rw [Nat.mul_zero] at rel
      simp
    have e : L / u = k := by rw [hk]; exact Nat.mul_div_cancel_left _ (Nat.pos_of_ne_zero u0)
    rw [e, hk]
    calc n * k * S = (n * S) * k := by ac_rfl
      _ = q * u * k := by rw [rel]
      _ = q * (u * k) := by ac_rfl
/-- parts that make shares -/
structure Parts (ps : List Nat) : Prop where
  l1 : 1 ≤ ps.length
  l2 : ps.length ≤ 30
  pos : ∀ q ∈ ps, 0 < q
  sm : ps.sum < 2 ^ 50
def shs (ps : List Nat) : List (Nat × Nat) := ps.map (shO ps.sum)
theorem le_sum {q : Nat} : ∀ {ps : List Nat}, q ∈ ps → q ≤ ps.sum
  | p :: ps, h => by
    rw [List.sum_cons]
    rcases List.mem_cons.mp h with e | e
    · subst e; omega
    · have := le_sum e; omega
section
variable {ps : List Nat} (h : Parts ps)
include h
theorem Parts.s0 : 0 < ps.sum := by
  cases hp : ps with
  | nil => have := h.l1; rw [hp] at this; simp at this
  | cons q r =>
    have := h.pos q (by rw [hp]; exact List.mem_cons_self)
    rw [List.sum_cons]
    omega
theorem Parts.one : ∀ p ∈ shs ps, One p := fun p hp => by
  obtain ⟨q, hq, rfl⟩ := List.mem_map.mp hp
  have s := h.sm
  exact shO_one (h.pos q hq) h.s0 (by omega) (le_sum hq)
theorem Parts.len : (shs ps).length = ps.length := List.length_map _
theorem Parts.dvd : ∀ p ∈ shs ps, p.2 ∣ ps.sum := fun p hp => by
  obtain ⟨q, hq, rfl⟩ := List.mem_map.mp hp
  exact shO_dvd
theorem Parts.tot {L : Nat} (hL : ∀ p ∈ shs ps, p.2 ∣ L) : ((shs ps).map fun p => p.1 * (L / p.2)).sum = L := by
  have e := tot_mul h.s0 ps hL
  rw [Nat.mul_comm ps.sum] at e
  exact Nat.eq_of_mul_eq_mul_right h.s0 e
end
def tv (L : Nat) : D → D
  | .tuple [.int a, .int b] => .int (a * ((L : Nat) : Int).fdiv b)
  | d => d
theorem tv_p (L : Nat) (p : Nat × Nat) : tv L (pD p) = .int ((p.1 * (L / p.2) : Nat) : Int) := by
  show PyData.int (((p.1 : Nat) : Int) * ((L : Nat) : Int).fdiv ((p.2 : Nat) : Int)) = _
  rw [fdiv_nat, ← Int.natCast_mul]
theorem ints_of (f : Nat × Nat → Nat) : ∀ ss : List (Nat × Nat), intsOf (ss.map fun p => .int ((f p : Nat) : Int)) = some (ss.map fun p => ((f p : Nat) : Int))
  | [] => rfl
  | p :: ss => by
    rw [List.map_cons, intsOf, ints_of f ss]
    rfl
theorem sum_cast (f : Nat × Nat → Nat) : ∀ ss : List (Nat × Nat), (ss.map fun p => ((f p : Nat) : Int)).sum = (((ss.map f).sum : Nat) : Int)
  | [] => rfl
  | p :: ss => by
    rw [List.map_cons, List.sum_cons, sum_cast f ss, List.map_cons, List.sum_cons, Int.natCast_add]
theorem total_of {sd : D} {L : Nat} {xs : List D} {t : Int} (lc : (mLc (mItD (mVar 0)) (gT 2 (gsCons (gN 2) (gsCons (gN 3) gsNil))) (ret true) (mBin mulD (mVar 2) (mBin fdivD (mVar 1) (mVar 3))) [2, 3]) [some ⟨.val, sd⟩, some ⟨.val, .int (L : Nat)⟩, none, none] = some (.ok (.fresh xs), [some ⟨.val, sd⟩, some ⟨.val, .int (L : Nat)⟩, none, none])) (sm : sumD [.list xs] = some (.val (.int t))) :
    f_total_over [sd, .int (L : Nat)] = some (.ok (.val (.int t)), .none) := by
  have a0 : m_total_over [some ⟨.val, sd⟩, some ⟨.val, .int (L : Nat)⟩, none, none] = some (.ok (.rt (.val (.int t))), [some ⟨.val, sd⟩, some ⟨.val, .int (L : Nat)⟩, none, none]) := by
    unfold m_total_over
    generalize (mLc (mItD (mVar 0)) (gT 2 (gsCons (gN 2) (gsCons (gN 3) gsNil))) (ret true) (mBin mulD (mVar 2) (mBin fdivD (mVar 1) (mVar 3))) [2, 3]) = m at lc
    simp [lc, sm, mkFn, isListAt, slots, slot0, mSeq, mAsg, mRet, mIfS, mDrop, mB, bnd, Mi.ret, thaw, thawR, mVal, valR, mVar, mC, mBin, mUn, op1, op2, look, opN, lookAll, mCall, aT, aV, aNil, mStore, okSet, isT, asB, mTup, mLst, valsOf, mNx, outIo, retR, Md.isOwn, Md.isIo, Md.isLk, fI, mIf, mAnd, mOr, mNot, mAndV, mOrV, mChain, mPar, mPar3, mF, mFk, callF, callIo, putIo, freezeBy, flatD, flatAll, flatY, mayGive, notSlot, gath, mAsgG, gT, gsCons, gsNil, gIx, gN, setIx, mSetIx, ownAt, mApp, appTo, mIsi, isiD, isK, kinds, tyD, mSl, mPart, mNoPart, asInt, slD, cutD, lenD, absD, max2D, min2D, gcdD, lcmD, intD, listD, tupleD, allD, boolsOf, divmodD, addD, subD, mulD, fdivD, modD, powD, ltD, leD, gtD, geD, isD, isntD, negD, notD, ixD, revD, atI, ixN, isNone, sizeLine, eqsD, nesD, eqD, neD, inD, inT, inL, mMt, mtS, startsD, findD, fmtD, mJs, strD, mFT, callT, mPar3O, mParO, noSlot, -sumD]
  simp [f_total_over, mkFn, isListAt, slots, slot0, a0, outIo, retR]
theorem ev_total {ps : List Nat} (h : Parts ps) {L : Nat} (L0 : 0 < L) (Ll : L < 2 ^ 60) (hL : ∀ p ∈ shs ps, p.2 ∣ L) : f_total_over [sD (shs ps), .int (L : Nat)] = some (.ok (.val (.int (L : Nat))), .none) := by
  refine total_of (xs := ((shs ps).map pD).map (tv L)) ?_ ?_
  · have e : ∀ p ∈ shs ps, One p := h.one
    have hl : (shs ps).length ≤ 30 := by rw [h.len]; exact h.l2
    generalize shs ps = ss at e hl
    refine lc_run (ρ1 := [some ⟨.val, sD ss⟩, some ⟨.val, .int (L : Nat)⟩, none, none]) (ρe := [some ⟨.val, sD ss⟩, some ⟨.val, .int (L : Nat)⟩, none, none]) (ds := ss.map pD) (by simp [mItD, iterD, mkFn, isListAt, slots, slot0, mSeq, mAsg, mRet, mIfS, mDrop, mB, bnd, Mi.ret, thaw, thawR, mVal, valR, mVar, mC, mBin, mUn, op1, op2, look, opN, lookAll, mCall, aT, aV, aNil, mStore, okSet, isT, asB, mTup, mLst, valsOf, mNx, outIo, retR, Md.isOwn, Md.isIo, Md.isLk, fI, mIf, mAnd, mOr, mNot, mAndV, mOrV, mChain, mPar, mPar3, mF, mFk, callF, callIo, putIo, freezeBy, flatD, flatAll, flatY, mayGive, notSlot, gath, mAsgG, gT, gsCons, gsNil, gIx, gN, setIx, mSetIx, ownAt, mApp, appTo, mIsi, isiD, isK, kinds, tyD, mSl, mPart, mNoPart, asInt, slD, cutD, lenD, absD, max2D, min2D, gcdD, lcmD, intD, listD, tupleD, allD, boolsOf, divmodD, addD, subD, mulD, fdivD, modD, powD, ltD, leD, gtD, geD, isD, isntD, negD, notD, ixD, revD, atI, ixN, isNone, sizeLine, eqsD, nesD, eqD, neD, inD, inT, inL, mMt, mtS, startsD, findD, fmtD, mJs, strD, mFT, callT, mPar3O, mParO, noSlot]) ?_
    show loopC _ _ _ _ _ [some ⟨.val, sD ss⟩, some ⟨.val, .int (L : Nat)⟩, none, none] [] = _
    refine loopC_map (f := tv L) (ss.map pD) [] (by rw [List.length_map, show sizeLine = 16777216 from rfl]; simp; omega) fun d hd => ?_
    obtain ⟨p, hp, rfl⟩ := List.mem_map.mp hd
    have o := e p hp
    refine ⟨[some ⟨.val, sD ss⟩, some ⟨.val, .int (L : Nat)⟩, some ⟨.val, .int (p.1 : Nat)⟩, some ⟨.val, .int (p.2 : Nat)⟩], [some ⟨.val, sD ss⟩, some ⟨.val, .int (L : Nat)⟩, some ⟨.val, .int (p.1 : Nat)⟩, some ⟨.val, .int (p.2 : Nat)⟩], ?_, ?_, rfl⟩
    · generalize sD ss = sd
      simp [gT, gsCons, gsNil, gN, mStore, okSet, mkFn, isListAt, slots, slot0, mSeq, mAsg, mRet, mIfS, mDrop, mB, bnd, Mi.ret, thaw, thawR, mVal, valR, mVar, mC, mBin, mUn, op1, op2, look, opN, lookAll, mCall, aT, aV, aNil, mStore, okSet, isT, asB, mTup, mLst, valsOf, mNx, outIo, retR, Md.isOwn, Md.isIo, Md.isLk, fI, mIf, mAnd, mOr, mNot, mAndV, mOrV, mChain, mPar, mPar3, mF, mFk, callF, callIo, putIo, freezeBy, flatD, flatAll, flatY, mayGive, notSlot, gath, mAsgG, gT, gsCons, gsNil, gIx, gN, setIx, mSetIx, ownAt, mApp, appTo, mIsi, isiD, isK, kinds, tyD, mSl, mPart, mNoPart, asInt, slD, cutD, lenD, absD, max2D, min2D, gcdD, lcmD, intD, listD, tupleD, allD, boolsOf, divmodD, addD, subD, mulD, fdivD, modD, powD, ltD, leD, gtD, geD, isD, isntD, negD, notD, ixD, revD, atI, ixN, isNone, sizeLine, eqsD, nesD, eqD, neD, inD, inT, inL, mMt, mtS, startsD, findD, fmtD, mJs, strD, mFT, callT, mPar3O, mParO, noSlot]
    · rw [tv_p]
      obtain ⟨n, u⟩ := p
      have u0 := o.u0
      have hn := o.n
      have hu := o.u
      dsimp only at u0 hn hu ⊢
      have nine : (2 : Nat) ^ 60 < 2 ^ 9000 := by decide +kernel
      have d : divOk ((u : Nat) : Int) = true := divOk_of (by omega) (by rw [Int.natAbs_natCast]; omega) (by decide)
      have q := fdiv_nat L u
      have le : L / u < 2 ^ 60 := Nat.lt_of_le_of_lt (Nat.div_le_self _ _) Ll
      have m : mulOk ((n : Nat) : Int) ((L / u : Nat) : Int) = true := mulOk_of (a := 60) (b := 60) (by rw [Int.natAbs_natCast]; exact hn) (by rw [Int.natAbs_natCast]; exact le) (by decide) (by decide) (by decide)
      have nu : ¬ u = 0 := by omega
      have cm : ((n * (L / u) : Nat) : Int) = ((n : Nat) : Int) * ((L / u : Nat) : Int) := Int.natCast_mul _ _
      rw [cm]
      rw [← q] at m ⊢
      generalize sD ss = sd
      simp [d, nu, m, mkFn, isListAt, slots, slot0, mSeq, mAsg, mRet, mIfS, mDrop, mB, bnd, Mi.ret, thaw, thawR, mVal, valR, mVar, mC, mBin, mUn, op1, op2, look, opN, lookAll, mCall, aT, aV, aNil, mStore, okSet, isT, asB, mTup, mLst, valsOf, mNx, outIo, retR, Md.isOwn, Md.isIo, Md.isLk, fI, mIf, mAnd, mOr, mNot, mAndV, mOrV, mChain, mPar, mPar3, mF, mFk, callF, callIo, putIo, freezeBy, flatD, flatAll, flatY, mayGive, notSlot, gath, mAsgG, gT, gsCons, gsNil, gIx, gN, setIx, mSetIx, ownAt, mApp, appTo, mIsi, isiD, isK, kinds, tyD, mSl, mPart, mNoPart, asInt, slD, cutD, lenD, absD, max2D, min2D, gcdD, lcmD, intD, listD, tupleD, allD, boolsOf, divmodD, addD, subD, mulD, fdivD, modD, powD, ltD, leD, gtD, geD, isD, isntD, negD, notD, ixD, revD, atI, ixN, isNone, sizeLine, eqsD, nesD, eqD, neD, inD, inT, inL, mMt, mtS, startsD, findD, fmtD, mJs, strD, mFT, callT, mPar3O, mParO, noSlot]
  · have e1 : ((shs ps).map pD).map (tv L) = (shs ps).map fun p => .int ((p.1 * (L / p.2) : Nat) : Int) := by
      rw [List.map_map]
      exact List.map_congr_left fun p _ => tv_p L p
    rw [e1]
    simp only [sumD]
    rw [ints_of (fun p => p.1 * (L / p.2)), Option.map_some, sum_cast (fun p => p.1 * (L / p.2)), h.tot hL]
theorem eqs_int (a b : Int) : eqsD (.int a) (.int b) = some (.val (.bool (decide (a = b)))) := by
  simp only [eqsD, eqD, shaped_int, Bool.and_self, if_true, eqv_int]
theorem ev_shares {ps : List Nat} (h : Parts ps) : f_want_shares [sD (shs ps)] = some (.ok (.val (sD (shs ps))), .none) := by
  have s := h.sm
  obtain ⟨L, L0, Ld, La, e2⟩ := ev_cu h.one h.s0 (by omega) h.dvd
  have Ll : L < 2 ^ 60 := Nat.lt_of_le_of_lt (Nat.le_of_dvd h.s0 Ld) (by omega)
  have e1 := ev_above h.one (by rw [h.len]; exact h.l1) (by rw [h.len]; have := h.l2; omega)
  have e3 := ev_total h L0 Ll La
  generalize sD (shs ps) = sd at e1 e2 e3 ⊢
  have q := eqs_int ((L : Nat) : Int) ((L : Nat) : Int)
  have is : f_is_shares [sd] = some (.ok (.val (.bool true)), .none) := by
    simp [f_is_shares, m_is_shares, e1, e2, e3, q, mkFn, isListAt, slots, slot0, mSeq, mAsg, mRet, mIfS, mDrop, mB, bnd, Mi.ret, thaw, thawR, mVal, valR, mVar, mC, mBin, mUn, op1, op2, look, opN, lookAll, mCall, aT, aV, aNil, mStore, okSet, isT, asB, mTup, mLst, valsOf, mNx, outIo, retR, Md.isOwn, Md.isIo, Md.isLk, fI, mIf, mAnd, mOr, mNot, mAndV, mOrV, mChain, mPar, mPar3, mF, mFk, callF, callIo, putIo, freezeBy, flatD, flatAll, flatY, mayGive, notSlot, gath, mAsgG, gT, gsCons, gsNil, gIx, gN, setIx, mSetIx, ownAt, mApp, appTo, mIsi, isiD, isK, kinds, tyD, mSl, mPart, mNoPart, asInt, slD, cutD, lenD, absD, max2D, min2D, gcdD, lcmD, intD, listD, tupleD, allD, boolsOf, divmodD, addD, subD, mulD, fdivD, modD, powD, leD, gtD, geD, isD, isntD, negD, notD, revD, isNone, sizeLine, mMt, mtS, startsD, findD, fmtD, mJs, strD, mFT, callT, mPar3O, mParO, noSlot]
  simp [f_want_shares, m_want_shares, is, mkFn, isListAt, slots, slot0, mSeq, mAsg, mRet, mIfS, mDrop, mB, bnd, Mi.ret, thaw, thawR, mVal, valR, mVar, mC, mBin, mUn, op1, op2, look, opN, lookAll, mCall, aT, aV, aNil, mStore, okSet, isT, asB, mTup, mLst, valsOf, mNx, outIo, retR, Md.isOwn, Md.isIo, Md.isLk, fI, mIf, mAnd, mOr, mNot, mAndV, mOrV, mChain, mPar, mPar3, mF, mFk, callF, callIo, putIo, freezeBy, flatD, flatAll, flatY, mayGive, notSlot, gath, mAsgG, gT, gsCons, gsNil, gIx, gN, setIx, mSetIx, ownAt, mApp, appTo, mIsi, isiD, isK, kinds, tyD, mSl, mPart, mNoPart, asInt, slD, cutD, lenD, absD, max2D, min2D, gcdD, lcmD, intD, listD, tupleD, allD, boolsOf, divmodD, addD, subD, mulD, fdivD, modD, powD, leD, gtD, geD, isD, isntD, negD, notD, revD, isNone, sizeLine, mMt, mtS, startsD, findD, fmtD, mJs, strD, mFT, callT, mPar3O, mParO, noSlot]
end K83

namespace K83
open PySem L2 Evl PySem.Spec Mi
/-! ### lags -/
theorem ixN_nat {n i : Nat} (h : i < n) : ixN n ((i : Nat) : Int) = some i := by
  unfold ixN
  rw [if_pos (by omega), if_pos (by omega), Int.toNat_natCast]
theorem ixD_list {xs : List D} {i : Nat} {d : D} (h : xs[i]? = some d) : ixD (.list xs) (.int (i : Nat)) = some (.val d) := by
  have hl := (List.getElem?_eq_some_iff.mp h).1
  simp only [ixD, atI, ixN_nat hl, Option.bind_some, h, Option.map_some]
theorem ixD_tup {xs : List D} {i : Nat} {d : D} (h : xs[i]? = some d) : ixD (.tuple xs) (.int (i : Nat)) = some (.val d) := by
  have hl := (List.getElem?_eq_some_iff.mp h).1
  simp only [ixD, atI, ixN_nat hl, Option.bind_some, h, Option.map_some]
def cD (cs : List Nat) : List D := cs.map fun c => .int (c : Nat)
def inc (cs : List Nat) (l : Nat) : List Nat := cs.set l (cs.getD l 0 + 1)
theorem inc_len (cs : List Nat) (l : Nat) : (inc cs l).length = cs.length := List.length_set
theorem cD_len (cs : List Nat) : (cD cs).length = cs.length := List.length_map _
theorem cD_get {cs : List Nat} {l : Nat} (h : l < cs.length) : (cD cs)[l]? = some (.int ((cs.getD l 0 : Nat) : Int)) := by
  unfold cD
  rw [List.getElem?_map, List.getElem?_eq_getElem h, List.getD_eq_getElem?_getD, List.getElem?_eq_getElem h]
  rfl
theorem cD_set (cs : List Nat) (l : Nat) : (cD cs).set l (.int (((cs.getD l 0 : Nat) : Int) + 1)) = cD (inc cs l) := by
  unfold cD inc
  rw [List.map_set]
  rfl
def lag (p : Nat × Nat) (c m : Nat) : Int := ((m : Nat) : Int) * (p.1 : Nat) - ((c : Nat) : Int) * (p.2 : Nat)
def lagL (ss : List (Nat × Nat)) (cs : List Nat) (m : Nat) : List Int := (ss.zip cs).map fun x => lag x.1 x.2 m
def iD (xs : List Int) : List D := xs.map PyData.int
def lagD (l : List Int) : D := .list (iD l)
def walk (ss : List (Nat × Nat)) : List Nat → List Nat → Nat → List (List Int)
  | [], _, _ => []
  | l :: r, cs, m => lagL ss (inc cs l) (m + 1) :: walk ss r (inc cs l) (m + 1)
def rB (sd rd : D) (cs : List Nat) (fnd : List D) (m l : Nat) : R := [some ⟨.val, sd⟩, some ⟨.val, rd⟩, some ⟨.own, .list (cD cs)⟩, some ⟨.own, .list fnd⟩, some ⟨.val, .int (m : Nat)⟩, some ⟨.val, .int (l : Nat)⟩, none, none, none]
theorem lags_set {sd rd : D} {cs : List Nat} {fnd : List D} {m l : Nat} (h : l < cs.length) : (mSetIx 2 (mVar 5) (mBin addD (mBin ixD (mVar 2) (mVar 5)) (mC (.int 1)))) (rB sd rd cs fnd m l) = some (.ok .nx, rB sd rd (inc cs l) fnd m l) := by
  have g := cD_get h
  have i := ixD_list g
  have n : ixN (cD cs).length ((l : Nat) : Int) = some l := ixN_nat (by rw [cD_len]; exact h)
  have s := cD_set cs l
  unfold rB
  generalize cD (inc cs l) = ys at s ⊢
  generalize cD cs = xs at i n s ⊢
  generalize cs.getD l 0 = c at i s
  simp [mSetIx, setIx, ownAt, i, n, s, mkFn, isListAt, slots, slot0, mSeq, mAsg, mRet, mIfS, mDrop, mB, bnd, Mi.ret, thaw, thawR, mVal, valR, mVar, mC, mBin, mUn, op1, op2, look, opN, lookAll, mCall, aT, aV, aNil, mStore, okSet, isT, asB, mTup, mLst, valsOf, mNx, outIo, retR, Md.isOwn, Md.isIo, Md.isLk, fI, mIf, mAnd, mOr, mNot, mAndV, mOrV, mChain, mPar, mPar3, mF, mFk, callF, callIo, putIo, freezeBy, flatD, flatAll, flatY, mayGive, notSlot, gath, mAsgG, gT, gsCons, gsNil, gIx, gN, setIx, mSetIx, ownAt, mApp, appTo, mIsi, isiD, isK, kinds, tyD, mSl, mPart, mNoPart, asInt, slD, cutD, lenD, absD, max2D, min2D, gcdD, lcmD, intD, listD, tupleD, allD, boolsOf, divmodD, addD, subD, mulD, fdivD, modD, powD, leD, gtD, geD, isD, isntD, negD, notD, revD, isNone, sizeLine, mMt, mtS, startsD, findD, fmtD, mJs, strD, mFT, callT, mPar3O, mParO, noSlot]
def lv (m : Int) : D → D
  | .tuple [.tuple [.int n, .int u], .int c] => .int (m * n - c * u)
  | d => d
theorem lv_map (ss : List (Nat × Nat)) (cs : List Nat) (m : Nat) : ((ss.zip cs).map fun p => PyData.tuple [pD p.1, .int (p.2 : Nat)]).map (lv (m : Nat)) = iD (lagL ss cs m) := by
  unfold iD lagL
  rw [List.map_map, List.map_map]
  exact List.map_congr_left fun p _ => rfl
structure CsOk (ss : List (Nat × Nat)) (cs : List Nat) (m : Nat) : Prop where
  len : cs.length = ss.length
  le : ∀ c ∈ cs, c ≤ m
  m : m < 2 ^ 30
  sl : ss.length ≤ 30
theorem lags_lc {ss : List (Nat × Nat)} {rd : D} {cs : List Nat} {fnd : List D} {m l : Nat} (h : ∀ p ∈ ss, One p) (k : CsOk ss cs (m + 1)) : (mLc (mZip (mVar 0) (mVar 2)) (gT 2 (gsCons (gT 2 (gsCons (gN 6) (gsCons (gN 7) gsNil))) (gsCons (gN 8) gsNil))) (ret true) (mBin subD (mBin mulD (mBin addD (mVar 4) (mC (.int 1))) (mVar 6)) (mBin mulD (mVar 8) (mVar 7))) [8, 6, 7]) (rB (sD ss) rd cs fnd m l) = some (.ok (.fresh (iD (lagL ss cs (m + 1)))), rB (sD ss) rd cs fnd m l) := by
  have sl := k.sl
  have hz : zipL (ss.map pD) (cD cs) = (ss.zip cs).map fun p => PyData.tuple [pD p.1, .int (p.2 : Nat)] := zipL_map pD (fun c : Nat => PyData.int (c : Nat)) ss cs
  refine lc_runK (I := ⟨zipL (ss.map pD) (cD cs), [(2, .list (cD cs))]⟩) (ρ1 := [some ⟨.val, sD ss⟩, some ⟨.val, rd⟩, some ⟨.lock, .list (cD cs)⟩, some ⟨.own, .list fnd⟩, some ⟨.val, .int (m : Nat)⟩, some ⟨.val, .int (l : Nat)⟩, none, none, none])
    (ρe := [some ⟨.val, sD ss⟩, some ⟨.val, rd⟩, some ⟨.lock, .list (cD cs)⟩, some ⟨.own, .list fnd⟩, some ⟨.val, .int (m : Nat)⟩, some ⟨.val, .int (l : Nat)⟩, none, none, none]) ?_ (by simp) (by simp [rB, freeAt, Md.isLk]) (by simp) ?_ ?_
  · unfold rB
    generalize cD cs = xs
    simp [mZip, mItL, iterL, iterD, mkFn, isListAt, slots, slot0, mSeq, mAsg, mRet, mIfS, mDrop, mB, bnd, Mi.ret, thaw, thawR, mVal, valR, mVar, mC, mBin, mUn, op1, op2, look, opN, lookAll, mCall, aT, aV, aNil, mStore, okSet, isT, asB, mTup, mLst, valsOf, mNx, outIo, retR, Md.isOwn, Md.isIo, Md.isLk, fI, mIf, mAnd, mOr, mNot, mAndV, mOrV, mChain, mPar, mPar3, mF, mFk, callF, callIo, putIo, freezeBy, flatD, flatAll, flatY, mayGive, notSlot, gath, mAsgG, gT, gsCons, gsNil, gIx, gN, setIx, mSetIx, ownAt, mApp, appTo, mIsi, isiD, isK, kinds, tyD, mSl, mPart, mNoPart, asInt, slD, cutD, lenD, absD, max2D, min2D, gcdD, lcmD, intD, listD, tupleD, allD, boolsOf, divmodD, addD, subD, mulD, fdivD, modD, powD, ltD, leD, gtD, geD, isD, isntD, negD, notD, ixD, revD, atI, ixN, isNone, sizeLine, eqsD, nesD, eqD, neD, inD, inT, inL, mMt, mtS, startsD, findD, fmtD, mJs, strD, mFT, callT, mPar3O, mParO, noSlot]
  · dsimp only
    rw [hz, ← lv_map]
    show loopC _ _ _ _ _ [some ⟨.val, sD ss⟩, some ⟨.val, rd⟩, some ⟨.lock, .list (cD cs)⟩, some ⟨.own, .list fnd⟩, some ⟨.val, .int (m : Nat)⟩, some ⟨.val, .int (l : Nat)⟩, none, none, none] [] = _
    refine loopC_map (f := lv ((m + 1 : Nat) : Int)) _ [] (by rw [List.length_map, List.length_zip, show sizeLine = 16777216 from rfl]; simp; omega) fun d hd => ?_
    obtain ⟨⟨⟨n, u⟩, c⟩, hx, rfl⟩ := List.mem_map.mp hd
    have hp := List.of_mem_zip hx
    have o := h _ hp.1
    have hc := k.le c hp.2
    have hm := k.m
    have hn := o.n
    have hu := o.u
    dsimp only at hn hu hc ⊢
    have m1 : mulOk (((m : Nat) : Int) + 1) ((n : Nat) : Int) = true := mulOk_of (a := 60) (b := 60) (by omega) (by omega) (by decide) (by decide) (by decide)
    have m2 : mulOk ((c : Nat) : Int) ((u : Nat) : Int) = true := mulOk_of (a := 60) (b := 60) (by omega) (by omega) (by decide) (by decide) (by decide)
    refine ⟨[some ⟨.val, sD ss⟩, some ⟨.val, rd⟩, some ⟨.lock, .list (cD cs)⟩, some ⟨.own, .list fnd⟩, some ⟨.val, .int (m : Nat)⟩, some ⟨.val, .int (l : Nat)⟩, some ⟨.val, .int (n : Nat)⟩, some ⟨.val, .int (u : Nat)⟩, some ⟨.val, .int (c : Nat)⟩],
      [some ⟨.val, sD ss⟩, some ⟨.val, rd⟩, some ⟨.lock, .list (cD cs)⟩, some ⟨.own, .list fnd⟩, some ⟨.val, .int (m : Nat)⟩, some ⟨.val, .int (l : Nat)⟩, some ⟨.val, .int (n : Nat)⟩, some ⟨.val, .int (u : Nat)⟩, some ⟨.val, .int (c : Nat)⟩], ?_, ?_, rfl⟩
    · generalize sD ss = sd
      simp [gT, gsCons, gsNil, gN, mStore, okSet, mkFn, isListAt, slots, slot0, mSeq, mAsg, mRet, mIfS, mDrop, mB, bnd, Mi.ret, thaw, thawR, mVal, valR, mVar, mC, mBin, mUn, op1, op2, look, opN, lookAll, mCall, aT, aV, aNil, mStore, okSet, isT, asB, mTup, mLst, valsOf, mNx, outIo, retR, Md.isOwn, Md.isIo, Md.isLk, fI, mIf, mAnd, mOr, mNot, mAndV, mOrV, mChain, mPar, mPar3, mF, mFk, callF, callIo, putIo, freezeBy, flatD, flatAll, flatY, mayGive, notSlot, gath, mAsgG, gT, gsCons, gsNil, gIx, gN, setIx, mSetIx, ownAt, mApp, appTo, mIsi, isiD, isK, kinds, tyD, mSl, mPart, mNoPart, asInt, slD, cutD, lenD, absD, max2D, min2D, gcdD, lcmD, intD, listD, tupleD, allD, boolsOf, divmodD, addD, subD, mulD, fdivD, modD, powD, ltD, leD, gtD, geD, isD, isntD, negD, notD, ixD, revD, atI, ixN, isNone, sizeLine, eqsD, nesD, eqD, neD, inD, inT, inL, mMt, mtS, startsD, findD, fmtD, mJs, strD, mFT, callT, mPar3O, mParO, noSlot]
    · generalize sD ss = sd
      simp [lv, m1, m2, mkFn, isListAt, slots, slot0, mSeq, mAsg, mRet, mIfS, mDrop, mB, bnd, Mi.ret, thaw, thawR, mVal, valR, mVar, mC, mBin, mUn, op1, op2, look, opN, lookAll, mCall, aT, aV, aNil, mStore, okSet, isT, asB, mTup, mLst, valsOf, mNx, outIo, retR, Md.isOwn, Md.isIo, Md.isLk, fI, mIf, mAnd, mOr, mNot, mAndV, mOrV, mChain, mPar, mPar3, mF, mFk, callF, callIo, putIo, freezeBy, flatD, flatAll, flatY, mayGive, notSlot, gath, mAsgG, gT, gsCons, gsNil, gIx, gN, setIx, mSetIx, ownAt, mApp, appTo, mIsi, isiD, isK, kinds, tyD, mSl, mPart, mNoPart, asInt, slD, cutD, lenD, absD, max2D, min2D, gcdD, lcmD, intD, listD, tupleD, allD, boolsOf, divmodD, addD, subD, mulD, fdivD, modD, powD, ltD, leD, gtD, geD, isD, isntD, negD, notD, ixD, revD, atI, ixN, isNone, sizeLine, eqsD, nesD, eqD, neD, inD, inT, inL, mMt, mtS, startsD, findD, fmtD, mJs, strD, mFT, callT, mPar3O, mParO, noSlot]
  · rfl
theorem lags_app {ss : List (Nat × Nat)} {rd : D} {cs : List Nat} {fnd : List D} {m l : Nat} (h : ∀ p ∈ ss, One p) (k : CsOk ss cs (m + 1)) (hf : fnd.length < 10000) : (mApp 3 (mLc (mZip (mVar 0) (mVar 2)) (gT 2 (gsCons (gT 2 (gsCons (gN 6) (gsCons (gN 7) gsNil))) (gsCons (gN 8) gsNil))) (ret true) (mBin subD (mBin mulD (mBin addD (mVar 4) (mC (.int 1))) (mVar 6)) (mBin mulD (mVar 8) (mVar 7))) [8, 6, 7])) (rB (sD ss) rd cs fnd m l) = some (.ok .nx, rB (sD ss) rd cs (fnd ++ [lagD (lagL ss cs (m + 1))]) m l) := by
  have e := lags_lc (rd := rd) (fnd := fnd) (l := l) h k
  generalize (mLc (mZip (mVar 0) (mVar 2)) (gT 2 (gsCons (gT 2 (gsCons (gN 6) (gsCons (gN 7) gsNil))) (gsCons (gN 8) gsNil))) (ret true) (mBin subD (mBin mulD (mBin addD (mVar 4) (mC (.int 1))) (mVar 6)) (mBin mulD (mVar 8) (mVar 7))) [8, 6, 7]) = mm at e
  have hf2 : fnd.length < 16777216 := by omega
  unfold lagD
  generalize iD (lagL ss cs (m + 1)) = xs at e ⊢
  unfold rB at e ⊢
  generalize sD ss = sd at e ⊢
  simp [mApp, appTo, ownAt, e, hf2, mkFn, isListAt, slots, slot0, mSeq, mAsg, mRet, mIfS, mDrop, mB, bnd, Mi.ret, thaw, thawR, mVal, valR, mVar, mC, mBin, mUn, op1, op2, look, opN, lookAll, mCall, aT, aV, aNil, mStore, okSet, isT, asB, mTup, mLst, valsOf, mNx, outIo, retR, Md.isOwn, Md.isIo, Md.isLk, fI, mIf, mAnd, mOr, mNot, mAndV, mOrV, mChain, mPar, mPar3, mF, mFk, callF, callIo, putIo, freezeBy, flatD, flatAll, flatY, mayGive, notSlot, gath, mAsgG, gT, gsCons, gsNil, gIx, gN, setIx, mSetIx, ownAt, mApp, appTo, mIsi, isiD, isK, kinds, tyD, mSl, mPart, mNoPart, asInt, slD, cutD, lenD, absD, max2D, min2D, gcdD, lcmD, intD, listD, tupleD, allD, boolsOf, divmodD, addD, subD, mulD, fdivD, modD, powD, leD, gtD, geD, isD, isntD, negD, notD, revD, isNone, sizeLine, mMt, mtS, startsD, findD, fmtD, mJs, strD, mFT, callT, mPar3O, mParO, noSlot]
end K83

namespace K83
open PySem L2 Evl PySem.Spec Mi
abbrev ri (row : List Nat) : List D := row.map fun l => .int (l : Nat)
def rowD (b : Bool) (row : List Nat) : D := if b then .list (ri row) else .tuple (ri row)
def rA (sd rd : D) (cs : List Nat) (fnd : List D) (s4 s5 : Option Slot) : R := [some ⟨.val, sd⟩, some ⟨.val, rd⟩, some ⟨.own, .list (cD cs)⟩, some ⟨.own, .list fnd⟩, s4, s5, none, none, none]
theorem getD_le {cs : List Nat} {k : Nat} (h : ∀ c ∈ cs, c ≤ k) (l : Nat) : cs.getD l 0 ≤ k := by
  rw [List.getD_eq_getElem?_getD]
  cases e : cs[l]? with
  | none => exact Nat.zero_le _
  | some c => exact h c (List.mem_of_getElem? e)
theorem CsOk.step {ss : List (Nat × Nat)} {cs : List Nat} {k : Nat} (h : CsOk ss cs k) (l : Nat) (hk : k + 1 < 2 ^ 30) : CsOk ss (inc cs l) (k + 1) := ⟨by rw [inc_len]; exact h.len, fun c hc => by
  rcases List.mem_or_eq_of_mem_set hc with q | q
  · exact Nat.le_succ_of_le (h.le c q)
  · have := getD_le h.le l
    omega, hk, h.sl⟩
theorem lags_loop {ss : List (Nat × Nat)} {rd : D} (h : ∀ p ∈ ss, One p) : ∀ (row : List Nat) (k : Nat) (cs : List Nat) (fnd : List D) (s4 s5 : Option Slot), CsOk ss cs k → (∀ l ∈ row, l < ss.length) → k + row.length < 2 ^ 30 → fnd.length + row.length < 10000 → Vl s4 → Vl s5 →
    ∃ s4' s5' cs', loopF ((gT 2 (gsCons (gN 4) (gsCons (gN 5) gsNil)))) ((mSeq (mSetIx 2 (mVar 5) (mBin addD (mBin ixD (mVar 2) (mVar 5)) (mC (.int 1)))) (mApp 3 (mLc (mZip (mVar 0) (mVar 2)) (gT 2 (gsCons (gT 2 (gsCons (gN 6) (gsCons (gN 7) gsNil))) (gsCons (gN 8) gsNil))) (ret true) (mBin subD (mBin mulD (mBin addD (mVar 4) (mC (.int 1))) (mVar 6)) (mBin mulD (mVar 8) (mVar 7))) [8, 6, 7])))) (enumL k (ri row)) (rA (sD ss) rd cs fnd s4 s5) = some (.ok .nx, rA (sD ss) rd cs' (fnd ++ (walk ss row cs k).map lagD) s4' s5')
  | [], k, cs, fnd, s4, s5, _, _, _, _, _, _ => ⟨s4, s5, cs, by
    show Mi.ret Fl.nx _ = _
    simp [walk, Mi.ret]⟩
  | l :: row, k, cs, fnd, s4, s5, c, hl, hk, hf, h4, h5 => by
    rw [List.length_cons] at hk hf
    have c' := c.step l (by omega)
    obtain ⟨s4', s5', cs', e⟩ := lags_loop (rd := rd) h row (k + 1) (inc cs l) (fnd ++ [lagD (lagL ss (inc cs l) (k + 1))]) (some ⟨.val, .int (k : Nat)⟩) (some ⟨.val, .int (l : Nat)⟩) c' (fun x hx => hl x (List.mem_cons_of_mem _ hx)) (by omega) (by rw [List.length_append, List.length_singleton]; omega) (.inr ⟨_, rfl⟩) (.inr ⟨_, rfl⟩)
    refine ⟨s4', s5', cs', ?_⟩
    have st : ((gT 2 (gsCons (gN 4) (gsCons (gN 5) gsNil)))) (.tuple [.int (k : Nat), .int (l : Nat)]) (rA (sD ss) rd cs fnd s4 s5) = some (.ok (), rA (sD ss) rd cs fnd (some ⟨.val, .int (k : Nat)⟩) (some ⟨.val, .int (l : Nat)⟩)) := by
      generalize sD ss = sd
      rcases h4 with rfl | ⟨t, rfl⟩ <;> rcases h5 with rfl | ⟨t, rfl⟩ <;> simp [rA, gT, gsCons, gsNil, gN, mStore, okSet, mkFn, isListAt, slots, slot0, mSeq, mAsg, mRet, mIfS, mDrop, mB, bnd, Mi.ret, thaw, thawR, mVal, valR, mVar, mC, mBin, mUn, op1, op2, look, opN, lookAll, mCall, aT, aV, aNil, mStore, okSet, isT, asB, mTup, mLst, valsOf, mNx, outIo, retR, Md.isOwn, Md.isIo, Md.isLk, fI, mIf, mAnd, mOr, mNot, mAndV, mOrV, mChain, mPar, mPar3, mF, mFk, callF, callIo, putIo, freezeBy, flatD, flatAll, flatY, mayGive, notSlot, gath, mAsgG, gT, gsCons, gsNil, gIx, gN, setIx, mSetIx, ownAt, mApp, appTo, mIsi, isiD, isK, kinds, tyD, mSl, mPart, mNoPart, asInt, slD, cutD, lenD, absD, max2D, min2D, gcdD, lcmD, intD, listD, tupleD, allD, boolsOf, divmodD, addD, subD, mulD, fdivD, modD, powD, ltD, leD, gtD, geD, isD, isntD, negD, notD, ixD, revD, atI, ixN, isNone, sizeLine, eqsD, nesD, eqD, neD, inD, inT, inL, mMt, mtS, startsD, findD, fmtD, mJs, strD, mFT, callT, mPar3O, mParO, noSlot]
    have a1 := lags_set (sd := sD ss) (rd := rd) (cs := cs) (fnd := fnd) (m := k) (l := l) (by rw [c.len]; exact hl l List.mem_cons_self)
    have a2 := lags_app (rd := rd) (fnd := fnd) (m := k) (l := l) h c' (by omega)
    have b : ((mSeq (mSetIx 2 (mVar 5) (mBin addD (mBin ixD (mVar 2) (mVar 5)) (mC (.int 1)))) (mApp 3 (mLc (mZip (mVar 0) (mVar 2)) (gT 2 (gsCons (gT 2 (gsCons (gN 6) (gsCons (gN 7) gsNil))) (gsCons (gN 8) gsNil))) (ret true) (mBin subD (mBin mulD (mBin addD (mVar 4) (mC (.int 1))) (mVar 6)) (mBin mulD (mVar 8) (mVar 7))) [8, 6, 7])))) (rA (sD ss) rd cs fnd (some ⟨.val, .int (k : Nat)⟩) (some ⟨.val, .int (l : Nat)⟩)) = some (.ok .nx, rA (sD ss) rd (inc cs l) (fnd ++ [lagD (lagL ss (inc cs l) (k + 1))]) (some ⟨.val, .int (k : Nat)⟩) (some ⟨.val, .int (l : Nat)⟩)) := by
      show mSeq _ _ (rB (sD ss) rd cs fnd k l) = _
      rw [seq_nx a1]
      exact a2
    have er : enumL k (ri (l :: row)) = .tuple [.int (k : Nat), .int (l : Nat)] :: enumL (k + 1) (ri row) := rfl
    rw [er]
    unfold loopF bnd
    rw [st]
    dsimp only
    rw [b]
    dsimp only
    rw [e, walk, List.map_cons, List.append_assoc]
    rfl
def zs (k : Nat) : List Nat := List.replicate k 0
def allL (ss : List (Nat × Nat)) (row : List Nat) : List (List Int) := lagL ss (zs ss.length) 0 :: walk ss row (zs ss.length) 0
theorem lag_zero (p : Nat × Nat) : lag p 0 0 = 0 := by simp [lag]
theorem lagL_zero : ∀ ss : List (Nat × Nat), lagL ss (zs ss.length) 0 = List.replicate ss.length 0
  | [] => rfl
  | p :: ss => by
    have ih := lagL_zero ss
    unfold lagL zs at ih ⊢
    rw [List.length_cons, List.replicate_succ, List.zip_cons_cons, List.map_cons, ih, lag_zero, List.replicate_succ]
theorem mul_zero {k : Nat} (h : k ≤ 100) : mulD (.list [.int 0]) (.int (k : Nat)) = some (.fresh (List.replicate k (.int 0))) := by
  have r : repOk 1 ((k : Nat) : Int) = true := by
    unfold repOk
    exact decide_eq_true ⟨by omega, by omega, by rw [show sizeLine = 16777216 from rfl]; omega⟩
  simp only [mulD, fI, List.length_singleton, r, if_true, Int.toNat_natCast]
  rw [List.flatten_replicate_singleton]
theorem cD_zs (k : Nat) : cD (zs k) = List.replicate k (.int 0) := by
  unfold cD zs
  rw [List.map_replicate]
  rfl
theorem zs_ok {ss : List (Nat × Nat)} (h : ss.length ≤ 30) : CsOk ss (zs ss.length) 0 := ⟨List.length_replicate, fun c hc => by
  rw [(List.mem_replicate.mp hc).2]
  exact Nat.le_refl _, by decide, h⟩
theorem len_sD (ss : List (Nat × Nat)) : lenD [sD ss] = some (.val (.int (ss.length : Nat))) := by
  simp [lenD]
theorem lags_a {sd rd : D} {n : Int} {z : List D} (ln : lenD [sd] = some (.val (.int n))) (mz : mulD (.list [.int 0]) (.int n) = some (.fresh z)) : (mParO 2 3 (mBin mulD (mLst (aV (mC (.int 0)) aNil)) (mCall lenD (aT (mVar 0) aNil))) (mLst (aV (mBin mulD (mLst (aV (mC (.int 0)) aNil)) (mCall lenD (aT (mVar 0) aNil))) aNil))) [some ⟨.val, sd⟩, some ⟨.val, rd⟩, none, none, none, none, none, none, none] = some (.ok .nx, [some ⟨.val, sd⟩, some ⟨.val, rd⟩, some ⟨.own, .list z⟩, some ⟨.own, .list [.list z]⟩, none, none, none, none, none]) := by
  simp [mParO, noSlot, ln, mz, mkFn, isListAt, slots, slot0, mSeq, mAsg, mRet, mIfS, mDrop, mB, bnd, Mi.ret, thaw, thawR, mVal, valR, mVar, mC, mBin, mUn, op1, op2, look, opN, lookAll, mCall, aT, aV, aNil, mStore, okSet, isT, asB, mTup, mLst, valsOf, mNx, outIo, retR, Md.isOwn, Md.isIo, Md.isLk, fI, mIf, mAnd, mOr, mNot, mAndV, mOrV, mChain, mPar, mPar3, mF, mFk, callF, callIo, putIo, freezeBy, flatD, flatAll, flatY, mayGive, notSlot, gath, mAsgG, gT, gsCons, gsNil, gIx, gN, setIx, mSetIx, ownAt, mApp, appTo, mIsi, isiD, isK, kinds, tyD, mSl, mPart, mNoPart, asInt, slD, cutD, lenD, absD, max2D, min2D, gcdD, lcmD, intD, listD, tupleD, allD, boolsOf, divmodD, addD, subD, mulD, fdivD, modD, powD, leD, gtD, geD, isD, isntD, negD, notD, revD, isNone, sizeLine, mMt, mtS, startsD, findD, fmtD, mJs, strD, mFT, callT, mPar3O, mParO, noSlot, -mulD, -lenD]
theorem lags_a0 {ss : List (Nat × Nat)} {b : Bool} {row : List Nat} (mz : mulD (.list [.int 0]) (.int (ss.length : Nat)) = some (.fresh (List.replicate ss.length (.int 0)))) : (mParO 2 3 (mBin mulD (mLst (aV (mC (.int 0)) aNil)) (mCall lenD (aT (mVar 0) aNil))) (mLst (aV (mBin mulD (mLst (aV (mC (.int 0)) aNil)) (mCall lenD (aT (mVar 0) aNil))) aNil))) [some ⟨.val, sD ss⟩, some ⟨.val, rowD b row⟩, none, none, none, none, none, none, none] = some (.ok .nx, rA (sD ss) (rowD b row) (zs ss.length) [lagD (lagL ss (zs ss.length) 0)] none none) := by
  have e1 : lagD (lagL ss (zs ss.length) 0) = .list (List.replicate ss.length (.int 0)) := by
    rw [lagL_zero]
    unfold lagD iD
    rw [List.map_replicate]
  rw [e1]
  unfold rA
  rw [cD_zs]
  exact lags_a (len_sD ss) mz
theorem lags_hi {ss : List (Nat × Nat)} {b : Bool} {row : List Nat} : ((mEnum (mVar 1))) (rA (sD ss) (rowD b row) (zs ss.length) [lagD (lagL ss (zs ss.length) 0)] none none) = some (.ok ⟨enumL 0 (ri row), []⟩, rA (sD ss) (rowD b row) (zs ss.length) [lagD (lagL ss (zs ss.length) 0)] none none) := by
  generalize [lagD (lagL ss (zs ss.length) 0)] = fnd
  unfold rA
  generalize cD (zs ss.length) = z
  generalize sD ss = sd
  cases b <;> simp [rowD, mEnum, mItL, iterL, iterD, mkFn, isListAt, slots, slot0, mSeq, mAsg, mRet, mIfS, mDrop, mB, bnd, Mi.ret, thaw, thawR, mVal, valR, mVar, mC, mBin, mUn, op1, op2, look, opN, lookAll, mCall, aT, aV, aNil, mStore, okSet, isT, asB, mTup, mLst, valsOf, mNx, outIo, retR, Md.isOwn, Md.isIo, Md.isLk, fI, mIf, mAnd, mOr, mNot, mAndV, mOrV, mChain, mPar, mPar3, mF, mFk, callF, callIo, putIo, freezeBy, flatD, flatAll, flatY, mayGive, notSlot, gath, mAsgG, gT, gsCons, gsNil, gIx, gN, setIx, mSetIx, ownAt, mApp, appTo, mIsi, isiD, isK, kinds, tyD, mSl, mPart, mNoPart, asInt, slD, cutD, lenD, absD, max2D, min2D, gcdD, lcmD, intD, listD, tupleD, allD, boolsOf, divmodD, addD, subD, mulD, fdivD, modD, powD, ltD, leD, gtD, geD, isD, isntD, negD, notD, ixD, revD, atI, ixN, isNone, sizeLine, eqsD, nesD, eqD, neD, inD, inT, inL, mMt, mtS, startsD, findD, fmtD, mJs, strD, mFT, callT, mPar3O, mParO, noSlot]
theorem ev_lags {ss : List (Nat × Nat)} {b : Bool} {row : List Nat} (h : ∀ p ∈ ss, One p) (hs : ss.length ≤ 30) (hr : ∀ l ∈ row, l < ss.length) (hl : row.length ≤ 5000) : f_lags_behind [sD ss, rowD b row] = some (.ok (.fresh ((allL ss row).map lagD)), .none) := by
  have mz := mul_zero (k := ss.length) (by omega)
  have ln := len_sD ss
  obtain ⟨s4, s5, cs', lp⟩ := lags_loop (rd := rowD b row) h row 0 (zs ss.length) [lagD (lagL ss (zs ss.length) 0)] none none (zs_ok hs) hr (by omega) (by simp; omega) (.inl rfl) (.inl rfl)
  have a0 := lags_a0 (b := b) (row := row) mz
  have hi := lags_hi (ss := ss) (b := b) (row := row)
  have a1 := for_run hi lp
  have em : m_lags_behind [some ⟨.val, sD ss⟩, some ⟨.val, rowD b row⟩, none, none, none, none, none, none, none] = some (.ok (.rt (.slot 3)), rA (sD ss) (rowD b row) cs' ([lagD (lagL ss (zs ss.length) 0)] ++ (walk ss row (zs ss.length) 0).map lagD) s4 s5) := by
    unfold m_lags_behind
    rw [seq_nx a0, seq_nx a1]
    simp [rA, mRet, mVar, bnd, Mi.ret, Md.isOwn]
  have ef : [lagD (lagL ss (zs ss.length) 0)] ++ (walk ss row (zs ss.length) 0).map lagD = (allL ss row).map lagD := rfl
  rw [ef] at em
  generalize (allL ss row).map lagD = out at em ⊢
  unfold rA at em
  generalize cD cs' = z at em
  generalize sD ss = sd at em ⊢
  generalize rowD b row = rd at em ⊢
  simp [f_lags_behind, mkFn, isListAt, slots, slot0, em, outIo, retR]
end K83

namespace K83
open PySem L2 Evl PySem.Spec Mi

/-! ### the first break -/
def badQ (a : Int) (u : Nat) : Bool := !(decide (-((u : Nat) : Int) < a) && decide (a < (u : Nat)))
def badL (ss : List (Nat × Nat)) (lg : List Int) : Bool := (lg.zip ss).any fun x => badQ x.1 x.2.2
def brk (ss : List (Nat × Nat)) : List (List Int) → Nat → Option Nat
  | [], _ => none
  | lg :: r, k => if badL ss lg then some k else brk ss r (k + 1)
def optD : Option Nat → D
  | none => .none
  | some m => .int (m : Nat)
def rK (sd rd : D) (s2 s3 s4 s5 s6 : Option Slot) : R := [some ⟨.val, sd⟩, some ⟨.val, rd⟩, s2, s3, s4, s5, s6]
theorem brk_test {sd rd : D} {s2 s3 : Option Slot} {m a : Int} {n u : Nat} (h2 : s2 = some ⟨.val, .int m⟩) : ((mIfS (mNot (mB (mChain ltD ltD (mBin subD (mC (.int 0)) (mVar 6)) (mVar 4) (mVar 6)))) (mRet (mVar 2)) mNx)) (rK sd rd s2 s3 (some ⟨.val, .int a⟩) (some ⟨.val, .int (n : Nat)⟩) (some ⟨.val, .int (u : Nat)⟩)) = some (.ok (flOf (if badQ a u then some (.val (.int m)) else none)), rK sd rd s2 s3 (some ⟨.val, .int a⟩) (some ⟨.val, .int (n : Nat)⟩) (some ⟨.val, .int (u : Nat)⟩)) := by
  subst h2
  unfold badQ
  by_cases h1 : -((u : Nat) : Int) < a
  · by_cases h2 : a < ((u : Nat) : Int)
    · simp [rK, h1, h2, flOf, mkFn, isListAt, slots, slot0, mSeq, mAsg, mRet, mIfS, mDrop, mB, bnd, Mi.ret, thaw, thawR, mVal, valR, mVar, mC, mBin, mUn, op1, op2, look, opN, lookAll, mCall, aT, aV, aNil, mStore, okSet, isT, asB, mTup, mLst, valsOf, mNx, outIo, retR, Md.isOwn, Md.isIo, Md.isLk, fI, mIf, mAnd, mOr, mNot, mAndV, mOrV, mChain, mPar, mPar3, mF, mFk, callF, callIo, putIo, freezeBy, flatD, flatAll, flatY, mayGive, notSlot, gath, mAsgG, gT, gsCons, gsNil, gIx, gN, setIx, mSetIx, ownAt, mApp, appTo, mIsi, isiD, isK, kinds, tyD, mSl, mPart, mNoPart, asInt, slD, cutD, lenD, absD, max2D, min2D, gcdD, lcmD, intD, listD, tupleD, allD, boolsOf, divmodD, addD, subD, mulD, fdivD, modD, powD, ltD, leD, gtD, geD, isD, isntD, negD, notD, ixD, revD, atI, ixN, isNone, sizeLine, eqsD, nesD, eqD, neD, inD, inT, inL, mMt, mtS, startsD, findD, fmtD, mJs, strD, mFT, callT, mPar3O, mParO, noSlot]
    · have h3 : ((u : Nat) : Int) ≤ a := by omega
      simp [rK, h1, h2, h3, flOf, mkFn, isListAt, slots, slot0, mSeq, mAsg, mRet, mIfS, mDrop, mB, bnd, Mi.ret, thaw, thawR, mVal, valR, mVar, mC, mBin, mUn, op1, op2, look, opN, lookAll, mCall, aT, aV, aNil, mStore, okSet, isT, asB, mTup, mLst, valsOf, mNx, outIo, retR, Md.isOwn, Md.isIo, Md.isLk, fI, mIf, mAnd, mOr, mNot, mAndV, mOrV, mChain, mPar, mPar3, mF, mFk, callF, callIo, putIo, freezeBy, flatD, flatAll, flatY, mayGive, notSlot, gath, mAsgG, gT, gsCons, gsNil, gIx, gN, setIx, mSetIx, ownAt, mApp, appTo, mIsi, isiD, isK, kinds, tyD, mSl, mPart, mNoPart, asInt, slD, cutD, lenD, absD, max2D, min2D, gcdD, lcmD, intD, listD, tupleD, allD, boolsOf, divmodD, addD, subD, mulD, fdivD, modD, powD, ltD, leD, gtD, geD, isD, isntD, negD, notD, ixD, revD, atI, ixN, isNone, sizeLine, eqsD, nesD, eqD, neD, inD, inT, inL, mMt, mtS, startsD, findD, fmtD, mJs, strD, mFT, callT, mPar3O, mParO, noSlot]
  · have h3 : a ≤ -((u : Nat) : Int) := by omega
    simp [rK, h1, h3, flOf, mkFn, isListAt, slots, slot0, mSeq, mAsg, mRet, mIfS, mDrop, mB, bnd, Mi.ret, thaw, thawR, mVal, valR, mVar, mC, mBin, mUn, op1, op2, look, opN, lookAll, mCall, aT, aV, aNil, mStore, okSet, isT, asB, mTup, mLst, valsOf, mNx, outIo, retR, Md.isOwn, Md.isIo, Md.isLk, fI, mIf, mAnd, mOr, mNot, mAndV, mOrV, mChain, mPar, mPar3, mF, mFk, callF, callIo, putIo, freezeBy, flatD, flatAll, flatY, mayGive, notSlot, gath, mAsgG, gT, gsCons, gsNil, gIx, gN, setIx, mSetIx, ownAt, mApp, appTo, mIsi, isiD, isK, kinds, tyD, mSl, mPart, mNoPart, asInt, slD, cutD, lenD, absD, max2D, min2D, gcdD, lcmD, intD, listD, tupleD, allD, boolsOf, divmodD, addD, subD, mulD, fdivD, modD, powD, ltD, leD, gtD, geD, isD, isntD, negD, notD, ixD, revD, atI, ixN, isNone, sizeLine, eqsD, nesD, eqD, neD, inD, inT, inL, mMt, mtS, startsD, findD, fmtD, mJs, strD, mFT, callT, mPar3O, mParO, noSlot]
theorem first_bad {m : Int} : ∀ (xs : List (Int × (Nat × Nat))) (k : Nat), firstOf (fun _ (x : Int × (Nat × Nat)) => if badQ x.1 x.2.2 then some (Res.val (.int m)) else none) xs k = if xs.any fun x => badQ x.1 x.2.2 then some (.val (.int m)) else none
  | [], _ => rfl
  | x :: xs, k => by
    unfold firstOf
    rw [List.any_cons]
    cases h : badQ x.1 x.2.2 with
    | true => simp
    | false => simp [first_bad xs (k + 1), Bool.false_or]; rw [Bool.false_or]
theorem brk_in {sd rd : D} {ss : List (Nat × Nat)} {s3 : Option Slot} {m : Nat} (lg : List Int) {s4 s5 s6 : Option Slot} (h4 : Vl s4) (h5 : Vl s5) (h6 : Vl s6) :
    ∃ s4' s5' s6', Vl s4' ∧ Vl s5' ∧ Vl s6' ∧ loopF ((gT 2 (gsCons (gN 4) (gsCons (gT 2 (gsCons (gN 5) (gsCons (gN 6) gsNil))) gsNil)))) ((mIfS (mNot (mB (mChain ltD ltD (mBin subD (mC (.int 0)) (mVar 6)) (mVar 4) (mVar 6)))) (mRet (mVar 2)) mNx)) (zipL (iD lg) (ss.map pD)) (rK sd rd (some ⟨.val, .int (m : Nat)⟩) s3 s4 s5 s6) = some (.ok (flOf (if badL ss lg then some (.val (.int (m : Nat))) else none)), rK sd rd (some ⟨.val, .int (m : Nat)⟩) s3 s4' s5' s6') := by
  have hz : zipL (iD lg) (ss.map pD) = itemsOf (fun _ (p : Int × (Nat × Nat)) => .tuple [.int p.1, pD p.2]) (lg.zip ss) 0 := by
    unfold iD
    rw [zipL_map PyData.int pD, items_map _ _ 0]
  rw [hz]
  obtain ⟨ρ', e, s4', s5', s6', q4, q5, q6, hρ⟩ := loopF_first (g := (gT 2 (gsCons (gN 4) (gsCons (gT 2 (gsCons (gN 5) (gsCons (gN 6) gsNil))) gsNil)))) (b := (mIfS (mNot (mB (mChain ltD ltD (mBin subD (mC (.int 0)) (mVar 6)) (mVar 4) (mVar 6)))) (mRet (mVar 2)) mNx)) (d := fun _ (p : Int × (Nat × Nat)) => .tuple [.int p.1, pD p.2]) (t := fun _ (x : Int × (Nat × Nat)) => if badQ x.1 x.2.2 then some (Res.val (.int (m : Nat))) else none)
    (fun ρ => ∃ s4 s5 s6, Vl s4 ∧ Vl s5 ∧ Vl s6 ∧ ρ = rK sd rd (some ⟨.val, .int (m : Nat)⟩) s3 s4 s5 s6) (lg.zip ss) 0 _ ⟨s4, s5, s6, h4, h5, h6, rfl⟩ (fun i x ρ _ ⟨s4, s5, s6, h4, h5, h6, hρ⟩ => by
      subst hρ
      obtain ⟨a, n, u⟩ := x
      refine ⟨rK sd rd (some ⟨.val, .int (m : Nat)⟩) s3 (some ⟨.val, .int a⟩) (some ⟨.val, .int (n : Nat)⟩) (some ⟨.val, .int (u : Nat)⟩), _, ?_, brk_test rfl, _, _, _, .inr ⟨_, rfl⟩, .inr ⟨_, rfl⟩, .inr ⟨_, rfl⟩, rfl⟩
      rcases h4 with rfl | ⟨t, rfl⟩ <;> rcases h5 with rfl | ⟨t, rfl⟩ <;> rcases h6 with rfl | ⟨t, rfl⟩ <;> simp [rK, gT, gsCons, gsNil, gN, mStore, okSet, mkFn, isListAt, slots, slot0, mSeq, mAsg, mRet, mIfS, mDrop, mB, bnd, Mi.ret, thaw, thawR, mVal, valR, mVar, mC, mBin, mUn, op1, op2, look, opN, lookAll, mCall, aT, aV, aNil, mStore, okSet, isT, asB, mTup, mLst, valsOf, mNx, outIo, retR, Md.isOwn, Md.isIo, Md.isLk, fI, mIf, mAnd, mOr, mNot, mAndV, mOrV, mChain, mPar, mPar3, mF, mFk, callF, callIo, putIo, freezeBy, flatD, flatAll, flatY, mayGive, notSlot, gath, mAsgG, gT, gsCons, gsNil, gIx, gN, setIx, mSetIx, ownAt, mApp, appTo, mIsi, isiD, isK, kinds, tyD, mSl, mPart, mNoPart, asInt, slD, cutD, lenD, absD, max2D, min2D, gcdD, lcmD, intD, listD, tupleD, allD, boolsOf, divmodD, addD, subD, mulD, fdivD, modD, powD, ltD, leD, gtD, geD, isD, isntD, negD, notD, ixD, revD, atI, ixN, isNone, sizeLine, eqsD, nesD, eqD, neD, inD, inT, inL, mMt, mtS, startsD, findD, fmtD, mJs, strD, mFT, callT, mPar3O, mParO, noSlot])
  subst hρ
  rw [first_bad] at e
  exact ⟨s4', s5', s6', q4, q5, q6, e⟩
theorem brk_iter {sd rd ld : D} {xs ds : List D} {s2 s4 s5 s6 : Option Slot} (hl : ld = .list xs) (hs : sd = .tuple ds) : ((mZip (mVar 3) (mVar 0))) (rK sd rd s2 (some ⟨.val, ld⟩) s4 s5 s6) = some (.ok ⟨zipL xs ds, []⟩, rK sd rd s2 (some ⟨.val, ld⟩) s4 s5 s6) := by
  subst hl hs
  simp [rK, mZip, mItL, iterL, iterD, mkFn, isListAt, slots, slot0, mSeq, mAsg, mRet, mIfS, mDrop, mB, bnd, Mi.ret, thaw, thawR, mVal, valR, mVar, mC, mBin, mUn, op1, op2, look, opN, lookAll, mCall, aT, aV, aNil, mStore, okSet, isT, asB, mTup, mLst, valsOf, mNx, outIo, retR, Md.isOwn, Md.isIo, Md.isLk, fI, mIf, mAnd, mOr, mNot, mAndV, mOrV, mChain, mPar, mPar3, mF, mFk, callF, callIo, putIo, freezeBy, flatD, flatAll, flatY, mayGive, notSlot, gath, mAsgG, gT, gsCons, gsNil, gIx, gN, setIx, mSetIx, ownAt, mApp, appTo, mIsi, isiD, isK, kinds, tyD, mSl, mPart, mNoPart, asInt, slD, cutD, lenD, absD, max2D, min2D, gcdD, lcmD, intD, listD, tupleD, allD, boolsOf, divmodD, addD, subD, mulD, fdivD, modD, powD, ltD, leD, gtD, geD, isD, isntD, negD, notD, ixD, revD, atI, ixN, isNone, sizeLine, eqsD, nesD, eqD, neD, inD, inT, inL, mMt, mtS, startsD, findD, fmtD, mJs, strD, mFT, callT, mPar3O, mParO, noSlot]
theorem first_brk {ss : List (Nat × Nat)} : ∀ (ls : List (List Int)) (k : Nat), firstOf (fun k (lg : List Int) => if badL ss lg then some (Res.val (.int (k : Nat))) else none) ls k = (brk ss ls k).map fun m => .val (.int (m : Nat))
  | [], _ => rfl
  | lg :: ls, k => by
    unfold firstOf brk
    cases h : badL ss lg with
    | true => rfl
    | false =>
      simp only [Bool.false_eq_true, if_false]
      exact first_brk ls (k + 1)
theorem brk_out {ss : List (Nat × Nat)} {rd : D} (ls : List (List Int)) :
    ∃ s2 s3 s4 s5 s6, loopF ((gT 2 (gsCons (gN 2) (gsCons (gN 3) gsNil)))) ((mFor (chk (mZip (mVar 3) (mVar 0))) (gT 2 (gsCons (gN 4) (gsCons (gT 2 (gsCons (gN 5) (gsCons (gN 6) gsNil))) gsNil))) (mIfS (mNot (mB (mChain ltD ltD (mBin subD (mC (.int 0)) (mVar 6)) (mVar 4) (mVar 6)))) (mRet (mVar 2)) mNx))) (enumL 0 (ls.map lagD)) (rK (sD ss) rd none none none none none) = some (.ok (flOf ((brk ss ls 0).map fun m => .val (.int (m : Nat)))), rK (sD ss) rd s2 s3 s4 s5 s6) := by
  rw [items_enum]
  obtain ⟨ρ', e, s2, s3, s4, s5, s6, q2, q3, q4, q5, q6, hρ⟩ := loopF_first (g := (gT 2 (gsCons (gN 2) (gsCons (gN 3) gsNil)))) (b := (mFor (chk (mZip (mVar 3) (mVar 0))) (gT 2 (gsCons (gN 4) (gsCons (gT 2 (gsCons (gN 5) (gsCons (gN 6) gsNil))) gsNil))) (mIfS (mNot (mB (mChain ltD ltD (mBin subD (mC (.int 0)) (mVar 6)) (mVar 4) (mVar 6)))) (mRet (mVar 2)) mNx))) (d := fun k (x : List Int) => .tuple [.int (k : Nat), lagD x]) (t := fun k (lg : List Int) => if badL ss lg then some (Res.val (.int (k : Nat))) else none)
    (fun ρ => ∃ s2 s3 s4 s5 s6, Vl s2 ∧ Vl s3 ∧ Vl s4 ∧ Vl s5 ∧ Vl s6 ∧ ρ = rK (sD ss) rd s2 s3 s4 s5 s6) ls 0 _ ⟨none, none, none, none, none, .inl rfl, .inl rfl, .inl rfl, .inl rfl, .inl rfl, rfl⟩ (fun i lg ρ _ ⟨s2, s3, s4, s5, s6, h2, h3, h4, h5, h6, hρ⟩ => by
      subst hρ
      obtain ⟨s4', s5', s6', q4, q5, q6, e⟩ := brk_in (sd := sD ss) (rd := rd) (ss := ss) (s3 := some ⟨.val, lagD lg⟩) (m := 0 + i) lg h4 h5 h6
      have it := brk_iter (sd := sD ss) (rd := rd) (ld := lagD lg) (s2 := some ⟨.val, .int ((0 + i : Nat) : Int)⟩) (s4 := s4) (s5 := s5) (s6 := s6) rfl rfl
      refine ⟨rK (sD ss) rd (some ⟨.val, .int ((0 + i : Nat) : Int)⟩) (some ⟨.val, lagD lg⟩) s4 s5 s6, _, ?_, for_run it e, _, _, _, _, _, .inr ⟨_, rfl⟩, .inr ⟨_, rfl⟩, q4, q5, q6, rfl⟩
      generalize sD ss = sd
      generalize lagD lg = ld
      rcases h2 with rfl | ⟨t, rfl⟩ <;> rcases h3 with rfl | ⟨t, rfl⟩ <;> simp [rK, gT, gsCons, gsNil, gN, mStore, okSet, mkFn, isListAt, slots, slot0, mSeq, mAsg, mRet, mIfS, mDrop, mB, bnd, Mi.ret, thaw, thawR, mVal, valR, mVar, mC, mBin, mUn, op1, op2, look, opN, lookAll, mCall, aT, aV, aNil, mStore, okSet, isT, asB, mTup, mLst, valsOf, mNx, outIo, retR, Md.isOwn, Md.isIo, Md.isLk, fI, mIf, mAnd, mOr, mNot, mAndV, mOrV, mChain, mPar, mPar3, mF, mFk, callF, callIo, putIo, freezeBy, flatD, flatAll, flatY, mayGive, notSlot, gath, mAsgG, gT, gsCons, gsNil, gIx, gN, setIx, mSetIx, ownAt, mApp, appTo, mIsi, isiD, isK, kinds, tyD, mSl, mPart, mNoPart, asInt, slD, cutD, lenD, absD, max2D, min2D, gcdD, lcmD, intD, listD, tupleD, allD, boolsOf, divmodD, addD, subD, mulD, fdivD, modD, powD, ltD, leD, gtD, geD, isD, isntD, negD, notD, ixD, revD, atI, ixN, isNone, sizeLine, eqsD, nesD, eqD, neD, inD, inT, inL, mMt, mtS, startsD, findD, fmtD, mJs, strD, mFT, callT, mPar3O, mParO, noSlot])
  subst hρ
  rw [first_brk] at e
  exact ⟨s2, s3, s4, s5, s6, e⟩
theorem brk_it {sd rd : D} {xs : List D} (e : f_lags_behind [sd, rd] = some (.ok (.fresh xs), .none)) : ((mEnum (mF 2 f_lags_behind none (aT (mVar 0) (aT (mVar 1) aNil))))) (rK sd rd none none none none none) = some (.ok ⟨enumL 0 xs, []⟩, rK sd rd none none none none none) := by
  simp [rK, mEnum, mItL, iterL, iterD, e, mkFn, isListAt, slots, slot0, mSeq, mAsg, mRet, mIfS, mDrop, mB, bnd, Mi.ret, thaw, thawR, mVal, valR, mVar, mC, mBin, mUn, op1, op2, look, opN, lookAll, mCall, aT, aV, aNil, mStore, okSet, isT, asB, mTup, mLst, valsOf, mNx, outIo, retR, Md.isOwn, Md.isIo, Md.isLk, fI, mIf, mAnd, mOr, mNot, mAndV, mOrV, mChain, mPar, mPar3, mF, mFk, callF, callIo, putIo, freezeBy, flatD, flatAll, flatY, mayGive, notSlot, gath, mAsgG, gT, gsCons, gsNil, gIx, gN, setIx, mSetIx, ownAt, mApp, appTo, mIsi, isiD, isK, kinds, tyD, mSl, mPart, mNoPart, asInt, slD, cutD, lenD, absD, max2D, min2D, gcdD, lcmD, intD, listD, tupleD, allD, boolsOf, divmodD, addD, subD, mulD, fdivD, modD, powD, ltD, leD, gtD, geD, isD, isntD, negD, notD, ixD, revD, atI, ixN, isNone, sizeLine, eqsD, nesD, eqD, neD, inD, inT, inL, mMt, mtS, startsD, findD, fmtD, mJs, strD, mFT, callT, mPar3O, mParO, noSlot]
theorem brk_end {sd rd : D} {o : Option Nat} {s2 s3 s4 s5 s6 : Option Slot} (e : ((mFor (chk (mEnum (mF 2 f_lags_behind none (aT (mVar 0) (aT (mVar 1) aNil))))) (gT 2 (gsCons (gN 2) (gsCons (gN 3) gsNil))) (mFor (chk (mZip (mVar 3) (mVar 0))) (gT 2 (gsCons (gN 4) (gsCons (gT 2 (gsCons (gN 5) (gsCons (gN 6) gsNil))) gsNil))) (mIfS (mNot (mB (mChain ltD ltD (mBin subD (mC (.int 0)) (mVar 6)) (mVar 4) (mVar 6)))) (mRet (mVar 2)) mNx)))) (rK sd rd none none none none none) = some (.ok (flOf (o.map fun m => .val (.int (m : Nat)))), rK sd rd s2 s3 s4 s5 s6)) : f_break_of [sd, rd] = some (.ok (.val (optD o)), .none) := by
  have em : m_break_of [some ⟨.val, sd⟩, some ⟨.val, rd⟩, none, none, none, none, none] = some (.ok (.rt (.val (optD o))), rK sd rd s2 s3 s4 s5 s6) := by
    show mSeq ((mFor (chk (mEnum (mF 2 f_lags_behind none (aT (mVar 0) (aT (mVar 1) aNil))))) (gT 2 (gsCons (gN 2) (gsCons (gN 3) gsNil))) (mFor (chk (mZip (mVar 3) (mVar 0))) (gT 2 (gsCons (gN 4) (gsCons (gT 2 (gsCons (gN 5) (gsCons (gN 6) gsNil))) gsNil))) (mIfS (mNot (mB (mChain ltD ltD (mBin subD (mC (.int 0)) (mVar 6)) (mVar 4) (mVar 6)))) (mRet (mVar 2)) mNx)))) ((mRet (mC .none))) (rK sd rd none none none none none) = _
    unfold mSeq bnd
    rw [e]
    cases o with
    | none => simp [flOf, optD, rK, mkFn, isListAt, slots, slot0, mSeq, mAsg, mRet, mIfS, mDrop, mB, bnd, Mi.ret, thaw, thawR, mVal, valR, mVar, mC, mBin, mUn, op1, op2, look, opN, lookAll, mCall, aT, aV, aNil, mStore, okSet, isT, asB, mTup, mLst, valsOf, mNx, outIo, retR, Md.isOwn, Md.isIo, Md.isLk, fI, mIf, mAnd, mOr, mNot, mAndV, mOrV, mChain, mPar, mPar3, mF, mFk, callF, callIo, putIo, freezeBy, flatD, flatAll, flatY, mayGive, notSlot, gath, mAsgG, gT, gsCons, gsNil, gIx, gN, setIx, mSetIx, ownAt, mApp, appTo, mIsi, isiD, isK, kinds, tyD, mSl, mPart, mNoPart, asInt, slD, cutD, lenD, absD, max2D, min2D, gcdD, lcmD, intD, listD, tupleD, allD, boolsOf, divmodD, addD, subD, mulD, fdivD, modD, powD, ltD, leD, gtD, geD, isD, isntD, negD, notD, ixD, revD, atI, ixN, isNone, sizeLine, eqsD, nesD, eqD, neD, inD, inT, inL, mMt, mtS, startsD, findD, fmtD, mJs, strD, mFT, callT, mPar3O, mParO, noSlot]
    | some m => rfl
  simp [f_break_of, mkFn, isListAt, slots, slot0, em, outIo, retR]
theorem ev_brk {ss : List (Nat × Nat)} {b : Bool} {row : List Nat} (h : ∀ p ∈ ss, One p) (hs : ss.length ≤ 30) (hr : ∀ l ∈ row, l < ss.length) (hl : row.length ≤ 5000) : f_break_of [sD ss, rowD b row] = some (.ok (.val (optD (brk ss (allL ss row) 0))), .none) := by
  have e := ev_lags (b := b) h hs hr hl
  obtain ⟨s2, s3, s4, s5, s6, lp⟩ := brk_out (ss := ss) (rd := rowD b row) (allL ss row)
  exact brk_end (for_run (brk_it e) lp)
end K83

namespace K83
open PySem L2 Evl PySem.Spec Mi

/-! ### the law's lags -/
def uP (x : Int × (Nat × Nat)) : D := .tuple [.int x.1, .int (x.2.2 : Nat)]
def lagU (ss : List (Nat × Nat)) (lg : List Int) : D := .list ((lg.zip ss).map uP)
def lu (m : Int) : D → D
  | .tuple [.tuple [.int n, .int u], .int c] => .tuple [.int (m * n - c * u), .int u]
  | d => d
theorem zip_lag (m : Nat) : ∀ (ss : List (Nat × Nat)) (cs : List Nat), cs.length = ss.length → ((ss.zip cs).map fun x => lag x.1 x.2 m).zip ss = (ss.zip cs).map fun x => (lag x.1 x.2 m, x.1)
  | [], _, _ => rfl
  | p :: ss, [], h => by simp at h
  | p :: ss, c :: cs, h => by
    rw [List.zip_cons_cons, List.map_cons, List.zip_cons_cons, List.map_cons, zip_lag m ss cs (by simpa using h)]
theorem lu_map {ss : List (Nat × Nat)} {cs : List Nat} (m : Nat) (h : cs.length = ss.length) : .list (((ss.zip cs).map fun p => PyData.tuple [pD p.1, .int (p.2 : Nat)]).map (lu (m : Nat))) = lagU ss (lagL ss cs m) := by
  unfold lagU lagL
  rw [zip_lag m ss cs h, List.map_map, List.map_map]
  congr 1
def rU (sd rd : D) (cs : List Nat) (fnd : List D) (s4 : Option Slot) : R := [some ⟨.val, sd⟩, some ⟨.val, rd⟩, some ⟨.own, .list (cD cs)⟩, some ⟨.own, .list fnd⟩, s4, none, none]
theorem u_lc {ss : List (Nat × Nat)} {rd : D} {cs : List Nat} {fnd : List D} {m : Nat} (h : ∀ p ∈ ss, One p) (k : CsOk ss cs m) : ∃ xs, .list xs = lagU ss (lagL ss cs m) ∧ (mLc (mZip (mVar 0) (mVar 2)) (gT 2 (gsCons (gN 5) (gsCons (gN 6) gsNil))) (ret true) (mTup (aV (mBin subD (mBin mulD (mVar 4) (mBin ixD (mVar 5) (mC (.int 0)))) (mBin mulD (mVar 6) (mBin ixD (mVar 5) (mC (.int 1))))) (aV (mBin ixD (mVar 5) (mC (.int 1))) aNil))) [5, 6]) (rU (sD ss) rd cs fnd (some ⟨.val, .int (m : Nat)⟩)) = some (.ok (.fresh xs), rU (sD ss) rd cs fnd (some ⟨.val, .int (m : Nat)⟩)) := by
  have sl := k.sl
  have hz : zipL (ss.map pD) (cD cs) = (ss.zip cs).map fun p => PyData.tuple [pD p.1, .int (p.2 : Nat)] := zipL_map pD (fun c : Nat => PyData.int (c : Nat)) ss cs
  refine ⟨_, lu_map m k.len, ?_⟩
  refine lc_runK (I := ⟨zipL (ss.map pD) (cD cs), [(2, .list (cD cs))]⟩) (ρ1 := [some ⟨.val, sD ss⟩, some ⟨.val, rd⟩, some ⟨.lock, .list (cD cs)⟩, some ⟨.own, .list fnd⟩, some ⟨.val, .int (m : Nat)⟩, none, none])
    (ρe := [some ⟨.val, sD ss⟩, some ⟨.val, rd⟩, some ⟨.lock, .list (cD cs)⟩, some ⟨.own, .list fnd⟩, some ⟨.val, .int (m : Nat)⟩, none, none]) ?_ (by simp) (by simp [rU, freeAt, Md.isLk]) (by simp) ?_ ?_
  · unfold rU
    generalize cD cs = xs
    simp [mZip, mItL, iterL, iterD, mkFn, isListAt, slots, slot0, mSeq, mAsg, mRet, mIfS, mDrop, mB, bnd, Mi.ret, thaw, thawR, mVal, valR, mVar, mC, mBin, mUn, op1, op2, look, opN, lookAll, mCall, aT, aV, aNil, mStore, okSet, isT, asB, mTup, mLst, valsOf, mNx, outIo, retR, Md.isOwn, Md.isIo, Md.isLk, fI, mIf, mAnd, mOr, mNot, mAndV, mOrV, mChain, mPar, mPar3, mF, mFk, callF, callIo, putIo, freezeBy, flatD, flatAll, flatY, mayGive, notSlot, gath, mAsgG, gT, gsCons, gsNil, gIx, gN, setIx, mSetIx, ownAt, mApp, appTo, mIsi, isiD, isK, kinds, tyD, mSl, mPart, mNoPart, asInt, slD, cutD, lenD, absD, max2D, min2D, gcdD, lcmD, intD, listD, tupleD, allD, boolsOf, divmodD, addD, subD, mulD, fdivD, modD, powD, ltD, leD, gtD, geD, isD, isntD, negD, notD, ixD, revD, atI, ixN, isNone, sizeLine, eqsD, nesD, eqD, neD, inD, inT, inL, mMt, mtS, startsD, findD, fmtD, mJs, strD, mFT, callT, mPar3O, mParO, noSlot]
  · dsimp only
    rw [hz]
    show loopC _ _ _ _ _ [some ⟨.val, sD ss⟩, some ⟨.val, rd⟩, some ⟨.lock, .list (cD cs)⟩, some ⟨.own, .list fnd⟩, some ⟨.val, .int (m : Nat)⟩, none, none] [] = _
    refine loopC_map (f := lu ((m : Nat) : Int)) _ [] (by rw [List.length_map, List.length_zip, show sizeLine = 16777216 from rfl]; simp; omega) fun d hd => ?_
    obtain ⟨⟨⟨n, u⟩, c⟩, hx, rfl⟩ := List.mem_map.mp hd
    have hp := List.of_mem_zip hx
    have o := h _ hp.1
    have hc := k.le c hp.2
    have hm := k.m
    have hn := o.n
    have hu := o.u
    dsimp only at hn hu hc ⊢
    have m1 : mulOk ((m : Nat) : Int) ((n : Nat) : Int) = true := mulOk_of (a := 60) (b := 60) (by omega) (by omega) (by decide) (by decide) (by decide)
    have m2 : mulOk ((c : Nat) : Int) ((u : Nat) : Int) = true := mulOk_of (a := 60) (b := 60) (by omega) (by omega) (by decide) (by decide) (by decide)
    refine ⟨[some ⟨.val, sD ss⟩, some ⟨.val, rd⟩, some ⟨.lock, .list (cD cs)⟩, some ⟨.own, .list fnd⟩, some ⟨.val, .int (m : Nat)⟩, some ⟨.val, rat (n : Nat) (u : Nat)⟩, some ⟨.val, .int (c : Nat)⟩],
      [some ⟨.val, sD ss⟩, some ⟨.val, rd⟩, some ⟨.lock, .list (cD cs)⟩, some ⟨.own, .list fnd⟩, some ⟨.val, .int (m : Nat)⟩, some ⟨.val, rat (n : Nat) (u : Nat)⟩, some ⟨.val, .int (c : Nat)⟩], ?_, ?_, rfl⟩
    · generalize sD ss = sd
      simp [gT, gsCons, gsNil, gN, mStore, okSet, mkFn, isListAt, slots, slot0, mSeq, mAsg, mRet, mIfS, mDrop, mB, bnd, Mi.ret, thaw, thawR, mVal, valR, mVar, mC, mBin, mUn, op1, op2, look, opN, lookAll, mCall, aT, aV, aNil, mStore, okSet, isT, asB, mTup, mLst, valsOf, mNx, outIo, retR, Md.isOwn, Md.isIo, Md.isLk, fI, mIf, mAnd, mOr, mNot, mAndV, mOrV, mChain, mPar, mPar3, mF, mFk, callF, callIo, putIo, freezeBy, flatD, flatAll, flatY, mayGive, notSlot, gath, mAsgG, gT, gsCons, gsNil, gIx, gN, setIx, mSetIx, ownAt, mApp, appTo, mIsi, isiD, isK, kinds, tyD, mSl, mPart, mNoPart, asInt, slD, cutD, lenD, absD, max2D, min2D, gcdD, lcmD, intD, listD, tupleD, allD, boolsOf, divmodD, addD, subD, mulD, fdivD, modD, powD, ltD, leD, gtD, geD, isD, isntD, negD, notD, ixD, revD, atI, ixN, isNone, sizeLine, eqsD, nesD, eqD, neD, inD, inT, inL, mMt, mtS, startsD, findD, fmtD, mJs, strD, mFT, callT, mPar3O, mParO, noSlot]
    · generalize sD ss = sd
      simp [lu, m1, m2, mkFn, isListAt, slots, slot0, mSeq, mAsg, mRet, mIfS, mDrop, mB, bnd, Mi.ret, thaw, thawR, mVal, valR, mVar, mC, mBin, mUn, op1, op2, look, opN, lookAll, mCall, aT, aV, aNil, mStore, okSet, isT, asB, mTup, mLst, valsOf, mNx, outIo, retR, Md.isOwn, Md.isIo, Md.isLk, fI, mIf, mAnd, mOr, mNot, mAndV, mOrV, mChain, mPar, mPar3, mF, mFk, callF, callIo, putIo, freezeBy, flatD, flatAll, flatY, mayGive, notSlot, gath, mAsgG, gT, gsCons, gsNil, gIx, gN, setIx, mSetIx, ownAt, mApp, appTo, mIsi, isiD, isK, kinds, tyD, mSl, mPart, mNoPart, asInt, slD, cutD, lenD, absD, max2D, min2D, gcdD, lcmD, intD, listD, tupleD, allD, boolsOf, divmodD, addD, subD, mulD, fdivD, modD, powD, ltD, leD, gtD, geD, isD, isntD, negD, notD, ixD, revD, atI, ixN, isNone, sizeLine, eqsD, nesD, eqD, neD, inD, inT, inL, mMt, mtS, startsD, findD, fmtD, mJs, strD, mFT, callT, mPar3O, mParO, noSlot]
  · rfl
theorem u_app {sd rd : D} {cs : List Nat} {fnd xs : List D} {m : Nat} (e : (mLc (mZip (mVar 0) (mVar 2)) (gT 2 (gsCons (gN 5) (gsCons (gN 6) gsNil))) (ret true) (mTup (aV (mBin subD (mBin mulD (mVar 4) (mBin ixD (mVar 5) (mC (.int 0)))) (mBin mulD (mVar 6) (mBin ixD (mVar 5) (mC (.int 1))))) (aV (mBin ixD (mVar 5) (mC (.int 1))) aNil))) [5, 6]) (rU sd rd cs fnd (some ⟨.val, .int (m : Nat)⟩)) = some (.ok (.fresh xs), rU sd rd cs fnd (some ⟨.val, .int (m : Nat)⟩))) (hf : fnd.length < 10000) : (mApp 3 (mLc (mZip (mVar 0) (mVar 2)) (gT 2 (gsCons (gN 5) (gsCons (gN 6) gsNil))) (ret true) (mTup (aV (mBin subD (mBin mulD (mVar 4) (mBin ixD (mVar 5) (mC (.int 0)))) (mBin mulD (mVar 6) (mBin ixD (mVar 5) (mC (.int 1))))) (aV (mBin ixD (mVar 5) (mC (.int 1))) aNil))) [5, 6])) (rU sd rd cs fnd (some ⟨.val, .int (m : Nat)⟩)) = some (.ok .nx, rU sd rd cs (fnd ++ [.list xs]) (some ⟨.val, .int (m : Nat)⟩)) := by
  generalize (mLc (mZip (mVar 0) (mVar 2)) (gT 2 (gsCons (gN 5) (gsCons (gN 6) gsNil))) (ret true) (mTup (aV (mBin subD (mBin mulD (mVar 4) (mBin ixD (mVar 5) (mC (.int 0)))) (mBin mulD (mVar 6) (mBin ixD (mVar 5) (mC (.int 1))))) (aV (mBin ixD (mVar 5) (mC (.int 1))) aNil))) [5, 6]) = mm at e
  have hf2 : fnd.length < 16777216 := by omega
  unfold rU at e ⊢
  simp [mApp, appTo, ownAt, e, hf2, mkFn, isListAt, slots, slot0, mSeq, mAsg, mRet, mIfS, mDrop, mB, bnd, Mi.ret, thaw, thawR, mVal, valR, mVar, mC, mBin, mUn, op1, op2, look, opN, lookAll, mCall, aT, aV, aNil, mStore, okSet, isT, asB, mTup, mLst, valsOf, mNx, outIo, retR, Md.isOwn, Md.isIo, Md.isLk, fI, mIf, mAnd, mOr, mNot, mAndV, mOrV, mChain, mPar, mPar3, mF, mFk, callF, callIo, putIo, freezeBy, flatD, flatAll, flatY, mayGive, notSlot, gath, mAsgG, gT, gsCons, gsNil, gIx, gN, setIx, mSetIx, ownAt, mApp, appTo, mIsi, isiD, isK, kinds, tyD, mSl, mPart, mNoPart, asInt, slD, cutD, lenD, absD, max2D, min2D, gcdD, lcmD, intD, listD, tupleD, allD, boolsOf, divmodD, addD, subD, mulD, fdivD, modD, powD, leD, gtD, geD, isD, isntD, negD, notD, revD, isNone, sizeLine, mMt, mtS, startsD, findD, fmtD, mJs, strD, mFT, callT, mPar3O, mParO, noSlot]
theorem u_end {sd rd : D} {cs : List Nat} {fnd : List D} {m n : Nat} (ln : lenD [rd] = some (.val (.int (n : Nat)))) (hm : ¬ m < n) : (mIfS (mB (mBin ltD (mVar 4) (mCall lenD (aT (mVar 1) aNil)))) (mSetIx 2 (mBin ixD (mVar 1) (mVar 4)) (mBin addD (mBin ixD (mVar 2) (mBin ixD (mVar 1) (mVar 4))) (mC (.int 1)))) mNx) (rU sd rd cs fnd (some ⟨.val, .int (m : Nat)⟩)) = some (.ok .nx, rU sd rd cs fnd (some ⟨.val, .int (m : Nat)⟩)) := by
  have q : ltD (.int (m : Nat)) (.int (n : Nat)) = some (.val (.bool false)) := by
    simp [ltD, fI]; omega
  unfold rU
  simp [ln, q, mkFn, isListAt, slots, slot0, mSeq, mAsg, mRet, mIfS, mDrop, mB, bnd, Mi.ret, thaw, thawR, mVal, valR, mVar, mC, mBin, mUn, op1, op2, look, opN, lookAll, mCall, aT, aV, aNil, mStore, okSet, isT, asB, mTup, mLst, valsOf, mNx, outIo, retR, Md.isOwn, Md.isIo, Md.isLk, fI, mIf, mAnd, mOr, mNot, mAndV, mOrV, mChain, mPar, mPar3, mF, mFk, callF, callIo, putIo, freezeBy, flatD, flatAll, flatY, mayGive, notSlot, gath, mAsgG, gT, gsCons, gsNil, gIx, gN, setIx, mSetIx, ownAt, mApp, appTo, mIsi, isiD, isK, kinds, tyD, mSl, mPart, mNoPart, asInt, slD, cutD, lenD, absD, max2D, min2D, gcdD, lcmD, intD, listD, tupleD, allD, boolsOf, divmodD, addD, subD, mulD, fdivD, modD, powD, leD, gtD, geD, isD, isntD, negD, notD, revD, isNone, sizeLine, mMt, mtS, startsD, findD, fmtD, mJs, strD, mFT, callT, mPar3O, mParO, noSlot, -lenD]
theorem u_set {sd rd : D} {cs : List Nat} {fnd : List D} {m n l : Nat} (ln : lenD [rd] = some (.val (.int (n : Nat)))) (hm : m < n) (hl : l < cs.length) (ix : ixD rd (.int (m : Nat)) = some (.val (.int (l : Nat)))) : (mIfS (mB (mBin ltD (mVar 4) (mCall lenD (aT (mVar 1) aNil)))) (mSetIx 2 (mBin ixD (mVar 1) (mVar 4)) (mBin addD (mBin ixD (mVar 2) (mBin ixD (mVar 1) (mVar 4))) (mC (.int 1)))) mNx) (rU sd rd cs fnd (some ⟨.val, .int (m : Nat)⟩)) = some (.ok .nx, rU sd rd (inc cs l) fnd (some ⟨.val, .int (m : Nat)⟩)) := by
  have q : ltD (.int (m : Nat)) (.int (n : Nat)) = some (.val (.bool true)) := by
    simp [ltD, fI]; omega
  have g := cD_get hl
  have i := ixD_list g
  have nn : ixN (cD cs).length ((l : Nat) : Int) = some l := ixN_nat (by rw [cD_len]; exact hl)
  have s := cD_set cs l
  unfold rU
  generalize cD (inc cs l) = ys at s ⊢
  generalize cD cs = xs at i nn s ⊢
  generalize cs.getD l 0 = c at i s
  clear hm hl g
  simp [mSetIx, setIx, ownAt, ln, q, ix, i, nn, s, mkFn, isListAt, slots, slot0, mSeq, mAsg, mRet, mIfS, mDrop, mB, bnd, Mi.ret, thaw, thawR, mVal, valR, mVar, mC, mBin, mUn, op1, op2, look, opN, lookAll, mCall, aT, aV, aNil, mStore, okSet, isT, asB, mTup, mLst, valsOf, mNx, outIo, retR, Md.isOwn, Md.isIo, Md.isLk, fI, mIf, mAnd, mOr, mNot, mAndV, mOrV, mChain, mPar, mPar3, mF, mFk, callF, callIo, putIo, freezeBy, flatD, flatAll, flatY, mayGive, notSlot, gath, mAsgG, gT, gsCons, gsNil, gIx, gN, setIx, mSetIx, ownAt, mApp, appTo, mIsi, isiD, isK, kinds, tyD, mSl, mPart, mNoPart, asInt, slD, cutD, lenD, absD, max2D, min2D, gcdD, lcmD, intD, listD, tupleD, allD, boolsOf, divmodD, addD, subD, mulD, fdivD, modD, powD, leD, gtD, geD, isD, isntD, negD, notD, revD, isNone, sizeLine, mMt, mtS, startsD, findD, fmtD, mJs, strD, mFT, callT, mPar3O, mParO, noSlot, -lenD]
def allF (ss : List (Nat × Nat)) : List Nat → List Nat → Nat → List (List Int)
  | [], cs, k => [lagL ss cs k]
  | l :: r, cs, k => lagL ss cs k :: allF ss r (inc cs l) (k + 1)
theorem allF_eq (ss : List (Nat × Nat)) : ∀ (row cs : List Nat) (k : Nat), allF ss row cs k = lagL ss cs k :: walk ss row cs k
  | [], _, _ => rfl
  | l :: r, cs, k => by rw [allF, allF_eq ss r (inc cs l) (k + 1), walk]
theorem u_loop {ss : List (Nat × Nat)} {row : List Nat} (h : ∀ p ∈ ss, One p) (hr : ∀ l ∈ row, l < ss.length) (hn : row.length ≤ 5000) : ∀ (r : List Nat) (k : Nat) (cs : List Nat) (fnd : List D) (s4 : Option Slot), (∀ j l, r[j]? = some l → row[k + j]? = some l) → k + r.length = row.length → CsOk ss cs k → fnd.length = k → Vl s4 →
    ∃ s4' cs', loopF (gN 4) ((mSeq (mApp 3 (mLc (mZip (mVar 0) (mVar 2)) (gT 2 (gsCons (gN 5) (gsCons (gN 6) gsNil))) (ret true) (mTup (aV (mBin subD (mBin mulD (mVar 4) (mBin ixD (mVar 5) (mC (.int 0)))) (mBin mulD (mVar 6) (mBin ixD (mVar 5) (mC (.int 1))))) (aV (mBin ixD (mVar 5) (mC (.int 1))) aNil))) [5, 6])) (mIfS (mB (mBin ltD (mVar 4) (mCall lenD (aT (mVar 1) aNil)))) (mSetIx 2 (mBin ixD (mVar 1) (mVar 4)) (mBin addD (mBin ixD (mVar 2) (mBin ixD (mVar 1) (mVar 4))) (mC (.int 1)))) mNx))) ((List.range' k (r.length + 1)).map fun (i : Nat) => PyData.int (i : Nat)) (rU (sD ss) (.list (ri row)) cs fnd s4) = some (.ok .nx, rU (sD ss) (.list (ri row)) cs' (fnd ++ (allF ss r cs k).map (lagU ss)) s4')
  | [], k, cs, fnd, s4, hj, hk, c, hf, h4 => by
    have ln : lenD [.list (ri row)] = some (.val (.int (row.length : Nat))) := by simp [lenD]
    obtain ⟨xs, ex, e⟩ := u_lc (rd := .list (ri row)) (fnd := fnd) h c
    have st : gN 4 (.int (k : Nat)) (rU (sD ss) (.list (ri row)) cs fnd s4) = some (.ok (), rU (sD ss) (.list (ri row)) cs fnd (some ⟨.val, .int (k : Nat)⟩)) := by
      generalize sD ss = sd
      rcases h4 with rfl | ⟨t, rfl⟩ <;> simp [rU, gN, mStore, okSet]
    have b : ((mSeq (mApp 3 (mLc (mZip (mVar 0) (mVar 2)) (gT 2 (gsCons (gN 5) (gsCons (gN 6) gsNil))) (ret true) (mTup (aV (mBin subD (mBin mulD (mVar 4) (mBin ixD (mVar 5) (mC (.int 0)))) (mBin mulD (mVar 6) (mBin ixD (mVar 5) (mC (.int 1))))) (aV (mBin ixD (mVar 5) (mC (.int 1))) aNil))) [5, 6])) (mIfS (mB (mBin ltD (mVar 4) (mCall lenD (aT (mVar 1) aNil)))) (mSetIx 2 (mBin ixD (mVar 1) (mVar 4)) (mBin addD (mBin ixD (mVar 2) (mBin ixD (mVar 1) (mVar 4))) (mC (.int 1)))) mNx))) (rU (sD ss) (.list (ri row)) cs fnd (some ⟨.val, .int (k : Nat)⟩)) = some (.ok .nx, rU (sD ss) (.list (ri row)) cs (fnd ++ [.list xs]) (some ⟨.val, .int (k : Nat)⟩)) := by
      show mSeq _ _ _ = _
      rw [seq_nx (u_app e (by omega))]
      exact u_end ln (by simp at hk; omega)
    refine ⟨some ⟨.val, .int (k : Nat)⟩, cs, ?_⟩
    show loopF _ _ [.int (k : Nat)] _ = _
    unfold loopF bnd
    rw [st]
    dsimp only
    rw [b, ex]
    rfl
  | l :: r, k, cs, fnd, s4, hj, hk, c, hf, h4 => by
    rw [List.length_cons] at hk
    have ln : lenD [.list (ri row)] = some (.val (.int (row.length : Nat))) := by simp [lenD]
    obtain ⟨xs, ex, e⟩ := u_lc (rd := .list (ri row)) (fnd := fnd) h c
    have hr0 : row[k]? = some l := by simpa using hj 0 l rfl
    have hl := hr l (List.mem_of_getElem? hr0)
    have ix : ixD (.list (ri row)) (.int (k : Nat)) = some (.val (.int (l : Nat))) := ixD_list (by rw [List.getElem?_map, hr0]; rfl)
    have st : gN 4 (.int (k : Nat)) (rU (sD ss) (.list (ri row)) cs fnd s4) = some (.ok (), rU (sD ss) (.list (ri row)) cs fnd (some ⟨.val, .int (k : Nat)⟩)) := by
      generalize sD ss = sd
      rcases h4 with rfl | ⟨t, rfl⟩ <;> simp [rU, gN, mStore, okSet]
    have b : ((mSeq (mApp 3 (mLc (mZip (mVar 0) (mVar 2)) (gT 2 (gsCons (gN 5) (gsCons (gN 6) gsNil))) (ret true) (mTup (aV (mBin subD (mBin mulD (mVar 4) (mBin ixD (mVar 5) (mC (.int 0)))) (mBin mulD (mVar 6) (mBin ixD (mVar 5) (mC (.int 1))))) (aV (mBin ixD (mVar 5) (mC (.int 1))) aNil))) [5, 6])) (mIfS (mB (mBin ltD (mVar 4) (mCall lenD (aT (mVar 1) aNil)))) (mSetIx 2 (mBin ixD (mVar 1) (mVar 4)) (mBin addD (mBin ixD (mVar 2) (mBin ixD (mVar 1) (mVar 4))) (mC (.int 1)))) mNx))) (rU (sD ss) (.list (ri row)) cs fnd (some ⟨.val, .int (k : Nat)⟩)) = some (.ok .nx, rU (sD ss) (.list (ri row)) (inc cs l) (fnd ++ [.list xs]) (some ⟨.val, .int (k : Nat)⟩)) := by
      show mSeq _ _ _ = _
      rw [seq_nx (u_app e (by omega))]
      exact u_set ln (by omega) (by rw [c.len]; exact hl) ix
    obtain ⟨s4', cs', e2⟩ := u_loop h hr hn r (k + 1) (inc cs l) (fnd ++ [.list xs]) (some ⟨.val, .int (k : Nat)⟩) (fun j x hx => by
      have := hj (j + 1) x (by simpa using hx)
      rw [show k + 1 + j = k + (j + 1) by omega]
      exact this) (by omega) (c.step l (by omega)) (by rw [List.length_append, List.length_singleton, hf]) (.inr ⟨_, rfl⟩)
    refine ⟨s4', cs', ?_⟩
    have lr : ((List.range' k ((l :: r).length + 1)).map fun (i : Nat) => PyData.int (i : Nat)) = .int (k : Nat) :: ((List.range' (k + 1) (r.length + 1)).map fun (i : Nat) => PyData.int (i : Nat)) := by
      rw [List.length_cons, List.range'_succ, List.map_cons]
    rw [lr]
    unfold loopF bnd
    rw [st]
    dsimp only
    rw [b]
    dsimp only
    rw [e2, allF, List.map_cons, ← ex, List.append_assoc]
    rfl
theorem u_a {sd rd : D} {n : Int} {z : List D} (ln : lenD [sd] = some (.val (.int n))) (mz : mulD (.list [.int 0]) (.int n) = some (.fresh z)) : (mParO 2 3 (mBin mulD (mLst (aV (mC (.int 0)) aNil)) (mCall lenD (aT (mVar 0) aNil))) (mLst aNil)) [some ⟨.val, sd⟩, some ⟨.val, rd⟩, none, none, none, none, none] = some (.ok .nx, [some ⟨.val, sd⟩, some ⟨.val, rd⟩, some ⟨.own, .list z⟩, some ⟨.own, .list []⟩, none, none, none]) := by
  simp [mParO, noSlot, ln, mz, mkFn, isListAt, slots, slot0, mSeq, mAsg, mRet, mIfS, mDrop, mB, bnd, Mi.ret, thaw, thawR, mVal, valR, mVar, mC, mBin, mUn, op1, op2, look, opN, lookAll, mCall, aT, aV, aNil, mStore, okSet, isT, asB, mTup, mLst, valsOf, mNx, outIo, retR, Md.isOwn, Md.isIo, Md.isLk, fI, mIf, mAnd, mOr, mNot, mAndV, mOrV, mChain, mPar, mPar3, mF, mFk, callF, callIo, putIo, freezeBy, flatD, flatAll, flatY, mayGive, notSlot, gath, mAsgG, gT, gsCons, gsNil, gIx, gN, setIx, mSetIx, ownAt, mApp, appTo, mIsi, isiD, isK, kinds, tyD, mSl, mPart, mNoPart, asInt, slD, cutD, lenD, absD, max2D, min2D, gcdD, lcmD, intD, listD, tupleD, allD, boolsOf, divmodD, addD, subD, mulD, fdivD, modD, powD, leD, gtD, geD, isD, isntD, negD, notD, revD, isNone, sizeLine, mMt, mtS, startsD, findD, fmtD, mJs, strD, mFT, callT, mPar3O, mParO, noSlot, -mulD, -lenD]
theorem rng_nat (n : Nat) : rangeD 0 n = (List.range' 0 n).map fun (i : Nat) => PyData.int (i : Nat) := by
  unfold rangeD
  rw [List.range_eq_range']
  refine List.map_congr_left fun i _ => ?_
  rw [Int.zero_add]
theorem u_it {sd rd : D} {n : Nat} {s2 s3 : Option Slot} (ln : lenD [rd] = some (.val (.int (n : Nat)))) (hn : n ≤ 5000) : ((mRng1 (aT (mBin addD (mCall lenD (aT (mVar 1) aNil)) (mC (.int 1))) aNil))) [some ⟨.val, sd⟩, some ⟨.val, rd⟩, s2, s3, none, none, none] = some (.ok ⟨rangeD 0 (n + 1), []⟩, [some ⟨.val, sd⟩, some ⟨.val, rd⟩, s2, s3, none, none, none]) := by
  have i : in62 (((n : Nat) : Int) + 1) = true := by unfold in62; exact decide_eq_true (by omega)
  have t : (((n : Nat) : Int) + 1).toNat = n + 1 := by omega
  simp [mRng1, rng1, ln, i, t, mkFn, isListAt, slots, slot0, mSeq, mAsg, mRet, mIfS, mDrop, mB, bnd, Mi.ret, thaw, thawR, mVal, valR, mVar, mC, mBin, mUn, op1, op2, look, opN, lookAll, mCall, aT, aV, aNil, mStore, okSet, isT, asB, mTup, mLst, valsOf, mNx, outIo, retR, Md.isOwn, Md.isIo, Md.isLk, fI, mIf, mAnd, mOr, mNot, mAndV, mOrV, mChain, mPar, mPar3, mF, mFk, callF, callIo, putIo, freezeBy, flatD, flatAll, flatY, mayGive, notSlot, gath, mAsgG, gT, gsCons, gsNil, gIx, gN, setIx, mSetIx, ownAt, mApp, appTo, mIsi, isiD, isK, kinds, tyD, mSl, mPart, mNoPart, asInt, slD, cutD, lenD, absD, max2D, min2D, gcdD, lcmD, intD, listD, tupleD, allD, boolsOf, divmodD, addD, subD, mulD, fdivD, modD, powD, leD, gtD, geD, isD, isntD, negD, notD, revD, isNone, sizeLine, mMt, mtS, startsD, findD, fmtD, mJs, strD, mFT, callT, mPar3O, mParO, noSlot, -lenD]
theorem u_fin {sd rd : D} {cs : List Nat} {fnd : List D} {s4 : Option Slot} (a : mSeq ((mParO 2 3 (mBin mulD (mLst (aV (mC (.int 0)) aNil)) (mCall lenD (aT (mVar 0) aNil))) (mLst aNil))) (mSeq ((mFor (chk (mRng1 (aT (mBin addD (mCall lenD (aT (mVar 1) aNil)) (mC (.int 1))) aNil))) (gN 4) (mSeq (mApp 3 (mLc (mZip (mVar 0) (mVar 2)) (gT 2 (gsCons (gN 5) (gsCons (gN 6) gsNil))) (ret true) (mTup (aV (mBin subD (mBin mulD (mVar 4) (mBin ixD (mVar 5) (mC (.int 0)))) (mBin mulD (mVar 6) (mBin ixD (mVar 5) (mC (.int 1))))) (aV (mBin ixD (mVar 5) (mC (.int 1))) aNil))) [5, 6])) (mIfS (mB (mBin ltD (mVar 4) (mCall lenD (aT (mVar 1) aNil)))) (mSetIx 2 (mBin ixD (mVar 1) (mVar 4)) (mBin addD (mBin ixD (mVar 2) (mBin ixD (mVar 1) (mVar 4))) (mC (.int 1)))) mNx)))) ((mRet (mVar 3)))) [some ⟨.val, sd⟩, some ⟨.val, rd⟩, none, none, none, none, none] = some (.ok (.rt (.slot 3)), rU sd rd cs fnd s4)) : f__law_lags [sd, rd] = some (.ok (.fresh fnd), .none) := by
  have em : m__law_lags [some ⟨.val, sd⟩, some ⟨.val, rd⟩, none, none, none, none, none] = _ := a
  unfold rU at em
  generalize cD cs = z at em
  simp [f__law_lags, mkFn, isListAt, slots, slot0, em, outIo, retR]
theorem ev_u {ss : List (Nat × Nat)} {row : List Nat} (h : ∀ p ∈ ss, One p) (hs : ss.length ≤ 30) (hr : ∀ l ∈ row, l < ss.length) (hl : row.length ≤ 5000) : f__law_lags [sD ss, .list (ri row)] = some (.ok (.fresh ((allL ss row).map (lagU ss))), .none) := by
  have ln : lenD [.list (ri row)] = some (.val (.int (row.length : Nat))) := by simp [lenD]
  obtain ⟨s4, cs', lp⟩ := u_loop h hr hl row 0 (zs ss.length) [] none (fun j l hx => by rw [Nat.zero_add]; exact hx) (by omega) (zs_ok hs) rfl (.inl rfl)
  rw [← rng_nat, List.nil_append, allF_eq] at lp
  have a0 := u_a (rd := .list (ri row)) (len_sD ss) (mul_zero (k := ss.length) (by omega))
  rw [← cD_zs] at a0
  refine u_fin (cs := cs') (s4 := s4) ?_
  rw [seq_nx a0, seq_nx (for_run (u_it ln hl) lp)]
  simp [rU, mRet, mVar, bnd, Mi.ret, Md.isOwn]
  rfl
end K83

namespace K83
open PySem L2 Evl PySem.Spec Mi

/-! ### the law's break -/
theorem bools_of {α : Type} (q : α → Bool) : ∀ xs : List α, boolsOf (xs.map fun x => PyData.bool (q x)) = some (xs.map q)
  | [] => rfl
  | x :: xs => by
    rw [List.map_cons, boolsOf, bools_of q xs]
    rfl
theorem any_of {α : Type} (q : α → Bool) (xs : List α) : anyD [.list (xs.map fun x => PyData.bool (q x))] = some (.val (.bool (xs.any q))) := by
  simp only [anyD]
  rw [bools_of, Option.map_some, List.any_map]
  rfl
theorem all_of {α : Type} (q : α → Bool) (xs : List α) : allD [.list (xs.map fun x => PyData.bool (q x))] = some (.val (.bool (xs.all q))) := by
  simp only [allD]
  rw [bools_of, Option.map_some, List.all_map]
  rfl
def fa : D → D
  | .tuple [.int a, .int u] => .bool (badQ a u.toNat)
  | d => d
theorem badQ_abs (a : Int) (u : Nat) : badQ a u = decide (((u : Nat) : Int) ≤ (if a < 0 then -a else a)) := by
  unfold badQ
  by_cases h : a < 0
  · rw [if_pos h]
    by_cases h1 : -((u : Nat) : Int) < a
    · have h2 : a < ((u : Nat) : Int) := by omega
      simp [h1, h2]; omega
    · simp [h1]; omega
  · rw [if_neg h]
    have h1 : -((u : Nat) : Int) ≤ a := by omega
    by_cases h2 : a < ((u : Nat) : Int)
    · by_cases h3 : -((u : Nat) : Int) < a
      · simp [h2, h3]
      · simp [h3]; omega
    · simp [h2]; omega
def rJ (sd rd : D) (s2 s3 : Option Slot) : R := [some ⟨.val, sd⟩, some ⟨.val, rd⟩, s2, s3, none, none]
theorem j_lc {sd rd : D} {s2 : Option Slot} {ss : List (Nat × Nat)} {lg : List Int} (hs : ss.length ≤ 30) : (mLc (mItD (mVar 3)) (gT 2 (gsCons (gN 4) (gsCons (gN 5) gsNil))) (ret true) (mBin geD (mCall absD (aT (mVar 4) aNil)) (mVar 5)) [4, 5]) (rJ sd rd s2 (some ⟨.val, lagU ss lg⟩)) = some (.ok (.fresh ((lg.zip ss).map fun x => .bool (badQ x.1 x.2.2))), rJ sd rd s2 (some ⟨.val, lagU ss lg⟩)) := by
  have em : ((lg.zip ss).map fun x => PyData.bool (badQ x.1 x.2.2)) = ((lg.zip ss).map uP).map fa := by
    rw [List.map_map]
    rfl
  rw [em]
  refine lc_run (ρ1 := rJ sd rd s2 (some ⟨.val, lagU ss lg⟩)) (ρe := rJ sd rd s2 (some ⟨.val, lagU ss lg⟩)) (ds := (lg.zip ss).map uP) (by simp [rJ, lagU, mItD, iterD, mkFn, isListAt, slots, slot0, mSeq, mAsg, mRet, mIfS, mDrop, mB, bnd, Mi.ret, thaw, thawR, mVal, valR, mVar, mC, mBin, mUn, op1, op2, look, opN, lookAll, mCall, aT, aV, aNil, mStore, okSet, isT, asB, mTup, mLst, valsOf, mNx, outIo, retR, Md.isOwn, Md.isIo, Md.isLk, fI, mIf, mAnd, mOr, mNot, mAndV, mOrV, mChain, mPar, mPar3, mF, mFk, callF, callIo, putIo, freezeBy, flatD, flatAll, flatY, mayGive, notSlot, gath, mAsgG, gT, gsCons, gsNil, gIx, gN, setIx, mSetIx, ownAt, mApp, appTo, mIsi, isiD, isK, kinds, tyD, mSl, mPart, mNoPart, asInt, slD, cutD, lenD, absD, max2D, min2D, gcdD, lcmD, intD, listD, tupleD, allD, boolsOf, divmodD, addD, subD, mulD, fdivD, modD, powD, ltD, leD, gtD, geD, isD, isntD, negD, notD, ixD, revD, atI, ixN, isNone, sizeLine, eqsD, nesD, eqD, neD, inD, inT, inL, mMt, mtS, startsD, findD, fmtD, mJs, strD, mFT, callT, mPar3O, mParO, noSlot]) ?_
  show loopC _ _ _ _ _ (rJ sd rd s2 (some ⟨.val, lagU ss lg⟩)) [] = _
  refine loopC_map (f := fa) _ [] (by rw [List.length_map, List.length_zip, show sizeLine = 16777216 from rfl]; simp; omega) fun d hd => ?_
  obtain ⟨⟨a, n, u⟩, _, rfl⟩ := List.mem_map.mp hd
  generalize lagU ss lg = ld
  have e : fa (uP (a, n, u)) = .bool (badQ a u) := rfl
  rw [e, badQ_abs]
  refine ⟨[some ⟨.val, sd⟩, some ⟨.val, rd⟩, s2, some ⟨.val, ld⟩, some ⟨.val, .int a⟩, some ⟨.val, .int (u : Nat)⟩], [some ⟨.val, sd⟩, some ⟨.val, rd⟩, s2, some ⟨.val, ld⟩, some ⟨.val, .int a⟩, some ⟨.val, .int (u : Nat)⟩], ?_, ?_, rfl⟩
  · simp [rJ, uP, gT, gsCons, gsNil, gN, mStore, okSet, mkFn, isListAt, slots, slot0, mSeq, mAsg, mRet, mIfS, mDrop, mB, bnd, Mi.ret, thaw, thawR, mVal, valR, mVar, mC, mBin, mUn, op1, op2, look, opN, lookAll, mCall, aT, aV, aNil, mStore, okSet, isT, asB, mTup, mLst, valsOf, mNx, outIo, retR, Md.isOwn, Md.isIo, Md.isLk, fI, mIf, mAnd, mOr, mNot, mAndV, mOrV, mChain, mPar, mPar3, mF, mFk, callF, callIo, putIo, freezeBy, flatD, flatAll, flatY, mayGive, notSlot, gath, mAsgG, gT, gsCons, gsNil, gIx, gN, setIx, mSetIx, ownAt, mApp, appTo, mIsi, isiD, isK, kinds, tyD, mSl, mPart, mNoPart, asInt, slD, cutD, lenD, absD, max2D, min2D, gcdD, lcmD, intD, listD, tupleD, allD, boolsOf, divmodD, addD, subD, mulD, fdivD, modD, powD, ltD, leD, gtD, geD, isD, isntD, negD, notD, ixD, revD, atI, ixN, isNone, sizeLine, eqsD, nesD, eqD, neD, inD, inT, inL, mMt, mtS, startsD, findD, fmtD, mJs, strD, mFT, callT, mPar3O, mParO, noSlot]
  · simp [mkFn, isListAt, slots, slot0, mSeq, mAsg, mRet, mIfS, mDrop, mB, bnd, Mi.ret, thaw, thawR, mVal, valR, mVar, mC, mBin, mUn, op1, op2, look, opN, lookAll, mCall, aT, aV, aNil, mStore, okSet, isT, asB, mTup, mLst, valsOf, mNx, outIo, retR, Md.isOwn, Md.isIo, Md.isLk, fI, mIf, mAnd, mOr, mNot, mAndV, mOrV, mChain, mPar, mPar3, mF, mFk, callF, callIo, putIo, freezeBy, flatD, flatAll, flatY, mayGive, notSlot, gath, mAsgG, gT, gsCons, gsNil, gIx, gN, setIx, mSetIx, ownAt, mApp, appTo, mIsi, isiD, isK, kinds, tyD, mSl, mPart, mNoPart, asInt, slD, cutD, lenD, absD, max2D, min2D, gcdD, lcmD, intD, listD, tupleD, allD, boolsOf, divmodD, addD, subD, mulD, fdivD, modD, powD, ltD, leD, gtD, geD, isD, isntD, negD, notD, ixD, revD, atI, ixN, isNone, sizeLine, eqsD, nesD, eqD, neD, inD, inT, inL, mMt, mtS, startsD, findD, fmtD, mJs, strD, mFT, callT, mPar3O, mParO, noSlot]
theorem j_body {sd rd ld : D} {xs : List D} {m : Nat} {q : Bool} (lc : (mLc (mItD (mVar 3)) (gT 2 (gsCons (gN 4) (gsCons (gN 5) gsNil))) (ret true) (mBin geD (mCall absD (aT (mVar 4) aNil)) (mVar 5)) [4, 5]) (rJ sd rd (some ⟨.val, .int (m : Nat)⟩) (some ⟨.val, ld⟩)) = some (.ok (.fresh xs), rJ sd rd (some ⟨.val, .int (m : Nat)⟩) (some ⟨.val, ld⟩))) (an : anyD [.list xs] = some (.val (.bool q))) : ((mIfS (mB (mCall anyD (aT (mLc (mItD (mVar 3)) (gT 2 (gsCons (gN 4) (gsCons (gN 5) gsNil))) (ret true) (mBin geD (mCall absD (aT (mVar 4) aNil)) (mVar 5)) [4, 5]) aNil))) (mRet (mVar 2)) mNx)) (rJ sd rd (some ⟨.val, .int (m : Nat)⟩) (some ⟨.val, ld⟩)) = some (.ok (flOf (if q then some (.val (.int (m : Nat))) else none)), rJ sd rd (some ⟨.val, .int (m : Nat)⟩) (some ⟨.val, ld⟩)) := by
  generalize (mLc (mItD (mVar 3)) (gT 2 (gsCons (gN 4) (gsCons (gN 5) gsNil))) (ret true) (mBin geD (mCall absD (aT (mVar 4) aNil)) (mVar 5)) [4, 5]) = mm at lc
  unfold rJ at lc ⊢
  cases q <;> simp [lc, an, flOf, mkFn, isListAt, slots, slot0, mSeq, mAsg, mRet, mIfS, mDrop, mB, bnd, Mi.ret, thaw, thawR, mVal, valR, mVar, mC, mBin, mUn, op1, op2, look, opN, lookAll, mCall, aT, aV, aNil, mStore, okSet, isT, asB, mTup, mLst, valsOf, mNx, outIo, retR, Md.isOwn, Md.isIo, Md.isLk, fI, mIf, mAnd, mOr, mNot, mAndV, mOrV, mChain, mPar, mPar3, mF, mFk, callF, callIo, putIo, freezeBy, flatD, flatAll, flatY, mayGive, notSlot, gath, mAsgG, gT, gsCons, gsNil, gIx, gN, setIx, mSetIx, ownAt, mApp, appTo, mIsi, isiD, isK, kinds, tyD, mSl, mPart, mNoPart, asInt, slD, cutD, lenD, absD, max2D, min2D, gcdD, lcmD, intD, listD, tupleD, allD, boolsOf, divmodD, addD, subD, mulD, fdivD, modD, powD, leD, gtD, geD, isD, isntD, negD, notD, revD, isNone, sizeLine, mMt, mtS, startsD, findD, fmtD, mJs, strD, mFT, callT, mPar3O, mParO, noSlot, -anyD]
theorem j_out {ss : List (Nat × Nat)} {sd rd : D} (hs : ss.length ≤ 30) (ls : List (List Int)) :
    ∃ s2 s3, loopF ((gT 2 (gsCons (gN 2) (gsCons (gN 3) gsNil)))) ((mIfS (mB (mCall anyD (aT (mLc (mItD (mVar 3)) (gT 2 (gsCons (gN 4) (gsCons (gN 5) gsNil))) (ret true) (mBin geD (mCall absD (aT (mVar 4) aNil)) (mVar 5)) [4, 5]) aNil))) (mRet (mVar 2)) mNx)) (enumL 0 (ls.map (lagU ss))) (rJ sd rd none none) = some (.ok (flOf ((brk ss ls 0).map fun m => .val (.int (m : Nat)))), rJ sd rd s2 s3) := by
  rw [items_enum]
  obtain ⟨ρ', e, s2, s3, q2, q3, hρ⟩ := loopF_first (g := (gT 2 (gsCons (gN 2) (gsCons (gN 3) gsNil)))) (b := (mIfS (mB (mCall anyD (aT (mLc (mItD (mVar 3)) (gT 2 (gsCons (gN 4) (gsCons (gN 5) gsNil))) (ret true) (mBin geD (mCall absD (aT (mVar 4) aNil)) (mVar 5)) [4, 5]) aNil))) (mRet (mVar 2)) mNx)) (d := fun k (x : List Int) => .tuple [.int (k : Nat), lagU ss x]) (t := fun k (lg : List Int) => if badL ss lg then some (Res.val (.int (k : Nat))) else none)
    (fun ρ => ∃ s2 s3, Vl s2 ∧ Vl s3 ∧ ρ = rJ sd rd s2 s3) ls 0 _ ⟨none, none, .inl rfl, .inl rfl, rfl⟩ (fun i lg ρ _ ⟨s2, s3, h2, h3, hρ⟩ => by
      subst hρ
      have lc := j_lc (sd := sd) (rd := rd) (s2 := some ⟨.val, .int ((0 + i : Nat) : Int)⟩) (ss := ss) (lg := lg) hs
      have an := any_of (fun x : Int × (Nat × Nat) => badQ x.1 x.2.2) (lg.zip ss)
      refine ⟨rJ sd rd (some ⟨.val, .int ((0 + i : Nat) : Int)⟩) (some ⟨.val, lagU ss lg⟩), _, ?_, j_body lc an, _, _, .inr ⟨_, rfl⟩, .inr ⟨_, rfl⟩, rfl⟩
      generalize lagU ss lg = ld
      rcases h2 with rfl | ⟨t, rfl⟩ <;> rcases h3 with rfl | ⟨t, rfl⟩ <;> simp [rJ, gT, gsCons, gsNil, gN, mStore, okSet, mkFn, isListAt, slots, slot0, mSeq, mAsg, mRet, mIfS, mDrop, mB, bnd, Mi.ret, thaw, thawR, mVal, valR, mVar, mC, mBin, mUn, op1, op2, look, opN, lookAll, mCall, aT, aV, aNil, mStore, okSet, isT, asB, mTup, mLst, valsOf, mNx, outIo, retR, Md.isOwn, Md.isIo, Md.isLk, fI, mIf, mAnd, mOr, mNot, mAndV, mOrV, mChain, mPar, mPar3, mF, mFk, callF, callIo, putIo, freezeBy, flatD, flatAll, flatY, mayGive, notSlot, gath, mAsgG, gT, gsCons, gsNil, gIx, gN, setIx, mSetIx, ownAt, mApp, appTo, mIsi, isiD, isK, kinds, tyD, mSl, mPart, mNoPart, asInt, slD, cutD, lenD, absD, max2D, min2D, gcdD, lcmD, intD, listD, tupleD, allD, boolsOf, divmodD, addD, subD, mulD, fdivD, modD, powD, ltD, leD, gtD, geD, isD, isntD, negD, notD, ixD, revD, atI, ixN, isNone, sizeLine, eqsD, nesD, eqD, neD, inD, inT, inL, mMt, mtS, startsD, findD, fmtD, mJs, strD, mFT, callT, mPar3O, mParO, noSlot])
  subst hρ
  rw [first_brk] at e
  exact ⟨s2, s3, e⟩
theorem j_it {sd rd : D} {xs : List D} (e : f__law_lags [sd, rd] = some (.ok (.fresh xs), .none)) : ((mEnum (mF 2 f__law_lags none (aT (mVar 0) (aT (mVar 1) aNil))))) (rJ sd rd none none) = some (.ok ⟨enumL 0 xs, []⟩, rJ sd rd none none) := by
  simp [rJ, mEnum, mItL, iterL, iterD, e, mkFn, isListAt, slots, slot0, mSeq, mAsg, mRet, mIfS, mDrop, mB, bnd, Mi.ret, thaw, thawR, mVal, valR, mVar, mC, mBin, mUn, op1, op2, look, opN, lookAll, mCall, aT, aV, aNil, mStore, okSet, isT, asB, mTup, mLst, valsOf, mNx, outIo, retR, Md.isOwn, Md.isIo, Md.isLk, fI, mIf, mAnd, mOr, mNot, mAndV, mOrV, mChain, mPar, mPar3, mF, mFk, callF, callIo, putIo, freezeBy, flatD, flatAll, flatY, mayGive, notSlot, gath, mAsgG, gT, gsCons, gsNil, gIx, gN, setIx, mSetIx, ownAt, mApp, appTo, mIsi, isiD, isK, kinds, tyD, mSl, mPart, mNoPart, asInt, slD, cutD, lenD, absD, max2D, min2D, gcdD, lcmD, intD, listD, tupleD, allD, boolsOf, divmodD, addD, subD, mulD, fdivD, modD, powD, ltD, leD, gtD, geD, isD, isntD, negD, notD, ixD, revD, atI, ixN, isNone, sizeLine, eqsD, nesD, eqD, neD, inD, inT, inL, mMt, mtS, startsD, findD, fmtD, mJs, strD, mFT, callT, mPar3O, mParO, noSlot]
theorem j_end {sd rd : D} {o : Option Nat} {s2 s3 : Option Slot} (e : ((mFor (chk (mEnum (mF 2 f__law_lags none (aT (mVar 0) (aT (mVar 1) aNil))))) (gT 2 (gsCons (gN 2) (gsCons (gN 3) gsNil))) (mIfS (mB (mCall anyD (aT (mLc (mItD (mVar 3)) (gT 2 (gsCons (gN 4) (gsCons (gN 5) gsNil))) (ret true) (mBin geD (mCall absD (aT (mVar 4) aNil)) (mVar 5)) [4, 5]) aNil))) (mRet (mVar 2)) mNx))) (rJ sd rd none none) = some (.ok (flOf (o.map fun m => .val (.int (m : Nat)))), rJ sd rd s2 s3)) : f__law_break [sd, rd] = some (.ok (.val (optD o)), .none) := by
  have em : m__law_break [some ⟨.val, sd⟩, some ⟨.val, rd⟩, none, none, none, none] = some (.ok (.rt (.val (optD o))), rJ sd rd s2 s3) := by
    show mSeq ((mFor (chk (mEnum (mF 2 f__law_lags none (aT (mVar 0) (aT (mVar 1) aNil))))) (gT 2 (gsCons (gN 2) (gsCons (gN 3) gsNil))) (mIfS (mB (mCall anyD (aT (mLc (mItD (mVar 3)) (gT 2 (gsCons (gN 4) (gsCons (gN 5) gsNil))) (ret true) (mBin geD (mCall absD (aT (mVar 4) aNil)) (mVar 5)) [4, 5]) aNil))) (mRet (mVar 2)) mNx))) ((mRet (mC .none))) (rJ sd rd none none) = _
    unfold mSeq bnd
    rw [e]
    cases o with
    | none => simp [flOf, optD, rJ, mkFn, isListAt, slots, slot0, mSeq, mAsg, mRet, mIfS, mDrop, mB, bnd, Mi.ret, thaw, thawR, mVal, valR, mVar, mC, mBin, mUn, op1, op2, look, opN, lookAll, mCall, aT, aV, aNil, mStore, okSet, isT, asB, mTup, mLst, valsOf, mNx, outIo, retR, Md.isOwn, Md.isIo, Md.isLk, fI, mIf, mAnd, mOr, mNot, mAndV, mOrV, mChain, mPar, mPar3, mF, mFk, callF, callIo, putIo, freezeBy, flatD, flatAll, flatY, mayGive, notSlot, gath, mAsgG, gT, gsCons, gsNil, gIx, gN, setIx, mSetIx, ownAt, mApp, appTo, mIsi, isiD, isK, kinds, tyD, mSl, mPart, mNoPart, asInt, slD, cutD, lenD, absD, max2D, min2D, gcdD, lcmD, intD, listD, tupleD, allD, boolsOf, divmodD, addD, subD, mulD, fdivD, modD, powD, ltD, leD, gtD, geD, isD, isntD, negD, notD, ixD, revD, atI, ixN, isNone, sizeLine, eqsD, nesD, eqD, neD, inD, inT, inL, mMt, mtS, startsD, findD, fmtD, mJs, strD, mFT, callT, mPar3O, mParO, noSlot]
    | some m => rfl
  simp [f__law_break, mkFn, isListAt, slots, slot0, em, outIo, retR]
theorem ev_lbrk {ss : List (Nat × Nat)} {row : List Nat} (h : ∀ p ∈ ss, One p) (hs : ss.length ≤ 30) (hr : ∀ l ∈ row, l < ss.length) (hl : row.length ≤ 5000) : f__law_break [sD ss, .list (ri row)] = some (.ok (.val (optD (brk ss (allL ss row) 0))), .none) := by
  have e := ev_u h hs hr hl
  obtain ⟨s2, s3, lp⟩ := j_out (ss := ss) (sd := sD ss) (rd := .list (ri row)) hs (allL ss row)
  exact j_end (for_run (j_it e) lp)
/-! ### rows are rows -/
theorem ev_is_count (d : D) : f_is_count [d] = some (.ok (.val (.bool (match d with | .int i => decide (0 ≤ i) | _ => false))), .none) := by
  have e := ev_is_integer d
  cases d with
  | int i =>
    by_cases h : 0 ≤ i
    · simp [f_is_count, m_is_count, e, h, mkFn, isListAt, slots, slot0, mSeq, mAsg, mRet, mIfS, mDrop, mB, bnd, Mi.ret, thaw, thawR, mVal, valR, mVar, mC, mBin, mUn, op1, op2, look, opN, lookAll, mCall, aT, aV, aNil, mStore, okSet, isT, asB, mTup, mLst, valsOf, mNx, outIo, retR, Md.isOwn, Md.isIo, Md.isLk, fI, mIf, mAnd, mOr, mNot, mAndV, mOrV, mChain, mPar, mPar3, mF, mFk, callF, callIo, putIo, freezeBy, flatD, flatAll, flatY, mayGive, notSlot, gath, mAsgG, gT, gsCons, gsNil, gIx, gN, setIx, mSetIx, ownAt, mApp, appTo, mIsi, isiD, isK, kinds, tyD, mSl, mPart, mNoPart, asInt, slD, cutD, lenD, absD, max2D, min2D, gcdD, lcmD, intD, listD, tupleD, allD, boolsOf, divmodD, addD, subD, mulD, fdivD, modD, powD, ltD, leD, gtD, geD, isD, isntD, negD, notD, ixD, revD, atI, ixN, isNone, sizeLine, eqsD, nesD, eqD, neD, inD, inT, inL, mMt, mtS, startsD, findD, fmtD, mJs, strD, mFT, callT, mPar3O, mParO, noSlot]
    · simp [f_is_count, m_is_count, e, h, mkFn, isListAt, slots, slot0, mSeq, mAsg, mRet, mIfS, mDrop, mB, bnd, Mi.ret, thaw, thawR, mVal, valR, mVar, mC, mBin, mUn, op1, op2, look, opN, lookAll, mCall, aT, aV, aNil, mStore, okSet, isT, asB, mTup, mLst, valsOf, mNx, outIo, retR, Md.isOwn, Md.isIo, Md.isLk, fI, mIf, mAnd, mOr, mNot, mAndV, mOrV, mChain, mPar, mPar3, mF, mFk, callF, callIo, putIo, freezeBy, flatD, flatAll, flatY, mayGive, notSlot, gath, mAsgG, gT, gsCons, gsNil, gIx, gN, setIx, mSetIx, ownAt, mApp, appTo, mIsi, isiD, isK, kinds, tyD, mSl, mPart, mNoPart, asInt, slD, cutD, lenD, absD, max2D, min2D, gcdD, lcmD, intD, listD, tupleD, allD, boolsOf, divmodD, addD, subD, mulD, fdivD, modD, powD, ltD, leD, gtD, geD, isD, isntD, negD, notD, ixD, revD, atI, ixN, isNone, sizeLine, eqsD, nesD, eqD, neD, inD, inT, inL, mMt, mtS, startsD, findD, fmtD, mJs, strD, mFT, callT, mPar3O, mParO, noSlot]
  | _ => simp [f_is_count, m_is_count, e, mkFn, isListAt, slots, slot0, mSeq, mAsg, mRet, mIfS, mDrop, mB, bnd, Mi.ret, thaw, thawR, mVal, valR, mVar, mC, mBin, mUn, op1, op2, look, opN, lookAll, mCall, aT, aV, aNil, mStore, okSet, isT, asB, mTup, mLst, valsOf, mNx, outIo, retR, Md.isOwn, Md.isIo, Md.isLk, fI, mIf, mAnd, mOr, mNot, mAndV, mOrV, mChain, mPar, mPar3, mF, mFk, callF, callIo, putIo, freezeBy, flatD, flatAll, flatY, mayGive, notSlot, gath, mAsgG, gT, gsCons, gsNil, gIx, gN, setIx, mSetIx, ownAt, mApp, appTo, mIsi, isiD, isK, kinds, tyD, mSl, mPart, mNoPart, asInt, slD, cutD, lenD, absD, max2D, min2D, gcdD, lcmD, intD, listD, tupleD, allD, boolsOf, divmodD, addD, subD, mulD, fdivD, modD, powD, ltD, leD, gtD, geD, isD, isntD, negD, notD, ixD, revD, atI, ixN, isNone, sizeLine, eqsD, nesD, eqD, neD, inD, inT, inL, mMt, mtS, startsD, findD, fmtD, mJs, strD, mFT, callT, mPar3O, mParO, noSlot]
theorem ev_is_list (d : D) : f_is_list [d] = some (.ok (.val (.bool (match d with | .list _ => true | .tuple _ => true | _ => false))), .none) := by
  cases d <;> simp [f_is_list, m_is_list, mkFn, isListAt, slots, slot0, mSeq, mAsg, mRet, mIfS, mDrop, mB, bnd, Mi.ret, thaw, thawR, mVal, valR, mVar, mC, mBin, mUn, op1, op2, look, opN, lookAll, mCall, aT, aV, aNil, mStore, okSet, isT, asB, mTup, mLst, valsOf, mNx, outIo, retR, Md.isOwn, Md.isIo, Md.isLk, fI, mIf, mAnd, mOr, mNot, mAndV, mOrV, mChain, mPar, mPar3, mF, mFk, callF, callIo, putIo, freezeBy, flatD, flatAll, flatY, mayGive, notSlot, gath, mAsgG, gT, gsCons, gsNil, gIx, gN, setIx, mSetIx, ownAt, mApp, appTo, mIsi, isiD, isK, kinds, tyD, mSl, mPart, mNoPart, asInt, slD, cutD, lenD, absD, max2D, min2D, gcdD, lcmD, intD, listD, tupleD, allD, boolsOf, divmodD, addD, subD, mulD, fdivD, modD, powD, ltD, leD, gtD, geD, isD, isntD, negD, notD, ixD, revD, atI, ixN, isNone, sizeLine, eqsD, nesD, eqD, neD, inD, inT, inL, mMt, mtS, startsD, findD, fmtD, mJs, strD, mFT, callT, mPar3O, mParO, noSlot]
/-- a letter of so many -/
def letQ (n : Nat) : D → Bool
  | .int i => decide (0 ≤ i) && decide (i < (n : Nat))
  | _ => false
def rowQ (n : Nat) : D → Bool
  | .list xs => xs.all (letQ n)
  | .tuple xs => xs.all (letQ n)
  | _ => false
theorem let_val {sd d rd : D} {n : Nat} (ln : lenD [sd] = some (.val (.int (n : Nat)))) : mVal ((mAndV (mF 1 f_is_count none (aT (mVar 2) aNil)) (mBin ltD (mVar 2) (mCall lenD (aT (mVar 0) aNil))))) [some ⟨.val, sd⟩, some ⟨.val, rd⟩, some ⟨.val, d⟩] = some (.ok (.bool (letQ n d)), [some ⟨.val, sd⟩, some ⟨.val, rd⟩, some ⟨.val, d⟩]) := by
  have e := ev_is_count d
  cases d with
  | int i =>
    by_cases h : 0 ≤ i
    · by_cases h2 : i < ((n : Nat) : Int)
      · simp [letQ, e, ln, h, h2, mkFn, isListAt, slots, slot0, mSeq, mAsg, mRet, mIfS, mDrop, mB, bnd, Mi.ret, thaw, thawR, mVal, valR, mVar, mC, mBin, mUn, op1, op2, look, opN, lookAll, mCall, aT, aV, aNil, mStore, okSet, isT, asB, mTup, mLst, valsOf, mNx, outIo, retR, Md.isOwn, Md.isIo, Md.isLk, fI, mIf, mAnd, mOr, mNot, mAndV, mOrV, mChain, mPar, mPar3, mF, mFk, callF, callIo, putIo, freezeBy, flatD, flatAll, flatY, mayGive, notSlot, gath, mAsgG, gT, gsCons, gsNil, gIx, gN, setIx, mSetIx, ownAt, mApp, appTo, mIsi, isiD, isK, kinds, tyD, mSl, mPart, mNoPart, asInt, slD, cutD, lenD, absD, max2D, min2D, gcdD, lcmD, intD, listD, tupleD, allD, boolsOf, divmodD, addD, subD, mulD, fdivD, modD, powD, ltD, leD, gtD, geD, isD, isntD, negD, notD, ixD, revD, atI, ixN, isNone, sizeLine, eqsD, nesD, eqD, neD, inD, inT, inL, mMt, mtS, startsD, findD, fmtD, mJs, strD, mFT, callT, mPar3O, mParO, noSlot, -lenD]
      · have h3 : ((n : Nat) : Int) ≤ i := by omega
        simp [letQ, e, ln, h, h2, h3, mkFn, isListAt, slots, slot0, mSeq, mAsg, mRet, mIfS, mDrop, mB, bnd, Mi.ret, thaw, thawR, mVal, valR, mVar, mC, mBin, mUn, op1, op2, look, opN, lookAll, mCall, aT, aV, aNil, mStore, okSet, isT, asB, mTup, mLst, valsOf, mNx, outIo, retR, Md.isOwn, Md.isIo, Md.isLk, fI, mIf, mAnd, mOr, mNot, mAndV, mOrV, mChain, mPar, mPar3, mF, mFk, callF, callIo, putIo, freezeBy, flatD, flatAll, flatY, mayGive, notSlot, gath, mAsgG, gT, gsCons, gsNil, gIx, gN, setIx, mSetIx, ownAt, mApp, appTo, mIsi, isiD, isK, kinds, tyD, mSl, mPart, mNoPart, asInt, slD, cutD, lenD, absD, max2D, min2D, gcdD, lcmD, intD, listD, tupleD, allD, boolsOf, divmodD, addD, subD, mulD, fdivD, modD, powD, ltD, leD, gtD, geD, isD, isntD, negD, notD, ixD, revD, atI, ixN, isNone, sizeLine, eqsD, nesD, eqD, neD, inD, inT, inL, mMt, mtS, startsD, findD, fmtD, mJs, strD, mFT, callT, mPar3O, mParO, noSlot, -lenD]
    · have h3 : i < 0 := by omega
      simp [letQ, e, h, h3, mkFn, isListAt, slots, slot0, mSeq, mAsg, mRet, mIfS, mDrop, mB, bnd, Mi.ret, thaw, thawR, mVal, valR, mVar, mC, mBin, mUn, op1, op2, look, opN, lookAll, mCall, aT, aV, aNil, mStore, okSet, isT, asB, mTup, mLst, valsOf, mNx, outIo, retR, Md.isOwn, Md.isIo, Md.isLk, fI, mIf, mAnd, mOr, mNot, mAndV, mOrV, mChain, mPar, mPar3, mF, mFk, callF, callIo, putIo, freezeBy, flatD, flatAll, flatY, mayGive, notSlot, gath, mAsgG, gT, gsCons, gsNil, gIx, gN, setIx, mSetIx, ownAt, mApp, appTo, mIsi, isiD, isK, kinds, tyD, mSl, mPart, mNoPart, asInt, slD, cutD, lenD, absD, max2D, min2D, gcdD, lcmD, intD, listD, tupleD, allD, boolsOf, divmodD, addD, subD, mulD, fdivD, modD, powD, ltD, leD, gtD, geD, isD, isntD, negD, notD, ixD, revD, atI, ixN, isNone, sizeLine, eqsD, nesD, eqD, neD, inD, inT, inL, mMt, mtS, startsD, findD, fmtD, mJs, strD, mFT, callT, mPar3O, mParO, noSlot]
  | _ => simp [letQ, e, mkFn, isListAt, slots, slot0, mSeq, mAsg, mRet, mIfS, mDrop, mB, bnd, Mi.ret, thaw, thawR, mVal, valR, mVar, mC, mBin, mUn, op1, op2, look, opN, lookAll, mCall, aT, aV, aNil, mStore, okSet, isT, asB, mTup, mLst, valsOf, mNx, outIo, retR, Md.isOwn, Md.isIo, Md.isLk, fI, mIf, mAnd, mOr, mNot, mAndV, mOrV, mChain, mPar, mPar3, mF, mFk, callF, callIo, putIo, freezeBy, flatD, flatAll, flatY, mayGive, notSlot, gath, mAsgG, gT, gsCons, gsNil, gIx, gN, setIx, mSetIx, ownAt, mApp, appTo, mIsi, isiD, isK, kinds, tyD, mSl, mPart, mNoPart, asInt, slD, cutD, lenD, absD, max2D, min2D, gcdD, lcmD, intD, listD, tupleD, allD, boolsOf, divmodD, addD, subD, mulD, fdivD, modD, powD, ltD, leD, gtD, geD, isD, isntD, negD, notD, ixD, revD, atI, ixN, isNone, sizeLine, eqsD, nesD, eqD, neD, inD, inT, inL, mMt, mtS, startsD, findD, fmtD, mJs, strD, mFT, callT, mPar3O, mParO, noSlot]
theorem row_lc {sd rd : D} {xs : List D} {n : Nat} (ln : lenD [sd] = some (.val (.int (n : Nat)))) (hx : rd = .list xs ∨ rd = .tuple xs) (hl : xs.length ≤ 10000) : (mLc (mItD (mVar 1)) (gN 2) (ret true) (mAndV (mF 1 f_is_count none (aT (mVar 2) aNil)) (mBin ltD (mVar 2) (mCall lenD (aT (mVar 0) aNil)))) [2]) [some ⟨.val, sd⟩, some ⟨.val, rd⟩, none] = some (.ok (.fresh (xs.map fun d => .bool (letQ n d))), [some ⟨.val, sd⟩, some ⟨.val, rd⟩, none]) := by
  refine lc_run (ρ1 := [some ⟨.val, sd⟩, some ⟨.val, rd⟩, none]) (ρe := [some ⟨.val, sd⟩, some ⟨.val, rd⟩, none]) (ds := xs) (by rcases hx with rfl | rfl <;> simp [mItD, iterD, mkFn, isListAt, slots, slot0, mSeq, mAsg, mRet, mIfS, mDrop, mB, bnd, Mi.ret, thaw, thawR, mVal, valR, mVar, mC, mBin, mUn, op1, op2, look, opN, lookAll, mCall, aT, aV, aNil, mStore, okSet, isT, asB, mTup, mLst, valsOf, mNx, outIo, retR, Md.isOwn, Md.isIo, Md.isLk, fI, mIf, mAnd, mOr, mNot, mAndV, mOrV, mChain, mPar, mPar3, mF, mFk, callF, callIo, putIo, freezeBy, flatD, flatAll, flatY, mayGive, notSlot, gath, mAsgG, gT, gsCons, gsNil, gIx, gN, setIx, mSetIx, ownAt, mApp, appTo, mIsi, isiD, isK, kinds, tyD, mSl, mPart, mNoPart, asInt, slD, cutD, lenD, absD, max2D, min2D, gcdD, lcmD, intD, listD, tupleD, allD, boolsOf, divmodD, addD, subD, mulD, fdivD, modD, powD, ltD, leD, gtD, geD, isD, isntD, negD, notD, ixD, revD, atI, ixN, isNone, sizeLine, eqsD, nesD, eqD, neD, inD, inT, inL, mMt, mtS, startsD, findD, fmtD, mJs, strD, mFT, callT, mPar3O, mParO, noSlot]) ?_
  show loopC _ _ _ _ _ [some ⟨.val, sd⟩, some ⟨.val, rd⟩, none] [] = _
  refine loopC_map (f := fun d => .bool (letQ n d)) _ [] (by rw [show sizeLine = 16777216 from rfl]; simp; omega) fun d hd => ?_
  exact ⟨[some ⟨.val, sd⟩, some ⟨.val, rd⟩, some ⟨.val, d⟩], [some ⟨.val, sd⟩, some ⟨.val, rd⟩, some ⟨.val, d⟩], by simp [gN, mStore, okSet], let_val ln, rfl⟩
theorem ev_is_row {sd rd : D} {n : Nat} (ln : lenD [sd] = some (.val (.int (n : Nat)))) (hl : ∀ xs, rd = .list xs ∨ rd = .tuple xs → xs.length ≤ 10000) : f_is_row_24 [sd, rd] = some (.ok (.val (.bool (rowQ n rd))), .none) := by
  have e := ev_is_list rd
  have go : ∀ xs, (rd = .list xs ∨ rd = .tuple xs) → f_is_row_24 [sd, rd] = some (.ok (.val (.bool (xs.all (letQ n)))), .none) := by
    intro xs hx
    have e : f_is_list [rd] = some (.ok (.val (.bool true)), .none) := by rcases hx with rfl | rfl <;> exact ev_is_list _
    have lc := row_lc ln hx (hl xs hx)
    have al := all_of (letQ n) xs
    have em : m_is_row_24 [some ⟨.val, sd⟩, some ⟨.val, rd⟩, none] = some (.ok (.rt (.val (.bool (xs.all (letQ n))))), [some ⟨.val, sd⟩, some ⟨.val, rd⟩, none]) := by
      unfold m_is_row_24
      generalize (mLc (mItD (mVar 1)) (gN 2) (ret true) (mAndV (mF 1 f_is_count none (aT (mVar 2) aNil)) (mBin ltD (mVar 2) (mCall lenD (aT (mVar 0) aNil)))) [2]) = mm at lc
      generalize (xs.map fun d => PyData.bool (letQ n d)) = ys at lc al
      generalize xs.all (letQ n) = q at al ⊢
      clear hx hl ln
      simp [lc, e, al, mkFn, isListAt, slots, slot0, mSeq, mAsg, mRet, mIfS, mDrop, mB, bnd, Mi.ret, thaw, thawR, mVal, valR, mVar, mC, mBin, mUn, op1, op2, look, opN, lookAll, mCall, aT, aV, aNil, mStore, okSet, isT, asB, mTup, mLst, valsOf, mNx, outIo, retR, Md.isOwn, Md.isIo, Md.isLk, fI, mIf, mAnd, mOr, mNot, mAndV, mOrV, mChain, mPar, mPar3, mF, mFk, callF, callIo, putIo, freezeBy, flatD, flatAll, flatY, mayGive, notSlot, gath, mAsgG, gT, gsCons, gsNil, gIx, gN, setIx, mSetIx, ownAt, mApp, appTo, mIsi, isiD, isK, kinds, tyD, mSl, mPart, mNoPart, asInt, slD, cutD, lenD, absD, max2D, min2D, gcdD, lcmD, intD, listD, tupleD, allD, boolsOf, divmodD, addD, subD, mulD, fdivD, modD, powD, ltD, leD, gtD, geD, isD, isntD, negD, notD, ixD, revD, atI, ixN, isNone, sizeLine, eqsD, nesD, eqD, neD, inD, inT, inL, mMt, mtS, startsD, findD, fmtD, mJs, strD, mFT, callT, mPar3O, mParO, noSlot, -allD]
    simp [f_is_row_24, mkFn, isListAt, slots, slot0, em, outIo, retR]
  cases rd with
  | list xs => exact go xs (.inl rfl)
  | tuple xs => exact go xs (.inr rfl)
  | _ => simp [f_is_row_24, m_is_row_24, rowQ, e, mkFn, isListAt, slots, slot0, mSeq, mAsg, mRet, mIfS, mDrop, mB, bnd, Mi.ret, thaw, thawR, mVal, valR, mVar, mC, mBin, mUn, op1, op2, look, opN, lookAll, mCall, aT, aV, aNil, mStore, okSet, isT, asB, mTup, mLst, valsOf, mNx, outIo, retR, Md.isOwn, Md.isIo, Md.isLk, fI, mIf, mAnd, mOr, mNot, mAndV, mOrV, mChain, mPar, mPar3, mF, mFk, callF, callIo, putIo, freezeBy, flatD, flatAll, flatY, mayGive, notSlot, gath, mAsgG, gT, gsCons, gsNil, gIx, gN, setIx, mSetIx, ownAt, mApp, appTo, mIsi, isiD, isK, kinds, tyD, mSl, mPart, mNoPart, asInt, slD, cutD, lenD, absD, max2D, min2D, gcdD, lcmD, intD, listD, tupleD, allD, boolsOf, divmodD, addD, subD, mulD, fdivD, modD, powD, ltD, leD, gtD, geD, isD, isntD, negD, notD, ixD, revD, atI, ixN, isNone, sizeLine, eqsD, nesD, eqD, neD, inD, inT, inL, mMt, mtS, startsD, findD, fmtD, mJs, strD, mFT, callT, mPar3O, mParO, noSlot]
end K83

namespace K83
open PySem L2 Evl PySem.Spec Mi

theorem len_le {ss : List (Nat × Nat)} {b : Bool} {row : List Nat} (hl : row.length ≤ 5000) : ∀ xs, rowD b row = .list xs ∨ rowD b row = .tuple xs → xs.length ≤ 10000 := by
  intro xs hx
  unfold rowD at hx
  cases b <;> simp at hx <;> (rw [← hx, List.length_map]; omega)
theorem rowQ_row {n : Nat} {b : Bool} {row : List Nat} (hr : ∀ l ∈ row, l < n) : rowQ n (rowD b row) = true := by
  have e : (ri row).all (letQ n) = true := by
    rw [List.all_eq_true]
    intro d hd
    obtain ⟨l, hl, rfl⟩ := List.mem_map.mp hd
    have := hr l hl
    simp [letQ]
    omega
  cases b <;> exact e
theorem kept_of {sd rd : D} {o : Option Nat} (e1 : f_want_shares [sd] = some (.ok (.val sd), .none)) (e2 : f_is_row_24 [sd, rd] = some (.ok (.val (.bool true)), .none)) (e3 : f_break_of [sd, rd] = some (.ok (.val (optD o)), .none)) : f_is_kept [sd, rd] = some (.ok (.val (.bool o.isNone)), .none) := by
  cases o with
  | none => simp [f_is_kept, m_is_kept, e1, e2, e3, optD, mkFn, isListAt, slots, slot0, mSeq, mAsg, mRet, mIfS, mDrop, mB, bnd, Mi.ret, thaw, thawR, mVal, valR, mVar, mC, mBin, mUn, op1, op2, look, opN, lookAll, mCall, aT, aV, aNil, mStore, okSet, isT, asB, mTup, mLst, valsOf, mNx, outIo, retR, Md.isOwn, Md.isIo, Md.isLk, fI, mIf, mAnd, mOr, mNot, mAndV, mOrV, mChain, mPar, mPar3, mF, mFk, callF, callIo, putIo, freezeBy, flatD, flatAll, flatY, mayGive, notSlot, gath, mAsgG, gT, gsCons, gsNil, gIx, gN, setIx, mSetIx, ownAt, mApp, appTo, mIsi, isiD, isK, kinds, tyD, mSl, mPart, mNoPart, asInt, slD, cutD, lenD, absD, max2D, min2D, gcdD, lcmD, intD, listD, tupleD, allD, boolsOf, divmodD, addD, subD, mulD, fdivD, modD, powD, ltD, leD, gtD, geD, isD, isntD, negD, notD, ixD, revD, atI, ixN, isNone, sizeLine, eqsD, nesD, eqD, neD, inD, inT, inL, mMt, mtS, startsD, findD, fmtD, mJs, strD, mFT, callT, mPar3O, mParO, noSlot]
  | some m => simp [f_is_kept, m_is_kept, e1, e2, e3, optD, mkFn, isListAt, slots, slot0, mSeq, mAsg, mRet, mIfS, mDrop, mB, bnd, Mi.ret, thaw, thawR, mVal, valR, mVar, mC, mBin, mUn, op1, op2, look, opN, lookAll, mCall, aT, aV, aNil, mStore, okSet, isT, asB, mTup, mLst, valsOf, mNx, outIo, retR, Md.isOwn, Md.isIo, Md.isLk, fI, mIf, mAnd, mOr, mNot, mAndV, mOrV, mChain, mPar, mPar3, mF, mFk, callF, callIo, putIo, freezeBy, flatD, flatAll, flatY, mayGive, notSlot, gath, mAsgG, gT, gsCons, gsNil, gIx, gN, setIx, mSetIx, ownAt, mApp, appTo, mIsi, isiD, isK, kinds, tyD, mSl, mPart, mNoPart, asInt, slD, cutD, lenD, absD, max2D, min2D, gcdD, lcmD, intD, listD, tupleD, allD, boolsOf, divmodD, addD, subD, mulD, fdivD, modD, powD, ltD, leD, gtD, geD, isD, isntD, negD, notD, ixD, revD, atI, ixN, isNone, sizeLine, eqsD, nesD, eqD, neD, inD, inT, inL, mMt, mtS, startsD, findD, fmtD, mJs, strD, mFT, callT, mPar3O, mParO, noSlot]
theorem kept_no {sd rd : D} (e1 : f_want_shares [sd] = some (.ok (.val sd), .none)) (e2 : f_is_row_24 [sd, rd] = some (.ok (.val (.bool false)), .none)) : f_is_kept [sd, rd] = some (.ok (.val (.bool false)), .none) := by
  simp [f_is_kept, m_is_kept, e1, e2, mkFn, isListAt, slots, slot0, mSeq, mAsg, mRet, mIfS, mDrop, mB, bnd, Mi.ret, thaw, thawR, mVal, valR, mVar, mC, mBin, mUn, op1, op2, look, opN, lookAll, mCall, aT, aV, aNil, mStore, okSet, isT, asB, mTup, mLst, valsOf, mNx, outIo, retR, Md.isOwn, Md.isIo, Md.isLk, fI, mIf, mAnd, mOr, mNot, mAndV, mOrV, mChain, mPar, mPar3, mF, mFk, callF, callIo, putIo, freezeBy, flatD, flatAll, flatY, mayGive, notSlot, gath, mAsgG, gT, gsCons, gsNil, gIx, gN, setIx, mSetIx, ownAt, mApp, appTo, mIsi, isiD, isK, kinds, tyD, mSl, mPart, mNoPart, asInt, slD, cutD, lenD, absD, max2D, min2D, gcdD, lcmD, intD, listD, tupleD, allD, boolsOf, divmodD, addD, subD, mulD, fdivD, modD, powD, ltD, leD, gtD, geD, isD, isntD, negD, notD, ixD, revD, atI, ixN, isNone, sizeLine, eqsD, nesD, eqD, neD, inD, inT, inL, mMt, mtS, startsD, findD, fmtD, mJs, strD, mFT, callT, mPar3O, mParO, noSlot]
section
variable {ps : List Nat} {b : Bool} {row : List Nat}
theorem shs_len (h : Parts ps) : (shs ps).length ≤ 30 := by rw [h.len]; exact h.l2
theorem ev_row (h : Parts ps) (hr : ∀ l ∈ row, l < (shs ps).length) (hl : row.length ≤ 5000) : f_is_row_24 [sD (shs ps), rowD b row] = some (.ok (.val (.bool true)), .none) := by
  rw [ev_is_row (len_sD _) (len_le (ss := shs ps) hl), rowQ_row hr]
theorem ev_kept (h : Parts ps) (hr : ∀ l ∈ row, l < (shs ps).length) (hl : row.length ≤ 5000) : f_is_kept [sD (shs ps), rowD b row] = some (.ok (.val (.bool (brk (shs ps) (allL (shs ps) row) 0).isNone)), .none) :=
  kept_of (ev_shares h) (ev_row h hr hl) (ev_brk h.one (shs_len h) hr hl)
end
end K83

namespace K83
open PySem L2 Evl PySem.Spec Mi
structure LgOk (ss : List (Nat × Nat)) (lg : List Int) : Prop where
  len : lg.length = ss.length
  b : ∀ a ∈ lg, a.natAbs < 2 ^ 100
theorem fst_zip {ss : List (Nat × Nat)} : ∀ {lg : List Int}, lg.length = ss.length → (lg.zip ss).map (fun x => x.1) = lg := fun {lg} h => by
  have := List.map_fst_zip (l₁ := lg) (l₂ := ss) (by omega)
  exact this
theorem iD_zip {ss : List (Nat × Nat)} {lg : List Int} (h : lg.length = ss.length) : iD lg = (lg.zip ss).map fun x => PyData.int x.1 := by
  have e := fst_zip h
  unfold iD
  conv => lhs; rw [← e]
  rw [List.map_map]
  rfl
theorem zip_get {ss : List (Nat × Nat)} {lg : List Int} {i : Nat} {x : Int × (Nat × Nat)} (h : (lg.zip ss)[i]? = some x) : x.1 ∈ lg ∧ x.2 ∈ ss ∧ ss[i]? = some x.2 := by
  have hm := List.of_mem_zip (List.mem_of_getElem? h)
  refine ⟨hm.1, hm.2, ?_⟩
  rw [List.getElem?_zip_eq_some] at h
  exact h.2
theorem abs_nat (a : Int) : (if a < 0 then -a else a) = ((a.natAbs : Nat) : Int) := by split <;> omega
theorem lagL_ok {ss : List (Nat × Nat)} {cs : List Nat} {m : Nat} (h : ∀ p ∈ ss, One p) (k : CsOk ss cs m) : LgOk ss (lagL ss cs m) := by
  refine ⟨by unfold lagL; rw [List.length_map, List.length_zip, k.len]; omega, fun a ha => ?_⟩
  obtain ⟨⟨p, c⟩, hx, rfl⟩ := List.mem_map.mp ha
  have hp := List.of_mem_zip hx
  have o := h p hp.1
  have hc := k.le c hp.2
  have hm := k.m
  have hn := o.n
  have hu := o.u
  unfold lag
  have e1 : (((m : Nat) : Int) * (p.1 : Nat)).natAbs = m * p.1 := by rw [Int.natAbs_mul]; rfl
  have e2 : (((c : Nat) : Int) * (p.2 : Nat)).natAbs = c * p.2 := by rw [Int.natAbs_mul]; rfl
  have b1 : m * p.1 < 2 ^ 30 * 2 ^ 60 := Nat.mul_lt_mul_of_lt_of_lt hm hn
  have b2 : c * p.2 < 2 ^ 30 * 2 ^ 60 := Nat.mul_lt_mul_of_lt_of_lt (Nat.lt_of_le_of_lt hc hm) hu
  have s := Int.natAbs_sub_le (((m : Nat) : Int) * (p.1 : Nat)) (((c : Nat) : Int) * (p.2 : Nat))
  rw [e1, e2] at s
  have big : 2 ^ 30 * 2 ^ 60 + 2 ^ 30 * 2 ^ 60 < (2 : Nat) ^ 100 := by decide +kernel
  dsimp only
  omega
theorem walk_ok {ss : List (Nat × Nat)} (h : ∀ p ∈ ss, One p) : ∀ (row cs : List Nat) (k : Nat), CsOk ss cs k → k + row.length < 2 ^ 30 → ∀ lg ∈ walk ss row cs k, LgOk ss lg
  | [], _, _, _, _, lg, hl => by cases hl
  | l :: r, cs, k, c, hk, lg, hl => by
    rw [List.length_cons] at hk
    have c' := c.step l (by omega)
    rcases List.mem_cons.mp hl with e | e
    · subst e
      exact lagL_ok h c'
    · exact walk_ok h r (inc cs l) (k + 1) c' (by omega) lg e
theorem all_ok {ss : List (Nat × Nat)} {row : List Nat} (h : ∀ p ∈ ss, One p) (hs : ss.length ≤ 30) (hl : row.length ≤ 5000) : ∀ lg ∈ allL ss row, LgOk ss lg := fun lg hm => by
  rcases List.mem_cons.mp hm with e | e
  · subst e
    exact lagL_ok h (zs_ok hs)
  · exact walk_ok h row _ 0 (zs_ok hs) (by omega) lg e
def anyI {α : Type} (q : Nat → α → Bool) : List α → Nat → Bool
  | [], _ => false
  | x :: xs, k => q k x || anyI q xs (k + 1)
theorem first_any {α : Type} (q : Nat → α → Bool) (r : Res) : ∀ (xs : List α) (k : Nat), firstOf (fun k x => if q k x then some r else none) xs k = if anyI q xs k then some r else none
  | [], _ => rfl
  | x :: xs, k => by
    unfold firstOf anyI
    cases h : q k x with
    | true => simp
    | false =>
      rw [Bool.false_or]
      simp only [Bool.false_eq_true, if_false]
      exact first_any q r xs (k + 1)
theorem seq_rt {a b : M Fl} {ρ ρ' : R} {r : Res} (h : a ρ = some (.ok (.rt r), ρ')) : mSeq a b ρ = some (.ok (.rt r), ρ') := by
  unfold mSeq bnd
  rw [h]
  rfl
end K83

namespace K83
open PySem L2 Evl PySem.Spec Mi
theorem anyI_congr {α : Type} {q r : Nat → α → Bool} : ∀ (xs : List α) (k : Nat), (∀ i x, xs[i]? = some x → q (k + i) x = r (k + i) x) → anyI q xs k = anyI r xs k
  | [], _, _ => rfl
  | x :: xs, k, h => by
    unfold anyI
    have h0 := h 0 x rfl
    rw [Nat.add_zero] at h0
    have ih := anyI_congr (q := q) (r := r) xs (k + 1) fun i y hy => by
      have := h (i + 1) y (by simpa using hy)
      rw [show k + 1 + i = k + (i + 1) by omega]
      exact this
    rw [h0, ih]
theorem anyI_or {α : Type} (q r : Nat → α → Bool) : ∀ (xs : List α) (k : Nat), anyI (fun i x => q i x || r i x) xs k = (anyI q xs k || anyI r xs k)
  | [], _ => rfl
  | x :: xs, k => by
    unfold anyI
    rw [anyI_or q r xs (k + 1)]
    cases q k x <;> cases r k x <;> simp
theorem brk_some {ss : List (Nat × Nat)} : ∀ (ls : List (List Int)) (k : Nat), (brk ss ls k).isSome = ls.any (badL ss)
  | [], _ => rfl
  | lg :: ls, k => by
    unfold brk
    rw [List.any_cons]
    cases h : badL ss lg with
    | true => rfl
    | false =>
      simp only [Bool.false_eq_true, if_false, Bool.false_or]
      exact brk_some ls (k + 1)
theorem badL_any {full : List Nat} {m : Nat} : ∀ (ss : List (Nat × Nat)) (k : Nat), k + ss.length = full.length → (((ss.zip (full.drop k)).map fun x => (lag x.1 x.2 m, x.1)).any fun x => badQ x.1 x.2.2) = anyI (fun i p => badQ (lag p (full.getD i 0) m) p.2) ss k
  | [], _, _ => rfl
  | p :: ss, k, h => by
    rw [List.length_cons] at h
    have hk : k < full.length := by omega
    have ed : full.drop k = full.getD k 0 :: full.drop (k + 1) := by
      rw [List.drop_eq_getElem_cons hk, List.getD_eq_getElem?_getD, List.getElem?_eq_getElem hk]
      rfl
    rw [ed, List.zip_cons_cons, List.map_cons, List.any_cons, badL_any ss (k + 1) (by omega)]
    rfl
theorem badL_lag {ss : List (Nat × Nat)} {cs : List Nat} {m : Nat} (h : cs.length = ss.length) : badL ss (lagL ss cs m) = anyI (fun i p => badQ (lag p (cs.getD i 0) m) p.2) ss 0 := by
  unfold badL lagL
  rw [zip_lag m ss cs h]
  have := badL_any (full := cs) (m := m) ss 0 (by omega)
  rw [List.drop_zero] at this
  exact this
theorem inc_get {cs : List Nat} {l i : Nat} (h : i < cs.length) : (inc cs l).getD i 0 = if l = i then cs.getD i 0 + 1 else cs.getD i 0 := by
  unfold inc
  rw [List.getD_eq_getElem?_getD, List.getElem?_set]
  by_cases e : l = i
  · subst e
    rw [if_pos rfl, if_pos h, if_pos rfl]
    rfl
  · rw [if_neg e, if_neg e, ← List.getD_eq_getElem?_getD]
theorem lag_lt {p : Nat × Nat} {c k : Nat} : (-((p.2 : Nat) : Int) < lag p c k) ↔ c * p.2 < k * p.1 + p.2 := by
  unfold lag
  rw [← Int.natCast_mul, ← Int.natCast_mul]
  omega
theorem lag_ge {p : Nat × Nat} {c k : Nat} : (((p.2 : Nat) : Int) ≤ lag p c k) ↔ (c + 1) * p.2 ≤ k * p.1 := by
  unfold lag
  rw [← Int.natCast_mul, ← Int.natCast_mul, Nat.add_mul, Nat.one_mul]
  omega
end K83

namespace K83
open PySem L2 Evl PySem.Spec Mi

/-! ### turns -/
def bD : Option (Int × Nat) → D
  | none => .none
  | some b => .tuple [.int b.1, .int (b.2 : Nat)]
def rT (sd md : D) (cs : List Nat) (fnd : List D) (s4 : Option Slot) (b : Option (Int × Nat)) (s6 s7 s8 s9 : Option Slot) : R := [some ⟨.val, sd⟩, some ⟨.val, md⟩, some ⟨.own, .list (cD cs)⟩, some ⟨.own, .list fnd⟩, s4, some ⟨.val, bD b⟩, s6, s7, s8, s9]
theorem t_body {sd md : D} {cs : List Nat} {fnd : List D} {m i : Nat} {p : Nat × Nat} {b : Option (Int × Nat)} {s9 : Option Slot} (o : One p) (hi : i < cs.length) (hc : cs.getD i 0 < 2 ^ 30) (hm : m < 2 ^ 30) (h9 : Vl s9) :
    ∃ b' s9', Vl s9' ∧ ((b' = b ∧ ¬ cs.getD i 0 * p.2 < (m + 1) * p.1) ∨ (∃ e, b' = some (e, i)) ∨ (b' = b ∧ b ≠ none)) ∧
    ((mIfS (mB (mBin ltD (mBin mulD (mBin ixD (mVar 2) (mVar 6)) (mVar 8)) (mBin mulD (mBin addD (mVar 4) (mC (.int 1))) (mVar 7)))) (mSeq (mAsg 9 (mBin subD (mC (.int 0)) (mBin fdivD (mBin subD (mC (.int 0)) (mBin mulD (mBin addD (mBin ixD (mVar 2) (mVar 6)) (mC (.int 1))) (mVar 8))) (mVar 7)))) (mIfS (mOr (mB (mBin isD (mVar 5) (mC .none))) (mB (mBin ltD (mVar 9) (mBin ixD (mVar 5) (mC (.int 0)))))) (mAsg 5 (mTup (aV (mVar 9) (aV (mVar 6) aNil)))) mNx)) mNx)) (rT sd md cs fnd (some ⟨.val, .int (m : Nat)⟩) b (some ⟨.val, .int (i : Nat)⟩) (some ⟨.val, .int (p.1 : Nat)⟩) (some ⟨.val, .int (p.2 : Nat)⟩) s9) = some (.ok .nx, rT sd md cs fnd (some ⟨.val, .int (m : Nat)⟩) b' (some ⟨.val, .int (i : Nat)⟩) (some ⟨.val, .int (p.1 : Nat)⟩) (some ⟨.val, .int (p.2 : Nat)⟩) s9') := by
  obtain ⟨n, u⟩ := p
  have hn := o.n
  have hu := o.u
  have n0 := o.n0
  dsimp only at hn hu n0 ⊢
  have ix := ixD_list (cD_get hi)
  generalize cs.getD i 0 = c at hc ix ⊢
  have m1 : mulOk ((c : Nat) : Int) ((u : Nat) : Int) = true := mulOk_of (a := 60) (b := 60) (by omega) (by omega) (by decide) (by decide) (by decide)
  have m2 : mulOk (((m : Nat) : Int) + 1) ((n : Nat) : Int) = true := mulOk_of (a := 60) (b := 60) (by omega) (by omega) (by decide) (by decide) (by decide)
  have m3 : mulOk (((c : Nat) : Int) + 1) ((u : Nat) : Int) = true := mulOk_of (a := 60) (b := 60) (by omega) (by omega) (by decide) (by decide) (by decide)
  have nine : (2 : Nat) ^ 60 < 2 ^ 9000 := by decide +kernel
  have dv : divOk ((n : Nat) : Int) = true := divOk_of (k := 9000) (by omega) (by rw [Int.natAbs_natCast]; omega) (by decide)
  have g1 : (((c : Nat) : Int) * ((u : Nat) : Int) < (((m : Nat) : Int) + 1) * ((n : Nat) : Int)) ↔ c * u < (m + 1) * n := by
    rw [show ((m : Nat) : Int) + 1 = ((m + 1 : Nat) : Int) by omega, ← Int.natCast_mul, ← Int.natCast_mul]; omega
  unfold rT
  generalize cD cs = xs at ix ⊢
  generalize ((c : Nat) : Int) = ci at m1 m3 g1 ix
  generalize hmi : ((m : Nat) : Int) = mi at m2 g1
  generalize hni : ((n : Nat) : Int) = ni at m2 g1 dv
  generalize hui : ((u : Nat) : Int) = ui at m1 m3 g1
  by_cases c1 : c * u < (m + 1) * n
  · have d1 := g1.mpr c1
    obtain ⟨e, he⟩ : ∃ e : Int, e = 0 - (0 - (ci + 1) * ui).fdiv ni := ⟨_, rfl⟩
    have he2 : -(-((ci + 1) * ui)).fdiv ni = e := by rw [he]; simp
    cases b with
    | none =>
      refine ⟨some (e, i), some ⟨.val, .int e⟩, .inr ⟨_, rfl⟩, .inr (.inl ⟨e, rfl⟩), ?_⟩
      clear c1 g1
      rcases h9 with rfl | ⟨t, rfl⟩ <;> simp [bD, ix, m1, m2, m3, dv, d1, he2, ltD, mkFn, isListAt, slots, slot0, mSeq, mAsg, mRet, mIfS, mDrop, mB, bnd, Mi.ret, thaw, thawR, mVal, valR, mVar, mC, mBin, mUn, op1, op2, look, opN, lookAll, mCall, aT, aV, aNil, mStore, okSet, isT, asB, mTup, mLst, valsOf, mNx, outIo, retR, Md.isOwn, Md.isIo, Md.isLk, fI, mIf, mAnd, mOr, mNot, mAndV, mOrV, mChain, mPar, mPar3, mF, mFk, callF, callIo, putIo, freezeBy, flatD, flatAll, flatY, mayGive, notSlot, gath, mAsgG, gT, gsCons, gsNil, gIx, gN, setIx, mSetIx, ownAt, mApp, appTo, mIsi, isiD, isK, kinds, tyD, mSl, mPart, mNoPart, asInt, slD, cutD, lenD, absD, max2D, min2D, gcdD, lcmD, intD, listD, tupleD, allD, boolsOf, divmodD, addD, subD, mulD, fdivD, modD, powD, leD, gtD, geD, isD, isntD, negD, notD, revD, isNone, sizeLine, mMt, mtS, startsD, findD, fmtD, mJs, strD, mFT, callT, mPar3O, mParO, noSlot]
    | some b0 =>
      obtain ⟨e0, i0⟩ := b0
      have ixb : ixD (.tuple [.int e0, .int (i0 : Nat)]) (.int 0) = some (.val (.int e0)) := ixD_tup (i := 0) rfl
      by_cases c2 : e < e0
      · refine ⟨some (e, i), some ⟨.val, .int e⟩, .inr ⟨_, rfl⟩, .inr (.inl ⟨e, rfl⟩), ?_⟩
        clear c1 g1
        rcases h9 with rfl | ⟨t, rfl⟩ <;> simp [bD, ix, ixb, m1, m2, m3, dv, d1, he2, c2, ltD, mkFn, isListAt, slots, slot0, mSeq, mAsg, mRet, mIfS, mDrop, mB, bnd, Mi.ret, thaw, thawR, mVal, valR, mVar, mC, mBin, mUn, op1, op2, look, opN, lookAll, mCall, aT, aV, aNil, mStore, okSet, isT, asB, mTup, mLst, valsOf, mNx, outIo, retR, Md.isOwn, Md.isIo, Md.isLk, fI, mIf, mAnd, mOr, mNot, mAndV, mOrV, mChain, mPar, mPar3, mF, mFk, callF, callIo, putIo, freezeBy, flatD, flatAll, flatY, mayGive, notSlot, gath, mAsgG, gT, gsCons, gsNil, gIx, gN, setIx, mSetIx, ownAt, mApp, appTo, mIsi, isiD, isK, kinds, tyD, mSl, mPart, mNoPart, asInt, slD, cutD, lenD, absD, max2D, min2D, gcdD, lcmD, intD, listD, tupleD, allD, boolsOf, divmodD, addD, subD, mulD, fdivD, modD, powD, leD, gtD, geD, isD, isntD, negD, notD, revD, isNone, sizeLine, mMt, mtS, startsD, findD, fmtD, mJs, strD, mFT, callT, mPar3O, mParO, noSlot]
      · refine ⟨some (e0, i0), some ⟨.val, .int e⟩, .inr ⟨_, rfl⟩, .inr (.inr ⟨rfl, by simp⟩), ?_⟩
        have c3 : e0 ≤ e := by omega
        clear c1 g1
        rcases h9 with rfl | ⟨t, rfl⟩ <;> simp [bD, ix, ixb, m1, m2, m3, dv, d1, he2, c2, c3, ltD, mkFn, isListAt, slots, slot0, mSeq, mAsg, mRet, mIfS, mDrop, mB, bnd, Mi.ret, thaw, thawR, mVal, valR, mVar, mC, mBin, mUn, op1, op2, look, opN, lookAll, mCall, aT, aV, aNil, mStore, okSet, isT, asB, mTup, mLst, valsOf, mNx, outIo, retR, Md.isOwn, Md.isIo, Md.isLk, fI, mIf, mAnd, mOr, mNot, mAndV, mOrV, mChain, mPar, mPar3, mF, mFk, callF, callIo, putIo, freezeBy, flatD, flatAll, flatY, mayGive, notSlot, gath, mAsgG, gT, gsCons, gsNil, gIx, gN, setIx, mSetIx, ownAt, mApp, appTo, mIsi, isiD, isK, kinds, tyD, mSl, mPart, mNoPart, asInt, slD, cutD, lenD, absD, max2D, min2D, gcdD, lcmD, intD, listD, tupleD, allD, boolsOf, divmodD, addD, subD, mulD, fdivD, modD, powD, leD, gtD, geD, isD, isntD, negD, notD, revD, isNone, sizeLine, mMt, mtS, startsD, findD, fmtD, mJs, strD, mFT, callT, mPar3O, mParO, noSlot]
  · have d1 : ¬ _ := fun q => c1 (g1.mp q)
    have d1' : (mi + 1) * ni ≤ ci * ui := by omega
    refine ⟨b, s9, h9, .inl ⟨rfl, c1⟩, ?_⟩
    generalize bD b = bd
    clear c1 g1
    simp [ix, m1, m2, d1, d1', ltD, mkFn, isListAt, slots, slot0, mSeq, mAsg, mRet, mIfS, mDrop, mB, bnd, Mi.ret, thaw, thawR, mVal, valR, mVar, mC, mBin, mUn, op1, op2, look, opN, lookAll, mCall, aT, aV, aNil, mStore, okSet, isT, asB, mTup, mLst, valsOf, mNx, outIo, retR, Md.isOwn, Md.isIo, Md.isLk, fI, mIf, mAnd, mOr, mNot, mAndV, mOrV, mChain, mPar, mPar3, mF, mFk, callF, callIo, putIo, freezeBy, flatD, flatAll, flatY, mayGive, notSlot, gath, mAsgG, gT, gsCons, gsNil, gIx, gN, setIx, mSetIx, ownAt, mApp, appTo, mIsi, isiD, isK, kinds, tyD, mSl, mPart, mNoPart, asInt, slD, cutD, lenD, absD, max2D, min2D, gcdD, lcmD, intD, listD, tupleD, allD, boolsOf, divmodD, addD, subD, mulD, fdivD, modD, powD, leD, gtD, geD, isD, isntD, negD, notD, revD, isNone, sizeLine, mMt, mtS, startsD, findD, fmtD, mJs, strD, mFT, callT, mPar3O, mParO, noSlot]
end K83

namespace K83
open PySem L2 Evl PySem.Spec Mi

def el (cs : List Nat) (m j : Nat) (p : Nat × Nat) : Prop := cs.getD j 0 * p.2 < (m + 1) * p.1
theorem enum_item {ss : List (Nat × Nat)} {i : Nat} {d : D} (h : (enumL 0 (ss.map pD))[i]? = some d) : ∃ p, ss[i]? = some p ∧ d = .tuple [.int (i : Nat), pD p] := by
  have hl := (List.getElem?_eq_some_iff.mp h).1
  rw [enumL_len, List.length_map] at hl
  have e := enumL_get 0 (ss.map pD) i (pD ss[i]) (by rw [List.getElem?_map, List.getElem?_eq_getElem hl]; rfl)
  rw [h, Nat.zero_add] at e
  cases e
  exact ⟨ss[i], List.getElem?_eq_getElem hl, rfl⟩
theorem t_in {ss : List (Nat × Nat)} {md : D} {cs : List Nat} {fnd : List D} {m : Nat} {s6 s7 s8 s9 : Option Slot} (h : ∀ p ∈ ss, One p) (k : CsOk ss cs m) (h6 : Vl s6) (h7 : Vl s7) (h8 : Vl s8) (h9 : Vl s9) :
    ∃ b s6' s7' s8' s9', Vl s6' ∧ Vl s7' ∧ Vl s8' ∧ Vl s9' ∧ (b = none → ∀ (j : Nat) (p : Nat × Nat), ss[j]? = some p → ¬ el cs m j p) ∧ (∀ e i, b = some (e, i) → i < ss.length) ∧
      ((mFor (chk (mEnum (mVar 0))) (gT 2 (gsCons (gN 6) (gsCons (gT 2 (gsCons (gN 7) (gsCons (gN 8) gsNil))) gsNil))) (mIfS (mB (mBin ltD (mBin mulD (mBin ixD (mVar 2) (mVar 6)) (mVar 8)) (mBin mulD (mBin addD (mVar 4) (mC (.int 1))) (mVar 7)))) (mSeq (mAsg 9 (mBin subD (mC (.int 0)) (mBin fdivD (mBin subD (mC (.int 0)) (mBin mulD (mBin addD (mBin ixD (mVar 2) (mVar 6)) (mC (.int 1))) (mVar 8))) (mVar 7)))) (mIfS (mOr (mB (mBin isD (mVar 5) (mC .none))) (mB (mBin ltD (mVar 9) (mBin ixD (mVar 5) (mC (.int 0)))))) (mAsg 5 (mTup (aV (mVar 9) (aV (mVar 6) aNil)))) mNx)) mNx))) (rT (sD ss) md cs fnd (some ⟨.val, .int (m : Nat)⟩) none s6 s7 s8 s9) = some (.ok .nx, rT (sD ss) md cs fnd (some ⟨.val, .int (m : Nat)⟩) b s6' s7' s8' s9') := by
  obtain ⟨ρ', e, b, s6', s7', s8', s9', q6, q7, q8, q9, hb1, hb2, hρ⟩ := loopF_run (g := (gT 2 (gsCons (gN 6) (gsCons (gT 2 (gsCons (gN 7) (gsCons (gN 8) gsNil))) gsNil)))) (b := (mIfS (mB (mBin ltD (mBin mulD (mBin ixD (mVar 2) (mVar 6)) (mVar 8)) (mBin mulD (mBin addD (mVar 4) (mC (.int 1))) (mVar 7)))) (mSeq (mAsg 9 (mBin subD (mC (.int 0)) (mBin fdivD (mBin subD (mC (.int 0)) (mBin mulD (mBin addD (mBin ixD (mVar 2) (mVar 6)) (mC (.int 1))) (mVar 8))) (mVar 7)))) (mIfS (mOr (mB (mBin isD (mVar 5) (mC .none))) (mB (mBin ltD (mVar 9) (mBin ixD (mVar 5) (mC (.int 0)))))) (mAsg 5 (mTup (aV (mVar 9) (aV (mVar 6) aNil)))) mNx)) mNx)) (fun k ρ => ∃ b s6 s7 s8 s9, Vl s6 ∧ Vl s7 ∧ Vl s8 ∧ Vl s9 ∧ (b = none → ∀ (j : Nat) (p : Nat × Nat), j < k → ss[j]? = some p → ¬ el cs m j p) ∧ (∀ e i, b = some (e, i) → i < ss.length) ∧ ρ = rT (sD ss) md cs fnd (some ⟨.val, .int (m : Nat)⟩) b s6 s7 s8 s9) (enumL 0 (ss.map pD)) 0 (rT (sD ss) md cs fnd (some ⟨.val, .int (m : Nat)⟩) none s6 s7 s8 s9)
    ⟨none, s6, s7, s8, s9, h6, h7, h8, h9, fun _ j p hj => absurd hj (Nat.not_lt_zero _), fun e i q => by (cases q), rfl⟩ (by
    intro i ρ d hd ⟨b, s6, s7, s8, s9, h6, h7, h8, h9, hb1, hb2, hρ⟩
    subst hρ
    obtain ⟨p, hp, rfl⟩ := enum_item hd
    have hi := (List.getElem?_eq_some_iff.mp hp).1
    have hm := k.m
    obtain ⟨b', s9', q9, hb, e⟩ := t_body (sd := sD ss) (md := md) (cs := cs) (fnd := fnd) (m := m) (i := i) (p := p) (b := b) (s9 := s9) (h p (List.mem_of_getElem? hp)) (by rw [k.len]; exact hi) (Nat.lt_of_le_of_lt (getD_le k.le i) hm) hm h9
    refine ⟨rT (sD ss) md cs fnd (some ⟨.val, .int (m : Nat)⟩) b (some ⟨.val, .int (i : Nat)⟩) (some ⟨.val, .int (p.1 : Nat)⟩) (some ⟨.val, .int (p.2 : Nat)⟩) s9, _, .nx, ?_, e, .inl rfl, b', _, _, _, s9', .inr ⟨_, rfl⟩, .inr ⟨_, rfl⟩, .inr ⟨_, rfl⟩, q9, fun hn j q hj hq => ?_, fun e2 i2 q2 => ?_, rfl⟩
    · clear e hd
      obtain ⟨n, u⟩ := p
      generalize sD ss = sd
      generalize bD b = bd
      unfold rT
      generalize bD b = bd
      rcases h6 with rfl | ⟨t, rfl⟩ <;> rcases h7 with rfl | ⟨t, rfl⟩ <;> rcases h8 with rfl | ⟨t, rfl⟩ <;> simp [gT, gsCons, gsNil, gN, mStore, okSet, mkFn, isListAt, slots, slot0, mSeq, mAsg, mRet, mIfS, mDrop, mB, bnd, Mi.ret, thaw, thawR, mVal, valR, mVar, mC, mBin, mUn, op1, op2, look, opN, lookAll, mCall, aT, aV, aNil, mStore, okSet, isT, asB, mTup, mLst, valsOf, mNx, outIo, retR, Md.isOwn, Md.isIo, Md.isLk, fI, mIf, mAnd, mOr, mNot, mAndV, mOrV, mChain, mPar, mPar3, mF, mFk, callF, callIo, putIo, freezeBy, flatD, flatAll, flatY, mayGive, notSlot, gath, mAsgG, gT, gsCons, gsNil, gIx, gN, setIx, mSetIx, ownAt, mApp, appTo, mIsi, isiD, isK, kinds, tyD, mSl, mPart, mNoPart, asInt, slD, cutD, lenD, absD, max2D, min2D, gcdD, lcmD, intD, listD, tupleD, allD, boolsOf, divmodD, addD, subD, mulD, fdivD, modD, powD, ltD, leD, gtD, geD, isD, isntD, negD, notD, ixD, revD, atI, ixN, isNone, sizeLine, eqsD, nesD, eqD, neD, inD, inT, inL, mMt, mtS, startsD, findD, fmtD, mJs, strD, mFT, callT, mPar3O, mParO, noSlot]
    · rcases hb with ⟨r1, r2⟩ | ⟨e3, r1⟩ | ⟨r1, r2⟩
      · by_cases ej : j = i
        · subst ej
          rw [hp] at hq
          cases hq
          exact r2
        · exact hb1 (by rw [← r1]; exact hn) j q (by omega) hq
      · rw [hn] at r1; cases r1
      · exact absurd (by rw [← r1]; exact hn) r2
    · rcases hb with ⟨r1, r2⟩ | ⟨e3, r1⟩ | ⟨r1, r2⟩
      · exact hb2 e2 i2 (by rw [← r1]; exact q2)
      · rw [q2] at r1
        cases r1
        exact hi
      · exact hb2 e2 i2 (by rw [← r1]; exact q2))
  subst hρ
  refine ⟨b, s6', s7', s8', s9', q6, q7, q8, q9, fun hn j p hp => hb1 hn j p ?_ hp, hb2, ?_⟩
  · rw [enumL_len, List.length_map, Nat.zero_add]
    exact (List.getElem?_eq_some_iff.mp hp).1
  · refine for_run ?_ e
    unfold rT
    simp [mEnum, mItL, iterL, iterD, mkFn, isListAt, slots, slot0, mSeq, mAsg, mRet, mIfS, mDrop, mB, bnd, Mi.ret, thaw, thawR, mVal, valR, mVar, mC, mBin, mUn, op1, op2, look, opN, lookAll, mCall, aT, aV, aNil, mStore, okSet, isT, asB, mTup, mLst, valsOf, mNx, outIo, retR, Md.isOwn, Md.isIo, Md.isLk, fI, mIf, mAnd, mOr, mNot, mAndV, mOrV, mChain, mPar, mPar3, mF, mFk, callF, callIo, putIo, freezeBy, flatD, flatAll, flatY, mayGive, notSlot, gath, mAsgG, gT, gsCons, gsNil, gIx, gN, setIx, mSetIx, ownAt, mApp, appTo, mIsi, isiD, isK, kinds, tyD, mSl, mPart, mNoPart, asInt, slD, cutD, lenD, absD, max2D, min2D, gcdD, lcmD, intD, listD, tupleD, allD, boolsOf, divmodD, addD, subD, mulD, fdivD, modD, powD, ltD, leD, gtD, geD, isD, isntD, negD, notD, ixD, revD, atI, ixN, isNone, sizeLine, eqsD, nesD, eqD, neD, inD, inT, inL, mMt, mtS, startsD, findD, fmtD, mJs, strD, mFT, callT, mPar3O, mParO, noSlot]
/-- some share is due -/
theorem sum_of_le {S m : Nat} (hS : 0 < S) : ∀ (qs cs : List Nat), cs.length = qs.length → (∀ j q, qs[j]? = some q → (m + 1) * q ≤ cs.getD j 0 * S) → (m + 1) * qs.sum ≤ cs.sum * S
  | [], cs, h, _ => by simp
  | q :: qs, [], h, _ => by simp at h
  | q :: qs, c :: cs, h, k => by
    have h0 := k 0 q rfl
    have ih := sum_of_le hS qs cs (by simpa using h) fun j x hx => by
      have := k (j + 1) x (by simpa using hx)
      simpa using this
    rw [List.sum_cons, List.sum_cons, Nat.mul_add, Nat.add_mul c cs.sum S]
    have h0 : (m + 1) * q ≤ c * S := by simpa using h0
    omega
theorem due {ps : List Nat} (h : Parts ps) {cs : List Nat} {m : Nat} (hl : cs.length = (shs ps).length) (hs : cs.sum = m) (hno : ∀ (j : Nat) (p : Nat × Nat), (shs ps)[j]? = some p → ¬ el cs m j p) : False := by
  have S0 := h.s0
  have e := sum_of_le (m := m) S0 ps cs (by rw [hl, h.len]) fun j q hq => by
    have hp : (shs ps)[j]? = some (shO ps.sum q) := by
      unfold shs
      rw [List.getElem?_map, hq]
      rfl
    have no := hno j _ hp
    have o := h.one _ (List.mem_of_getElem? hp)
    have rel := shO_rel (S := ps.sum) (q := q) S0
    unfold el at no
    have u0 := o.u0
    generalize (shO ps.sum q).1 = n at rel no
    generalize (shO ps.sum q).2 = u at rel no u0
    generalize cs.getD j 0 = c at no ⊢
    have no : (m + 1) * n ≤ c * u := by omega
    have : (m + 1) * n * ps.sum ≤ c * u * ps.sum := Nat.mul_le_mul_right _ no
    have e1 : (m + 1) * n * ps.sum = (m + 1) * q * u := by rw [Nat.mul_assoc, rel, Nat.mul_assoc]
    have e2 : c * u * ps.sum = c * ps.sum * u := by ac_rfl
    rw [e1, e2] at this
    exact Nat.le_of_mul_le_mul_right this u0
  rw [hs] at e
  have : (m + 1) * ps.sum = m * ps.sum + ps.sum := by rw [Nat.add_mul, Nat.one_mul]
  omega
theorem sum_inc : ∀ (cs : List Nat) (l : Nat), l < cs.length → (inc cs l).sum = cs.sum + 1
  | [], l, h => by simp at h
  | c :: cs, 0, _ => by
    show ((c + 1) :: cs).sum = _
    rw [List.sum_cons, List.sum_cons]
    omega
  | c :: cs, l + 1, h => by
    have ih := sum_inc cs l (by simpa using h)
    show (c :: inc cs l).sum = _
    rw [List.sum_cons, List.sum_cons, ih]
    omega
theorem t_tail {sd md : D} {cs row : List Nat} {s4 s6 s7 s8 s9 : Option Slot} {e : Int} {i : Nat} (hi : i < cs.length) (hf : row.length < 5000) : ((mSeq (mSetIx 2 (mBin ixD (mVar 5) (mC (.int 1))) (mBin addD (mBin ixD (mVar 2) (mBin ixD (mVar 5) (mC (.int 1)))) (mC (.int 1)))) (mApp 3 (mBin ixD (mVar 5) (mC (.int 1)))))) (rT sd md cs (ri row) s4 (some (e, i)) s6 s7 s8 s9) = some (.ok .nx, rT sd md (inc cs i) (ri (row ++ [i])) s4 (some (e, i)) s6 s7 s8 s9) := by
  have g := cD_get hi
  have ix := ixD_list g
  have nn : ixN (cD cs).length ((i : Nat) : Int) = some i := ixN_nat (by rw [cD_len]; exact hi)
  have s := cD_set cs i
  have ixb : ixD (.tuple [.int e, .int (i : Nat)]) (.int 1) = some (.val (.int (i : Nat))) := ixD_tup (i := 1) rfl
  have er : ri (row ++ [i]) = ri row ++ [.int (i : Nat)] := by simp [ri]
  have hl : (ri row).length < 16777216 := by rw [List.length_map]; omega
  rw [er]
  unfold rT bD
  dsimp only
  generalize ri row = fnd at hl ⊢
  generalize cD (inc cs i) = ys at s ⊢
  generalize cD cs = xs at ix nn s ⊢
  generalize cs.getD i 0 = c at ix s
  clear g hi
  simp [mSetIx, setIx, ownAt, mApp, appTo, ix, ixb, nn, s, hl, mkFn, isListAt, slots, slot0, mSeq, mAsg, mRet, mIfS, mDrop, mB, bnd, Mi.ret, thaw, thawR, mVal, valR, mVar, mC, mBin, mUn, op1, op2, look, opN, lookAll, mCall, aT, aV, aNil, mStore, okSet, isT, asB, mTup, mLst, valsOf, mNx, outIo, retR, Md.isOwn, Md.isIo, Md.isLk, fI, mIf, mAnd, mOr, mNot, mAndV, mOrV, mChain, mPar, mPar3, mF, mFk, callF, callIo, putIo, freezeBy, flatD, flatAll, flatY, mayGive, notSlot, gath, mAsgG, gT, gsCons, gsNil, gIx, gN, setIx, mSetIx, ownAt, mApp, appTo, mIsi, isiD, isK, kinds, tyD, mSl, mPart, mNoPart, asInt, slD, cutD, lenD, absD, max2D, min2D, gcdD, lcmD, intD, listD, tupleD, allD, boolsOf, divmodD, addD, subD, mulD, fdivD, modD, powD, leD, gtD, geD, isD, isntD, negD, notD, revD, isNone, sizeLine, mMt, mtS, startsD, findD, fmtD, mJs, strD, mFT, callT, mPar3O, mParO, noSlot]
end K83

namespace K83
open PySem L2 Evl PySem.Spec Mi

def rTg (sd md : D) (cs : List Nat) (fnd : List D) (s4 s5 s6 s7 s8 s9 : Option Slot) : R := [some ⟨.val, sd⟩, some ⟨.val, md⟩, some ⟨.own, .list (cD cs)⟩, some ⟨.own, .list fnd⟩, s4, s5, s6, s7, s8, s9]
theorem t_none {sd md : D} {cs : List Nat} {fnd : List D} {s4 s5 s6 s7 s8 s9 : Option Slot} (h5 : Vl s5) : (mAsg 5 (mC .none)) (rTg sd md cs fnd s4 s5 s6 s7 s8 s9) = some (.ok .nx, rT sd md cs fnd s4 none s6 s7 s8 s9) := by
  unfold rTg rT bD
  generalize cD cs = xs
  rcases h5 with rfl | ⟨t, rfl⟩ <;> simp [mkFn, isListAt, slots, slot0, mSeq, mAsg, mRet, mIfS, mDrop, mB, bnd, Mi.ret, thaw, thawR, mVal, valR, mVar, mC, mBin, mUn, op1, op2, look, opN, lookAll, mCall, aT, aV, aNil, mStore, okSet, isT, asB, mTup, mLst, valsOf, mNx, outIo, retR, Md.isOwn, Md.isIo, Md.isLk, fI, mIf, mAnd, mOr, mNot, mAndV, mOrV, mChain, mPar, mPar3, mF, mFk, callF, callIo, putIo, freezeBy, flatD, flatAll, flatY, mayGive, notSlot, gath, mAsgG, gT, gsCons, gsNil, gIx, gN, setIx, mSetIx, ownAt, mApp, appTo, mIsi, isiD, isK, kinds, tyD, mSl, mPart, mNoPart, asInt, slD, cutD, lenD, absD, max2D, min2D, gcdD, lcmD, intD, listD, tupleD, allD, boolsOf, divmodD, addD, subD, mulD, fdivD, modD, powD, leD, gtD, geD, isD, isntD, negD, notD, revD, isNone, sizeLine, mMt, mtS, startsD, findD, fmtD, mJs, strD, mFT, callT, mPar3O, mParO, noSlot]
theorem t_step {ps : List Nat} (h : Parts ps) {md : D} {cs row : List Nat} {m : Nat} {s5 s6 s7 s8 s9 : Option Slot} (k : CsOk (shs ps) cs m) (hs : cs.sum = m) (hm : m + 1 < 5000) (hrow : row.length = m) (hr : ∀ l ∈ row, l < (shs ps).length) (h5 : Vl s5) (h6 : Vl s6) (h7 : Vl s7) (h8 : Vl s8) (h9 : Vl s9) :
    ∃ cs' row' s5' s6' s7' s8' s9', CsOk (shs ps) cs' (m + 1) ∧ cs'.sum = m + 1 ∧ row'.length = m + 1 ∧ (∀ l ∈ row', l < (shs ps).length) ∧ Vl s5' ∧ Vl s6' ∧ Vl s7' ∧ Vl s8' ∧ Vl s9' ∧
      ((mSeq (mAsg 5 (mC .none)) (mSeq (mFor (chk (mEnum (mVar 0))) (gT 2 (gsCons (gN 6) (gsCons (gT 2 (gsCons (gN 7) (gsCons (gN 8) gsNil))) gsNil))) (mIfS (mB (mBin ltD (mBin mulD (mBin ixD (mVar 2) (mVar 6)) (mVar 8)) (mBin mulD (mBin addD (mVar 4) (mC (.int 1))) (mVar 7)))) (mSeq (mAsg 9 (mBin subD (mC (.int 0)) (mBin fdivD (mBin subD (mC (.int 0)) (mBin mulD (mBin addD (mBin ixD (mVar 2) (mVar 6)) (mC (.int 1))) (mVar 8))) (mVar 7)))) (mIfS (mOr (mB (mBin isD (mVar 5) (mC .none))) (mB (mBin ltD (mVar 9) (mBin ixD (mVar 5) (mC (.int 0)))))) (mAsg 5 (mTup (aV (mVar 9) (aV (mVar 6) aNil)))) mNx)) mNx)) (mSeq (mSetIx 2 (mBin ixD (mVar 5) (mC (.int 1))) (mBin addD (mBin ixD (mVar 2) (mBin ixD (mVar 5) (mC (.int 1)))) (mC (.int 1)))) (mApp 3 (mBin ixD (mVar 5) (mC (.int 1)))))))) (rTg (sD (shs ps)) md cs (ri row) (some ⟨.val, .int (m : Nat)⟩) s5 s6 s7 s8 s9) = some (.ok .nx, rTg (sD (shs ps)) md cs' (ri row') (some ⟨.val, .int (m : Nat)⟩) s5' s6' s7' s8' s9') := by
  obtain ⟨b, s6', s7', s8', s9', q6, q7, q8, q9, hb1, hb2, e⟩ := t_in (md := md) (fnd := ri row) h.one k h6 h7 h8 h9
  have nb : b ≠ none := fun q => due h k.len hs (hb1 q)
  obtain ⟨⟨e0, i⟩, rfl⟩ := Option.ne_none_iff_exists'.mp nb
  have hi := hb2 e0 i rfl
  have hi2 : i < cs.length := by rw [k.len]; exact hi
  have tl := t_tail (sd := sD (shs ps)) (md := md) (row := row) (s4 := some ⟨.val, .int (m : Nat)⟩) (s6 := s6') (s7 := s7') (s8 := s8') (s9 := s9') (e := e0) hi2 (by omega)
  refine ⟨inc cs i, row ++ [i], some ⟨.val, bD (some (e0, i))⟩, s6', s7', s8', s9', k.step i (by omega), by rw [sum_inc cs i hi2, hs], by rw [List.length_append, List.length_singleton, hrow], fun l hl => ?_, .inr ⟨_, rfl⟩, q6, q7, q8, q9, ?_⟩
  · rcases List.mem_append.mp hl with q | q
    · exact hr l q
    · rw [List.mem_singleton.mp q]; exact hi
  · show mSeq _ (mSeq _ _) _ = _
    rw [seq_nx (t_none h5), seq_nx e]
    exact tl
theorem t_a {sd md : D} {n : Int} {z : List D} (ln : lenD [sd] = some (.val (.int n))) (mz : mulD (.list [.int 0]) (.int n) = some (.fresh z)) : (mParO 2 3 (mBin mulD (mLst (aV (mC (.int 0)) aNil)) (mCall lenD (aT (mVar 0) aNil))) (mLst aNil)) [some ⟨.val, sd⟩, some ⟨.val, md⟩, none, none, none, none, none, none, none, none] = some (.ok .nx, [some ⟨.val, sd⟩, some ⟨.val, md⟩, some ⟨.own, .list z⟩, some ⟨.own, .list []⟩, none, none, none, none, none, none]) := by
  simp [mParO, noSlot, ln, mz, mkFn, isListAt, slots, slot0, mSeq, mAsg, mRet, mIfS, mDrop, mB, bnd, Mi.ret, thaw, thawR, mVal, valR, mVar, mC, mBin, mUn, op1, op2, look, opN, lookAll, mCall, aT, aV, aNil, mStore, okSet, isT, asB, mTup, mLst, valsOf, mNx, outIo, retR, Md.isOwn, Md.isIo, Md.isLk, fI, mIf, mAnd, mOr, mNot, mAndV, mOrV, mChain, mPar, mPar3, mF, mFk, callF, callIo, putIo, freezeBy, flatD, flatAll, flatY, mayGive, notSlot, gath, mAsgG, gT, gsCons, gsNil, gIx, gN, setIx, mSetIx, ownAt, mApp, appTo, mIsi, isiD, isK, kinds, tyD, mSl, mPart, mNoPart, asInt, slD, cutD, lenD, absD, max2D, min2D, gcdD, lcmD, intD, listD, tupleD, allD, boolsOf, divmodD, addD, subD, mulD, fdivD, modD, powD, leD, gtD, geD, isD, isntD, negD, notD, revD, isNone, sizeLine, mMt, mtS, startsD, findD, fmtD, mJs, strD, mFT, callT, mPar3O, mParO, noSlot, -mulD, -lenD]
theorem in62_nat {n : Nat} (hn : n ≤ 5000) : in62 ((n : Nat) : Int) = true := by
  unfold in62
  exact decide_eq_true (by omega)
theorem rng_of {ρ : R} {n : Nat} {m : M (List Res)} (e : m ρ = some (.ok [.val (.int (n : Nat))], ρ)) (i : in62 ((n : Nat) : Int) = true) : mRng1 m ρ = some (.ok ⟨rangeD 0 n, []⟩, ρ) := by
  unfold mRng1 bnd rng1
  rw [e]
  dsimp only
  rw [if_pos i, Int.toNat_natCast]
theorem t_it {sd : D} {n : Nat} {s2 s3 : Option Slot} (hn : n ≤ 5000) : ((mRng1 (aT (mVar 1) aNil))) [some ⟨.val, sd⟩, some ⟨.val, .int (n : Nat)⟩, s2, s3, none, none, none, none, none, none] = some (.ok ⟨rangeD 0 n, []⟩, [some ⟨.val, sd⟩, some ⟨.val, .int (n : Nat)⟩, s2, s3, none, none, none, none, none, none]) := by
  refine rng_of ?_ (in62_nat hn)
  simp [mkFn, isListAt, slots, slot0, mSeq, mAsg, mRet, mIfS, mDrop, mB, bnd, Mi.ret, thaw, thawR, mVal, valR, mVar, mC, mBin, mUn, op1, op2, look, opN, lookAll, mCall, aT, aV, aNil, mStore, okSet, isT, asB, mTup, mLst, valsOf, mNx, outIo, retR, Md.isOwn, Md.isIo, Md.isLk, fI, mIf, mAnd, mOr, mNot, mAndV, mOrV, mChain, mPar, mPar3, mF, mFk, callF, callIo, putIo, freezeBy, flatD, flatAll, flatY, mayGive, notSlot, gath, mAsgG, gT, gsCons, gsNil, gIx, gN, setIx, mSetIx, ownAt, mApp, appTo, mIsi, isiD, isK, kinds, tyD, mSl, mPart, mNoPart, asInt, slD, cutD, lenD, absD, max2D, min2D, gcdD, lcmD, intD, listD, tupleD, allD, boolsOf, divmodD, addD, subD, mulD, fdivD, modD, powD, leD, gtD, geD, isD, isntD, negD, notD, revD, isNone, sizeLine, mMt, mtS, startsD, findD, fmtD, mJs, strD, mFT, callT, mPar3O, mParO, noSlot]
theorem t_fin {sd md : D} {ρ : R} {xs : List D} (e : m__law_turns [some ⟨.val, sd⟩, some ⟨.val, md⟩, none, none, none, none, none, none, none, none] = some (.ok (.rt (.slot 3)), ρ)) (h3 : ρ[3]? = some (some ⟨.own, .list xs⟩)) : f__law_turns [sd, md] = some (.ok (.fresh xs), .none) := by
  simp [f__law_turns, mkFn, isListAt, slots, slot0, e, outIo, retR, h3]
theorem ev_turns {ps : List Nat} (h : Parts ps) {n : Nat} (hn : n ≤ 1000) : ∃ row, row.length = n ∧ (∀ l ∈ row, l < (shs ps).length) ∧ f__law_turns [sD (shs ps), .int (n : Nat)] = some (.ok (.fresh (ri row)), .none) := by
  have a0 := t_a (md := .int (n : Nat)) (len_sD (shs ps)) (mul_zero (k := (shs ps).length) (by have := shs_len h; omega))
  rw [← cD_zs] at a0
  have a0 : _ = some (Out.ok Fl.nx, rTg (sD (shs ps)) (.int (n : Nat)) (zs (shs ps).length) (ri []) none none none none none none) := a0
  obtain ⟨ρ', e, cs, row, s4, s5, s6, s7, s8, s9, k, hs, hrow, hr, q4, q5, q6, q7, q8, q9, hρ⟩ := loopF_run (g := gN 4) (b := (mSeq (mAsg 5 (mC .none)) (mSeq (mFor (chk (mEnum (mVar 0))) (gT 2 (gsCons (gN 6) (gsCons (gT 2 (gsCons (gN 7) (gsCons (gN 8) gsNil))) gsNil))) (mIfS (mB (mBin ltD (mBin mulD (mBin ixD (mVar 2) (mVar 6)) (mVar 8)) (mBin mulD (mBin addD (mVar 4) (mC (.int 1))) (mVar 7)))) (mSeq (mAsg 9 (mBin subD (mC (.int 0)) (mBin fdivD (mBin subD (mC (.int 0)) (mBin mulD (mBin addD (mBin ixD (mVar 2) (mVar 6)) (mC (.int 1))) (mVar 8))) (mVar 7)))) (mIfS (mOr (mB (mBin isD (mVar 5) (mC .none))) (mB (mBin ltD (mVar 9) (mBin ixD (mVar 5) (mC (.int 0)))))) (mAsg 5 (mTup (aV (mVar 9) (aV (mVar 6) aNil)))) mNx)) mNx)) (mSeq (mSetIx 2 (mBin ixD (mVar 5) (mC (.int 1))) (mBin addD (mBin ixD (mVar 2) (mBin ixD (mVar 5) (mC (.int 1)))) (mC (.int 1)))) (mApp 3 (mBin ixD (mVar 5) (mC (.int 1)))))))) (fun k ρ => ∃ cs row s4 s5 s6 s7 s8 s9, CsOk (shs ps) cs k ∧ cs.sum = k ∧ row.length = k ∧ (∀ l ∈ row, l < (shs ps).length) ∧ Vl s4 ∧ Vl s5 ∧ Vl s6 ∧ Vl s7 ∧ Vl s8 ∧ Vl s9 ∧ ρ = rTg (sD (shs ps)) (.int (n : Nat)) cs (ri row) s4 s5 s6 s7 s8 s9) (rangeD 0 n) 0
    (rTg (sD (shs ps)) (.int (n : Nat)) (zs (shs ps).length) (ri []) none none none none none none) ⟨zs (shs ps).length, [], none, none, none, none, none, none, zs_ok (shs_len h), by unfold zs; simp, rfl, fun l hl => by (cases hl), .inl rfl, .inl rfl, .inl rfl, .inl rfl, .inl rfl, .inl rfl, rfl⟩ (by
    intro i ρ d hd ⟨cs, row, s4, s5, s6, s7, s8, s9, k, hs, hrow, hr, q4, q5, q6, q7, q8, q9, hρ⟩
    subst hρ
    have hi := (List.getElem?_eq_some_iff.mp hd).1
    rw [rng_nat, List.length_map, List.length_range'] at hi
    have ed : d = .int ((0 + i : Nat) : Int) := by
      rw [rng_nat, List.getElem?_map, List.getElem?_range' hi] at hd
      simp at hd
      rw [Nat.zero_add]
      exact hd.symm
    subst ed
    obtain ⟨cs', row', s5', s6', s7', s8', s9', k', hs', hrow', hr', z5, z6, z7, z8, z9, e⟩ := t_step h (md := .int (n : Nat)) k hs (by omega) hrow hr q5 q6 q7 q8 q9
    refine ⟨rTg (sD (shs ps)) (.int (n : Nat)) cs (ri row) (some ⟨.val, .int ((0 + i : Nat) : Int)⟩) s5 s6 s7 s8 s9, _, .nx, ?_, e, .inl rfl, cs', row', _, s5', s6', s7', s8', s9', k', hs', hrow', hr', .inr ⟨_, rfl⟩, z5, z6, z7, z8, z9, rfl⟩
    clear e
    unfold rTg
    generalize cD cs = xs
    generalize ri row = ys
    generalize sD (shs ps) = sd
    rcases q4 with rfl | ⟨t, rfl⟩ <;> simp [gN, mStore, okSet])
  subst hρ
  have hl : (rangeD 0 n).length = n := by rw [rng_nat, List.length_map, List.length_range']
  rw [hl, Nat.zero_add] at hrow
  refine ⟨row, hrow, hr, ?_⟩
  refine t_fin (ρ := rTg (sD (shs ps)) (.int (n : Nat)) cs (ri row) s4 s5 s6 s7 s8 s9) ?_ rfl
  have F : ((mFor (chk (mRng1 (aT (mVar 1) aNil))) (gN 4) (mSeq (mAsg 5 (mC .none)) (mSeq (mFor (chk (mEnum (mVar 0))) (gT 2 (gsCons (gN 6) (gsCons (gT 2 (gsCons (gN 7) (gsCons (gN 8) gsNil))) gsNil))) (mIfS (mB (mBin ltD (mBin mulD (mBin ixD (mVar 2) (mVar 6)) (mVar 8)) (mBin mulD (mBin addD (mVar 4) (mC (.int 1))) (mVar 7)))) (mSeq (mAsg 9 (mBin subD (mC (.int 0)) (mBin fdivD (mBin subD (mC (.int 0)) (mBin mulD (mBin addD (mBin ixD (mVar 2) (mVar 6)) (mC (.int 1))) (mVar 8))) (mVar 7)))) (mIfS (mOr (mB (mBin isD (mVar 5) (mC .none))) (mB (mBin ltD (mVar 9) (mBin ixD (mVar 5) (mC (.int 0)))))) (mAsg 5 (mTup (aV (mVar 9) (aV (mVar 6) aNil)))) mNx)) mNx)) (mSeq (mSetIx 2 (mBin ixD (mVar 5) (mC (.int 1))) (mBin addD (mBin ixD (mVar 2) (mBin ixD (mVar 5) (mC (.int 1)))) (mC (.int 1)))) (mApp 3 (mBin ixD (mVar 5) (mC (.int 1))))))))) (rTg (sD (shs ps)) (.int (n : Nat)) (zs (shs ps).length) (ri []) none none none none none none) = _ := for_run (t_it (by omega)) e
  unfold m__law_turns
  rw [seq_nx a0, seq_nx F]
  simp [rTg, mRet, mVar, bnd, Mi.ret, Md.isOwn]
end K83

namespace K83
open PySem L2 Evl PySem.Spec Mi

/-! ### earliest ends keep narrow windows -/
def sm : Nat → (Nat → Nat) → Nat
  | 0, _ => 0
  | n + 1, f => sm n f + f n
theorem sm_add (f g : Nat → Nat) : ∀ n, sm n (fun i => f i + g i) = sm n f + sm n g
  | 0 => rfl
  | n + 1 => by
    have := sm_add f g n
    simp only [sm, this]
    omega
theorem sm_mul (f : Nat → Nat) (k : Nat) : ∀ n, sm n (fun i => f i * k) = sm n f * k
  | 0 => by simp [sm]
  | n + 1 => by simp only [sm, sm_mul f k n, Nat.add_mul]
theorem sm_const (k : Nat) : ∀ n, sm n (fun _ => k) = n * k
  | 0 => by simp [sm]
  | n + 1 => by simp only [sm, sm_const k n, Nat.add_mul, Nat.one_mul]
theorem sm_le {f g : Nat → Nat} : ∀ {n}, (∀ i, i < n → f i ≤ g i) → sm n f ≤ sm n g
  | 0, _ => Nat.le_refl _
  | n + 1, h => Nat.add_le_add (sm_le fun i hi => h i (by omega)) (h n (by omega))
theorem sm_eq {f g : Nat → Nat} : ∀ {n}, (∀ i, i < n → f i = g i) → sm n f = sm n g
  | 0, _ => rfl
  | n + 1, h => by
    show sm n f + f n = sm n g + g n
    rw [sm_eq fun i hi => h i (by omega), h n (by omega)]
theorem sm_one (j : Nat) : ∀ n, sm n (fun i => if i = j then 1 else 0) = if j < n then 1 else 0
  | 0 => by simp [sm]
  | n + 1 => by
    simp only [sm, sm_one j n]
    by_cases h : n = j
    · subst h; simp
    · rw [if_neg h]
      by_cases h2 : j < n
      · rw [if_pos h2, if_pos (by omega)]
      · rw [if_neg h2, if_neg (by omega)]
theorem sm_pos {f : Nat → Nat} {j : Nat} (hf : 0 < f j) : ∀ {n}, j < n → 0 < sm n f
  | 0, h => by omega
  | n + 1, h => by
    show 0 < sm n f + f n
    by_cases e : j = n
    · subst e; omega
    · have := sm_pos hf (n := n) (by omega); omega
theorem sm_lt {f : Nat → Nat} {j : Nat} (h1 : ∀ i, f i ≤ 1) (hj : f j = 0) : ∀ {n}, j < n → sm n f + 1 ≤ n
  | 0, h => by omega
  | n + 1, h => by
    show sm n f + f n + 1 ≤ n + 1
    by_cases e : j = n
    · subst e
      have := sm_le (f := f) (g := fun _ => 1) (n := j) fun i _ => h1 i
      rw [sm_const] at this
      omega
    · have := sm_lt h1 hj (n := n) (by omega)
      have := h1 n
      omega
structure Run (n S P : Nat) (q : Nat → Nat) (N : Nat) (C : Nat → Nat → Nat) (L : Nat → Nat) : Prop where
  n2 : 2 ≤ n
  pn : P = 2 * n - 2
  s0 : 0 < S
  sq : sm n q = S
  z : ∀ i, C 0 i = 0
  st : ∀ t, t < N → ∀ i, C (t + 1) i = C t i + if i = L t then 1 else 0
  ln : ∀ t, t < N → L t < n
  el : ∀ t, t < N → C t (L t) * (P * S) + S ≤ (t + 1) * (q (L t) * P)
  ed : ∀ t, t < N → ∀ j, j < n → C t j * (P * S) + S ≤ (t + 1) * (q j * P) → ∀ m, (C t j + 1) * (P * S) < m * (q j * P) + S → (C t (L t) + 1) * (P * S) < m * (q (L t) * P) + S
theorem last_not (p : Nat → Prop) : ∀ m : Nat, ∃ a, a ≤ m ∧ (∀ t, a ≤ t → t < m → p t) ∧ (a = 0 ∨ ∃ b, a = b + 1 ∧ ¬ p b)
  | 0 => ⟨0, Nat.le_refl _, fun t _ h => absurd h (by omega), .inl rfl⟩
  | m + 1 => by
    by_cases h : p m
    · obtain ⟨a, h1, h2, h3⟩ := last_not p m
      refine ⟨a, by omega, fun t ht h4 => ?_, h3⟩
      by_cases e : t = m
      · subst e; exact h
      · exact h2 t ht (by omega)
    · exact ⟨m + 1, Nat.le_refl _, fun t h1 h2 => absurd h1 (by omega), .inr ⟨m, rfl, h⟩⟩
section
variable {n S P N : Nat} {q : Nat → Nat} {C : Nat → Nat → Nat} {L : Nat → Nat}
theorem Run.sum (R : Run n S P q N C L) : ∀ t, t ≤ N → sm n (C t) = t
  | 0, _ => by
    rw [sm_eq (g := fun _ => 0) fun i _ => R.z i, sm_const]
    simp
  | t + 1, h => by
    rw [sm_eq (g := fun i => C t i + if i = L t then 1 else 0) fun i _ => R.st t (by omega) i, sm_add, R.sum t (by omega), sm_one, if_pos (R.ln t (by omega))]
theorem Run.mono (R : Run n S P q N C L) {a : Nat} (i : Nat) : ∀ m, a ≤ m → m ≤ N → C a i ≤ C m i
  | 0, h, _ => by
    have : a = 0 := by omega
    subst this
    exact Nat.le_refl _
  | m + 1, h, hm => by
    by_cases e : a = m + 1
    · subst e; exact Nat.le_refl _
    · have := R.mono (a := a) i m (by omega) (by omega)
      have s := R.st m (Nat.lt_of_succ_le hm) i
      omega
theorem Run.took (R : Run n S P q N C L) {a : Nat} (i : Nat) : ∀ m, a ≤ m → m ≤ N → C a i < C m i → ∃ t, a ≤ t ∧ t < m ∧ L t = i ∧ C t i + 1 = C m i
  | 0, h, _, hc => by
    have : a = 0 := by omega
    subst this
    omega
  | m + 1, h, hm, hc => by
    by_cases e : a = m + 1
    · subst e; omega
    · have s := R.st m (Nat.lt_of_succ_le hm) i
      by_cases el : i = L m
      · rw [if_pos el] at s
        exact ⟨m, by omega, by omega, el.symm, s.symm⟩
      · rw [if_neg el] at s
        obtain ⟨t, h1, h2, h3, h4⟩ := R.took (a := a) i m (by omega) (by omega) (by omega)
        exact ⟨t, h1, by omega, h3, by omega⟩
/-- no end is missed -/
theorem Run.due (R : Run n S P q N C L) {m i0 : Nat} (hm : m ≤ N) (h0 : i0 < n) : m * (q i0 * P) + S ≤ (C m i0 + 1) * (P * S) := by
  refine Nat.le_of_not_lt fun miss => ?_
  obtain ⟨a, ha, all, hb⟩ := last_not (fun t => (C t (L t) + 1) * (P * S) < m * (q (L t) * P) + S) m
  have s0 := R.s0
  -- the letters up to m, and the one that lacks
  generalize hX : (fun i => C m i + if i = i0 then 1 else 0) = X
  have hXi : ∀ i, X i = C m i + if i = i0 then 1 else 0 := fun i => by rw [← hX]
  have sX : sm n X = m + 1 := by rw [← hX, sm_add, R.sum m hm, sm_one, if_pos h0]
  have aX : ∀ i, C a i ≤ X i := fun i => by
    have := R.mono i m ha hm
    rw [hXi]
    omega
  have late : ∀ i, i < n → C a i < X i → X i * (P * S) < m * (q i * P) + S := fun i hi hx => by
    rw [hXi] at hx ⊢
    by_cases e : i = i0
    · subst e
      rw [if_pos rfl]
      exact miss
    · rw [if_neg e] at hx ⊢
      obtain ⟨t, t1, t2, t3, t4⟩ := R.took i m ha hm (by omega)
      have := all t t1 t2
      rw [t3, t4] at this
      exact this
  have early : ∀ i, i < n → C a i < X i → a * (q i * P) < C a i * (P * S) + S := fun i hi hx => by
    rcases hb with rfl | ⟨b, rfl, nb⟩
    · rw [R.z i]
      omega
    · refine Nat.lt_of_not_le fun el => nb ?_
      have cb : C b i ≤ C (b + 1) i := R.mono i (b + 1) (by omega) (by omega)
      have c1 : C b i * (P * S) ≤ C (b + 1) i * (P * S) := Nat.mul_le_mul_right _ cb
      refine R.ed b (by omega) i hi (by omega) m ?_
      have c2 : (C b i + 1) * (P * S) ≤ X i * (P * S) := Nat.mul_le_mul_right _ (by omega)
      have := late i hi hx
      omega
  have q1 : sm n (fun i => m * (q i * P)) = m * (S * P) := by
    rw [sm_eq (g := fun i => q i * (P * m)) fun i _ => by rw [Nat.mul_comm, Nat.mul_assoc], sm_mul, R.sq, Nat.mul_comm m, Nat.mul_assoc]
  have q2 : sm n (fun i => a * (q i * P)) = a * (S * P) := by
    rw [sm_eq (g := fun i => q i * (P * a)) fun i _ => by rw [Nat.mul_comm, Nat.mul_assoc], sm_mul, R.sq, Nat.mul_comm a, Nat.mul_assoc]
  have hn := R.n2
  have hp := R.pn
  have cmm : S * P = P * S := Nat.mul_comm _ _
  by_cases c : ∀ i, i < n → C a i < X i
  · have := sm_le (n := n) (f := fun i => X i * (P * S) + 1) (g := fun i => m * (q i * P) + S) fun i hi => late i hi (c i hi)
    rw [sm_add, sm_add, sm_mul, sm_const, sm_const, q1, sX, cmm, Nat.add_mul] at this
    have : n * S ≤ P * S := Nat.mul_le_mul_right _ (by omega)
    omega
  · obtain ⟨j, hj, ej⟩ : ∃ j, j < n ∧ ¬ C a j < X j := Classical.byContradiction fun z => c fun i hi => Classical.byContradiction fun z2 => z ⟨i, hi, z2⟩
    generalize hw : (fun i => if C a i < X i then 1 else 0) = w
    have hwi : ∀ i, w i = if C a i < X i then 1 else 0 := fun i => by rw [← hw]
    have w1 : ∀ i, w i ≤ 1 := fun i => by rw [hwi]; split <;> omega
    have wj : w j = 0 := by rw [hwi, if_neg ej]
    have wl := sm_lt w1 wj hj
    have w0 : 0 < sm n w := sm_pos (j := i0) (by
      rw [hwi, if_pos]
      · decide
      · have := R.mono i0 m ha hm
        rw [hXi, if_pos rfl]
        omega) h0
    have := sm_le (n := n) (f := fun i => X i * (P * S) + a * (q i * P) + w i * 2) (g := fun i => m * (q i * P) + C a i * (P * S) + w i * (2 * S)) fun i hi => by
      show X i * (P * S) + a * (q i * P) + w i * 2 ≤ m * (q i * P) + C a i * (P * S) + w i * (2 * S)
      rw [hwi]
      by_cases cx : C a i < X i
      · have h1 := late i hi cx
        have h2 := early i hi cx
        rw [if_pos cx]
        omega
      · have e : X i = C a i := Nat.le_antisymm (Nat.le_of_not_lt cx) (aX i)
        have : a * (q i * P) ≤ m * (q i * P) := Nat.mul_le_mul_right _ ha
        rw [if_neg cx, e]
        omega
    rw [sm_add, sm_add, sm_add, sm_add, sm_mul, sm_mul, sm_mul, sm_mul, q1, q2, sX, R.sum a (by omega), cmm, Nat.add_mul] at this
    have h3 : sm n w * (2 * S) ≤ P * S := by
      rw [← Nat.mul_assoc]
      exact Nat.mul_le_mul_right _ (by omega)
    omega
/-- none comes too early -/
theorem Run.soon (R : Run n S P q N C L) (i : Nat) : ∀ m, m ≤ N → C m i * (P * S) + S ≤ m * (q i * P) + P * S
  | 0, _ => by
    rw [R.z i]
    have : 1 * S ≤ P * S := Nat.mul_le_mul_right _ (by have := R.n2; have := R.pn; omega)
    omega
  | m + 1, h => by
    have ih := R.soon i m (by omega)
    rw [R.st m (Nat.lt_of_succ_le h) i]
    have e1 : m * (q i * P) ≤ (m + 1) * (q i * P) := Nat.mul_le_mul_right _ (by omega)
    by_cases e : i = L m
    · have := R.el m (Nat.lt_of_succ_le h)
      rw [if_pos e, Nat.add_mul, e]
      omega
    · rw [if_neg e, Nat.add_zero]
      omega
end
end K83

namespace K83
open PySem L2 Evl PySem.Spec Mi

/-! ### the law's even rows -/
theorem if_yes {t : M Bool} {a b : M Fl} {ρ ρ' : R} (h : t ρ = some (.ok true, ρ')) : mIfS t a b ρ = a ρ' := by
  simp [mIfS, bnd, h]
theorem if_no {t : M Bool} {a b : M Fl} {ρ ρ' : R} (h : t ρ = some (.ok false, ρ')) : mIfS t a b ρ = b ρ' := by
  simp [mIfS, bnd, h]
def eE (p : Nat × Nat) (c m P : Nat) : Bool := decide (P = 0) || decide ((c * P + 1) * p.2 ≤ (m + 1) * p.1 * P)
def lE (p : Nat × Nat) (c P : Nat) : Nat := if P = 0 then 0 else ((c + 1) * P - 1) * p.2 / (p.1 * P)
def stE (cs : List Nat) (m P : Nat) (i : Nat) (p : Nat × Nat) (b : Option (Nat × Nat)) : Option (Nat × Nat) :=
  if eE p (cs.getD i 0) m P && (match b with | none => true | some x => decide (lE p (cs.getD i 0) P < x.1)) then some (lE p (cs.getD i 0) P, i) else b
def bE : Option (Nat × Nat) → D
  | none => .none
  | some b => .tuple [.int (b.1 : Nat), .int (b.2 : Nat)]
def rE (sd md : D) (xs fnd : List D) (P m : Int) (b : D) (i n u : Int) (s10 : Option Slot) : R := [some ⟨.val, sd⟩, some ⟨.val, md⟩, some ⟨.own, .list xs⟩, some ⟨.own, .list fnd⟩, some ⟨.val, .int P⟩, some ⟨.val, .int m⟩, some ⟨.val, b⟩, some ⟨.val, .int i⟩, some ⟨.val, .int n⟩, some ⟨.val, .int u⟩, s10]
section
variable {sd md b : D} {xs fnd : List D} {P m i n u c : Int} {s10 : Option Slot}
theorem be_no (ix : ixD (.list xs) (.int i) = some (.val (.int c))) (z : eqsD (.int P) (.int 0) = some (.val (.bool false))) (m1 : mulOk c P = true) (m2 : mulOk (c * P + 1) u = true) (m3 : mulOk (m + 1) n = true) (m4 : mulOk ((m + 1) * n) P = true) (le : ¬ (c * P + 1) * u ≤ (m + 1) * n * P) :
    ((mOr (mB (mBin eqsD (mVar 4) (mC (.int 0)))) (mB (mBin leD (mBin mulD (mBin addD (mBin mulD (mBin ixD (mVar 2) (mVar 7)) (mVar 4)) (mC (.int 1))) (mVar 9)) (mBin mulD (mBin mulD (mBin addD (mVar 5) (mC (.int 1))) (mVar 8)) (mVar 4)))))) (rE sd md xs fnd P m b i n u s10) = some (.ok false, rE sd md xs fnd P m b i n u s10) := by
  have lt : (m + 1) * n * P < (c * P + 1) * u := by omega
  unfold rE
  simp [ix, z, m1, m2, m3, m4, lt, ltD, mkFn, isListAt, slots, slot0, mSeq, mAsg, mRet, mIfS, mDrop, mB, bnd, Mi.ret, thaw, thawR, mVal, valR, mVar, mC, mBin, mUn, op1, op2, look, opN, lookAll, mCall, aT, aV, aNil, mStore, okSet, isT, asB, mTup, mLst, valsOf, mNx, outIo, retR, Md.isOwn, Md.isIo, Md.isLk, fI, mIf, mAnd, mOr, mNot, mAndV, mOrV, mChain, mPar, mPar3, mF, mFk, callF, callIo, putIo, freezeBy, flatD, flatAll, flatY, mayGive, notSlot, gath, mAsgG, gT, gsCons, gsNil, gIx, gN, setIx, mSetIx, ownAt, mApp, appTo, mIsi, isiD, isK, kinds, tyD, mSl, mPart, mNoPart, asInt, slD, cutD, lenD, absD, max2D, min2D, gcdD, lcmD, intD, listD, tupleD, allD, boolsOf, divmodD, addD, subD, mulD, fdivD, modD, powD, leD, gtD, geD, isD, isntD, negD, notD, revD, isNone, sizeLine, mMt, mtS, startsD, findD, fmtD, mJs, strD, mFT, callT, mPar3O, mParO, noSlot]
theorem be_yes (ix : ixD (.list xs) (.int i) = some (.val (.int c))) (z : eqsD (.int P) (.int 0) = some (.val (.bool false))) (m1 : mulOk c P = true) (m2 : mulOk (c * P + 1) u = true) (m3 : mulOk (m + 1) n = true) (m4 : mulOk ((m + 1) * n) P = true) (le : (c * P + 1) * u ≤ (m + 1) * n * P) :
    ((mOr (mB (mBin eqsD (mVar 4) (mC (.int 0)))) (mB (mBin leD (mBin mulD (mBin addD (mBin mulD (mBin ixD (mVar 2) (mVar 7)) (mVar 4)) (mC (.int 1))) (mVar 9)) (mBin mulD (mBin mulD (mBin addD (mVar 5) (mC (.int 1))) (mVar 8)) (mVar 4)))))) (rE sd md xs fnd P m b i n u s10) = some (.ok true, rE sd md xs fnd P m b i n u s10) := by
  unfold rE
  simp [ix, z, m1, m2, m3, m4, le, ltD, mkFn, isListAt, slots, slot0, mSeq, mAsg, mRet, mIfS, mDrop, mB, bnd, Mi.ret, thaw, thawR, mVal, valR, mVar, mC, mBin, mUn, op1, op2, look, opN, lookAll, mCall, aT, aV, aNil, mStore, okSet, isT, asB, mTup, mLst, valsOf, mNx, outIo, retR, Md.isOwn, Md.isIo, Md.isLk, fI, mIf, mAnd, mOr, mNot, mAndV, mOrV, mChain, mPar, mPar3, mF, mFk, callF, callIo, putIo, freezeBy, flatD, flatAll, flatY, mayGive, notSlot, gath, mAsgG, gT, gsCons, gsNil, gIx, gN, setIx, mSetIx, ownAt, mApp, appTo, mIsi, isiD, isK, kinds, tyD, mSl, mPart, mNoPart, asInt, slD, cutD, lenD, absD, max2D, min2D, gcdD, lcmD, intD, listD, tupleD, allD, boolsOf, divmodD, addD, subD, mulD, fdivD, modD, powD, leD, gtD, geD, isD, isntD, negD, notD, revD, isNone, sizeLine, mMt, mtS, startsD, findD, fmtD, mJs, strD, mFT, callT, mPar3O, mParO, noSlot]
theorem be_zero (z : eqsD (.int P) (.int 0) = some (.val (.bool true))) :
    ((mOr (mB (mBin eqsD (mVar 4) (mC (.int 0)))) (mB (mBin leD (mBin mulD (mBin addD (mBin mulD (mBin ixD (mVar 2) (mVar 7)) (mVar 4)) (mC (.int 1))) (mVar 9)) (mBin mulD (mBin mulD (mBin addD (mVar 5) (mC (.int 1))) (mVar 8)) (mVar 4)))))) (rE sd md xs fnd P m b i n u s10) = some (.ok true, rE sd md xs fnd P m b i n u s10) := by
  unfold rE
  simp [z, mkFn, isListAt, slots, slot0, mSeq, mAsg, mRet, mIfS, mDrop, mB, bnd, Mi.ret, thaw, thawR, mVal, valR, mVar, mC, mBin, mUn, op1, op2, look, opN, lookAll, mCall, aT, aV, aNil, mStore, okSet, isT, asB, mTup, mLst, valsOf, mNx, outIo, retR, Md.isOwn, Md.isIo, Md.isLk, fI, mIf, mAnd, mOr, mNot, mAndV, mOrV, mChain, mPar, mPar3, mF, mFk, callF, callIo, putIo, freezeBy, flatD, flatAll, flatY, mayGive, notSlot, gath, mAsgG, gT, gsCons, gsNil, gIx, gN, setIx, mSetIx, ownAt, mApp, appTo, mIsi, isiD, isK, kinds, tyD, mSl, mPart, mNoPart, asInt, slD, cutD, lenD, absD, max2D, min2D, gcdD, lcmD, intD, listD, tupleD, allD, boolsOf, divmodD, addD, subD, mulD, fdivD, modD, powD, leD, gtD, geD, isD, isntD, negD, notD, revD, isNone, sizeLine, mMt, mtS, startsD, findD, fmtD, mJs, strD, mFT, callT, mPar3O, mParO, noSlot]
theorem be_l0 (h10 : Vl s10) (z : eqsD (.int P) (.int 0) = some (.val (.bool true))) :
    ((mAsg 10 (mIf (mB (mBin eqsD (mVar 4) (mC (.int 0)))) (mC (.int 0)) (mBin fdivD (mBin mulD (mBin subD (mBin mulD (mBin addD (mBin ixD (mVar 2) (mVar 7)) (mC (.int 1))) (mVar 4)) (mC (.int 1))) (mVar 9)) (mBin mulD (mVar 8) (mVar 4)))))) (rE sd md xs fnd P m b i n u s10) = some (.ok .nx, rE sd md xs fnd P m b i n u (some ⟨.val, .int 0⟩)) := by
  unfold rE
  rcases h10 with rfl | ⟨t, rfl⟩ <;> simp [z, mkFn, isListAt, slots, slot0, mSeq, mAsg, mRet, mIfS, mDrop, mB, bnd, Mi.ret, thaw, thawR, mVal, valR, mVar, mC, mBin, mUn, op1, op2, look, opN, lookAll, mCall, aT, aV, aNil, mStore, okSet, isT, asB, mTup, mLst, valsOf, mNx, outIo, retR, Md.isOwn, Md.isIo, Md.isLk, fI, mIf, mAnd, mOr, mNot, mAndV, mOrV, mChain, mPar, mPar3, mF, mFk, callF, callIo, putIo, freezeBy, flatD, flatAll, flatY, mayGive, notSlot, gath, mAsgG, gT, gsCons, gsNil, gIx, gN, setIx, mSetIx, ownAt, mApp, appTo, mIsi, isiD, isK, kinds, tyD, mSl, mPart, mNoPart, asInt, slD, cutD, lenD, absD, max2D, min2D, gcdD, lcmD, intD, listD, tupleD, allD, boolsOf, divmodD, addD, subD, mulD, fdivD, modD, powD, leD, gtD, geD, isD, isntD, negD, notD, revD, isNone, sizeLine, mMt, mtS, startsD, findD, fmtD, mJs, strD, mFT, callT, mPar3O, mParO, noSlot]
theorem be_l1 (h10 : Vl s10) (ix : ixD (.list xs) (.int i) = some (.val (.int c))) (z : eqsD (.int P) (.int 0) = some (.val (.bool false))) (m1 : mulOk (c + 1) P = true) (m2 : mulOk ((c + 1) * P - 1) u = true) (m3 : mulOk n P = true) (d : divOk (n * P) = true) :
    ((mAsg 10 (mIf (mB (mBin eqsD (mVar 4) (mC (.int 0)))) (mC (.int 0)) (mBin fdivD (mBin mulD (mBin subD (mBin mulD (mBin addD (mBin ixD (mVar 2) (mVar 7)) (mC (.int 1))) (mVar 4)) (mC (.int 1))) (mVar 9)) (mBin mulD (mVar 8) (mVar 4)))))) (rE sd md xs fnd P m b i n u s10) = some (.ok .nx, rE sd md xs fnd P m b i n u (some ⟨.val, .int ((((c + 1) * P - 1) * u).fdiv (n * P))⟩)) := by
  unfold rE
  rcases h10 with rfl | ⟨t, rfl⟩ <;> simp [ix, z, m1, m2, m3, d, mkFn, isListAt, slots, slot0, mSeq, mAsg, mRet, mIfS, mDrop, mB, bnd, Mi.ret, thaw, thawR, mVal, valR, mVar, mC, mBin, mUn, op1, op2, look, opN, lookAll, mCall, aT, aV, aNil, mStore, okSet, isT, asB, mTup, mLst, valsOf, mNx, outIo, retR, Md.isOwn, Md.isIo, Md.isLk, fI, mIf, mAnd, mOr, mNot, mAndV, mOrV, mChain, mPar, mPar3, mF, mFk, callF, callIo, putIo, freezeBy, flatD, flatAll, flatY, mayGive, notSlot, gath, mAsgG, gT, gsCons, gsNil, gIx, gN, setIx, mSetIx, ownAt, mApp, appTo, mIsi, isiD, isK, kinds, tyD, mSl, mPart, mNoPart, asInt, slD, cutD, lenD, absD, max2D, min2D, gcdD, lcmD, intD, listD, tupleD, allD, boolsOf, divmodD, addD, subD, mulD, fdivD, modD, powD, leD, gtD, geD, isD, isntD, negD, notD, revD, isNone, sizeLine, mMt, mtS, startsD, findD, fmtD, mJs, strD, mFT, callT, mPar3O, mParO, noSlot]
theorem be_none {l : Int} : ((mIfS (mOr (mB (mBin isD (mVar 6) (mC .none))) (mB (mBin ltD (mVar 10) (mBin ixD (mVar 6) (mC (.int 0)))))) (mAsg 6 (mTup (aV (mVar 10) (aV (mVar 7) aNil)))) mNx)) (rE sd md xs fnd P m .none i n u (some ⟨.val, .int l⟩)) = some (.ok .nx, rE sd md xs fnd P m (.tuple [.int l, .int i]) i n u (some ⟨.val, .int l⟩)) := by
  unfold rE
  simp [mkFn, isListAt, slots, slot0, mSeq, mAsg, mRet, mIfS, mDrop, mB, bnd, Mi.ret, thaw, thawR, mVal, valR, mVar, mC, mBin, mUn, op1, op2, look, opN, lookAll, mCall, aT, aV, aNil, mStore, okSet, isT, asB, mTup, mLst, valsOf, mNx, outIo, retR, Md.isOwn, Md.isIo, Md.isLk, fI, mIf, mAnd, mOr, mNot, mAndV, mOrV, mChain, mPar, mPar3, mF, mFk, callF, callIo, putIo, freezeBy, flatD, flatAll, flatY, mayGive, notSlot, gath, mAsgG, gT, gsCons, gsNil, gIx, gN, setIx, mSetIx, ownAt, mApp, appTo, mIsi, isiD, isK, kinds, tyD, mSl, mPart, mNoPart, asInt, slD, cutD, lenD, absD, max2D, min2D, gcdD, lcmD, intD, listD, tupleD, allD, boolsOf, divmodD, addD, subD, mulD, fdivD, modD, powD, leD, gtD, geD, isD, isntD, negD, notD, revD, isNone, sizeLine, mMt, mtS, startsD, findD, fmtD, mJs, strD, mFT, callT, mPar3O, mParO, noSlot]
theorem be_some {l e j : Int} : ((mIfS (mOr (mB (mBin isD (mVar 6) (mC .none))) (mB (mBin ltD (mVar 10) (mBin ixD (mVar 6) (mC (.int 0)))))) (mAsg 6 (mTup (aV (mVar 10) (aV (mVar 7) aNil)))) mNx)) (rE sd md xs fnd P m (.tuple [.int e, .int j]) i n u (some ⟨.val, .int l⟩)) = some (.ok .nx, rE sd md xs fnd P m (if l < e then .tuple [.int l, .int i] else .tuple [.int e, .int j]) i n u (some ⟨.val, .int l⟩)) := by
  have ixb : ixD (.tuple [.int e, .int j]) (.int 0) = some (.val (.int e)) := ixD_tup (i := 0) rfl
  unfold rE
  by_cases h : l < e
  · rw [if_pos h]
    simp [ixb, h, ltD, mkFn, isListAt, slots, slot0, mSeq, mAsg, mRet, mIfS, mDrop, mB, bnd, Mi.ret, thaw, thawR, mVal, valR, mVar, mC, mBin, mUn, op1, op2, look, opN, lookAll, mCall, aT, aV, aNil, mStore, okSet, isT, asB, mTup, mLst, valsOf, mNx, outIo, retR, Md.isOwn, Md.isIo, Md.isLk, fI, mIf, mAnd, mOr, mNot, mAndV, mOrV, mChain, mPar, mPar3, mF, mFk, callF, callIo, putIo, freezeBy, flatD, flatAll, flatY, mayGive, notSlot, gath, mAsgG, gT, gsCons, gsNil, gIx, gN, setIx, mSetIx, ownAt, mApp, appTo, mIsi, isiD, isK, kinds, tyD, mSl, mPart, mNoPart, asInt, slD, cutD, lenD, absD, max2D, min2D, gcdD, lcmD, intD, listD, tupleD, allD, boolsOf, divmodD, addD, subD, mulD, fdivD, modD, powD, leD, gtD, geD, isD, isntD, negD, notD, revD, isNone, sizeLine, mMt, mtS, startsD, findD, fmtD, mJs, strD, mFT, callT, mPar3O, mParO, noSlot]
  · rw [if_neg h]
    simp [ixb, h, ltD, mkFn, isListAt, slots, slot0, mSeq, mAsg, mRet, mIfS, mDrop, mB, bnd, Mi.ret, thaw, thawR, mVal, valR, mVar, mC, mBin, mUn, op1, op2, look, opN, lookAll, mCall, aT, aV, aNil, mStore, okSet, isT, asB, mTup, mLst, valsOf, mNx, outIo, retR, Md.isOwn, Md.isIo, Md.isLk, fI, mIf, mAnd, mOr, mNot, mAndV, mOrV, mChain, mPar, mPar3, mF, mFk, callF, callIo, putIo, freezeBy, flatD, flatAll, flatY, mayGive, notSlot, gath, mAsgG, gT, gsCons, gsNil, gIx, gN, setIx, mSetIx, ownAt, mApp, appTo, mIsi, isiD, isK, kinds, tyD, mSl, mPart, mNoPart, asInt, slD, cutD, lenD, absD, max2D, min2D, gcdD, lcmD, intD, listD, tupleD, allD, boolsOf, divmodD, addD, subD, mulD, fdivD, modD, powD, leD, gtD, geD, isD, isntD, negD, notD, revD, isNone, sizeLine, mMt, mtS, startsD, findD, fmtD, mJs, strD, mFT, callT, mPar3O, mParO, noSlot]
end
theorem e_body {sd md : D} {cs : List Nat} {fnd : List D} {m i P : Nat} {p : Nat × Nat} {b : Option (Nat × Nat)} {s10 : Option Slot} (o : One p) (hi : i < cs.length) (hc : cs.getD i 0 < 2 ^ 30) (hm : m < 2 ^ 30) (hP : P < 2 ^ 30) (h10 : Vl s10) :
    ∃ s10', Vl s10' ∧ ((mIfS (mOr (mB (mBin eqsD (mVar 4) (mC (.int 0)))) (mB (mBin leD (mBin mulD (mBin addD (mBin mulD (mBin ixD (mVar 2) (mVar 7)) (mVar 4)) (mC (.int 1))) (mVar 9)) (mBin mulD (mBin mulD (mBin addD (mVar 5) (mC (.int 1))) (mVar 8)) (mVar 4))))) (mSeq (mAsg 10 (mIf (mB (mBin eqsD (mVar 4) (mC (.int 0)))) (mC (.int 0)) (mBin fdivD (mBin mulD (mBin subD (mBin mulD (mBin addD (mBin ixD (mVar 2) (mVar 7)) (mC (.int 1))) (mVar 4)) (mC (.int 1))) (mVar 9)) (mBin mulD (mVar 8) (mVar 4))))) (mIfS (mOr (mB (mBin isD (mVar 6) (mC .none))) (mB (mBin ltD (mVar 10) (mBin ixD (mVar 6) (mC (.int 0)))))) (mAsg 6 (mTup (aV (mVar 10) (aV (mVar 7) aNil)))) mNx)) mNx)) (rE sd md (cD cs) fnd (P : Nat) (m : Nat) (bE b) (i : Nat) (p.1 : Nat) (p.2 : Nat) s10) = some (.ok .nx, rE sd md (cD cs) fnd (P : Nat) (m : Nat) (bE (stE cs m P i p b)) (i : Nat) (p.1 : Nat) (p.2 : Nat) s10') := by
  obtain ⟨n, u⟩ := p
  have hn := o.n
  have hu := o.u
  have n0 := o.n0
  dsimp only at hn hu n0 ⊢
  have ix := ixD_list (cD_get hi)
  unfold stE eE lE
  generalize cs.getD i 0 = c at hc ix ⊢
  dsimp only
  have q := eqs_int ((P : Nat) : Int) 0
  have b1 : c * P + 1 < 2 ^ 100 := by
    have : c * P ≤ 2 ^ 30 * 2 ^ 30 := Nat.mul_le_mul (by omega) (by omega)
    omega
  have b2 : (m + 1) * n < 2 ^ 100 := by
    have : (m + 1) * n ≤ 2 ^ 30 * 2 ^ 60 := Nat.mul_le_mul (by omega) (by omega)
    omega
  have b3 : (c + 1) * P < 2 ^ 100 := by
    have : (c + 1) * P ≤ 2 ^ 30 * 2 ^ 30 := Nat.mul_le_mul (by omega) (by omega)
    omega
  have m1 : mulOk ((c : Nat) : Int) ((P : Nat) : Int) = true := mulOk_of (a := 60) (b := 60) (by omega) (by omega) (by decide) (by decide) (by decide)
  have m2 : mulOk (((c : Nat) : Int) * ((P : Nat) : Int) + 1) ((u : Nat) : Int) = true := by
    rw [← Int.natCast_mul]
    exact mulOk_of (a := 100) (b := 60) (by omega) (by omega) (by decide) (by decide) (by decide)
  have m3 : mulOk (((m : Nat) : Int) + 1) ((n : Nat) : Int) = true := mulOk_of (a := 60) (b := 60) (by omega) (by omega) (by decide) (by decide) (by decide)
  have m4 : mulOk ((((m : Nat) : Int) + 1) * ((n : Nat) : Int)) ((P : Nat) : Int) = true := by
    rw [show ((m : Nat) : Int) + 1 = ((m + 1 : Nat) : Int) by omega, ← Int.natCast_mul]
    exact mulOk_of (a := 100) (b := 60) (by rw [Int.natAbs_natCast]; exact b2) (by omega) (by decide) (by decide) (by decide)
  have m5 : mulOk (((c : Nat) : Int) + 1) ((P : Nat) : Int) = true := mulOk_of (a := 60) (b := 60) (by omega) (by omega) (by decide) (by decide) (by decide)
  have m6 : mulOk ((((c : Nat) : Int) + 1) * ((P : Nat) : Int) - 1) ((u : Nat) : Int) = true := by
    rw [show ((c : Nat) : Int) + 1 = ((c + 1 : Nat) : Int) by omega, ← Int.natCast_mul]
    exact mulOk_of (a := 101) (b := 60) (by omega) (by omega) (by decide) (by decide) (by decide)
  have m7 : mulOk ((n : Nat) : Int) ((P : Nat) : Int) = true := mulOk_of (a := 60) (b := 60) (by omega) (by omega) (by decide) (by decide) (by decide)
  show ∃ s10', Vl s10' ∧ (mIfS ((mOr (mB (mBin eqsD (mVar 4) (mC (.int 0)))) (mB (mBin leD (mBin mulD (mBin addD (mBin mulD (mBin ixD (mVar 2) (mVar 7)) (mVar 4)) (mC (.int 1))) (mVar 9)) (mBin mulD (mBin mulD (mBin addD (mVar 5) (mC (.int 1))) (mVar 8)) (mVar 4)))))) (mSeq ((mAsg 10 (mIf (mB (mBin eqsD (mVar 4) (mC (.int 0)))) (mC (.int 0)) (mBin fdivD (mBin mulD (mBin subD (mBin mulD (mBin addD (mBin ixD (mVar 2) (mVar 7)) (mC (.int 1))) (mVar 4)) (mC (.int 1))) (mVar 9)) (mBin mulD (mVar 8) (mVar 4)))))) ((mIfS (mOr (mB (mBin isD (mVar 6) (mC .none))) (mB (mBin ltD (mVar 10) (mBin ixD (mVar 6) (mC (.int 0)))))) (mAsg 6 (mTup (aV (mVar 10) (aV (mVar 7) aNil)))) mNx))) mNx) _ = _
  by_cases P0 : P = 0
  · subst P0
    have z : eqsD (.int ((0 : Nat) : Int)) (.int 0) = some (.val (.bool true)) := by rw [q]; rfl
    refine ⟨some ⟨.val, .int 0⟩, .inr ⟨_, rfl⟩, ?_⟩
    rw [if_yes (be_zero z), seq_nx (be_l0 h10 z)]
    cases b with
    | none =>
      have := be_none (sd := sd) (md := md) (xs := cD cs) (fnd := fnd) (P := ((0 : Nat) : Int)) (m := (m : Nat)) (i := (i : Nat)) (n := (n : Nat)) (u := (u : Nat)) (l := 0)
      simpa [bE] using this
    | some x =>
      obtain ⟨e, j⟩ := x
      have := be_some (sd := sd) (md := md) (xs := cD cs) (fnd := fnd) (P := ((0 : Nat) : Int)) (m := (m : Nat)) (i := (i : Nat)) (n := (n : Nat)) (u := (u : Nat)) (l := 0) (e := (e : Nat)) (j := (j : Nat))
      rw [show bE (some (e, j)) = .tuple [.int (e : Nat), .int (j : Nat)] from rfl, this]
      by_cases c3 : 0 < e
      · have c4 : (0 : Int) < ((e : Nat) : Int) := by omega
        simp [c3, c4, bE]
      · have c4 : ¬ (0 : Int) < ((e : Nat) : Int) := by omega
        simp [c3, c4, bE]
  · have z : eqsD (.int ((P : Nat) : Int)) (.int 0) = some (.val (.bool false)) := by
      rw [q, decide_eq_false (by omega)]
    have nP : 0 < n * P := Nat.mul_pos n0 (by omega)
    have bnP : n * P < 2 ^ 100 := by
      have : n * P ≤ 2 ^ 60 * 2 ^ 30 := Nat.mul_le_mul (by omega) (by omega)
      omega
    have dv : divOk (((n : Nat) : Int) * ((P : Nat) : Int)) = true := by
      rw [← Int.natCast_mul]
      exact divOk_of (k := 100) (by omega) (by omega) (by decide)
    have g1 : (((c : Nat) : Int) * ((P : Nat) : Int) + 1) * ((u : Nat) : Int) ≤ (((m : Nat) : Int) + 1) * ((n : Nat) : Int) * ((P : Nat) : Int) ↔ (c * P + 1) * u ≤ (m + 1) * n * P := by
      rw [show ((m : Nat) : Int) + 1 = ((m + 1 : Nat) : Int) by omega, ← Int.natCast_mul, show ((c * P : Nat) : Int) + 1 = ((c * P + 1 : Nat) : Int) by omega, ← Int.natCast_mul, ← Int.natCast_mul, ← Int.natCast_mul]
      omega
    have dq : ((((c : Nat) : Int) + 1) * ((P : Nat) : Int) - 1) * ((u : Nat) : Int) = ((((c + 1) * P - 1) * u : Nat) : Int) := by
      have : 0 < (c + 1) * P := Nat.mul_pos (by omega) (by omega)
      rw [Int.natCast_mul, show (((c + 1) * P - 1 : Nat) : Int) = (((c + 1) * P : Nat) : Int) - 1 by omega, Int.natCast_mul, show ((c + 1 : Nat) : Int) = ((c : Nat) : Int) + 1 by omega]
    have dl : (((((c : Nat) : Int) + 1) * ((P : Nat) : Int) - 1) * ((u : Nat) : Int)).fdiv (((n : Nat) : Int) * ((P : Nat) : Int)) = ((((c + 1) * P - 1) * u / (n * P) : Nat) : Int) := by
      rw [dq, ← Int.natCast_mul, fdiv_nat]
    rw [if_neg P0, decide_eq_false P0, Bool.false_or]
    generalize ((c + 1) * P - 1) * u / (n * P) = l at dl ⊢
    by_cases c1 : (c * P + 1) * u ≤ (m + 1) * n * P
    · rw [decide_eq_true c1]
      refine ⟨some ⟨.val, .int (l : Nat)⟩, .inr ⟨_, rfl⟩, ?_⟩
      have e1 := be_l1 (sd := sd) (md := md) (xs := cD cs) (fnd := fnd) (P := (P : Nat)) (m := (m : Nat)) (b := bE b) (i := (i : Nat)) (n := (n : Nat)) (u := (u : Nat)) h10 ix z m5 m6 m7 dv
      rw [dl] at e1
      rw [if_yes (be_yes ix z m1 m2 m3 m4 (g1.mpr c1)), seq_nx e1]
      cases b with
      | none =>
        have := be_none (sd := sd) (md := md) (xs := cD cs) (fnd := fnd) (P := (P : Nat)) (m := (m : Nat)) (i := (i : Nat)) (n := (n : Nat)) (u := (u : Nat)) (l := (l : Nat))
        simpa [bE] using this
      | some x =>
        obtain ⟨e, j⟩ := x
        have := be_some (sd := sd) (md := md) (xs := cD cs) (fnd := fnd) (P := (P : Nat)) (m := (m : Nat)) (i := (i : Nat)) (n := (n : Nat)) (u := (u : Nat)) (l := (l : Nat)) (e := (e : Nat)) (j := (j : Nat))
        rw [show bE (some (e, j)) = .tuple [.int (e : Nat), .int (j : Nat)] from rfl, this]
        by_cases c3 : l < e
        · have c4 : ((l : Nat) : Int) < ((e : Nat) : Int) := by omega
          simp [c3, c4, bE]
        · have c4 : ¬ ((l : Nat) : Int) < ((e : Nat) : Int) := by omega
          simp [c3, c4, bE]
    · rw [decide_eq_false c1]
      refine ⟨s10, h10, ?_⟩
      rw [if_no (be_no ix z m1 m2 m3 m4 fun q => c1 (g1.mp q))]
      simp [mNx, Mi.ret]
end K83

namespace K83
open PySem L2 Evl PySem.Spec Mi

theorem foldI_ix {α S : Type} {f : Nat → α → S → S} (I : Nat → S → Prop) : ∀ (xs : List α) (k : Nat) (s : S), I k s → (∀ i x s, xs[i]? = some x → I (k + i) s → I (k + i + 1) (f (k + i) x s)) → I (k + xs.length) (foldI f xs k s)
  | [], k, s, h, _ => h
  | x :: xs, k, s, h, st => by
    unfold foldI
    have h1 := st 0 x s rfl h
    have := foldI_ix I xs (k + 1) (f k x s) h1 fun i y s hy hs => by
      have := st (i + 1) y s (by simpa using hy) (by rw [show k + (i + 1) = k + 1 + i by omega]; exact hs)
      rw [show k + (i + 1) = k + 1 + i by omega] at this
      exact this
    rw [List.length_cons, show k + (xs.length + 1) = k + 1 + xs.length by omega]
    exact this
def bestE (ss : List (Nat × Nat)) (cs : List Nat) (m P : Nat) : Option (Nat × Nat) := foldI (stE cs m P) ss 0 none
theorem bestE_spec {ss : List (Nat × Nat)} {cs : List Nat} {m P : Nat} : (∀ (j : Nat) (p : Nat × Nat), ss[j]? = some p → eE p (cs.getD j 0) m P = true → ∃ x, bestE ss cs m P = some x ∧ x.1 ≤ lE p (cs.getD j 0) P) ∧ (∀ x, bestE ss cs m P = some x → ∃ p, ss[x.2]? = some p ∧ eE p (cs.getD x.2 0) m P = true ∧ x.1 = lE p (cs.getD x.2 0) P) := by
  have := foldI_ix (f := stE cs m P) (fun k s => (∀ (j : Nat) (p : Nat × Nat), j < k → ss[j]? = some p → eE p (cs.getD j 0) m P = true → ∃ x, s = some x ∧ x.1 ≤ lE p (cs.getD j 0) P) ∧ (∀ x, s = some x → ∃ p, ss[x.2]? = some p ∧ eE p (cs.getD x.2 0) m P = true ∧ x.1 = lE p (cs.getD x.2 0) P)) ss 0 none
    ⟨fun j p h => absurd h (by omega), fun x h => by cases h⟩ (by
    intro i p s hp ⟨h1, h2⟩
    rw [Nat.zero_add] at h1 ⊢
    unfold stE
    by_cases c : eE p (cs.getD i 0) m P = true
    · simp only [c, Bool.true_and]
      cases s with
      | none =>
        simp only [if_true]
        refine ⟨fun j q hj hq he => ?_, fun x hx => ?_⟩
        · by_cases ej : j = i
          · subst ej
            rw [hp] at hq
            cases hq
            exact ⟨_, rfl, Nat.le_refl _⟩
          · obtain ⟨x, hx, _⟩ := h1 j q (by omega) hq he
            cases hx
        · cases hx
          exact ⟨p, hp, c, rfl⟩
      | some b =>
        dsimp only
        by_cases lt : lE p (cs.getD i 0) P < b.1
        · simp only [decide_eq_true lt, if_true]
          refine ⟨fun j q hj hq he => ?_, fun x hx => ?_⟩
          · by_cases ej : j = i
            · subst ej
              rw [hp] at hq
              cases hq
              exact ⟨_, rfl, Nat.le_refl _⟩
            · obtain ⟨x, hx, hl⟩ := h1 j q (by omega) hq he
              cases hx
              exact ⟨_, rfl, by show lE p (cs.getD i 0) P ≤ _; omega⟩
          · cases hx
            exact ⟨p, hp, c, rfl⟩
        · simp only [decide_eq_false lt, Bool.false_eq_true, if_false]
          refine ⟨fun j q hj hq he => ?_, h2⟩
          by_cases ej : j = i
          · subst ej
            rw [hp] at hq
            cases hq
            exact ⟨_, rfl, by omega⟩
          · exact h1 j q (by omega) hq he
    · simp only [Bool.eq_false_iff.mpr c, Bool.false_and, Bool.false_eq_true, if_false]
      refine ⟨fun j q hj hq he => ?_, h2⟩
      by_cases ej : j = i
      · subst ej
        rw [hp] at hq
        cases hq
        exact absurd he c
      · exact h1 j q (by omega) hq he)
  refine ⟨fun j p hp he => this.1 j p ?_ hp he, this.2⟩
  rw [Nat.zero_add]
  exact (List.getElem?_eq_some_iff.mp hp).1
/-! ### in numbers of the whole -/
theorem sh_le {S q A B : Nat} (hq : 0 < q) (hS : 0 < S) : A * (shO S q).1 ≤ B * (shO S q).2 ↔ A * q ≤ B * S := by
  have rel := shO_rel (S := S) (q := q) hS
  have u0 : 0 < (shO S q).2 := Nat.pos_of_dvd_of_pos shO_dvd hS
  generalize (shO S q).1 = n at rel ⊢
  generalize (shO S q).2 = u at rel u0 ⊢
  have e1 : A * n * S = A * q * u := by rw [Nat.mul_assoc, rel, Nat.mul_assoc]
  have e2 : B * u * S = B * S * u := by ac_rfl
  constructor
  · intro h
    have := Nat.mul_le_mul_right S h
    rw [e1, e2] at this
    exact Nat.le_of_mul_le_mul_right this u0
  · intro h
    have := Nat.mul_le_mul_right u h
    rw [← e1, ← e2] at this
    exact Nat.le_of_mul_le_mul_right this hS
theorem sh_ge {S q A B : Nat} (hq : 0 < q) (hS : 0 < S) : B * (shO S q).2 ≤ A * (shO S q).1 ↔ B * S ≤ A * q := by
  have rel := shO_rel (S := S) (q := q) hS
  have u0 : 0 < (shO S q).2 := Nat.pos_of_dvd_of_pos shO_dvd hS
  generalize (shO S q).1 = n at rel ⊢
  generalize (shO S q).2 = u at rel u0 ⊢
  have e1 : A * n * S = A * q * u := by rw [Nat.mul_assoc, rel, Nat.mul_assoc]
  have e2 : B * u * S = B * S * u := by ac_rfl
  constructor
  · intro h
    have := Nat.mul_le_mul_right S h
    rw [e1, e2] at this
    exact Nat.le_of_mul_le_mul_right this u0
  · intro h
    have := Nat.mul_le_mul_right u h
    rw [← e1, ← e2] at this
    exact Nat.le_of_mul_le_mul_right this hS
def pP (ps : List Nat) : Nat := 2 * ps.length - 2
section
variable {ps : List Nat} {cs : List Nat} {m : Nat}
theorem sh_at (h : Parts ps) {j : Nat} {p : Nat × Nat} (hp : (shs ps)[j]? = some p) : j < ps.length ∧ p = shO ps.sum (ps.getD j 0) ∧ 0 < ps.getD j 0 := by
  have hj := (List.getElem?_eq_some_iff.mp hp).1
  rw [h.len] at hj
  unfold shs at hp
  rw [List.getElem?_map, List.getElem?_eq_getElem hj] at hp
  cases hp
  have e : ps.getD j 0 = ps[j] := by rw [List.getD_eq_getElem?_getD, List.getElem?_eq_getElem hj]; rfl
  refine ⟨hj, by rw [e], ?_⟩
  rw [e]
  exact h.pos _ (List.getElem_mem hj)
theorem at_sh (h : Parts ps) {j : Nat} (hj : j < ps.length) : (shs ps)[j]? = some (shO ps.sum (ps.getD j 0)) := by
  unfold shs
  rw [List.getElem?_map, List.getElem?_eq_getElem hj]
  rw [List.getD_eq_getElem?_getD, List.getElem?_eq_getElem hj]
  rfl
theorem el_iff (h : Parts ps) (n2 : 2 ≤ ps.length) {q c : Nat} (hq : 0 < q) : eE (shO ps.sum q) c m (pP ps) = true ↔ c * (pP ps * ps.sum) + ps.sum ≤ (m + 1) * (q * pP ps) := by
  have P0 : ¬ pP ps = 0 := by unfold pP; omega
  unfold eE
  rw [decide_eq_false P0, Bool.false_or, decide_eq_true_iff]
  have := sh_ge (S := ps.sum) (q := q) (A := (m + 1) * pP ps) (B := c * pP ps + 1) hq h.s0
  generalize pP ps = P at this ⊢
  generalize (shO ps.sum q).1 = n at this ⊢
  generalize (shO ps.sum q).2 = u at this ⊢
  generalize ps.sum = S at this ⊢
  have e1 : (m + 1) * n * P = (m + 1) * P * n := by ac_rfl
  have e2 : (m + 1) * (q * P) = (m + 1) * P * q := by ac_rfl
  have e3 : c * (P * S) + S = (c * P + 1) * S := by rw [Nat.add_mul, Nat.one_mul, Nat.mul_assoc]
  rw [e1, e2, e3]
  exact this
end
end K83

namespace K83
open PySem L2 Evl PySem.Spec Mi

/-! ### the row of earliest ends -/
def evS (ss : List (Nat × Nat)) (P : Nat) : Nat → List Nat × List Nat
  | 0 => (zs ss.length, [])
  | k + 1 => match bestE ss (evS ss P k).1 k P with
    | some x => (inc (evS ss P k).1 x.2, (evS ss P k).2 ++ [x.2])
    | none => evS ss P k
theorem sm_head (f : Nat → Nat) : ∀ n, sm (n + 1) f = f 0 + sm n (fun i => f (i + 1))
  | 0 => by simp [sm]
  | n + 1 => by
    have := sm_head f n
    show sm (n + 1) f + f (n + 1) = f 0 + (sm n (fun i => f (i + 1)) + f (n + 1))
    omega
theorem sm_list : ∀ cs : List Nat, sm cs.length (fun i => cs.getD i 0) = cs.sum
  | [] => rfl
  | c :: cs => by
    rw [List.length_cons, sm_head, List.sum_cons, ← sm_list cs]
    rfl
section
variable {ps : List Nat}
theorem l_iff (h : Parts ps) (n2 : 2 ≤ ps.length) {q c m : Nat} (hq : 0 < q) : lE (shO ps.sum q) c (pP ps) < m ↔ (c + 1) * (pP ps * ps.sum) < m * (q * pP ps) + ps.sum := by
  have P0 : ¬ pP ps = 0 := by unfold pP; omega
  have o0 : 0 < (shO ps.sum q).1 := Nat.div_pos (Nat.le_of_dvd hq (Nat.gcd_dvd_left _ _)) (Nat.gcd_pos_of_pos_left _ hq)
  have S0 := h.s0
  unfold lE
  rw [if_neg P0, Nat.div_lt_iff_lt_mul (Nat.mul_pos o0 (by omega))]
  have := sh_le (S := ps.sum) (q := q) (A := m * pP ps) (B := (c + 1) * pP ps - 1) hq S0
  generalize pP ps = P at this P0 ⊢
  generalize (shO ps.sum q).1 = n at this ⊢
  generalize (shO ps.sum q).2 = u at this ⊢
  generalize ps.sum = S at this S0 ⊢
  have e1 : m * (n * P) = m * P * n := by ac_rfl
  have e2 : m * (q * P) = m * P * q := by ac_rfl
  have p1 : 1 ≤ (c + 1) * P := Nat.mul_pos (by omega) (by omega)
  have e3 : (c + 1) * (P * S) = ((c + 1) * P - 1) * S + S := by
    rw [← Nat.mul_assoc, Nat.sub_mul, Nat.one_mul]
    have : 1 * S ≤ (c + 1) * P * S := Nat.mul_le_mul_right _ p1
    omega
  rw [e1, e2, e3]
  omega
theorem parts_sm (h : Parts ps) : sm ps.length (fun i => ps.getD i 0) = ps.sum := sm_list ps
/-- some share may come -/
theorem some_el (h : Parts ps) {cs : List Nat} {m : Nat} (hl : cs.length = ps.length) (hs : cs.sum = m) : ∃ x, bestE (shs ps) cs m (pP ps) = some x ∧ x.2 < ps.length := by
  have fin : (∃ (j : Nat) (p : Nat × Nat), (shs ps)[j]? = some p ∧ eE p (cs.getD j 0) m (pP ps) = true) → ∃ x, bestE (shs ps) cs m (pP ps) = some x ∧ x.2 < ps.length := fun ⟨j, p, hp, he⟩ => by
    obtain ⟨x, hx, _⟩ := (bestE_spec (ss := shs ps) (cs := cs) (m := m) (P := pP ps)).1 j p hp he
    obtain ⟨p', hp', _⟩ := (bestE_spec (ss := shs ps) (cs := cs) (m := m) (P := pP ps)).2 x hx
    exact ⟨x, hx, (sh_at h hp').1⟩
  by_cases n2 : 2 ≤ ps.length
  · refine fin (Classical.byContradiction fun no => ?_)
    have le := sm_le (n := ps.length) (f := fun i => ps.getD i 0 * ((m + 1) * pP ps) + 1) (g := fun i => cs.getD i 0 * (pP ps * ps.sum) + ps.sum) fun i hi => by
      have q0 := (sh_at h (at_sh h hi)).2.2
      have : ¬ eE (shO ps.sum (ps.getD i 0)) (cs.getD i 0) m (pP ps) = true := fun z => no ⟨i, _, at_sh h hi, z⟩
      rw [el_iff h n2 q0] at this
      show ps.getD i 0 * ((m + 1) * pP ps) + 1 ≤ cs.getD i 0 * (pP ps * ps.sum) + ps.sum
      rw [show ps.getD i 0 * ((m + 1) * pP ps) = (m + 1) * (ps.getD i 0 * pP ps) by ac_rfl]
      omega
    rw [sm_add, sm_add, sm_mul, sm_mul, sm_const, sm_const, parts_sm h, ← hl, sm_list, hs, hl] at le
    have S0 := h.s0
    have e1 : ps.sum * ((m + 1) * pP ps) = m * (pP ps * ps.sum) + pP ps * ps.sum := by
      rw [show ps.sum * ((m + 1) * pP ps) = (m + 1) * (pP ps * ps.sum) by ac_rfl, Nat.add_mul, Nat.one_mul]
    have e2 : ps.length * ps.sum ≤ pP ps * ps.sum := Nat.mul_le_mul_right _ (by unfold pP; omega)
    have l1 := h.l1
    omega
  · have l1 := h.l1
    have P0 : pP ps = 0 := by unfold pP; omega
    refine fin ⟨0, _, at_sh h (by omega), ?_⟩
    unfold eE
    rw [P0]
    rfl
theorem evS_ok (h : Parts ps) : ∀ k, k < 2 ^ 30 → CsOk (shs ps) (evS (shs ps) (pP ps) k).1 k ∧ (evS (shs ps) (pP ps) k).1.sum = k ∧ (evS (shs ps) (pP ps) k).2.length = k ∧ (∀ l ∈ (evS (shs ps) (pP ps) k).2, l < (shs ps).length)
  | 0, _ => ⟨zs_ok (shs_len h), by unfold evS zs; simp, rfl, fun l hl => by cases hl⟩
  | k + 1, hk => by
    obtain ⟨h1, h2, h3, h4⟩ := evS_ok h k (by omega)
    obtain ⟨x, hx, hl⟩ := some_el h (by rw [h1.len, h.len]) h2
    unfold evS
    rw [hx]
    dsimp only
    refine ⟨h1.step _ hk, by rw [sum_inc _ _ (by rw [h1.len, h.len]; exact hl), h2], by rw [List.length_append, h3]; rfl, fun l q => ?_⟩
    rcases List.mem_append.mp q with q | q
    · exact h4 l q
    · rw [List.mem_singleton.mp q, h.len]; exact hl
theorem evS_run (h : Parts ps) (n2 : 2 ≤ ps.length) {N : Nat} (hN : N < 2 ^ 30) : Run ps.length ps.sum (pP ps) (fun i => ps.getD i 0) N (fun t i => (evS (shs ps) (pP ps) t).1.getD i 0) (fun t => ((bestE (shs ps) (evS (shs ps) (pP ps) t).1 t (pP ps)).getD (0, 0)).2) where
  n2 := n2
  pn := rfl
  s0 := h.s0
  sq := parts_sm h
  z := fun i => by
    show (zs _).getD i 0 = 0
    unfold zs
    rw [List.getD_eq_getElem?_getD, List.getElem?_replicate]
    split <;> rfl
  st := fun t ht i => by
    obtain ⟨h1, h2, h3, h4⟩ := evS_ok h t (by omega)
    obtain ⟨x, hx, hl⟩ := some_el h (by rw [h1.len, h.len]) h2
    show (evS (shs ps) (pP ps) (t + 1)).1.getD i 0 = _
    rw [evS, hx]
    dsimp only [Option.getD]
    generalize (evS (shs ps) (pP ps) t).1 = cs at h1 ⊢
    have lc : cs.length = ps.length := by rw [h1.len, h.len]
    by_cases hi : i < cs.length
    · rw [inc_get hi]
      by_cases e : i = x.2
      · rw [if_pos e.symm, if_pos e]
      · rw [if_neg (Ne.symm e), if_neg e, Nat.add_zero]
    · rw [if_neg (by omega), Nat.add_zero, List.getD_eq_getElem?_getD, List.getElem?_eq_none (by rw [inc_len]; omega), List.getD_eq_getElem?_getD, List.getElem?_eq_none (by omega)]
  ln := fun t ht => by
    obtain ⟨h1, h2, h3, h4⟩ := evS_ok h t (by omega)
    obtain ⟨x, hx, hl⟩ := some_el h (by rw [h1.len, h.len]) h2
    show ((bestE _ _ _ _).getD (0, 0)).2 < _
    rw [hx]
    exact hl
  el := fun t ht => by
    obtain ⟨h1, h2, h3, h4⟩ := evS_ok h t (by omega)
    obtain ⟨x, hx, hl⟩ := some_el h (by rw [h1.len, h.len]) h2
    obtain ⟨p, hp, he, _⟩ := bestE_spec.2 x hx
    obtain ⟨_, rfl, q0⟩ := sh_at h hp
    rw [hx]
    exact (el_iff h n2 q0).mp he
  ed := fun t ht j hj he m hm => by
    obtain ⟨h1, h2, h3, h4⟩ := evS_ok h t (by omega)
    obtain ⟨x, hx, hl⟩ := some_el h (by rw [h1.len, h.len]) h2
    obtain ⟨p, hp, _, hle⟩ := bestE_spec.2 x hx
    obtain ⟨_, rfl, q0⟩ := sh_at h hp
    have q1 := (sh_at h (at_sh h hj)).2.2
    obtain ⟨x', hx', le⟩ := bestE_spec.1 j _ (at_sh h hj) ((el_iff h n2 q1).mpr he)
    rw [hx] at hx'
    cases hx'
    have := (l_iff h n2 q1).mpr hm
    rw [hx]
    refine (l_iff h n2 q0).mp ?_
    show lE (shO ps.sum (ps.getD x.2 0)) ((evS (shs ps) (pP ps) t).1.getD x.2 0) (pP ps) < m
    rw [← hle]
    omega
end
end K83

namespace K83
open PySem L2 Evl PySem.Spec Mi

def iV (i : Int) : Option Slot := some ⟨.val, .int i⟩
def rEv (sd md : D) (xs fnd : List D) (P : Int) (s5 s6 s7 s8 s9 s10 : Option Slot) : R := [some ⟨.val, sd⟩, some ⟨.val, md⟩, some ⟨.own, .list xs⟩, some ⟨.own, .list fnd⟩, some ⟨.val, .int P⟩, s5, s6, s7, s8, s9, s10]
theorem e_g {sd md b : D} {xs fnd : List D} {P m i n u : Int} {s7 s8 s9 s10 : Option Slot} (h7 : Vl s7) (h8 : Vl s8) (h9 : Vl s9) : ((gT 2 (gsCons (gN 7) (gsCons (gT 2 (gsCons (gN 8) (gsCons (gN 9) gsNil))) gsNil)))) (.tuple [.int i, .tuple [.int n, .int u]]) (rEv sd md xs fnd P (iV m) (some ⟨.val, b⟩) s7 s8 s9 s10) = some (.ok (), rE sd md xs fnd P m b i n u s10) := by
  unfold rEv rE iV
  rcases h7 with rfl | ⟨t, rfl⟩ <;> rcases h8 with rfl | ⟨t, rfl⟩ <;> rcases h9 with rfl | ⟨t, rfl⟩ <;> simp [gT, gsCons, gsNil, gN, mStore, okSet, mkFn, isListAt, slots, slot0, mSeq, mAsg, mRet, mIfS, mDrop, mB, bnd, Mi.ret, thaw, thawR, mVal, valR, mVar, mC, mBin, mUn, op1, op2, look, opN, lookAll, mCall, aT, aV, aNil, mStore, okSet, isT, asB, mTup, mLst, valsOf, mNx, outIo, retR, Md.isOwn, Md.isIo, Md.isLk, fI, mIf, mAnd, mOr, mNot, mAndV, mOrV, mChain, mPar, mPar3, mF, mFk, callF, callIo, putIo, freezeBy, flatD, flatAll, flatY, mayGive, notSlot, gath, mAsgG, gT, gsCons, gsNil, gIx, gN, setIx, mSetIx, ownAt, mApp, appTo, mIsi, isiD, isK, kinds, tyD, mSl, mPart, mNoPart, asInt, slD, cutD, lenD, absD, max2D, min2D, gcdD, lcmD, intD, listD, tupleD, allD, boolsOf, divmodD, addD, subD, mulD, fdivD, modD, powD, ltD, leD, gtD, geD, isD, isntD, negD, notD, ixD, revD, atI, ixN, isNone, sizeLine, eqsD, nesD, eqD, neD, inD, inT, inL, mMt, mtS, startsD, findD, fmtD, mJs, strD, mFT, callT, mPar3O, mParO, noSlot]
theorem e_in {ss : List (Nat × Nat)} {md : D} {cs : List Nat} {fnd : List D} {m P : Nat} {s7 s8 s9 s10 : Option Slot} (h : ∀ p ∈ ss, One p) (k : CsOk ss cs m) (hP : P < 2 ^ 30) (h7 : Vl s7) (h8 : Vl s8) (h9 : Vl s9) (h10 : Vl s10) :
    ∃ s7' s8' s9' s10', Vl s7' ∧ Vl s8' ∧ Vl s9' ∧ Vl s10' ∧
      ((mFor (chk (mEnum (mVar 0))) (gT 2 (gsCons (gN 7) (gsCons (gT 2 (gsCons (gN 8) (gsCons (gN 9) gsNil))) gsNil))) (mIfS (mOr (mB (mBin eqsD (mVar 4) (mC (.int 0)))) (mB (mBin leD (mBin mulD (mBin addD (mBin mulD (mBin ixD (mVar 2) (mVar 7)) (mVar 4)) (mC (.int 1))) (mVar 9)) (mBin mulD (mBin mulD (mBin addD (mVar 5) (mC (.int 1))) (mVar 8)) (mVar 4))))) (mSeq (mAsg 10 (mIf (mB (mBin eqsD (mVar 4) (mC (.int 0)))) (mC (.int 0)) (mBin fdivD (mBin mulD (mBin subD (mBin mulD (mBin addD (mBin ixD (mVar 2) (mVar 7)) (mC (.int 1))) (mVar 4)) (mC (.int 1))) (mVar 9)) (mBin mulD (mVar 8) (mVar 4))))) (mIfS (mOr (mB (mBin isD (mVar 6) (mC .none))) (mB (mBin ltD (mVar 10) (mBin ixD (mVar 6) (mC (.int 0)))))) (mAsg 6 (mTup (aV (mVar 10) (aV (mVar 7) aNil)))) mNx)) mNx))) (rEv (sD ss) md (cD cs) fnd (P : Nat) (iV (m : Nat)) (some ⟨.val, .none⟩) s7 s8 s9 s10) = some (.ok .nx, rEv (sD ss) md (cD cs) fnd (P : Nat) (iV (m : Nat)) (some ⟨.val, bE (bestE ss cs m P)⟩) s7' s8' s9' s10') := by
  obtain ⟨ρ', e, s7', s8', s9', s10', q7, q8, q9, q10, hρ⟩ := loopF_fold (g := (gT 2 (gsCons (gN 7) (gsCons (gT 2 (gsCons (gN 8) (gsCons (gN 9) gsNil))) gsNil)))) (b := (mIfS (mOr (mB (mBin eqsD (mVar 4) (mC (.int 0)))) (mB (mBin leD (mBin mulD (mBin addD (mBin mulD (mBin ixD (mVar 2) (mVar 7)) (mVar 4)) (mC (.int 1))) (mVar 9)) (mBin mulD (mBin mulD (mBin addD (mVar 5) (mC (.int 1))) (mVar 8)) (mVar 4))))) (mSeq (mAsg 10 (mIf (mB (mBin eqsD (mVar 4) (mC (.int 0)))) (mC (.int 0)) (mBin fdivD (mBin mulD (mBin subD (mBin mulD (mBin addD (mBin ixD (mVar 2) (mVar 7)) (mC (.int 1))) (mVar 4)) (mC (.int 1))) (mVar 9)) (mBin mulD (mVar 8) (mVar 4))))) (mIfS (mOr (mB (mBin isD (mVar 6) (mC .none))) (mB (mBin ltD (mVar 10) (mBin ixD (mVar 6) (mC (.int 0)))))) (mAsg 6 (mTup (aV (mVar 10) (aV (mVar 7) aNil)))) mNx)) mNx)) (d := fun k (x : Nat × Nat) => .tuple [.int (k : Nat), pD x]) (f := stE cs m P)
    (fun b ρ => ∃ s7 s8 s9 s10, Vl s7 ∧ Vl s8 ∧ Vl s9 ∧ Vl s10 ∧ ρ = rEv (sD ss) md (cD cs) fnd (P : Nat) (iV (m : Nat)) (some ⟨.val, bE b⟩) s7 s8 s9 s10) ss 0 none
    (rEv (sD ss) md (cD cs) fnd (P : Nat) (iV (m : Nat)) (some ⟨.val, .none⟩) s7 s8 s9 s10) ⟨s7, s8, s9, s10, h7, h8, h9, h10, rfl⟩ (by
    intro i p b ρ hp ⟨s7, s8, s9, s10, h7, h8, h9, h10, hρ⟩
    subst hρ
    rw [Nat.zero_add]
    have hi := (List.getElem?_eq_some_iff.mp hp).1
    have hm := k.m
    obtain ⟨s10', q10, e⟩ := e_body (sd := sD ss) (md := md) (cs := cs) (fnd := fnd) (m := m) (i := i) (P := P) (p := p) (b := b) (s10 := s10) (h p (List.mem_of_getElem? hp)) (by rw [k.len]; exact hi) (Nat.lt_of_le_of_lt (getD_le k.le i) hm) hm hP h10
    exact ⟨_, _, e_g h7 h8 h9, e, _, _, _, s10', .inr ⟨_, rfl⟩, .inr ⟨_, rfl⟩, .inr ⟨_, rfl⟩, q10, rfl⟩)
  subst hρ
  refine ⟨s7', s8', s9', s10', q7, q8, q9, q10, ?_⟩
  refine for_run (ρ1 := rEv (sD ss) md (cD cs) fnd (P : Nat) (iV (m : Nat)) (some ⟨.val, .none⟩) s7 s8 s9 s10) (ds := enumL 0 (ss.map pD)) ?_ ?_
  · unfold rEv
    simp [mEnum, mItL, iterL, iterD, mkFn, isListAt, slots, slot0, mSeq, mAsg, mRet, mIfS, mDrop, mB, bnd, Mi.ret, thaw, thawR, mVal, valR, mVar, mC, mBin, mUn, op1, op2, look, opN, lookAll, mCall, aT, aV, aNil, mStore, okSet, isT, asB, mTup, mLst, valsOf, mNx, outIo, retR, Md.isOwn, Md.isIo, Md.isLk, fI, mIf, mAnd, mOr, mNot, mAndV, mOrV, mChain, mPar, mPar3, mF, mFk, callF, callIo, putIo, freezeBy, flatD, flatAll, flatY, mayGive, notSlot, gath, mAsgG, gT, gsCons, gsNil, gIx, gN, setIx, mSetIx, ownAt, mApp, appTo, mIsi, isiD, isK, kinds, tyD, mSl, mPart, mNoPart, asInt, slD, cutD, lenD, absD, max2D, min2D, gcdD, lcmD, intD, listD, tupleD, allD, boolsOf, divmodD, addD, subD, mulD, fdivD, modD, powD, ltD, leD, gtD, geD, isD, isntD, negD, notD, ixD, revD, atI, ixN, isNone, sizeLine, eqsD, nesD, eqD, neD, inD, inT, inL, mMt, mtS, startsD, findD, fmtD, mJs, strD, mFT, callT, mPar3O, mParO, noSlot]
  · rw [items_enum]
    exact e
theorem e_tail {sd md : D} {cs row : List Nat} {P : Int} {s5 s7 s8 s9 s10 : Option Slot} {e i : Nat} (hi : i < cs.length) (hf : row.length < 5000) : ((mSeq (mSetIx 2 (mBin ixD (mVar 6) (mC (.int 1))) (mBin addD (mBin ixD (mVar 2) (mBin ixD (mVar 6) (mC (.int 1)))) (mC (.int 1)))) (mApp 3 (mBin ixD (mVar 6) (mC (.int 1)))))) (rEv sd md (cD cs) (ri row) P s5 (some ⟨.val, bE (some (e, i))⟩) s7 s8 s9 s10) = some (.ok .nx, rEv sd md (cD (inc cs i)) (ri (row ++ [i])) P s5 (some ⟨.val, bE (some (e, i))⟩) s7 s8 s9 s10) := by
  have g := cD_get hi
  have ix := ixD_list g
  have nn : ixN (cD cs).length ((i : Nat) : Int) = some i := ixN_nat (by rw [cD_len]; exact hi)
  have s := cD_set cs i
  have ixb : ixD (.tuple [.int (e : Nat), .int (i : Nat)]) (.int 1) = some (.val (.int (i : Nat))) := ixD_tup (i := 1) rfl
  have er : ri (row ++ [i]) = ri row ++ [.int (i : Nat)] := by simp [ri]
  have hl : (ri row).length < 16777216 := by rw [List.length_map]; omega
  rw [er]
  unfold rEv bE
  dsimp only
  generalize ri row = fnd at hl ⊢
  generalize cD (inc cs i) = ys at s ⊢
  generalize cD cs = xs at ix nn s ⊢
  generalize cs.getD i 0 = c at ix s
  clear g hi
  simp [mSetIx, setIx, ownAt, mApp, appTo, ix, ixb, nn, s, hl, mkFn, isListAt, slots, slot0, mSeq, mAsg, mRet, mIfS, mDrop, mB, bnd, Mi.ret, thaw, thawR, mVal, valR, mVar, mC, mBin, mUn, op1, op2, look, opN, lookAll, mCall, aT, aV, aNil, mStore, okSet, isT, asB, mTup, mLst, valsOf, mNx, outIo, retR, Md.isOwn, Md.isIo, Md.isLk, fI, mIf, mAnd, mOr, mNot, mAndV, mOrV, mChain, mPar, mPar3, mF, mFk, callF, callIo, putIo, freezeBy, flatD, flatAll, flatY, mayGive, notSlot, gath, mAsgG, gT, gsCons, gsNil, gIx, gN, setIx, mSetIx, ownAt, mApp, appTo, mIsi, isiD, isK, kinds, tyD, mSl, mPart, mNoPart, asInt, slD, cutD, lenD, absD, max2D, min2D, gcdD, lcmD, intD, listD, tupleD, allD, boolsOf, divmodD, addD, subD, mulD, fdivD, modD, powD, leD, gtD, geD, isD, isntD, negD, notD, revD, isNone, sizeLine, mMt, mtS, startsD, findD, fmtD, mJs, strD, mFT, callT, mPar3O, mParO, noSlot]
theorem e_none {sd md : D} {xs fnd : List D} {P : Int} {s5 s6 s7 s8 s9 s10 : Option Slot} (h6 : Vl s6) : ((mAsg 6 (mC .none))) (rEv sd md xs fnd P s5 s6 s7 s8 s9 s10) = some (.ok .nx, rEv sd md xs fnd P s5 (some ⟨.val, .none⟩) s7 s8 s9 s10) := by
  unfold rEv
  rcases h6 with rfl | ⟨t, rfl⟩ <;> simp [mkFn, isListAt, slots, slot0, mSeq, mAsg, mRet, mIfS, mDrop, mB, bnd, Mi.ret, thaw, thawR, mVal, valR, mVar, mC, mBin, mUn, op1, op2, look, opN, lookAll, mCall, aT, aV, aNil, mStore, okSet, isT, asB, mTup, mLst, valsOf, mNx, outIo, retR, Md.isOwn, Md.isIo, Md.isLk, fI, mIf, mAnd, mOr, mNot, mAndV, mOrV, mChain, mPar, mPar3, mF, mFk, callF, callIo, putIo, freezeBy, flatD, flatAll, flatY, mayGive, notSlot, gath, mAsgG, gT, gsCons, gsNil, gIx, gN, setIx, mSetIx, ownAt, mApp, appTo, mIsi, isiD, isK, kinds, tyD, mSl, mPart, mNoPart, asInt, slD, cutD, lenD, absD, max2D, min2D, gcdD, lcmD, intD, listD, tupleD, allD, boolsOf, divmodD, addD, subD, mulD, fdivD, modD, powD, leD, gtD, geD, isD, isntD, negD, notD, revD, isNone, sizeLine, mMt, mtS, startsD, findD, fmtD, mJs, strD, mFT, callT, mPar3O, mParO, noSlot]
theorem evS_step {ps : List Nat} (h : Parts ps) {k : Nat} (hk : k < 2 ^ 30) : ∃ e i, i < ps.length ∧ bestE (shs ps) (evS (shs ps) (pP ps) k).1 k (pP ps) = some (e, i) ∧ evS (shs ps) (pP ps) (k + 1) = (inc (evS (shs ps) (pP ps) k).1 i, (evS (shs ps) (pP ps) k).2 ++ [i]) := by
  obtain ⟨h1, h2, h3, h4⟩ := evS_ok h k hk
  obtain ⟨⟨e, i⟩, hx, hl⟩ := some_el h (by rw [h1.len, h.len]) h2
  refine ⟨e, i, hl, hx, ?_⟩
  rw [evS, hx]
theorem e_step {ps : List Nat} (h : Parts ps) {md : D} {k : Nat} {s6 s7 s8 s9 s10 : Option Slot} (hk : k < 4000) (h6 : Vl s6) (h7 : Vl s7) (h8 : Vl s8) (h9 : Vl s9) (h10 : Vl s10) :
    ∃ s6' s7' s8' s9' s10', Vl s6' ∧ Vl s7' ∧ Vl s8' ∧ Vl s9' ∧ Vl s10' ∧
      ((mSeq (mAsg 6 (mC .none)) (mSeq (mFor (chk (mEnum (mVar 0))) (gT 2 (gsCons (gN 7) (gsCons (gT 2 (gsCons (gN 8) (gsCons (gN 9) gsNil))) gsNil))) (mIfS (mOr (mB (mBin eqsD (mVar 4) (mC (.int 0)))) (mB (mBin leD (mBin mulD (mBin addD (mBin mulD (mBin ixD (mVar 2) (mVar 7)) (mVar 4)) (mC (.int 1))) (mVar 9)) (mBin mulD (mBin mulD (mBin addD (mVar 5) (mC (.int 1))) (mVar 8)) (mVar 4))))) (mSeq (mAsg 10 (mIf (mB (mBin eqsD (mVar 4) (mC (.int 0)))) (mC (.int 0)) (mBin fdivD (mBin mulD (mBin subD (mBin mulD (mBin addD (mBin ixD (mVar 2) (mVar 7)) (mC (.int 1))) (mVar 4)) (mC (.int 1))) (mVar 9)) (mBin mulD (mVar 8) (mVar 4))))) (mIfS (mOr (mB (mBin isD (mVar 6) (mC .none))) (mB (mBin ltD (mVar 10) (mBin ixD (mVar 6) (mC (.int 0)))))) (mAsg 6 (mTup (aV (mVar 10) (aV (mVar 7) aNil)))) mNx)) mNx)) (mSeq (mSetIx 2 (mBin ixD (mVar 6) (mC (.int 1))) (mBin addD (mBin ixD (mVar 2) (mBin ixD (mVar 6) (mC (.int 1)))) (mC (.int 1)))) (mApp 3 (mBin ixD (mVar 6) (mC (.int 1)))))))) (rEv (sD (shs ps)) md (cD (evS (shs ps) (pP ps) k).1) (ri (evS (shs ps) (pP ps) k).2) (pP ps : Nat) (iV (k : Nat)) s6 s7 s8 s9 s10) = some (.ok .nx, rEv (sD (shs ps)) md (cD (evS (shs ps) (pP ps) (k + 1)).1) (ri (evS (shs ps) (pP ps) (k + 1)).2) (pP ps : Nat) (iV (k : Nat)) s6' s7' s8' s9' s10') := by
  obtain ⟨h1, h2, h3, h4⟩ := evS_ok h k (by omega)
  obtain ⟨e, i, hi, hx, he⟩ := evS_step h (k := k) (by omega)
  have l2 := h.l2
  obtain ⟨s7', s8', s9', s10', q7, q8, q9, q10, e1⟩ := e_in (md := md) (fnd := ri (evS (shs ps) (pP ps) k).2) (P := pP ps) h.one h1 (by unfold pP; omega) h7 h8 h9 h10
  rw [hx] at e1
  refine ⟨some ⟨.val, bE (some (e, i))⟩, s7', s8', s9', s10', .inr ⟨_, rfl⟩, q7, q8, q9, q10, ?_⟩
  show mSeq _ (mSeq _ _) _ = _
  rw [seq_nx (e_none h6), seq_nx e1, he]
  exact e_tail (by rw [h1.len, h.len]; exact hi) (by rw [h3]; omega)
theorem e_a {sd md : D} {n : Int} {z : List D} (ln : lenD [sd] = some (.val (.int n))) (mz : mulD (.list [.int 0]) (.int n) = some (.fresh z)) (m2 : mulOk 2 n = true) : (mPar3O 2 3 4 (mBin mulD (mLst (aV (mC (.int 0)) aNil)) (mCall lenD (aT (mVar 0) aNil))) (mLst aNil) (mBin subD (mBin mulD (mC (.int 2)) (mCall lenD (aT (mVar 0) aNil))) (mC (.int 2)))) [some ⟨.val, sd⟩, some ⟨.val, md⟩, none, none, none, none, none, none, none, none, none] = some (.ok .nx, rEv sd md z [] (2 * n - 2) none none none none none none) := by
  have mm : mulD (.int 2) (.int n) = some (.val (.int (2 * n))) := by simp [mulD, fI, m2]
  unfold rEv
  simp [ln, mz, mm, mkFn, isListAt, slots, slot0, mSeq, mAsg, mRet, mIfS, mDrop, mB, bnd, Mi.ret, thaw, thawR, mVal, valR, mVar, mC, mBin, mUn, op1, op2, look, opN, lookAll, mCall, aT, aV, aNil, mStore, okSet, isT, asB, mTup, mLst, valsOf, mNx, outIo, retR, Md.isOwn, Md.isIo, Md.isLk, fI, mIf, mAnd, mOr, mNot, mAndV, mOrV, mChain, mPar, mPar3, mF, mFk, callF, callIo, putIo, freezeBy, flatD, flatAll, flatY, mayGive, notSlot, gath, mAsgG, gT, gsCons, gsNil, gIx, gN, setIx, mSetIx, ownAt, mApp, appTo, mIsi, isiD, isK, kinds, tyD, mSl, mPart, mNoPart, asInt, slD, cutD, lenD, absD, max2D, min2D, gcdD, lcmD, intD, listD, tupleD, allD, boolsOf, divmodD, addD, subD, mulD, fdivD, modD, powD, leD, gtD, geD, isD, isntD, negD, notD, revD, isNone, sizeLine, mMt, mtS, startsD, findD, fmtD, mJs, strD, mFT, callT, mPar3O, mParO, noSlot, -mulD, -lenD]
theorem e_it {sd : D} {n : Nat} {xs fnd : List D} {P : Int} (hn : n ≤ 5000) : ((mRng1 (aT (mVar 1) aNil))) (rEv sd (.int (n : Nat)) xs fnd P none none none none none none) = some (.ok ⟨rangeD 0 n, []⟩, rEv sd (.int (n : Nat)) xs fnd P none none none none none none) := by
  refine rng_of ?_ (in62_nat hn)
  unfold rEv
  simp [mkFn, isListAt, slots, slot0, mSeq, mAsg, mRet, mIfS, mDrop, mB, bnd, Mi.ret, thaw, thawR, mVal, valR, mVar, mC, mBin, mUn, op1, op2, look, opN, lookAll, mCall, aT, aV, aNil, mStore, okSet, isT, asB, mTup, mLst, valsOf, mNx, outIo, retR, Md.isOwn, Md.isIo, Md.isLk, fI, mIf, mAnd, mOr, mNot, mAndV, mOrV, mChain, mPar, mPar3, mF, mFk, callF, callIo, putIo, freezeBy, flatD, flatAll, flatY, mayGive, notSlot, gath, mAsgG, gT, gsCons, gsNil, gIx, gN, setIx, mSetIx, ownAt, mApp, appTo, mIsi, isiD, isK, kinds, tyD, mSl, mPart, mNoPart, asInt, slD, cutD, lenD, absD, max2D, min2D, gcdD, lcmD, intD, listD, tupleD, allD, boolsOf, divmodD, addD, subD, mulD, fdivD, modD, powD, leD, gtD, geD, isD, isntD, negD, notD, revD, isNone, sizeLine, mMt, mtS, startsD, findD, fmtD, mJs, strD, mFT, callT, mPar3O, mParO, noSlot]
theorem e_fin {sd md : D} {ρ : R} {xs : List D} (e : m__law_even [some ⟨.val, sd⟩, some ⟨.val, md⟩, none, none, none, none, none, none, none, none, none] = some (.ok (.rt (.slot 3)), ρ)) (h3 : ρ[3]? = some (some ⟨.own, .list xs⟩)) : f__law_even [sd, md] = some (.ok (.fresh xs), .none) := by
  simp [f__law_even, mkFn, isListAt, slots, slot0, e, outIo, retR, h3]
def evR (ps : List Nat) (n : Nat) : List Nat := (evS (shs ps) (pP ps) n).2
theorem ev_leven {ps : List Nat} (h : Parts ps) {n : Nat} (hn : n ≤ 1000) : f__law_even [sD (shs ps), .int (n : Nat)] = some (.ok (.fresh (ri (evR ps n))), .none) := by
  have l1 := h.l1
  have l2 := h.l2
  have a0 := e_a (md := .int (n : Nat)) (len_sD (shs ps)) (mul_zero (k := (shs ps).length) (by have := shs_len h; omega)) (mulOk_of (a := 60) (b := 60) (by decide) (by rw [h.len]; omega) (by decide) (by decide) (by decide))
  rw [show 2 * (((shs ps).length : Nat) : Int) - 2 = ((pP ps : Nat) : Int) by rw [h.len]; unfold pP; omega, ← cD_zs] at a0
  obtain ⟨ρ', e, s5, s6, s7, s8, s9, s10, q5, q6, q7, q8, q9, q10, hρ⟩ := loopF_run (g := gN 5) (b := (mSeq (mAsg 6 (mC .none)) (mSeq (mFor (chk (mEnum (mVar 0))) (gT 2 (gsCons (gN 7) (gsCons (gT 2 (gsCons (gN 8) (gsCons (gN 9) gsNil))) gsNil))) (mIfS (mOr (mB (mBin eqsD (mVar 4) (mC (.int 0)))) (mB (mBin leD (mBin mulD (mBin addD (mBin mulD (mBin ixD (mVar 2) (mVar 7)) (mVar 4)) (mC (.int 1))) (mVar 9)) (mBin mulD (mBin mulD (mBin addD (mVar 5) (mC (.int 1))) (mVar 8)) (mVar 4))))) (mSeq (mAsg 10 (mIf (mB (mBin eqsD (mVar 4) (mC (.int 0)))) (mC (.int 0)) (mBin fdivD (mBin mulD (mBin subD (mBin mulD (mBin addD (mBin ixD (mVar 2) (mVar 7)) (mC (.int 1))) (mVar 4)) (mC (.int 1))) (mVar 9)) (mBin mulD (mVar 8) (mVar 4))))) (mIfS (mOr (mB (mBin isD (mVar 6) (mC .none))) (mB (mBin ltD (mVar 10) (mBin ixD (mVar 6) (mC (.int 0)))))) (mAsg 6 (mTup (aV (mVar 10) (aV (mVar 7) aNil)))) mNx)) mNx)) (mSeq (mSetIx 2 (mBin ixD (mVar 6) (mC (.int 1))) (mBin addD (mBin ixD (mVar 2) (mBin ixD (mVar 6) (mC (.int 1)))) (mC (.int 1)))) (mApp 3 (mBin ixD (mVar 6) (mC (.int 1)))))))) (fun k ρ => ∃ s5 s6 s7 s8 s9 s10, Vl s5 ∧ Vl s6 ∧ Vl s7 ∧ Vl s8 ∧ Vl s9 ∧ Vl s10 ∧ ρ = rEv (sD (shs ps)) (.int (n : Nat)) (cD (evS (shs ps) (pP ps) k).1) (ri (evS (shs ps) (pP ps) k).2) (pP ps : Nat) s5 s6 s7 s8 s9 s10) (rangeD 0 n) 0
    (rEv (sD (shs ps)) (.int (n : Nat)) (cD (zs (shs ps).length)) [] (pP ps : Nat) none none none none none none) ⟨none, none, none, none, none, none, .inl rfl, .inl rfl, .inl rfl, .inl rfl, .inl rfl, .inl rfl, rfl⟩ (by
    intro i ρ d hd ⟨s5, s6, s7, s8, s9, s10, q5, q6, q7, q8, q9, q10, hρ⟩
    subst hρ
    have hi := (List.getElem?_eq_some_iff.mp hd).1
    rw [rng_nat, List.length_map, List.length_range'] at hi
    have ed : d = .int ((0 + i : Nat) : Int) := by
      rw [rng_nat, List.getElem?_map, List.getElem?_range' hi] at hd
      simp at hd
      rw [Nat.zero_add]
      exact hd.symm
    subst ed
    obtain ⟨s6', s7', s8', s9', s10', z6, z7, z8, z9, z10, e⟩ := e_step h (md := .int (n : Nat)) (k := 0 + i) (by omega) q6 q7 q8 q9 q10
    refine ⟨rEv (sD (shs ps)) (.int (n : Nat)) (cD (evS (shs ps) (pP ps) (0 + i)).1) (ri (evS (shs ps) (pP ps) (0 + i)).2) (pP ps : Nat) (iV ((0 + i : Nat) : Int)) s6 s7 s8 s9 s10, _, .nx, ?_, e, .inl rfl, _, s6', s7', s8', s9', s10', .inr ⟨_, rfl⟩, z6, z7, z8, z9, z10, rfl⟩
    clear e
    unfold rEv iV
    generalize cD _ = xs
    generalize ri _ = ys
    generalize sD (shs ps) = sd
    rcases q5 with rfl | ⟨t, rfl⟩ <;> simp [gN, mStore, okSet])
  subst hρ
  have hl : (rangeD 0 n).length = n := by rw [rng_nat, List.length_map, List.length_range']
  rw [hl, Nat.zero_add] at e
  refine e_fin (ρ := rEv (sD (shs ps)) (.int (n : Nat)) (cD (evS (shs ps) (pP ps) n).1) (ri (evS (shs ps) (pP ps) n).2) (pP ps : Nat) s5 s6 s7 s8 s9 s10) ?_ rfl
  have F : ((mFor (chk (mRng1 (aT (mVar 1) aNil))) (gN 5) (mSeq (mAsg 6 (mC .none)) (mSeq (mFor (chk (mEnum (mVar 0))) (gT 2 (gsCons (gN 7) (gsCons (gT 2 (gsCons (gN 8) (gsCons (gN 9) gsNil))) gsNil))) (mIfS (mOr (mB (mBin eqsD (mVar 4) (mC (.int 0)))) (mB (mBin leD (mBin mulD (mBin addD (mBin mulD (mBin ixD (mVar 2) (mVar 7)) (mVar 4)) (mC (.int 1))) (mVar 9)) (mBin mulD (mBin mulD (mBin addD (mVar 5) (mC (.int 1))) (mVar 8)) (mVar 4))))) (mSeq (mAsg 10 (mIf (mB (mBin eqsD (mVar 4) (mC (.int 0)))) (mC (.int 0)) (mBin fdivD (mBin mulD (mBin subD (mBin mulD (mBin addD (mBin ixD (mVar 2) (mVar 7)) (mC (.int 1))) (mVar 4)) (mC (.int 1))) (mVar 9)) (mBin mulD (mVar 8) (mVar 4))))) (mIfS (mOr (mB (mBin isD (mVar 6) (mC .none))) (mB (mBin ltD (mVar 10) (mBin ixD (mVar 6) (mC (.int 0)))))) (mAsg 6 (mTup (aV (mVar 10) (aV (mVar 7) aNil)))) mNx)) mNx)) (mSeq (mSetIx 2 (mBin ixD (mVar 6) (mC (.int 1))) (mBin addD (mBin ixD (mVar 2) (mBin ixD (mVar 6) (mC (.int 1)))) (mC (.int 1)))) (mApp 3 (mBin ixD (mVar 6) (mC (.int 1))))))))) (rEv (sD (shs ps)) (.int (n : Nat)) (cD (zs (shs ps).length)) [] (pP ps : Nat) none none none none none none) = _ := for_run (e_it (by omega)) e
  unfold m__law_even
  rw [seq_nx a0, seq_nx F]
  simp [rEv, mRet, mVar, bnd, Mi.ret, Md.isOwn]
end K83

namespace K83
open PySem L2 Evl PySem.Spec Mi

/-! ### the program's even rows -/
theorem ev_begin {n u t P : Int} (m1 : mulOk (t - 1) P = true) (m2 : mulOk ((t - 1) * P + 1) u = true) (m3 : mulOk n P = true) (d : divOk (n * P) = true) : f_even_begin [.tuple [.int n, .int u], .int t, .int P] = some (.ok (.val (.int ((((t - 1) * P + 1) * u + n * P - 1).fdiv (n * P) - 1))), .none) := by
  simp [f_even_begin, m_even_begin, m1, m2, m3, d, mkFn, isListAt, slots, slot0, mSeq, mAsg, mRet, mIfS, mDrop, mB, bnd, Mi.ret, thaw, thawR, mVal, valR, mVar, mC, mBin, mUn, op1, op2, look, opN, lookAll, mCall, aT, aV, aNil, mStore, okSet, isT, asB, mTup, mLst, valsOf, mNx, outIo, retR, Md.isOwn, Md.isIo, Md.isLk, fI, mIf, mAnd, mOr, mNot, mAndV, mOrV, mChain, mPar, mPar3, mF, mFk, callF, callIo, putIo, freezeBy, flatD, flatAll, flatY, mayGive, notSlot, gath, mAsgG, gT, gsCons, gsNil, gIx, gN, setIx, mSetIx, ownAt, mApp, appTo, mIsi, isiD, isK, kinds, tyD, mSl, mPart, mNoPart, asInt, slD, cutD, lenD, absD, max2D, min2D, gcdD, lcmD, intD, listD, tupleD, allD, boolsOf, divmodD, addD, subD, mulD, fdivD, modD, powD, ltD, leD, gtD, geD, isD, isntD, negD, notD, ixD, revD, atI, ixN, isNone, sizeLine, eqsD, nesD, eqD, neD, inD, inT, inL, mMt, mtS, startsD, findD, fmtD, mJs, strD, mFT, callT, mPar3O, mParO, noSlot]
theorem ev_end {n u t P : Int} (m1 : mulOk t P = true) (m2 : mulOk (t * P - 1) u = true) (m3 : mulOk n P = true) (d : divOk (n * P) = true) : f_even_end [.tuple [.int n, .int u], .int t, .int P] = some (.ok (.val (.int (((t * P - 1) * u).fdiv (n * P) + 1))), .none) := by
  simp [f_even_end, m_even_end, m1, m2, m3, d, mkFn, isListAt, slots, slot0, mSeq, mAsg, mRet, mIfS, mDrop, mB, bnd, Mi.ret, thaw, thawR, mVal, valR, mVar, mC, mBin, mUn, op1, op2, look, opN, lookAll, mCall, aT, aV, aNil, mStore, okSet, isT, asB, mTup, mLst, valsOf, mNx, outIo, retR, Md.isOwn, Md.isIo, Md.isLk, fI, mIf, mAnd, mOr, mNot, mAndV, mOrV, mChain, mPar, mPar3, mF, mFk, callF, callIo, putIo, freezeBy, flatD, flatAll, flatY, mayGive, notSlot, gath, mAsgG, gT, gsCons, gsNil, gIx, gN, setIx, mSetIx, ownAt, mApp, appTo, mIsi, isiD, isK, kinds, tyD, mSl, mPart, mNoPart, asInt, slD, cutD, lenD, absD, max2D, min2D, gcdD, lcmD, intD, listD, tupleD, allD, boolsOf, divmodD, addD, subD, mulD, fdivD, modD, powD, ltD, leD, gtD, geD, isD, isntD, negD, notD, ixD, revD, atI, ixN, isNone, sizeLine, eqsD, nesD, eqD, neD, inD, inT, inL, mMt, mtS, startsD, findD, fmtD, mJs, strD, mFT, callT, mPar3O, mParO, noSlot]
def foD : Option (Nat × Nat) → D
  | none => .none
  | some x => .int (x.2 : Nat)
def fiD : Option (Nat × Nat) → D
  | none => .none
  | some x => .int ((x.1 : Nat) + 1)
def rF (sd cd : D) (m P : Int) (fo fi : D) (s6 s7 s8 s9 : Option Slot) : R := [some ⟨.val, sd⟩, some ⟨.val, cd⟩, some ⟨.val, .int m⟩, some ⟨.val, .int P⟩, some ⟨.val, fo⟩, some ⟨.val, fi⟩, s6, s7, s8, s9]
section
variable {sd fo fi pd : D} {xs : List D} {m P i c g l : Int} {s6 s7 s8 s9 : Option Slot}
theorem ne_turn (ix : ixD (.list xs) (.int i) = some (.val (.int c))) (h8 : Vl s8) : ((mAsg 8 (mBin addD (mBin ixD (mVar 1) (mVar 6)) (mC (.int 1))))) (rF sd (.list xs) m P fo fi (iV i) s7 s8 s9) = some (.ok .nx, rF sd (.list xs) m P fo fi (iV i) s7 (iV (c + 1)) s9) := by
  unfold rF iV
  rcases h8 with rfl | ⟨t, rfl⟩ <;> simp [ix, mkFn, isListAt, slots, slot0, mSeq, mAsg, mRet, mIfS, mDrop, mB, bnd, Mi.ret, thaw, thawR, mVal, valR, mVar, mC, mBin, mUn, op1, op2, look, opN, lookAll, mCall, aT, aV, aNil, mStore, okSet, isT, asB, mTup, mLst, valsOf, mNx, outIo, retR, Md.isOwn, Md.isIo, Md.isLk, fI, mIf, mAnd, mOr, mNot, mAndV, mOrV, mChain, mPar, mPar3, mF, mFk, callF, callIo, putIo, freezeBy, flatD, flatAll, flatY, mayGive, notSlot, gath, mAsgG, gT, gsCons, gsNil, gIx, gN, setIx, mSetIx, ownAt, mApp, appTo, mIsi, isiD, isK, kinds, tyD, mSl, mPart, mNoPart, asInt, slD, cutD, lenD, absD, max2D, min2D, gcdD, lcmD, intD, listD, tupleD, allD, boolsOf, divmodD, addD, subD, mulD, fdivD, modD, powD, leD, gtD, geD, isD, isntD, negD, notD, revD, isNone, sizeLine, mMt, mtS, startsD, findD, fmtD, mJs, strD, mFT, callT, mPar3O, mParO, noSlot]
theorem ne_no (e : f_even_begin [pd, .int c, .int P] = some (.ok (.val (.int g)), .none)) (h : ¬ g ≤ m) : ((mIfS (mB (mBin leD (mF 3 f_even_begin none (aT (mVar 7) (aT (mVar 8) (aT (mVar 3) aNil)))) (mVar 2))) (mSeq (mAsg 9 (mF 3 f_even_end none (aT (mVar 7) (aT (mVar 8) (aT (mVar 3) aNil))))) (mIfS (mOr (mB (mBin isD (mVar 5) (mC .none))) (mB (mBin ltD (mVar 9) (mVar 5)))) (mPar 4 5 (mVar 6) (mVar 9)) mNx)) mNx)) (rF sd (.list xs) m P fo fi (iV i) (some ⟨.val, pd⟩) (iV c) s9) = some (.ok .nx, rF sd (.list xs) m P fo fi (iV i) (some ⟨.val, pd⟩) (iV c) s9) := by
  have h2 : m < g := by omega
  unfold rF iV
  simp [e, h, h2, ltD, mkFn, isListAt, slots, slot0, mSeq, mAsg, mRet, mIfS, mDrop, mB, bnd, Mi.ret, thaw, thawR, mVal, valR, mVar, mC, mBin, mUn, op1, op2, look, opN, lookAll, mCall, aT, aV, aNil, mStore, okSet, isT, asB, mTup, mLst, valsOf, mNx, outIo, retR, Md.isOwn, Md.isIo, Md.isLk, fI, mIf, mAnd, mOr, mNot, mAndV, mOrV, mChain, mPar, mPar3, mF, mFk, callF, callIo, putIo, freezeBy, flatD, flatAll, flatY, mayGive, notSlot, gath, mAsgG, gT, gsCons, gsNil, gIx, gN, setIx, mSetIx, ownAt, mApp, appTo, mIsi, isiD, isK, kinds, tyD, mSl, mPart, mNoPart, asInt, slD, cutD, lenD, absD, max2D, min2D, gcdD, lcmD, intD, listD, tupleD, allD, boolsOf, divmodD, addD, subD, mulD, fdivD, modD, powD, leD, gtD, geD, isD, isntD, negD, notD, revD, isNone, sizeLine, mMt, mtS, startsD, findD, fmtD, mJs, strD, mFT, callT, mPar3O, mParO, noSlot]
theorem ne_yes (e : f_even_begin [pd, .int c, .int P] = some (.ok (.val (.int g)), .none)) (h : g ≤ m) (e2 : f_even_end [pd, .int c, .int P] = some (.ok (.val (.int l)), .none)) (h9 : Vl s9) :
    ((mIfS (mB (mBin leD (mF 3 f_even_begin none (aT (mVar 7) (aT (mVar 8) (aT (mVar 3) aNil)))) (mVar 2))) (mSeq (mAsg 9 (mF 3 f_even_end none (aT (mVar 7) (aT (mVar 8) (aT (mVar 3) aNil))))) (mIfS (mOr (mB (mBin isD (mVar 5) (mC .none))) (mB (mBin ltD (mVar 9) (mVar 5)))) (mPar 4 5 (mVar 6) (mVar 9)) mNx)) mNx)) (rF sd (.list xs) m P fo fi (iV i) (some ⟨.val, pd⟩) (iV c) s9) = ((mIfS (mOr (mB (mBin isD (mVar 5) (mC .none))) (mB (mBin ltD (mVar 9) (mVar 5)))) (mPar 4 5 (mVar 6) (mVar 9)) mNx)) (rF sd (.list xs) m P fo fi (iV i) (some ⟨.val, pd⟩) (iV c) (iV l)) := by
  have t : ((mB (mBin leD (mF 3 f_even_begin none (aT (mVar 7) (aT (mVar 8) (aT (mVar 3) aNil)))) (mVar 2)))) (rF sd (.list xs) m P fo fi (iV i) (some ⟨.val, pd⟩) (iV c) s9) = some (.ok true, rF sd (.list xs) m P fo fi (iV i) (some ⟨.val, pd⟩) (iV c) s9) := by
    unfold rF iV
    simp [e, h, ltD, mkFn, isListAt, slots, slot0, mSeq, mAsg, mRet, mIfS, mDrop, mB, bnd, Mi.ret, thaw, thawR, mVal, valR, mVar, mC, mBin, mUn, op1, op2, look, opN, lookAll, mCall, aT, aV, aNil, mStore, okSet, isT, asB, mTup, mLst, valsOf, mNx, outIo, retR, Md.isOwn, Md.isIo, Md.isLk, fI, mIf, mAnd, mOr, mNot, mAndV, mOrV, mChain, mPar, mPar3, mF, mFk, callF, callIo, putIo, freezeBy, flatD, flatAll, flatY, mayGive, notSlot, gath, mAsgG, gT, gsCons, gsNil, gIx, gN, setIx, mSetIx, ownAt, mApp, appTo, mIsi, isiD, isK, kinds, tyD, mSl, mPart, mNoPart, asInt, slD, cutD, lenD, absD, max2D, min2D, gcdD, lcmD, intD, listD, tupleD, allD, boolsOf, divmodD, addD, subD, mulD, fdivD, modD, powD, leD, gtD, geD, isD, isntD, negD, notD, revD, isNone, sizeLine, mMt, mtS, startsD, findD, fmtD, mJs, strD, mFT, callT, mPar3O, mParO, noSlot]
  have a : ((mAsg 9 (mF 3 f_even_end none (aT (mVar 7) (aT (mVar 8) (aT (mVar 3) aNil)))))) (rF sd (.list xs) m P fo fi (iV i) (some ⟨.val, pd⟩) (iV c) s9) = some (.ok .nx, rF sd (.list xs) m P fo fi (iV i) (some ⟨.val, pd⟩) (iV c) (iV l)) := by
    unfold rF iV
    rcases h9 with rfl | ⟨t, rfl⟩ <;> simp [e2, mkFn, isListAt, slots, slot0, mSeq, mAsg, mRet, mIfS, mDrop, mB, bnd, Mi.ret, thaw, thawR, mVal, valR, mVar, mC, mBin, mUn, op1, op2, look, opN, lookAll, mCall, aT, aV, aNil, mStore, okSet, isT, asB, mTup, mLst, valsOf, mNx, outIo, retR, Md.isOwn, Md.isIo, Md.isLk, fI, mIf, mAnd, mOr, mNot, mAndV, mOrV, mChain, mPar, mPar3, mF, mFk, callF, callIo, putIo, freezeBy, flatD, flatAll, flatY, mayGive, notSlot, gath, mAsgG, gT, gsCons, gsNil, gIx, gN, setIx, mSetIx, ownAt, mApp, appTo, mIsi, isiD, isK, kinds, tyD, mSl, mPart, mNoPart, asInt, slD, cutD, lenD, absD, max2D, min2D, gcdD, lcmD, intD, listD, tupleD, allD, boolsOf, divmodD, addD, subD, mulD, fdivD, modD, powD, leD, gtD, geD, isD, isntD, negD, notD, revD, isNone, sizeLine, mMt, mtS, startsD, findD, fmtD, mJs, strD, mFT, callT, mPar3O, mParO, noSlot]
  show mIfS _ (mSeq _ _) _ _ = _
  rw [if_yes t, seq_nx a]
theorem ne_none : ((mIfS (mOr (mB (mBin isD (mVar 5) (mC .none))) (mB (mBin ltD (mVar 9) (mVar 5)))) (mPar 4 5 (mVar 6) (mVar 9)) mNx)) (rF sd (.list xs) m P .none .none (iV i) s7 s8 (iV l)) = some (.ok .nx, rF sd (.list xs) m P (.int i) (.int l) (iV i) s7 s8 (iV l)) := by
  unfold rF iV
  simp [mkFn, isListAt, slots, slot0, mSeq, mAsg, mRet, mIfS, mDrop, mB, bnd, Mi.ret, thaw, thawR, mVal, valR, mVar, mC, mBin, mUn, op1, op2, look, opN, lookAll, mCall, aT, aV, aNil, mStore, okSet, isT, asB, mTup, mLst, valsOf, mNx, outIo, retR, Md.isOwn, Md.isIo, Md.isLk, fI, mIf, mAnd, mOr, mNot, mAndV, mOrV, mChain, mPar, mPar3, mF, mFk, callF, callIo, putIo, freezeBy, flatD, flatAll, flatY, mayGive, notSlot, gath, mAsgG, gT, gsCons, gsNil, gIx, gN, setIx, mSetIx, ownAt, mApp, appTo, mIsi, isiD, isK, kinds, tyD, mSl, mPart, mNoPart, asInt, slD, cutD, lenD, absD, max2D, min2D, gcdD, lcmD, intD, listD, tupleD, allD, boolsOf, divmodD, addD, subD, mulD, fdivD, modD, powD, leD, gtD, geD, isD, isntD, negD, notD, revD, isNone, sizeLine, mMt, mtS, startsD, findD, fmtD, mJs, strD, mFT, callT, mPar3O, mParO, noSlot]
theorem ne_some {e j : Int} : ((mIfS (mOr (mB (mBin isD (mVar 5) (mC .none))) (mB (mBin ltD (mVar 9) (mVar 5)))) (mPar 4 5 (mVar 6) (mVar 9)) mNx)) (rF sd (.list xs) m P (.int j) (.int e) (iV i) s7 s8 (iV l)) = some (.ok .nx, rF sd (.list xs) m P (.int (if l < e then i else j)) (.int (if l < e then l else e)) (iV i) s7 s8 (iV l)) := by
  unfold rF iV
  by_cases h : l < e
  · simp [h, ltD, mkFn, isListAt, slots, slot0, mSeq, mAsg, mRet, mIfS, mDrop, mB, bnd, Mi.ret, thaw, thawR, mVal, valR, mVar, mC, mBin, mUn, op1, op2, look, opN, lookAll, mCall, aT, aV, aNil, mStore, okSet, isT, asB, mTup, mLst, valsOf, mNx, outIo, retR, Md.isOwn, Md.isIo, Md.isLk, fI, mIf, mAnd, mOr, mNot, mAndV, mOrV, mChain, mPar, mPar3, mF, mFk, callF, callIo, putIo, freezeBy, flatD, flatAll, flatY, mayGive, notSlot, gath, mAsgG, gT, gsCons, gsNil, gIx, gN, setIx, mSetIx, ownAt, mApp, appTo, mIsi, isiD, isK, kinds, tyD, mSl, mPart, mNoPart, asInt, slD, cutD, lenD, absD, max2D, min2D, gcdD, lcmD, intD, listD, tupleD, allD, boolsOf, divmodD, addD, subD, mulD, fdivD, modD, powD, leD, gtD, geD, isD, isntD, negD, notD, revD, isNone, sizeLine, mMt, mtS, startsD, findD, fmtD, mJs, strD, mFT, callT, mPar3O, mParO, noSlot]
  · simp [h, ltD, mkFn, isListAt, slots, slot0, mSeq, mAsg, mRet, mIfS, mDrop, mB, bnd, Mi.ret, thaw, thawR, mVal, valR, mVar, mC, mBin, mUn, op1, op2, look, opN, lookAll, mCall, aT, aV, aNil, mStore, okSet, isT, asB, mTup, mLst, valsOf, mNx, outIo, retR, Md.isOwn, Md.isIo, Md.isLk, fI, mIf, mAnd, mOr, mNot, mAndV, mOrV, mChain, mPar, mPar3, mF, mFk, callF, callIo, putIo, freezeBy, flatD, flatAll, flatY, mayGive, notSlot, gath, mAsgG, gT, gsCons, gsNil, gIx, gN, setIx, mSetIx, ownAt, mApp, appTo, mIsi, isiD, isK, kinds, tyD, mSl, mPart, mNoPart, asInt, slD, cutD, lenD, absD, max2D, min2D, gcdD, lcmD, intD, listD, tupleD, allD, boolsOf, divmodD, addD, subD, mulD, fdivD, modD, powD, leD, gtD, geD, isD, isntD, negD, notD, revD, isNone, sizeLine, mMt, mtS, startsD, findD, fmtD, mJs, strD, mFT, callT, mPar3O, mParO, noSlot]
end
theorem ne_body {sd : D} {cs : List Nat} {m i P : Nat} {p : Nat × Nat} {b : Option (Nat × Nat)} {s8 s9 : Option Slot} (o : One p) (hi : i < cs.length) (hc : cs.getD i 0 < 2 ^ 30) (hm : m < 2 ^ 30) (P0 : 0 < P) (hP : P < 2 ^ 30) (h8 : Vl s8) (h9 : Vl s9) :
    ∃ s8' s9', Vl s8' ∧ Vl s9' ∧ ((mSeq (mAsg 8 (mBin addD (mBin ixD (mVar 1) (mVar 6)) (mC (.int 1)))) (mIfS (mB (mBin leD (mF 3 f_even_begin none (aT (mVar 7) (aT (mVar 8) (aT (mVar 3) aNil)))) (mVar 2))) (mSeq (mAsg 9 (mF 3 f_even_end none (aT (mVar 7) (aT (mVar 8) (aT (mVar 3) aNil))))) (mIfS (mOr (mB (mBin isD (mVar 5) (mC .none))) (mB (mBin ltD (mVar 9) (mVar 5)))) (mPar 4 5 (mVar 6) (mVar 9)) mNx)) mNx))) (rF sd (.list (cD cs)) (m : Nat) (P : Nat) (foD b) (fiD b) (iV (i : Nat)) (some ⟨.val, pD p⟩) s8 s9) = some (.ok .nx, rF sd (.list (cD cs)) (m : Nat) (P : Nat) (foD (stE cs m P i p b)) (fiD (stE cs m P i p b)) (iV (i : Nat)) (some ⟨.val, pD p⟩) s8' s9') := by
  obtain ⟨n, u⟩ := p
  have hn := o.n
  have hu := o.u
  have n0 := o.n0
  have u0 := o.u0
  dsimp only at hn hu n0 u0 ⊢
  have ix := ixD_list (cD_get hi)
  unfold stE eE lE
  generalize cs.getD i 0 = c at hc ix ⊢
  dsimp only
  have b1 : c * P + 1 < 2 ^ 100 := by
    have : c * P ≤ 2 ^ 30 * 2 ^ 30 := Nat.mul_le_mul (by omega) (by omega)
    omega
  have b3 : (c + 1) * P < 2 ^ 100 := by
    have : (c + 1) * P ≤ 2 ^ 30 * 2 ^ 30 := Nat.mul_le_mul (by omega) (by omega)
    omega
  have ec : ((c : Nat) : Int) + 1 - 1 = (c : Nat) := by omega
  have m1 : mulOk (((c : Nat) : Int) + 1 - 1) ((P : Nat) : Int) = true := by
    rw [ec]
    exact mulOk_of (a := 60) (b := 60) (by omega) (by omega) (by decide) (by decide) (by decide)
  have m2 : mulOk ((((c : Nat) : Int) + 1 - 1) * ((P : Nat) : Int) + 1) ((u : Nat) : Int) = true := by
    rw [ec, ← Int.natCast_mul]
    exact mulOk_of (a := 100) (b := 60) (by omega) (by omega) (by decide) (by decide) (by decide)
  have m5 : mulOk (((c : Nat) : Int) + 1) ((P : Nat) : Int) = true := mulOk_of (a := 60) (b := 60) (by omega) (by omega) (by decide) (by decide) (by decide)
  have m6 : mulOk ((((c : Nat) : Int) + 1) * ((P : Nat) : Int) - 1) ((u : Nat) : Int) = true := by
    rw [show ((c : Nat) : Int) + 1 = ((c + 1 : Nat) : Int) by omega, ← Int.natCast_mul]
    exact mulOk_of (a := 101) (b := 60) (by omega) (by omega) (by decide) (by decide) (by decide)
  have m7 : mulOk ((n : Nat) : Int) ((P : Nat) : Int) = true := mulOk_of (a := 60) (b := 60) (by omega) (by omega) (by decide) (by decide) (by decide)
  have nP : 0 < n * P := Nat.mul_pos n0 (by omega)
  have bnP : n * P < 2 ^ 100 := by
    have : n * P ≤ 2 ^ 60 * 2 ^ 30 := Nat.mul_le_mul (by omega) (by omega)
    omega
  have dv : divOk (((n : Nat) : Int) * ((P : Nat) : Int)) = true := by
    rw [← Int.natCast_mul]
    exact divOk_of (k := 100) (by omega) (by omega) (by decide)
  have dq : ((((c : Nat) : Int) + 1) * ((P : Nat) : Int) - 1) * ((u : Nat) : Int) = ((((c + 1) * P - 1) * u : Nat) : Int) := by
    have : 0 < (c + 1) * P := Nat.mul_pos (by omega) (by omega)
    rw [Int.natCast_mul, show (((c + 1) * P - 1 : Nat) : Int) = (((c + 1) * P : Nat) : Int) - 1 by omega, Int.natCast_mul, show ((c + 1 : Nat) : Int) = ((c : Nat) : Int) + 1 by omega]
  have dl : (((((c : Nat) : Int) + 1) * ((P : Nat) : Int) - 1) * ((u : Nat) : Int)).fdiv (((n : Nat) : Int) * ((P : Nat) : Int)) = ((((c + 1) * P - 1) * u / (n * P) : Nat) : Int) := by
    rw [dq, ← Int.natCast_mul, fdiv_nat]
  have dg : (((((c : Nat) : Int) + 1 - 1) * ((P : Nat) : Int) + 1) * ((u : Nat) : Int) + ((n : Nat) : Int) * ((P : Nat) : Int) - 1).fdiv (((n : Nat) : Int) * ((P : Nat) : Int)) = ((((c * P + 1) * u + n * P - 1) / (n * P) : Nat) : Int) := by
    rw [ec, ← Int.natCast_mul, ← Int.natCast_mul, show ((c * P : Nat) : Int) + 1 = ((c * P + 1 : Nat) : Int) by omega, ← Int.natCast_mul, show (((c * P + 1) * u : Nat) : Int) + ((n * P : Nat) : Int) - 1 = (((c * P + 1) * u + n * P - 1 : Nat) : Int) by omega, fdiv_nat]
  have gi : (((((c * P + 1) * u + n * P - 1) / (n * P) : Nat) : Int) - 1 ≤ ((m : Nat) : Int)) ↔ (c * P + 1) * u ≤ (m + 1) * n * P := by
    have a0 : 0 < (c * P + 1) * u := Nat.mul_pos (by omega) u0
    have := Nat.div_lt_iff_lt_mul (x := (c * P + 1) * u + n * P - 1) (y := m + 2) nP
    have e : (m + 2) * (n * P) = (m + 1) * n * P + n * P := by rw [show m + 2 = m + 1 + 1 by omega, Nat.add_mul, Nat.one_mul, Nat.mul_assoc]
    rw [e] at this
    generalize ((c * P + 1) * u + n * P - 1) / (n * P) = q at this ⊢
    omega
  have eb := ev_begin (n := (n : Nat)) (u := (u : Nat)) (t := ((c : Nat) : Int) + 1) (P := (P : Nat)) m1 m2 m7 dv
  have ee := ev_end (n := (n : Nat)) (u := (u : Nat)) (t := ((c : Nat) : Int) + 1) (P := (P : Nat)) m5 m6 m7 dv
  rw [dg] at eb
  rw [dl] at ee
  have at_ := ne_turn (sd := sd) (m := (m : Nat)) (P := (P : Nat)) (fo := foD b) (fi := fiD b) (s7 := some ⟨.val, pD (n, u)⟩) (s9 := s9) ix h8
  rw [decide_eq_false (by omega : ¬ P = 0), Bool.false_or, if_neg (by omega : ¬ P = 0)]
  generalize ((c + 1) * P - 1) * u / (n * P) = l at ee ⊢
  generalize ((((c * P + 1) * u + n * P - 1) / (n * P) : Nat) : Int) - 1 = g at eb gi
  show ∃ s8' s9', Vl s8' ∧ Vl s9' ∧ mSeq _ _ _ = _
  rw [seq_nx at_]
  by_cases c1 : (c * P + 1) * u ≤ (m + 1) * n * P
  · rw [decide_eq_true c1]
    refine ⟨iV (((c : Nat) : Int) + 1), iV (((l : Nat) : Int) + 1), .inr ⟨_, rfl⟩, .inr ⟨_, rfl⟩, ?_⟩
    rw [ne_yes eb (gi.mpr c1) ee h9]
    cases b with
    | none =>
      exact ne_none
    | some x =>
      obtain ⟨e, j⟩ := x
      refine ne_some.trans ?_
      by_cases c3 : l < e
      · have c4 : ((l : Nat) : Int) + 1 < ((e : Nat) : Int) + 1 := by omega
        simp only [c3, c4, if_true, decide_true, Bool.and_self, foD, fiD]
      · have c4 : ¬ ((l : Nat) : Int) + 1 < ((e : Nat) : Int) + 1 := by omega
        simp only [c3, c4, if_false, decide_false, Bool.and_false, Bool.false_eq_true, foD, fiD]
  · rw [decide_eq_false c1]
    refine ⟨iV (((c : Nat) : Int) + 1), s9, .inr ⟨_, rfl⟩, h9, ?_⟩
    rw [ne_no eb fun q => c1 (gi.mp q)]
    simp only [Bool.false_and, Bool.false_eq_true, if_false]
theorem ne_a {sd cd : D} {m P : Int} : ((mAsgG (gT 2 (gsCons (gN 4) (gsCons (gN 5) gsNil))) (mTup (aV (mC .none) (aV (mC .none) aNil))))) [some ⟨.val, sd⟩, some ⟨.val, cd⟩, some ⟨.val, .int m⟩, some ⟨.val, .int P⟩, none, none, none, none, none, none] = some (.ok .nx, rF sd cd m P .none .none none none none none) := by
  unfold rF
  simp [mkFn, isListAt, slots, slot0, mSeq, mAsg, mRet, mIfS, mDrop, mB, bnd, Mi.ret, thaw, thawR, mVal, valR, mVar, mC, mBin, mUn, op1, op2, look, opN, lookAll, mCall, aT, aV, aNil, mStore, okSet, isT, asB, mTup, mLst, valsOf, mNx, outIo, retR, Md.isOwn, Md.isIo, Md.isLk, fI, mIf, mAnd, mOr, mNot, mAndV, mOrV, mChain, mPar, mPar3, mF, mFk, callF, callIo, putIo, freezeBy, flatD, flatAll, flatY, mayGive, notSlot, gath, mAsgG, gT, gsCons, gsNil, gIx, gN, setIx, mSetIx, ownAt, mApp, appTo, mIsi, isiD, isK, kinds, tyD, mSl, mPart, mNoPart, asInt, slD, cutD, lenD, absD, max2D, min2D, gcdD, lcmD, intD, listD, tupleD, allD, boolsOf, divmodD, addD, subD, mulD, fdivD, modD, powD, leD, gtD, geD, isD, isntD, negD, notD, revD, isNone, sizeLine, mMt, mtS, startsD, findD, fmtD, mJs, strD, mFT, callT, mPar3O, mParO, noSlot]
theorem ne_g {sd cd fo fi pd : D} {m P i : Int} {s6 s7 s8 s9 : Option Slot} (h6 : Vl s6) (h7 : Vl s7) : ((gT 2 (gsCons (gN 6) (gsCons (gN 7) gsNil)))) (.tuple [.int i, pd]) (rF sd cd m P fo fi s6 s7 s8 s9) = some (.ok (), rF sd cd m P fo fi (iV i) (some ⟨.val, pd⟩) s8 s9) := by
  unfold rF iV
  rcases h6 with rfl | ⟨t, rfl⟩ <;> rcases h7 with rfl | ⟨t, rfl⟩ <;> simp [gT, gsCons, gsNil, gN, mStore, okSet, mkFn, isListAt, slots, slot0, mSeq, mAsg, mRet, mIfS, mDrop, mB, bnd, Mi.ret, thaw, thawR, mVal, valR, mVar, mC, mBin, mUn, op1, op2, look, opN, lookAll, mCall, aT, aV, aNil, mStore, okSet, isT, asB, mTup, mLst, valsOf, mNx, outIo, retR, Md.isOwn, Md.isIo, Md.isLk, fI, mIf, mAnd, mOr, mNot, mAndV, mOrV, mChain, mPar, mPar3, mF, mFk, callF, callIo, putIo, freezeBy, flatD, flatAll, flatY, mayGive, notSlot, gath, mAsgG, gT, gsCons, gsNil, gIx, gN, setIx, mSetIx, ownAt, mApp, appTo, mIsi, isiD, isK, kinds, tyD, mSl, mPart, mNoPart, asInt, slD, cutD, lenD, absD, max2D, min2D, gcdD, lcmD, intD, listD, tupleD, allD, boolsOf, divmodD, addD, subD, mulD, fdivD, modD, powD, ltD, leD, gtD, geD, isD, isntD, negD, notD, ixD, revD, atI, ixN, isNone, sizeLine, eqsD, nesD, eqD, neD, inD, inT, inL, mMt, mtS, startsD, findD, fmtD, mJs, strD, mFT, callT, mPar3O, mParO, noSlot]
theorem ne_end {sd cd fo fi : D} {m P : Int} {s6 s7 s8 s9 : Option Slot} (e : m_next_even [some ⟨.val, sd⟩, some ⟨.val, cd⟩, some ⟨.val, .int m⟩, some ⟨.val, .int P⟩, none, none, none, none, none, none] = ((mRet (mVar 4))) (rF sd cd m P fo fi s6 s7 s8 s9)) : f_next_even [sd, cd, .int m, .int P] = some (.ok (.val fo), .none) := by
  unfold rF at e
  simp [f_next_even, mkFn, isListAt, slots, slot0, e, mRet, mVar, bnd, Mi.ret, outIo, retR, Md.isOwn]
theorem ev_next {ss : List (Nat × Nat)} {cs : List Nat} {m P : Nat} (h : ∀ p ∈ ss, One p) (k : CsOk ss cs m) (P0 : 0 < P) (hP : P < 2 ^ 30) :
    f_next_even [sD ss, .list (cD cs), .int (m : Nat), .int (P : Nat)] = some (.ok (.val (foD (bestE ss cs m P))), .none) := by
  obtain ⟨ρ', e, s6', s7', s8', s9', q6, q7, q8, q9, hρ⟩ := loopF_fold (g := (gT 2 (gsCons (gN 6) (gsCons (gN 7) gsNil)))) (b := (mSeq (mAsg 8 (mBin addD (mBin ixD (mVar 1) (mVar 6)) (mC (.int 1)))) (mIfS (mB (mBin leD (mF 3 f_even_begin none (aT (mVar 7) (aT (mVar 8) (aT (mVar 3) aNil)))) (mVar 2))) (mSeq (mAsg 9 (mF 3 f_even_end none (aT (mVar 7) (aT (mVar 8) (aT (mVar 3) aNil))))) (mIfS (mOr (mB (mBin isD (mVar 5) (mC .none))) (mB (mBin ltD (mVar 9) (mVar 5)))) (mPar 4 5 (mVar 6) (mVar 9)) mNx)) mNx))) (d := fun k (x : Nat × Nat) => .tuple [.int (k : Nat), pD x]) (f := stE cs m P)
    (fun b ρ => ∃ s6 s7 s8 s9, Vl s6 ∧ Vl s7 ∧ Vl s8 ∧ Vl s9 ∧ ρ = rF (sD ss) (.list (cD cs)) (m : Nat) (P : Nat) (foD b) (fiD b) s6 s7 s8 s9) ss 0 none
    (rF (sD ss) (.list (cD cs)) (m : Nat) (P : Nat) .none .none none none none none) ⟨none, none, none, none, .inl rfl, .inl rfl, .inl rfl, .inl rfl, rfl⟩ (by
    intro i p b ρ hp ⟨s6, s7, s8, s9, h6, h7, h8, h9, hρ⟩
    subst hρ
    rw [Nat.zero_add]
    have hi := (List.getElem?_eq_some_iff.mp hp).1
    have hm := k.m
    obtain ⟨s8', s9', q8, q9, e⟩ := ne_body (sd := sD ss) (cs := cs) (m := m) (i := i) (P := P) (p := p) (b := b) (h p (List.mem_of_getElem? hp)) (by rw [k.len]; exact hi) (Nat.lt_of_le_of_lt (getD_le k.le i) hm) hm P0 hP h8 h9
    exact ⟨_, _, ne_g h6 h7, e, _, _, s8', s9', .inr ⟨_, rfl⟩, .inr ⟨_, rfl⟩, q8, q9, rfl⟩)
  subst hρ
  refine ne_end (fi := fiD (bestE ss cs m P)) (s6 := s6') (s7 := s7') (s8 := s8') (s9 := s9') ?_
  have F : ((mFor (chk (mEnum (mVar 0))) (gT 2 (gsCons (gN 6) (gsCons (gN 7) gsNil))) (mSeq (mAsg 8 (mBin addD (mBin ixD (mVar 1) (mVar 6)) (mC (.int 1)))) (mIfS (mB (mBin leD (mF 3 f_even_begin none (aT (mVar 7) (aT (mVar 8) (aT (mVar 3) aNil)))) (mVar 2))) (mSeq (mAsg 9 (mF 3 f_even_end none (aT (mVar 7) (aT (mVar 8) (aT (mVar 3) aNil))))) (mIfS (mOr (mB (mBin isD (mVar 5) (mC .none))) (mB (mBin ltD (mVar 9) (mVar 5)))) (mPar 4 5 (mVar 6) (mVar 9)) mNx)) mNx)))) (rF (sD ss) (.list (cD cs)) (m : Nat) (P : Nat) .none .none none none none none) = _ := for_run (ρ1 := rF (sD ss) (.list (cD cs)) (m : Nat) (P : Nat) .none .none none none none none) (ds := enumL 0 (ss.map pD)) (by
    unfold rF
    simp [mEnum, mItL, iterL, iterD, mkFn, isListAt, slots, slot0, mSeq, mAsg, mRet, mIfS, mDrop, mB, bnd, Mi.ret, thaw, thawR, mVal, valR, mVar, mC, mBin, mUn, op1, op2, look, opN, lookAll, mCall, aT, aV, aNil, mStore, okSet, isT, asB, mTup, mLst, valsOf, mNx, outIo, retR, Md.isOwn, Md.isIo, Md.isLk, fI, mIf, mAnd, mOr, mNot, mAndV, mOrV, mChain, mPar, mPar3, mF, mFk, callF, callIo, putIo, freezeBy, flatD, flatAll, flatY, mayGive, notSlot, gath, mAsgG, gT, gsCons, gsNil, gIx, gN, setIx, mSetIx, ownAt, mApp, appTo, mIsi, isiD, isK, kinds, tyD, mSl, mPart, mNoPart, asInt, slD, cutD, lenD, absD, max2D, min2D, gcdD, lcmD, intD, listD, tupleD, allD, boolsOf, divmodD, addD, subD, mulD, fdivD, modD, powD, ltD, leD, gtD, geD, isD, isntD, negD, notD, ixD, revD, atI, ixN, isNone, sizeLine, eqsD, nesD, eqD, neD, inD, inT, inL, mMt, mtS, startsD, findD, fmtD, mJs, strD, mFT, callT, mPar3O, mParO, noSlot]) (by rw [items_enum]; exact e)
  unfold m_next_even
  rw [seq_nx ne_a, seq_nx F]
  rfl
end K83

namespace K83
open PySem L2 Evl PySem.Spec Mi

/-! ### is a row even -/
def badE (P : Nat) (a : Int) (u : Nat) : Bool := decide (0 < P) && decide ((P - 1) * u < a.natAbs * P)
def badM (ss : List (Nat × Nat)) (P : Nat) (lg : List Int) : Bool := (lg.zip ss).any fun x => badE P x.1 x.2.2
theorem badE_int {a : Int} {u P : Nat} : badE P a u = (decide (((u : Nat) : Int) * (((P : Nat) : Int) - 1) < (if a < 0 then -a else a) * ((P : Nat) : Int)) && decide ((0 : Int) < ((P : Nat) : Int))) := by
  unfold badE
  rw [abs_nat, ← Int.natCast_mul]
  by_cases h : 0 < P
  · have e : ((u : Nat) : Int) * (((P : Nat) : Int) - 1) = (((P - 1) * u : Nat) : Int) := by
      rw [Int.natCast_mul, Int.natCast_sub (by omega), Int.mul_comm]
      rfl
    rw [e]
    simp only [Int.ofNat_lt]
    rw [Bool.and_comm]
    congr 1
    exact decide_eq_decide.mpr (by omega)
  · have h2 : ¬ (0 : Int) < ((P : Nat) : Int) := by omega
    rw [decide_eq_false h, decide_eq_false h2, Bool.false_and, Bool.and_false]
def rI (sd rd : D) (P : Int) (s3 s4 s5 s6 : Option Slot) : R := [some ⟨.val, sd⟩, some ⟨.val, rd⟩, some ⟨.val, .int P⟩, s3, s4, s5, s6]
theorem ie_test {sd rd : D} {s3 : Option Slot} {P a n u : Int} {q : Bool} (m1 : mulOk (if a < 0 then -a else a) P = true) (m2 : mulOk u (P - 1) = true) (hq : (decide (u * (P - 1) < (if a < 0 then -a else a) * P) && decide (0 < P)) = q) :
    ((mIfS (mAnd (mB (mBin gtD (mBin mulD (mCall absD (aT (mVar 4) aNil)) (mVar 2)) (mBin mulD (mVar 6) (mBin subD (mVar 2) (mC (.int 1)))))) (mB (mBin gtD (mVar 2) (mC (.int 0))))) (mRet (mC (.bool false))) mNx)) (rI sd rd P s3 (iV a) (iV n) (iV u)) = some (.ok (flOf (if q then some (.val (.bool false)) else none)), rI sd rd P s3 (iV a) (iV n) (iV u)) := by
  have ab : absD [.int a] = some (.val (.int (if a < 0 then -a else a))) := rfl
  subst hq
  unfold rI iV
  generalize (if a < 0 then -a else a) = b at m1 ab ⊢
  by_cases h1 : u * (P - 1) < b * P
  · by_cases h2 : 0 < P
    · simp [ab, m1, m2, h1, h2, flOf, ltD, mkFn, isListAt, slots, slot0, mSeq, mAsg, mRet, mIfS, mDrop, mB, bnd, Mi.ret, thaw, thawR, mVal, valR, mVar, mC, mBin, mUn, op1, op2, look, opN, lookAll, mCall, aT, aV, aNil, mStore, okSet, isT, asB, mTup, mLst, valsOf, mNx, outIo, retR, Md.isOwn, Md.isIo, Md.isLk, fI, mIf, mAnd, mOr, mNot, mAndV, mOrV, mChain, mPar, mPar3, mF, mFk, callF, callIo, putIo, freezeBy, flatD, flatAll, flatY, mayGive, notSlot, gath, mAsgG, gT, gsCons, gsNil, gIx, gN, setIx, mSetIx, ownAt, mApp, appTo, mIsi, isiD, isK, kinds, tyD, mSl, mPart, mNoPart, asInt, slD, cutD, lenD, absD, max2D, min2D, gcdD, lcmD, intD, listD, tupleD, allD, boolsOf, divmodD, addD, subD, mulD, fdivD, modD, powD, leD, gtD, geD, isD, isntD, negD, notD, revD, isNone, sizeLine, mMt, mtS, startsD, findD, fmtD, mJs, strD, mFT, callT, mPar3O, mParO, noSlot, -absD]
    · have h3 : P ≤ 0 := by omega
      simp [ab, m1, m2, h1, h2, h3, flOf, ltD, mkFn, isListAt, slots, slot0, mSeq, mAsg, mRet, mIfS, mDrop, mB, bnd, Mi.ret, thaw, thawR, mVal, valR, mVar, mC, mBin, mUn, op1, op2, look, opN, lookAll, mCall, aT, aV, aNil, mStore, okSet, isT, asB, mTup, mLst, valsOf, mNx, outIo, retR, Md.isOwn, Md.isIo, Md.isLk, fI, mIf, mAnd, mOr, mNot, mAndV, mOrV, mChain, mPar, mPar3, mF, mFk, callF, callIo, putIo, freezeBy, flatD, flatAll, flatY, mayGive, notSlot, gath, mAsgG, gT, gsCons, gsNil, gIx, gN, setIx, mSetIx, ownAt, mApp, appTo, mIsi, isiD, isK, kinds, tyD, mSl, mPart, mNoPart, asInt, slD, cutD, lenD, absD, max2D, min2D, gcdD, lcmD, intD, listD, tupleD, allD, boolsOf, divmodD, addD, subD, mulD, fdivD, modD, powD, leD, gtD, geD, isD, isntD, negD, notD, revD, isNone, sizeLine, mMt, mtS, startsD, findD, fmtD, mJs, strD, mFT, callT, mPar3O, mParO, noSlot, -absD]
  · have h4 : b * P ≤ u * (P - 1) := by omega
    simp [ab, m1, m2, h1, h4, flOf, ltD, mkFn, isListAt, slots, slot0, mSeq, mAsg, mRet, mIfS, mDrop, mB, bnd, Mi.ret, thaw, thawR, mVal, valR, mVar, mC, mBin, mUn, op1, op2, look, opN, lookAll, mCall, aT, aV, aNil, mStore, okSet, isT, asB, mTup, mLst, valsOf, mNx, outIo, retR, Md.isOwn, Md.isIo, Md.isLk, fI, mIf, mAnd, mOr, mNot, mAndV, mOrV, mChain, mPar, mPar3, mF, mFk, callF, callIo, putIo, freezeBy, flatD, flatAll, flatY, mayGive, notSlot, gath, mAsgG, gT, gsCons, gsNil, gIx, gN, setIx, mSetIx, ownAt, mApp, appTo, mIsi, isiD, isK, kinds, tyD, mSl, mPart, mNoPart, asInt, slD, cutD, lenD, absD, max2D, min2D, gcdD, lcmD, intD, listD, tupleD, allD, boolsOf, divmodD, addD, subD, mulD, fdivD, modD, powD, leD, gtD, geD, isD, isntD, negD, notD, revD, isNone, sizeLine, mMt, mtS, startsD, findD, fmtD, mJs, strD, mFT, callT, mPar3O, mParO, noSlot, -absD]
theorem first_badE {P : Nat} : ∀ (xs : List (Int × (Nat × Nat))) (k : Nat), firstOf (fun _ (x : Int × (Nat × Nat)) => if badE P x.1 x.2.2 then some (Res.val (.bool false)) else none) xs k = if xs.any fun x => badE P x.1 x.2.2 then some (.val (.bool false)) else none
  | [], _ => rfl
  | x :: xs, k => by
    unfold firstOf
    rw [List.any_cons]
    cases h : badE P x.1 x.2.2 with
    | true => simp
    | false => simp [first_badE xs (k + 1), Bool.false_or]; rw [Bool.false_or]
theorem e_bnd {a : Int} {u P : Nat} (ha : a.natAbs < 2 ^ 100) (hu : u < 2 ^ 60) (hP : P < 2 ^ 30) : mulOk (if a < 0 then -a else a) (P : Nat) = true ∧ mulOk (u : Nat) (((P : Nat) : Int) - 1) = true := by
  rw [abs_nat]
  exact ⟨mulOk_of (a := 100) (b := 60) (by omega) (by omega) (by decide) (by decide) (by decide), mulOk_of (a := 60) (b := 60) (by omega) (by omega) (by decide) (by decide) (by decide)⟩
theorem ie_in {sd rd : D} {ss : List (Nat × Nat)} {s3 : Option Slot} {P : Nat} {lg : List Int} (h : ∀ p ∈ ss, One p) (k : LgOk ss lg) (hP : P < 2 ^ 30) {s4 s5 s6 : Option Slot} (h4 : Vl s4) (h5 : Vl s5) (h6 : Vl s6) :
    ∃ s4' s5' s6', Vl s4' ∧ Vl s5' ∧ Vl s6' ∧ loopF ((gT 2 (gsCons (gN 4) (gsCons (gT 2 (gsCons (gN 5) (gsCons (gN 6) gsNil))) gsNil)))) ((mIfS (mAnd (mB (mBin gtD (mBin mulD (mCall absD (aT (mVar 4) aNil)) (mVar 2)) (mBin mulD (mVar 6) (mBin subD (mVar 2) (mC (.int 1)))))) (mB (mBin gtD (mVar 2) (mC (.int 0))))) (mRet (mC (.bool false))) mNx)) (zipL (iD lg) (ss.map pD)) (rI sd rd (P : Nat) s3 s4 s5 s6) = some (.ok (flOf (if badM ss P lg then some (.val (.bool false)) else none)), rI sd rd (P : Nat) s3 s4' s5' s6') := by
  have hz : zipL (iD lg) (ss.map pD) = itemsOf (fun _ (p : Int × (Nat × Nat)) => .tuple [.int p.1, pD p.2]) (lg.zip ss) 0 := by
    unfold iD
    rw [zipL_map PyData.int pD, items_map _ _ 0]
  rw [hz]
  obtain ⟨ρ', e, s4', s5', s6', q4, q5, q6, hρ⟩ := loopF_first (g := (gT 2 (gsCons (gN 4) (gsCons (gT 2 (gsCons (gN 5) (gsCons (gN 6) gsNil))) gsNil)))) (b := (mIfS (mAnd (mB (mBin gtD (mBin mulD (mCall absD (aT (mVar 4) aNil)) (mVar 2)) (mBin mulD (mVar 6) (mBin subD (mVar 2) (mC (.int 1)))))) (mB (mBin gtD (mVar 2) (mC (.int 0))))) (mRet (mC (.bool false))) mNx)) (d := fun _ (p : Int × (Nat × Nat)) => .tuple [.int p.1, pD p.2]) (t := fun _ (x : Int × (Nat × Nat)) => if badE P x.1 x.2.2 then some (Res.val (.bool false)) else none)
    (fun ρ => ∃ s4 s5 s6, Vl s4 ∧ Vl s5 ∧ Vl s6 ∧ ρ = rI sd rd (P : Nat) s3 s4 s5 s6) (lg.zip ss) 0 _ ⟨s4, s5, s6, h4, h5, h6, rfl⟩ (fun i x ρ hx ⟨s4, s5, s6, h4, h5, h6, hρ⟩ => by
      subst hρ
      obtain ⟨z1, z2⟩ := zip_get hx
      obtain ⟨a, n, u⟩ := x
      obtain ⟨m1, m2⟩ := e_bnd (a := a) (u := u) (P := P) (k.b a z1) (h (n, u) z2.1).u hP
      refine ⟨rI sd rd (P : Nat) s3 (iV a) (iV (n : Nat)) (iV (u : Nat)), _, ?_, ie_test m1 m2 badE_int.symm, _, _, _, .inr ⟨_, rfl⟩, .inr ⟨_, rfl⟩, .inr ⟨_, rfl⟩, rfl⟩
      unfold rI iV
      rcases h4 with rfl | ⟨t, rfl⟩ <;> rcases h5 with rfl | ⟨t, rfl⟩ <;> rcases h6 with rfl | ⟨t, rfl⟩ <;> simp [gT, gsCons, gsNil, gN, mStore, okSet, mkFn, isListAt, slots, slot0, mSeq, mAsg, mRet, mIfS, mDrop, mB, bnd, Mi.ret, thaw, thawR, mVal, valR, mVar, mC, mBin, mUn, op1, op2, look, opN, lookAll, mCall, aT, aV, aNil, mStore, okSet, isT, asB, mTup, mLst, valsOf, mNx, outIo, retR, Md.isOwn, Md.isIo, Md.isLk, fI, mIf, mAnd, mOr, mNot, mAndV, mOrV, mChain, mPar, mPar3, mF, mFk, callF, callIo, putIo, freezeBy, flatD, flatAll, flatY, mayGive, notSlot, gath, mAsgG, gT, gsCons, gsNil, gIx, gN, setIx, mSetIx, ownAt, mApp, appTo, mIsi, isiD, isK, kinds, tyD, mSl, mPart, mNoPart, asInt, slD, cutD, lenD, absD, max2D, min2D, gcdD, lcmD, intD, listD, tupleD, allD, boolsOf, divmodD, addD, subD, mulD, fdivD, modD, powD, ltD, leD, gtD, geD, isD, isntD, negD, notD, ixD, revD, atI, ixN, isNone, sizeLine, eqsD, nesD, eqD, neD, inD, inT, inL, mMt, mtS, startsD, findD, fmtD, mJs, strD, mFT, callT, mPar3O, mParO, noSlot])
  subst hρ
  rw [first_badE] at e
  exact ⟨s4', s5', s6', q4, q5, q6, e⟩
theorem ie_iter {sd rd ld : D} {xs ds : List D} {P : Int} {s4 s5 s6 : Option Slot} (hl : ld = .list xs) (hs : sd = .tuple ds) : ((mZip (mVar 3) (mVar 0))) (rI sd rd P (some ⟨.val, ld⟩) s4 s5 s6) = some (.ok ⟨zipL xs ds, []⟩, rI sd rd P (some ⟨.val, ld⟩) s4 s5 s6) := by
  subst hl hs
  simp [rI, mZip, mItL, iterL, iterD, mkFn, isListAt, slots, slot0, mSeq, mAsg, mRet, mIfS, mDrop, mB, bnd, Mi.ret, thaw, thawR, mVal, valR, mVar, mC, mBin, mUn, op1, op2, look, opN, lookAll, mCall, aT, aV, aNil, mStore, okSet, isT, asB, mTup, mLst, valsOf, mNx, outIo, retR, Md.isOwn, Md.isIo, Md.isLk, fI, mIf, mAnd, mOr, mNot, mAndV, mOrV, mChain, mPar, mPar3, mF, mFk, callF, callIo, putIo, freezeBy, flatD, flatAll, flatY, mayGive, notSlot, gath, mAsgG, gT, gsCons, gsNil, gIx, gN, setIx, mSetIx, ownAt, mApp, appTo, mIsi, isiD, isK, kinds, tyD, mSl, mPart, mNoPart, asInt, slD, cutD, lenD, absD, max2D, min2D, gcdD, lcmD, intD, listD, tupleD, allD, boolsOf, divmodD, addD, subD, mulD, fdivD, modD, powD, ltD, leD, gtD, geD, isD, isntD, negD, notD, ixD, revD, atI, ixN, isNone, sizeLine, eqsD, nesD, eqD, neD, inD, inT, inL, mMt, mtS, startsD, findD, fmtD, mJs, strD, mFT, callT, mPar3O, mParO, noSlot]
theorem first_badM {ss : List (Nat × Nat)} {P : Nat} : ∀ (ls : List (List Int)) (k : Nat), firstOf (fun _ (lg : List Int) => if badM ss P lg then some (Res.val (.bool false)) else none) ls k = if ls.any (badM ss P) then some (.val (.bool false)) else none
  | [], _ => rfl
  | lg :: ls, k => by
    unfold firstOf
    rw [List.any_cons]
    cases h : badM ss P lg with
    | true => rfl
    | false =>
      simp only [Bool.false_eq_true, if_false, Bool.false_or]
      exact first_badM ls (k + 1)
theorem ie_out {ss : List (Nat × Nat)} {rd : D} {P : Nat} (h : ∀ p ∈ ss, One p) (hP : P < 2 ^ 30) (ls : List (List Int)) (hl : ∀ lg ∈ ls, LgOk ss lg) :
    ∃ s3 s4 s5 s6, loopF ((gN 3)) ((mFor (chk (mZip (mVar 3) (mVar 0))) (gT 2 (gsCons (gN 4) (gsCons (gT 2 (gsCons (gN 5) (gsCons (gN 6) gsNil))) gsNil))) (mIfS (mAnd (mB (mBin gtD (mBin mulD (mCall absD (aT (mVar 4) aNil)) (mVar 2)) (mBin mulD (mVar 6) (mBin subD (mVar 2) (mC (.int 1)))))) (mB (mBin gtD (mVar 2) (mC (.int 0))))) (mRet (mC (.bool false))) mNx))) (ls.map lagD) (rI (sD ss) rd (P : Nat) none none none none) = some (.ok (flOf (if ls.any (badM ss P) then some (.val (.bool false)) else none)), rI (sD ss) rd (P : Nat) s3 s4 s5 s6) := by
  rw [items_map _ _ 0]
  obtain ⟨ρ', e, s3, s4, s5, s6, q3, q4, q5, q6, hρ⟩ := loopF_first (g := (gN 3)) (b := (mFor (chk (mZip (mVar 3) (mVar 0))) (gT 2 (gsCons (gN 4) (gsCons (gT 2 (gsCons (gN 5) (gsCons (gN 6) gsNil))) gsNil))) (mIfS (mAnd (mB (mBin gtD (mBin mulD (mCall absD (aT (mVar 4) aNil)) (mVar 2)) (mBin mulD (mVar 6) (mBin subD (mVar 2) (mC (.int 1)))))) (mB (mBin gtD (mVar 2) (mC (.int 0))))) (mRet (mC (.bool false))) mNx))) (d := fun _ (x : List Int) => lagD x) (t := fun _ (lg : List Int) => if badM ss P lg then some (Res.val (.bool false)) else none)
    (fun ρ => ∃ s3 s4 s5 s6, Vl s3 ∧ Vl s4 ∧ Vl s5 ∧ Vl s6 ∧ ρ = rI (sD ss) rd (P : Nat) s3 s4 s5 s6) ls 0 _ ⟨none, none, none, none, .inl rfl, .inl rfl, .inl rfl, .inl rfl, rfl⟩ (fun i lg ρ hlg ⟨s3, s4, s5, s6, h3, h4, h5, h6, hρ⟩ => by
      subst hρ
      obtain ⟨s4', s5', s6', q4, q5, q6, e⟩ := ie_in (sd := sD ss) (rd := rd) (ss := ss) (s3 := some ⟨.val, lagD lg⟩) (P := P) h (hl lg (List.mem_of_getElem? hlg)) hP h4 h5 h6
      have it := ie_iter (sd := sD ss) (rd := rd) (ld := lagD lg) (P := (P : Nat)) (s4 := s4) (s5 := s5) (s6 := s6) rfl rfl
      refine ⟨rI (sD ss) rd (P : Nat) (some ⟨.val, lagD lg⟩) s4 s5 s6, _, ?_, for_run it e, _, _, _, _, .inr ⟨_, rfl⟩, q4, q5, q6, rfl⟩
      generalize sD ss = sd
      generalize lagD lg = ld
      rcases h3 with rfl | ⟨t, rfl⟩ <;> simp [rI, gN, mStore, okSet, mkFn, isListAt, slots, slot0, mSeq, mAsg, mRet, mIfS, mDrop, mB, bnd, Mi.ret, thaw, thawR, mVal, valR, mVar, mC, mBin, mUn, op1, op2, look, opN, lookAll, mCall, aT, aV, aNil, mStore, okSet, isT, asB, mTup, mLst, valsOf, mNx, outIo, retR, Md.isOwn, Md.isIo, Md.isLk, fI, mIf, mAnd, mOr, mNot, mAndV, mOrV, mChain, mPar, mPar3, mF, mFk, callF, callIo, putIo, freezeBy, flatD, flatAll, flatY, mayGive, notSlot, gath, mAsgG, gT, gsCons, gsNil, gIx, gN, setIx, mSetIx, ownAt, mApp, appTo, mIsi, isiD, isK, kinds, tyD, mSl, mPart, mNoPart, asInt, slD, cutD, lenD, absD, max2D, min2D, gcdD, lcmD, intD, listD, tupleD, allD, boolsOf, divmodD, addD, subD, mulD, fdivD, modD, powD, ltD, leD, gtD, geD, isD, isntD, negD, notD, ixD, revD, atI, ixN, isNone, sizeLine, eqsD, nesD, eqD, neD, inD, inT, inL, mMt, mtS, startsD, findD, fmtD, mJs, strD, mFT, callT, mPar3O, mParO, noSlot])
  subst hρ
  rw [first_badM] at e
  exact ⟨s3, s4, s5, s6, e⟩
theorem ie_a {sd rd : D} {n : Int} (e1 : f_want_shares [sd] = some (.ok (.val sd), .none)) (e2 : f_is_row_24 [sd, rd] = some (.ok (.val (.bool true)), .none)) (ln : lenD [sd] = some (.val (.int n))) (m2 : mulOk 2 n = true) :
    m_is_even [some ⟨.val, sd⟩, some ⟨.val, rd⟩, none, none, none, none, none] = ((mSeq (mFor (chk (mItD (mF 2 f_lags_behind none (aT (mVar 0) (aT (mVar 1) aNil))))) (gN 3) (mFor (chk (mZip (mVar 3) (mVar 0))) (gT 2 (gsCons (gN 4) (gsCons (gT 2 (gsCons (gN 5) (gsCons (gN 6) gsNil))) gsNil))) (mIfS (mAnd (mB (mBin gtD (mBin mulD (mCall absD (aT (mVar 4) aNil)) (mVar 2)) (mBin mulD (mVar 6) (mBin subD (mVar 2) (mC (.int 1)))))) (mB (mBin gtD (mVar 2) (mC (.int 0))))) (mRet (mC (.bool false))) mNx))) (mRet (mC (.bool true))))) (rI sd rd (2 * n - 2) none none none none) := by
  have a0 : ((mDrop (mF 1 f_want_shares none (aT (mVar 0) aNil)))) [some ⟨.val, sd⟩, some ⟨.val, rd⟩, none, none, none, none, none] = some (.ok .nx, [some ⟨.val, sd⟩, some ⟨.val, rd⟩, none, none, none, none, none]) := by
    simp [e1, mkFn, isListAt, slots, slot0, mSeq, mAsg, mRet, mIfS, mDrop, mB, bnd, Mi.ret, thaw, thawR, mVal, valR, mVar, mC, mBin, mUn, op1, op2, look, opN, lookAll, mCall, aT, aV, aNil, mStore, okSet, isT, asB, mTup, mLst, valsOf, mNx, outIo, retR, Md.isOwn, Md.isIo, Md.isLk, fI, mIf, mAnd, mOr, mNot, mAndV, mOrV, mChain, mPar, mPar3, mF, mFk, callF, callIo, putIo, freezeBy, flatD, flatAll, flatY, mayGive, notSlot, gath, mAsgG, gT, gsCons, gsNil, gIx, gN, setIx, mSetIx, ownAt, mApp, appTo, mIsi, isiD, isK, kinds, tyD, mSl, mPart, mNoPart, asInt, slD, cutD, lenD, absD, max2D, min2D, gcdD, lcmD, intD, listD, tupleD, allD, boolsOf, divmodD, addD, subD, mulD, fdivD, modD, powD, leD, gtD, geD, isD, isntD, negD, notD, revD, isNone, sizeLine, mMt, mtS, startsD, findD, fmtD, mJs, strD, mFT, callT, mPar3O, mParO, noSlot]
  have a1 : ((mIfS (mNot (mB (mF 2 f_is_row_24 none (aT (mVar 0) (aT (mVar 1) aNil))))) (mRet (mC (.bool false))) mNx)) [some ⟨.val, sd⟩, some ⟨.val, rd⟩, none, none, none, none, none] = some (.ok .nx, [some ⟨.val, sd⟩, some ⟨.val, rd⟩, none, none, none, none, none]) := by
    simp [e2, mkFn, isListAt, slots, slot0, mSeq, mAsg, mRet, mIfS, mDrop, mB, bnd, Mi.ret, thaw, thawR, mVal, valR, mVar, mC, mBin, mUn, op1, op2, look, opN, lookAll, mCall, aT, aV, aNil, mStore, okSet, isT, asB, mTup, mLst, valsOf, mNx, outIo, retR, Md.isOwn, Md.isIo, Md.isLk, fI, mIf, mAnd, mOr, mNot, mAndV, mOrV, mChain, mPar, mPar3, mF, mFk, callF, callIo, putIo, freezeBy, flatD, flatAll, flatY, mayGive, notSlot, gath, mAsgG, gT, gsCons, gsNil, gIx, gN, setIx, mSetIx, ownAt, mApp, appTo, mIsi, isiD, isK, kinds, tyD, mSl, mPart, mNoPart, asInt, slD, cutD, lenD, absD, max2D, min2D, gcdD, lcmD, intD, listD, tupleD, allD, boolsOf, divmodD, addD, subD, mulD, fdivD, modD, powD, leD, gtD, geD, isD, isntD, negD, notD, revD, isNone, sizeLine, mMt, mtS, startsD, findD, fmtD, mJs, strD, mFT, callT, mPar3O, mParO, noSlot]
  have a2 : ((mAsg 2 (mBin subD (mBin mulD (mC (.int 2)) (mCall lenD (aT (mVar 0) aNil))) (mC (.int 2))))) [some ⟨.val, sd⟩, some ⟨.val, rd⟩, none, none, none, none, none] = some (.ok .nx, rI sd rd (2 * n - 2) none none none none) := by
    simp [rI, ln, m2, mkFn, isListAt, slots, slot0, mSeq, mAsg, mRet, mIfS, mDrop, mB, bnd, Mi.ret, thaw, thawR, mVal, valR, mVar, mC, mBin, mUn, op1, op2, look, opN, lookAll, mCall, aT, aV, aNil, mStore, okSet, isT, asB, mTup, mLst, valsOf, mNx, outIo, retR, Md.isOwn, Md.isIo, Md.isLk, fI, mIf, mAnd, mOr, mNot, mAndV, mOrV, mChain, mPar, mPar3, mF, mFk, callF, callIo, putIo, freezeBy, flatD, flatAll, flatY, mayGive, notSlot, gath, mAsgG, gT, gsCons, gsNil, gIx, gN, setIx, mSetIx, ownAt, mApp, appTo, mIsi, isiD, isK, kinds, tyD, mSl, mPart, mNoPart, asInt, slD, cutD, lenD, absD, max2D, min2D, gcdD, lcmD, intD, listD, tupleD, allD, boolsOf, divmodD, addD, subD, mulD, fdivD, modD, powD, leD, gtD, geD, isD, isntD, negD, notD, revD, isNone, sizeLine, mMt, mtS, startsD, findD, fmtD, mJs, strD, mFT, callT, mPar3O, mParO, noSlot, -lenD]
  unfold m_is_even
  rw [seq_nx a0, seq_nx a1, seq_nx a2]
theorem ie_it {sd rd : D} {P : Int} {xs : List D} (e : f_lags_behind [sd, rd] = some (.ok (.fresh xs), .none)) : ((mItD (mF 2 f_lags_behind none (aT (mVar 0) (aT (mVar 1) aNil))))) (rI sd rd P none none none none) = some (.ok ⟨xs, []⟩, rI sd rd P none none none none) := by
  simp [rI, mItD, iterD, e, mkFn, isListAt, slots, slot0, mSeq, mAsg, mRet, mIfS, mDrop, mB, bnd, Mi.ret, thaw, thawR, mVal, valR, mVar, mC, mBin, mUn, op1, op2, look, opN, lookAll, mCall, aT, aV, aNil, mStore, okSet, isT, asB, mTup, mLst, valsOf, mNx, outIo, retR, Md.isOwn, Md.isIo, Md.isLk, fI, mIf, mAnd, mOr, mNot, mAndV, mOrV, mChain, mPar, mPar3, mF, mFk, callF, callIo, putIo, freezeBy, flatD, flatAll, flatY, mayGive, notSlot, gath, mAsgG, gT, gsCons, gsNil, gIx, gN, setIx, mSetIx, ownAt, mApp, appTo, mIsi, isiD, isK, kinds, tyD, mSl, mPart, mNoPart, asInt, slD, cutD, lenD, absD, max2D, min2D, gcdD, lcmD, intD, listD, tupleD, allD, boolsOf, divmodD, addD, subD, mulD, fdivD, modD, powD, ltD, leD, gtD, geD, isD, isntD, negD, notD, ixD, revD, atI, ixN, isNone, sizeLine, eqsD, nesD, eqD, neD, inD, inT, inL, mMt, mtS, startsD, findD, fmtD, mJs, strD, mFT, callT, mPar3O, mParO, noSlot]
theorem ie_end {sd rd : D} {P : Int} {q : Bool} {s3 s4 s5 s6 : Option Slot} (e0 : m_is_even [some ⟨.val, sd⟩, some ⟨.val, rd⟩, none, none, none, none, none] = ((mSeq (mFor (chk (mItD (mF 2 f_lags_behind none (aT (mVar 0) (aT (mVar 1) aNil))))) (gN 3) (mFor (chk (mZip (mVar 3) (mVar 0))) (gT 2 (gsCons (gN 4) (gsCons (gT 2 (gsCons (gN 5) (gsCons (gN 6) gsNil))) gsNil))) (mIfS (mAnd (mB (mBin gtD (mBin mulD (mCall absD (aT (mVar 4) aNil)) (mVar 2)) (mBin mulD (mVar 6) (mBin subD (mVar 2) (mC (.int 1)))))) (mB (mBin gtD (mVar 2) (mC (.int 0))))) (mRet (mC (.bool false))) mNx))) (mRet (mC (.bool true))))) (rI sd rd P none none none none)) (e : ((mFor (chk (mItD (mF 2 f_lags_behind none (aT (mVar 0) (aT (mVar 1) aNil))))) (gN 3) (mFor (chk (mZip (mVar 3) (mVar 0))) (gT 2 (gsCons (gN 4) (gsCons (gT 2 (gsCons (gN 5) (gsCons (gN 6) gsNil))) gsNil))) (mIfS (mAnd (mB (mBin gtD (mBin mulD (mCall absD (aT (mVar 4) aNil)) (mVar 2)) (mBin mulD (mVar 6) (mBin subD (mVar 2) (mC (.int 1)))))) (mB (mBin gtD (mVar 2) (mC (.int 0))))) (mRet (mC (.bool false))) mNx)))) (rI sd rd P none none none none) = some (.ok (flOf (if q then some (.val (.bool false)) else none)), rI sd rd P s3 s4 s5 s6)) : f_is_even [sd, rd] = some (.ok (.val (.bool (!q))), .none) := by
  have em : m_is_even [some ⟨.val, sd⟩, some ⟨.val, rd⟩, none, none, none, none, none] = some (.ok (.rt (.val (.bool (!q)))), rI sd rd P s3 s4 s5 s6) := by
    rw [e0]
    show mSeq ((mFor (chk (mItD (mF 2 f_lags_behind none (aT (mVar 0) (aT (mVar 1) aNil))))) (gN 3) (mFor (chk (mZip (mVar 3) (mVar 0))) (gT 2 (gsCons (gN 4) (gsCons (gT 2 (gsCons (gN 5) (gsCons (gN 6) gsNil))) gsNil))) (mIfS (mAnd (mB (mBin gtD (mBin mulD (mCall absD (aT (mVar 4) aNil)) (mVar 2)) (mBin mulD (mVar 6) (mBin subD (mVar 2) (mC (.int 1)))))) (mB (mBin gtD (mVar 2) (mC (.int 0))))) (mRet (mC (.bool false))) mNx)))) ((mRet (mC (.bool true)))) _ = _
    unfold mSeq bnd
    rw [e]
    cases q with
    | false => simp [flOf, rI, mkFn, isListAt, slots, slot0, mSeq, mAsg, mRet, mIfS, mDrop, mB, bnd, Mi.ret, thaw, thawR, mVal, valR, mVar, mC, mBin, mUn, op1, op2, look, opN, lookAll, mCall, aT, aV, aNil, mStore, okSet, isT, asB, mTup, mLst, valsOf, mNx, outIo, retR, Md.isOwn, Md.isIo, Md.isLk, fI, mIf, mAnd, mOr, mNot, mAndV, mOrV, mChain, mPar, mPar3, mF, mFk, callF, callIo, putIo, freezeBy, flatD, flatAll, flatY, mayGive, notSlot, gath, mAsgG, gT, gsCons, gsNil, gIx, gN, setIx, mSetIx, ownAt, mApp, appTo, mIsi, isiD, isK, kinds, tyD, mSl, mPart, mNoPart, asInt, slD, cutD, lenD, absD, max2D, min2D, gcdD, lcmD, intD, listD, tupleD, allD, boolsOf, divmodD, addD, subD, mulD, fdivD, modD, powD, ltD, leD, gtD, geD, isD, isntD, negD, notD, ixD, revD, atI, ixN, isNone, sizeLine, eqsD, nesD, eqD, neD, inD, inT, inL, mMt, mtS, startsD, findD, fmtD, mJs, strD, mFT, callT, mPar3O, mParO, noSlot]
    | true => rfl
  simp [f_is_even, mkFn, isListAt, slots, slot0, em, outIo, retR]
theorem ie_no {sd rd : D} (e1 : f_want_shares [sd] = some (.ok (.val sd), .none)) (e2 : f_is_row_24 [sd, rd] = some (.ok (.val (.bool false)), .none)) : f_is_even [sd, rd] = some (.ok (.val (.bool false)), .none) := by
  simp [f_is_even, m_is_even, e1, e2, mkFn, isListAt, slots, slot0, mSeq, mAsg, mRet, mIfS, mDrop, mB, bnd, Mi.ret, thaw, thawR, mVal, valR, mVar, mC, mBin, mUn, op1, op2, look, opN, lookAll, mCall, aT, aV, aNil, mStore, okSet, isT, asB, mTup, mLst, valsOf, mNx, outIo, retR, Md.isOwn, Md.isIo, Md.isLk, fI, mIf, mAnd, mOr, mNot, mAndV, mOrV, mChain, mPar, mPar3, mF, mFk, callF, callIo, putIo, freezeBy, flatD, flatAll, flatY, mayGive, notSlot, gath, mAsgG, gT, gsCons, gsNil, gIx, gN, setIx, mSetIx, ownAt, mApp, appTo, mIsi, isiD, isK, kinds, tyD, mSl, mPart, mNoPart, asInt, slD, cutD, lenD, absD, max2D, min2D, gcdD, lcmD, intD, listD, tupleD, allD, boolsOf, divmodD, addD, subD, mulD, fdivD, modD, powD, ltD, leD, gtD, geD, isD, isntD, negD, notD, ixD, revD, atI, ixN, isNone, sizeLine, eqsD, nesD, eqD, neD, inD, inT, inL, mMt, mtS, startsD, findD, fmtD, mJs, strD, mFT, callT, mPar3O, mParO, noSlot]
def evOk (ps : List Nat) (row : List Nat) : Bool := !(allL (shs ps) row).any (badM (shs ps) (pP ps))
theorem pP_len {ps : List Nat} (h : Parts ps) : 2 * (((shs ps).length : Nat) : Int) - 2 = ((pP ps : Nat) : Int) := by
  have l1 := h.l1
  rw [h.len]; unfold pP; omega
theorem pP_lt {ps : List Nat} (h : Parts ps) : pP ps < 2 ^ 30 := by
  have l2 := h.l2
  unfold pP; omega
theorem ev_is_even {ps : List Nat} {b : Bool} {row : List Nat} (h : Parts ps) (hr : ∀ l ∈ row, l < (shs ps).length) (hl : row.length ≤ 5000) : f_is_even [sD (shs ps), rowD b row] = some (.ok (.val (.bool (evOk ps row))), .none) := by
  have l2 := h.l2
  have e0 := ie_a (ev_shares h) (ev_row (b := b) h hr hl) (len_sD (shs ps)) (mulOk_of (a := 60) (b := 60) (by decide) (by rw [h.len]; omega) (by decide) (by decide) (by decide))
  rw [pP_len h] at e0
  have e := ev_lags (b := b) h.one (shs_len h) hr hl
  obtain ⟨s3, s4, s5, s6, lp⟩ := ie_out (ss := shs ps) (rd := rowD b row) (P := pP ps) h.one (pP_lt h) (allL (shs ps) row) (all_ok h.one (shs_len h) hl)
  exact ie_end e0 (for_run (ie_it e) lp)
end K83

namespace K83
open PySem L2 Evl PySem.Spec Mi

/-! ### the law's look at rows -/
def rL (sd rd : D) (P : Int) (s3 : Option Slot) : R := [some ⟨.val, sd⟩, some ⟨.val, rd⟩, some ⟨.val, .int P⟩, s3, none, none]
def fE (P : Nat) : D → D
  | .tuple [.int a, .int u] => .bool (decide ((((P : Nat) : Int) - 1) * u < (if a < 0 then -a else a) * ((P : Nat) : Int)))
  | d => d
theorem lie_lc {sd rd : D} {ss : List (Nat × Nat)} {lg : List Int} {P : Nat} (h : ∀ p ∈ ss, One p) (k : LgOk ss lg) (hP : P < 2 ^ 30) (hs : ss.length ≤ 30) : (mLc (mItD (mVar 3)) (gT 2 (gsCons (gN 4) (gsCons (gN 5) gsNil))) (ret true) (mBin gtD (mBin mulD (mCall absD (aT (mVar 4) aNil)) (mVar 2)) (mBin mulD (mBin subD (mVar 2) (mC (.int 1))) (mVar 5))) [4, 5]) (rL sd rd (P : Nat) (some ⟨.val, lagU ss lg⟩)) = some (.ok (.fresh ((lg.zip ss).map fun x => .bool (decide ((((P : Nat) : Int) - 1) * ((x.2.2 : Nat) : Int) < (if x.1 < 0 then -x.1 else x.1) * ((P : Nat) : Int))))), rL sd rd (P : Nat) (some ⟨.val, lagU ss lg⟩)) := by
  have em : ((lg.zip ss).map fun x => PyData.bool (decide ((((P : Nat) : Int) - 1) * ((x.2.2 : Nat) : Int) < (if x.1 < 0 then -x.1 else x.1) * ((P : Nat) : Int)))) = ((lg.zip ss).map uP).map (fE P) := by
    rw [List.map_map]
    rfl
  rw [em]
  refine lc_run (ρ1 := rL sd rd (P : Nat) (some ⟨.val, lagU ss lg⟩)) (ρe := rL sd rd (P : Nat) (some ⟨.val, lagU ss lg⟩)) (ds := (lg.zip ss).map uP) (by simp [rL, lagU, mItD, iterD, mkFn, isListAt, slots, slot0, mSeq, mAsg, mRet, mIfS, mDrop, mB, bnd, Mi.ret, thaw, thawR, mVal, valR, mVar, mC, mBin, mUn, op1, op2, look, opN, lookAll, mCall, aT, aV, aNil, mStore, okSet, isT, asB, mTup, mLst, valsOf, mNx, outIo, retR, Md.isOwn, Md.isIo, Md.isLk, fI, mIf, mAnd, mOr, mNot, mAndV, mOrV, mChain, mPar, mPar3, mF, mFk, callF, callIo, putIo, freezeBy, flatD, flatAll, flatY, mayGive, notSlot, gath, mAsgG, gT, gsCons, gsNil, gIx, gN, setIx, mSetIx, ownAt, mApp, appTo, mIsi, isiD, isK, kinds, tyD, mSl, mPart, mNoPart, asInt, slD, cutD, lenD, absD, max2D, min2D, gcdD, lcmD, intD, listD, tupleD, allD, boolsOf, divmodD, addD, subD, mulD, fdivD, modD, powD, ltD, leD, gtD, geD, isD, isntD, negD, notD, ixD, revD, atI, ixN, isNone, sizeLine, eqsD, nesD, eqD, neD, inD, inT, inL, mMt, mtS, startsD, findD, fmtD, mJs, strD, mFT, callT, mPar3O, mParO, noSlot]) ?_
  show loopC _ _ _ _ _ (rL sd rd (P : Nat) (some ⟨.val, lagU ss lg⟩)) [] = _
  refine loopC_map (f := fE P) _ [] (by rw [List.length_map, List.length_zip, show sizeLine = 16777216 from rfl]; simp; omega) fun d hd => ?_
  obtain ⟨⟨a, n, u⟩, hz, rfl⟩ := List.mem_map.mp hd
  obtain ⟨i, hi⟩ := List.getElem?_of_mem hz
  obtain ⟨z1, z2⟩ := zip_get hi
  obtain ⟨m1, m2⟩ := e_bnd (a := a) (u := u) (P := P) (k.b a z1) (h (n, u) z2.1).u hP
  have m3 : mulOk (((P : Nat) : Int) - 1) ((u : Nat) : Int) = true := mulOk_of (a := 60) (b := 60) (by omega) (by have := (h (n, u) z2.1).u; rw [Int.natAbs_natCast]; exact this) (by decide) (by decide) (by decide)
  have e : fE P (uP (a, n, u)) = .bool (decide ((((P : Nat) : Int) - 1) * ((u : Nat) : Int) < (if a < 0 then -a else a) * ((P : Nat) : Int))) := rfl
  have ab : absD [.int a] = some (.val (.int (if a < 0 then -a else a))) := rfl
  rw [e]
  generalize lagU ss lg = ld
  refine ⟨[some ⟨.val, sd⟩, some ⟨.val, rd⟩, some ⟨.val, .int (P : Nat)⟩, some ⟨.val, ld⟩, some ⟨.val, .int a⟩, some ⟨.val, .int (u : Nat)⟩], [some ⟨.val, sd⟩, some ⟨.val, rd⟩, some ⟨.val, .int (P : Nat)⟩, some ⟨.val, ld⟩, some ⟨.val, .int a⟩, some ⟨.val, .int (u : Nat)⟩], ?_, ?_, rfl⟩
  · simp [rL, uP, gT, gsCons, gsNil, gN, mStore, okSet, mkFn, isListAt, slots, slot0, mSeq, mAsg, mRet, mIfS, mDrop, mB, bnd, Mi.ret, thaw, thawR, mVal, valR, mVar, mC, mBin, mUn, op1, op2, look, opN, lookAll, mCall, aT, aV, aNil, mStore, okSet, isT, asB, mTup, mLst, valsOf, mNx, outIo, retR, Md.isOwn, Md.isIo, Md.isLk, fI, mIf, mAnd, mOr, mNot, mAndV, mOrV, mChain, mPar, mPar3, mF, mFk, callF, callIo, putIo, freezeBy, flatD, flatAll, flatY, mayGive, notSlot, gath, mAsgG, gT, gsCons, gsNil, gIx, gN, setIx, mSetIx, ownAt, mApp, appTo, mIsi, isiD, isK, kinds, tyD, mSl, mPart, mNoPart, asInt, slD, cutD, lenD, absD, max2D, min2D, gcdD, lcmD, intD, listD, tupleD, allD, boolsOf, divmodD, addD, subD, mulD, fdivD, modD, powD, ltD, leD, gtD, geD, isD, isntD, negD, notD, ixD, revD, atI, ixN, isNone, sizeLine, eqsD, nesD, eqD, neD, inD, inT, inL, mMt, mtS, startsD, findD, fmtD, mJs, strD, mFT, callT, mPar3O, mParO, noSlot]
  · generalize (if a < 0 then -a else a) = b at m1 ab ⊢
    generalize ((P : Nat) : Int) = Pi at m1 m3 ⊢
    simp [ab, m1, m3, mkFn, isListAt, slots, slot0, mSeq, mAsg, mRet, mIfS, mDrop, mB, bnd, Mi.ret, thaw, thawR, mVal, valR, mVar, mC, mBin, mUn, op1, op2, look, opN, lookAll, mCall, aT, aV, aNil, mStore, okSet, isT, asB, mTup, mLst, valsOf, mNx, outIo, retR, Md.isOwn, Md.isIo, Md.isLk, fI, mIf, mAnd, mOr, mNot, mAndV, mOrV, mChain, mPar, mPar3, mF, mFk, callF, callIo, putIo, freezeBy, flatD, flatAll, flatY, mayGive, notSlot, gath, mAsgG, gT, gsCons, gsNil, gIx, gN, setIx, mSetIx, ownAt, mApp, appTo, mIsi, isiD, isK, kinds, tyD, mSl, mPart, mNoPart, asInt, slD, cutD, lenD, absD, max2D, min2D, gcdD, lcmD, intD, listD, tupleD, allD, boolsOf, divmodD, addD, subD, mulD, fdivD, modD, powD, ltD, leD, gtD, geD, isD, isntD, negD, notD, ixD, revD, atI, ixN, isNone, sizeLine, eqsD, nesD, eqD, neD, inD, inT, inL, mMt, mtS, startsD, findD, fmtD, mJs, strD, mFT, callT, mPar3O, mParO, noSlot, -absD]
theorem lie_body {sd rd ld : D} {xs : List D} {P : Int} {q : Bool} (lc : (mLc (mItD (mVar 3)) (gT 2 (gsCons (gN 4) (gsCons (gN 5) gsNil))) (ret true) (mBin gtD (mBin mulD (mCall absD (aT (mVar 4) aNil)) (mVar 2)) (mBin mulD (mBin subD (mVar 2) (mC (.int 1))) (mVar 5))) [4, 5]) (rL sd rd P (some ⟨.val, ld⟩)) = some (.ok (.fresh xs), rL sd rd P (some ⟨.val, ld⟩))) (an : anyD [.list xs] = some (.val (.bool q))) : ((mIfS (mAnd (mB (mBin gtD (mVar 2) (mC (.int 0)))) (mB (mCall anyD (aT (mLc (mItD (mVar 3)) (gT 2 (gsCons (gN 4) (gsCons (gN 5) gsNil))) (ret true) (mBin gtD (mBin mulD (mCall absD (aT (mVar 4) aNil)) (mVar 2)) (mBin mulD (mBin subD (mVar 2) (mC (.int 1))) (mVar 5))) [4, 5]) aNil)))) (mRet (mC (.bool false))) mNx)) (rL sd rd P (some ⟨.val, ld⟩)) = some (.ok (flOf (if decide (0 < P) && q then some (.val (.bool false)) else none)), rL sd rd P (some ⟨.val, ld⟩)) := by
  generalize (mLc (mItD (mVar 3)) (gT 2 (gsCons (gN 4) (gsCons (gN 5) gsNil))) (ret true) (mBin gtD (mBin mulD (mCall absD (aT (mVar 4) aNil)) (mVar 2)) (mBin mulD (mBin subD (mVar 2) (mC (.int 1))) (mVar 5))) [4, 5]) = mm at lc
  unfold rL at lc ⊢
  by_cases h : 0 < P
  · cases q <;> simp [lc, an, h, flOf, ltD, mkFn, isListAt, slots, slot0, mSeq, mAsg, mRet, mIfS, mDrop, mB, bnd, Mi.ret, thaw, thawR, mVal, valR, mVar, mC, mBin, mUn, op1, op2, look, opN, lookAll, mCall, aT, aV, aNil, mStore, okSet, isT, asB, mTup, mLst, valsOf, mNx, outIo, retR, Md.isOwn, Md.isIo, Md.isLk, fI, mIf, mAnd, mOr, mNot, mAndV, mOrV, mChain, mPar, mPar3, mF, mFk, callF, callIo, putIo, freezeBy, flatD, flatAll, flatY, mayGive, notSlot, gath, mAsgG, gT, gsCons, gsNil, gIx, gN, setIx, mSetIx, ownAt, mApp, appTo, mIsi, isiD, isK, kinds, tyD, mSl, mPart, mNoPart, asInt, slD, cutD, lenD, absD, max2D, min2D, gcdD, lcmD, intD, listD, tupleD, allD, boolsOf, divmodD, addD, subD, mulD, fdivD, modD, powD, leD, gtD, geD, isD, isntD, negD, notD, revD, isNone, sizeLine, mMt, mtS, startsD, findD, fmtD, mJs, strD, mFT, callT, mPar3O, mParO, noSlot, -anyD]
  · have h2 : P ≤ 0 := by omega
    simp [h, h2, flOf, ltD, mkFn, isListAt, slots, slot0, mSeq, mAsg, mRet, mIfS, mDrop, mB, bnd, Mi.ret, thaw, thawR, mVal, valR, mVar, mC, mBin, mUn, op1, op2, look, opN, lookAll, mCall, aT, aV, aNil, mStore, okSet, isT, asB, mTup, mLst, valsOf, mNx, outIo, retR, Md.isOwn, Md.isIo, Md.isLk, fI, mIf, mAnd, mOr, mNot, mAndV, mOrV, mChain, mPar, mPar3, mF, mFk, callF, callIo, putIo, freezeBy, flatD, flatAll, flatY, mayGive, notSlot, gath, mAsgG, gT, gsCons, gsNil, gIx, gN, setIx, mSetIx, ownAt, mApp, appTo, mIsi, isiD, isK, kinds, tyD, mSl, mPart, mNoPart, asInt, slD, cutD, lenD, absD, max2D, min2D, gcdD, lcmD, intD, listD, tupleD, allD, boolsOf, divmodD, addD, subD, mulD, fdivD, modD, powD, leD, gtD, geD, isD, isntD, negD, notD, revD, isNone, sizeLine, mMt, mtS, startsD, findD, fmtD, mJs, strD, mFT, callT, mPar3O, mParO, noSlot]
theorem badM_any {ss : List (Nat × Nat)} {P : Nat} (lg : List Int) : (decide ((0 : Int) < ((P : Nat) : Int)) && (lg.zip ss).any fun x => decide ((((P : Nat) : Int) - 1) * ((x.2.2 : Nat) : Int) < (if x.1 < 0 then -x.1 else x.1) * ((P : Nat) : Int))) = badM ss P lg := by
  unfold badM
  by_cases h : (0 : Int) < ((P : Nat) : Int)
  · rw [decide_eq_true h, Bool.true_and]
    congr 1
    funext x
    rw [badE_int, decide_eq_true h, Bool.and_true, Int.mul_comm]
  · rw [decide_eq_false h, Bool.false_and]
    symm
    rw [List.any_eq_false]
    intro x _
    rw [badE_int, decide_eq_false h, Bool.and_false]
    decide
theorem lie_out {ss : List (Nat × Nat)} {sd rd : D} {P : Nat} (h : ∀ p ∈ ss, One p) (hs : ss.length ≤ 30) (hP : P < 2 ^ 30) (ls : List (List Int)) (hl : ∀ lg ∈ ls, LgOk ss lg) :
    ∃ s3, loopF (gN 3) ((mIfS (mAnd (mB (mBin gtD (mVar 2) (mC (.int 0)))) (mB (mCall anyD (aT (mLc (mItD (mVar 3)) (gT 2 (gsCons (gN 4) (gsCons (gN 5) gsNil))) (ret true) (mBin gtD (mBin mulD (mCall absD (aT (mVar 4) aNil)) (mVar 2)) (mBin mulD (mBin subD (mVar 2) (mC (.int 1))) (mVar 5))) [4, 5]) aNil)))) (mRet (mC (.bool false))) mNx)) (ls.map (lagU ss)) (rL sd rd (P : Nat) none) = some (.ok (flOf (if ls.any (badM ss P) then some (.val (.bool false)) else none)), rL sd rd (P : Nat) s3) := by
  rw [items_map _ _ 0]
  obtain ⟨ρ', e, s3, q3, hρ⟩ := loopF_first (g := gN 3) (b := (mIfS (mAnd (mB (mBin gtD (mVar 2) (mC (.int 0)))) (mB (mCall anyD (aT (mLc (mItD (mVar 3)) (gT 2 (gsCons (gN 4) (gsCons (gN 5) gsNil))) (ret true) (mBin gtD (mBin mulD (mCall absD (aT (mVar 4) aNil)) (mVar 2)) (mBin mulD (mBin subD (mVar 2) (mC (.int 1))) (mVar 5))) [4, 5]) aNil)))) (mRet (mC (.bool false))) mNx)) (d := fun _ (x : List Int) => lagU ss x) (t := fun _ (lg : List Int) => if badM ss P lg then some (Res.val (.bool false)) else none)
    (fun ρ => ∃ s3, Vl s3 ∧ ρ = rL sd rd (P : Nat) s3) ls 0 _ ⟨none, .inl rfl, rfl⟩ (fun i lg ρ hlg ⟨s3, h3, hρ⟩ => by
      subst hρ
      have lc := lie_lc (sd := sd) (rd := rd) h (hl lg (List.mem_of_getElem? hlg)) hP hs
      have an := any_of (fun x : Int × (Nat × Nat) => decide ((((P : Nat) : Int) - 1) * ((x.2.2 : Nat) : Int) < (if x.1 < 0 then -x.1 else x.1) * ((P : Nat) : Int))) (lg.zip ss)
      have e := lie_body lc an
      rw [badM_any] at e
      refine ⟨rL sd rd (P : Nat) (some ⟨.val, lagU ss lg⟩), _, ?_, e, _, .inr ⟨_, rfl⟩, rfl⟩
      clear e lc an
      generalize lagU ss lg = ld
      rcases h3 with rfl | ⟨t, rfl⟩ <;> simp [rL, gN, mStore, okSet, mkFn, isListAt, slots, slot0, mSeq, mAsg, mRet, mIfS, mDrop, mB, bnd, Mi.ret, thaw, thawR, mVal, valR, mVar, mC, mBin, mUn, op1, op2, look, opN, lookAll, mCall, aT, aV, aNil, mStore, okSet, isT, asB, mTup, mLst, valsOf, mNx, outIo, retR, Md.isOwn, Md.isIo, Md.isLk, fI, mIf, mAnd, mOr, mNot, mAndV, mOrV, mChain, mPar, mPar3, mF, mFk, callF, callIo, putIo, freezeBy, flatD, flatAll, flatY, mayGive, notSlot, gath, mAsgG, gT, gsCons, gsNil, gIx, gN, setIx, mSetIx, ownAt, mApp, appTo, mIsi, isiD, isK, kinds, tyD, mSl, mPart, mNoPart, asInt, slD, cutD, lenD, absD, max2D, min2D, gcdD, lcmD, intD, listD, tupleD, allD, boolsOf, divmodD, addD, subD, mulD, fdivD, modD, powD, ltD, leD, gtD, geD, isD, isntD, negD, notD, ixD, revD, atI, ixN, isNone, sizeLine, eqsD, nesD, eqD, neD, inD, inT, inL, mMt, mtS, startsD, findD, fmtD, mJs, strD, mFT, callT, mPar3O, mParO, noSlot])
  subst hρ
  rw [first_badM] at e
  exact ⟨s3, e⟩
theorem lie_a {sd rd : D} {n : Int} (ln : lenD [sd] = some (.val (.int n))) (m2 : mulOk 2 n = true) : ((mAsg 2 (mBin subD (mBin mulD (mC (.int 2)) (mCall lenD (aT (mVar 0) aNil))) (mC (.int 2))))) [some ⟨.val, sd⟩, some ⟨.val, rd⟩, none, none, none, none] = some (.ok .nx, rL sd rd (2 * n - 2) none) := by
  simp [rL, ln, m2, mkFn, isListAt, slots, slot0, mSeq, mAsg, mRet, mIfS, mDrop, mB, bnd, Mi.ret, thaw, thawR, mVal, valR, mVar, mC, mBin, mUn, op1, op2, look, opN, lookAll, mCall, aT, aV, aNil, mStore, okSet, isT, asB, mTup, mLst, valsOf, mNx, outIo, retR, Md.isOwn, Md.isIo, Md.isLk, fI, mIf, mAnd, mOr, mNot, mAndV, mOrV, mChain, mPar, mPar3, mF, mFk, callF, callIo, putIo, freezeBy, flatD, flatAll, flatY, mayGive, notSlot, gath, mAsgG, gT, gsCons, gsNil, gIx, gN, setIx, mSetIx, ownAt, mApp, appTo, mIsi, isiD, isK, kinds, tyD, mSl, mPart, mNoPart, asInt, slD, cutD, lenD, absD, max2D, min2D, gcdD, lcmD, intD, listD, tupleD, allD, boolsOf, divmodD, addD, subD, mulD, fdivD, modD, powD, leD, gtD, geD, isD, isntD, negD, notD, revD, isNone, sizeLine, mMt, mtS, startsD, findD, fmtD, mJs, strD, mFT, callT, mPar3O, mParO, noSlot, -lenD]
theorem lie_it {sd rd : D} {P : Int} {xs : List D} (e : f__law_lags [sd, rd] = some (.ok (.fresh xs), .none)) : ((mItD (mF 2 f__law_lags none (aT (mVar 0) (aT (mVar 1) aNil))))) (rL sd rd P none) = some (.ok ⟨xs, []⟩, rL sd rd P none) := by
  simp [rL, mItD, iterD, e, mkFn, isListAt, slots, slot0, mSeq, mAsg, mRet, mIfS, mDrop, mB, bnd, Mi.ret, thaw, thawR, mVal, valR, mVar, mC, mBin, mUn, op1, op2, look, opN, lookAll, mCall, aT, aV, aNil, mStore, okSet, isT, asB, mTup, mLst, valsOf, mNx, outIo, retR, Md.isOwn, Md.isIo, Md.isLk, fI, mIf, mAnd, mOr, mNot, mAndV, mOrV, mChain, mPar, mPar3, mF, mFk, callF, callIo, putIo, freezeBy, flatD, flatAll, flatY, mayGive, notSlot, gath, mAsgG, gT, gsCons, gsNil, gIx, gN, setIx, mSetIx, ownAt, mApp, appTo, mIsi, isiD, isK, kinds, tyD, mSl, mPart, mNoPart, asInt, slD, cutD, lenD, absD, max2D, min2D, gcdD, lcmD, intD, listD, tupleD, allD, boolsOf, divmodD, addD, subD, mulD, fdivD, modD, powD, ltD, leD, gtD, geD, isD, isntD, negD, notD, ixD, revD, atI, ixN, isNone, sizeLine, eqsD, nesD, eqD, neD, inD, inT, inL, mMt, mtS, startsD, findD, fmtD, mJs, strD, mFT, callT, mPar3O, mParO, noSlot]
theorem lie_end {sd rd : D} {P : Int} {q : Bool} {s3 : Option Slot} (e0 : ((mAsg 2 (mBin subD (mBin mulD (mC (.int 2)) (mCall lenD (aT (mVar 0) aNil))) (mC (.int 2))))) [some ⟨.val, sd⟩, some ⟨.val, rd⟩, none, none, none, none] = some (.ok .nx, rL sd rd P none)) (e : ((mFor (chk (mItD (mF 2 f__law_lags none (aT (mVar 0) (aT (mVar 1) aNil))))) (gN 3) (mIfS (mAnd (mB (mBin gtD (mVar 2) (mC (.int 0)))) (mB (mCall anyD (aT (mLc (mItD (mVar 3)) (gT 2 (gsCons (gN 4) (gsCons (gN 5) gsNil))) (ret true) (mBin gtD (mBin mulD (mCall absD (aT (mVar 4) aNil)) (mVar 2)) (mBin mulD (mBin subD (mVar 2) (mC (.int 1))) (mVar 5))) [4, 5]) aNil)))) (mRet (mC (.bool false))) mNx))) (rL sd rd P none) = some (.ok (flOf (if q then some (.val (.bool false)) else none)), rL sd rd P s3)) : f__law_is_even [sd, rd] = some (.ok (.val (.bool (!q))), .none) := by
  have em : m__law_is_even [some ⟨.val, sd⟩, some ⟨.val, rd⟩, none, none, none, none] = some (.ok (.rt (.val (.bool (!q)))), rL sd rd P s3) := by
    unfold m__law_is_even
    rw [seq_nx e0]
    show mSeq ((mFor (chk (mItD (mF 2 f__law_lags none (aT (mVar 0) (aT (mVar 1) aNil))))) (gN 3) (mIfS (mAnd (mB (mBin gtD (mVar 2) (mC (.int 0)))) (mB (mCall anyD (aT (mLc (mItD (mVar 3)) (gT 2 (gsCons (gN 4) (gsCons (gN 5) gsNil))) (ret true) (mBin gtD (mBin mulD (mCall absD (aT (mVar 4) aNil)) (mVar 2)) (mBin mulD (mBin subD (mVar 2) (mC (.int 1))) (mVar 5))) [4, 5]) aNil)))) (mRet (mC (.bool false))) mNx))) ((mRet (mC (.bool true)))) _ = _
    unfold mSeq bnd
    rw [e]
    cases q with
    | false => simp [flOf, rL, mkFn, isListAt, slots, slot0, mSeq, mAsg, mRet, mIfS, mDrop, mB, bnd, Mi.ret, thaw, thawR, mVal, valR, mVar, mC, mBin, mUn, op1, op2, look, opN, lookAll, mCall, aT, aV, aNil, mStore, okSet, isT, asB, mTup, mLst, valsOf, mNx, outIo, retR, Md.isOwn, Md.isIo, Md.isLk, fI, mIf, mAnd, mOr, mNot, mAndV, mOrV, mChain, mPar, mPar3, mF, mFk, callF, callIo, putIo, freezeBy, flatD, flatAll, flatY, mayGive, notSlot, gath, mAsgG, gT, gsCons, gsNil, gIx, gN, setIx, mSetIx, ownAt, mApp, appTo, mIsi, isiD, isK, kinds, tyD, mSl, mPart, mNoPart, asInt, slD, cutD, lenD, absD, max2D, min2D, gcdD, lcmD, intD, listD, tupleD, allD, boolsOf, divmodD, addD, subD, mulD, fdivD, modD, powD, ltD, leD, gtD, geD, isD, isntD, negD, notD, ixD, revD, atI, ixN, isNone, sizeLine, eqsD, nesD, eqD, neD, inD, inT, inL, mMt, mtS, startsD, findD, fmtD, mJs, strD, mFT, callT, mPar3O, mParO, noSlot]
    | true => rfl
  simp [f__law_is_even, mkFn, isListAt, slots, slot0, em, outIo, retR]
theorem ev_lis_even {ps : List Nat} {row : List Nat} (h : Parts ps) (hr : ∀ l ∈ row, l < (shs ps).length) (hl : row.length ≤ 5000) : f__law_is_even [sD (shs ps), .list (ri row)] = some (.ok (.val (.bool (evOk ps row))), .none) := by
  have l2 := h.l2
  have e0 := lie_a (rd := .list (ri row)) (len_sD (shs ps)) (mulOk_of (a := 60) (b := 60) (by decide) (by rw [h.len]; omega) (by decide) (by decide) (by decide))
  rw [pP_len h] at e0
  have e := ev_u h.one (shs_len h) hr hl
  obtain ⟨s3, lp⟩ := lie_out (ss := shs ps) (sd := sD (shs ps)) (rd := .list (ri row)) (P := pP ps) h.one (shs_len h) (pP_lt h) (allL (shs ps) row) (all_ok h.one (shs_len h) hl)
  exact lie_end e0 (for_run (lie_it e) lp)
end K83

namespace K83
open PySem L2 Evl PySem.Spec Mi

/-! ### rows of earliest ends are even, even rows are kept -/
theorem walk_app {ss : List (Nat × Nat)} {l : Nat} : ∀ (row cs : List Nat) (m : Nat), walk ss (row ++ [l]) cs m = walk ss row cs m ++ [lagL ss (inc (row.foldl inc cs) l) (m + row.length + 1)]
  | [], cs, m => rfl
  | r :: row, cs, m => by
    show lagL ss (inc cs r) (m + 1) :: walk ss (row ++ [l]) (inc cs r) (m + 1) = _
    rw [walk_app row (inc cs r) (m + 1)]
    show _ = lagL ss (inc cs r) (m + 1) :: (walk ss row (inc cs r) (m + 1) ++ [lagL ss (inc (row.foldl inc (inc cs r)) l) (m + (row.length + 1) + 1)])
    rw [show m + (row.length + 1) + 1 = m + 1 + row.length + 1 by omega]
theorem evS_fold {ps : List Nat} (h : Parts ps) : ∀ k, k < 2 ^ 30 → (evS (shs ps) (pP ps) k).1 = (evS (shs ps) (pP ps) k).2.foldl inc (zs (shs ps).length)
  | 0, _ => rfl
  | k + 1, hk => by
    obtain ⟨e, i, hi, hx, he⟩ := evS_step h (k := k) (by omega)
    rw [he]
    show inc (evS (shs ps) (pP ps) k).1 i = ((evS (shs ps) (pP ps) k).2 ++ [i]).foldl inc _
    rw [List.foldl_append, ← evS_fold h k (by omega)]
    rfl
theorem ev_lags_of {ps : List Nat} (h : Parts ps) : ∀ k, k < 2 ^ 30 → ∀ lg ∈ allL (shs ps) (evR ps k), ∃ t, t ≤ k ∧ lg = lagL (shs ps) (evS (shs ps) (pP ps) t).1 t
  | 0, _, lg, hm => by
    have hm : lg ∈ [lagL (shs ps) (zs (shs ps).length) 0] := hm
    exact ⟨0, Nat.le_refl _, List.mem_singleton.mp hm⟩
  | k + 1, hk, lg, hm => by
    obtain ⟨e, i, hi, hx, he⟩ := evS_step h (k := k) (by omega)
    obtain ⟨h1, h2, h3, h4⟩ := evS_ok h k (by omega)
    unfold evR at hm
    rw [he] at hm
    unfold allL at hm
    dsimp only at hm
    rw [walk_app, ← evS_fold h k (by omega), h3, Nat.zero_add, ← List.cons_append] at hm
    rcases List.mem_append.mp hm with q | q
    · obtain ⟨t, ht, e⟩ := ev_lags_of h k (by omega) lg q
      exact ⟨t, by omega, e⟩
    · refine ⟨k + 1, Nat.le_refl _, ?_⟩
      rw [List.mem_singleton.mp q, he]
theorem zip_mem {ss : List (Nat × Nat)} {cs : List Nat} {m : Nat} (hl : cs.length = ss.length) {x : Int × (Nat × Nat)} (hx : x ∈ (lagL ss cs m).zip ss) : ∃ i p, ss[i]? = some p ∧ x = (lag p (cs.getD i 0) m, p) := by
  unfold lagL at hx
  rw [zip_lag m ss cs hl] at hx
  obtain ⟨⟨p, c⟩, hz, rfl⟩ := List.mem_map.mp hx
  obtain ⟨i, hi⟩ := List.getElem?_of_mem hz
  rw [List.getElem?_zip_eq_some] at hi
  refine ⟨i, p, hi.1, ?_⟩
  rw [List.getD_eq_getElem?_getD, hi.2]
  rfl
theorem ev_narrow {ps : List Nat} (h : Parts ps) {t : Nat} (ht : t < 2 ^ 29) : badM (shs ps) (pP ps) (lagL (shs ps) (evS (shs ps) (pP ps) t).1 t) = false := by
  obtain ⟨h1, h2, h3, h4⟩ := evS_ok h t (by omega)
  unfold badM
  rw [List.any_eq_false]
  intro x hx
  obtain ⟨i, p, hp, rfl⟩ := zip_mem h1.len hx
  obtain ⟨hi, rfl, q0⟩ := sh_at h hp
  have l1 := h.l1
  unfold badE
  by_cases n2 : 2 ≤ ps.length
  · have R := evS_run h n2 (N := t) (by omega)
    have d := R.due (Nat.le_refl t) hi
    have s := R.soon i t (Nat.le_refl t)
    have S0 := h.s0
    dsimp only at d s ⊢
    have P2 : 2 ≤ pP ps := by unfold pP; omega
    have u1 := sh_le (S := ps.sum) (q := ps.getD i 0) (A := t * pP ps) (B := ((evS (shs ps) (pP ps) t).1.getD i 0 + 1) * pP ps - 1) q0 S0
    have u2 := sh_ge (S := ps.sum) (q := ps.getD i 0) (A := t * pP ps) (B := (evS (shs ps) (pP ps) t).1.getD i 0 * pP ps + 1 - pP ps) q0 S0
    generalize (evS (shs ps) (pP ps) t).1.getD i 0 = c at d s u1 u2 ⊢
    generalize shO ps.sum (ps.getD i 0) = p at u1 u2 ⊢
    obtain ⟨n, u⟩ := p
    dsimp only at u1 u2 ⊢
    generalize ps.getD i 0 = q at d s u1 u2
    generalize pP ps = P at d s u1 u2 P2 ⊢
    generalize ps.sum = S at d s u1 u2 S0
    have e1 : (c + 1) * (P * S) = ((c + 1) * P) * S := (Nat.mul_assoc ..).symm
    have p1 : 1 * 1 ≤ (c + 1) * P := Nat.mul_le_mul (by omega) (by omega)
    have k1 : t * P * n ≤ ((c + 1) * P - 1) * u := by
      refine u1.mpr ?_
      rw [Nat.sub_mul, Nat.one_mul, ← e1, show t * P * q = t * (q * P) by ac_rfl]
      omega
    have k2 : (c * P + 1 - P) * u ≤ t * P * n := by
      refine u2.mpr ?_
      rw [Nat.sub_mul, Nat.add_mul, Nat.one_mul, Nat.mul_assoc, show t * P * q = t * (q * P) by ac_rfl]
      omega
    rw [decide_eq_true (by omega : 0 < P), Bool.true_and, decide_eq_true_eq]
    refine Nat.not_lt.mpr ?_
    have la : lag (n, u) c t = ((t * n : Nat) : Int) - ((c * u : Nat) : Int) := by
      unfold lag
      rw [Int.natCast_mul, Int.natCast_mul]
    rw [la]
    have f1 : t * P * n = t * n * P := by ac_rfl
    have f2 : ((c + 1) * P - 1) * u = c * u * P + (P - 1) * u := by
      rw [Nat.add_mul, Nat.one_mul, Nat.add_sub_assoc (by omega), Nat.add_mul]
      congr 1
      ac_rfl
    have f3 : c * u * P + u ≤ (c * P + 1 - P) * u + P * u := by
      rw [← Nat.add_mul, show c * u * P + u = (c * P + 1) * u by rw [Nat.add_mul, Nat.one_mul]; congr 1; ac_rfl]
      exact Nat.mul_le_mul_right _ (by omega)
    have f4 : P * u = (P - 1) * u + u := by
      rw [Nat.sub_mul, Nat.one_mul]
      have : 1 * u ≤ P * u := Nat.mul_le_mul_right _ (by omega)
      omega
    rw [f1, f2] at k1
    rw [f1] at k2
    generalize (c * P + 1 - P) * u = z at k2 f3
    generalize (P - 1) * u = w at k1 f4 ⊢
    have a1 : ((t * n : Nat) : Int) - ((c * u : Nat) : Int) ≤ 0 ∨ 0 ≤ ((t * n : Nat) : Int) - ((c * u : Nat) : Int) := by omega
    rcases a1 with g | g
    · rw [show (((t * n : Nat) : Int) - ((c * u : Nat) : Int)).natAbs = c * u - t * n by omega, Nat.sub_mul]
      omega
    · rw [show (((t * n : Nat) : Int) - ((c * u : Nat) : Int)).natAbs = t * n - c * u by omega, Nat.sub_mul]
      omega
  · have P0 : pP ps = 0 := by unfold pP; omega
    rw [P0]
    simp
theorem ev_even {ps : List Nat} (h : Parts ps) {k : Nat} (hk : k < 2 ^ 29) : evOk ps (evR ps k) = true := by
  unfold evOk
  rw [Bool.not_eq_true', List.any_eq_false]
  intro lg hm
  obtain ⟨t, ht, rfl⟩ := ev_lags_of h k (by omega) lg hm
  rw [ev_narrow h (by omega)]
  decide
theorem one_walk : ∀ (row : List Nat) (k : Nat), (∀ l ∈ row, l < 1) → ∀ lg ∈ walk [(1, 1)] row [k] k, lg = [0]
  | [], k, _, lg, hm => by cases hm
  | l :: row, k, h, lg, hm => by
    have hl : l = 0 := by have := h l List.mem_cons_self; omega
    subst hl
    have e : inc [k] 0 = [k + 1] := rfl
    have hm : lg ∈ lagL [(1, 1)] (inc [k] 0) (k + 1) :: walk [(1, 1)] row (inc [k] 0) (k + 1) := hm
    rw [e] at hm
    rcases List.mem_cons.mp hm with q | q
    · rw [q]
      simp [lagL, lag]
    · exact one_walk row (k + 1) (fun l hl => h l (List.mem_cons_of_mem _ hl)) lg q
theorem kept_even {ps : List Nat} (h : Parts ps) {row : List Nat} (hr : ∀ l ∈ row, l < (shs ps).length) (he : evOk ps row = true) : brk (shs ps) (allL (shs ps) row) 0 = none := by
  have l1 := h.l1
  have key : (brk (shs ps) (allL (shs ps) row) 0).isSome = false := by
    rw [brk_some, List.any_eq_false]
    intro lg hm
    by_cases n2 : 2 ≤ ps.length
    · unfold evOk at he
      rw [Bool.not_eq_true', List.any_eq_false] at he
      have := he lg hm
      unfold badM at this
      unfold badL
      rw [List.any_eq_true] at this ⊢
      rintro ⟨x, hx, hb⟩
      refine this ⟨x, hx, ?_⟩
      obtain ⟨i, hi⟩ := List.getElem?_of_mem hx
      have u0 := (h.one _ (zip_get hi).2.1).u0
      have P2 : 2 ≤ pP ps := by unfold pP; omega
      obtain ⟨a, n, u⟩ := x
      rw [badQ_abs, abs_nat, decide_eq_true_iff] at hb
      dsimp only at u0 hb ⊢
      unfold badE
      rw [decide_eq_true (by omega : 0 < pP ps), Bool.true_and, decide_eq_true_iff]
      generalize pP ps = P at P2 ⊢
      have : u * P ≤ a.natAbs * P := Nat.mul_le_mul_right _ (by omega)
      have e : (P - 1) * u = u * P - u := by rw [Nat.sub_mul, Nat.one_mul, Nat.mul_comm]
      have : u * 1 ≤ u * P := Nat.mul_le_mul_left _ (by omega)
      omega
    · match ps, h, l1, n2, hr, hm with
      | [q], h, _, _, hr, hm =>
        have q0 := h.pos q List.mem_cons_self
        have e : shs [q] = [(1, 1)] := by
          show [shO [q].sum q] = _
          rw [show [q].sum = q by simp]
          unfold shO
          rw [Nat.gcd_self, Nat.div_self q0]
        rw [e] at hm hr ⊢
        have z : lg = [0] := by
          rcases List.mem_cons.mp hm with w | w
          · rw [w]; rfl
          · exact one_walk row 0 hr lg w
        rw [z]
        decide
      | _ :: _ :: _, _, _, n2, _, _ => exact absurd (by simp) n2
  cases q : brk (shs ps) (allL (shs ps) row) 0 with
  | none => rfl
  | some m => rw [q] at key; cases key
end K83

namespace K83
open PySem L2 Evl PySem.Spec Mi

/-! ### drawn shares -/
def rS (x y : Int) (s1 s2 s3 s4 s5 : Option Slot) : R := [some ⟨.io, .list [.int x, .int y]⟩, s1, s2, s3, s4, s5, none, none]
abbrev iS (i : Int) : Option Slot := some ⟨.val, .int i⟩
theorem s_top {x y : Int} {s1 s2 : Option Slot} {w : Int} (w0 : 0 ≤ w) (w1 : w < 8) : ∃ t : Int, 0 < t ∧ t ≤ 1000000 ∧ (mAsg 4 (mBin ixD (mLst (aV (mC (.int 1)) (aV (mC (.int 3)) (aV (mC (.int 9)) (aV (mC (.int 99)) (aV (mC (.int 5)) (aV (mBin powD (mC (.int 10)) (mC (.int 6))) (aV (mC (.int 4)) (aV (mC (.int 2)) aNil))))))))) (mVar 3))) (rS x y s1 s2 (iS w) none none) = some (.ok .nx, rS x y s1 s2 (iS w) (iS t) none) := by
  have p6 : powOk 10 6 = true := by decide +kernel
  have hw : w = 0 ∨ w = 1 ∨ w = 2 ∨ w = 3 ∨ w = 4 ∨ w = 5 ∨ w = 6 ∨ w = 7 := by omega
  rcases hw with rfl | rfl | rfl | rfl | rfl | rfl | rfl | rfl
  · exact ⟨1, by decide, by decide, by simp [rS, iS, p6, mkFn, isListAt, slots, slot0, mSeq, mAsg, mRet, mIfS, mDrop, mB, bnd, Mi.ret, thaw, thawR, mVal, valR, mVar, mC, mBin, mUn, op1, op2, look, opN, lookAll, mCall, aT, aV, aNil, mStore, okSet, isT, asB, mTup, mLst, valsOf, mNx, outIo, retR, Md.isOwn, Md.isIo, Md.isLk, fI, mIf, mAnd, mOr, mNot, mAndV, mOrV, mChain, mPar, mPar3, mF, mFk, callF, callIo, putIo, freezeBy, flatD, flatAll, flatY, mayGive, notSlot, gath, mAsgG, gT, gsCons, gsNil, gIx, gN, setIx, mSetIx, ownAt, mApp, appTo, mIsi, isiD, isK, kinds, tyD, mSl, mPart, mNoPart, asInt, slD, cutD, lenD, absD, max2D, min2D, gcdD, lcmD, intD, listD, tupleD, allD, boolsOf, divmodD, addD, subD, mulD, fdivD, modD, powD, ltD, leD, gtD, geD, isD, isntD, negD, notD, ixD, revD, atI, ixN, isNone, sizeLine, eqsD, nesD, eqD, neD, inD, inT, inL, mMt, mtS, startsD, findD, fmtD, mJs, strD, mFT, callT, mPar3O, mParO, noSlot]⟩
  · exact ⟨3, by decide, by decide, by simp [rS, iS, p6, mkFn, isListAt, slots, slot0, mSeq, mAsg, mRet, mIfS, mDrop, mB, bnd, Mi.ret, thaw, thawR, mVal, valR, mVar, mC, mBin, mUn, op1, op2, look, opN, lookAll, mCall, aT, aV, aNil, mStore, okSet, isT, asB, mTup, mLst, valsOf, mNx, outIo, retR, Md.isOwn, Md.isIo, Md.isLk, fI, mIf, mAnd, mOr, mNot, mAndV, mOrV, mChain, mPar, mPar3, mF, mFk, callF, callIo, putIo, freezeBy, flatD, flatAll, flatY, mayGive, notSlot, gath, mAsgG, gT, gsCons, gsNil, gIx, gN, setIx, mSetIx, ownAt, mApp, appTo, mIsi, isiD, isK, kinds, tyD, mSl, mPart, mNoPart, asInt, slD, cutD, lenD, absD, max2D, min2D, gcdD, lcmD, intD, listD, tupleD, allD, boolsOf, divmodD, addD, subD, mulD, fdivD, modD, powD, ltD, leD, gtD, geD, isD, isntD, negD, notD, ixD, revD, atI, ixN, isNone, sizeLine, eqsD, nesD, eqD, neD, inD, inT, inL, mMt, mtS, startsD, findD, fmtD, mJs, strD, mFT, callT, mPar3O, mParO, noSlot]⟩
  · exact ⟨9, by decide, by decide, by simp [rS, iS, p6, mkFn, isListAt, slots, slot0, mSeq, mAsg, mRet, mIfS, mDrop, mB, bnd, Mi.ret, thaw, thawR, mVal, valR, mVar, mC, mBin, mUn, op1, op2, look, opN, lookAll, mCall, aT, aV, aNil, mStore, okSet, isT, asB, mTup, mLst, valsOf, mNx, outIo, retR, Md.isOwn, Md.isIo, Md.isLk, fI, mIf, mAnd, mOr, mNot, mAndV, mOrV, mChain, mPar, mPar3, mF, mFk, callF, callIo, putIo, freezeBy, flatD, flatAll, flatY, mayGive, notSlot, gath, mAsgG, gT, gsCons, gsNil, gIx, gN, setIx, mSetIx, ownAt, mApp, appTo, mIsi, isiD, isK, kinds, tyD, mSl, mPart, mNoPart, asInt, slD, cutD, lenD, absD, max2D, min2D, gcdD, lcmD, intD, listD, tupleD, allD, boolsOf, divmodD, addD, subD, mulD, fdivD, modD, powD, ltD, leD, gtD, geD, isD, isntD, negD, notD, ixD, revD, atI, ixN, isNone, sizeLine, eqsD, nesD, eqD, neD, inD, inT, inL, mMt, mtS, startsD, findD, fmtD, mJs, strD, mFT, callT, mPar3O, mParO, noSlot]⟩
  · exact ⟨99, by decide, by decide, by simp [rS, iS, p6, mkFn, isListAt, slots, slot0, mSeq, mAsg, mRet, mIfS, mDrop, mB, bnd, Mi.ret, thaw, thawR, mVal, valR, mVar, mC, mBin, mUn, op1, op2, look, opN, lookAll, mCall, aT, aV, aNil, mStore, okSet, isT, asB, mTup, mLst, valsOf, mNx, outIo, retR, Md.isOwn, Md.isIo, Md.isLk, fI, mIf, mAnd, mOr, mNot, mAndV, mOrV, mChain, mPar, mPar3, mF, mFk, callF, callIo, putIo, freezeBy, flatD, flatAll, flatY, mayGive, notSlot, gath, mAsgG, gT, gsCons, gsNil, gIx, gN, setIx, mSetIx, ownAt, mApp, appTo, mIsi, isiD, isK, kinds, tyD, mSl, mPart, mNoPart, asInt, slD, cutD, lenD, absD, max2D, min2D, gcdD, lcmD, intD, listD, tupleD, allD, boolsOf, divmodD, addD, subD, mulD, fdivD, modD, powD, ltD, leD, gtD, geD, isD, isntD, negD, notD, ixD, revD, atI, ixN, isNone, sizeLine, eqsD, nesD, eqD, neD, inD, inT, inL, mMt, mtS, startsD, findD, fmtD, mJs, strD, mFT, callT, mPar3O, mParO, noSlot]⟩
  · exact ⟨5, by decide, by decide, by simp [rS, iS, p6, mkFn, isListAt, slots, slot0, mSeq, mAsg, mRet, mIfS, mDrop, mB, bnd, Mi.ret, thaw, thawR, mVal, valR, mVar, mC, mBin, mUn, op1, op2, look, opN, lookAll, mCall, aT, aV, aNil, mStore, okSet, isT, asB, mTup, mLst, valsOf, mNx, outIo, retR, Md.isOwn, Md.isIo, Md.isLk, fI, mIf, mAnd, mOr, mNot, mAndV, mOrV, mChain, mPar, mPar3, mF, mFk, callF, callIo, putIo, freezeBy, flatD, flatAll, flatY, mayGive, notSlot, gath, mAsgG, gT, gsCons, gsNil, gIx, gN, setIx, mSetIx, ownAt, mApp, appTo, mIsi, isiD, isK, kinds, tyD, mSl, mPart, mNoPart, asInt, slD, cutD, lenD, absD, max2D, min2D, gcdD, lcmD, intD, listD, tupleD, allD, boolsOf, divmodD, addD, subD, mulD, fdivD, modD, powD, ltD, leD, gtD, geD, isD, isntD, negD, notD, ixD, revD, atI, ixN, isNone, sizeLine, eqsD, nesD, eqD, neD, inD, inT, inL, mMt, mtS, startsD, findD, fmtD, mJs, strD, mFT, callT, mPar3O, mParO, noSlot]⟩
  · exact ⟨1000000, by decide, by decide, by simp [rS, iS, p6, mkFn, isListAt, slots, slot0, mSeq, mAsg, mRet, mIfS, mDrop, mB, bnd, Mi.ret, thaw, thawR, mVal, valR, mVar, mC, mBin, mUn, op1, op2, look, opN, lookAll, mCall, aT, aV, aNil, mStore, okSet, isT, asB, mTup, mLst, valsOf, mNx, outIo, retR, Md.isOwn, Md.isIo, Md.isLk, fI, mIf, mAnd, mOr, mNot, mAndV, mOrV, mChain, mPar, mPar3, mF, mFk, callF, callIo, putIo, freezeBy, flatD, flatAll, flatY, mayGive, notSlot, gath, mAsgG, gT, gsCons, gsNil, gIx, gN, setIx, mSetIx, ownAt, mApp, appTo, mIsi, isiD, isK, kinds, tyD, mSl, mPart, mNoPart, asInt, slD, cutD, lenD, absD, max2D, min2D, gcdD, lcmD, intD, listD, tupleD, allD, boolsOf, divmodD, addD, subD, mulD, fdivD, modD, powD, ltD, leD, gtD, geD, isD, isntD, negD, notD, ixD, revD, atI, ixN, isNone, sizeLine, eqsD, nesD, eqD, neD, inD, inT, inL, mMt, mtS, startsD, findD, fmtD, mJs, strD, mFT, callT, mPar3O, mParO, noSlot]⟩
  · exact ⟨4, by decide, by decide, by simp [rS, iS, p6, mkFn, isListAt, slots, slot0, mSeq, mAsg, mRet, mIfS, mDrop, mB, bnd, Mi.ret, thaw, thawR, mVal, valR, mVar, mC, mBin, mUn, op1, op2, look, opN, lookAll, mCall, aT, aV, aNil, mStore, okSet, isT, asB, mTup, mLst, valsOf, mNx, outIo, retR, Md.isOwn, Md.isIo, Md.isLk, fI, mIf, mAnd, mOr, mNot, mAndV, mOrV, mChain, mPar, mPar3, mF, mFk, callF, callIo, putIo, freezeBy, flatD, flatAll, flatY, mayGive, notSlot, gath, mAsgG, gT, gsCons, gsNil, gIx, gN, setIx, mSetIx, ownAt, mApp, appTo, mIsi, isiD, isK, kinds, tyD, mSl, mPart, mNoPart, asInt, slD, cutD, lenD, absD, max2D, min2D, gcdD, lcmD, intD, listD, tupleD, allD, boolsOf, divmodD, addD, subD, mulD, fdivD, modD, powD, ltD, leD, gtD, geD, isD, isntD, negD, notD, ixD, revD, atI, ixN, isNone, sizeLine, eqsD, nesD, eqD, neD, inD, inT, inL, mMt, mtS, startsD, findD, fmtD, mJs, strD, mFT, callT, mPar3O, mParO, noSlot]⟩
  · exact ⟨2, by decide, by decide, by simp [rS, iS, p6, mkFn, isListAt, slots, slot0, mSeq, mAsg, mRet, mIfS, mDrop, mB, bnd, Mi.ret, thaw, thawR, mVal, valR, mVar, mC, mBin, mUn, op1, op2, look, opN, lookAll, mCall, aT, aV, aNil, mStore, okSet, isT, asB, mTup, mLst, valsOf, mNx, outIo, retR, Md.isOwn, Md.isIo, Md.isLk, fI, mIf, mAnd, mOr, mNot, mAndV, mOrV, mChain, mPar, mPar3, mF, mFk, callF, callIo, putIo, freezeBy, flatD, flatAll, flatY, mayGive, notSlot, gath, mAsgG, gT, gsCons, gsNil, gIx, gN, setIx, mSetIx, ownAt, mApp, appTo, mIsi, isiD, isK, kinds, tyD, mSl, mPart, mNoPart, asInt, slD, cutD, lenD, absD, max2D, min2D, gcdD, lcmD, intD, listD, tupleD, allD, boolsOf, divmodD, addD, subD, mulD, fdivD, modD, powD, ltD, leD, gtD, geD, isD, isntD, negD, notD, ixD, revD, atI, ixN, isNone, sizeLine, eqsD, nesD, eqD, neD, inD, inT, inL, mMt, mtS, startsD, findD, fmtD, mJs, strD, mFT, callT, mPar3O, mParO, noSlot]⟩
def PQ (k : Nat) (d : D) : Prop := ∃ q : Nat, 0 < q ∧ q ≤ k ∧ d = .int (q : Nat)
theorem to_nats {k : Nat} : ∀ {xs : List D}, (∀ d ∈ xs, PQ k d) → ∃ ps : List Nat, ps.length = xs.length ∧ (∀ q ∈ ps, 0 < q ∧ q ≤ k) ∧ xs = cD ps
  | [], _ => ⟨[], rfl, fun q h => by (cases h), rfl⟩
  | x :: xs, h => by
    obtain ⟨q, q0, q1, rfl⟩ := h x List.mem_cons_self
    obtain ⟨ps, e1, e2, e3⟩ := to_nats fun d hd => h d (List.mem_cons_of_mem _ hd)
    refine ⟨q :: ps, by simp [e1], fun z hz => ?_, by rw [e3]; rfl⟩
    rcases List.mem_cons.mp hz with r | r
    · subst r; exact ⟨q0, q1⟩
    · exact e2 z r
theorem s_asg {x y x' y' : Int} {s1 s2 s3 s4 : Option Slot} {xs : List D} (lc : (mLc (mRng1 (aT (mVar 2) aNil)) (gN 6) (ret true) (mBin addD (mC (.int 1)) (mF 2 f__law_draw (some 0) (aT (mVar 0) (aT (mVar 4) aNil)))) [6]) (rS x y s1 s2 s3 s4 none) = some (.ok (.fresh xs), rS x' y' s1 s2 s3 s4 none)) : (mAsg 5 (mLc (mRng1 (aT (mVar 2) aNil)) (gN 6) (ret true) (mBin addD (mC (.int 1)) (mF 2 f__law_draw (some 0) (aT (mVar 0) (aT (mVar 4) aNil)))) [6])) (rS x y s1 s2 s3 s4 none) = some (.ok .nx, rS x' y' s1 s2 s3 s4 (some ⟨.own, .list xs⟩)) := by
  generalize (mLc (mRng1 (aT (mVar 2) aNil)) (gN 6) (ret true) (mBin addD (mC (.int 1)) (mF 2 f__law_draw (some 0) (aT (mVar 0) (aT (mVar 4) aNil)))) [6]) = mm at lc
  unfold rS at lc ⊢
  simp [lc, mkFn, isListAt, slots, slot0, mSeq, mAsg, mRet, mIfS, mDrop, mB, bnd, Mi.ret, thaw, thawR, mVal, valR, mVar, mC, mBin, mUn, op1, op2, look, opN, lookAll, mCall, aT, aV, aNil, mStore, okSet, isT, asB, mTup, mLst, valsOf, mNx, outIo, retR, Md.isOwn, Md.isIo, Md.isLk, fI, mIf, mAnd, mOr, mNot, mAndV, mOrV, mChain, mPar, mPar3, mF, mFk, callF, callIo, putIo, freezeBy, flatD, flatAll, flatY, mayGive, notSlot, gath, mAsgG, gT, gsCons, gsNil, gIx, gN, setIx, mSetIx, ownAt, mApp, appTo, mIsi, isiD, isK, kinds, tyD, mSl, mPart, mNoPart, asInt, slD, cutD, lenD, absD, max2D, min2D, gcdD, lcmD, intD, listD, tupleD, allD, boolsOf, divmodD, addD, subD, mulD, fdivD, modD, powD, leD, gtD, geD, isD, isntD, negD, notD, revD, isNone, sizeLine, mMt, mtS, startsD, findD, fmtD, mJs, strD, mFT, callT, mPar3O, mParO, noSlot]
theorem s_lc {x y : Int} {s1 : Option Slot} {m : Nat} {w t : Int} (h : PotOk (.list [.int x, .int y])) (hm : m ≤ 30) (t0 : 0 < t) (t1 : t ≤ 1000000) : ∃ (ps : List Nat) (x' y' : Int), ps.length = m ∧ (∀ q ∈ ps, 0 < q ∧ q ≤ 1000000) ∧ PotOk (.list [.int x', .int y']) ∧
    (mAsg 5 (mLc (mRng1 (aT (mVar 2) aNil)) (gN 6) (ret true) (mBin addD (mC (.int 1)) (mF 2 f__law_draw (some 0) (aT (mVar 0) (aT (mVar 4) aNil)))) [6])) (rS x y s1 (iS (m : Nat)) (iS w) (iS t) none) = some (.ok .nx, rS x' y' s1 (iS (m : Nat)) (iS w) (iS t) (some ⟨.own, .list (cD ps)⟩)) := by
  have pw : (1000000 : Nat) < 2 ^ 9000 := Nat.lt_of_lt_of_le (by decide : 1000000 < 2 ^ 20) (Nat.pow_le_pow_right (by decide) (by decide))
  obtain ⟨xs, ρ', e, ⟨x', y', hp, hρ⟩, hx, hlen⟩ := loopC_inv (g := gN 6) (e := (mBin addD (mC (.int 1)) (mF 2 f__law_draw (some 0) (aT (mVar 0) (aT (mVar 4) aNil))))) (vs := [6]) (fun ρ => ∃ x y, PotOk (.list [.int x, .int y]) ∧ ρ = rS x y s1 (iS (m : Nat)) (iS w) (iS t) none) (PQ 1000000) (rangeD 0 m) [] (rS x y s1 (iS (m : Nat)) (iS w) (iS t) none) (by
      rw [rng_nat, List.length_map, List.length_range', show sizeLine = 16777216 from rfl]; simp; omega) ⟨x, y, h, rfl⟩ (fun y hy => by (cases hy)) (fun d _ ρ ⟨x, y, hp, hρ⟩ => by
    subst hρ
    obtain ⟨r, p', r0, r1, hp', e⟩ := ev_draw hp (n := t) t0 (by omega)
    have hp2 := hp'
    obtain ⟨x', y', _, _, _, rfl⟩ := hp'
    refine ⟨[some ⟨.io, .list [.int x, .int y]⟩, s1, iS (m : Nat), iS w, iS t, none, some ⟨.val, d⟩, none], .int (1 + r), [some ⟨.io, .list [.int x', .int y']⟩, s1, iS (m : Nat), iS w, iS t, none, some ⟨.val, d⟩, none], by simp [rS, gN, mStore, okSet], by simp [iS, e, mkFn, isListAt, slots, slot0, mSeq, mAsg, mRet, mIfS, mDrop, mB, bnd, Mi.ret, thaw, thawR, mVal, valR, mVar, mC, mBin, mUn, op1, op2, look, opN, lookAll, mCall, aT, aV, aNil, mStore, okSet, isT, asB, mTup, mLst, valsOf, mNx, outIo, retR, Md.isOwn, Md.isIo, Md.isLk, fI, mIf, mAnd, mOr, mNot, mAndV, mOrV, mChain, mPar, mPar3, mF, mFk, callF, callIo, putIo, freezeBy, flatD, flatAll, flatY, mayGive, notSlot, gath, mAsgG, gT, gsCons, gsNil, gIx, gN, setIx, mSetIx, ownAt, mApp, appTo, mIsi, isiD, isK, kinds, tyD, mSl, mPart, mNoPart, asInt, slD, cutD, lenD, absD, max2D, min2D, gcdD, lcmD, intD, listD, tupleD, allD, boolsOf, divmodD, addD, subD, mulD, fdivD, modD, powD, ltD, leD, gtD, geD, isD, isntD, negD, notD, ixD, revD, atI, ixN, isNone, sizeLine, eqsD, nesD, eqD, neD, inD, inT, inL, mMt, mtS, startsD, findD, fmtD, mJs, strD, mFT, callT, mPar3O, mParO, noSlot], ⟨(1 + r).toNat, by omega, by omega, by rw [Int.toNat_of_nonneg (by omega)]⟩, ⟨x', y', hp2, rfl⟩⟩)
  subst hρ
  obtain ⟨ps, l1, l2, l3⟩ := to_nats hx
  rw [l3] at e
  have hm' : ps.length = m := by
    rw [l1, hlen, rng_nat, List.length_map, List.length_range']
    simp
  refine ⟨ps, x', y', hm', l2, hp, ?_⟩
  have lc : (mLc (mRng1 (aT (mVar 2) aNil)) (gN 6) (ret true) (mBin addD (mC (.int 1)) (mF 2 f__law_draw (some 0) (aT (mVar 0) (aT (mVar 4) aNil)))) [6]) (rS x y s1 (iS (m : Nat)) (iS w) (iS t) none) = some (.ok (.fresh (cD ps)), rS x' y' s1 (iS (m : Nat)) (iS w) (iS t) none) := by
    refine lc_run (ρ1 := rS x y s1 (iS (m : Nat)) (iS w) (iS t) none) (ds := rangeD 0 m) (rng_of ?_ (in62_nat (by omega))) e
    simp [rS, iS, mkFn, isListAt, slots, slot0, mSeq, mAsg, mRet, mIfS, mDrop, mB, bnd, Mi.ret, thaw, thawR, mVal, valR, mVar, mC, mBin, mUn, op1, op2, look, opN, lookAll, mCall, aT, aV, aNil, mStore, okSet, isT, asB, mTup, mLst, valsOf, mNx, outIo, retR, Md.isOwn, Md.isIo, Md.isLk, fI, mIf, mAnd, mOr, mNot, mAndV, mOrV, mChain, mPar, mPar3, mF, mFk, callF, callIo, putIo, freezeBy, flatD, flatAll, flatY, mayGive, notSlot, gath, mAsgG, gT, gsCons, gsNil, gIx, gN, setIx, mSetIx, ownAt, mApp, appTo, mIsi, isiD, isK, kinds, tyD, mSl, mPart, mNoPart, asInt, slD, cutD, lenD, absD, max2D, min2D, gcdD, lcmD, intD, listD, tupleD, allD, boolsOf, divmodD, addD, subD, mulD, fdivD, modD, powD, ltD, leD, gtD, geD, isD, isntD, negD, notD, ixD, revD, atI, ixN, isNone, sizeLine, eqsD, nesD, eqD, neD, inD, inT, inL, mMt, mtS, startsD, findD, fmtD, mJs, strD, mFT, callT, mPar3O, mParO, noSlot]
  exact s_asg lc
theorem s_if {x y : Int} {s1 : Option Slot} {ps : List Nat} {m : Nat} {w t : Int} (h : PotOk (.list [.int x, .int y])) (hm : ps.length = m) (m0 : 0 < m) (hm6 : m ≤ 30) (hq : ∀ q ∈ ps, 0 < q ∧ q ≤ 1000000) : ∃ (ps' : List Nat) (x' y' : Int), ps'.length = m ∧ (∀ q ∈ ps', 0 < q ∧ q ≤ 1000000) ∧ PotOk (.list [.int x', .int y']) ∧
    (mIfS (mB (mBin eqsD (mVar 3) (mC (.int 6)))) (mSetIx 5 (mF 2 f__law_draw (some 0) (aT (mVar 0) (aT (mVar 2) aNil))) (mBin addD (mBin mulD (mC (.int 5)) (mVar 2)) (mF 2 f__law_draw (some 0) (aT (mVar 0) (aT (mC (.int 9)) aNil))))) mNx) (rS x y s1 (iS (m : Nat)) (iS w) (iS t) (some ⟨.own, .list (cD ps)⟩)) = some (.ok .nx, rS x' y' s1 (iS (m : Nat)) (iS w) (iS t) (some ⟨.own, .list (cD ps')⟩)) := by
  have pw : (1000000 : Nat) < 2 ^ 9000 := Nat.lt_of_lt_of_le (by decide : 1000000 < 2 ^ 20) (Nat.pow_le_pow_right (by decide) (by decide))
  have q := eqs_int w 6
  by_cases c : w = 6
  · rw [decide_eq_true c] at q
    obtain ⟨r, p1, r0, r1, h1, e1⟩ := ev_draw h (n := 9) (by decide) (by omega)
    obtain ⟨j, p2, j0, j1, h2, e2⟩ := ev_draw h1 (n := ((m : Nat) : Int)) (by omega) (by omega)
    have h2' := h2
    obtain ⟨x1, y1, _, _, _, rfl⟩ := h1
    obtain ⟨x2, y2, _, _, _, rfl⟩ := h2
    have mo : mulOk 5 ((m : Nat) : Int) = true := mulOk_of (a := 30) (b := 30) (by decide) (by omega) (by decide) (by decide) (by decide)
    have nn : ixN (cD ps).length j = some j.toNat := by
      have := ixN_nat (n := (cD ps).length) (i := j.toNat) (by rw [cD_len]; omega)
      rw [Int.toNat_of_nonneg j0] at this
      exact this
    have es : (cD ps).set j.toNat (.int (5 * ((m : Nat) : Int) + r)) = cD (ps.set j.toNat (5 * m + r.toNat)) := by
      unfold cD
      rw [List.map_set]
      congr 2
      omega
    refine ⟨ps.set j.toNat (5 * m + r.toNat), x2, y2, by rw [List.length_set]; exact hm, fun z hz => ?_, h2', ?_⟩
    · rcases List.mem_or_eq_of_mem_set hz with a | a
      · exact hq z a
      · omega
    · generalize cD (ps.set j.toNat (5 * m + r.toNat)) = ys at es ⊢
      generalize cD ps = xs at nn es ⊢
      generalize ((m : Nat) : Int) = mi at e2 mo es ⊢
      clear c
      unfold rS iS
      simp [mSetIx, setIx, ownAt, q, e1, e2, mo, nn, es, mkFn, isListAt, slots, slot0, mSeq, mAsg, mRet, mIfS, mDrop, mB, bnd, Mi.ret, thaw, thawR, mVal, valR, mVar, mC, mBin, mUn, op1, op2, look, opN, lookAll, mCall, aT, aV, aNil, mStore, okSet, isT, asB, mTup, mLst, valsOf, mNx, outIo, retR, Md.isOwn, Md.isIo, Md.isLk, fI, mIf, mAnd, mOr, mNot, mAndV, mOrV, mChain, mPar, mPar3, mF, mFk, callF, callIo, putIo, freezeBy, flatD, flatAll, flatY, mayGive, notSlot, gath, mAsgG, gT, gsCons, gsNil, gIx, gN, setIx, mSetIx, ownAt, mApp, appTo, mIsi, isiD, isK, kinds, tyD, mSl, mPart, mNoPart, asInt, slD, cutD, lenD, absD, max2D, min2D, gcdD, lcmD, intD, listD, tupleD, allD, boolsOf, divmodD, addD, subD, mulD, fdivD, modD, powD, leD, gtD, geD, isD, isntD, negD, notD, revD, isNone, sizeLine, mMt, mtS, startsD, findD, fmtD, mJs, strD, mFT, callT, mPar3O, mParO, noSlot]
  · rw [decide_eq_false c] at q
    refine ⟨ps, x, y, hm, hq, h, ?_⟩
    generalize cD ps = xs
    clear c
    simp [rS, iS, q, mkFn, isListAt, slots, slot0, mSeq, mAsg, mRet, mIfS, mDrop, mB, bnd, Mi.ret, thaw, thawR, mVal, valR, mVar, mC, mBin, mUn, op1, op2, look, opN, lookAll, mCall, aT, aV, aNil, mStore, okSet, isT, asB, mTup, mLst, valsOf, mNx, outIo, retR, Md.isOwn, Md.isIo, Md.isLk, fI, mIf, mAnd, mOr, mNot, mAndV, mOrV, mChain, mPar, mPar3, mF, mFk, callF, callIo, putIo, freezeBy, flatD, flatAll, flatY, mayGive, notSlot, gath, mAsgG, gT, gsCons, gsNil, gIx, gN, setIx, mSetIx, ownAt, mApp, appTo, mIsi, isiD, isK, kinds, tyD, mSl, mPart, mNoPart, asInt, slD, cutD, lenD, absD, max2D, min2D, gcdD, lcmD, intD, listD, tupleD, allD, boolsOf, divmodD, addD, subD, mulD, fdivD, modD, powD, leD, gtD, geD, isD, isntD, negD, notD, revD, isNone, sizeLine, mMt, mtS, startsD, findD, fmtD, mJs, strD, mFT, callT, mPar3O, mParO, noSlot]
theorem ints_c : ∀ ps : List Nat, intsOf (cD ps) = some (ps.map fun q => ((q : Nat) : Int))
  | [] => rfl
  | q :: ps => by
    show (intsOf (cD ps)).map (((q : Nat) : Int) :: ·) = _
    rw [ints_c ps]
    rfl
theorem sum_c : ∀ ps : List Nat, (ps.map fun q => ((q : Nat) : Int)).sum = ((ps.sum : Nat) : Int)
  | [] => rfl
  | q :: ps => by
    rw [List.map_cons, List.sum_cons, sum_c ps, List.sum_cons, Int.natCast_add]
theorem sumD_c (ps : List Nat) : sumD [.list (cD ps)] = some (.val (.int (ps.sum : Nat))) := by
  simp only [sumD]
  rw [ints_c, Option.map_some, sum_c]
def lf (S : Nat) : D → D
  | .int q => pD (shO S q.toNat)
  | d => d
theorem lf_map (ps : List Nat) : (cD ps).map (lf ps.sum) = (shs ps).map pD := by
  unfold cD shs
  rw [List.map_map, List.map_map]
  exact List.map_congr_left fun q _ => rfl
theorem s_low {x y : Int} {s1 s2 s3 s4 : Option Slot} {ps : List Nat} (h : Parts ps) : (mLc (mItD (mVar 5)) (gN 7) (ret true) (mF 2 f__law_low none (aT (mVar 7) (aT (mCall sumD (aT (mVar 5) aNil)) aNil))) [7]) (rS x y s1 s2 s3 s4 (some ⟨.own, .list (cD ps)⟩)) = some (.ok (.fresh ((shs ps).map pD)), rS x y s1 s2 s3 s4 (some ⟨.own, .list (cD ps)⟩)) := by
  have sm := sumD_c ps
  have S0 := h.s0
  have Sl := h.sm
  have nine : (2 : Nat) ^ 50 < 2 ^ 9000 := by decide +kernel
  rw [← lf_map]
  refine lc_runK (I := ⟨cD ps, [(5, .list (cD ps))]⟩) (ρ1 := rS x y s1 s2 s3 s4 (some ⟨.lock, .list (cD ps)⟩)) (ρe := rS x y s1 s2 s3 s4 (some ⟨.lock, .list (cD ps)⟩)) ?_ (by simp) (by simp [rS, freeAt, Md.isLk]) (by simp) ?_ ?_
  · unfold rS
    generalize cD ps = xs
    simp [mItD, iterD, mkFn, isListAt, slots, slot0, mSeq, mAsg, mRet, mIfS, mDrop, mB, bnd, Mi.ret, thaw, thawR, mVal, valR, mVar, mC, mBin, mUn, op1, op2, look, opN, lookAll, mCall, aT, aV, aNil, mStore, okSet, isT, asB, mTup, mLst, valsOf, mNx, outIo, retR, Md.isOwn, Md.isIo, Md.isLk, fI, mIf, mAnd, mOr, mNot, mAndV, mOrV, mChain, mPar, mPar3, mF, mFk, callF, callIo, putIo, freezeBy, flatD, flatAll, flatY, mayGive, notSlot, gath, mAsgG, gT, gsCons, gsNil, gIx, gN, setIx, mSetIx, ownAt, mApp, appTo, mIsi, isiD, isK, kinds, tyD, mSl, mPart, mNoPart, asInt, slD, cutD, lenD, absD, max2D, min2D, gcdD, lcmD, intD, listD, tupleD, allD, boolsOf, divmodD, addD, subD, mulD, fdivD, modD, powD, ltD, leD, gtD, geD, isD, isntD, negD, notD, ixD, revD, atI, ixN, isNone, sizeLine, eqsD, nesD, eqD, neD, inD, inT, inL, mMt, mtS, startsD, findD, fmtD, mJs, strD, mFT, callT, mPar3O, mParO, noSlot]
  · show loopC _ _ _ _ (cD ps) (rS x y s1 s2 s3 s4 (some ⟨.lock, .list (cD ps)⟩)) [] = _
    refine loopC_map (f := lf ps.sum) _ [] (by rw [cD_len, show sizeLine = 16777216 from rfl]; have := h.l2; simp; omega) fun d hd => ?_
    obtain ⟨q, hq, rfl⟩ := List.mem_map.mp hd
    have e := ev_low (n := q) (u := ps.sum) S0 (by omega)
    have el : lf ps.sum (.int ((q : Nat) : Int)) = .tuple [.int ((q / Nat.gcd q ps.sum : Nat) : Int), .int ((ps.sum / Nat.gcd q ps.sum : Nat) : Int)] := rfl
    rw [el]
    generalize PyData.tuple [.int ((q / Nat.gcd q ps.sum : Nat) : Int), .int ((ps.sum / Nat.gcd q ps.sum : Nat) : Int)] = r at e ⊢
    refine ⟨[some ⟨.io, .list [.int x, .int y]⟩, s1, s2, s3, s4, some ⟨.lock, .list (cD ps)⟩, none, some ⟨.val, .int (q : Nat)⟩], [some ⟨.io, .list [.int x, .int y]⟩, s1, s2, s3, s4, some ⟨.lock, .list (cD ps)⟩, none, some ⟨.val, .int (q : Nat)⟩], ?_, ?_, rfl⟩
    · generalize cD ps = xs
      simp [rS, gN, mStore, okSet]
    · generalize cD ps = xs at sm ⊢
      generalize ((ps.sum : Nat) : Int) = si at sm e
      generalize ((q : Nat) : Int) = qi at e ⊢
      simp [sm, e, mkFn, isListAt, slots, slot0, mSeq, mAsg, mRet, mIfS, mDrop, mB, bnd, Mi.ret, thaw, thawR, mVal, valR, mVar, mC, mBin, mUn, op1, op2, look, opN, lookAll, mCall, aT, aV, aNil, mStore, okSet, isT, asB, mTup, mLst, valsOf, mNx, outIo, retR, Md.isOwn, Md.isIo, Md.isLk, fI, mIf, mAnd, mOr, mNot, mAndV, mOrV, mChain, mPar, mPar3, mF, mFk, callF, callIo, putIo, freezeBy, flatD, flatAll, flatY, mayGive, notSlot, gath, mAsgG, gT, gsCons, gsNil, gIx, gN, setIx, mSetIx, ownAt, mApp, appTo, mIsi, isiD, isK, kinds, tyD, mSl, mPart, mNoPart, asInt, slD, cutD, lenD, absD, max2D, min2D, gcdD, lcmD, intD, listD, tupleD, allD, boolsOf, divmodD, addD, subD, mulD, fdivD, modD, powD, ltD, leD, gtD, geD, isD, isntD, negD, notD, ixD, revD, atI, ixN, isNone, sizeLine, eqsD, nesD, eqD, neD, inD, inT, inL, mMt, mtS, startsD, findD, fmtD, mJs, strD, mFT, callT, mPar3O, mParO, noSlot, -sumD]
  · rfl
theorem s_ret {x y : Int} {s1 s2 s3 s4 s5 : Option Slot} {xs : List D} (lc : (mLc (mItD (mVar 5)) (gN 7) (ret true) (mF 2 f__law_low none (aT (mVar 7) (aT (mCall sumD (aT (mVar 5) aNil)) aNil))) [7]) (rS x y s1 s2 s3 s4 s5) = some (.ok (.fresh xs), rS x y s1 s2 s3 s4 s5)) : (mRet (mCall tupleD (aT (mLc (mItD (mVar 5)) (gN 7) (ret true) (mF 2 f__law_low none (aT (mVar 7) (aT (mCall sumD (aT (mVar 5) aNil)) aNil))) [7]) aNil))) (rS x y s1 s2 s3 s4 s5) = some (.ok (.rt (.val (.tuple xs))), rS x y s1 s2 s3 s4 s5) := by
  generalize (mLc (mItD (mVar 5)) (gN 7) (ret true) (mF 2 f__law_low none (aT (mVar 7) (aT (mCall sumD (aT (mVar 5) aNil)) aNil))) [7]) = mm at lc
  unfold rS at lc ⊢
  simp [lc, mkFn, isListAt, slots, slot0, mSeq, mAsg, mRet, mIfS, mDrop, mB, bnd, Mi.ret, thaw, thawR, mVal, valR, mVar, mC, mBin, mUn, op1, op2, look, opN, lookAll, mCall, aT, aV, aNil, mStore, okSet, isT, asB, mTup, mLst, valsOf, mNx, outIo, retR, Md.isOwn, Md.isIo, Md.isLk, fI, mIf, mAnd, mOr, mNot, mAndV, mOrV, mChain, mPar, mPar3, mF, mFk, callF, callIo, putIo, freezeBy, flatD, flatAll, flatY, mayGive, notSlot, gath, mAsgG, gT, gsCons, gsNil, gIx, gN, setIx, mSetIx, ownAt, mApp, appTo, mIsi, isiD, isK, kinds, tyD, mSl, mPart, mNoPart, asInt, slD, cutD, lenD, absD, max2D, min2D, gcdD, lcmD, intD, listD, tupleD, allD, boolsOf, divmodD, addD, subD, mulD, fdivD, modD, powD, leD, gtD, geD, isD, isntD, negD, notD, revD, isNone, sizeLine, mMt, mtS, startsD, findD, fmtD, mJs, strD, mFT, callT, mPar3O, mParO, noSlot]
theorem sum_le {k : Nat} : ∀ {ps : List Nat}, (∀ q ∈ ps, q ≤ k) → ps.sum ≤ ps.length * k
  | [], _ => by simp
  | q :: ps, h => by
    have h0 := h q List.mem_cons_self
    have ih := sum_le fun z hz => h z (List.mem_cons_of_mem _ hz)
    rw [List.sum_cons, List.length_cons, Nat.add_mul, Nat.one_mul]
    omega
theorem s_fin {x y x' y' mo : Int} {d : D} {s1 s2 s3 s4 s5 : Option Slot} (e : m__law_shares (rS x y (iS mo) none none none none) = some (.ok (.rt (.val d)), rS x' y' s1 s2 s3 s4 s5)) : f__law_shares [.list [.int x, .int y], .int mo] = some (.ok (.val d), .list [.int x', .int y']) := by
  unfold rS iS at e
  simp [f__law_shares, mkFn, isListAt, slots, slot0, e, outIo, retR]
theorem ev_lshares {p : D} {mo : Int} (m0 : 0 < mo) (mo30 : mo ≤ 30) (h : PotOk p) : ∃ (ps : List Nat) (p' : D), Parts ps ∧ PotOk p' ∧ f__law_shares [p, .int mo] = some (.ok (.val (sD (shs ps))), p') := by
  have pw : (1000000 : Nat) < 2 ^ 9000 := Nat.lt_of_lt_of_le (by decide : 1000000 < 2 ^ 20) (Nat.pow_le_pow_right (by decide) (by decide))
  obtain ⟨r, p1, r0, r1, h1, e1⟩ := ev_draw h (n := mo) m0 (by omega)
  obtain ⟨w, p2, w0, w1, h2, e2⟩ := ev_draw h1 (n := 8) (by decide) (by omega)
  obtain ⟨x0, y0, _, _, _, rfl⟩ := h
  obtain ⟨x1, y1, _, _, _, rfl⟩ := h1
  have h2' := h2
  obtain ⟨x2, y2, _, _, _, rfl⟩ := h2
  obtain ⟨m, rfl⟩ : ∃ m : Nat, r = ((m : Nat) : Int) - 1 := ⟨(r + 1).toNat, by omega⟩
  have a0 : (mPar 2 3 (mBin addD (mC (.int 1)) (mF 2 f__law_draw (some 0) (aT (mVar 0) (aT (mVar 1) aNil)))) (mF 2 f__law_draw (some 0) (aT (mVar 0) (aT (mC (.int 8)) aNil)))) (rS x0 y0 (iS mo) none none none none) = some (.ok .nx, rS x2 y2 (iS mo) (iS (m : Nat)) (iS w) none none) := by
    have hs : 1 + (((m : Nat) : Int) - 1) = ((m : Nat) : Int) := by omega
    generalize ((m : Nat) : Int) - 1 = r at e1 hs
    generalize ((m : Nat) : Int) = mi at hs ⊢
    simp [rS, iS, e1, e2, hs, mkFn, isListAt, slots, slot0, mSeq, mAsg, mRet, mIfS, mDrop, mB, bnd, Mi.ret, thaw, thawR, mVal, valR, mVar, mC, mBin, mUn, op1, op2, look, opN, lookAll, mCall, aT, aV, aNil, mStore, okSet, isT, asB, mTup, mLst, valsOf, mNx, outIo, retR, Md.isOwn, Md.isIo, Md.isLk, fI, mIf, mAnd, mOr, mNot, mAndV, mOrV, mChain, mPar, mPar3, mF, mFk, callF, callIo, putIo, freezeBy, flatD, flatAll, flatY, mayGive, notSlot, gath, mAsgG, gT, gsCons, gsNil, gIx, gN, setIx, mSetIx, ownAt, mApp, appTo, mIsi, isiD, isK, kinds, tyD, mSl, mPart, mNoPart, asInt, slD, cutD, lenD, absD, max2D, min2D, gcdD, lcmD, intD, listD, tupleD, allD, boolsOf, divmodD, addD, subD, mulD, fdivD, modD, powD, ltD, leD, gtD, geD, isD, isntD, negD, notD, ixD, revD, atI, ixN, isNone, sizeLine, eqsD, nesD, eqD, neD, inD, inT, inL, mMt, mtS, startsD, findD, fmtD, mJs, strD, mFT, callT, mPar3O, mParO, noSlot]
  obtain ⟨t, t0, t1, a1⟩ := s_top (x := x2) (y := y2) (s1 := iS mo) (s2 := iS (m : Nat)) w0 w1
  obtain ⟨ps, x3, y3, l1, l2, h3, a2⟩ := s_lc (s1 := iS mo) (m := m) (w := w) h2' (by omega) t0 t1
  obtain ⟨ps', x4, y4, l3, l4, h4, a3⟩ := s_if (s1 := iS mo) (w := w) (t := t) h3 l1 (by omega) (by omega) l2
  have P : Parts ps' := ⟨by omega, by omega, fun q hq => (l4 q hq).1, by
    have := sum_le (k := 1000000) fun q hq => (l4 q hq).2
    omega⟩
  have a4 := s_ret (s_low (x := x4) (y := y4) (s1 := iS mo) (s2 := iS (m : Nat)) (s3 := iS w) (s4 := iS t) P)
  refine ⟨ps', _, P, h4, s_fin (s1 := iS mo) (s2 := iS (m : Nat)) (s3 := iS w) (s4 := iS t) (s5 := some ⟨.own, .list (cD ps')⟩) ?_⟩
  unfold m__law_shares
  rw [seq_nx a0, seq_nx a1, seq_nx a2, seq_nx a3]
  exact a4
end K83

namespace K83
open PySem L2 Evl PySem.Spec Mi

/-! ### what repr takes -/
theorem leaves_of : ∀ {d : D}, d.canLay0 = true → d.showable = true → d.leavesShort 1921 = true
  | .none, _, _ => rfl
  | .bool _, _, _ => rfl
  | .int i, _, h => by
    have h : i.natAbs.log2 < 1920 := by simpa [PyData.showable] using h
    simp only [PyData.leavesShort, decide_eq_true_eq]
    have q := int_text_length_le (k := 1920) (by decide) h
    show (Str.ofString (toString i)).length ≤ 1921
    rw [ofString_length]
    exact q
  | .str x, h, _ => by
    have h : PyData.strOk x = true := by simpa [PyData.canLay0] using h
    simp only [PyData.leavesShort]
    unfold PyData.strOk at h
    rw [List.all_eq_true]
    intro c hc
    have := Array.all_eq_true_iff_forall_mem.mp h c (by simpa using hc)
    simp only [decide_eq_true_eq] at this ⊢
    omega
  | .list xs, h, k => by
    simp only [PyData.canLay0] at h
    simp only [PyData.showable] at k
    simp only [PyData.leavesShort]
    exact go h k
  | .tuple xs, h, k => by
    simp only [PyData.canLay0] at h
    simp only [PyData.showable] at k
    simp only [PyData.leavesShort]
    exact go h k
  | .dict _, h, _ => by simp [PyData.canLay0] at h
where
  go : ∀ {xs : List D}, PyData.canLayAll0 xs = true → PyData.showableAll xs = true → PyData.leavesShortAll 1921 xs = true
  | [], _, _ => rfl
  | x :: xs, h, k => by
    simp only [PyData.canLayAll0, Bool.and_eq_true] at h
    simp only [PyData.showableAll, Bool.and_eq_true] at k
    simp only [PyData.leavesShortAll, Bool.and_eq_true]
    exact ⟨leaves_of h.1 k.1, go h.2 k.2⟩
theorem reprOk_of {d : D} (h1 : d.canLay0 = true) (h2 : d.showable = true) (h3 : d.depth ≤ 64) (h4 : d.bulk ≤ 8000) : reprOk d = true := by
  have h := PyData.shown_le_bulk 1921 (by decide) d (leaves_of h1 h2)
  unfold reprOk
  have e : sizeLine = 16777216 := rfl
  simp only [h1, h2, Bool.true_and, Bool.and_eq_true, decide_eq_true_eq]
  exact ⟨h3, by rw [e]; omega⟩
theorem bulk_ri : ∀ row : List Nat, PyData.bulkAll (ri row) = row.length
  | [] => rfl
  | l :: row => by
    show PyData.bulk (.int (l : Nat)) + 1 + PyData.bulkAll (ri row) = _
    rw [bulk_ri row, List.length_cons]
    show 0 + 1 + row.length = _
    omega
theorem lay_ri : ∀ row : List Nat, PyData.canLayAll0 (ri row) = true
  | [] => rfl
  | l :: row => by
    show (PyData.canLay0 (.int (l : Nat)) && PyData.canLayAll0 (ri row)) = true
    rw [lay_ri row]
    rfl
theorem show_ri {n : Nat} (hn : n ≤ 100) : ∀ row : List Nat, (∀ l ∈ row, l < n) → PyData.showableAll (ri row) = true
  | [], _ => rfl
  | l :: row, h => by
    have h0 := h l List.mem_cons_self
    have lg : ((l : Nat) : Int).natAbs.log2 < 1920 := by
      rw [Int.natAbs_natCast]
      exact Nat.lt_trans (lg_of (k := 7) (show l < 2 ^ 7 by omega) (by decide)) (by decide)
    show (PyData.showable (.int (l : Nat)) && PyData.showableAll (ri row)) = true
    rw [show_ri hn row fun x hx => h x (List.mem_cons_of_mem _ hx)]
    simp only [PyData.showable, Bool.and_true, decide_eq_true_eq]
    exact lg
theorem depth_ri : ∀ row : List Nat, PyData.depthAll (ri row) ≤ 1
  | [] => by show (0 : Nat) ≤ 1; omega
  | l :: row => by
    have ih := depth_ri row
    simp [PyData.depthAll, PyData.depth] at ih ⊢
    try omega
theorem ok_row {row : List Nat} {n : Nat} (hn : n ≤ 100) (hr : ∀ l ∈ row, l < n) (hl : row.length ≤ 5000) : reprOk (.list (ri row)) = true := by
  refine reprOk_of ?_ ?_ ?_ ?_
  · simp only [PyData.canLay0]; exact lay_ri row
  · simp only [PyData.showable]; exact show_ri hn row hr
  · have := depth_ri row
    simp only [PyData.depth]
    omega
  · simp only [PyData.bulk]
    rw [bulk_ri]
    omega
theorem repr_of {d : D} (h : reprOk d = true) : reprD [d] = some (.val (.str d.shown)) := by
  simp only [reprD, h, if_true]
theorem nes_bool (q : Bool) : nesD (.bool q) (.bool q) = some (.val (.bool false)) := by
  cases q <;> simp [nesD, neD, SeqAt.shaped, PyData.canLay0, PyData.depth, PyData.eqv]
theorem nes_same (x : Str) : nesD (.str x) (.str x) = some (.val (.bool false)) := by simp [nesD]
theorem eqs_same (x : Str) : eqsD (.str x) (.str x) = some (.val (.bool true)) := by simp [eqsD]
theorem is_opt (o : Option Nat) : isD (optD o) .none = some (.val (.bool o.isNone)) := by
  cases o <;> rfl
theorem mul_two (q : Bool) : mulD (.list [.bool q]) (.int 2) = some (.fresh [.bool q, .bool q]) := by
  have r : repOk 1 2 = true := by decide +kernel
  simp only [mulD, fI, List.length_singleton, r, if_true]
  rfl
theorem ok_bools (q : Bool) : reprOk (.list [.bool q, .bool q]) = true := by
  refine reprOk_of ?_ ?_ ?_ ?_
  · simp [PyData.canLay0, PyData.canLayAll0]
  · simp [PyData.showable, PyData.showableAll]
  · simp [PyData.depth, PyData.depthAll]
  · simp [PyData.bulk, PyData.bulkAll]
end K83

namespace K83
open PySem L2 Evl PySem.Spec Mi

/-! ### even_row -/
theorem ev_want_many {n : Nat} (hn : n ≤ 2400) : f_want_many [.int (n : Nat), .int 0, .int 2400] = some (.ok (.val .none), .none) := by
  have c := ev_is_count (.int (n : Nat))
  have h0 : (0 : Int) ≤ ((n : Nat) : Int) := by omega
  have h1 : ((n : Nat) : Int) ≤ 2400 := by omega
  simp only [decide_eq_true h0] at c
  generalize ((n : Nat) : Int) = i at c h0 h1
  simp [f_want_many, m_want_many, c, h0, h1, mkFn, isListAt, slots, slot0, mSeq, mAsg, mRet, mIfS, mDrop, mB, bnd, Mi.ret, thaw, thawR, mVal, valR, mVar, mC, mBin, mUn, op1, op2, look, opN, lookAll, mCall, aT, aV, aNil, mStore, okSet, isT, asB, mTup, mLst, valsOf, mNx, outIo, retR, Md.isOwn, Md.isIo, Md.isLk, fI, mIf, mAnd, mOr, mNot, mAndV, mOrV, mChain, mPar, mPar3, mF, mFk, callF, callIo, putIo, freezeBy, flatD, flatAll, flatY, mayGive, notSlot, gath, mAsgG, gT, gsCons, gsNil, gIx, gN, setIx, mSetIx, ownAt, mApp, appTo, mIsi, isiD, isK, kinds, tyD, mSl, mPart, mNoPart, asInt, slD, cutD, lenD, absD, max2D, min2D, gcdD, lcmD, intD, listD, tupleD, allD, boolsOf, divmodD, addD, subD, mulD, fdivD, modD, powD, ltD, leD, gtD, geD, isD, isntD, negD, notD, ixD, revD, atI, ixN, isNone, sizeLine, eqsD, nesD, eqD, neD, inD, inT, inL, mMt, mtS, startsD, findD, fmtD, mJs, strD, mFT, callT, mPar3O, mParO, noSlot]
theorem mul_zeroB {k : Nat} (h : k ≤ 5000) : mulD (.list [.int 0]) (.int (k : Nat)) = some (.fresh (List.replicate k (.int 0))) := by
  have r : repOk 1 ((k : Nat) : Int) = true := by
    unfold repOk
    exact decide_eq_true ⟨by omega, by omega, by rw [show sizeLine = 16777216 from rfl]; omega⟩
  simp only [mulD, fI, List.length_singleton, r, if_true, Int.toNat_natCast]
  rw [List.flatten_replicate_singleton]
def rQ (sd md : D) (s2 s3 s4 s5 : Option Slot) : R := [some ⟨.val, sd⟩, some ⟨.val, md⟩, s2, s3, s4, s5]
section
variable {sd : D} {n k : Int} {s2 s3 s4 s5 : Option Slot}
theorem q_a0 (e1 : f_want_shares [sd] = some (.ok (.val sd), .none)) : ((mDrop (mF 1 f_want_shares none (aT (mVar 0) aNil)))) (rQ sd (.int n) none none none none) = some (.ok .nx, rQ sd (.int n) none none none none) := by
  simp [rQ, e1, mkFn, isListAt, slots, slot0, mSeq, mAsg, mRet, mIfS, mDrop, mB, bnd, Mi.ret, thaw, thawR, mVal, valR, mVar, mC, mBin, mUn, op1, op2, look, opN, lookAll, mCall, aT, aV, aNil, mStore, okSet, isT, asB, mTup, mLst, valsOf, mNx, outIo, retR, Md.isOwn, Md.isIo, Md.isLk, fI, mIf, mAnd, mOr, mNot, mAndV, mOrV, mChain, mPar, mPar3, mF, mFk, callF, callIo, putIo, freezeBy, flatD, flatAll, flatY, mayGive, notSlot, gath, mAsgG, gT, gsCons, gsNil, gIx, gN, setIx, mSetIx, ownAt, mApp, appTo, mIsi, isiD, isK, kinds, tyD, mSl, mPart, mNoPart, asInt, slD, cutD, lenD, absD, max2D, min2D, gcdD, lcmD, intD, listD, tupleD, allD, boolsOf, divmodD, addD, subD, mulD, fdivD, modD, powD, leD, gtD, geD, isD, isntD, negD, notD, revD, isNone, sizeLine, mMt, mtS, startsD, findD, fmtD, mJs, strD, mFT, callT, mPar3O, mParO, noSlot]
theorem q_a1 (e1 : f_want_many [.int n, .int 0, .int 2400] = some (.ok (.val .none), .none)) : ((mDrop (mF 3 f_want_many none (aT (mVar 1) (aT (mC (.int 0)) (aT (mC v_MOST_LETTERS) aNil)))))) (rQ sd (.int n) none none none none) = some (.ok .nx, rQ sd (.int n) none none none none) := by
  simp [rQ, v_MOST_LETTERS, e1, mkFn, isListAt, slots, slot0, mSeq, mAsg, mRet, mIfS, mDrop, mB, bnd, Mi.ret, thaw, thawR, mVal, valR, mVar, mC, mBin, mUn, op1, op2, look, opN, lookAll, mCall, aT, aV, aNil, mStore, okSet, isT, asB, mTup, mLst, valsOf, mNx, outIo, retR, Md.isOwn, Md.isIo, Md.isLk, fI, mIf, mAnd, mOr, mNot, mAndV, mOrV, mChain, mPar, mPar3, mF, mFk, callF, callIo, putIo, freezeBy, flatD, flatAll, flatY, mayGive, notSlot, gath, mAsgG, gT, gsCons, gsNil, gIx, gN, setIx, mSetIx, ownAt, mApp, appTo, mIsi, isiD, isK, kinds, tyD, mSl, mPart, mNoPart, asInt, slD, cutD, lenD, absD, max2D, min2D, gcdD, lcmD, intD, listD, tupleD, allD, boolsOf, divmodD, addD, subD, mulD, fdivD, modD, powD, leD, gtD, geD, isD, isntD, negD, notD, revD, isNone, sizeLine, mMt, mtS, startsD, findD, fmtD, mJs, strD, mFT, callT, mPar3O, mParO, noSlot]
theorem q_if1 {z : List D} (ln : lenD [sd] = some (.val (.int k))) (q : eqsD (.int k) (.int 1) = some (.val (.bool true))) (mz : mulD (.list [.int 0]) (.int n) = some (.fresh z)) : ((mIfS (mB (mBin eqsD (mCall lenD (aT (mVar 0) aNil)) (mC (.int 1)))) (mRet (mBin mulD (mLst (aV (mC (.int 0)) aNil)) (mVar 1))) mNx)) (rQ sd (.int n) none none none none) = some (.ok (.rt (.fresh z)), rQ sd (.int n) none none none none) := by
  simp [rQ, ln, q, mz, mkFn, isListAt, slots, slot0, mSeq, mAsg, mRet, mIfS, mDrop, mB, bnd, Mi.ret, thaw, thawR, mVal, valR, mVar, mC, mBin, mUn, op1, op2, look, opN, lookAll, mCall, aT, aV, aNil, mStore, okSet, isT, asB, mTup, mLst, valsOf, mNx, outIo, retR, Md.isOwn, Md.isIo, Md.isLk, fI, mIf, mAnd, mOr, mNot, mAndV, mOrV, mChain, mPar, mPar3, mF, mFk, callF, callIo, putIo, freezeBy, flatD, flatAll, flatY, mayGive, notSlot, gath, mAsgG, gT, gsCons, gsNil, gIx, gN, setIx, mSetIx, ownAt, mApp, appTo, mIsi, isiD, isK, kinds, tyD, mSl, mPart, mNoPart, asInt, slD, cutD, lenD, absD, max2D, min2D, gcdD, lcmD, intD, listD, tupleD, allD, boolsOf, divmodD, addD, subD, mulD, fdivD, modD, powD, leD, gtD, geD, isD, isntD, negD, notD, revD, isNone, sizeLine, mMt, mtS, startsD, findD, fmtD, mJs, strD, mFT, callT, mPar3O, mParO, noSlot, -lenD, -mulD]
theorem q_if0 (ln : lenD [sd] = some (.val (.int k))) (q : eqsD (.int k) (.int 1) = some (.val (.bool false))) : ((mIfS (mB (mBin eqsD (mCall lenD (aT (mVar 0) aNil)) (mC (.int 1)))) (mRet (mBin mulD (mLst (aV (mC (.int 0)) aNil)) (mVar 1))) mNx)) (rQ sd (.int n) none none none none) = some (.ok .nx, rQ sd (.int n) none none none none) := by
  simp [rQ, ln, q, mkFn, isListAt, slots, slot0, mSeq, mAsg, mRet, mIfS, mDrop, mB, bnd, Mi.ret, thaw, thawR, mVal, valR, mVar, mC, mBin, mUn, op1, op2, look, opN, lookAll, mCall, aT, aV, aNil, mStore, okSet, isT, asB, mTup, mLst, valsOf, mNx, outIo, retR, Md.isOwn, Md.isIo, Md.isLk, fI, mIf, mAnd, mOr, mNot, mAndV, mOrV, mChain, mPar, mPar3, mF, mFk, callF, callIo, putIo, freezeBy, flatD, flatAll, flatY, mayGive, notSlot, gath, mAsgG, gT, gsCons, gsNil, gIx, gN, setIx, mSetIx, ownAt, mApp, appTo, mIsi, isiD, isK, kinds, tyD, mSl, mPart, mNoPart, asInt, slD, cutD, lenD, absD, max2D, min2D, gcdD, lcmD, intD, listD, tupleD, allD, boolsOf, divmodD, addD, subD, mulD, fdivD, modD, powD, leD, gtD, geD, isD, isntD, negD, notD, revD, isNone, sizeLine, mMt, mtS, startsD, findD, fmtD, mJs, strD, mFT, callT, mPar3O, mParO, noSlot, -lenD]
theorem q_a3 {z : List D} (ln : lenD [sd] = some (.val (.int k))) (mz : mulD (.list [.int 0]) (.int k) = some (.fresh z)) : ((mParO 2 3 (mBin mulD (mLst (aV (mC (.int 0)) aNil)) (mCall lenD (aT (mVar 0) aNil))) (mLst aNil))) (rQ sd (.int n) none none none none) = some (.ok .nx, rQ sd (.int n) (some ⟨.own, .list z⟩) (some ⟨.own, .list []⟩) none none) := by
  simp [rQ, ln, mz, mkFn, isListAt, slots, slot0, mSeq, mAsg, mRet, mIfS, mDrop, mB, bnd, Mi.ret, thaw, thawR, mVal, valR, mVar, mC, mBin, mUn, op1, op2, look, opN, lookAll, mCall, aT, aV, aNil, mStore, okSet, isT, asB, mTup, mLst, valsOf, mNx, outIo, retR, Md.isOwn, Md.isIo, Md.isLk, fI, mIf, mAnd, mOr, mNot, mAndV, mOrV, mChain, mPar, mPar3, mF, mFk, callF, callIo, putIo, freezeBy, flatD, flatAll, flatY, mayGive, notSlot, gath, mAsgG, gT, gsCons, gsNil, gIx, gN, setIx, mSetIx, ownAt, mApp, appTo, mIsi, isiD, isK, kinds, tyD, mSl, mPart, mNoPart, asInt, slD, cutD, lenD, absD, max2D, min2D, gcdD, lcmD, intD, listD, tupleD, allD, boolsOf, divmodD, addD, subD, mulD, fdivD, modD, powD, leD, gtD, geD, isD, isntD, negD, notD, revD, isNone, sizeLine, mMt, mtS, startsD, findD, fmtD, mJs, strD, mFT, callT, mPar3O, mParO, noSlot, -lenD, -mulD]
theorem q_next {xs fnd : List D} {m i : Int} (ln : lenD [sd] = some (.val (.int k))) (m2 : mulOk 2 k = true) (e : f_next_even [sd, .list xs, .int m, .int (2 * k - 2)] = some (.ok (.val (.int i)), .none)) (h5 : Vl s5) : ((mAsg 5 (mF 4 f_next_even none (aT (mVar 0) (aT (mVar 2) (aT (mVar 4) (aT (mBin subD (mBin mulD (mC (.int 2)) (mCall lenD (aT (mVar 0) aNil))) (mC (.int 2))) aNil))))))) (rQ sd (.int n) (some ⟨.own, .list xs⟩) (some ⟨.own, .list fnd⟩) (iV m) s5) = some (.ok .nx, rQ sd (.int n) (some ⟨.own, .list xs⟩) (some ⟨.own, .list fnd⟩) (iV m) (iV i)) := by
  have mm : mulD (.int 2) (.int k) = some (.val (.int (2 * k))) := by simp [mulD, fI, m2]
  unfold rQ iV
  rcases h5 with rfl | ⟨t, rfl⟩ <;> simp [ln, mm, e, mkFn, isListAt, slots, slot0, mSeq, mAsg, mRet, mIfS, mDrop, mB, bnd, Mi.ret, thaw, thawR, mVal, valR, mVar, mC, mBin, mUn, op1, op2, look, opN, lookAll, mCall, aT, aV, aNil, mStore, okSet, isT, asB, mTup, mLst, valsOf, mNx, outIo, retR, Md.isOwn, Md.isIo, Md.isLk, fI, mIf, mAnd, mOr, mNot, mAndV, mOrV, mChain, mPar, mPar3, mF, mFk, callF, callIo, putIo, freezeBy, flatD, flatAll, flatY, mayGive, notSlot, gath, mAsgG, gT, gsCons, gsNil, gIx, gN, setIx, mSetIx, ownAt, mApp, appTo, mIsi, isiD, isK, kinds, tyD, mSl, mPart, mNoPart, asInt, slD, cutD, lenD, absD, max2D, min2D, gcdD, lcmD, intD, listD, tupleD, allD, boolsOf, divmodD, addD, subD, mulD, fdivD, modD, powD, leD, gtD, geD, isD, isntD, negD, notD, revD, isNone, sizeLine, mMt, mtS, startsD, findD, fmtD, mJs, strD, mFT, callT, mPar3O, mParO, noSlot, -lenD, -mulD]
end
theorem q_tail {sd md : D} {cs row : List Nat} {s4 : Option Slot} {i : Nat} (hi : i < cs.length) (hf : row.length < 5000) : ((mSeq (mSetIx 2 (mVar 5) (mBin addD (mBin ixD (mVar 2) (mVar 5)) (mC (.int 1)))) (mApp 3 (mVar 5)))) (rQ sd md (some ⟨.own, .list (cD cs)⟩) (some ⟨.own, .list (ri row)⟩) s4 (iV (i : Nat))) = some (.ok .nx, rQ sd md (some ⟨.own, .list (cD (inc cs i))⟩) (some ⟨.own, .list (ri (row ++ [i]))⟩) s4 (iV (i : Nat))) := by
  have g := cD_get hi
  have ix := ixD_list g
  have nn : ixN (cD cs).length ((i : Nat) : Int) = some i := ixN_nat (by rw [cD_len]; exact hi)
  have s := cD_set cs i
  have er : ri (row ++ [i]) = ri row ++ [.int (i : Nat)] := by simp [ri]
  have hl : (ri row).length < 16777216 := by rw [List.length_map]; omega
  rw [er]
  unfold rQ iV
  generalize ri row = fnd at hl ⊢
  generalize cD (inc cs i) = ys at s ⊢
  generalize cD cs = xs at ix nn s ⊢
  generalize cs.getD i 0 = c at ix s
  clear g hi
  simp [mSetIx, setIx, ownAt, mApp, appTo, ix, nn, s, hl, mkFn, isListAt, slots, slot0, mSeq, mAsg, mRet, mIfS, mDrop, mB, bnd, Mi.ret, thaw, thawR, mVal, valR, mVar, mC, mBin, mUn, op1, op2, look, opN, lookAll, mCall, aT, aV, aNil, mStore, okSet, isT, asB, mTup, mLst, valsOf, mNx, outIo, retR, Md.isOwn, Md.isIo, Md.isLk, fI, mIf, mAnd, mOr, mNot, mAndV, mOrV, mChain, mPar, mPar3, mF, mFk, callF, callIo, putIo, freezeBy, flatD, flatAll, flatY, mayGive, notSlot, gath, mAsgG, gT, gsCons, gsNil, gIx, gN, setIx, mSetIx, ownAt, mApp, appTo, mIsi, isiD, isK, kinds, tyD, mSl, mPart, mNoPart, asInt, slD, cutD, lenD, absD, max2D, min2D, gcdD, lcmD, intD, listD, tupleD, allD, boolsOf, divmodD, addD, subD, mulD, fdivD, modD, powD, leD, gtD, geD, isD, isntD, negD, notD, revD, isNone, sizeLine, mMt, mtS, startsD, findD, fmtD, mJs, strD, mFT, callT, mPar3O, mParO, noSlot]
theorem q_it {sd : D} {n : Nat} {s2 s3 : Option Slot} (hn : n ≤ 5000) : ((mRng1 (aT (mVar 1) aNil))) (rQ sd (.int (n : Nat)) s2 s3 none none) = some (.ok ⟨rangeD 0 n, []⟩, rQ sd (.int (n : Nat)) s2 s3 none none) := by
  refine rng_of ?_ (in62_nat hn)
  unfold rQ
  simp [mkFn, isListAt, slots, slot0, mSeq, mAsg, mRet, mIfS, mDrop, mB, bnd, Mi.ret, thaw, thawR, mVal, valR, mVar, mC, mBin, mUn, op1, op2, look, opN, lookAll, mCall, aT, aV, aNil, mStore, okSet, isT, asB, mTup, mLst, valsOf, mNx, outIo, retR, Md.isOwn, Md.isIo, Md.isLk, fI, mIf, mAnd, mOr, mNot, mAndV, mOrV, mChain, mPar, mPar3, mF, mFk, callF, callIo, putIo, freezeBy, flatD, flatAll, flatY, mayGive, notSlot, gath, mAsgG, gT, gsCons, gsNil, gIx, gN, setIx, mSetIx, ownAt, mApp, appTo, mIsi, isiD, isK, kinds, tyD, mSl, mPart, mNoPart, asInt, slD, cutD, lenD, absD, max2D, min2D, gcdD, lcmD, intD, listD, tupleD, allD, boolsOf, divmodD, addD, subD, mulD, fdivD, modD, powD, leD, gtD, geD, isD, isntD, negD, notD, revD, isNone, sizeLine, mMt, mtS, startsD, findD, fmtD, mJs, strD, mFT, callT, mPar3O, mParO, noSlot]
theorem q_fin {sd md : D} {ρ : R} {r : Res} {xs : List D} (e : m_even_row (rQ sd md none none none none) = some (.ok (.rt r), ρ)) (h3 : retR r ρ = some (.fresh xs)) : f_even_row [sd, md] = some (.ok (.fresh xs), .none) := by
  unfold rQ at e
  simp [f_even_row, mkFn, isListAt, slots, slot0, e, outIo, h3]
theorem one_row {ps : List Nat} (h : Parts ps) (n1 : ps.length = 1) {k : Nat} (hk : k < 2 ^ 30) : ri (evR ps k) = List.replicate k (.int 0) := by
  obtain ⟨_, _, h3, h4⟩ := evS_ok h k hk
  have : evR ps k = List.replicate k 0 := by
    rw [List.eq_replicate_iff]
    refine ⟨h3, fun l hl => ?_⟩
    have := h4 l hl
    rw [h.len, n1] at this
    omega
  rw [this, ri, List.map_replicate]
  rfl
theorem ev_even_row {ps : List Nat} (h : Parts ps) {n : Nat} (hn : n ≤ 1000) : f_even_row [sD (shs ps), .int (n : Nat)] = some (.ok (.fresh (ri (evR ps n))), .none) := by
  have l1 := h.l1
  have l2 := h.l2
  have ln := len_sD (shs ps)
  have a0 := q_a0 (n := (n : Nat)) (ev_shares h)
  have a1 := q_a1 (sd := sD (shs ps)) (ev_want_many (n := n) (by omega))
  have q := eqs_int (((shs ps).length : Nat) : Int) 1
  by_cases n1 : ps.length = 1
  · rw [decide_eq_true (by rw [h.len]; omega)] at q
    have a2 := q_if1 ln q (mul_zeroB (k := n) (by omega))
    rw [← one_row h n1 (by omega)] at a2
    refine q_fin (r := .fresh (ri (evR ps n))) (ρ := rQ (sD (shs ps)) (.int (n : Nat)) none none none none) ?_ rfl
    unfold m_even_row
    rw [seq_nx a0, seq_nx a1]
    simp only [mSeq, bnd, a2]
    rfl
  · rw [decide_eq_false (by rw [h.len]; omega)] at q
    have a2 := q_if0 (n := (n : Nat)) ln q
    have a3 := q_a3 (n := (n : Nat)) ln (mul_zero (k := (shs ps).length) (by have := shs_len h; omega))
    rw [← cD_zs] at a3
    obtain ⟨ρ', e, s4, s5, q4, q5, hρ⟩ := loopF_run (g := gN 4) (b := (mSeq (mAsg 5 (mF 4 f_next_even none (aT (mVar 0) (aT (mVar 2) (aT (mVar 4) (aT (mBin subD (mBin mulD (mC (.int 2)) (mCall lenD (aT (mVar 0) aNil))) (mC (.int 2))) aNil)))))) (mSeq (mSetIx 2 (mVar 5) (mBin addD (mBin ixD (mVar 2) (mVar 5)) (mC (.int 1)))) (mApp 3 (mVar 5))))) (fun k ρ => ∃ s4 s5, Vl s4 ∧ Vl s5 ∧ ρ = rQ (sD (shs ps)) (.int (n : Nat)) (some ⟨.own, .list (cD (evS (shs ps) (pP ps) k).1)⟩) (some ⟨.own, .list (ri (evS (shs ps) (pP ps) k).2)⟩) s4 s5) (rangeD 0 n) 0
      (rQ (sD (shs ps)) (.int (n : Nat)) (some ⟨.own, .list (cD (zs (shs ps).length))⟩) (some ⟨.own, .list []⟩) none none) ⟨none, none, .inl rfl, .inl rfl, rfl⟩ (by
      intro i ρ d hd ⟨s4, s5, q4, q5, hρ⟩
      subst hρ
      have hi := (List.getElem?_eq_some_iff.mp hd).1
      rw [rng_nat, List.length_map, List.length_range'] at hi
      have ed : d = .int ((0 + i : Nat) : Int) := by
        rw [rng_nat, List.getElem?_map, List.getElem?_range' hi] at hd
        simp at hd
        rw [Nat.zero_add]
        exact hd.symm
      subst ed
      obtain ⟨h1, h2, h3, h4⟩ := evS_ok h (0 + i) (by omega)
      obtain ⟨e0, j, hj, hx, he⟩ := evS_step h (k := 0 + i) (by omega)
      have nx := ev_next h.one h1 (P := pP ps) (by unfold pP; omega) (pP_lt h)
      rw [hx, ← pP_len h] at nx
      have b0 := q_next (n := (n : Nat)) (fnd := ri (evS (shs ps) (pP ps) (0 + i)).2) ln (mulOk_of (a := 60) (b := 60) (by decide) (by rw [h.len]; omega) (by decide) (by decide) (by decide)) nx q5
      have b1 := q_tail (sd := sD (shs ps)) (md := .int (n : Nat)) (cs := (evS (shs ps) (pP ps) (0 + i)).1) (row := (evS (shs ps) (pP ps) (0 + i)).2) (s4 := iV ((0 + i : Nat) : Int)) (i := j) (by rw [h1.len, h.len]; exact hj) (by rw [h3]; omega)
      refine ⟨rQ (sD (shs ps)) (.int (n : Nat)) (some ⟨.own, .list (cD (evS (shs ps) (pP ps) (0 + i)).1)⟩) (some ⟨.own, .list (ri (evS (shs ps) (pP ps) (0 + i)).2)⟩) (iV ((0 + i : Nat) : Int)) s5, _, .nx, ?_, ?_, .inl rfl, iV ((0 + i : Nat) : Int), iV (j : Nat), .inr ⟨_, rfl⟩, .inr ⟨_, rfl⟩, rfl⟩
      · clear b0 b1 nx
        unfold rQ iV
        generalize cD _ = xs
        generalize ri _ = ys
        generalize sD (shs ps) = sd
        rcases q4 with rfl | ⟨t, rfl⟩ <;> simp [gN, mStore, okSet]
      · rw [he]
        show mSeq _ _ _ = _
        rw [seq_nx b0]
        exact b1)
    subst hρ
    have hl : (rangeD 0 n).length = n := by rw [rng_nat, List.length_map, List.length_range']
    rw [hl, Nat.zero_add] at e
    refine q_fin (r := .slot 3) (ρ := rQ (sD (shs ps)) (.int (n : Nat)) (some ⟨.own, .list (cD (evS (shs ps) (pP ps) n).1)⟩) (some ⟨.own, .list (ri (evS (shs ps) (pP ps) n).2)⟩) s4 s5) ?_ rfl
    have F : ((mFor (chk (mRng1 (aT (mVar 1) aNil))) (gN 4) (mSeq (mAsg 5 (mF 4 f_next_even none (aT (mVar 0) (aT (mVar 2) (aT (mVar 4) (aT (mBin subD (mBin mulD (mC (.int 2)) (mCall lenD (aT (mVar 0) aNil))) (mC (.int 2))) aNil)))))) (mSeq (mSetIx 2 (mVar 5) (mBin addD (mBin ixD (mVar 2) (mVar 5)) (mC (.int 1)))) (mApp 3 (mVar 5)))))) (rQ (sD (shs ps)) (.int (n : Nat)) (some ⟨.own, .list (cD (zs (shs ps).length))⟩) (some ⟨.own, .list []⟩) none none) = _ := for_run (q_it (by omega)) e
    unfold m_even_row
    rw [seq_nx a0, seq_nx a1, seq_nx a2, seq_nx a3, seq_nx F]
    rfl
end K83

namespace K83
open PySem L2 Evl PySem.Spec Mi

/-! ### a row judged, a row bent -/
theorem sl_to (xs : List D) (k : Nat) : slD none (some ((k : Nat) : Int)) (.list xs) = some (.fresh (xs.take k)) := by
  simp only [slD, cutD]
  rw [HT.sIx_none, HT.sIx_nat, List.drop_zero, Nat.sub_zero]
  congr 2
  rcases Nat.le_total k xs.length with h | h
  · rw [Nat.min_eq_left h]
  · rw [Nat.min_eq_right h, List.take_length, List.take_of_length_le h]
theorem sl_from (xs : List D) (k : Nat) : slD (some ((k : Nat) : Int)) none (.list xs) = some (.fresh (xs.drop k)) := by
  simp only [slD, cutD]
  rw [HT.sIx_none, HT.sIx_nat]
  congr 2
  rcases Nat.le_total k xs.length with h | h
  · rw [Nat.min_eq_left h, ← List.length_drop, List.take_length]
  · rw [Nat.min_eq_right h, List.drop_length, List.take_nil, List.drop_eq_nil_of_le h]
def LetL (n : Nat) (xs : List D) : Prop := ∀ d ∈ xs, ∃ l : Nat, l < n ∧ d = .int (l : Nat)
theorem let_ri {n : Nat} {row : List Nat} (h : ∀ l ∈ row, l < n) : LetL n (ri row) := fun d hd => by
  obtain ⟨l, hl, rfl⟩ := List.mem_map.mp hd
  exact ⟨l, h l hl, rfl⟩
theorem of_let {n : Nat} : ∀ {xs : List D}, LetL n xs → ∃ row : List Nat, (∀ l ∈ row, l < n) ∧ row.length = xs.length ∧ xs = ri row
  | [], _ => ⟨[], fun l h => by (cases h), rfl, rfl⟩
  | x :: xs, h => by
    obtain ⟨l, hl, rfl⟩ := h x List.mem_cons_self
    obtain ⟨row, e1, e2, e3⟩ := of_let fun d hd => h d (List.mem_cons_of_mem _ hd)
    refine ⟨l :: row, fun z hz => ?_, by simp [e2], by rw [e3]; rfl⟩
    rcases List.mem_cons.mp hz with r | r
    · subst r; exact hl
    · exact e1 z r
theorem LetL.app {n : Nat} {xs ys : List D} (h : LetL n xs) (k : LetL n ys) : LetL n (xs ++ ys) := fun d hd => by
  rcases List.mem_append.mp hd with r | r
  · exact h d r
  · exact k d r
theorem LetL.take {n k : Nat} {xs : List D} (h : LetL n xs) : LetL n (xs.take k) := fun d hd => h d (List.mem_of_mem_take hd)
theorem LetL.drop {n k : Nat} {xs : List D} (h : LetL n xs) : LetL n (xs.drop k) := fun d hd => h d (List.mem_of_mem_drop hd)
theorem LetL.one {n l : Nat} (h : l < n) : LetL n [.int (l : Nat)] := fun d hd => ⟨l, h, List.mem_singleton.mp hd⟩
theorem LetL.set {n k : Nat} {xs : List D} {d : D} (h : LetL n xs) (hd : ∃ l : Nat, l < n ∧ d = .int (l : Nat)) : LetL n (xs.set k d) := fun e he => by
  rcases List.mem_or_eq_of_mem_set he with r | r
  · exact h e r
  · subst r; exact hd
theorem add_l {A B : List D} (h : A.length + B.length ≤ 100000) : addD (.list A) (.list B) = some (.fresh (A ++ B)) := by
  simp only [addD]
  rw [if_pos (by rw [show sizeLine = 16777216 from rfl]; omega)]
theorem flat_ri : ∀ row : List Nat, flatAll (ri row) = true
  | [] => rfl
  | l :: row => by
    show (flatD (.int (l : Nat)) && flatAll (ri row)) = true
    rw [flat_ri row]
    rfl

theorem v_of {sd rd td : D} {q k : Bool} {r1 r3 : Str} (e1 : f__law_is_even [sd, rd] = some (.ok (.val (.bool q)), .none)) (e2 : f_is_even [sd, rd] = some (.ok (.val (.bool q)), .none)) (e2' : f_is_even [sd, td] = some (.ok (.val (.bool q)), .none)) (et : tupleD [rd] = some (.val td))
    (e4 : f_is_kept [sd, rd] = some (.ok (.val (.bool k)), .none)) (hk : q = true → k = true) (p1 : reprD [rd] = some (.val (.str r1))) (p3 : reprD [.list [.bool q, .bool q]] = some (.val (.str r3))) : f__law_value_right [sd, rd] = some (.ok (.val (.bool true)), .none) := by
  have n1 := nes_same r1
  have n3 := nes_same r3
  have a0 : (mPar 2 3 (mCall reprD (aT (mVar 1) aNil)) (mF 2 f__law_is_even none (aT (mVar 0) (aT (mVar 1) aNil)))) [some ⟨.val, sd⟩, some ⟨.val, rd⟩, none, none] = some (.ok .nx, [some ⟨.val, sd⟩, some ⟨.val, rd⟩, some ⟨.val, .str r1⟩, some ⟨.val, .bool q⟩]) := by
    simp [p1, e1, mkFn, isListAt, slots, slot0, mSeq, mAsg, mRet, mIfS, mDrop, mB, bnd, Mi.ret, thaw, thawR, mVal, valR, mVar, mC, mBin, mUn, op1, op2, look, opN, lookAll, mCall, aT, aV, aNil, mStore, okSet, isT, asB, mTup, mLst, valsOf, mNx, outIo, retR, Md.isOwn, Md.isIo, Md.isLk, fI, mIf, mAnd, mOr, mNot, mAndV, mOrV, mChain, mPar, mPar3, mF, mFk, callF, callIo, putIo, freezeBy, flatD, flatAll, flatY, mayGive, notSlot, gath, mAsgG, gT, gsCons, gsNil, gIx, gN, setIx, mSetIx, ownAt, mApp, appTo, mIsi, isiD, isK, kinds, tyD, mSl, mPart, mNoPart, asInt, slD, cutD, lenD, absD, max2D, min2D, gcdD, lcmD, intD, listD, tupleD, allD, boolsOf, divmodD, addD, subD, mulD, fdivD, modD, powD, leD, gtD, geD, isD, isntD, negD, notD, revD, isNone, sizeLine, mMt, mtS, startsD, findD, fmtD, mJs, strD, mFT, callT, mPar3O, mParO, noSlot]
  have a1 : (mIfS (mOr (mB (mBin nesD (mCall reprD (aT (mLst (aV (mF 2 f_is_even none (aT (mVar 0) (aT (mVar 1) aNil))) (aV (mFk 0 2 [1, 0] f_is_even none aNil (aT (mCall tupleD (aT (mVar 1) aNil)) (aT (mVar 0) aNil))) aNil))) aNil)) (mCall reprD (aT (mLst (aV (mVar 3) (aV (mVar 3) aNil))) aNil)))) (mB (mBin nesD (mCall reprD (aT (mVar 1) aNil)) (mVar 2)))) (mRet (mC (.bool false))) mNx) [some ⟨.val, sd⟩, some ⟨.val, rd⟩, some ⟨.val, .str r1⟩, some ⟨.val, .bool q⟩] = some (.ok .nx, [some ⟨.val, sd⟩, some ⟨.val, rd⟩, some ⟨.val, .str r1⟩, some ⟨.val, .bool q⟩]) := by
    simp [et, e2, e2', p1, p3, n1, n3, mkFn, isListAt, slots, slot0, mSeq, mAsg, mRet, mIfS, mDrop, mB, bnd, Mi.ret, thaw, thawR, mVal, valR, mVar, mC, mBin, mUn, op1, op2, look, opN, lookAll, mCall, aT, aV, aNil, mStore, okSet, isT, asB, mTup, mLst, valsOf, mNx, outIo, retR, Md.isOwn, Md.isIo, Md.isLk, fI, mIf, mAnd, mOr, mNot, mAndV, mOrV, mChain, mPar, mPar3, mF, mFk, callF, callIo, putIo, freezeBy, flatD, flatAll, flatY, mayGive, notSlot, gath, mAsgG, gT, gsCons, gsNil, gIx, gN, setIx, mSetIx, ownAt, mApp, appTo, mIsi, isiD, isK, kinds, tyD, mSl, mPart, mNoPart, asInt, slD, cutD, lenD, absD, max2D, min2D, gcdD, lcmD, intD, listD, tupleD, allD, boolsOf, divmodD, addD, subD, mulD, fdivD, modD, powD, leD, gtD, geD, isD, isntD, negD, notD, revD, isNone, sizeLine, mMt, mtS, startsD, findD, fmtD, mJs, strD, mFT, callT, mPar3O, mParO, noSlot, -tupleD]
  have a2 : (mRet (mOrV (mUn notD (mVar 3)) (mBin isD (mF 2 f_is_kept none (aT (mVar 0) (aT (mVar 1) aNil))) (mC (.bool true))))) [some ⟨.val, sd⟩, some ⟨.val, rd⟩, some ⟨.val, .str r1⟩, some ⟨.val, .bool q⟩] = some (.ok (.rt (.val (.bool true))), [some ⟨.val, sd⟩, some ⟨.val, rd⟩, some ⟨.val, .str r1⟩, some ⟨.val, .bool q⟩]) := by
    cases q with
    | false => simp [mkFn, isListAt, slots, slot0, mSeq, mAsg, mRet, mIfS, mDrop, mB, bnd, Mi.ret, thaw, thawR, mVal, valR, mVar, mC, mBin, mUn, op1, op2, look, opN, lookAll, mCall, aT, aV, aNil, mStore, okSet, isT, asB, mTup, mLst, valsOf, mNx, outIo, retR, Md.isOwn, Md.isIo, Md.isLk, fI, mIf, mAnd, mOr, mNot, mAndV, mOrV, mChain, mPar, mPar3, mF, mFk, callF, callIo, putIo, freezeBy, flatD, flatAll, flatY, mayGive, notSlot, gath, mAsgG, gT, gsCons, gsNil, gIx, gN, setIx, mSetIx, ownAt, mApp, appTo, mIsi, isiD, isK, kinds, tyD, mSl, mPart, mNoPart, asInt, slD, cutD, lenD, absD, max2D, min2D, gcdD, lcmD, intD, listD, tupleD, allD, boolsOf, divmodD, addD, subD, mulD, fdivD, modD, powD, leD, gtD, geD, isD, isntD, negD, notD, revD, isNone, sizeLine, mMt, mtS, startsD, findD, fmtD, mJs, strD, mFT, callT, mPar3O, mParO, noSlot]
    | true =>
      rw [hk rfl] at e4
      have i1 : isD (.bool true) (.bool true) = some (.val (.bool true)) := rfl
      simp [e4, i1, mkFn, isListAt, slots, slot0, mSeq, mAsg, mRet, mIfS, mDrop, mB, bnd, Mi.ret, thaw, thawR, mVal, valR, mVar, mC, mBin, mUn, op1, op2, look, opN, lookAll, mCall, aT, aV, aNil, mStore, okSet, isT, asB, mTup, mLst, valsOf, mNx, outIo, retR, Md.isOwn, Md.isIo, Md.isLk, fI, mIf, mAnd, mOr, mNot, mAndV, mOrV, mChain, mPar, mPar3, mF, mFk, callF, callIo, putIo, freezeBy, flatD, flatAll, flatY, mayGive, notSlot, gath, mAsgG, gT, gsCons, gsNil, gIx, gN, setIx, mSetIx, ownAt, mApp, appTo, mIsi, isiD, isK, kinds, tyD, mSl, mPart, mNoPart, asInt, slD, cutD, lenD, absD, max2D, min2D, gcdD, lcmD, intD, listD, tupleD, allD, boolsOf, divmodD, addD, subD, mulD, fdivD, modD, powD, leD, gtD, geD, isD, isntD, negD, notD, revD, isNone, sizeLine, mMt, mtS, startsD, findD, fmtD, mJs, strD, mFT, callT, mPar3O, mParO, noSlot, -isD]
  have em : m__law_value_right [some ⟨.val, sd⟩, some ⟨.val, rd⟩, none, none] = some (.ok (.rt (.val (.bool true))), [some ⟨.val, sd⟩, some ⟨.val, rd⟩, some ⟨.val, .str r1⟩, some ⟨.val, .bool q⟩]) := by
    unfold m__law_value_right
    rw [seq_nx a0, seq_nx a1]
    exact a2
  simp [f__law_value_right, mkFn, isListAt, slots, slot0, em, outIo, retR]
theorem ev_value {ps : List Nat} {row : List Nat} (h : Parts ps) (hr : ∀ l ∈ row, l < (shs ps).length) (hl : row.length ≤ 5000) : f__law_value_right [sD (shs ps), .list (ri row)] = some (.ok (.val (.bool true)), .none) := by
  have s30 := shs_len h
  exact v_of (ev_lis_even h hr hl) (ev_is_even (b := true) h hr hl) (ev_is_even (b := false) h hr hl) rfl (ev_kept (b := true) h hr hl) (fun he => by rw [kept_even h hr he]; rfl) (repr_of (ok_row (n := (shs ps).length) (by omega) hr hl)) (repr_of (ok_bools _))
/-! ### bent -/
def rN (x y : Int) (sd : D) (xs : List D) (k j : Nat) (s5 : Option Slot) : R := [some ⟨.io, .list [.int x, .int y]⟩, some ⟨.val, sd⟩, some ⟨.val, .list xs⟩, iS (k : Nat), iS (j : Nat), s5]
def Bt (n m : Nat) (o : Option (Out Fl × R)) : Prop := ∃ r ρ xs x y, o = some (.ok (.rt r), ρ) ∧ retR r ρ = some (.fresh xs) ∧ ρ[0]? = some (some ⟨.io, .list [.int x, .int y]⟩) ∧ PotOk (.list [.int x, .int y]) ∧ LetL n xs ∧ xs.length ≤ m
theorem seq_bt {n m : Nat} {a b : M Fl} {ρ : R} (h : Bt n m (a ρ)) : Bt n m (mSeq a b ρ) := by
  obtain ⟨r, ρ', xs, x, y, e, h⟩ := h
  exact ⟨r, ρ', xs, x, y, by rw [mSeq, bnd, e]; rfl, h⟩
section
variable {x y : Int} {sd : D} {xs : List D} {k j n : Nat} (hp : PotOk (.list [.int x, .int y])) (hx : LetL n xs) (hl : xs.length ≤ 30000)
include hp hx hl
theorem way2 (ln : lenD [sd] = some (.val (.int (n : Nat)))) (n0 : 0 < n) (n1 : n ≤ 100) : Bt n (xs.length + 1) ((mRet (mBin addD (mBin addD (mSl (mVar 2) mNoPart (mPart (mVar 3))) (mLst (aV (mF 2 f__law_draw (some 0) (aT (mVar 0) (aT (mCall lenD (aT (mVar 1) aNil)) aNil))) aNil))) (mSl (mVar 2) (mPart (mBin addD (mVar 3) (mC (.int 1)))) mNoPart))) (rN x y sd xs k j none)) := by
  have pw : (1000000 : Nat) < 2 ^ 9000 := Nat.lt_of_lt_of_le (by decide : 1000000 < 2 ^ 20) (Nat.pow_le_pow_right (by decide) (by decide))
  obtain ⟨r, p1, r0, r1, h1, e1⟩ := ev_draw hp (n := ((n : Nat) : Int)) (by omega) (by omega)
  have h1' := h1
  obtain ⟨x1, y1, _, _, _, rfl⟩ := h1
  obtain ⟨l, rfl⟩ : ∃ l : Nat, r = (l : Int) := ⟨r.toNat, by omega⟩
  have a := sl_to xs k
  have b := sl_from xs (k + 1)
  rw [show ((k + 1 : Nat) : Int) = ((k : Nat) : Int) + 1 by omega] at b
  have ai : addD (.int ((k : Nat) : Int)) (.int 1) = some (.val (.int (((k : Nat) : Int) + 1))) := rfl
  have c : addD (.list (xs.take k)) (.list [.int (l : Nat)]) = _ := add_l (by rw [List.length_take, List.length_singleton]; omega)
  have d : addD (.list (xs.take k ++ [.int (l : Nat)])) (.list (xs.drop (k + 1))) = _ := add_l (by rw [List.length_append, List.length_take, List.length_singleton, List.length_drop]; omega)
  refine ⟨.fresh (xs.take k ++ [.int (l : Nat)] ++ xs.drop (k + 1)), rN x1 y1 sd xs k j none, _, x1, y1, ?_, rfl, rfl, h1', (hx.take.app (LetL.one (by omega))).app hx.drop, by rw [List.length_append, List.length_append, List.length_take, List.length_singleton, List.length_drop]; omega⟩
  generalize xs.drop (k + 1) = B at b d ⊢
  generalize xs.take k = A at a c d ⊢
  generalize A ++ [.int ((l : Nat) : Int)] = A' at c d ⊢
  generalize A' ++ B = C at d ⊢
  clear hx hl
  unfold rN iS
  generalize ((k : Nat) : Int) = ki at a b ai ⊢
  generalize ((l : Nat) : Int) = li at e1 c
  generalize ((n : Nat) : Int) = ni at e1 ln
  simp [a, b, c, d, ai, e1, ln, mkFn, isListAt, slots, slot0, mSeq, mAsg, mRet, mIfS, mDrop, mB, bnd, Mi.ret, thaw, thawR, mVal, valR, mVar, mC, mBin, mUn, op1, op2, look, opN, lookAll, mCall, aT, aV, aNil, mStore, okSet, isT, asB, mTup, mLst, valsOf, mNx, outIo, retR, Md.isOwn, Md.isIo, Md.isLk, fI, mIf, mAnd, mOr, mNot, mAndV, mOrV, mChain, mPar, mPar3, mF, mFk, callF, callIo, putIo, freezeBy, flatD, flatAll, flatY, mayGive, notSlot, gath, mAsgG, gT, gsCons, gsNil, gIx, gN, setIx, mSetIx, ownAt, mApp, appTo, mIsi, isiD, isK, kinds, tyD, mSl, mPart, mNoPart, asInt, slD, cutD, lenD, absD, max2D, min2D, gcdD, lcmD, intD, listD, tupleD, allD, boolsOf, divmodD, addD, subD, mulD, fdivD, modD, powD, leD, gtD, geD, isD, isntD, negD, notD, revD, isNone, sizeLine, mMt, mtS, startsD, findD, fmtD, mJs, strD, mFT, callT, mPar3O, mParO, noSlot, -slD, -cutD, -addD, -lenD]
theorem way3 {k' j' : Nat} (hk : k' < xs.length) (hj : j' < xs.length) : Bt n (xs.length + 1) ((mSeq (mAsg 5 (mCall listD (aT (mVar 2) aNil))) (mSeq (mAsgG (gT 2 (gsCons (gIx 5 (mVar 3)) (gsCons (gIx 5 (mVar 4)) gsNil))) (mTup (aV (mBin ixD (mVar 2) (mVar 4)) (aV (mBin ixD (mVar 2) (mVar 3)) aNil)))) (mRet (mVar 5)))) (rN x y sd xs k' j' none)) := by
  obtain ⟨d1, e1⟩ : ∃ d, xs[k']? = some d := ⟨_, List.getElem?_eq_getElem hk⟩
  obtain ⟨d2, e2⟩ : ∃ d, xs[j']? = some d := ⟨_, List.getElem?_eq_getElem hj⟩
  have i1 := ixD_list e1
  have i2 := ixD_list e2
  have n1 : ixN xs.length ((k' : Nat) : Int) = some k' := ixN_nat hk
  have n2 : ixN (xs.set k' d2).length ((j' : Nat) : Int) = some j' := ixN_nat (by rw [List.length_set]; exact hj)
  refine ⟨.slot 5, rN x y sd xs k' j' (some ⟨.own, .list ((xs.set k' d2).set j' d1)⟩), (xs.set k' d2).set j' d1, x, y, ?_, rfl, rfl, hp, (hx.set (hx d2 (List.mem_of_getElem? e2))).set (hx d1 (List.mem_of_getElem? e1)), by rw [List.length_set, List.length_set]; omega⟩
  clear hx hl hk hj e1 e2
  generalize hzs : xs.set k' d2 = zs at n2 ⊢
  generalize hws : zs.set j' d1 = ws
  unfold rN iS
  generalize ((k' : Nat) : Int) = ki at i1 n1 ⊢
  generalize ((j' : Nat) : Int) = ji at i2 n2 ⊢
  simp [setIx, ownAt, i1, i2, n1, n2, hzs, hws, mkFn, isListAt, slots, slot0, mSeq, mAsg, mRet, mIfS, mDrop, mB, bnd, Mi.ret, thaw, thawR, mVal, valR, mVar, mC, mBin, mUn, op1, op2, look, opN, lookAll, mCall, aT, aV, aNil, mStore, okSet, isT, asB, mTup, mLst, valsOf, mNx, outIo, retR, Md.isOwn, Md.isIo, Md.isLk, fI, mIf, mAnd, mOr, mNot, mAndV, mOrV, mChain, mPar, mPar3, mF, mFk, callF, callIo, putIo, freezeBy, flatD, flatAll, flatY, mayGive, notSlot, gath, mAsgG, gT, gsCons, gsNil, gIx, gN, setIx, mSetIx, ownAt, mApp, appTo, mIsi, isiD, isK, kinds, tyD, mSl, mPart, mNoPart, asInt, slD, cutD, lenD, absD, max2D, min2D, gcdD, lcmD, intD, listD, tupleD, allD, boolsOf, divmodD, addD, subD, mulD, fdivD, modD, powD, leD, gtD, geD, isD, isntD, negD, notD, revD, isNone, sizeLine, mMt, mtS, startsD, findD, fmtD, mJs, strD, mFT, callT, mPar3O, mParO, noSlot]
end
end K83

namespace K83
open PySem L2 Evl PySem.Spec Mi

theorem eqs_nil {row : List Nat} {n : Nat} (hn : n ≤ 100) (hr : ∀ l ∈ row, l < n) : eqsD (.list (ri row)) (.list []) = some (.val (.bool (decide (row = [])))) := by
  have s1 : SeqAt.shaped (.list (ri row)) = true := by
    have d := depth_ri row
    simp only [SeqAt.shaped, PyData.canLay0, PyData.depth, lay_ri, Bool.true_and, decide_eq_true_iff]
    exact decide_eq_true (by omega)
  have s2 : SeqAt.shaped (.list []) = true := by simp [SeqAt.shaped, PyData.canLay0, PyData.canLayAll0, PyData.depth, PyData.depthAll]
  simp only [eqsD, eqD]
  simp only [s1, s2, Bool.and_self, if_true]
  congr 3
  cases row with
  | nil => simp [PyData.eqv, PyData.eqvAll]
  | cons l row => simp [PyData.eqv, PyData.eqvAll, ri]
theorem b_nil {x y : Int} {sd : D} {xs : List D} {k j : Nat} (q : eqsD (.list xs) (.list []) = some (.val (.bool true))) : ((mOr (mB (mBin eqsD (mVar 2) (mLst aNil))) (mB (mBin eqsD (mF 2 f__law_draw (some 0) (aT (mVar 0) (aT (mC (.int 2)) aNil))) (mC (.int 0)))))) (rN x y sd xs k j none) = some (.ok true, rN x y sd xs k j none) := by
  unfold rN iS
  generalize ((k : Nat) : Int) = ki
  generalize ((j : Nat) : Int) = ji
  simp [q, mkFn, isListAt, slots, slot0, mSeq, mAsg, mRet, mIfS, mDrop, mB, bnd, Mi.ret, thaw, thawR, mVal, valR, mVar, mC, mBin, mUn, op1, op2, look, opN, lookAll, mCall, aT, aV, aNil, mStore, okSet, isT, asB, mTup, mLst, valsOf, mNx, outIo, retR, Md.isOwn, Md.isIo, Md.isLk, fI, mIf, mAnd, mOr, mNot, mAndV, mOrV, mChain, mPar, mPar3, mF, mFk, callF, callIo, putIo, freezeBy, flatD, flatAll, flatY, mayGive, notSlot, gath, mAsgG, gT, gsCons, gsNil, gIx, gN, setIx, mSetIx, ownAt, mApp, appTo, mIsi, isiD, isK, kinds, tyD, mSl, mPart, mNoPart, asInt, slD, cutD, lenD, absD, max2D, min2D, gcdD, lcmD, intD, listD, tupleD, allD, boolsOf, divmodD, addD, subD, mulD, fdivD, modD, powD, leD, gtD, geD, isD, isntD, negD, notD, revD, isNone, sizeLine, mMt, mtS, startsD, findD, fmtD, mJs, strD, mFT, callT, mPar3O, mParO, noSlot]
theorem b_draw {x y x' y' r : Int} {sd : D} {xs : List D} {k j : Nat} {c : Bool} (q : eqsD (.list xs) (.list []) = some (.val (.bool false))) (e : f__law_draw [.list [.int x, .int y], .int 2] = some (.ok (.val (.int r)), .list [.int x', .int y'])) (z : eqsD (.int r) (.int 0) = some (.val (.bool c))) : ((mOr (mB (mBin eqsD (mVar 2) (mLst aNil))) (mB (mBin eqsD (mF 2 f__law_draw (some 0) (aT (mVar 0) (aT (mC (.int 2)) aNil))) (mC (.int 0)))))) (rN x y sd xs k j none) = some (.ok c, rN x' y' sd xs k j none) := by
  unfold rN iS
  generalize ((k : Nat) : Int) = ki
  generalize ((j : Nat) : Int) = ji
  simp [q, e, z, mkFn, isListAt, slots, slot0, mSeq, mAsg, mRet, mIfS, mDrop, mB, bnd, Mi.ret, thaw, thawR, mVal, valR, mVar, mC, mBin, mUn, op1, op2, look, opN, lookAll, mCall, aT, aV, aNil, mStore, okSet, isT, asB, mTup, mLst, valsOf, mNx, outIo, retR, Md.isOwn, Md.isIo, Md.isLk, fI, mIf, mAnd, mOr, mNot, mAndV, mOrV, mChain, mPar, mPar3, mF, mFk, callF, callIo, putIo, freezeBy, flatD, flatAll, flatY, mayGive, notSlot, gath, mAsgG, gT, gsCons, gsNil, gIx, gN, setIx, mSetIx, ownAt, mApp, appTo, mIsi, isiD, isK, kinds, tyD, mSl, mPart, mNoPart, asInt, slD, cutD, lenD, absD, max2D, min2D, gcdD, lcmD, intD, listD, tupleD, allD, boolsOf, divmodD, addD, subD, mulD, fdivD, modD, powD, leD, gtD, geD, isD, isntD, negD, notD, revD, isNone, sizeLine, mMt, mtS, startsD, findD, fmtD, mJs, strD, mFT, callT, mPar3O, mParO, noSlot]
theorem b_a0 {x y x1 y1 x2 y2 n mx : Int} {sd : D} {xs : List D} {k j : Nat} (ln : lenD [.list xs] = some (.val (.int n))) (hm : max2D [.int 1, .int n] = some (.val (.int mx))) (e1 : f__law_draw [.list [.int x, .int y], .int mx] = some (.ok (.val (.int (k : Nat))), .list [.int x1, .int y1])) (e2 : f__law_draw [.list [.int x1, .int y1], .int mx] = some (.ok (.val (.int (j : Nat))), .list [.int x2, .int y2])) :
    (mPar 3 4 (mF 2 f__law_draw (some 0) (aT (mVar 0) (aT (mCall max2D (aT (mC (.int 1)) (aT (mCall lenD (aT (mVar 2) aNil)) aNil))) aNil))) (mF 2 f__law_draw (some 0) (aT (mVar 0) (aT (mCall max2D (aT (mC (.int 1)) (aT (mCall lenD (aT (mVar 2) aNil)) aNil))) aNil)))) [some ⟨.io, .list [.int x, .int y]⟩, some ⟨.val, sd⟩, some ⟨.val, .list xs⟩, none, none, none] = some (.ok .nx, rN x2 y2 sd xs k j none) := by
  unfold rN iS
  generalize ((k : Nat) : Int) = ki at e1 ⊢
  generalize ((j : Nat) : Int) = ji at e2 ⊢
  simp [ln, hm, e1, e2, mkFn, isListAt, slots, slot0, mSeq, mAsg, mRet, mIfS, mDrop, mB, bnd, Mi.ret, thaw, thawR, mVal, valR, mVar, mC, mBin, mUn, op1, op2, look, opN, lookAll, mCall, aT, aV, aNil, mStore, okSet, isT, asB, mTup, mLst, valsOf, mNx, outIo, retR, Md.isOwn, Md.isIo, Md.isLk, fI, mIf, mAnd, mOr, mNot, mAndV, mOrV, mChain, mPar, mPar3, mF, mFk, callF, callIo, putIo, freezeBy, flatD, flatAll, flatY, mayGive, notSlot, gath, mAsgG, gT, gsCons, gsNil, gIx, gN, setIx, mSetIx, ownAt, mApp, appTo, mIsi, isiD, isK, kinds, tyD, mSl, mPart, mNoPart, asInt, slD, cutD, lenD, absD, max2D, min2D, gcdD, lcmD, intD, listD, tupleD, allD, boolsOf, divmodD, addD, subD, mulD, fdivD, modD, powD, leD, gtD, geD, isD, isntD, negD, notD, revD, isNone, sizeLine, mMt, mtS, startsD, findD, fmtD, mJs, strD, mFT, callT, mPar3O, mParO, noSlot, -lenD, -max2D]
theorem b_fin {x y : Int} {sd : D} {xs ys : List D} {r : Res} {ρ : R} {x' y' : Int} (e : m__law_bent [some ⟨.io, .list [.int x, .int y]⟩, some ⟨.val, sd⟩, some ⟨.val, .list xs⟩, none, none, none] = some (.ok (.rt r), ρ)) (h1 : retR r ρ = some (.fresh ys)) (h2 : ρ[0]? = some (some ⟨.io, .list [.int x', .int y']⟩)) : f__law_bent [.list [.int x, .int y], sd, .list xs] = some (.ok (.fresh ys), .list [.int x', .int y']) := by
  simp [f__law_bent, mkFn, isListAt, slots, slot0, e, outIo, h1, h2]
theorem ev_bent {ps : List Nat} {p : D} {row : List Nat} (h : Parts ps) (hp : PotOk p) (hr : ∀ l ∈ row, l < (shs ps).length) (hl : row.length ≤ 3000) : ∃ (row' : List Nat) (p' : D), PotOk p' ∧ (∀ l ∈ row', l < (shs ps).length) ∧ row'.length ≤ row.length + 1 ∧ f__law_bent [p, sD (shs ps), .list (ri row)] = some (.ok (.fresh (ri row')), p') := by
  have pw : (1000000 : Nat) < 2 ^ 9000 := Nat.lt_of_lt_of_le (by decide : 1000000 < 2 ^ 20) (Nat.pow_le_pow_right (by decide) (by decide))
  have hs := shs_len h
  have n0 : 0 < (shs ps).length := by rw [h.len]; exact h.l1
  have lr : lenD [.list (ri row)] = some (.val (.int (row.length : Nat))) := by simp [lenD]
  have hm : max2D [.int 1, .int ((row.length : Nat) : Int)] = some (.val (.int (if ((row.length : Nat) : Int) > 1 then ((row.length : Nat) : Int) else 1))) := rfl
  have m1 : 0 < (if ((row.length : Nat) : Int) > 1 then ((row.length : Nat) : Int) else 1) := by split <;> omega
  have m2 : (if ((row.length : Nat) : Int) > 1 then ((row.length : Nat) : Int) else 1) ≤ 3000 := by split <;> omega
  have m3 : row ≠ [] → (if ((row.length : Nat) : Int) > 1 then ((row.length : Nat) : Int) else 1) = ((row.length : Nat) : Int) := fun z => by
    have := List.length_pos_iff.mpr z
    split <;> omega
  generalize (if ((row.length : Nat) : Int) > 1 then ((row.length : Nat) : Int) else 1) = mx at hm m1 m2 m3
  obtain ⟨k, p1, k0, k1, h1, e1⟩ := ev_draw hp (n := mx) m1 (by omega)
  obtain ⟨j, p2, j0, j1, h2, e2⟩ := ev_draw h1 (n := mx) m1 (by omega)
  obtain ⟨w, p3, w0, w1, h3, e3⟩ := ev_draw h2 (n := 2) (by decide) (by omega)
  have h2' := h2
  have h3' := h3
  obtain ⟨x0, y0, _, _, _, rfl⟩ := hp
  obtain ⟨x1, y1, _, _, _, rfl⟩ := h1
  obtain ⟨x2, y2, _, _, _, rfl⟩ := h2
  obtain ⟨x3, y3, _, _, _, rfl⟩ := h3
  obtain ⟨kn, rfl⟩ : ∃ l : Nat, k = (l : Int) := ⟨k.toNat, by omega⟩
  obtain ⟨jn, rfl⟩ : ∃ l : Nat, j = (l : Int) := ⟨j.toNat, by omega⟩
  have a0 := b_a0 (sd := sD (shs ps)) lr hm e1 e2
  have q := eqs_nil (n := (shs ps).length) (by omega) hr
  have lri : (ri row).length = row.length := List.length_map _
  have fin : Bt (shs ps).length ((ri row).length + 1) (((mSeq (mIfS (mOr (mB (mBin eqsD (mVar 2) (mLst aNil))) (mB (mBin eqsD (mF 2 f__law_draw (some 0) (aT (mVar 0) (aT (mC (.int 2)) aNil))) (mC (.int 0))))) (mRet (mBin addD (mBin addD (mSl (mVar 2) mNoPart (mPart (mVar 3))) (mLst (aV (mF 2 f__law_draw (some 0) (aT (mVar 0) (aT (mCall lenD (aT (mVar 1) aNil)) aNil))) aNil))) (mSl (mVar 2) (mPart (mBin addD (mVar 3) (mC (.int 1)))) mNoPart))) mNx) (mSeq (mAsg 5 (mCall listD (aT (mVar 2) aNil))) (mSeq (mAsgG (gT 2 (gsCons (gIx 5 (mVar 3)) (gsCons (gIx 5 (mVar 4)) gsNil))) (mTup (aV (mBin ixD (mVar 2) (mVar 4)) (aV (mBin ixD (mVar 2) (mVar 3)) aNil)))) (mRet (mVar 5)))))) (rN x2 y2 (sD (shs ps)) (ri row) kn jn none)) → ∃ (row' : List Nat) (p' : D), PotOk p' ∧ (∀ l ∈ row', l < (shs ps).length) ∧ row'.length ≤ row.length + 1 ∧ f__law_bent [.list [.int x0, .int y0], sD (shs ps), .list (ri row)] = some (.ok (.fresh (ri row')), p') := fun ⟨r, ρ, ys, x, y, e, g1, g2, g3, g4, g5⟩ => by
    obtain ⟨row', r1, r2, rfl⟩ := of_let g4
    refine ⟨row', _, g3, r1, by omega, b_fin (r := r) (ρ := ρ) ?_ g1 g2⟩
    unfold m__law_bent
    rw [seq_nx a0]
    exact e
  by_cases z : row = []
  · rw [decide_eq_true z] at q
    refine fin ?_
    refine seq_bt ?_
    rw [if_yes (b_nil q)]
    exact way2 h2' (let_ri hr) (by omega) (len_sD _) n0 (by omega)
  · rw [decide_eq_false z] at q
    have d := b_draw (sd := sD (shs ps)) (k := kn) (j := jn) q e3 (eqs_int w 0)
    refine fin ?_
    by_cases c : w = 0
    · rw [decide_eq_true c] at d
      refine seq_bt ?_
      rw [if_yes d]
      exact way2 h3' (let_ri hr) (by omega) (len_sD _) n0 (by omega)
    · rw [decide_eq_false c] at d
      have nx : ((mIfS (mOr (mB (mBin eqsD (mVar 2) (mLst aNil))) (mB (mBin eqsD (mF 2 f__law_draw (some 0) (aT (mVar 0) (aT (mC (.int 2)) aNil))) (mC (.int 0))))) (mRet (mBin addD (mBin addD (mSl (mVar 2) mNoPart (mPart (mVar 3))) (mLst (aV (mF 2 f__law_draw (some 0) (aT (mVar 0) (aT (mCall lenD (aT (mVar 1) aNil)) aNil))) aNil))) (mSl (mVar 2) (mPart (mBin addD (mVar 3) (mC (.int 1)))) mNoPart))) mNx)) (rN x2 y2 (sD (shs ps)) (ri row) kn jn none) = some (.ok .nx, rN x3 y3 (sD (shs ps)) (ri row) kn jn none) := by
        rw [if_no d]
        rfl
      rw [seq_nx nx]
      have e := m3 z
      exact way3 h3' (let_ri hr) (by omega) (by omega) (by omega)
end K83

namespace K83
open PySem L2 Evl PySem.Spec Mi

/-! ### the law's turn -/
def oL (xs : List D) : Option Slot := some ⟨.own, .list xs⟩
def dV (d : D) : Option Slot := some ⟨.val, d⟩
def rZ (x y : Int) (s1 s2 s3 s4 s5 s6 s7 s8 s9 s10 : Option Slot) : R := [some ⟨.io, .list [.int x, .int y]⟩, s1, s2, s3, s4, s5, s6, s7, s8, s9, s10]
theorem z_0 {x y x1 y1 x2 y2 r mo : Int} {sd : D} {c : Bool} (e0 : f__law_draw [.list [.int x, .int y], .int 12] = some (.ok (.val (.int r)), .list [.int x1, .int y1])) (q : eqsD (.int r) (.int 0) = some (.val (.bool c))) (hm : mo = if c then 30 else 8) (e : f__law_shares [.list [.int x1, .int y1], .int mo] = some (.ok (.val sd), .list [.int x2, .int y2])) :
    (mAsg 1 (mF 2 f__law_shares (some 0) (aT (mVar 0) (aT (mIf (mB (mBin eqsD (mF 2 f__law_draw (some 0) (aT (mVar 0) (aT (mC (.int 12)) aNil))) (mC (.int 0)))) (mC (.int 30)) (mC (.int 8))) aNil)))) (rZ x y none none none none none none none none none none) = some (.ok .nx, rZ x2 y2 (dV sd) none none none none none none none none none) := by
  subst hm
  unfold rZ dV
  cases c with
  | true =>
    simp only [if_true] at e
    simp [e0, q, e, mkFn, isListAt, slots, slot0, mSeq, mAsg, mRet, mIfS, mDrop, mB, bnd, Mi.ret, thaw, thawR, mVal, valR, mVar, mC, mBin, mUn, op1, op2, look, opN, lookAll, mCall, aT, aV, aNil, mStore, okSet, isT, asB, mTup, mLst, valsOf, mNx, outIo, retR, Md.isOwn, Md.isIo, Md.isLk, fI, mIf, mAnd, mOr, mNot, mAndV, mOrV, mChain, mPar, mPar3, mF, mFk, callF, callIo, putIo, freezeBy, flatD, flatAll, flatY, mayGive, notSlot, gath, mAsgG, gT, gsCons, gsNil, gIx, gN, setIx, mSetIx, ownAt, mApp, appTo, mIsi, isiD, isK, kinds, tyD, mSl, mPart, mNoPart, asInt, slD, cutD, lenD, absD, max2D, min2D, gcdD, lcmD, intD, listD, tupleD, allD, boolsOf, divmodD, addD, subD, mulD, fdivD, modD, powD, leD, gtD, geD, isD, isntD, negD, notD, revD, isNone, sizeLine, mMt, mtS, startsD, findD, fmtD, mJs, strD, mFT, callT, mPar3O, mParO, noSlot]
  | false =>
    simp only [Bool.false_eq_true, if_false] at e
    simp [e0, q, e, mkFn, isListAt, slots, slot0, mSeq, mAsg, mRet, mIfS, mDrop, mB, bnd, Mi.ret, thaw, thawR, mVal, valR, mVar, mC, mBin, mUn, op1, op2, look, opN, lookAll, mCall, aT, aV, aNil, mStore, okSet, isT, asB, mTup, mLst, valsOf, mNx, outIo, retR, Md.isOwn, Md.isIo, Md.isLk, fI, mIf, mAnd, mOr, mNot, mAndV, mOrV, mChain, mPar, mPar3, mF, mFk, callF, callIo, putIo, freezeBy, flatD, flatAll, flatY, mayGive, notSlot, gath, mAsgG, gT, gsCons, gsNil, gIx, gN, setIx, mSetIx, ownAt, mApp, appTo, mIsi, isiD, isK, kinds, tyD, mSl, mPart, mNoPart, asInt, slD, cutD, lenD, absD, max2D, min2D, gcdD, lcmD, intD, listD, tupleD, allD, boolsOf, divmodD, addD, subD, mulD, fdivD, modD, powD, leD, gtD, geD, isD, isntD, negD, notD, revD, isNone, sizeLine, mMt, mtS, startsD, findD, fmtD, mJs, strD, mFT, callT, mPar3O, mParO, noSlot]
theorem z_1 {x y x' y' x2 y2 r r2 : Int} {sd : D} (e : f__law_draw [.list [.int x, .int y], .int 40] = some (.ok (.val (.int r)), .list [.int x', .int y'])) (e2 : f__law_draw [.list [.int x', .int y'], .int 81] = some (.ok (.val (.int r2)), .list [.int x2, .int y2])) (h1 : PotOk (.list [.int x', .int y'])) (h2 : PotOk (.list [.int x2, .int y2])) (b0 : 0 ≤ r2) (b1 : r2 < 81) :
    ∃ (m : Nat) (x3 y3 : Int), m ≤ 600 ∧ PotOk (.list [.int x3, .int y3]) ∧ (mAsg 2 (mIf (mB (mBin eqsD (mF 2 f__law_draw (some 0) (aT (mVar 0) (aT (mC (.int 40)) aNil))) (mC (.int 0)))) (mC (.int 600)) (mF 2 f__law_draw (some 0) (aT (mVar 0) (aT (mC (.int 81)) aNil))))) (rZ x y (dV sd) none none none none none none none none none) = some (.ok .nx, rZ x3 y3 (dV sd) (iV (m : Nat)) none none none none none none none none) := by
  have q := eqs_int r 0
  by_cases c : r = 0
  · rw [decide_eq_true c] at q
    refine ⟨600, x', y', by decide, h1, ?_⟩
    clear c h1 h2
    unfold rZ dV iV
    simp [e, q, mkFn, isListAt, slots, slot0, mSeq, mAsg, mRet, mIfS, mDrop, mB, bnd, Mi.ret, thaw, thawR, mVal, valR, mVar, mC, mBin, mUn, op1, op2, look, opN, lookAll, mCall, aT, aV, aNil, mStore, okSet, isT, asB, mTup, mLst, valsOf, mNx, outIo, retR, Md.isOwn, Md.isIo, Md.isLk, fI, mIf, mAnd, mOr, mNot, mAndV, mOrV, mChain, mPar, mPar3, mF, mFk, callF, callIo, putIo, freezeBy, flatD, flatAll, flatY, mayGive, notSlot, gath, mAsgG, gT, gsCons, gsNil, gIx, gN, setIx, mSetIx, ownAt, mApp, appTo, mIsi, isiD, isK, kinds, tyD, mSl, mPart, mNoPart, asInt, slD, cutD, lenD, absD, max2D, min2D, gcdD, lcmD, intD, listD, tupleD, allD, boolsOf, divmodD, addD, subD, mulD, fdivD, modD, powD, leD, gtD, geD, isD, isntD, negD, notD, revD, isNone, sizeLine, mMt, mtS, startsD, findD, fmtD, mJs, strD, mFT, callT, mPar3O, mParO, noSlot]
  · rw [decide_eq_false c] at q
    refine ⟨r2.toNat, x2, y2, by omega, h2, ?_⟩
    rw [Int.toNat_of_nonneg b0]
    clear c h1 h2
    unfold rZ dV iV
    simp [e, e2, q, mkFn, isListAt, slots, slot0, mSeq, mAsg, mRet, mIfS, mDrop, mB, bnd, Mi.ret, thaw, thawR, mVal, valR, mVar, mC, mBin, mUn, op1, op2, look, opN, lookAll, mCall, aT, aV, aNil, mStore, okSet, isT, asB, mTup, mLst, valsOf, mNx, outIo, retR, Md.isOwn, Md.isIo, Md.isLk, fI, mIf, mAnd, mOr, mNot, mAndV, mOrV, mChain, mPar, mPar3, mF, mFk, callF, callIo, putIo, freezeBy, flatD, flatAll, flatY, mayGive, notSlot, gath, mAsgG, gT, gsCons, gsNil, gIx, gN, setIx, mSetIx, ownAt, mApp, appTo, mIsi, isiD, isK, kinds, tyD, mSl, mPart, mNoPart, asInt, slD, cutD, lenD, absD, max2D, min2D, gcdD, lcmD, intD, listD, tupleD, allD, boolsOf, divmodD, addD, subD, mulD, fdivD, modD, powD, leD, gtD, geD, isD, isntD, negD, notD, revD, isNone, sizeLine, mMt, mtS, startsD, findD, fmtD, mJs, strD, mFT, callT, mPar3O, mParO, noSlot]
section
variable {x y m : Int} {sd : D} {ds : List D} {s4 s5 s6 s7 s8 s9 s10 : Option Slot} {r1 : Str}
theorem z_2 (e : f__law_even [sd, .int m] = some (.ok (.fresh ds), .none)) : (mAsg 3 (mF 2 f__law_even none (aT (mVar 1) (aT (mVar 2) aNil)))) (rZ x y (dV sd) (iV m) none none none none none none none none) = some (.ok .nx, rZ x y (dV sd) (iV m) (oL ds) none none none none none none none) := by
  unfold rZ dV iV oL
  simp [e, mkFn, isListAt, slots, slot0, mSeq, mAsg, mRet, mIfS, mDrop, mB, bnd, Mi.ret, thaw, thawR, mVal, valR, mVar, mC, mBin, mUn, op1, op2, look, opN, lookAll, mCall, aT, aV, aNil, mStore, okSet, isT, asB, mTup, mLst, valsOf, mNx, outIo, retR, Md.isOwn, Md.isIo, Md.isLk, fI, mIf, mAnd, mOr, mNot, mAndV, mOrV, mChain, mPar, mPar3, mF, mFk, callF, callIo, putIo, freezeBy, flatD, flatAll, flatY, mayGive, notSlot, gath, mAsgG, gT, gsCons, gsNil, gIx, gN, setIx, mSetIx, ownAt, mApp, appTo, mIsi, isiD, isK, kinds, tyD, mSl, mPart, mNoPart, asInt, slD, cutD, lenD, absD, max2D, min2D, gcdD, lcmD, intD, listD, tupleD, allD, boolsOf, divmodD, addD, subD, mulD, fdivD, modD, powD, leD, gtD, geD, isD, isntD, negD, notD, revD, isNone, sizeLine, mMt, mtS, startsD, findD, fmtD, mJs, strD, mFT, callT, mPar3O, mParO, noSlot]
theorem z_3 (e : f_even_row [sd, .int m] = some (.ok (.fresh ds), .none)) : (mAsg 4 (mF 2 f_even_row none (aT (mVar 1) (aT (mVar 2) aNil)))) (rZ x y (dV sd) (iV m) (oL ds) none none none none none none none) = some (.ok .nx, rZ x y (dV sd) (iV m) (oL ds) (oL ds) none none none none none none) := by
  unfold rZ dV iV oL
  simp [e, mkFn, isListAt, slots, slot0, mSeq, mAsg, mRet, mIfS, mDrop, mB, bnd, Mi.ret, thaw, thawR, mVal, valR, mVar, mC, mBin, mUn, op1, op2, look, opN, lookAll, mCall, aT, aV, aNil, mStore, okSet, isT, asB, mTup, mLst, valsOf, mNx, outIo, retR, Md.isOwn, Md.isIo, Md.isLk, fI, mIf, mAnd, mOr, mNot, mAndV, mOrV, mChain, mPar, mPar3, mF, mFk, callF, callIo, putIo, freezeBy, flatD, flatAll, flatY, mayGive, notSlot, gath, mAsgG, gT, gsCons, gsNil, gIx, gN, setIx, mSetIx, ownAt, mApp, appTo, mIsi, isiD, isK, kinds, tyD, mSl, mPart, mNoPart, asInt, slD, cutD, lenD, absD, max2D, min2D, gcdD, lcmD, intD, listD, tupleD, allD, boolsOf, divmodD, addD, subD, mulD, fdivD, modD, powD, leD, gtD, geD, isD, isntD, negD, notD, revD, isNone, sizeLine, mMt, mtS, startsD, findD, fmtD, mJs, strD, mFT, callT, mPar3O, mParO, noSlot]
theorem z_4 (p1 : reprD [.list ds] = some (.val (.str r1))) (e2 : f__law_is_even [sd, .list ds] = some (.ok (.val (.bool true)), .none)) (e3 : f__law_break [sd, .list ds] = some (.ok (.val .none), .none)) : (mIfS (mOr (mB (mBin nesD (mCall reprD (aT (mVar 4) aNil)) (mCall reprD (aT (mVar 3) aNil)))) (mOr (mNot (mB (mF 2 f__law_is_even none (aT (mVar 1) (aT (mVar 3) aNil))))) (mB (mBin isntD (mF 2 f__law_break none (aT (mVar 1) (aT (mVar 3) aNil))) (mC .none))))) (mRet (mC (.bool false))) mNx) (rZ x y (dV sd) (iV m) (oL ds) (oL ds) none none none none none none) = some (.ok .nx, rZ x y (dV sd) (iV m) (oL ds) (oL ds) none none none none none none) := by
  have n1 := nes_same r1
  have i1 : isntD .none .none = some (.val (.bool false)) := rfl
  unfold rZ dV iV oL
  simp [p1, n1, e2, e3, i1, mkFn, isListAt, slots, slot0, mSeq, mAsg, mRet, mIfS, mDrop, mB, bnd, Mi.ret, thaw, thawR, mVal, valR, mVar, mC, mBin, mUn, op1, op2, look, opN, lookAll, mCall, aT, aV, aNil, mStore, okSet, isT, asB, mTup, mLst, valsOf, mNx, outIo, retR, Md.isOwn, Md.isIo, Md.isLk, fI, mIf, mAnd, mOr, mNot, mAndV, mOrV, mChain, mPar, mPar3, mF, mFk, callF, callIo, putIo, freezeBy, flatD, flatAll, flatY, mayGive, notSlot, gath, mAsgG, gT, gsCons, gsNil, gIx, gN, setIx, mSetIx, ownAt, mApp, appTo, mIsi, isiD, isK, kinds, tyD, mSl, mPart, mNoPart, asInt, slD, cutD, lenD, absD, max2D, min2D, gcdD, lcmD, intD, listD, tupleD, allD, boolsOf, divmodD, addD, subD, mulD, fdivD, modD, powD, leD, gtD, geD, isD, isntD, negD, notD, revD, isNone, sizeLine, mMt, mtS, startsD, findD, fmtD, mJs, strD, mFT, callT, mPar3O, mParO, noSlot, -isntD]
theorem z_5 (hl : ds.length < 16777216) : (mApp 4 (mC .none)) (rZ x y (dV sd) (iV m) (oL ds) (oL ds) none none none none none none) = some (.ok .nx, rZ x y (dV sd) (iV m) (oL ds) (oL (ds ++ [.none])) none none none none none none) := by
  unfold rZ dV iV oL
  simp [hl, mkFn, isListAt, slots, slot0, mSeq, mAsg, mRet, mIfS, mDrop, mB, bnd, Mi.ret, thaw, thawR, mVal, valR, mVar, mC, mBin, mUn, op1, op2, look, opN, lookAll, mCall, aT, aV, aNil, mStore, okSet, isT, asB, mTup, mLst, valsOf, mNx, outIo, retR, Md.isOwn, Md.isIo, Md.isLk, fI, mIf, mAnd, mOr, mNot, mAndV, mOrV, mChain, mPar, mPar3, mF, mFk, callF, callIo, putIo, freezeBy, flatD, flatAll, flatY, mayGive, notSlot, gath, mAsgG, gT, gsCons, gsNil, gIx, gN, setIx, mSetIx, ownAt, mApp, appTo, mIsi, isiD, isK, kinds, tyD, mSl, mPart, mNoPart, asInt, slD, cutD, lenD, absD, max2D, min2D, gcdD, lcmD, intD, listD, tupleD, allD, boolsOf, divmodD, addD, subD, mulD, fdivD, modD, powD, leD, gtD, geD, isD, isntD, negD, notD, revD, isNone, sizeLine, mMt, mtS, startsD, findD, fmtD, mJs, strD, mFT, callT, mPar3O, mParO, noSlot]
theorem z_6 (e : f_even_row [sd, .int m] = some (.ok (.fresh ds), .none)) (p1 : reprD [.list ds] = some (.val (.str r1))) (e2 : f__law_value_right [sd, .list ds] = some (.ok (.val (.bool true)), .none)) : (mIfS (mOr (mB (mBin nesD (mCall reprD (aT (mFk 0 2 [1, 0] f_even_row none aNil (aT (mVar 2) (aT (mVar 1) aNil))) aNil)) (mCall reprD (aT (mVar 3) aNil)))) (mNot (mB (mF 2 f__law_value_right none (aT (mVar 1) (aT (mVar 3) aNil)))))) (mRet (mC (.bool false))) mNx) (rZ x y (dV sd) (iV m) (oL ds) s4 none none none none none none) = some (.ok .nx, rZ x y (dV sd) (iV m) (oL ds) s4 none none none none none none) := by
  have n1 := nes_same r1
  unfold rZ dV iV oL
  simp [e, p1, n1, e2, mkFn, isListAt, slots, slot0, mSeq, mAsg, mRet, mIfS, mDrop, mB, bnd, Mi.ret, thaw, thawR, mVal, valR, mVar, mC, mBin, mUn, op1, op2, look, opN, lookAll, mCall, aT, aV, aNil, mStore, okSet, isT, asB, mTup, mLst, valsOf, mNx, outIo, retR, Md.isOwn, Md.isIo, Md.isLk, fI, mIf, mAnd, mOr, mNot, mAndV, mOrV, mChain, mPar, mPar3, mF, mFk, callF, callIo, putIo, freezeBy, flatD, flatAll, flatY, mayGive, notSlot, gath, mAsgG, gT, gsCons, gsNil, gIx, gN, setIx, mSetIx, ownAt, mApp, appTo, mIsi, isiD, isK, kinds, tyD, mSl, mPart, mNoPart, asInt, slD, cutD, lenD, absD, max2D, min2D, gcdD, lcmD, intD, listD, tupleD, allD, boolsOf, divmodD, addD, subD, mulD, fdivD, modD, powD, leD, gtD, geD, isD, isntD, negD, notD, revD, isNone, sizeLine, mMt, mtS, startsD, findD, fmtD, mJs, strD, mFT, callT, mPar3O, mParO, noSlot]
theorem z_7i {x' y' k : Int} {ts cs : List D} (et : f__law_turns [sd, .int m] = some (.ok (.fresh ts), .none)) (ed : f__law_draw [.list [.int x, .int y], .int (m + 1)] = some (.ok (.val (.int k)), .list [.int x', .int y'])) (sl : slD none (some k) (.list ds) = some (.fresh cs)) :
    ((mItD (mLst (aV (mF 2 f__law_turns none (aT (mVar 1) (aT (mVar 2) aNil))) (aV (mSl (mVar 3) mNoPart (mPart (mF 2 f__law_draw (some 0) (aT (mVar 0) (aT (mBin addD (mVar 2) (mC (.int 1))) aNil))))) aNil))))) (rZ x y (dV sd) (iV m) (oL ds) s4 none none none none none none) = some (.ok ⟨[.list ts, .list cs], []⟩, rZ x' y' (dV sd) (iV m) (oL ds) s4 none none none none none none) := by
  unfold rZ dV iV oL
  simp [mItD, iterD, et, ed, sl, mkFn, isListAt, slots, slot0, mSeq, mAsg, mRet, mIfS, mDrop, mB, bnd, Mi.ret, thaw, thawR, mVal, valR, mVar, mC, mBin, mUn, op1, op2, look, opN, lookAll, mCall, aT, aV, aNil, mStore, okSet, isT, asB, mTup, mLst, valsOf, mNx, outIo, retR, Md.isOwn, Md.isIo, Md.isLk, fI, mIf, mAnd, mOr, mNot, mAndV, mOrV, mChain, mPar, mPar3, mF, mFk, callF, callIo, putIo, freezeBy, flatD, flatAll, flatY, mayGive, notSlot, gath, mAsgG, gT, gsCons, gsNil, gIx, gN, setIx, mSetIx, ownAt, mApp, appTo, mIsi, isiD, isK, kinds, tyD, mSl, mPart, mNoPart, asInt, slD, cutD, lenD, absD, max2D, min2D, gcdD, lcmD, intD, listD, tupleD, allD, boolsOf, divmodD, addD, subD, mulD, fdivD, modD, powD, leD, gtD, geD, isD, isntD, negD, notD, revD, isNone, sizeLine, mMt, mtS, startsD, findD, fmtD, mJs, strD, mFT, callT, mPar3O, mParO, noSlot, -slD, -cutD]
theorem z_7b {rd : D} (e2 : f__law_value_right [sd, rd] = some (.ok (.val (.bool true)), .none)) : ((mIfS (mNot (mB (mF 2 f__law_value_right none (aT (mVar 1) (aT (mVar 5) aNil))))) (mRet (mC (.bool false))) mNx)) (rZ x y (dV sd) (iV m) (oL ds) s4 (dV rd) none none none none none) = some (.ok .nx, rZ x y (dV sd) (iV m) (oL ds) s4 (dV rd) none none none none none) := by
  unfold rZ dV iV oL
  simp [e2, mkFn, isListAt, slots, slot0, mSeq, mAsg, mRet, mIfS, mDrop, mB, bnd, Mi.ret, thaw, thawR, mVal, valR, mVar, mC, mBin, mUn, op1, op2, look, opN, lookAll, mCall, aT, aV, aNil, mStore, okSet, isT, asB, mTup, mLst, valsOf, mNx, outIo, retR, Md.isOwn, Md.isIo, Md.isLk, fI, mIf, mAnd, mOr, mNot, mAndV, mOrV, mChain, mPar, mPar3, mF, mFk, callF, callIo, putIo, freezeBy, flatD, flatAll, flatY, mayGive, notSlot, gath, mAsgG, gT, gsCons, gsNil, gIx, gN, setIx, mSetIx, ownAt, mApp, appTo, mIsi, isiD, isK, kinds, tyD, mSl, mPart, mNoPart, asInt, slD, cutD, lenD, absD, max2D, min2D, gcdD, lcmD, intD, listD, tupleD, allD, boolsOf, divmodD, addD, subD, mulD, fdivD, modD, powD, leD, gtD, geD, isD, isntD, negD, notD, revD, isNone, sizeLine, mMt, mtS, startsD, findD, fmtD, mJs, strD, mFT, callT, mPar3O, mParO, noSlot]
theorem z_8b {x' y' : Int} {ys : List D} (e : f__law_bent [.list [.int x, .int y], sd, .list ds] = some (.ok (.fresh ys), .list [.int x', .int y'])) (f1 : flatAll ys = true) (e2 : f__law_value_right [sd, .list ys] = some (.ok (.val (.bool true)), .none)) : ((mIfS (mNot (mB (mF 2 f__law_value_right none (aT (mVar 1) (aT (mF 3 f__law_bent (some 0) (aT (mVar 0) (aT (mVar 1) (aT (mVar 3) aNil)))) aNil))))) (mRet (mC (.bool false))) mNx)) (rZ x y (dV sd) (iV m) (oL ds) s4 s5 s6 none none none none) = some (.ok .nx, rZ x' y' (dV sd) (iV m) (oL ds) s4 s5 s6 none none none none) := by
  unfold rZ dV iV oL
  simp [e, f1, e2, mkFn, isListAt, slots, slot0, mSeq, mAsg, mRet, mIfS, mDrop, mB, bnd, Mi.ret, thaw, thawR, mVal, valR, mVar, mC, mBin, mUn, op1, op2, look, opN, lookAll, mCall, aT, aV, aNil, mStore, okSet, isT, asB, mTup, mLst, valsOf, mNx, outIo, retR, Md.isOwn, Md.isIo, Md.isLk, fI, mIf, mAnd, mOr, mNot, mAndV, mOrV, mChain, mPar, mPar3, mF, mFk, callF, callIo, putIo, freezeBy, flatD, flatAll, flatY, mayGive, notSlot, gath, mAsgG, gT, gsCons, gsNil, gIx, gN, setIx, mSetIx, ownAt, mApp, appTo, mIsi, isiD, isK, kinds, tyD, mSl, mPart, mNoPart, asInt, slD, cutD, lenD, absD, max2D, min2D, gcdD, lcmD, intD, listD, tupleD, allD, boolsOf, divmodD, addD, subD, mulD, fdivD, modD, powD, leD, gtD, geD, isD, isntD, negD, notD, revD, isNone, sizeLine, mMt, mtS, startsD, findD, fmtD, mJs, strD, mFT, callT, mPar3O, mParO, noSlot, -flatAll]
theorem z_8i : ((mRng1 (aT (mC (.int 4)) aNil))) (rZ x y (dV sd) (iV m) (oL ds) s4 s5 none none none none none) = some (.ok ⟨rangeD 0 4, []⟩, rZ x y (dV sd) (iV m) (oL ds) s4 s5 none none none none none) := by
  refine rng_of (n := 4) ?_ (in62_nat (by decide))
  unfold rZ dV iV oL
  simp [mkFn, isListAt, slots, slot0, mSeq, mAsg, mRet, mIfS, mDrop, mB, bnd, Mi.ret, thaw, thawR, mVal, valR, mVar, mC, mBin, mUn, op1, op2, look, opN, lookAll, mCall, aT, aV, aNil, mStore, okSet, isT, asB, mTup, mLst, valsOf, mNx, outIo, retR, Md.isOwn, Md.isIo, Md.isLk, fI, mIf, mAnd, mOr, mNot, mAndV, mOrV, mChain, mPar, mPar3, mF, mFk, callF, callIo, putIo, freezeBy, flatD, flatAll, flatY, mayGive, notSlot, gath, mAsgG, gT, gsCons, gsNil, gIx, gN, setIx, mSetIx, ownAt, mApp, appTo, mIsi, isiD, isK, kinds, tyD, mSl, mPart, mNoPart, asInt, slD, cutD, lenD, absD, max2D, min2D, gcdD, lcmD, intD, listD, tupleD, allD, boolsOf, divmodD, addD, subD, mulD, fdivD, modD, powD, leD, gtD, geD, isD, isntD, negD, notD, revD, isNone, sizeLine, mMt, mtS, startsD, findD, fmtD, mJs, strD, mFT, callT, mPar3O, mParO, noSlot]
abbrev oddL (n : Int) (cs : List D) : List D := [.none, .int 0, .bool true, .str "", .dict [], .list [.none], .list [.bool true], .list [.int n], .list [.int (-1)], .list (cs ++ [.tuple [.int 0]]), .list (cs ++ [.str "0"])]
theorem z_9 {n : Int} {cs : List D} (ln : lenD [sd] = some (.val (.int n))) (sl : slD none (some 20) (.list ds) = some (.fresh cs)) (hl : cs.length ≤ 100) : (mAsg 7 (mLst (aV (mC .none) (aV (mC (.int 0)) (aV (mC (.bool true)) (aV (mC (.str "")) (aV (ret (.val (.dict []))) (aV (mLst (aV (mC .none) aNil)) (aV (mLst (aV (mC (.bool true)) aNil)) (aV (mLst (aV (mCall lenD (aT (mVar 1) aNil)) aNil)) (aV (mLst (aV (mUn negD (mC (.int 1))) aNil)) (aV (mBin addD (mSl (mVar 3) mNoPart (mPart (mC (.int 20)))) (mLst (aV (mTup (aV (mC (.int 0)) aNil)) aNil))) (aV (mBin addD (mSl (mVar 3) mNoPart (mPart (mC (.int 20)))) (mLst (aV (mC (.str "0")) aNil))) aNil))))))))))))) (rZ x y (dV sd) (iV m) (oL ds) s4 s5 s6 none none none none) = some (.ok .nx, rZ x y (dV sd) (iV m) (oL ds) s4 s5 s6 (oL (oddL n cs)) none none none) := by
  have d1 : addD (.list cs) (.list [.tuple [.int 0]]) = some (.fresh (cs ++ [.tuple [.int 0]])) := add_l (by simp; omega)
  have d2 : addD (.list cs) (.list [.str "0"]) = some (.fresh (cs ++ [.str "0"])) := add_l (by simp; omega)
  unfold oddL
  generalize cs ++ [.tuple [.int 0]] = A at d1 ⊢
  generalize cs ++ [.str "0"] = B at d2 ⊢
  unfold rZ dV iV oL
  simp [ln, sl, d1, d2, mkFn, isListAt, slots, slot0, mSeq, mAsg, mRet, mIfS, mDrop, mB, bnd, Mi.ret, thaw, thawR, mVal, valR, mVar, mC, mBin, mUn, op1, op2, look, opN, lookAll, mCall, aT, aV, aNil, mStore, okSet, isT, asB, mTup, mLst, valsOf, mNx, outIo, retR, Md.isOwn, Md.isIo, Md.isLk, fI, mIf, mAnd, mOr, mNot, mAndV, mOrV, mChain, mPar, mPar3, mF, mFk, callF, callIo, putIo, freezeBy, flatD, flatAll, flatY, mayGive, notSlot, gath, mAsgG, gT, gsCons, gsNil, gIx, gN, setIx, mSetIx, ownAt, mApp, appTo, mIsi, isiD, isK, kinds, tyD, mSl, mPart, mNoPart, asInt, slD, cutD, lenD, absD, max2D, min2D, gcdD, lcmD, intD, listD, tupleD, allD, boolsOf, divmodD, addD, subD, mulD, fdivD, modD, powD, leD, gtD, geD, isD, isntD, negD, notD, revD, isNone, sizeLine, mMt, mtS, startsD, findD, fmtD, mJs, strD, mFT, callT, mPar3O, mParO, noSlot, -slD, -cutD, -addD, -lenD]
theorem z_10 {x' y' : Int} {os : List D} {o : D} (e : f__law_pick [.list [.int x, .int y], .list os] = some (.ok (.val o), .list [.int x', .int y'])) : ∃ s7', (mAsg 8 (mF 2 f__law_pick (some 0) (aT (mVar 0) (aT (mVar 7) aNil)))) (rZ x y (dV sd) (iV m) (oL ds) s4 s5 s6 (oL os) none none none) = some (.ok .nx, rZ x' y' (dV sd) (iV m) (oL ds) s4 s5 s6 s7' (dV o) none none) := by
  cases f : flatD o with
  | true =>
    refine ⟨oL os, ?_⟩
    unfold rZ dV iV oL
    simp [e, f, mkFn, isListAt, slots, slot0, mSeq, mAsg, mRet, mIfS, mDrop, mB, bnd, Mi.ret, thaw, thawR, mVal, valR, mVar, mC, mBin, mUn, op1, op2, look, opN, lookAll, mCall, aT, aV, aNil, mStore, okSet, isT, asB, mTup, mLst, valsOf, mNx, outIo, retR, Md.isOwn, Md.isIo, Md.isLk, fI, mIf, mAnd, mOr, mNot, mAndV, mOrV, mChain, mPar, mPar3, mF, mFk, callF, callIo, putIo, freezeBy, flatD, flatAll, flatY, mayGive, notSlot, gath, mAsgG, gT, gsCons, gsNil, gIx, gN, setIx, mSetIx, ownAt, mApp, appTo, mIsi, isiD, isK, kinds, tyD, mSl, mPart, mNoPart, asInt, slD, cutD, lenD, absD, max2D, min2D, gcdD, lcmD, intD, listD, tupleD, allD, boolsOf, divmodD, addD, subD, mulD, fdivD, modD, powD, leD, gtD, geD, isD, isntD, negD, notD, revD, isNone, sizeLine, mMt, mtS, startsD, findD, fmtD, mJs, strD, mFT, callT, mPar3O, mParO, noSlot, -flatD]
  | false =>
    refine ⟨dV (.list os), ?_⟩
    unfold rZ dV iV oL
    simp [e, f, mkFn, isListAt, slots, slot0, mSeq, mAsg, mRet, mIfS, mDrop, mB, bnd, Mi.ret, thaw, thawR, mVal, valR, mVar, mC, mBin, mUn, op1, op2, look, opN, lookAll, mCall, aT, aV, aNil, mStore, okSet, isT, asB, mTup, mLst, valsOf, mNx, outIo, retR, Md.isOwn, Md.isIo, Md.isLk, fI, mIf, mAnd, mOr, mNot, mAndV, mOrV, mChain, mPar, mPar3, mF, mFk, callF, callIo, putIo, freezeBy, flatD, flatAll, flatY, mayGive, notSlot, gath, mAsgG, gT, gsCons, gsNil, gIx, gN, setIx, mSetIx, ownAt, mApp, appTo, mIsi, isiD, isK, kinds, tyD, mSl, mPart, mNoPart, asInt, slD, cutD, lenD, absD, max2D, min2D, gcdD, lcmD, intD, listD, tupleD, allD, boolsOf, divmodD, addD, subD, mulD, fdivD, modD, powD, leD, gtD, geD, isD, isntD, negD, notD, revD, isNone, sizeLine, mMt, mtS, startsD, findD, fmtD, mJs, strD, mFT, callT, mPar3O, mParO, noSlot, -flatD]
abbrev halfD : D := .tuple [.tuple [.int 1, .int 2], .tuple [.int 1, .int 2]]
abbrev bothL : List D := [.int 0, .int 1, .int 1, .int 0, .int 1, .int 0]
theorem z_11 : (mParO 9 10 (mTup (aV (mTup (aV (mC (.int 1)) (aV (mC (.int 2)) aNil))) (aV (mTup (aV (mC (.int 1)) (aV (mC (.int 2)) aNil))) aNil))) (mLst (aV (mC (.int 0)) (aV (mC (.int 1)) (aV (mC (.int 1)) (aV (mC (.int 0)) (aV (mC (.int 1)) (aV (mC (.int 0)) aNil)))))))) (rZ x y (dV sd) (iV m) (oL ds) s4 s5 s6 s7 s8 none none) = some (.ok .nx, rZ x y (dV sd) (iV m) (oL ds) s4 s5 s6 s7 s8 (dV halfD) (oL bothL)) := by
  unfold rZ dV iV oL
  simp [mkFn, isListAt, slots, slot0, mSeq, mAsg, mRet, mIfS, mDrop, mB, bnd, Mi.ret, thaw, thawR, mVal, valR, mVar, mC, mBin, mUn, op1, op2, look, opN, lookAll, mCall, aT, aV, aNil, mStore, okSet, isT, asB, mTup, mLst, valsOf, mNx, outIo, retR, Md.isOwn, Md.isIo, Md.isLk, fI, mIf, mAnd, mOr, mNot, mAndV, mOrV, mChain, mPar, mPar3, mF, mFk, callF, callIo, putIo, freezeBy, flatD, flatAll, flatY, mayGive, notSlot, gath, mAsgG, gT, gsCons, gsNil, gIx, gN, setIx, mSetIx, ownAt, mApp, appTo, mIsi, isiD, isK, kinds, tyD, mSl, mPart, mNoPart, asInt, slD, cutD, lenD, absD, max2D, min2D, gcdD, lcmD, intD, listD, tupleD, allD, boolsOf, divmodD, addD, subD, mulD, fdivD, modD, powD, leD, gtD, geD, isD, isntD, negD, notD, revD, isNone, sizeLine, mMt, mtS, startsD, findD, fmtD, mJs, strD, mFT, callT, mPar3O, mParO, noSlot]
theorem z_12 {o : D} {zl : List D} {ts : List D} (e1 : f_is_even [sd, o] = some (.ok (.val (.bool false)), .none)) (e2 : f_is_even [halfD, .list bothL] = some (.ok (.val (.bool true)), .none)) (e3 : f_is_even [halfD, .list [.int 0, .int 0]] = some (.ok (.val (.bool false)), .none)) (mz : mulD (.list [.int 0]) (.int m) = some (.fresh zl)) (e4 : f_is_even [.tuple [.tuple [.int 1, .int 1]], .list zl] = some (.ok (.val (.bool true)), .none)) :
    (mAsg 4 (mLst (aV (mF 2 f_is_even none (aT (mVar 1) (aT (mVar 8) aNil))) (aV (mF 2 f_is_even none (aT (mVar 9) (aT (mVar 10) aNil))) (aV (mF 2 f_is_even none (aT (mVar 9) (aT (mLst (aV (mC (.int 0)) (aV (mC (.int 0)) aNil))) aNil))) (aV (mF 2 f_is_even none (aT (mTup (aV (mTup (aV (mC (.int 1)) (aV (mC (.int 1)) aNil))) aNil)) (aT (mBin mulD (mLst (aV (mC (.int 0)) aNil)) (mVar 2)) aNil))) aNil)))))) (rZ x y (dV sd) (iV m) (oL ds) (oL ts) s5 s6 s7 (dV o) (dV halfD) (oL bothL)) = some (.ok .nx, rZ x y (dV sd) (iV m) (oL ds) (oL [.bool false, .bool true, .bool false, .bool true]) s5 s6 s7 (dV o) (dV halfD) (oL bothL)) := by
  generalize halfD = hd at e2 e3 ⊢
  generalize bothL = bl at e2 ⊢
  unfold rZ dV iV oL
  simp [e1, e2, e3, mz, e4, mkFn, isListAt, slots, slot0, mSeq, mAsg, mRet, mIfS, mDrop, mB, bnd, Mi.ret, thaw, thawR, mVal, valR, mVar, mC, mBin, mUn, op1, op2, look, opN, lookAll, mCall, aT, aV, aNil, mStore, okSet, isT, asB, mTup, mLst, valsOf, mNx, outIo, retR, Md.isOwn, Md.isIo, Md.isLk, fI, mIf, mAnd, mOr, mNot, mAndV, mOrV, mChain, mPar, mPar3, mF, mFk, callF, callIo, putIo, freezeBy, flatD, flatAll, flatY, mayGive, notSlot, gath, mAsgG, gT, gsCons, gsNil, gIx, gN, setIx, mSetIx, ownAt, mApp, appTo, mIsi, isiD, isK, kinds, tyD, mSl, mPart, mNoPart, asInt, slD, cutD, lenD, absD, max2D, min2D, gcdD, lcmD, intD, listD, tupleD, allD, boolsOf, divmodD, addD, subD, mulD, fdivD, modD, powD, leD, gtD, geD, isD, isntD, negD, notD, revD, isNone, sizeLine, mMt, mtS, startsD, findD, fmtD, mJs, strD, mFT, callT, mPar3O, mParO, noSlot, -mulD]
theorem z_13 (p : reprD [.list [.bool false, .bool true, .bool false, .bool true]] = some (.val (.str r1))) : (mRet (mBin eqsD (mCall reprD (aT (mVar 4) aNil)) (mCall reprD (aT (mLst (aV (mC (.bool false)) (aV (mC (.bool true)) (aV (mC (.bool false)) (aV (mC (.bool true)) aNil))))) aNil)))) (rZ x y (dV sd) (iV m) (oL ds) (oL [.bool false, .bool true, .bool false, .bool true]) s5 s6 s7 s8 s9 s10) = some (.ok (.rt (.val (.bool true))), rZ x y (dV sd) (iV m) (oL ds) (oL [.bool false, .bool true, .bool false, .bool true]) s5 s6 s7 s8 s9 s10) := by
  have q := eqs_same r1
  unfold rZ dV iV oL
  simp [p, q, mkFn, isListAt, slots, slot0, mSeq, mAsg, mRet, mIfS, mDrop, mB, bnd, Mi.ret, thaw, thawR, mVal, valR, mVar, mC, mBin, mUn, op1, op2, look, opN, lookAll, mCall, aT, aV, aNil, mStore, okSet, isT, asB, mTup, mLst, valsOf, mNx, outIo, retR, Md.isOwn, Md.isIo, Md.isLk, fI, mIf, mAnd, mOr, mNot, mAndV, mOrV, mChain, mPar, mPar3, mF, mFk, callF, callIo, putIo, freezeBy, flatD, flatAll, flatY, mayGive, notSlot, gath, mAsgG, gT, gsCons, gsNil, gIx, gN, setIx, mSetIx, ownAt, mApp, appTo, mIsi, isiD, isK, kinds, tyD, mSl, mPart, mNoPart, asInt, slD, cutD, lenD, absD, max2D, min2D, gcdD, lcmD, intD, listD, tupleD, allD, boolsOf, divmodD, addD, subD, mulD, fdivD, modD, powD, leD, gtD, geD, isD, isntD, negD, notD, revD, isNone, sizeLine, mMt, mtS, startsD, findD, fmtD, mJs, strD, mFT, callT, mPar3O, mParO, noSlot]
end
end K83

namespace K83
open PySem L2 Evl PySem.Spec Mi

theorem odd_no {n : Nat} {cs : List D} {o : D} (h : o ∈ oddL (n : Nat) cs) : rowQ n o = false := by
  simp only [oddL, List.mem_cons, List.not_mem_nil, or_false] at h
  rcases h with rfl | rfl | rfl | rfl | rfl | rfl | rfl | rfl | rfl | rfl | rfl <;> simp [rowQ, letQ]
theorem odd_len {n : Int} {cs : List D} {o : D} (hc : cs.length ≤ 100) (h : o ∈ oddL n cs) : ∀ xs, o = .list xs ∨ o = .tuple xs → xs.length ≤ 10000 := by
  intro xs hx
  simp only [oddL, List.mem_cons, List.not_mem_nil, or_false] at h
  rcases h with rfl | rfl | rfl | rfl | rfl | rfl | rfl | rfl | rfl | rfl | rfl <;> rcases hx with hx | hx <;> cases hx <;> simp <;> omega
theorem half_ok : Parts [1, 1] := ⟨by decide, by decide, by decide, by decide⟩
theorem whole_ok : Parts [1] := ⟨by decide, by decide, by decide, by decide⟩
theorem half_d : sD (shs [1, 1]) = halfD := by
  rw [show shs [1, 1] = [(1, 2), (1, 2)] by decide]
  rfl
theorem whole_d : sD (shs [1]) = .tuple [.tuple [.int 1, .int 1]] := by
  rw [show shs [1] = [(1, 1)] by decide]
  rfl
theorem half1 : f_is_even [halfD, .list bothL] = some (.ok (.val (.bool true)), .none) := by
  have e := ev_is_even (b := true) half_ok (row := [0, 1, 1, 0, 1, 0]) (by decide) (by decide)
  rw [half_d, show evOk [1, 1] [0, 1, 1, 0, 1, 0] = true by decide] at e
  exact e
theorem half2 : f_is_even [halfD, .list [.int 0, .int 0]] = some (.ok (.val (.bool false)), .none) := by
  have e := ev_is_even (b := true) half_ok (row := [0, 0]) (by decide) (by decide)
  rw [half_d, show evOk [1, 1] [0, 0] = false by decide] at e
  exact e
theorem whole1 {n : Nat} (hn : n ≤ 5000) : f_is_even [.tuple [.tuple [.int 1, .int 1]], .list (List.replicate n (.int 0))] = some (.ok (.val (.bool true)), .none) := by
  have e := ev_is_even (b := true) whole_ok (row := List.replicate n 0) (fun l hl => by rw [(List.mem_replicate.mp hl).2]; decide) (by rw [List.length_replicate]; exact hn)
  have z : evOk [1] (List.replicate n 0) = true := by
    unfold evOk
    rw [Bool.not_eq_true', List.any_eq_false]
    intro lg _
    unfold badM
    rw [show pP [1] = 0 from rfl, List.any_eq_true]
    rintro ⟨x, _, hx⟩
    unfold badE at hx
    simp at hx
  rw [whole_d, z] at e
  have er : rowD true (List.replicate n 0) = .list (List.replicate n (.int 0)) := by
    show PyData.list (ri _) = _
    rw [ri, List.map_replicate]
    rfl
  rw [er] at e
  exact e
theorem z_fin {x y x' y' : Int} {s1 s2 s3 s4 s5 s6 s7 s8 s9 s10 : Option Slot} (e : m__law_right (rZ x y none none none none none none none none none none) = some (.ok (.rt (.val (.bool true))), rZ x' y' s1 s2 s3 s4 s5 s6 s7 s8 s9 s10)) : f__law_right [.list [.int x, .int y]] = some (.ok (.val (.bool true)), .list [.int x', .int y']) := by
  unfold rZ at e
  simp [f__law_right, mkFn, isListAt, slots, slot0, e, outIo, retR]
theorem ev_lright {p : D} (hp : PotOk p) : ∃ p', f__law_right [p] = some (.ok (.val (.bool true)), p') := by
  have pw : (1000000 : Nat) < 2 ^ 9000 := Nat.lt_of_lt_of_le (by decide : 1000000 < 2 ^ 20) (Nat.pow_le_pow_right (by decide) (by decide))
  obtain ⟨r, p1, r0, r1, h1, e1⟩ := ev_draw hp (n := 12) (by decide) (by omega)
  obtain ⟨mo, hmo, mo0, mo30⟩ : ∃ mo : Int, (mo = if decide (r = 0) then 30 else 8) ∧ 0 < mo ∧ mo ≤ 30 := ⟨_, rfl, by split <;> decide, by split <;> decide⟩
  obtain ⟨ps, p2, h, h2, e2⟩ := ev_lshares mo0 mo30 h1
  obtain ⟨q, p3, q0, q1, h3, e3⟩ := ev_draw h2 (n := 40) (by decide) (by omega)
  obtain ⟨q2, p4, b0, b1, h4, e4⟩ := ev_draw h3 (n := 81) (by decide) (by omega)
  obtain ⟨x0, y0, _, _, _, rfl⟩ := hp
  obtain ⟨x1, y1, _, _, _, rfl⟩ := h1
  obtain ⟨x2, y2, _, _, _, rfl⟩ := h2
  have h3' := h3
  obtain ⟨x3, y3, _, _, _, rfl⟩ := h3
  have h4' := h4
  obtain ⟨x4, y4, _, _, _, rfl⟩ := h4
  have l2 := h.l2
  have s30 := shs_len h
  have a0 := z_0 e1 (eqs_int r 0) hmo e2
  obtain ⟨m, x5, y5, hm, h5, a1⟩ := z_1 (sd := sD (shs ps)) e3 e4 h3' h4' b0 b1
  -- the row
  obtain ⟨_, _, d3, d4⟩ := evS_ok h m (by omega)
  have d3 : (evR ps m).length = m := d3
  have d4 : ∀ l ∈ evR ps m, l < (shs ps).length := d4
  have ee := ev_leven h (n := m) (by omega)
  have er := ev_even_row h (n := m) (by omega)
  have lie := ev_lis_even h d4 (by omega)
  rw [ev_even h (by omega)] at lie
  have lbk := ev_lbrk h.one s30 d4 (by omega)
  rw [kept_even h d4 (ev_even h (by omega))] at lbk
  have vr := ev_value h d4 (by omega)
  have p1 := repr_of (ok_row (n := (shs ps).length) (by omega) d4 (by omega))
  have lr : (ri (evR ps m)).length = m := by rw [List.length_map, d3]
  have a2 := z_2 (x := x5) (y := y5) ee
  have a3 := z_3 (x := x5) (y := y5) (m := (m : Nat)) er
  have a4 := z_4 (x := x5) (y := y5) (m := (m : Nat)) p1 lie lbk
  have a5 := z_5 (x := x5) (y := y5) (m := (m : Nat)) (sd := sD (shs ps)) (ds := ri (evR ps m)) (by omega)
  have a6 := z_6 (x := x5) (y := y5) (s4 := oL (ri (evR ps m) ++ [.none])) er p1 vr
  obtain ⟨ts, tl, th, te⟩ := ev_turns h (n := m) (by omega)
  obtain ⟨k, p6, k0, k1, h6, e6⟩ := ev_draw h5 (n := ((m : Nat) : Int) + 1) (by omega) (by omega)
  have h6' := h6
  obtain ⟨x6, y6, _, _, _, rfl⟩ := h6
  obtain ⟨kn, rfl⟩ : ∃ l : Nat, k = (l : Int) := ⟨k.toNat, by omega⟩
  have tk : ∀ j, (ri (evR ps m)).take j = ri ((evR ps m).take j) := fun j => by simp only [ri, List.map_take]
  obtain ⟨x5', y5', _, _, _, hx5⟩ := id h5
  have a7i := z_7i (sd := sD (shs ps)) (s4 := oL (ri (evR ps m) ++ [.none])) te e6 (sl_to (ri (evR ps m)) kn)
  rw [tk] at a7i
  have vt := ev_value h th (by omega)
  have vc := ev_value (row := (evR ps m).take kn) h (fun l hl => d4 l (List.mem_of_mem_take hl)) (by rw [List.length_take]; omega)
  generalize hs4 : oL (ri (evR ps m) ++ [.none]) = s4 at a5 a6 a7i
  obtain ⟨ρ7, lp7, s5, _, hρ7⟩ := loopF_run (g := gN 5) (b := (mIfS (mNot (mB (mF 2 f__law_value_right none (aT (mVar 1) (aT (mVar 5) aNil))))) (mRet (mC (.bool false))) mNx)) (fun _ ρ => ∃ s5, Vl s5 ∧ ρ = rZ x6 y6 (dV (sD (shs ps))) (iV (m : Nat)) (oL (ri (evR ps m))) s4 s5 none none none none none) [.list (ri ts), .list (ri ((evR ps m).take kn))] 0
    (rZ x6 y6 (dV (sD (shs ps))) (iV (m : Nat)) (oL (ri (evR ps m))) s4 none none none none none none) ⟨none, .inl rfl, rfl⟩ (by
    intro i ρ d hd ⟨s5, h5, hρ⟩
    subst hρ
    have ev : f__law_value_right [sD (shs ps), d] = some (.ok (.val (.bool true)), .none) := by
      have hm := List.mem_of_getElem? hd
      simp only [List.mem_cons, List.not_mem_nil, or_false] at hm
      rcases hm with rfl | rfl
      · exact vt
      · exact vc
    refine ⟨rZ x6 y6 (dV (sD (shs ps))) (iV (m : Nat)) (oL (ri (evR ps m))) s4 (dV d) none none none none none, _, .nx, ?_, z_7b ev, .inl rfl, dV d, .inr ⟨_, rfl⟩, rfl⟩
    clear ev hd
    generalize oL (ri (evR ps m)) = s3
    generalize sD (shs ps) = sd
    unfold rZ dV
    rcases h5 with rfl | ⟨t, rfl⟩ <;> simp [gN, mStore, okSet])
  subst hρ7
  have a7 := for_run a7i lp7
  obtain ⟨ρ8, lp8, x8, y8, s6, h8, _, hρ8⟩ := loopF_run (g := gN 6) (b := (mIfS (mNot (mB (mF 2 f__law_value_right none (aT (mVar 1) (aT (mF 3 f__law_bent (some 0) (aT (mVar 0) (aT (mVar 1) (aT (mVar 3) aNil)))) aNil))))) (mRet (mC (.bool false))) mNx)) (fun _ ρ => ∃ x y s6, PotOk (.list [.int x, .int y]) ∧ Vl s6 ∧ ρ = rZ x y (dV (sD (shs ps))) (iV (m : Nat)) (oL (ri (evR ps m))) s4 s5 s6 none none none none) (rangeD 0 4) 0
    (rZ x6 y6 (dV (sD (shs ps))) (iV (m : Nat)) (oL (ri (evR ps m))) s4 s5 none none none none none) ⟨x6, y6, none, h6', .inl rfl, rfl⟩ (by
    intro i ρ d hd ⟨x, y, s6, hp, h6, hρ⟩
    subst hρ
    obtain ⟨row', p', g1, g2, g3, g4⟩ := ev_bent h hp d4 (by omega)
    have g1' := g1
    obtain ⟨x', y', _, _, _, rfl⟩ := g1
    have ev := ev_value h g2 (by omega)
    refine ⟨rZ x y (dV (sD (shs ps))) (iV (m : Nat)) (oL (ri (evR ps m))) s4 s5 (dV d) none none none none, _, .nx, ?_, z_8b g4 (flat_ri row') ev, .inl rfl, x', y', dV d, g1', .inr ⟨_, rfl⟩, rfl⟩
    clear ev hd g4
    generalize oL (ri (evR ps m)) = s3
    generalize sD (shs ps) = sd
    unfold rZ dV
    rcases h6 with rfl | ⟨t, rfl⟩ <;> simp [gN, mStore, okSet])
  subst hρ8
  have a8 := for_run z_8i lp8
  have sl := sl_to (ri (evR ps m)) 20
  rw [tk] at sl
  have cl : (ri ((evR ps m).take 20)).length ≤ 100 := by rw [List.length_map, List.length_take]; omega
  generalize ri ((evR ps m).take 20) = cs at sl cl
  have a9 := z_9 (x := x8) (y := y8) (m := (m : Nat)) (s4 := s4) (s5 := s5) (s6 := s6) (len_sD (shs ps)) sl cl
  obtain ⟨o, p9, ho, h9, e9⟩ := ev_pick h8 (xs := oddL (((shs ps).length : Nat) : Int) cs) (by simp [oddL]) (by simp [oddL])
  obtain ⟨x9, y9, _, _, _, rfl⟩ := h9
  obtain ⟨s7, a10⟩ := z_10 (sd := sD (shs ps)) (m := (m : Nat)) (ds := ri (evR ps m)) (s4 := s4) (s5 := s5) (s6 := s6) e9
  have ro := ev_is_row (len_sD (shs ps)) (odd_len cl ho)
  rw [odd_no ho] at ro
  have en := ie_no (ev_shares h) ro
  have a11 := z_11 (x := x9) (y := y9) (sd := sD (shs ps)) (m := (m : Nat)) (ds := ri (evR ps m)) (s4 := s4) (s5 := s5) (s6 := s6) (s7 := s7) (s8 := dV o)
  subst hs4
  have a12 := z_12 (x := x9) (y := y9) (ds := ri (evR ps m)) (ts := ri (evR ps m) ++ [.none]) (s5 := s5) (s6 := s6) (s7 := s7) en half1 half2 (mul_zeroB (k := m) (by omega)) (whole1 (n := m) (by omega))
  have pf : reprOk (.list [.bool false, .bool true, .bool false, .bool true]) = true := by
    refine reprOk_of ?_ ?_ ?_ ?_
    · simp [PyData.canLay0, PyData.canLayAll0]
    · simp [PyData.showable, PyData.showableAll]
    · simp [PyData.depth, PyData.depthAll]
    · simp [PyData.bulk, PyData.bulkAll]
  have a13 := z_13 (x := x9) (y := y9) (m := (m : Nat)) (sd := sD (shs ps)) (ds := ri (evR ps m)) (s5 := s5) (s6 := s6) (s7 := s7) (s8 := dV o) (s9 := dV halfD) (s10 := oL bothL) (repr_of pf)
  refine ⟨_, z_fin (x' := x9) (y' := y9) (s1 := dV (sD (shs ps))) (s2 := iV (m : Nat)) (s3 := oL (ri (evR ps m))) (s4 := oL [.bool false, .bool true, .bool false, .bool true]) (s5 := s5) (s6 := s6) (s7 := s7) (s8 := dV o) (s9 := dV halfD) (s10 := oL bothL) ?_⟩
  unfold m__law_right
  rw [seq_nx a0, seq_nx a1, seq_nx a2, seq_nx a3, seq_nx a4, seq_nx a5, seq_nx a6, seq_nx a7, seq_nx a8, seq_nx a9, seq_nx a10, seq_nx a11, seq_nx a12]
  exact a13
end K83

namespace K83
open PySem L2 Evl PySem.Spec Mi
theorem pw18 : powOk 10 18 = true := by decide +kernel
theorem pot_fit (cell : Int) : 0 ≤ ((cell.fmod 2147483549) * 40637 + 53).fmod 2147483563 + 1 ∧ ((cell.fmod 2147483549) * 40637 + 53).fmod 2147483563 + 1 < 4294967296 ∧ mulOk (cell.fmod 2147483549) 40637 = true := by
  have h1 : cell.fmod 2147483549 = cell % 2147483549 := fmod_eq (by decide)
  have h2 := Int.emod_nonneg cell (b := 2147483549) (by decide)
  have h3 := Int.emod_lt_of_pos cell (b := 2147483549) (by decide)
  rw [h1, fmod_eq (a := cell % 2147483549 * 40637 + 53) (b := 2147483563) (by decide)]
  have h4 := Int.emod_nonneg (cell % 2147483549 * 40637 + 53) (b := 2147483563) (by decide)
  have h5 := Int.emod_lt_of_pos (cell % 2147483549 * 40637 + 53) (b := 2147483563) (by decide)
  exact ⟨by omega, by omega, mulOk_of (a := 33) (b := 33) (by omega) (by decide) (by decide) (by decide) (by decide)⟩
theorem pot_ret (cell : Int) (s : D) : ∃ xs : List D, PotOk (.list xs) ∧ (mRet (mLst (aV (mCall max2D (aT (mC (.int 0)) (aT (mBin subD (mVar 2) (mBin powD (mC (.int 10)) (mC (.int 18)))) aNil))) (aV (mBin addD (mBin modD (mCall intD (aT (mBin addD (mBin addD (mBin mulD (mBin modD (mCall intD (aT (mVar 2) aNil)) (mC (.int 2147483549))) (mC (.int 40637))) (mBin mulD (mC (.int 727)) (mVar 1))) (mC (.int 53))) aNil)) (mC (.int 2147483563))) (mC (.int 1))) aNil)))) [some ⟨.val, s⟩, some ⟨.val, .int 0⟩, some ⟨.val, .int cell⟩] = some (.ok (.rt (.fresh xs)), [some ⟨.val, s⟩, some ⟨.val, .int 0⟩, some ⟨.val, .int cell⟩]) := by
  obtain ⟨h1, h2, h3⟩ := pot_fit cell
  have m1 : mulOk 727 0 = true := by decide
  have p := pw18
  by_cases c : cell - 10 ^ 18 > 0
  · refine ⟨[.int (cell - 10 ^ 18), .int ((cell.fmod 2147483549 * 40637 + 53).fmod 2147483563 + 1)], ⟨_, _, by omega, h1, h2, rfl⟩, ?_⟩
    have c2 : 1000000000000000000 < cell := by omega
    simp [p, m1, h3, c2, mkFn, isListAt, slots, slot0, mSeq, mAsg, mRet, mIfS, mDrop, mB, bnd, Mi.ret, thaw, thawR, mVal, valR, mVar, mC, mBin, mUn, op1, op2, look, opN, lookAll, mCall, aT, aV, aNil, mStore, okSet, isT, asB, mTup, mLst, valsOf, mNx, outIo, retR, Md.isOwn, Md.isIo, Md.isLk, fI, mIf, mAnd, mOr, mNot, mAndV, mOrV, mChain, mPar, mPar3, mF, mFk, callF, callIo, putIo, freezeBy, flatD, flatAll, flatY, mayGive, notSlot, gath, mAsgG, gT, gsCons, gsNil, gIx, gN, setIx, mSetIx, ownAt, mApp, appTo, mIsi, isiD, isK, kinds, tyD, mSl, mPart, mNoPart, asInt, slD, cutD, lenD, absD, max2D, min2D, gcdD, lcmD, intD, listD, tupleD, allD, boolsOf, divmodD, addD, subD, mulD, fdivD, modD, powD, ltD, leD, gtD, geD, isD, isntD, negD, notD, ixD, revD, atI, ixN, isNone, sizeLine, eqsD, nesD, eqD, neD, inD, inT, inL, mMt, mtS, startsD, findD, fmtD, mJs, strD, mFT, callT, mPar3O, mParO, noSlot]
  · refine ⟨[.int 0, .int ((cell.fmod 2147483549 * 40637 + 53).fmod 2147483563 + 1)], ⟨_, _, by decide, h1, h2, rfl⟩, ?_⟩
    have c2 : ¬ (1000000000000000000 < cell) := by omega
    simp [p, m1, h3, c2, mkFn, isListAt, slots, slot0, mSeq, mAsg, mRet, mIfS, mDrop, mB, bnd, Mi.ret, thaw, thawR, mVal, valR, mVar, mC, mBin, mUn, op1, op2, look, opN, lookAll, mCall, aT, aV, aNil, mStore, okSet, isT, asB, mTup, mLst, valsOf, mNx, outIo, retR, Md.isOwn, Md.isIo, Md.isLk, fI, mIf, mAnd, mOr, mNot, mAndV, mOrV, mChain, mPar, mPar3, mF, mFk, callF, callIo, putIo, freezeBy, flatD, flatAll, flatY, mayGive, notSlot, gath, mAsgG, gT, gsCons, gsNil, gIx, gN, setIx, mSetIx, ownAt, mApp, appTo, mIsi, isiD, isK, kinds, tyD, mSl, mPart, mNoPart, asInt, slD, cutD, lenD, absD, max2D, min2D, gcdD, lcmD, intD, listD, tupleD, allD, boolsOf, divmodD, addD, subD, mulD, fdivD, modD, powD, ltD, leD, gtD, geD, isD, isntD, negD, notD, ixD, revD, atI, ixN, isNone, sizeLine, eqsD, nesD, eqD, neD, inD, inT, inL, mMt, mtS, startsD, findD, fmtD, mJs, strD, mFT, callT, mPar3O, mParO, noSlot]
theorem ev_pot (ns : List Int) : ∃ xs : List D, PotOk (.list xs) ∧ f__law_pot [.list (ns.map PyData.int), .int 0] = some (.ok (.fresh xs), .none) := by
  have m0 : mulOk 5881 0 = true := by decide
  have a1 : ∃ cell : Int, (mAsg 2 (mIf (mB (mBin ltD (mVar 1) (mCall lenD (aT (mVar 0) aNil)))) (mCall absD (aT (mBin ixD (mVar 0) (mVar 1)) aNil)) (mBin addD (mBin addD (mBin mulD (mC (.int 5881)) (mVar 1)) (mC (.int 97))) (mBin modD (mCall absD (aT (mCall sumD (aT (mSl (mVar 0) mNoPart (mPart (mC (.int 1)))) aNil)) aNil)) (mC (.int 1000003)))))) [some ⟨.val, .list (ns.map PyData.int)⟩, some ⟨.val, .int 0⟩, none] = some (.ok .nx, [some ⟨.val, .list (ns.map PyData.int)⟩, some ⟨.val, .int 0⟩, some ⟨.val, .int cell⟩]) := by
    cases ns with
    | nil =>
      have m2 : divOk 1000003 = true := by decide
      have sm : sumD [.list []] = some (.val (.int 0)) := by simp [sumD, intsOf]
      exact ⟨97, by simp [m0, m2, sm, mkFn, isListAt, slots, slot0, mSeq, mAsg, mRet, mIfS, mDrop, mB, bnd, Mi.ret, thaw, thawR, mVal, valR, mVar, mC, mBin, mUn, op1, op2, look, opN, lookAll, mCall, aT, aV, aNil, mStore, okSet, isT, asB, mTup, mLst, valsOf, mNx, outIo, retR, Md.isOwn, Md.isIo, Md.isLk, fI, mIf, mAnd, mOr, mNot, mAndV, mOrV, mChain, mPar, mPar3, mF, mFk, callF, callIo, putIo, freezeBy, flatD, flatAll, flatY, mayGive, notSlot, gath, mAsgG, gT, gsCons, gsNil, gIx, gN, setIx, mSetIx, ownAt, mApp, appTo, mIsi, isiD, isK, kinds, tyD, mSl, mPart, mNoPart, asInt, slD, cutD, lenD, absD, max2D, min2D, gcdD, lcmD, intD, listD, tupleD, allD, boolsOf, divmodD, addD, subD, mulD, fdivD, modD, powD, ltD, leD, gtD, geD, isD, isntD, negD, notD, ixD, revD, atI, ixN, isNone, sizeLine, eqsD, nesD, eqD, neD, inD, inT, inL, mMt, mtS, startsD, findD, fmtD, mJs, strD, mFT, callT, mPar3O, mParO, noSlot]⟩
    | cons n ns =>
      refine ⟨if n < 0 then -n else n, ?_⟩
      have l0 : (0 : Int) < ((ns.length : Nat) : Int) + 1 := by omega
      simp [l0, mkFn, isListAt, slots, slot0, mSeq, mAsg, mRet, mIfS, mDrop, mB, bnd, Mi.ret, thaw, thawR, mVal, valR, mVar, mC, mBin, mUn, op1, op2, look, opN, lookAll, mCall, aT, aV, aNil, mStore, okSet, isT, asB, mTup, mLst, valsOf, mNx, outIo, retR, Md.isOwn, Md.isIo, Md.isLk, fI, mIf, mAnd, mOr, mNot, mAndV, mOrV, mChain, mPar, mPar3, mF, mFk, callF, callIo, putIo, freezeBy, flatD, flatAll, flatY, mayGive, notSlot, gath, mAsgG, gT, gsCons, gsNil, gIx, gN, setIx, mSetIx, ownAt, mApp, appTo, mIsi, isiD, isK, kinds, tyD, mSl, mPart, mNoPart, asInt, slD, cutD, lenD, absD, max2D, min2D, gcdD, lcmD, intD, listD, tupleD, allD, boolsOf, divmodD, addD, subD, mulD, fdivD, modD, powD, ltD, leD, gtD, geD, isD, isntD, negD, notD, ixD, revD, atI, ixN, isNone, sizeLine, eqsD, nesD, eqD, neD, inD, inT, inL, mMt, mtS, startsD, findD, fmtD, mJs, strD, mFT, callT, mPar3O, mParO, noSlot]
  obtain ⟨cell, a1⟩ := a1
  obtain ⟨xs, hx, a2⟩ := pot_ret cell (.list (ns.map PyData.int))
  refine ⟨xs, hx, ?_⟩
  have em : m__law_pot [some ⟨.val, .list (ns.map PyData.int)⟩, some ⟨.val, .int 0⟩, none] = some (.ok (.rt (.fresh xs)), [some ⟨.val, .list (ns.map PyData.int)⟩, some ⟨.val, .int 0⟩, some ⟨.val, .int cell⟩]) := by
    unfold m__law_pot
    rw [seq_nx a1]
    exact a2
  simp [f__law_pot, mkFn, isListAt, slots, slot0, em, outIo, retR]
theorem law_ok : LawOk f_law := by
  intro ns _ _
  obtain ⟨xs, hp, e0⟩ := ev_pot ns
  generalize ns.map PyData.int = is at e0 ⊢
  obtain ⟨p', e1⟩ := ev_lright hp
  refine ⟨.none, ?_⟩
  obtain ⟨x, y, _, _, _, hx⟩ := hp
  cases hx
  have em : m_law [some ⟨.val, .list is⟩] = some (.ok (.rt (.val (.bool true))), [some ⟨.val, .list is⟩]) := by
    unfold m_law
    simp [e0, e1, mkFn, isListAt, slots, slot0, mSeq, mAsg, mRet, mIfS, mDrop, mB, bnd, Mi.ret, thaw, thawR, mVal, valR, mVar, mC, mBin, mUn, op1, op2, look, opN, lookAll, mCall, aT, aV, aNil, mStore, okSet, isT, asB, mTup, mLst, valsOf, mNx, outIo, retR, Md.isOwn, Md.isIo, Md.isLk, fI, mIf, mAnd, mOr, mNot, mAndV, mOrV, mChain, mPar, mPar3, mF, mFk, callF, callIo, putIo, freezeBy, flatD, flatAll, flatY, mayGive, notSlot, gath, mAsgG, gT, gsCons, gsNil, gIx, gN, setIx, mSetIx, ownAt, mApp, appTo, mIsi, isiD, isK, kinds, tyD, mSl, mPart, mNoPart, asInt, slD, cutD, lenD, absD, max2D, min2D, gcdD, lcmD, intD, listD, tupleD, allD, boolsOf, divmodD, addD, subD, mulD, fdivD, modD, powD, ltD, leD, gtD, geD, isD, isntD, negD, notD, ixD, revD, atI, ixN, isNone, sizeLine, eqsD, nesD, eqD, neD, inD, inT, inL, mMt, mtS, startsD, findD, fmtD, mJs, strD, mFT, callT, mPar3O, mParO, noSlot]
  simp [f_law, mkFn, isListAt, slots, slot0, em, outIo, retR]
end K83

open PySem PySem.W PyProof.Rows L2
set_option maxRecDepth 100000 in
set_option maxHeartbeats 0 in
theorem PySem.Challenge.cw_carryoffice_k83_whole_even_rows_holds : PySem.Challenge.rw_carryoffice_k83_whole_even_rows.Holds := by
  w_on; o_law; k_head; (case hw => w_witness2)
  k_fill
  refine Mi.law_end (l := PySem.Challenge.rw_carryoffice_k83_whole_even_rows) (k := 9) (F := K83.f_law) rfl rfl ⟨rfl, by decide, by decide⟩ (fun w h Y => PySem.W.kIn_of Y) ?F K83.law_ok
  case F =>
    intro w mg fa h KX G hmg
    have T := by
      refine' K83.txt_mk KX G ?b_abs ?b_all ?b_any ?b_bool ?b_divmod ?b_enumerate ?b_int ?b_isinstance ?b_len ?b_list ?b_max ?b_range ?b_repr ?b_sum ?b_tuple ?b_zip ?g_gcd ?c_BEYOND ?c_MOST_LETTERS ?c_MOST_SHARES
      (case b_abs => k_is)
      (case b_all => k_is)
      (case b_any => k_is)
      (case b_bool => k_is)
      (case b_divmod => k_is)
      (case b_enumerate => k_is)
      (case b_int => k_is)
      (case b_isinstance => k_is)
      (case b_len => k_is)
      (case b_list => k_is)
      (case b_max => k_is)
      (case b_range => k_is)
      (case b_repr => k_is)
      (case b_sum => k_is)
      (case b_tuple => k_is)
      (case b_zip => k_is)
      (case g_gcd => k_is)
      (case c_BEYOND => k_is)
      (case c_MOST_LETTERS => k_is)
      (case c_MOST_SHARES => k_is)
    have d__law_draw := by
      refine' Mi.dat (x := "_law_draw") (y := "_law_draw") (st := K83.top 37) KX G ?a ?l ?c ?k
      (case a => k_is); (case l => k_is); (case c => k_is); (case k => k_is)
    have d__law_low := by
      refine' Mi.dat (x := "_law_low") (y := "_law_low") (st := K83.top 39) KX G ?a ?l ?c ?k
      (case a => k_is); (case l => k_is); (case c => k_is); (case k => k_is)
    have d_is_row_basics := by
      refine' Mi.dat (x := "is_row_basics") (y := "is_row") (st := K83.top 9) KX G ?a ?l ?c ?k
      (case a => k_is); (case l => k_is); (case c => k_is); (case k => k_is)
    have d_is_integer := by
      refine' Mi.dat (x := "is_integer") (y := "is_integer") (st := K83.top 6) KX G ?a ?l ?c ?k
      (case a => k_is); (case l => k_is); (case c => k_is); (case k => k_is)
    have d_is_ratio := by
      refine' Mi.dat (x := "is_ratio") (y := "is_ratio") (st := K83.top 13) KX G ?a ?l ?c ?k
      (case a => k_is); (case l => k_is); (case c => k_is); (case k => k_is)
    have d_common_part := by
      refine' Mi.dat (x := "common_part") (y := "common_part") (st := K83.top 17) KX G ?a ?l ?c ?k
      (case a => k_is); (case l => k_is); (case c => k_is); (case k => k_is)
    have d_are_ratios_above := by
      refine' Mi.dat (x := "are_ratios_above") (y := "are_ratios_above") (st := K83.top 21) KX G ?a ?l ?c ?k
      (case a => k_is); (case l => k_is); (case c => k_is); (case k => k_is)
    have d_common_under := by
      refine' Mi.dat (x := "common_under") (y := "common_under") (st := K83.top 18) KX G ?a ?l ?c ?k
      (case a => k_is); (case l => k_is); (case c => k_is); (case k => k_is)
    have d_total_over := by
      refine' Mi.dat (x := "total_over") (y := "total_over") (st := K83.top 19) KX G ?a ?l ?c ?k
      (case a => k_is); (case l => k_is); (case c => k_is); (case k => k_is)
    have d_is_shares := by
      refine' Mi.dat (x := "is_shares") (y := "is_shares") (st := K83.top 22) KX G ?a ?l ?c ?k
      (case a => k_is); (case l => k_is); (case c => k_is); (case k => k_is)
    have d_is_count := by
      refine' Mi.dat (x := "is_count") (y := "is_count") (st := K83.top 7) KX G ?a ?l ?c ?k
      (case a => k_is); (case l => k_is); (case c => k_is); (case k => k_is)
    have d_even_begin := by
      refine' Mi.dat (x := "even_begin") (y := "even_begin") (st := K83.top 30) KX G ?a ?l ?c ?k
      (case a => k_is); (case l => k_is); (case c => k_is); (case k => k_is)
    have d_even_end := by
      refine' Mi.dat (x := "even_end") (y := "even_end") (st := K83.top 31) KX G ?a ?l ?c ?k
      (case a => k_is); (case l => k_is); (case c => k_is); (case k => k_is)
    have d_want_shares := by
      refine' Mi.dat (x := "want_shares") (y := "want_shares") (st := K83.top 23) KX G ?a ?l ?c ?k
      (case a => k_is); (case l => k_is); (case c => k_is); (case k => k_is)
    have d_want_many := by
      refine' Mi.dat (x := "want_many") (y := "want_many") (st := K83.top 20) KX G ?a ?l ?c ?k
      (case a => k_is); (case l => k_is); (case c => k_is); (case k => k_is)
    have d_next_even := by
      refine' Mi.dat (x := "next_even") (y := "next_even") (st := K83.top 32) KX G ?a ?l ?c ?k
      (case a => k_is); (case l => k_is); (case c => k_is); (case k => k_is)
    have d__law_lags := by
      refine' Mi.dat (x := "_law_lags") (y := "_law_lags") (st := K83.top 41) KX G ?a ?l ?c ?k
      (case a => k_is); (case l => k_is); (case c => k_is); (case k => k_is)
    have d_is_list := by
      refine' Mi.dat (x := "is_list") (y := "is_list") (st := K83.top 8) KX G ?a ?l ?c ?k
      (case a => k_is); (case l => k_is); (case c => k_is); (case k => k_is)
    have d_is_row_turns := by
      refine' Mi.dat (x := "is_row_turns") (y := "is_row") (st := K83.top 24) KX G ?a ?l ?c ?k
      (case a => k_is); (case l => k_is); (case c => k_is); (case k => k_is)
    have d_lags_behind := by
      refine' Mi.dat (x := "lags_behind") (y := "lags_behind") (st := K83.top 26) KX G ?a ?l ?c ?k
      (case a => k_is); (case l => k_is); (case c => k_is); (case k => k_is)
    have d_break_of := by
      refine' Mi.dat (x := "break_of") (y := "break_of") (st := K83.top 27) KX G ?a ?l ?c ?k
      (case a => k_is); (case l => k_is); (case c => k_is); (case k => k_is)
    have d__law_is_even := by
      refine' Mi.dat (x := "_law_is_even") (y := "_law_is_even") (st := K83.top 45) KX G ?a ?l ?c ?k
      (case a => k_is); (case l => k_is); (case c => k_is); (case k => k_is)
    have d_is_even := by
      refine' Mi.dat (x := "is_even") (y := "is_even") (st := K83.top 34) KX G ?a ?l ?c ?k
      (case a => k_is); (case l => k_is); (case c => k_is); (case k => k_is)
    have d_is_kept := by
      refine' Mi.dat (x := "is_kept") (y := "is_kept") (st := K83.top 28) KX G ?a ?l ?c ?k
      (case a => k_is); (case l => k_is); (case c => k_is); (case k => k_is)
    have d__law_shares := by
      refine' Mi.dat (x := "_law_shares") (y := "_law_shares") (st := K83.top 40) KX G ?a ?l ?c ?k
      (case a => k_is); (case l => k_is); (case c => k_is); (case k => k_is)
    have d__law_even := by
      refine' Mi.dat (x := "_law_even") (y := "_law_even") (st := K83.top 44) KX G ?a ?l ?c ?k
      (case a => k_is); (case l => k_is); (case c => k_is); (case k => k_is)
    have d_even_row := by
      refine' Mi.dat (x := "even_row") (y := "even_row") (st := K83.top 33) KX G ?a ?l ?c ?k
      (case a => k_is); (case l => k_is); (case c => k_is); (case k => k_is)
    have d__law_break := by
      refine' Mi.dat (x := "_law_break") (y := "_law_break") (st := K83.top 42) KX G ?a ?l ?c ?k
      (case a => k_is); (case l => k_is); (case c => k_is); (case k => k_is)
    have d__law_value_right := by
      refine' Mi.dat (x := "_law_value_right") (y := "_law_value_right") (st := K83.top 46) KX G ?a ?l ?c ?k
      (case a => k_is); (case l => k_is); (case c => k_is); (case k => k_is)
    have d__law_turns := by
      refine' Mi.dat (x := "_law_turns") (y := "_law_turns") (st := K83.top 43) KX G ?a ?l ?c ?k
      (case a => k_is); (case l => k_is); (case c => k_is); (case k => k_is)
    have d__law_bent := by
      refine' Mi.dat (x := "_law_bent") (y := "_law_bent") (st := K83.top 47) KX G ?a ?l ?c ?k
      (case a => k_is); (case l => k_is); (case c => k_is); (case k => k_is)
    have d__law_pick := by
      refine' Mi.dat (x := "_law_pick") (y := "_law_pick") (st := K83.top 38) KX G ?a ?l ?c ?k
      (case a => k_is); (case l => k_is); (case c => k_is); (case k => k_is)
    have d__law_right := by
      refine' Mi.dat (x := "_law_right") (y := "_law_right") (st := K83.top 48) KX G ?a ?l ?c ?k
      (case a => k_is); (case l => k_is); (case c => k_is); (case k => k_is)
    have d__law_pot := by
      refine' Mi.dat (x := "_law_pot") (y := "_law_pot") (st := K83.top 36) KX G ?a ?l ?c ?k
      (case a => k_is); (case l => k_is); (case c => k_is); (case k => k_is)
    have d_law := by
      refine' Mi.dat (x := "law") (y := "law") (st := K83.top 49) KX G ?a ?l ?c ?k
      (case a => k_is); (case l => k_is); (case c => k_is); (case k => k_is)
    exact K83.all hmg T  d__law_draw d__law_low d_is_row_basics d_is_integer d_is_ratio d_common_part d_are_ratios_above d_common_under d_total_over d_is_shares d_is_count d_even_begin d_even_end d_want_shares d_want_many d_next_even d__law_lags d_is_list d_is_row_turns d_lags_behind d_break_of d__law_is_even d_is_even d_is_kept d__law_shares d__law_even d_even_row d__law_break d__law_value_right d__law_turns d__law_bent d__law_pick d__law_right d__law_pot d_law

