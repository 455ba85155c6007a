import PyProof.Rows.All
import Wide.All
import OpenK.AllK
import Wide.FinOn
import HandS.ForMost
import HandS.ForExc
import HandS.Walk
import HandS.Wide
import HandS.WideBits
import HandS.Gcd
import HandS.IsInst
import HandS.RaiseMore
import HandS.FStr
import HandS.Defaults
import HandS.ExcInit
import HandS.TryOnly
import HandS.Evl
import HandS.Zip
import HandS.Conv
import HandS.TupAny
import HandS.Flow
import HandS.Style
import HandS.StrMore
import HandS.TupMul
import HandS.Deep
import HandS.TupLe
import HandS.Ends
import HandS.EndBits
import PySem.Challenge.RW_carryoffice_k11_whole_ratios_reckoned
set_option Elab.async false
set_option linter.all false
set_option maxRecDepth 100000
set_option maxHeartbeats 4000000
set_option exponentiation.threshold 20000
/-! Mi: data over the hand layer: what stands for what, slots that own a list, states and how they go on. -/
namespace Mi
open PySem L2 Evl

abbrev D := PyData
/-- how a slot holds: a value that never changes; a list of its own; such a list while it is walked; a list of the caller's; that one while it is walked -/
inductive Md where
  | val | own | lock | io | iol
  deriving DecidableEq
def Md.isOwn : Md → Bool
  | .val => false
  | _ => true
def Md.isIo : Md → Bool
  | .io => true
  | .iol => true
  | _ => false
def Md.isLk : Md → Bool
  | .lock => true
  | .iol => true
  | _ => false
structure Slot where
  m : Md
  d : D
abbrev R := List (Option Slot)
/-- what an expression gives: a datum; a new list; the list that a slot owns -/
inductive Res where
  | val (d : D)
  | fresh (xs : List D)
  | slot (i : Nat)
structure Exc where
  cls : Str
  fs : List (Str × D)
inductive Out (α : Type) where
  | ok (a : α)
  | exc (e : Exc)
abbrev M (α : Type) := R → Option (Out α × R)
def ret {α : Type} (a : α) : M α := fun ρ => some (.ok a, ρ)
def bnd {α β : Type} (m : M α) (f : α → M β) : M β := fun ρ => match m ρ with
  | some (.ok a, ρ') => f a ρ'
  | some (.exc e, ρ') => some (.exc e, ρ')
  | none => none
def stuck {α : Type} : M α := fun _ => none

/-! ### what stands for what -/
mutual
inductive Rp (K : PySem.W.Frag) (H : Hp) : V → D → Prop
  | non : Rp K H .non .none
  | bl (b : Bool) : Rp K H (.bl b) (.bool b)
  | int (i : Int) : Rp K H (.int i) (.int i)
  | str (x : Str) : Rp K H (.str x) (.str x)
  | lst {a : Addr} {xs : List V} {ds : List D} : SqL K H a xs → RpAll K H xs ds → Rp K H (.ref a) (.list ds)
  | tup {a : Addr} {xs : List V} {ds : List D} : SqT K H a xs → RpAll K H xs ds → Rp K H (.ref a) (.tuple ds)
  | dct {a : Addr} {kvs : List (Key × V)} {ds : List (D × D)} : Rd H a (.dK kvs) → RpKv K H kvs ds → Rp K H (.ref a) (.dict ds)
inductive RpAll (K : PySem.W.Frag) (H : Hp) : List V → List D → Prop
  | nil : RpAll K H [] []
  | cons {v : V} {vs : List V} {d : D} {ds : List D} : Rp K H v d → RpAll K H vs ds → RpAll K H (v :: vs) (d :: ds)
inductive RpKv (K : PySem.W.Frag) (H : Hp) : List (Key × V) → List (D × D) → Prop
  | nil : RpKv K H [] []
  | cons {k : Key} {v : V} {kvs : List (Key × V)} {c d : D} {ds : List (D × D)} : Rp K H (kV k) c → Rp K H v d → RpKv K H kvs ds → RpKv K H ((k, v) :: kvs) ((c, d) :: ds)
end
section
variable {K : PySem.W.Frag} {H H' Hb Hb' : Hp} {v : V} {vs : List V} {d : D} {ds : List D}
mutual
theorem Rp.mono (e : Ex H H') : ∀ {v : V} {d : D}, Rp K H v d → Rp K H' v d
  | _, _, .non => .non
  | _, _, .bl b => .bl b
  | _, _, .int i => .int i
  | _, _, .str x => .str x
  | _, _, .lst h r => .lst (ex_l e h) (RpAll.mono e r)
  | _, _, .tup h r => .tup (ex_t e h) (RpAll.mono e r)
  | _, _, .dct h r => .dct (ex_rd e h) (RpKv.mono e r)
theorem RpAll.mono (e : Ex H H') : ∀ {vs : List V} {ds : List D}, RpAll K H vs ds → RpAll K H' vs ds
  | _, _, .nil => .nil
  | _, _, .cons a b => .cons (Rp.mono e a) (RpAll.mono e b)
theorem RpKv.mono (e : Ex H H') : ∀ {vs : List (Key × V)} {ds : List (D × D)}, RpKv K H vs ds → RpKv K H' vs ds
  | _, _, .nil => .nil
  | _, _, .cons a b c => .cons (Rp.mono e a) (Rp.mono e b) (RpKv.mono e c)
end
theorem RpAll.length : ∀ {vs : List V} {ds : List D}, RpAll K H vs ds → vs.length = ds.length
  | _, _, .nil => rfl
  | _, _, .cons _ b => congrArg Nat.succ b.length
theorem RpAll.get : ∀ {vs : List V} {ds : List D} {i : Nat} {d : D}, RpAll K H vs ds → ds[i]? = some d → ∃ v, vs[i]? = some v ∧ Rp K H v d
  | _, _, _, _, .nil, e => by simp at e
  | _, _, 0, _, .cons a _, e => by simp at e; subst e; exact ⟨_, rfl, a⟩
  | _, _, i + 1, _, .cons _ b, e => by
    obtain ⟨v, h1, h2⟩ := RpAll.get (i := i) b (by simpa using e)
    exact ⟨v, by simpa using h1, h2⟩
theorem RpAll.getV : ∀ {vs : List V} {ds : List D} {i : Nat} {v : V}, RpAll K H vs ds → vs[i]? = some v → ∃ d, ds[i]? = some d ∧ Rp K H v d
  | _, _, _, _, .nil, e => by simp at e
  | _, _, 0, _, .cons a _, e => by simp at e; subst e; exact ⟨_, rfl, a⟩
  | _, _, i + 1, _, .cons _ b, e => by
    obtain ⟨v, h1, h2⟩ := RpAll.getV (i := i) b (by simpa using e)
    exact ⟨v, by simpa using h1, h2⟩
theorem RpAll.append : ∀ {vs ws : List V} {ds es : List D}, RpAll K H vs ds → RpAll K H ws es → RpAll K H (vs ++ ws) (ds ++ es)
  | _, _, _, _, .nil, b => b
  | _, _, _, _, .cons a r, b => .cons a (r.append b)
theorem RpAll.take : ∀ {vs : List V} {ds : List D} (n : Nat), RpAll K H vs ds → RpAll K H (vs.take n) (ds.take n)
  | _, _, 0, _ => .nil
  | _, _, _ + 1, .nil => .nil
  | _, _, n + 1, .cons a b => .cons a (b.take n)
theorem RpAll.drop : ∀ {vs : List V} {ds : List D} (n : Nat), RpAll K H vs ds → RpAll K H (vs.drop n) (ds.drop n)
  | _, _, 0, r => r
  | _, _, _ + 1, .nil => .nil
  | _, _, n + 1, .cons _ b => b.drop n
theorem RpAll.set : ∀ {vs : List V} {ds : List D} (n : Nat) {v : V} {d : D}, RpAll K H vs ds → Rp K H v d → RpAll K H (vs.set n v) (ds.set n d)
  | _, _, _, _, _, .nil, _ => .nil
  | _, _, 0, _, _, .cons _ b, r => .cons r b
  | _, _, n + 1, _, _, .cons a b, r => .cons a (b.set n r)
theorem RpAll.rep {v : V} {d : D} (r : Rp K H v d) : ∀ n, RpAll K H (List.replicate n v) (List.replicate n d)
  | 0 => .nil
  | n + 1 => .cons r (RpAll.rep r n)
theorem RpAll.rev : ∀ {vs : List V} {ds : List D}, RpAll K H vs ds → RpAll K H vs.reverse ds.reverse
  | _, _, .nil => .nil
  | _, _, .cons a b => by
    rw [List.reverse_cons, List.reverse_cons]
    exact b.rev.append (.cons a .nil)
theorem Rp.int_inv {v : V} {i : Int} (h : Rp K H v (.int i)) : v = .int i := by cases h; rfl
theorem Rp.bool_inv {v : V} {i : Bool} (h : Rp K H v (.bool i)) : v = .bl i := by cases h; rfl
theorem Rp.str_inv {v : V} {i : Str} (h : Rp K H v (.str i)) : v = .str i := by cases h; rfl
theorem Rp.none_inv {v : V} (h : Rp K H v .none) : v = .non := by cases h; rfl
end

/-! ### states -/
def Own (σ : St) (ρ : R) (a : Addr) : Prop := ∃ (i : Nat) (s : Slot), ρ[i]? = some (some s) ∧ s.m.isOwn = true ∧ σ[i]? = some (some (.ref a))
structure Rel (K : PySem.W.Frag) (Hb H : Hp) (σ : St) (ρ : R) : Prop where
  len : σ.length = ρ.length
  ex : Ex Hb H
  val : ∀ (i : Nat) (s : Slot), ρ[i]? = some (some s) → s.m.isOwn = false → ∃ v, σ[i]? = some (some v) ∧ Rp K Hb v s.d
  own : ∀ (i : Nat) (s : Slot), ρ[i]? = some (some s) → s.m.isOwn = true → ∃ a vs xs, σ[i]? = some (some (.ref a)) ∧ s.d = .list xs ∧ Hb a = none ∧ H a = some (.lst vs) ∧ RpAll K Hb vs xs
  inj : ∀ (i j : Nat) (s t : Slot) (a : Addr), ρ[i]? = some (some s) → ρ[j]? = some (some t) → s.m.isOwn = true → t.m.isOwn = true → σ[i]? = some (some (.ref a)) → σ[j]? = some (some (.ref a)) → i = j
/-- from one state to a later one -/
structure Go (σ : St) (ρ : R) (Hb H : Hp) (σ' : St) (ρ' : R) (Hb' H' : Hp) : Prop where
  b : Ex Hb Hb'
  k : ∀ a o, H a = some o → ¬ Own σ ρ a → H' a = some o
  f : ∀ a, Hb a = none → Hb' a ≠ none → H a = none ∨ Own σ ρ a
  t : ∀ a, H a ≠ none → H' a ≠ none
  o : ∀ a, Own σ' ρ' a → Own σ ρ a ∨ H a = none
  io : ∀ (i : Nat) (s : Slot), ρ[i]? = some (some s) → s.m.isIo = true → σ'[i]? = σ[i]? ∧ ∃ s', ρ'[i]? = some (some s') ∧ s'.m.isIo = true
  lk : ∀ (i : Nat) (s : Slot), ρ[i]? = some (some s) → s.m.isLk = true → σ'[i]? = σ[i]? ∧ ρ'[i]? = some (some s)
section
variable {K : PySem.W.Frag} {σ σ1 σ2 : St} {ρ ρ1 ρ2 : R} {Hb H Hb1 H1 Hb2 H2 : Hp} {v : V} {r : Res} {d : D} {a p : Addr}
theorem Rel.owned (R : Rel K Hb H σ ρ) (h : Own σ ρ a) : Hb a = none ∧ ∃ vs, H a = some (.lst vs) := by
  obtain ⟨i, s, h1, h2, h3⟩ := h
  obtain ⟨a', vs, xs, e1, _, e2, e3, _⟩ := R.own i s h1 h2
  rw [h3] at e1
  cases e1
  exact ⟨e2, vs, e3⟩
theorem Go.refl : Go σ ρ Hb H σ ρ Hb H := ⟨Ex.refl _, fun _ _ h _ => h, fun a h1 h2 => absurd h1 h2, fun _ h => h, fun _ h => .inl h, fun i s h1 h2 => ⟨rfl, s, h1, h2⟩, fun i s h1 _ => ⟨rfl, h1⟩⟩
theorem Go.trans (x : Go σ ρ Hb H σ1 ρ1 Hb1 H1) (y : Go σ1 ρ1 Hb1 H1 σ2 ρ2 Hb2 H2) : Go σ ρ Hb H σ2 ρ2 Hb2 H2 where
  b := x.b.trans y.b
  k := fun a o h n => by
    refine y.k a o (x.k a o h n) fun q => ?_
    rcases x.o a q with z | z
    · exact n z
    · rw [h] at z; cases z
  f := fun a h1 h2 => by
    by_cases h3 : Hb1 a = none
    · rcases y.f a h3 h2 with z | z
      · left
        exact Classical.byContradiction fun q => x.t a q z
      · exact (x.o a z).symm
    · exact x.f a h1 h3
  t := fun a h => y.t a (x.t a h)
  o := fun a h => by
    rcases y.o a h with z | z
    · exact x.o a z
    · right
      exact Classical.byContradiction fun q => x.t a q z
  io := fun i s h1 h2 => by
    obtain ⟨e1, s1, h3, h4⟩ := x.io i s h1 h2
    obtain ⟨e2, s2, h5, h6⟩ := y.io i s1 h3 h4
    exact ⟨e2.trans e1, s2, h5, h6⟩
  lk := fun i s h1 h2 => by
    obtain ⟨e1, h3⟩ := x.lk i s h1 h2
    obtain ⟨e2, h4⟩ := y.lk i s h3 h2
    exact ⟨e2.trans e1, h4⟩
/-- new objects alone -/
structure New (Hb H Hb' H' : Hp) : Prop where
  b : Ex Hb Hb'
  h : Ex H H'
  e : Ex Hb' H'
  f : ∀ a, Hb a = none → Hb' a ≠ none → H a = none
theorem New.refl (e : Ex Hb H) : New Hb H Hb H := ⟨Ex.refl _, Ex.refl _, e, fun a h1 h2 => absurd h1 h2⟩
theorem New.trans (x : New Hb H Hb1 H1) (y : New Hb1 H1 Hb2 H2) : New Hb H Hb2 H2 := ⟨x.b.trans y.b, x.h.trans y.h, y.e, fun a h1 h2 => by
  by_cases h3 : Hb1 a = none
  · have z := y.f a h3 h2
    exact fresh_back x.h z
  · exact x.f a h1 h3⟩
theorem New.go (n : New Hb H Hb1 H1) : Go σ ρ Hb H σ ρ Hb1 H1 := ⟨n.b, fun a o h _ => n.h a o h, fun a h1 h2 => .inl (n.f a h1 h2), fun a h q => h (fresh_back n.h q), fun _ h => .inl h, fun i s h1 h2 => ⟨rfl, s, h1, h2⟩, fun i s h1 _ => ⟨rfl, h1⟩⟩
theorem New.rel (n : New Hb H Hb1 H1) (R : Rel K Hb H σ ρ) : Rel K Hb1 H1 σ ρ where
  len := R.len
  ex := n.e
  val := fun i s h1 h2 => by
    obtain ⟨v, e, r⟩ := R.val i s h1 h2
    exact ⟨v, e, r.mono n.b⟩
  own := fun i s h1 h2 => by
    obtain ⟨a, vs, xs, e1, e2, e3, e4, e5⟩ := R.own i s h1 h2
    refine ⟨a, vs, xs, e1, e2, ?_, n.h a _ e4, e5.mono n.b⟩
    refine Classical.byContradiction fun q => ?_
    have z := n.f a e3 q
    rw [e4] at z; cases z
  inj := R.inj
theorem ex_upd2 {o : HO} (e : Ex Hb H) : Ex (upd Hb p o) (upd H p o) := fun a u h => by
  by_cases q : a = p
  · subst q; rw [upd_same] at h ⊢; exact h
  · rw [upd_ne q] at h ⊢; exact e a u h
/-- a new object that never changes | that may change -/
theorem New.fix {o : HO} (e : Ex Hb H) (h : H p = none) : New Hb H (upd Hb p o) (upd H p o) := ⟨Ex.new (fresh_back e h), Ex.new h, ex_upd2 e, fun a h1 h2 => by
  by_cases q : a = p
  · rw [q]; exact h
  · rw [upd_ne q] at h2; exact absurd h1 h2⟩
theorem New.mut {o : HO} (e : Ex Hb H) (h : H p = none) : New Hb H Hb (upd H p o) := ⟨Ex.refl _, Ex.new h, e.mut (fresh_back e h), fun a h1 h2 => absurd h1 h2⟩

/-- what a value is of what was told -/
def RR (K : PySem.W.Frag) (Hb H H0 : Hp) (v : V) : Res → Prop
  | .val d => Rp K Hb v d
  | .fresh xs => ∃ a vs, v = .ref a ∧ Hb a = none ∧ H a = some (.lst vs) ∧ RpAll K Hb vs xs ∧ H0 a = none
  | .slot _ => False
def RepR (K : PySem.W.Frag) (Hb H : Hp) (σ : St) (ρ : R) (H0 : Hp) (v : V) : Res → Prop
  | .val d => Rp K Hb v d
  | .fresh xs => ∃ a vs, v = .ref a ∧ Hb a = none ∧ H a = some (.lst vs) ∧ RpAll K Hb vs xs ∧ H0 a = none ∧ ¬ Own σ ρ a
  | .slot i => σ[i]? = some (some v)
theorem RepR.step {H0 : Hp} (g : Go σ ρ Hb H σ ρ1 Hb1 H1) (h : RepR K Hb H σ ρ H0 v r) : RepR K Hb1 H1 σ ρ1 H0 v r := by
  cases r with
  | val d =>
    have h : Rp K Hb v d := h
    exact h.mono g.b
  | slot i => exact h
  | fresh xs =>
    obtain ⟨a, vs, e, h1, h2, h3, h4, h5⟩ := h
    refine ⟨a, vs, e, ?_, g.k a _ h2 h5, h3.mono g.b, h4, fun q => ?_⟩
    · refine Classical.byContradiction fun q => ?_
      rcases g.f a h1 q with z | z
      · rw [h2] at z; cases z
      · exact h5 z
    · rcases g.o a q with z | z
      · exact h5 z
      · rw [h2] at z; cases z
/-- read from an earlier state -/
theorem RepR.from' {H0 H00 : Hp} (t : ∀ a, H00 a ≠ none → H0 a ≠ none) (h : RepR K Hb H σ ρ H0 v r) : RepR K Hb H σ ρ H00 v r := by
  cases r with
  | val d => exact h
  | slot i => exact h
  | fresh xs =>
    obtain ⟨a, vs, e, h1, h2, h3, h4, h5⟩ := h
    exact ⟨a, vs, e, h1, h2, h3, Classical.byContradiction fun q => t a q h4, h5⟩
theorem RR.rep {H0 : Hp} (R : Rel K Hb H0 σ ρ) (h : RR K Hb1 H1 H0 v r) : RepR K Hb1 H1 σ ρ H0 v r := by
  cases r with
  | val d => exact h
  | slot i => exact h.elim
  | fresh xs =>
    obtain ⟨a, vs, e, h1, h2, h3, h4⟩ := h
    refine ⟨a, vs, e, h1, h2, h3, h4, fun q => ?_⟩
    obtain ⟨_, ws, z⟩ := R.owned q
    rw [h4] at z; cases z

/-- what is seen: the datum, its top perhaps in a list that may change -/
def Top (K : PySem.W.Frag) (Hb H : Hp) (v : V) (d : D) : Prop := Rp K Hb v d ∨ ∃ a vs xs, v = .ref a ∧ d = .list xs ∧ H a = some (.lst vs) ∧ RpAll K Hb vs xs
def look (r : Res) (ρ : R) : Option D := match r with
  | .val d => some d
  | .fresh xs => some (.list xs)
  | .slot i => match ρ[i]? with
    | some (some s) => some s.d
    | _ => none
theorem look_top {H0 : Hp} (R : Rel K Hb H σ ρ) (h : RepR K Hb H σ ρ H0 v r) (e : look r ρ = some d) : Top K Hb H v d := by
  cases r with
  | val d' => cases e; exact .inl h
  | fresh xs =>
    cases e
    obtain ⟨a, vs, e, h1, h2, h3, _⟩ := h
    exact .inr ⟨a, vs, xs, e, rfl, h2, h3⟩
  | slot i =>
    have h : σ[i]? = some (some v) := h
    unfold look at e
    dsimp only at e
    split at e
    · rename_i s hs
      cases e
      cases q : s.m.isOwn with
      | false =>
        obtain ⟨v', e1, e2⟩ := R.val i s hs q
        rw [h] at e1; cases e1
        exact .inl e2
      | true =>
        obtain ⟨a, vs, xs, e1, e2, e3, e4, e5⟩ := R.own i s hs q
        rw [h] at e1; cases e1
        exact .inr ⟨a, vs, xs, rfl, e2, e4, e5⟩
    · cases e
theorem Top.mono (n : New Hb H Hb1 H1) (h : Top K Hb H v d) : Top K Hb1 H1 v d := by
  rcases h with h | ⟨a, vs, xs, e1, e2, e3, e4⟩
  · exact .inl (h.mono n.b)
  · exact .inr ⟨a, vs, xs, e1, e2, n.h a _ e3, e4.mono n.b⟩
/-- .. in the heap as it is -/
theorem Top.rp (e : Ex Hb H) (h : Top K Hb H v d) : Rp K H v d := by
  rcases h with h | ⟨a, vs, xs, rfl, rfl, e3, e4⟩
  · exact h.mono e
  · exact .lst (SqL.of e3) (e4.mono e)
theorem Top.list {xs : List D} (e : Ex Hb H) (h : Top K Hb H v (.list xs)) : ∃ a vs, v = .ref a ∧ SqL K H a vs ∧ RpAll K Hb vs xs := by
  rcases h with h | ⟨a, vs, xs', rfl, e2, e3, e4⟩
  · cases h with
    | lst h1 h2 => exact ⟨_, _, rfl, ex_l e h1, h2⟩
  · cases e2
    exact ⟨a, vs, rfl, SqL.of e3, e4⟩
theorem Top.tuple {xs : List D} (e : Ex Hb H) (h : Top K Hb H v (.tuple xs)) : ∃ a vs, v = .ref a ∧ SqT K H a vs ∧ RpAll K Hb vs xs := by
  rcases h with h | ⟨a, vs, xs', rfl, e2, e3, e4⟩
  · cases h with
    | tup h1 h2 => exact ⟨_, _, rfl, ex_t e h1, h2⟩
  · cases e2
theorem Top.int {i : Int} (h : Top K Hb H v (.int i)) : v = .int i := by
  rcases h with h | ⟨a, vs, xs', rfl, e2, _⟩
  · exact h.int_inv
  · cases e2
theorem Top.bool {i : Bool} (h : Top K Hb H v (.bool i)) : v = .bl i := by
  rcases h with h | ⟨a, vs, xs', rfl, e2, _⟩
  · exact h.bool_inv
  · cases e2
theorem Top.str {i : Str} (h : Top K Hb H v (.str i)) : v = .str i := by
  rcases h with h | ⟨a, vs, xs', rfl, e2, _⟩
  · exact h.str_inv
  · cases e2
theorem Top.none (h : Top K Hb H v .none) : v = .non := by
  rcases h with h | ⟨a, vs, xs', rfl, e2, _⟩
  · exact h.none_inv
  · cases e2
end
end Mi

/-! Mi: readings by what a state-and-data function tells. -/
namespace Mi
open PySem L2 Evl

/-- an exception of the class e.cls -/
def ExcR (K : PySem.W.Frag) (mg : Str → Option Value) (Hb H : Hp) (c : Value) (d : Option Addr) (e : Exc) : Prop :=
  mg e.cls = some c ∧ ((d = none ∧ e.fs = []) ∨ ∃ dx fs, d = some dx ∧ H dx = some (.xd fs) ∧ Hb dx = none ∧ Paired (fun (p : Str × V) (q : Str × D) => p.1 = q.1 ∧ Rp K Hb p.2 q.2) fs e.fs)
section
variable (K : PySem.W.Frag) (mg : Str → Option Value) (E : XK)
def Sat {α : Type} (σ : St) (Hb H : Hp) (ρ : R) (m : M α) (P : α → St → R → Hp → Hp → Prop) : Prop :=
  ∃ out ρ', m ρ = some (out, ρ') ∧ (∀ a, out = .ok a → ∀ σ' Hb' H', Go σ ρ Hb H σ' ρ' Hb' H' → Rel K Hb' H' σ' ρ' → P a σ' ρ' Hb' H') ∧
    (∀ e, out = .exc e → ∀ σ' c d Hb' H', Go σ ρ Hb H σ' ρ' Hb' H' → Rel K Hb' H' σ' ρ' → ExcR K mg Hb' H' c d e → E c d H')
/-- an expression's reading, a test's, an argument list's, a statement's -/
def tE (m : M Res) : TE := fun σ H Q => ∃ Hb ρ, Rel K Hb H σ ρ ∧ Sat K mg E σ Hb H ρ m fun r σ' ρ' Hb' H' => σ' = σ → ∀ v, RepR K Hb' H' σ ρ' H v r → Q v H'
def tT (m : M Bool) : TT := fun σ H Q => ∃ Hb ρ, Rel K Hb H σ ρ ∧ Sat K mg E σ Hb H ρ m fun b σ' ρ' Hb' H' => σ' = σ → Q b H'
/-- arguments: data and slots (no list is new) -/
inductive RepA (K : PySem.W.Frag) (Hb : Hp) (σ : St) : List V → List Res → Prop
  | nil : RepA K Hb σ [] []
  | val {v : V} {vs : List V} {d : D} {rs : List Res} : Rp K Hb v d → RepA K Hb σ vs rs → RepA K Hb σ (v :: vs) (.val d :: rs)
  | slot {v : V} {vs : List V} {i : Nat} {rs : List Res} : σ[i]? = some (some v) → RepA K Hb σ vs rs → RepA K Hb σ (v :: vs) (.slot i :: rs)
def tA (m : M (List Res)) : TA := fun σ H Q => ∃ Hb ρ, Rel K Hb H σ ρ ∧ Sat K mg E σ Hb H ρ m fun rs σ' ρ' Hb' H' => σ' = σ → ∀ vs, RepA K Hb' σ vs rs → Q vs H'
inductive Fl where
  | nx | bk | ct
  | rt (r : Res)
def FlP (De : Ends) (H0 : Hp) : Fl → St → R → Hp → Hp → Prop
  | .nx, σ', _, _, H' => De.nx σ' H'
  | .bk, σ', _, _, H' => De.bk σ' H'
  | .ct, σ', _, _, H' => De.ct σ' H'
  | .rt r, σ', ρ', Hb', H' => ∀ v, RepR K Hb' H' σ' ρ' H0 v r → De.rt v H'
def tS (m : M Fl) : TS := fun De σ H => ∃ Hb ρ, Rel K Hb H σ ρ ∧ Sat K mg E σ Hb H ρ m (FlP K De H)
/-- a target's -/
def tG (g : D → M Unit) : TG := fun v σ H Q => ∃ Hb ρ d, Rel K Hb H σ ρ ∧ Rp K Hb v d ∧ Sat K mg E σ Hb H ρ (g d) fun _ σ' _ _ H' => Q σ' H'
end

section
variable {K : PySem.W.Frag} {mg : Str → Option Value} {E : XK} {σ : St} {Hb H : Hp} {ρ : R} {α β : Type}
theorem Sat.mono {m : M α} {P P' : α → St → R → Hp → Hp → Prop} (h : Sat K mg E σ Hb H ρ m P)
    (k : ∀ a σ' ρ' Hb' H', Go σ ρ Hb H σ' ρ' Hb' H' → Rel K Hb' H' σ' ρ' → P a σ' ρ' Hb' H' → P' a σ' ρ' Hb' H') : Sat K mg E σ Hb H ρ m P' := by
  obtain ⟨out, ρ', e, h1, h2⟩ := h
  exact ⟨out, ρ', e, fun a q σ' Hb' H' g r => k a σ' ρ' Hb' H' g r (h1 a q σ' Hb' H' g r), h2⟩
theorem Sat.eq {m m' : M α} {P : α → St → R → Hp → Hp → Prop} (h : Sat K mg E σ Hb H ρ m P) (e : m ρ = m' ρ) : Sat K mg E σ Hb H ρ m' P := by
  unfold Sat at h ⊢
  rw [← e]
  exact h
theorem Sat.bnd0 {m : M α} {f : α → M β} {P : β → St → R → Hp → Hp → Prop} (h : Sat K mg E σ Hb H ρ (bnd m f) P) :
    Sat K mg E σ Hb H ρ m fun a σ1 ρ1 Hb1 H1 => ∃ out ρ2, f a ρ1 = some (out, ρ2) ∧ (∀ b, out = .ok b → ∀ σ2 Hb2 H2, Go σ ρ Hb H σ2 ρ2 Hb2 H2 → Rel K Hb2 H2 σ2 ρ2 → P b σ2 ρ2 Hb2 H2) ∧
      (∀ e, out = .exc e → ∀ σ' c d Hb' H', Go σ ρ Hb H σ' ρ2 Hb' H' → Rel K Hb' H' σ' ρ2 → ExcR K mg Hb' H' c d e → E c d H') := by
  obtain ⟨out, ρ', e, h1, h2⟩ := h
  unfold Mi.bnd at e
  split at e
  · rename_i a ρ1 e1
    refine ⟨_, _, e1, fun a' q σ1 Hb1 H1 g1 r1 => ?_, fun e' q => (by cases q)⟩
    cases q
    exact ⟨out, ρ', e, h1, h2⟩
  · rename_i e' ρ1 e1
    cases e
    refine ⟨_, _, e1, fun a' q => (by cases q), fun e'' q => ?_⟩
    cases q
    exact h2 _ rfl
  · cases e
theorem Sat.bnd {m : M α} {f : α → M β} {P : β → St → R → Hp → Hp → Prop} (h : Sat K mg E σ Hb H ρ (bnd m f) P) :
    Sat K mg E σ Hb H ρ m fun a σ1 ρ1 Hb1 H1 => Sat K mg E σ1 Hb1 H1 ρ1 (f a) fun b σ2 ρ2 Hb2 H2 => Go σ ρ Hb H σ2 ρ2 Hb2 H2 → P b σ2 ρ2 Hb2 H2 :=
  h.bnd0.mono fun a σ1 ρ1 Hb1 H1 g1 R1 ⟨out, ρ2, e, h1, h2⟩ =>
    ⟨out, ρ2, e, fun b q σ2 Hb2 H2 _ r2 g => h1 b q σ2 Hb2 H2 g r2, fun e' q σ2 c d Hb2 H2 g2 r2 x => h2 e' q σ2 c d Hb2 H2 (g1.trans g2) r2 x⟩
theorem Sat.ret {a : α} {P : α → St → R → Hp → Hp → Prop} (R : Rel K Hb H σ ρ) (h : Sat K mg E σ Hb H ρ (ret a) P) : P a σ ρ Hb H := by
  obtain ⟨out, ρ', e, h1, _⟩ := h
  cases e
  exact h1 a rfl σ Hb H Go.refl R
end

/-! ### weakening -/
section
variable {X : Cx} {e : Expr} {t t' : TE} {es : List Expr}
theorem _root_.L2.PE.imp (h : PE X e t) (k : ∀ σ H Q, t' σ H Q → t σ H Q) : PE X e t' := ⟨fun pins s σ H Q I w => h.run pins s σ H Q I (k σ H Q w)⟩
theorem _root_.L2.PT.imp {t t' : TT} (h : PT X e t) (k : ∀ σ H Q, t' σ H Q → t σ H Q) : PT X e t' := ⟨fun pins s σ H Q I w => h.run pins s σ H Q I (k σ H Q w)⟩
theorem _root_.L2.PW.imp {t t' : TT} (h : PW X e t) (k : ∀ σ H Q, t' σ H Q → t σ H Q) : PW X e t' := ⟨fun wh pins s σ H Q I w => h.run wh pins s σ H Q I (k σ H Q w)⟩
theorem _root_.L2.PA.imp {t t' : TA} (h : PA X es t) (k : ∀ σ H Q, t' σ H Q → t σ H Q) : PA X es t' := ⟨fun pos pins s σ H Q I w => h.run pos pins s σ H Q I (k σ H Q w)⟩
theorem _root_.L2.PS.imp {st : Stmt} {t t' : TS} (h : PS X st t) (k : ∀ D σ H, t' D σ H → t D σ H) : PS X st t' := ⟨fun pins s σ H De I w => h.run pins s σ H De I (k De σ H w)⟩
theorem _root_.L2.PSs.imp {st : List Stmt} {t t' : TS} (h : PSs X st t) (k : ∀ D σ H, t' D σ H → t D σ H) : PSs X st t' := ⟨fun pins s σ H De I w => h.run pins s σ H De I (k De σ H w)⟩
theorem _root_.L2.PG.imp {tg : Expr} {t t' : TG} (h : PG X tg t) (k : ∀ v σ H Q, t' v σ H Q → t v σ H Q) : PG X tg t' := ⟨fun pins s σ H v u Q I r w => h.run pins s σ H v u Q I r (k v σ H Q w)⟩
end

/-! ### results made plain -/
/-- a new list becomes a datum -/
def thawR : Res → Res
  | .fresh xs => .val (.list xs)
  | r => r
def thaw (m : M Res) : M Res := bnd m fun r => ret (thawR r)
/-- any result becomes a datum; a slot's list is no more its own -/
def valR : Res → M D
  | .val d => ret d
  | .fresh xs => ret (.list xs)
  | .slot i => fun ρ => match ρ[i]? with
    | some (some ⟨.val, d⟩) => some (.ok d, ρ)
    | some (some ⟨.own, d⟩) => some (.ok d, ρ.set i (some ⟨.val, d⟩))
    | _ => none
def mVal (m : M Res) : M D := bnd m valR
section
variable {K : PySem.W.Frag} {mg : Str → Option Value} {E : XK} {σ : St} {Hb H Hb1 H1 : Hp} {ρ ρ1 : R} {v : V} {r : Res} {d : D}
/-- the new list at a is frozen -/
theorem freeze_fresh {a : Addr} {vs : List V} (g : Go σ ρ Hb H σ ρ1 Hb1 H1) (R1 : Rel K Hb1 H1 σ ρ1) (h1 : Hb1 a = none) (h2 : H1 a = some (.lst vs)) (h4 : H a = none) (h5 : ¬ Own σ ρ1 a) :
    Go σ ρ Hb H σ ρ1 (upd Hb1 a (.lst vs)) H1 ∧ Rel K (upd Hb1 a (.lst vs)) H1 σ ρ1 ∧ Ex Hb1 (upd Hb1 a (.lst vs)) ∧ SqL K (upd Hb1 a (.lst vs)) a vs := by
  have ex : Ex Hb1 (upd Hb1 a (.lst vs)) := Ex.new h1
  refine ⟨⟨g.b.trans ex, g.k, fun b q1 q2 => ?_, g.t, g.o, g.io, g.lk⟩, ⟨R1.len, fun b o q => ?_, fun i s q1 q2 => ?_, fun i s q1 q2 => ?_, R1.inj⟩, ex, SqL.of upd_same⟩
  · by_cases e : b = a
    · rw [e]; exact .inl h4
    · rw [upd_ne e] at q2; exact g.f b q1 q2
  · by_cases e : b = a
    · subst e; rw [upd_same] at q; cases q; exact h2
    · rw [upd_ne e] at q; exact R1.ex b o q
  · obtain ⟨w, e1, e2⟩ := R1.val i s q1 q2
    exact ⟨w, e1, e2.mono ex⟩
  · obtain ⟨b, ws, xs, e1, e2, e3, e4, e5⟩ := R1.own i s q1 q2
    refine ⟨b, ws, xs, e1, e2, ?_, e4, e5.mono ex⟩
    rw [upd_ne ?_]
    · exact e3
    · intro e
      exact h5 ⟨i, s, q1, q2, by rw [e1, e]⟩
/-- the list of slot i is frozen -/
theorem freeze_slot {i : Nat} {x : D} (R1 : Rel K Hb1 H1 σ ρ1) (hs : ρ1[i]? = some (some ⟨.own, x⟩)) :
    ∃ Hb2, Go σ ρ1 Hb1 H1 σ (ρ1.set i (some ⟨.val, x⟩)) Hb2 H1 ∧ Rel K Hb2 H1 σ (ρ1.set i (some ⟨.val, x⟩)) ∧ ∃ v, σ[i]? = some (some v) ∧ Rp K Hb2 v x := by
  obtain ⟨a, vs, xs, e1, e2, e3, e4, e5⟩ := R1.own i _ hs rfl
  have e2 : x = .list xs := e2
  subst e2
  have ex : Ex Hb1 (upd Hb1 a (.lst vs)) := Ex.new e3
  have hi : i < ρ1.length := (List.getElem?_eq_some_iff.mp hs).1
  have hown : Own σ ρ1 a := ⟨i, _, hs, rfl, e1⟩
  have back : ∀ (j : Nat) (s : Slot), (ρ1.set i (some ⟨.val, .list xs⟩))[j]? = some (some s) → (j = i ∧ s = ⟨.val, .list xs⟩) ∨ (j ≠ i ∧ ρ1[j]? = some (some s)) := fun j s q => by
    by_cases e : j = i
    · subst e
      rw [List.getElem?_set_self hi] at q
      cases q
      exact .inl ⟨rfl, rfl⟩
    · rw [List.getElem?_set_ne (Ne.symm e)] at q
      exact .inr ⟨e, q⟩
  have rp : Rp K (upd Hb1 a (.lst vs)) (.ref a) (.list xs) := .lst (SqL.of upd_same) (e5.mono ex)
  refine ⟨upd Hb1 a (.lst vs), ⟨ex, fun _ _ h _ => h, fun b q1 q2 => ?_, fun _ h => h, fun b q => ?_, fun j s q1 q2 => ?_, fun j s q1 q2 => ?_⟩, ⟨by simp [R1.len], fun b o q => ?_, fun j s q1 q2 => ?_, fun j s q1 q2 => ?_, fun j k s t b q1 q2 q3 q4 q5 q6 => ?_⟩, _, e1, rp⟩
  · by_cases e : b = a
    · rw [e]; exact .inr hown
    · rw [upd_ne e] at q2; exact absurd q1 q2
  · obtain ⟨j, s, q1, q2, q3⟩ := q
    rcases back j s q1 with ⟨_, z⟩ | ⟨_, z⟩
    · rw [z] at q2; cases q2
    · exact .inl ⟨j, s, z, q2, q3⟩
  · by_cases e : j = i
    · subst e; rw [hs] at q1; cases q1; cases q2
    · exact ⟨rfl, s, by rw [List.getElem?_set_ne (Ne.symm e)]; exact q1, q2⟩
  · by_cases e : j = i
    · subst e; rw [hs] at q1; cases q1; cases q2
    · exact ⟨rfl, by rw [List.getElem?_set_ne (Ne.symm e)]; exact q1⟩
  · by_cases e : b = a
    · subst e; rw [upd_same] at q; cases q; exact e4
    · rw [upd_ne e] at q; exact R1.ex b o q
  · rcases back j s q1 with ⟨z1, z⟩ | ⟨_, z⟩
    · subst z; subst z1
      exact ⟨_, e1, rp⟩
    · obtain ⟨w, f1, f2⟩ := R1.val j s z q2
      exact ⟨w, f1, f2.mono ex⟩
  · rcases back j s q1 with ⟨_, z⟩ | ⟨ne, z⟩
    · rw [z] at q2; cases q2
    · obtain ⟨b, ws, ys, f1, f2, f3, f4, f5⟩ := R1.own j s z q2
      refine ⟨b, ws, ys, f1, f2, ?_, f4, f5.mono ex⟩
      rw [upd_ne ?_]
      · exact f3
      · intro e
        subst e
        exact ne (R1.inj j i s _ b z hs q2 rfl f1 e1)
  · rcases back j s q1 with ⟨_, z⟩ | ⟨_, z⟩
    · rw [z] at q3; cases q3
    · rcases back k t q2 with ⟨_, z'⟩ | ⟨_, z'⟩
      · rw [z'] at q4; cases q4
      · exact R1.inj j k s t b z z' q3 q4 q5 q6
theorem rep_thaw (g : Go σ ρ Hb H σ ρ1 Hb1 H1) (R1 : Rel K Hb1 H1 σ ρ1) (h : RepR K Hb1 H1 σ ρ1 H v r) :
    ∃ Hb2, Go σ ρ Hb H σ ρ1 Hb2 H1 ∧ Rel K Hb2 H1 σ ρ1 ∧ Ex Hb1 Hb2 ∧ RepR K Hb2 H1 σ ρ1 H v (thawR r) := by
  cases r with
  | val d => exact ⟨Hb1, g, R1, Ex.refl _, h⟩
  | slot i => exact ⟨Hb1, g, R1, Ex.refl _, h⟩
  | fresh xs =>
    obtain ⟨a, vs, e, h1, h2, h3, h4, h5⟩ := h
    obtain ⟨g', R', ex, sq⟩ := freeze_fresh g R1 h1 h2 h4 h5
    refine ⟨_, g', R', ex, ?_⟩
    subst e
    exact .lst sq (h3.mono ex)
theorem rep_val {d : D} {ρ2 : R} (g : Go σ ρ Hb H σ ρ1 Hb1 H1) (R1 : Rel K Hb1 H1 σ ρ1) (h : RepR K Hb1 H1 σ ρ1 H v r) (e : valR r ρ1 = some (.ok d, ρ2)) :
    ∃ Hb2, Go σ ρ Hb H σ ρ2 Hb2 H1 ∧ Rel K Hb2 H1 σ ρ2 ∧ Rp K Hb2 v d := by
  cases r with
  | val d' =>
    cases e
    exact ⟨Hb1, g, R1, h⟩
  | fresh xs =>
    cases e
    obtain ⟨a, vs, e, h1, h2, h3, h4, h5⟩ := h
    obtain ⟨g', R', ex, sq⟩ := freeze_fresh g R1 h1 h2 h4 h5
    refine ⟨_, g', R', ?_⟩
    subst e
    exact .lst sq (h3.mono ex)
  | slot i =>
    have h : σ[i]? = some (some v) := h
    unfold valR at e
    dsimp only at e
    split at e
    · rename_i x hs
      cases e
      obtain ⟨w, e1, e2⟩ := R1.val i _ hs rfl
      rw [h] at e1; cases e1
      exact ⟨Hb1, g, R1, e2⟩
    · rename_i x hs
      cases e
      obtain ⟨Hb2, g2, R2, w, e1, e2⟩ := freeze_slot R1 hs
      rw [h] at e1; cases e1
      exact ⟨Hb2, g.trans g2, R2, e2⟩
    · cases e
theorem valR_exc {x : Exc} {ρ2 : R} (e : valR r ρ1 = some (.exc x, ρ2)) : False := by
  cases r with
  | val d => cases e
  | fresh xs => cases e
  | slot i =>
    unfold valR at e
    dsimp only at e
    split at e <;> cases e
end
section
variable {X : Cx} {e : Expr} {E : XK} {m : M Res}
theorem pe_thaw (h : PE X e (tE X.K X.mg E m)) : PE X e (tE X.K X.mg E (thaw m)) := h.imp fun σ H Q w => by
  obtain ⟨Hb, ρ, R, S⟩ := w
  refine ⟨Hb, ρ, R, S.bnd0.mono ?_⟩
  intro r σ' ρ1 Hb1 H1 g R1 S1 es v rep
  subst es
  obtain ⟨Hb2, g2, R2, _, rep2⟩ := rep_thaw g R1 rep
  obtain ⟨out, ρ', e1, h1, _⟩ := S1
  cases e1
  exact h1 _ rfl _ _ _ g2 R2 rfl v rep2
/-- the values of one expression | frozen, and what follows with it -/
theorem e_val {σ : St} {H : Hp} {K : PySem.W.Frag} {mg : Str → Option Value} {E : XK} {β : Type} {m : M Res} {f : D → M β} {Hb : Hp} {ρ : R} {P : β → St → R → Hp → Hp → Prop} (R : Rel K Hb H σ ρ) (S : Sat K mg E σ Hb H ρ (bnd (mVal m) f) P) :
    tE K mg E m σ H fun v H1 => ∃ Hb1 ρ1 d, Rel K Hb1 H1 σ ρ1 ∧ Rp K Hb1 v d ∧ Go σ ρ Hb H σ ρ1 Hb1 H1 ∧ Sat K mg E σ Hb1 H1 ρ1 (f d) fun b σ' ρ' Hb' H' => Go σ ρ Hb H σ' ρ' Hb' H' → P b σ' ρ' Hb' H' := by
  have S0 : Sat K mg E σ Hb H ρ (bnd m fun r => bnd (valR r) f) P := by
    refine S.eq ?_
    unfold mVal bnd
    cases m ρ with
    | none => rfl
    | some p =>
      obtain ⟨o, ρ'⟩ := p
      cases o <;> rfl
  refine ⟨Hb, ρ, R, S0.bnd0.mono ?_⟩
  intro r σ' ρ1 Hb1 H1 g R1 S1 es v rep
  subst es
  obtain ⟨out, ρ2, e1, h1, h2⟩ := S1
  unfold bnd at e1
  split at e1
  · rename_i d ρ3 e2
    obtain ⟨Hb2, g2, R2, rp⟩ := rep_val g R1 rep e2
    exact ⟨Hb2, ρ3, d, R2, rp, g2, out, ρ2, e1, fun b q σ2 Hb3 H3 _ R3 g3 => h1 b q σ2 Hb3 H3 g3 R3, fun e q σ2 c dd Hb3 H3 g3 R3 x => h2 e q σ2 c dd Hb3 H3 (g2.trans g3) R3 x⟩
  · rename_i e' ρ3 e2
    exact (valR_exc e2).elim
  · cases e1
/-- .. thawed (a list of a slot stays the slot's) -/
theorem e_thaw {σ : St} {H : Hp} {K : PySem.W.Frag} {mg : Str → Option Value} {E : XK} {β : Type} {m : M Res} {f : Res → M β} {Hb : Hp} {ρ : R} {P : β → St → R → Hp → Hp → Prop} (R : Rel K Hb H σ ρ) (S : Sat K mg E σ Hb H ρ (bnd (thaw m) f) P) :
    tE K mg E m σ H fun v H1 => ∃ Hb1 ρ1 r, Rel K Hb1 H1 σ ρ1 ∧ RepA K Hb1 σ [v] [r] ∧ Go σ ρ Hb H σ ρ1 Hb1 H1 ∧ Sat K mg E σ Hb1 H1 ρ1 (f r) fun b σ' ρ' Hb' H' => Go σ ρ Hb H σ' ρ' Hb' H' → P b σ' ρ' Hb' H' := by
  have S0 : Sat K mg E σ Hb H ρ (bnd m fun r => f (thawR r)) P := by
    refine S.eq ?_
    unfold thaw bnd ret
    cases m ρ with
    | none => rfl
    | some p =>
      obtain ⟨o, ρ'⟩ := p
      cases o <;> rfl
  refine ⟨Hb, ρ, R, S0.bnd0.mono ?_⟩
  intro r σ' ρ1 Hb1 H1 g R1 S1 es v rep
  subst es
  obtain ⟨out, ρ2, e1, h1, h2⟩ := S1
  obtain ⟨Hb2, g2, R2, _, rep2⟩ := rep_thaw g R1 rep
  refine ⟨Hb2, ρ1, thawR r, R2, ?_, g2, out, ρ2, e1, fun b q σ2 Hb3 H3 _ R3 g3 => h1 b q σ2 Hb3 H3 g3 R3, fun e q σ2 c dd Hb3 H3 g3 R3 x => h2 e q σ2 c dd Hb3 H3 (g2.trans g3) R3 x⟩
  cases r with
  | val d => exact .val rep2 .nil
  | fresh xs => exact .val rep2 .nil
  | slot i => exact .slot rep2 .nil
end
end Mi

/-! Mi: operators on data. -/
namespace Mi
open PySem L2 Evl

/-! ### data and the library's data -/
section
variable {K : PySem.W.Frag} {H : Hp}
mutual
theorem rp_dp : ∀ {v : V} {d : D}, d.canLay0 = true → Rp K H v d → Dp K H v d
  | _, _, _, .non => .non
  | _, _, _, .bl b => .bl b
  | _, _, _, .int i => .int i
  | _, _, _, .str x => .str x
  | _, _, e, .lst h r => .lst h (rp_dpAll (by simpa [PyData.canLay0] using e) r)
  | _, _, e, .tup h r => .tup h (rp_dpAll (by simpa [PyData.canLay0] using e) r)
  | _, _, e, .dct h r => by simp [PyData.canLay0] at e
theorem rp_dpAll : ∀ {vs : List V} {ds : List D}, PyData.canLayAll0 ds = true → RpAll K H vs ds → DpAll K H vs ds
  | _, _, _, .nil => .nil
  | _, _, e, .cons a b => by
    simp only [PyData.canLayAll0, Bool.and_eq_true] at e
    exact .cons (rp_dp e.1 a) (rp_dpAll e.2 b)
end
end

/-! ### two-place operations -/
def op2 (f : D → D → Option Res) (x y : Res) : M Res := fun ρ => match look x ρ, look y ρ with
  | some d, some e => match f d e with
    | some r => some (.ok r, ρ)
    | none => none
  | _, _ => none
def mBin (f : D → D → Option Res) (a b : M Res) : M Res := bnd (thaw a) fun x => bnd (thaw b) fun y => op2 f x y
def Bin (K : PySem.W.Frag) (r : R2) (f : D → D → Option Res) : Prop := ∀ (Hb H : Hp) (x y : V) (d e : D) (res : Res) (Q : VK), Ex Hb H → Top K Hb H x d → Top K Hb H y e → f d e = some res →
  (∀ v Hb' H', New Hb H Hb' H' → RR K Hb' H' H v res → Q v H') → r x y H Q
section
variable {K : PySem.W.Frag} {mg : Str → Option Value} {E : XK} {σ : St} {Hb H Hb1 H1 : Hp} {ρ ρ1 : R} {v : V} {r : Res} {d : D}
theorem repA_one {P : Prop} (h : RepA K Hb σ [v] [r]) (H : Hp) (ρ : R) (H0 : Hp) : RepR K Hb H σ ρ H0 v r := by
  cases h with
  | val h _ => exact h
  | slot h _ => exact h
theorem RepA.mono (e : Ex Hb Hb1) : ∀ {vs : List V} {rs : List Res}, RepA K Hb σ vs rs → RepA K Hb1 σ vs rs
  | _, _, .nil => .nil
  | _, _, .val a b => .val (a.mono e) (b.mono e)
  | _, _, .slot a b => .slot a (b.mono e)
theorem RepA.append : ∀ {vs ws : List V} {rs qs : List Res}, RepA K Hb σ vs rs → RepA K Hb σ ws qs → RepA K Hb σ (vs ++ ws) (rs ++ qs)
  | _, _, _, _, .nil, h => h
  | _, _, _, _, .val a b, h => .val a (b.append h)
  | _, _, _, _, .slot a b, h => .slot a (b.append h)
theorem RepA.length : ∀ {vs : List V} {rs : List Res}, RepA K Hb σ vs rs → vs.length = rs.length
  | _, _, .nil => rfl
  | _, _, .val _ b => congrArg Nat.succ b.length
  | _, _, .slot _ b => congrArg Nat.succ b.length
/-- what a slot or a datum shows -/
theorem repA_top (R : Rel K Hb H σ ρ) (h : RepA K Hb σ [v] [r]) (e : look r ρ = some d) : Top K Hb H v d :=
  look_top (H0 := H) R (repA_one (P := True) h H ρ H) e
/-- the end of an operation: a result over new objects -/
theorem sat_end {α : Type} {a : α} {P : α → St → R → Hp → Hp → Prop} {m : M α} (R : Rel K Hb H σ ρ) (S : Sat K mg E σ Hb H ρ m P) (e : m ρ = some (.ok a, ρ)) {Hb' H' : Hp} (n : New Hb H Hb' H') : P a σ ρ Hb' H' := by
  obtain ⟨out, ρ', e', h1, _⟩ := S
  rw [e] at e'
  cases e'
  exact h1 a rfl σ Hb' H' n.go (n.rel R)
theorem op2_some {f : D → D → Option Res} {x y : Res} {o : Out Res × R} (e : op2 f x y ρ = some o) : ∃ d e r, look x ρ = some d ∧ look y ρ = some e ∧ f d e = some r ∧ o = (.ok r, ρ) := by
  unfold op2 at e
  split at e
  · rename_i d e' h1 h2
    split at e
    · rename_i r h3
      cases e
      exact ⟨d, e', r, h1, h2, h3, rfl⟩
    · cases e
  · cases e
/-- the operation itself -/
theorem op2_run {f : D → D → Option Res} {r : R2} (hb : Bin K r f) {x y : Res} {v w : V} {Q : VK} (R : Rel K Hb H σ ρ) (hx : RepA K Hb σ [v] [x]) (hy : RepA K Hb σ [w] [y]) {H0 : Hp} (t : ∀ a, H0 a ≠ none → H a ≠ none)
    (S : Sat K mg E σ Hb H ρ (op2 f x y) fun r σ' ρ' Hb' H' => σ' = σ → ∀ v, RepR K Hb' H' σ ρ' H0 v r → Q v H') : r v w H Q := by
  obtain ⟨out, ρ', e, h1, h2⟩ := S
  obtain ⟨d, e', res, l1, l2, l3, l4⟩ := op2_some e
  cases l4
  refine hb Hb H v w d e' res Q R.ex (repA_top R hx l1) (repA_top R hy l2) l3 fun u Hb' H' n rr => ?_
  exact h1 res rfl σ Hb' H' n.go (n.rel R) rfl u ((rr.rep R).from' t)
end
theorem Sat.after {K : PySem.W.Frag} {mg : Str → Option Value} {E : XK} {σ : St} {Hb H Hb1 H1 : Hp} {ρ ρ1 : R} {α : Type} {m : M α} {P P' : α → St → R → Hp → Hp → Prop} (g : Go σ ρ Hb H σ ρ1 Hb1 H1)
    (S : Sat K mg E σ Hb1 H1 ρ1 m fun b σ' ρ' Hb' H' => Go σ ρ Hb H σ' ρ' Hb' H' → P b σ' ρ' Hb' H') (k : ∀ b σ' ρ' Hb' H', Go σ ρ1 Hb1 H1 σ' ρ' Hb' H' → Rel K Hb' H' σ' ρ' → P b σ' ρ' Hb' H' → P' b σ' ρ' Hb' H') : Sat K mg E σ Hb1 H1 ρ1 m P' :=
  S.mono fun b σ' ρ' Hb' H' g2 R2 p => k b σ' ρ' Hb' H' g2 R2 (p (g.trans g2))
theorem bin_read {K : PySem.W.Frag} {mg : Str → Option Value} {E : XK} {f : D → D → Option Res} {r : R2} (hb : Bin K r f) {ma mb : M Res} {σ : St} {H : Hp} {Q : VK} (w : tE K mg E (mBin f ma mb) σ H Q) : tOp r (tE K mg E ma) (tE K mg E mb) σ H Q := by
  obtain ⟨Hb, ρ, R, S⟩ := w
  have h1 := e_thaw (H := H) R S
  obtain ⟨Hb0, ρ0, R0, S0⟩ := h1
  refine ⟨Hb0, ρ0, R0, S0.mono fun x σ1 ρ1 Hb1 H1 g1 R1 c1 es v rep => ?_⟩
  obtain ⟨Hb1', ρ1', x', R1', rx, g1', S1⟩ := c1 es v rep
  obtain ⟨Hb2, ρ2, R2, S2⟩ := e_thaw (H := H1) R1' S1
  refine ⟨Hb2, ρ2, R2, S2.mono fun y σ2 ρ3 Hb3 H3 g3 R3 c3 es3 v3 rep3 => ?_⟩
  obtain ⟨Hb4, ρ4, y', R4, ry, g4, S4⟩ := c3 es3 v3 rep3
  refine op2_run (mg := mg) (E := E) hb (H0 := H) R4 (rx.mono g4.b) ry (g1'.trans g4).t ?_
  exact S4.mono fun b σ' ρ' Hb' H' g5 R5 p => p (g4.trans g5) ((g1'.trans g4).trans g5)
theorem pe_bin {X : Cx} {E : XK} {op : Operator} {a b : Expr} {pos : Pos} {r : R2} {f : D → D → Option Res} {ma mb : M Res} (ho : OpR X (binaryOp op) r) (hb : Bin X.K r f) (ha : PE X a (tE X.K X.mg E ma)) (hb' : PE X b (tE X.K X.mg E mb)) :
    PE X (.BinOp a op b pos) (tE X.K X.mg E (mBin f ma mb)) := (pe_op ho ha hb').imp fun _ _ _ w => bin_read hb w
theorem pe_cmp2 {X : Cx} {E : XK} {op : CmpOp} {a b : Expr} {pos : Pos} {r : R2} {f : D → D → Option Res} {ma mb : M Res} (ho : OpR X (compareOp op) r) (hb : Bin X.K r f) (ha : PE X a (tE X.K X.mg E ma)) (hb' : PE X b (tE X.K X.mg E mb))
    (hm : behindInMarks op b = false) : PE X (.Compare a [op] [b] pos) (tE X.K X.mg E (mBin f ma mb)) := (pe_cmpR ho ha hb' hm).imp fun _ _ _ w => bin_read hb w
theorem pe_ixo {X : Cx} {E : XK} {a b : Expr} {pos : Pos} {r : R2} {f : D → D → Option Res} {ma mb : M Res} (ho : IxR X r) (hb : Bin X.K r f) (ha : PE X a (tE X.K X.mg E ma)) (hb' : PE X b (tE X.K X.mg E mb))
    (hs : PlainIx b) : PE X (.Subscript a b pos) (tE X.K X.mg E (mBin f ma mb)) := (pe_ix ho ha hb' hs).imp fun _ _ _ w => bin_read hb w

/-! ### which -/
theorem Bin.or {K : PySem.W.Frag} {r r' : R2} {f f' : D → D → Option Res} (h : Bin K r f) (h' : Bin K r' f') : Bin K (fun x y H Q => r x y H Q ∨ r' x y H Q) (fun d e => match f d e with | some z => some z | none => f' d e) := by
  intro Hb H x y d e res Q ex hx hy hf k
  dsimp only at hf
  cases q : f d e with
  | some z =>
    rw [q] at hf
    exact .inl (h Hb H x y d e res Q ex hx hy (q.trans hf) k)
  | none =>
    rw [q] at hf
    exact .inr (h' Hb H x y d e res Q ex hx hy hf k)
theorem Bin.of {K : PySem.W.Frag} {r : R2} {f : D → D → Option Res} (h : ∀ (Hb H : Hp) (x y : V) (d e : D) (res : Res) (Q : VK), Ex Hb H → Top K Hb H x d → Top K Hb H y e → f d e = some res →
  (∀ v Hb' H', New Hb H Hb' H' → RR K Hb' H' H v res → Q v H') → r x y H Q) : Bin K r f := h

/-- ints, a condition, a result -/
def fI (C : Int → Int → Bool) (g : Int → Int → D) : D → D → Option Res
  | .int i, .int j => if C i j then some (.val (g i j)) else none
  | _, _ => none
theorem bin_I {K : PySem.W.Frag} {C : Int → Int → Prop} {C' : Int → Int → Bool} {g : Int → Int → V} {g' : Int → Int → D} (hC : ∀ i j, C' i j = true → C i j) (hg : ∀ i j Hb, Rp K Hb (g i j) (g' i j)) : Bin K (rI C g) (fI C' g') := by
  intro Hb H x y d e res Q ex hx hy hf k
  unfold fI at hf
  split at hf
  · rename_i i j
    split at hf
    · rename_i c
      cases hf
      exact ⟨i, j, hx.int, hy.int, hC i j c, k _ Hb H (New.refl ex) (hg i j Hb)⟩
    · cases hf
  · cases hf
theorem bin_I0 {K : PySem.W.Frag} {g : Int → Int → V} {g' : Int → Int → D} (hg : ∀ i j Hb, Rp K Hb (g i j) (g' i j)) : Bin K (rI0 g) (fI (fun _ _ => true) g') := by
  intro Hb H x y d e res Q ex hx hy hf k
  unfold fI at hf
  split at hf
  · rename_i i j
    split at hf
    · cases hf
      exact ⟨i, j, hx.int, hy.int, k _ Hb H (New.refl ex) (hg i j Hb)⟩
    · cases hf
  · cases hf
/-- + -/
def rAddS : R2 := fun x y H Q => ∃ i j, x = .str i ∧ y = .str j ∧ i.length + j.length ≤ sizeLine ∧ Q (.str (i ++ j)) H
def rAddL (K : PySem.W.Frag) : R2 := fun x y H Q => ∃ l b xs zs, x = .ref l ∧ y = .ref b ∧ SqL K H l xs ∧ SqL K H b zs ∧ xs.length + zs.length ≤ sizeLine ∧ ∀ p, H p = none → Q (.ref p) (upd H p (.lst (xs ++ zs)))
theorem op_addL {X : Cx} : OpR X (binaryOp .Add) (rAddL X.K) := by
  intro pins s σ H x y v u Q I rx ry h
  obtain ⟨l, b, xs, zs, rfl, rfl, hH, hB, hz, q⟩ := h
  cases rx
  cases ry
  obtain ⟨its, r, ⟨⟨cls, dd, data, sl⟩, n, ho, hc, hdd, hd⟩, _⟩ := I.list hH
  obtain ⟨its2, r2, ⟨⟨cls2, dd2, data2, sl2⟩, n2, ho2, hc2, hdd2, hd2⟩, _⟩ := I.list hB
  simp only at hc hd hdd hc2 hd2 hdd2
  subst hc hd hdd hc2 hd2 hdd2
  have hl := r.length
  have hl2 := r2.length
  have e : its.toArray ++ its2.toArray = (its ++ its2).toArray := by simp
  refine concat_meets ⟨_, ho, rfl⟩ ⟨_, ho2, rfl⟩ noFill_list_add seq_list_add PySem.F.slot_list_add PySem.F.entry_list_add (PySem.F.args_list_add_2 _ _) (PyProof.Rows.list_addW l b its.toArray its2.toArray n n2 none none sl sl2 (by simp only [List.size_toArray]; omega)) ⟨ho, ho2, ?_⟩
  rw [e]
  exact ⟨.ref _, _, I.lnew (t' := s.toks) (r.append r2) (by rw [List.length_append]; omega), rfl, q _ I.fresh⟩
def addS : D → D → Option Res
  | .str x, .str y => if x.length + y.length ≤ sizeLine then some (.val (.str (x ++ y))) else none
  | _, _ => none
def addL : D → D → Option Res
  | .list x, .list y => if x.length + y.length ≤ sizeLine then some (.fresh (x ++ y)) else none
  | _, _ => none
def addT : D → D → Option Res
  | .tuple x, .tuple y => if x.length + y.length ≤ sizeLine then some (.val (.tuple (x ++ y))) else none
  | _, _ => none
theorem bin_addS {K : PySem.W.Frag} : Bin K rAddS addS := by
  intro Hb H x y d e res Q ex hx hy hf k
  unfold addS at hf
  split at hf
  · rename_i i j
    split at hf
    · rename_i c
      cases hf
      exact ⟨i, j, hx.str, hy.str, c, k _ Hb H (New.refl ex) (.str _)⟩
    · cases hf
  · cases hf
theorem bin_addL {K : PySem.W.Frag} : Bin K (rAddL K) addL := by
  intro Hb H x y d e res Q ex hx hy hf k
  unfold addL at hf
  split at hf
  · rename_i i j
    split at hf
    · rename_i c
      cases hf
      obtain ⟨a, vs, rfl, sa, ra⟩ := hx.list ex
      obtain ⟨b, ws, rfl, sb, rb⟩ := hy.list ex
      refine ⟨a, b, vs, ws, rfl, rfl, sa, sb, by rw [ra.length, rb.length]; exact c, fun p hp => k _ Hb _ (New.mut ex hp) ?_⟩
      exact ⟨p, _, rfl, fresh_back ex hp, upd_same, ra.append rb, hp⟩
    · cases hf
  · cases hf
theorem Top.tuple' {K : PySem.W.Frag} {Hb H : Hp} {v : V} {xs : List D} (h : Top K Hb H v (.tuple xs)) : ∃ a vs, v = .ref a ∧ SqT K Hb a vs ∧ RpAll K Hb vs xs := by
  rcases h with h | ⟨a, vs, xs', rfl, e2, e3, e4⟩
  · cases h with
    | tup h1 h2 => exact ⟨_, _, rfl, h1, h2⟩
  · cases e2
theorem bin_addT {K : PySem.W.Frag} : Bin K (rCatA K) addT := by
  intro Hb H x y d e res Q ex hx hy hf k
  unfold addT at hf
  split at hf
  · rename_i i j
    split at hf
    · rename_i c
      cases hf
      obtain ⟨a, vs, rfl, sa, ra⟩ := hx.tuple'
      obtain ⟨b, ws, rfl, sb, rb⟩ := hy.tuple'
      refine ⟨a, b, vs, ws, rfl, rfl, ex_t ex sa, ex_t ex sb, by rw [ra.length, rb.length]; exact c, fun e => ?_, fun _ e => ?_, fun _ _ p hp => k _ _ _ (New.fix ex hp) ?_⟩
      · subst e
        cases ra
        exact k _ Hb H (New.refl ex) (.tup sb rb)
      · subst e
        cases rb
        refine k _ Hb H (New.refl ex) ?_
        rw [List.append_nil]
        exact .tup sa ra
      · have n := New.fix (o := HO.tup (vs ++ ws)) ex hp
        exact .tup (SqT.of upd_same) ((ra.append rb).mono n.b)
    · cases hf
  · cases hf
def addD : D → D → Option Res
  | .int i, .int j => some (.val (.int (i + j)))
  | .str x, .str y => if x.length + y.length ≤ sizeLine then some (.val (.str (x ++ y))) else none
  | .list x, .list y => if x.length + y.length ≤ sizeLine then some (.fresh (x ++ y)) else none
  | .tuple x, .tuple y => if x.length + y.length ≤ sizeLine then some (.val (.tuple (x ++ y))) else none
  | _, _ => none
theorem Bin.imp {K : PySem.W.Frag} {r : R2} {f f' : D → D → Option Res} (h : Bin K r f) (k : ∀ d e z, f' d e = some z → f d e = some z) : Bin K r f' := fun Hb H x y d e res Q ex hx hy hf => h Hb H x y d e res Q ex hx hy (k d e res hf)
def rAddA (K : PySem.W.Frag) : R2 := fun x y H Q => (rI0 (fun i j => .int (i + j)) x y H Q ∨ rAddS x y H Q) ∨ (rAddL K x y H Q ∨ rCatA K x y H Q)
theorem op_addA {X : Cx} : OpR X (binaryOp .Add) (rAddA X.K) := (op_add.or op_add_str).or (op_addL.or op_catA)
theorem bin_addA {K : PySem.W.Frag} : Bin K (rAddA K) addD := by
  have h := ((bin_I0 (K := K) (g := fun i j => V.int (i + j)) (g' := fun i j => .int (i + j)) fun i j Hb => .int _).or (bin_addS (K := K))).or ((bin_addL (K := K)).or (bin_addT (K := K)))
  refine h.imp fun d e z q => ?_
  cases d <;> cases e <;> simp_all [addD, fI, addS, addL, addT]
/-- - -/
def subD : D → D → Option Res := fI (fun _ _ => true) fun i j => .int (i - j)
theorem bin_subA {K : PySem.W.Frag} : Bin K (rI0 fun i j => .int (i - j)) subD := bin_I0 fun i j Hb => .int _
/-- * of ints; of a list, a text and an int -/
def rRepL (K : PySem.W.Frag) : R2 := fun x y H Q => ∃ l k xs, x = .ref l ∧ y = .int k ∧ SqL K H l xs ∧ -(2 ^ 63) ≤ k ∧ k < 2 ^ 63 ∧ xs.length * k.toNat ≤ sizeLine ∧
  ∀ p, H p = none → Q (.ref p) (upd H p (.lst (List.replicate k.toNat xs).flatten))
theorem vals_rep {xs : List V} {its : List Value} (r : Vals xs its) : ∀ n, Vals (List.replicate n xs).flatten (List.replicate n its).flatten
  | 0 => .nil
  | n + 1 => by
    rw [List.replicate_succ, List.replicate_succ, List.flatten_cons, List.flatten_cons]
    exact r.append (vals_rep r n)
theorem op_repL {X : Cx} : OpR X (binaryOp .Mult) (rRepL X.K) := by
  intro pins s σ H x y v u Q I rx ry h
  obtain ⟨l, k, xs, rfl, rfl, hH, h1, h2, hz, q⟩ := h
  cases rx
  obtain ⟨t, rfl⟩ := ry
  obtain ⟨its, r, ⟨⟨cls, d, data, sl⟩, n, ho, hc, hdd, hd⟩, _⟩ := I.list hH
  simp only at hc hd hdd
  subst hc hd hdd
  have hl := r.length
  have hz' : its.toArray.size * k.toNat ≤ 2 ^ 24 := by rw [List.size_toArray, ← hl]; exact hz
  refine wpAny_binaryOp_repeat_ref (T := "list") (U := "int") (by decide) ⟨_, ho, rfl⟩ (fun s' => typeIs_int s' k t) noFill_list_mul PySem.F.fills_int_mul PySem.F.slot_int_rmul repeat_list PySem.F.slot_int_index.lookup
    (call_meets PySem.F.slot_int_rmul (typeIs_int s k t) PySem.F.entry_int_rmul (PySem.F.args_int_rmul_2 _ _) (PySem.lm_int_rmul_list_any k t l its.toArray n none sl)
      ⟨ho, rfl, ⟨_, ho, rfl⟩, call_meets PySem.F.slot_list_mul ⟨_, ho, rfl⟩ PySem.F.entry_list_mul (PySem.F.args_list_mul_2 _ _)
        (PySem.lm_list_mul_any l its.toArray n none sl k t (by simp [Builtin.List.listFitsIndex]; omega) (by omega) (by simp [Builtin.List.listTooLong, sizeLine]; simpa using hz'))
        ⟨ho, ?_⟩⟩)
  rw [PyProof.Rows.listMul_foldl_if]
  have hz2 : (List.replicate k.toNat xs).flatten.length ≤ sizeLine := by rw [PyProof.Rows.lm_len_rep_flat, Nat.mul_comm]; exact hz
  exact ⟨.ref _, _, I.lnew (t' := s.toks) (vals_rep r k.toNat) hz2, rfl, q _ I.fresh⟩
/-- text * int -/
def strRep (x : Str) (n : Nat) : Str := ⟨(List.replicate n x.cps.toList).flatten.toArray⟩
def rRepS : R2 := fun x y H Q => ∃ z k, x = .str z ∧ y = .int k ∧ -(2 ^ 63) ≤ k ∧ k < 2 ^ 31 ∧ z.length * k.toNat ≤ sizeLine ∧ Q (.str (strRep z k.toNat)) H
theorem foldl_arr {α : Type} (xs : List α) : ∀ (n : Nat) (acc : List α), List.foldl (fun x1 x2 => x1 ++ x2) acc.toArray (List.replicate n xs.toArray) = (acc ++ (List.replicate n xs).flatten).toArray
  | 0, acc => by simp
  | n + 1, acc => by
    have e : acc.toArray ++ xs.toArray = (acc ++ xs).toArray := by simp
    rw [List.replicate_succ, List.foldl_cons, e, foldl_arr xs n, List.replicate_succ, List.flatten_cons, List.append_assoc]
theorem strRep_fold (x : Str) (n : Nat) : (⟨(List.replicate n x.cps).foldl (· ++ ·) #[]⟩ : Str) = strRep x n := by
  have h := foldl_arr x.cps.toList n []
  rw [List.nil_append, Array.toArray_toList] at h
  unfold strRep
  rw [← h]
theorem op_repS {X : Cx} : OpR X (binaryOp .Mult) rRepS := by
  intro pins s σ H x y v u Q I rx ry h
  obtain ⟨z, k, rfl, rfl, h1, h2, hz, q⟩ := h
  obtain ⟨t, rfl⟩ := rx
  obtain ⟨t', rfl⟩ := ry
  have zl : z.length = z.cps.size := rfl
  refine PySem.P.mul_str (by simp; omega) (fun a b => ?_) (fun a b => ?_) ?_
  · have h0 : 1 ≤ k := by omega
    have hk : (k.toNat : Int) = k := by omega
    have : (z.length : Int) * k ≤ 2 ^ 24 := by
      have e : ((z.length * k.toNat : Nat) : Int) ≤ ((2 ^ 24 : Nat) : Int) := Int.ofNat_le.mpr hz
      rw [Int.natCast_mul, hk] at e
      exact e
    have hd : (z.length : Int) ≤ 2 ^ 24 := by
      have : (z.length : Int) * 1 ≤ (z.length : Int) * k := Int.mul_le_mul_of_nonneg_left h0 (by omega)
      omega
    have : (2 ^ 24 : Int) ≤ (2 ^ 63 - 1) / k := by
      rw [Int.le_ediv_iff_mul_le (by omega)]
      have : (2 ^ 24 : Int) * k ≤ 2 ^ 24 * 2 ^ 31 := Int.mul_le_mul_of_nonneg_left (by omega) (by decide)
      omega
    omega
  · show decide (z.length * k.toNat > sizeLine) = false
    simp
    exact hz
  · split
    · rename_i c
      have e : k.toNat = 0 := by omega
      rw [e] at q
      exact ⟨by decide, .str _, H, I.tok _, ⟨_, rfl⟩, q⟩
    · split
      · rename_i c1 c2
        refine ⟨.str _, H, I, ⟨_, rfl⟩, ?_⟩
        have e : strRep z k.toNat = z := by
          rw [Bool.or_eq_true] at c2
          rcases c2 with c2 | c2
          · have e : k = 1 := by simpa using c2
            subst e
            show strRep z 1 = z
            unfold strRep
            simp
          · have e : z.cps.toList = [] := by
              have : z.length = 0 := by simpa using c2
              rw [← List.length_eq_zero_iff, Array.length_toList]
              exact this
            unfold strRep
            rw [e]
            have e2 : (List.replicate k.toNat ([] : List Nat)).flatten = [] := by simp
            rw [e2]
            cases z
            simp_all
        rw [e] at q
        exact q
      · rw [strRep_fold]
        refine ⟨?_, .str _, H, I.tok _, ⟨_, rfl⟩, q⟩
        show (strRep z k.toNat).cps.size ≤ sizeLine
        unfold strRep
        rw [List.size_toArray, PyProof.Rows.lm_len_rep_flat, Array.length_toList, Nat.mul_comm]
        exact hz
def mulOk (i j : Int) : Bool := decide (i.natAbs.log2 + j.natAbs.log2 < 1000000)
def repOk (n : Nat) (k : Int) : Bool := decide (-(2 ^ 63) ≤ k ∧ k < 2 ^ 31 ∧ n * k.toNat ≤ sizeLine)
def mulD : D → D → Option Res
  | .int i, .int j => if mulOk i j then some (.val (.int (i * j))) else none
  | .list x, .int k => if repOk x.length k then some (.fresh (List.replicate k.toNat x).flatten) else none
  | .str x, .int k => if repOk x.length k then some (.val (.str (strRep x k.toNat))) else none
  | _, _ => none
def mulL : D → D → Option Res
  | .list x, .int k => if repOk x.length k then some (.fresh (List.replicate k.toNat x).flatten) else none
  | _, _ => none
def mulS : D → D → Option Res
  | .str x, .int k => if repOk x.length k then some (.val (.str (strRep x k.toNat))) else none
  | _, _ => none
theorem RpAll.flat {K : PySem.W.Frag} {H : Hp} {vs : List V} {ds : List D} (r : RpAll K H vs ds) : ∀ n, RpAll K H (List.replicate n vs).flatten (List.replicate n ds).flatten
  | 0 => .nil
  | n + 1 => by
    rw [List.replicate_succ, List.replicate_succ, List.flatten_cons, List.flatten_cons]
    exact r.append (RpAll.flat r n)
theorem bin_mulL {K : PySem.W.Frag} : Bin K (rRepL K) mulL := by
  intro Hb H x y d e res Q ex hx hy hf k
  unfold mulL at hf
  split at hf
  · rename_i xs j
    split at hf
    · rename_i c
      cases hf
      unfold repOk at c
      have c := of_decide_eq_true c
      obtain ⟨a, vs, rfl, sa, ra⟩ := hx.list ex
      refine ⟨a, j, vs, rfl, hy.int, sa, c.1, Int.lt_trans c.2.1 (by decide), by rw [ra.length]; exact c.2.2, fun p hp => k _ Hb _ (New.mut ex hp) ?_⟩
      exact ⟨p, _, rfl, fresh_back ex hp, upd_same, ra.flat _, hp⟩
    · cases hf
  · cases hf
theorem bin_mulS {K : PySem.W.Frag} : Bin K rRepS mulS := by
  intro Hb H x y d e res Q ex hx hy hf k
  unfold mulS at hf
  split at hf
  · rename_i xs j
    split at hf
    · rename_i c
      cases hf
      unfold repOk at c
      have c := of_decide_eq_true c
      exact ⟨xs, j, hx.str, hy.int, c.1, c.2.1, c.2.2, k _ Hb H (New.refl ex) (.str _)⟩
    · cases hf
  · cases hf
def rMulA (K : PySem.W.Frag) : R2 := fun x y H Q => (rI CMulW (fun i j => .int (i * j)) x y H Q ∨ rRepL K x y H Q) ∨ rRepS x y H Q
theorem op_mulA {X : Cx} : OpR X (binaryOp .Mult) (rMulA X.K) := (op_mulW.or op_repL).or op_repS
theorem bin_mulA {K : PySem.W.Frag} : Bin K (rMulA K) mulD := by
  have h := ((bin_I (K := K) (C := CMulW) (C' := mulOk) (g := fun i j => V.int (i * j)) (g' := fun i j => .int (i * j)) (fun i j q => show i.natAbs.log2 + j.natAbs.log2 < 1000000 from of_decide_eq_true q) fun i j Hb => .int _).or (bin_mulL (K := K))).or (bin_mulS (K := K))
  refine h.imp fun d e z q => ?_
  cases d <;> cases e <;> simp_all [mulD, fI, mulL, mulS]
/-- //, %, ** -/
def divOk (j : Int) : Bool := decide (j ≠ 0 ∧ j.natAbs.log2 < 9000)
theorem op_fdivA {X : Cx} : OpR X (binaryOp .FloorDiv) (rI (fun _ j => j ≠ 0 ∧ j.natAbs.log2 < 9000) fun i j => .int (i.fdiv j)) := opI fun _ _ _ _ _ _ _ hc q => PyProof.Rows.floordiv_int hc.1 q (.inl (PyProof.noPylong_of_log2 hc.2))
def fdivD : D → D → Option Res := fI (fun _ j => divOk j) fun i j => .int (i.fdiv j)
theorem bin_fdivA {K : PySem.W.Frag} : Bin K (rI (fun _ j => j ≠ 0 ∧ j.natAbs.log2 < 9000) fun i j => .int (i.fdiv j)) fdivD := bin_I (fun i j q => of_decide_eq_true q) fun i j Hb => .int _
def modD : D → D → Option Res := fI (fun _ j => decide (j ≠ 0)) fun i j => .int (i.fmod j)
theorem bin_modA {K : PySem.W.Frag} : Bin K (rI (fun _ j => j ≠ 0) fun i j => .int (i.fmod j)) modD := bin_I (fun i j q => of_decide_eq_true q) fun i j Hb => .int _
def powOk (i j : Int) : Bool := decide (0 ≤ j ∧ (Builtin.Int.intBits i : Int) * j ≤ 2 ^ 27)
theorem op_powA {X : Cx} : OpR X (binaryOp .Pow) (rI (fun i j => 0 ≤ j ∧ (Builtin.Int.intBits i : Int) * j ≤ 2 ^ 27) fun i j => .int (i ^ j.toNat)) := opI fun _ _ _ _ _ _ _ hc q => PyProof.Rows.pow_int hc.1 hc.2 q
def powD : D → D → Option Res := fI powOk fun i j => .int (i ^ j.toNat)
theorem bin_powA {K : PySem.W.Frag} : Bin K (rI (fun i j => 0 ≤ j ∧ (Builtin.Int.intBits i : Int) * j ≤ 2 ^ 27) fun i j => .int (i ^ j.toNat)) powD := bin_I (fun i j q => of_decide_eq_true q) fun i j Hb => .int _

/-! ### comparisons -/
def ltD : D → D → Option Res := fI (fun _ _ => true) fun i j => .bool (decide (i < j))
def leD : D → D → Option Res := fI (fun _ _ => true) fun i j => .bool (decide (i ≤ j))
def gtD : D → D → Option Res := fI (fun _ _ => true) fun i j => .bool (decide (j < i))
def geD : D → D → Option Res := fI (fun _ _ => true) fun i j => .bool (decide (j ≤ i))
theorem bin_ltA {K : PySem.W.Frag} : Bin K (rI0 fun i j => .bl (decide (i < j))) ltD := bin_I0 fun i j Hb => .bl _
theorem bin_leA {K : PySem.W.Frag} : Bin K (rI0 fun i j => .bl (decide (i ≤ j))) leD := bin_I0 fun i j Hb => .bl _
theorem bin_gtA {K : PySem.W.Frag} : Bin K (rI0 fun i j => .bl (decide (j < i))) gtD := bin_I0 fun i j Hb => .bl _
theorem bin_geA {K : PySem.W.Frag} : Bin K (rI0 fun i j => .bl (decide (j ≤ i))) geD := bin_I0 fun i j Hb => .bl _
def eqD : D → D → Option Res := fun d e => if SeqAt.shaped d && SeqAt.shaped e then some (.val (.bool (PyData.eqv d e))) else none
def neD : D → D → Option Res := fun d e => if SeqAt.shaped d && SeqAt.shaped e then some (.val (.bool (!PyData.eqv d e))) else none
theorem shaped_can {d : D} (h : SeqAt.shaped d = true) : d.canLay0 = true := SeqAt.canLay_of_shaped h
theorem bin_eqA {K : PySem.W.Frag} : Bin K (rEqD K) eqD := by
  intro Hb H x y d e res Q ex hx hy hf k
  unfold eqD at hf
  split at hf
  · rename_i c
    cases hf
    rw [Bool.and_eq_true] at c
    exact ⟨d, e, rp_dp (shaped_can c.1) (hx.rp ex), rp_dp (shaped_can c.2) (hy.rp ex), c.1, c.2, k _ Hb H (New.refl ex) (.bl _)⟩
  · cases hf
theorem bin_neA {K : PySem.W.Frag} : Bin K (rNeD K) neD := by
  intro Hb H x y d e res Q ex hx hy hf k
  unfold neD at hf
  split at hf
  · rename_i c
    cases hf
    rw [Bool.and_eq_true] at c
    exact ⟨d, e, rp_dp (shaped_can c.1) (hx.rp ex), rp_dp (shaped_can c.2) (hy.rp ex), c.1, c.2, k _ Hb H (New.refl ex) (.bl _)⟩
  · cases hf
/-- is None; is True, is False -/
def isNone : D → Bool
  | .none => true
  | _ => false
def isD : D → D → Option Res
  | d, .none => some (.val (.bool (isNone d)))
  | .bool a, .bool b => some (.val (.bool (decide (a = b))))
  | _, _ => none
def isntD : D → D → Option Res
  | d, .none => some (.val (.bool (!isNone d)))
  | .bool a, .bool b => some (.val (.bool (!decide (a = b))))
  | _, _ => none
theorem top_none {K : PySem.W.Frag} {Hb H : Hp} {v : V} {d : D} (h : Top K Hb H v d) : decide (v = .non) = isNone d := by
  rcases h with h | ⟨a, vs, xs', rfl, rfl, _⟩
  · cases h <;> rfl
  · rfl
theorem bin_isA {K : PySem.W.Frag} : Bin K (fun x y H Q => (y = .non ∧ Q (.bl (decide (x = .non))) H) ∨ (∃ a b, x = .bl a ∧ y = .bl b ∧ Q (.bl (decide (a = b))) H)) isD := by
  intro Hb H x y d e res Q ex hx hy hf k
  unfold isD at hf
  split at hf
  · cases hf
    refine .inl ⟨hy.none, ?_⟩
    rw [top_none hx]
    exact k _ Hb H (New.refl ex) (.bl _)
  · cases hf
    exact .inr ⟨_, _, hx.bool, hy.bool, k _ Hb H (New.refl ex) (.bl _)⟩
  · cases hf
theorem bin_isntA {K : PySem.W.Frag} : Bin K (fun x y H Q => (y = .non ∧ Q (.bl (!decide (x = .non))) H) ∨ (∃ a b, x = .bl a ∧ y = .bl b ∧ Q (.bl (!decide (a = b))) H)) isntD := by
  intro Hb H x y d e res Q ex hx hy hf k
  unfold isntD at hf
  split at hf
  · cases hf
    refine .inl ⟨hy.none, ?_⟩
    rw [top_none hx]
    exact k _ Hb H (New.refl ex) (.bl _)
  · cases hf
    exact .inr ⟨_, _, hx.bool, hy.bool, k _ Hb H (New.refl ex) (.bl _)⟩
  · cases hf
theorem op_isA {X : Cx} : OpR X (compareOp .Is) (fun x y H Q => (y = .non ∧ Q (.bl (decide (x = .non))) H) ∨ (∃ a b, x = .bl a ∧ y = .bl b ∧ Q (.bl (decide (a = b))) H)) := op_isN.or op_is_bl
theorem op_isntA {X : Cx} : OpR X (compareOp .IsNot) (fun x y H Q => (y = .non ∧ Q (.bl (!decide (x = .non))) H) ∨ (∃ a b, x = .bl a ∧ y = .bl b ∧ Q (.bl (!decide (a = b))) H)) := op_notN.or op_isnot_bl
end Mi

/-! Mi: expressions. -/
namespace Mi
open PySem L2 Evl
section
variable {K : PySem.W.Frag} {mg : Str → Option Value} {E : XK} {σ : St} {H : Hp}
theorem tE_mono {m : M Res} {Q Q' : VK} (h : tE K mg E m σ H Q) (k : ∀ v H', Q v H' → Q' v H') : tE K mg E m σ H Q' := by
  obtain ⟨Hb, ρ, R, S⟩ := h
  exact ⟨Hb, ρ, R, S.mono fun r σ' ρ' Hb' H' _ _ p es v rep => k v H' (p es v rep)⟩
theorem tT_mono {m : M Bool} {Q Q' : Bool → Hp → Prop} (h : tT K mg E m σ H Q) (k : ∀ v H', Q v H' → Q' v H') : tT K mg E m σ H Q' := by
  obtain ⟨Hb, ρ, R, S⟩ := h
  exact ⟨Hb, ρ, R, S.mono fun r σ' ρ' Hb' H' _ _ p es => k r H' (p es)⟩
theorem tA_mono {m : M (List Res)} {Q Q' : List V → Hp → Prop} (h : tA K mg E m σ H Q) (k : ∀ v H', Q v H' → Q' v H') : tA K mg E m σ H Q' := by
  obtain ⟨Hb, ρ, R, S⟩ := h
  exact ⟨Hb, ρ, R, S.mono fun r σ' ρ' Hb' H' _ _ p es vs rep => k vs H' (p es vs rep)⟩
variable {Hb : Hp} {ρ : R} {β : Type} {P : β → St → R → Hp → Hp → Prop}
/-- arguments, then what follows -/
theorem e_args {m : M (List Res)} {f : List Res → M β} (R : Rel K Hb H σ ρ) (S : Sat K mg E σ Hb H ρ (bnd m f) P) :
    tA K mg E m σ H fun vs H1 => ∃ Hb1 ρ1 rs, Rel K Hb1 H1 σ ρ1 ∧ RepA K Hb1 σ vs rs ∧ Go σ ρ Hb H σ ρ1 Hb1 H1 ∧ Sat K mg E σ Hb1 H1 ρ1 (f rs) fun b σ' ρ' Hb' H' => Go σ ρ Hb H σ' ρ' Hb' H' → P b σ' ρ' Hb' H' := by
  refine ⟨Hb, ρ, R, S.bnd.mono ?_⟩
  intro rs σ' ρ1 Hb1 H1 g R1 S1 es vs rep
  subst es
  exact ⟨Hb1, ρ1, rs, R1, rep, g, S1⟩
/-- a test, then what follows -/
theorem e_test {m : M Bool} {f : Bool → M β} (R : Rel K Hb H σ ρ) (S : Sat K mg E σ Hb H ρ (bnd m f) P) :
    tT K mg E m σ H fun b H1 => ∃ Hb1 ρ1, Rel K Hb1 H1 σ ρ1 ∧ Go σ ρ Hb H σ ρ1 Hb1 H1 ∧ Sat K mg E σ Hb1 H1 ρ1 (f b) fun b σ' ρ' Hb' H' => Go σ ρ Hb H σ' ρ' Hb' H' → P b σ' ρ' Hb' H' := by
  refine ⟨Hb, ρ, R, S.bnd.mono ?_⟩
  intro b σ' ρ1 Hb1 H1 g R1 S1 es
  subst es
  exact ⟨Hb1, ρ1, R1, g, S1⟩
/-- an expression as it comes, last -/
theorem e_last {m : M Res} {Q : VK} {H0 : Hp} (R : Rel K Hb H σ ρ) (t : ∀ a, H0 a ≠ none → H a ≠ none) (S : Sat K mg E σ Hb H ρ m fun r σ' ρ' Hb' H' => σ' = σ → ∀ v, RepR K Hb' H' σ ρ' H0 v r → Q v H') : tE K mg E m σ H Q :=
  ⟨Hb, ρ, R, S.mono fun r σ' ρ' Hb' H' _ _ p es v rep => p es v (rep.from' t)⟩
end

/-! ### names, constants -/
def mVar (i : Nat) : M Res := fun ρ => match ρ[i]? with
  | some (some s) => some (.ok (if s.m.isOwn then .slot i else .val s.d), ρ)
  | _ => none
theorem var_read {K : PySem.W.Frag} {mg : Str → Option Value} {E : XK} {i : Nat} {σ : St} {H : Hp} {Q : VK} (w : tE K mg E (mVar i) σ H Q) : tVar i σ H Q := by
  obtain ⟨Hb, ρ, R, out, ρ', e, h1, _⟩ := w
  unfold mVar at e
  split at e
  · rename_i s hs
    cases e
    cases q : s.m.isOwn with
    | true =>
      obtain ⟨a, vs, xs, e1, _⟩ := R.own i s hs q
      refine ⟨.ref a, e1, ?_⟩
      have z := h1 _ rfl σ Hb H Go.refl R rfl (.ref a)
      rw [q] at z
      exact z e1
    | false =>
      obtain ⟨v, e1, e2⟩ := R.val i s hs q
      refine ⟨v, e1, ?_⟩
      have z := h1 _ rfl σ Hb H Go.refl R rfl v
      rw [q] at z
      exact z e2
  · cases e
def mC (d : D) : M Res := ret (.val d)
theorem const_read {K : PySem.W.Frag} {mg : Str → Option Value} {E : XK} {d : D} {v : V} (h : ∀ H, Rp K H v d) {σ : St} {H : Hp} {Q : VK} (w : tE K mg E (mC d) σ H Q) : tC v σ H Q := by
  obtain ⟨Hb, ρ, R, S⟩ := w
  exact S.ret R rfl v (h Hb)
section
variable {X : Cx} {E : XK} {pos : Pos}
theorem me_var (i : Nat) {x : Str} (hN : X.N[i]? = some x := by rfl) (hv : Vis X.env.scope x := by first | exact Or.inl rfl | exact Or.inr (Or.inl rfl) | exact Or.inr (Or.inr rfl)) (hd : (x == ("__debug__" : Str)) = false := by decide)
    (hcd : (x == ("__classdict__" : Str)) = false := by decide) : PE X (.Name x pos) (tE X.K X.mg E (mVar i)) := (pv i hN hv hd hcd).imp fun _ _ _ w => var_read w
theorem me_int {i j} : PE X (.Constant (.int i) j pos) (tE X.K X.mg E (mC (.int i))) := pe_int.imp fun _ _ _ w => const_read (fun _ => .int _) w
theorem me_bl {b j} : PE X (.Constant (.bool b) j pos) (tE X.K X.mg E (mC (.bool b))) := pe_bl.imp fun _ _ _ w => const_read (fun _ => .bl _) w
theorem me_non {j} : PE X (.Constant .none j pos) (tE X.K X.mg E (mC .none)) := pe_non.imp fun _ _ _ w => const_read (fun _ => .non) w
theorem me_str {x j} : PE X (.Constant (.str x) j pos) (tE X.K X.mg E (mC (.str x))) := pe_str.imp fun _ _ _ w => const_read (fun _ => .str _) w
/-- a module's constant -/
theorem me_glob {x : Str} {v : V} {u : Value} {d : D} (hg : Gl X x) (hm : X.mg x = some u) (r : RelV v u) (h : ∀ H, Rp X.K H v d) (hd : (x == ("__debug__" : Str)) = false := by decide) : PE X (.Name x pos) (tE X.K X.mg E (mC d)) :=
  (pe_glob hg hm r hd).imp fun _ _ _ w => const_read h w
end

/-! ### one-place operations on what is seen -/
def op1 (f : D → Option Res) (x : Res) : M Res := fun ρ => match look x ρ with
  | some d => match f d with
    | some r => some (.ok r, ρ)
    | none => none
  | none => none
def mUn (f : D → Option Res) (a : M Res) : M Res := bnd (thaw a) fun x => op1 f x
section
variable {K : PySem.W.Frag} {mg : Str → Option Value} {E : XK} {σ : St} {Hb H : Hp} {ρ : R}
theorem op1_some {f : D → Option Res} {x : Res} {o : Out Res × R} (e : op1 f x ρ = some o) : ∃ d r, look x ρ = some d ∧ f d = some r ∧ o = (.ok r, ρ) := by
  unfold op1 at e
  split at e
  · rename_i d h1
    split at e
    · rename_i r h3
      cases e
      exact ⟨d, r, h1, h3, rfl⟩
    · cases e
  · cases e
theorem op1_run {f : D → Option Res} {x : Res} {v : V} {Q : VK} {H0 : Hp} (R : Rel K Hb H σ ρ) (hx : RepA K Hb σ [v] [x]) (t : ∀ a, H0 a ≠ none → H a ≠ none)
    (S : Sat K mg E σ Hb H ρ (op1 f x) fun r σ' ρ' Hb' H' => σ' = σ → ∀ v, RepR K Hb' H' σ ρ' H0 v r → Q v H') :
    ∃ d res, Top K Hb H v d ∧ f d = some res ∧ ∀ u Hb' H', New Hb H Hb' H' → RR K Hb' H' H u res → Q u H' := by
  obtain ⟨out, ρ', e, h1, h2⟩ := S
  obtain ⟨d, res, l1, l3, l4⟩ := op1_some e
  cases l4
  exact ⟨d, res, repA_top R hx l1, l3, fun u Hb' H' n rr => h1 res rfl σ Hb' H' n.go (n.rel R) rfl u ((rr.rep R).from' t)⟩
theorem un_read {f : D → Option Res} {ma : M Res} {Q : VK} (w : tE K mg E (mUn f ma) σ H Q) :
    tE K mg E ma σ H fun v H1 => ∃ Hb d res, Ex Hb H1 ∧ Top K Hb H1 v d ∧ f d = some res ∧ ∀ u Hb' H', New Hb H1 Hb' H' → RR K Hb' H' H1 u res → Q u H' := by
  obtain ⟨Hb, ρ, R, S⟩ := w
  refine tE_mono (e_thaw R S) fun v H1 ⟨Hb1, ρ1, x, R1, rx, g1, S1⟩ => ?_
  obtain ⟨d, res, h1, h2, h3⟩ := op1_run R1 rx g1.t (S1.mono fun b σ' ρ' Hb' H' g2 R2 p => p (g1.trans g2))
  exact ⟨Hb1, d, res, R1.ex, h1, h2, h3⟩
end
def negD : D → Option Res
  | .int i => some (.val (.int (-i)))
  | _ => none
def notD : D → Option Res
  | .bool b => some (.val (.bool (!b)))
  | _ => none
section
variable {X : Cx} {E : XK} {pos : Pos} {a : Expr} {ma : M Res}
theorem me_neg (ha : PE X a (tE X.K X.mg E ma)) : PE X (.UnaryOp .USub a pos) (tE X.K X.mg E (mUn negD ma)) := (pe_un un_neg ha).imp fun σ H Q w => by
  refine tE_mono (un_read w) fun v H1 ⟨Hb, d, res, ex, h1, h2, h3⟩ => ?_
  unfold negD at h2
  split at h2
  · rename_i i
    cases h2
    exact ⟨i, h1.int, h3 _ Hb H1 (New.refl ex) (.int _)⟩
  · cases h2
theorem me_not (ha : PE X a (tE X.K X.mg E ma)) : PE X (.UnaryOp .Not a pos) (tE X.K X.mg E (mUn notD ma)) := (pe_not ha).imp fun σ H Q w => by
  refine tE_mono (un_read w) fun v H1 ⟨Hb, d, res, ex, h1, h2, h3⟩ => ?_
  unfold notD at h2
  split at h2
  · rename_i i
    cases h2
    exact ⟨i, h1.bool, h3 _ Hb H1 (New.refl ex) (.bl _)⟩
  · cases h2
end

/-! ### subscripts -/
def ixD : D → D → Option Res
  | .list xs, .int i => (atI xs i).map .val
  | .tuple xs, .int i => (atI xs i).map .val
  | .str z, .int i => if z.length ≤ sizeLine then (atI z.cps.toList i).map fun c => .val (.str ⟨#[c]⟩) else none
  | _, _ => none
theorem atI_rp {K : PySem.W.Frag} {H : Hp} {vs : List V} {xs : List D} {i : Int} {d : D} (r : RpAll K H vs xs) (e : atI xs i = some d) : ∃ v, atI vs i = some v ∧ Rp K H v d := by
  unfold atI at e ⊢
  rw [r.length]
  cases q : ixN xs.length i with
  | none => rw [q] at e; cases e
  | some j =>
    rw [q] at e
    exact r.get (i := j) e
theorem bin_ix {K : PySem.W.Frag} : Bin K (rIx K) ixD := by
  intro Hb H x y d e res Q ex hx hy hf k
  unfold ixD at hf
  split at hf
  · rename_i xs i
    obtain ⟨z, q, rfl⟩ := Option.map_eq_some_iff.mp hf
    obtain ⟨a, vs, rfl, s, r⟩ := hx.list ex
    obtain ⟨v, q1, q2⟩ := atI_rp r q
    exact .inl ⟨a, vs, i, v, rfl, hy.int, s, q1, k v Hb H (New.refl ex) q2⟩
  · rename_i xs i
    obtain ⟨z, q, rfl⟩ := Option.map_eq_some_iff.mp hf
    obtain ⟨a, vs, rfl, s, r⟩ := hx.tuple ex
    obtain ⟨v, q1, q2⟩ := atI_rp r q
    exact .inr (.inl ⟨a, vs, i, v, rfl, hy.int, s, q1, k v Hb H (New.refl ex) q2⟩)
  · rename_i z i
    split at hf
    · rename_i c
      obtain ⟨w, q, rfl⟩ := Option.map_eq_some_iff.mp hf
      exact .inr (.inr ⟨z, i, w, hx.str, hy.int, c, q, k _ Hb H (New.refl ex) (.str _)⟩)
    · cases hf
  · cases hf
/-- slices -/
def cutD (xs : List D) (lo hi : Option Int) : List D := (xs.drop (HT.sIx xs.length 0 lo)).take (HT.sIx xs.length xs.length hi - HT.sIx xs.length 0 lo)
def slD (lo hi : Option Int) : D → Option Res
  | .list xs => some (.fresh (cutD xs lo hi))
  | .tuple xs => some (.val (.tuple (cutD xs lo hi)))
  | .str z => if z.length ≤ sizeLine then some (.val (.str (cutS z lo hi))) else none
  | _ => none
def mNoPart : M (Option Int) := ret none
def asInt (r : Res) : M (Option Int) := fun ρ => match r with
  | .val (.int i) => some (.ok (some i), ρ)
  | _ => none
def mPart (m : M Res) : M (Option Int) := bnd (thaw m) asInt
def mSl (m : M Res) (lo hi : M (Option Int)) : M Res := bnd (thaw m) fun x => bnd lo fun l => bnd hi fun h => op1 (slD l h) x
section
variable (K : PySem.W.Frag) (mg : Str → Option Value) (E : XK)
def tP (m : M (Option Int)) : TO := fun σ H Q => ∃ Hb ρ, Rel K Hb H σ ρ ∧ Sat K mg E σ Hb H ρ m fun o σ' ρ' Hb' H' => σ' = σ → Q o H'
end
theorem e_part {K : PySem.W.Frag} {mg : Str → Option Value} {E : XK} {σ : St} {Hb H : Hp} {ρ : R} {β : Type} {P : β → St → R → Hp → Hp → Prop} {m : M (Option Int)} {f : Option Int → M β} (R : Rel K Hb H σ ρ) (S : Sat K mg E σ Hb H ρ (bnd m f) P) :
    tP K mg E m σ H fun b H1 => ∃ Hb1 ρ1, Rel K Hb1 H1 σ ρ1 ∧ Go σ ρ Hb H σ ρ1 Hb1 H1 ∧ Sat K mg E σ Hb1 H1 ρ1 (f b) fun b σ' ρ' Hb' H' => Go σ ρ Hb H σ' ρ' Hb' H' → P b σ' ρ' Hb' H' := by
  refine ⟨Hb, ρ, R, S.bnd.mono ?_⟩
  intro b σ' ρ1 Hb1 H1 g R1 S1 es
  subst es
  exact ⟨Hb1, ρ1, R1, g, S1⟩
theorem tP_mono {K : PySem.W.Frag} {mg : Str → Option Value} {E : XK} {σ : St} {H : Hp} {m : M (Option Int)} {Q Q' : Option Int → Hp → Prop} (h : tP K mg E m σ H Q) (k : ∀ v H', Q v H' → Q' v H') : tP K mg E m σ H Q' := by
  obtain ⟨Hb, ρ, R, S⟩ := h
  exact ⟨Hb, ρ, R, S.mono fun r σ' ρ' Hb' H' _ _ p es => k r H' (p es)⟩
section
variable {X : Cx} {E : XK} {pos p2 : Pos} {a e : Expr} {ma m : M Res} {lo hi : Option Expr} {ml mh : M (Option Int)}
theorem po_n : PO X none (tP X.K X.mg E mNoPart) := ⟨fun pins s σ H Q I w => po_none.run pins s σ H Q I (by
  obtain ⟨Hb, ρ, R, S⟩ := w
  exact S.ret R rfl)⟩
theorem po_s (h : PE X e (tE X.K X.mg E m)) : PO X (some e) (tP X.K X.mg E (mPart m)) := ⟨fun pins s σ H Q I w => (po_some h).run pins s σ H Q I (by
  obtain ⟨Hb, ρ, R, S⟩ := w
  refine tE_mono (e_thaw R S) fun v H1 ⟨Hb1, ρ1, x, R1, rx, g1, S1⟩ => ?_
  obtain ⟨out, ρ', e, h1, h2⟩ := S1
  unfold asInt at e
  split at e
  · rename_i i
    cases e
    refine ⟨i, ?_, h1 _ rfl σ Hb1 H1 Go.refl R1 g1 rfl⟩
    cases rx with
    | val h _ => exact h.int_inv
  · cases e)⟩
def rSlAll (K : PySem.W.Frag) : V → Option Int → Option Int → Hp → VK → Prop := fun x lo hi H Q => (rSlL K x lo hi H Q ∨ rSlA K x lo hi H Q) ∨ rSlS x lo hi H Q
theorem sl_all : SlR X (rSlAll X.K) := (sl_list.or sl_tupA).or sl_str
theorem cut_rp {K : PySem.W.Frag} {H : Hp} {vs : List V} {xs : List D} (r : RpAll K H vs xs) (lo hi : Option Int) : RpAll K H (cutV vs lo hi) (cutD xs lo hi) := by
  unfold cutV cutD
  rw [r.length]
  exact (r.drop _).take _
theorem sl_run {K : PySem.W.Frag} {Hb H : Hp} {x : V} {d : D} {lo hi : Option Int} {res : Res} {Q : VK} (ex : Ex Hb H) (hx : Top K Hb H x d) (hf : slD lo hi d = some res) (k : ∀ v Hb' H', New Hb H Hb' H' → RR K Hb' H' H v res → Q v H') : rSlAll K x lo hi H Q := by
  unfold slD at hf
  split at hf
  · rename_i xs
    cases hf
    obtain ⟨a, vs, rfl, s, r⟩ := hx.list ex
    exact .inl (.inl ⟨a, vs, rfl, s, fun p hp => k _ Hb _ (New.mut ex hp) ⟨p, _, rfl, fresh_back ex hp, upd_same, cut_rp r lo hi, hp⟩⟩)
  · rename_i xs
    cases hf
    obtain ⟨a, vs, rfl, s, r⟩ := hx.tuple'
    refine .inl (.inr ⟨a, vs, rfl, ex_t ex s, fun c => ?_, fun c p hp => ?_⟩)
    · refine k _ Hb H (New.refl ex) ?_
      have e : cutD xs lo hi = xs := by
        unfold cutD
        rw [← r.length, c.1, c.2, List.drop_zero, Nat.sub_zero]
        have : vs.length = xs.length := r.length
        rw [this, List.take_length]
      rw [e]
      exact .tup s r
    · have n := New.fix (o := HO.tup (cutV vs lo hi)) ex hp
      exact k _ _ _ n (.tup (SqT.of upd_same) ((cut_rp r lo hi).mono n.b))
  · rename_i z
    split at hf
    · rename_i c
      cases hf
      exact .inr ⟨z, hx.str, c, k _ Hb H (New.refl ex) (.str _)⟩
    · cases hf
  · cases hf
theorem me_sl (he : PE X e (tE X.K X.mg E m)) (hl : PO X lo (tP X.K X.mg E ml)) (hh : PO X hi (tP X.K X.mg E mh)) : PE X (.Subscript e (.Slice lo hi none p2) pos) (tE X.K X.mg E (mSl m ml mh)) := (pe_slice sl_all he hl hh).imp fun σ H Q w => by
  obtain ⟨Hb, ρ, R, S⟩ := w
  refine tE_mono (e_thaw R S) fun v H1 ⟨Hb1, ρ1, x, R1, rx, g1, S1⟩ => ?_
  refine tP_mono (e_part R1 S1) fun l H2 ⟨Hb2, ρ2, R2, g2, S2⟩ => ?_
  refine tP_mono (e_part R2 S2) fun h H3 ⟨Hb3, ρ3, R3, g3, S3⟩ => ?_
  obtain ⟨d, res, h1, h2, h3⟩ := op1_run R3 (rx.mono (g2.trans g3).b) (g1.trans (g2.trans g3)).t (S3.mono fun b σ' ρ' Hb' H' g4 R4 p => p (g3.trans g4) (g2.trans (g3.trans g4)) (g1.trans (g2.trans (g3.trans g4))))
  exact sl_run R3.ex h1 h2 h3
theorem me_ix (ha : PE X a (tE X.K X.mg E ma)) (hb : PE X e (tE X.K X.mg E m)) (hs : PlainIx e := by exact fun _ _ => rfl) : PE X (.Subscript a e pos) (tE X.K X.mg E (mBin ixD ma m)) := pe_ixo ix_seq bin_ix ha hb hs
end

/-! ### a chain of two comparisons -/
def isT : Res → Option Bool
  | .val (.bool b) => some b
  | _ => none
def mChain (f f' : D → D → Option Res) (a b c : M Res) : M Res := bnd (thaw a) fun x => bnd (thaw b) fun y => bnd (op2 f x y) fun r => match isT r with
  | some true => bnd (thaw c) fun z => op2 f' y z
  | some false => ret (.val (.bool false))
  | none => stuck
theorem isT_some {r : Res} {b : Bool} (h : isT r = some b) : r = .val (.bool b) := by
  unfold isT at h
  split at h <;> cases h
  rfl
theorem chain_read {K : PySem.W.Frag} {mg : Str → Option Value} {E : XK} {r r' : R2} {f f' : D → D → Option Res} {ma mb mc : M Res} (hf : Bin K r f) (hf' : Bin K r' f') {σ : St} {H : Hp} {Q : VK} (w : tE K mg E (mChain f f' ma mb mc) σ H Q) :
    tChain r r' (tE K mg E ma) (tE K mg E mb) (tE K mg E mc) σ H Q := by
  obtain ⟨Hb, ρ, R, S⟩ := w
  refine tE_mono (e_thaw R S) fun v H1 ⟨Hb1, ρ1, x, R1, rx, g1, S1⟩ => ?_
  refine tE_mono (e_thaw R1 S1) fun w H2 ⟨Hb2, ρ2, y, R2, ry, g2, S2⟩ => ?_
  have S3 := S2.bnd
  refine op2_run (mg := mg) (E := E) hf (H0 := H2) R2 (rx.mono g2.b) ry (fun _ q => q) (S3.mono fun res σ' ρ3 Hb3 H3 g3 R3 S4 es u rep => ?_)
  subst es
  cases q : isT res with
  | none =>
    rw [q] at S4
    obtain ⟨_, _, e, _⟩ := S4
    cases e
  | some k =>
    have e := isT_some q
    subst e
    rw [q] at S4
    cases (show u = .bl k from Rp.bool_inv rep)
    refine ⟨k, rfl, ?_⟩
    have g13 := g1.trans (g2.trans g3)
    cases k with
    | true =>
      rw [if_pos rfl]
      refine tE_mono (e_thaw R3 S4) fun w4 H4 ⟨Hb4, ρ4, z, R4, rz, g4, S5⟩ => ?_
      refine op2_run (mg := mg) (E := E) hf' (H0 := H) R4 (ry.mono (g3.trans g4).b) rz (g13.trans g4).t ?_
      exact S5.mono fun b σ' ρ' Hb' H' g5 R5 p => p (g4.trans g5) (g3.trans (g4.trans g5)) (g2.trans (g3.trans (g4.trans g5))) (g1.trans (g2.trans (g3.trans (g4.trans g5))))
    | false =>
      rw [if_neg Bool.false_ne_true]
      exact S4.ret R3 g3 (g2.trans g3) g13 rfl _ (.bl false)

theorem me_chain {X : Cx} {E : XK} {op op' : CmpOp} {a b c : Expr} {pos : Pos} {r r' : R2} {f f' : D → D → Option Res} {ma mb mc : M Res} (ho : OpR X (compareOp op) r) (ho' : OpR X (compareOp op') r') (hf : Bin X.K r f) (hf' : Bin X.K r' f')
    (ha : PE X a (tE X.K X.mg E ma)) (hb : PE X b (tE X.K X.mg E mb)) (hc : PE X c (tE X.K X.mg E mc)) (hm : lastMarks [op, op'] [b, c] = false := by with_unfolding_all rfl) :
    PE X (.Compare a [op, op'] [b, c] pos) (tE X.K X.mg E (mChain f f' ma mb mc)) := (pe_chain ho ho' ha hb hc hm).imp fun σ H Q w => chain_read hf hf' w
/-! ### tests -/
def asB (r : Res) : M Bool := fun ρ => match isT r with
  | some b => some (.ok b, ρ)
  | none => none
def mB (m : M Res) : M Bool := bnd (thaw m) asB
def mAnd (a b : M Bool) : M Bool := bnd a fun x => if x then b else ret false
def mOr (a b : M Bool) : M Bool := bnd a fun x => if x then ret true else b
def mNot (a : M Bool) : M Bool := bnd a fun x => ret (!x)
/-- the truth of a list, a tuple, a text, a number -/
def truD : D → Option Bool
  | .none => some false
  | .bool b => some b
  | .int i => some (i != 0)
  | .str x => if x.length ≤ sizeLine then some (x.length != 0) else none
  | .list xs => some (!xs.isEmpty)
  | .tuple xs => some (!xs.isEmpty)
  | _ => none
def asTru (r : Res) : M Bool := fun ρ => match look r ρ with
  | some d => match truD d with
    | some b => some (.ok b, ρ)
    | none => none
  | none => none
def mTru (m : M Res) : M Bool := bnd (thaw m) asTru
/-- a test as a value -/
def mOfB (m : M Bool) : M Res := bnd m fun b => ret (.val (.bool b))
section
variable {K : PySem.W.Frag} {mg : Str → Option Value} {E : XK} {σ : St} {H : Hp}
theorem b_read {m : M Res} {Q : Bool → Hp → Prop} (w : tT K mg E (mB m) σ H Q) : tE K mg E m σ H fun v H1 => ∃ c, v = .bl c ∧ Q c H1 := by
  obtain ⟨Hb, ρ, R, S⟩ := w
  refine tE_mono (e_thaw R S) fun v H1 ⟨Hb1, ρ1, x, R1, rx, g1, S1⟩ => ?_
  obtain ⟨out, ρ', e, h1, h2⟩ := S1
  unfold asB at e
  split at e
  · rename_i b hb
    cases e
    have e := isT_some hb
    subst e
    cases rx with
    | val h _ => exact ⟨b, h.bool_inv, h1 _ rfl σ Hb1 H1 Go.refl R1 g1 rfl⟩
  · cases e
variable {X : Cx} {pos : Pos} {a b : Expr} {rest : List Expr} {m : M Res} {ma mb : M Bool}
theorem mt_cmp {op : CmpOp} {r : R2} {f : D → D → Option Res} {m1 m2 : M Res} (ho : OpR X (compareOp op) r) (hf : Bin X.K r f) (ha : PE X a (tE X.K X.mg E m1)) (hb : PE X b (tE X.K X.mg E m2)) (hm : behindInMarks op b = false := by rfl) :
    PT X (.Compare a [op] [b] pos) (tT X.K X.mg E (mB (mBin f m1 m2))) := (pt_cmpR ho ha hb hm).imp fun σ H Q w => bin_read hf (b_read w)
theorem mt_chain {op op' : CmpOp} {c : Expr} {r r' : R2} {f f' : D → D → Option Res} {m1 m2 m3 : M Res} (ho : OpR X (compareOp op) r) (ho' : OpR X (compareOp op') r') (hf : Bin X.K r f) (hf' : Bin X.K r' f')
    (ha : PE X a (tE X.K X.mg E m1)) (hb : PE X b (tE X.K X.mg E m2)) (hc : PE X c (tE X.K X.mg E m3)) (hm : lastMarks [op, op'] [b, c] = false := by with_unfolding_all rfl) :
    PT X (.Compare a [op, op'] [b, c] pos) (tT X.K X.mg E (mB (mChain f f' m1 m2 m3))) := (pt_chain ho ho' ha hb hc hm).imp fun σ H Q w => chain_read hf hf' (b_read w)
theorem mt_val (he : PE X a (tE X.K X.mg E m)) (hs : ∀ whole, isTrue a X.env whole = (do let v ← whole; standAt a.pos; holding [v] (truthy v)) := by intro _; rfl) : PT X a (tT X.K X.mg E (mB m)) := (pt_val he hs).imp fun σ H Q w => b_read w
theorem mt_and (ha : PT X a (tT X.K X.mg E ma)) (hb : PW X (.BoolOp .And (b :: rest) pos) (tT X.K X.mg E mb)) : PW X (.BoolOp .And (a :: b :: rest) pos) (tT X.K X.mg E (mAnd ma mb)) := (pw_and ha hb).imp fun σ H Q w => by
  obtain ⟨Hb, ρ, R, S⟩ := w
  refine tT_mono (e_test R S) fun c H1 ⟨Hb1, ρ1, R1, g1, S1⟩ => ?_
  cases c with
  | true =>
    rw [if_pos rfl]
    exact ⟨Hb1, ρ1, R1, S1.mono fun b σ' ρ' Hb' H' g2 R2 p => p (g1.trans g2)⟩
  | false =>
    rw [if_neg Bool.false_ne_true]
    exact S1.ret R1 g1 rfl
theorem mt_or (ha : PT X a (tT X.K X.mg E ma)) (hb : PW X (.BoolOp .Or (b :: rest) pos) (tT X.K X.mg E mb)) : PW X (.BoolOp .Or (a :: b :: rest) pos) (tT X.K X.mg E (mOr ma mb)) := (pw_or ha hb).imp fun σ H Q w => by
  obtain ⟨Hb, ρ, R, S⟩ := w
  refine tT_mono (e_test R S) fun c H1 ⟨Hb1, ρ1, R1, g1, S1⟩ => ?_
  cases c with
  | false =>
    rw [if_neg Bool.false_ne_true]
    exact ⟨Hb1, ρ1, R1, S1.mono fun b σ' ρ' Hb' H' g2 R2 p => p (g1.trans g2)⟩
  | true =>
    rw [if_pos rfl]
    exact S1.ret R1 g1 rfl
theorem mt_and1 (ha : PT X a (tT X.K X.mg E ma)) : PW X (.BoolOp .And [a] pos) (tT X.K X.mg E ma) := pw_and1 ha
theorem mt_or1 (ha : PT X a (tT X.K X.mg E ma)) : PW X (.BoolOp .Or [a] pos) (tT X.K X.mg E ma) := pw_or1 ha
theorem mt_not (ha : PT X a (tT X.K X.mg E ma)) : PT X (.UnaryOp .Not a pos) (tT X.K X.mg E (mNot ma)) := (pt_not ha).imp fun σ H Q w => by
  obtain ⟨Hb, ρ, R, S⟩ := w
  refine tT_mono (e_test R S) fun c H1 ⟨Hb1, ρ1, R1, g1, S1⟩ => ?_
  exact S1.ret R1 g1 rfl
end
end Mi

/-! Mi: arguments, displays, calls of built-ins. -/
namespace Mi
open PySem L2 Evl

/-! ### values by truth, either or -/
def mAndV (a b : M Res) : M Res := bnd (thaw a) fun x => match isT x with
  | some true => b
  | some false => ret (.val (.bool false))
  | none => stuck
def mOrV (a b : M Res) : M Res := bnd (thaw a) fun x => match isT x with
  | some true => ret (.val (.bool true))
  | some false => b
  | none => stuck
def mIf (c : M Bool) (a b : M Res) : M Res := bnd c fun t => if t then a else b
section
variable {X : Cx} {E : XK} {pos : Pos} {a b c : Expr} {rest : List Expr} {ma mb : M Res} {mc : M Bool}
theorem isT_rep {K : PySem.W.Frag} {Hb : Hp} {σ : St} {v : V} {x : Res} {k : Bool} (rx : RepA K Hb σ [v] [x]) (q : isT x = some k) : v = .bl k := by
  have e := isT_some q
  subst e
  cases rx with
  | val h _ => exact h.bool_inv
theorem me_and (ha : PE X a (tE X.K X.mg E ma)) (hb : PE X (.BoolOp .And (b :: rest) pos) (tE X.K X.mg E mb)) : PE X (.BoolOp .And (a :: b :: rest) pos) (tE X.K X.mg E (mAndV ma mb)) := (pe_and ha hb).imp fun σ H Q w => by
  obtain ⟨Hb, ρ, R, S⟩ := w
  refine tE_mono (e_thaw R S) fun v H1 ⟨Hb1, ρ1, x, R1, rx, g1, S1⟩ => ?_
  cases q : isT x with
  | none =>
    rw [q] at S1
    obtain ⟨_, _, e, _⟩ := S1
    cases e
  | some k =>
    rw [q] at S1
    refine ⟨k, isT_rep rx q, ?_⟩
    cases k with
    | true =>
      rw [if_pos rfl]
      exact e_last R1 g1.t (S1.mono fun b σ' ρ' Hb' H' g2 R2 p => p (g1.trans g2))
    | false =>
      rw [if_neg Bool.false_ne_true]
      exact S1.ret R1 g1 rfl _ (.bl false)
theorem me_or (ha : PE X a (tE X.K X.mg E ma)) (hb : PE X (.BoolOp .Or (b :: rest) pos) (tE X.K X.mg E mb)) : PE X (.BoolOp .Or (a :: b :: rest) pos) (tE X.K X.mg E (mOrV ma mb)) := (pe_or ha hb).imp fun σ H Q w => by
  obtain ⟨Hb, ρ, R, S⟩ := w
  refine tE_mono (e_thaw R S) fun v H1 ⟨Hb1, ρ1, x, R1, rx, g1, S1⟩ => ?_
  cases q : isT x with
  | none =>
    rw [q] at S1
    obtain ⟨_, _, e, _⟩ := S1
    cases e
  | some k =>
    rw [q] at S1
    refine ⟨k, isT_rep rx q, ?_⟩
    cases k with
    | true =>
      rw [if_pos rfl]
      exact S1.ret R1 g1 rfl _ (.bl true)
    | false =>
      rw [if_neg Bool.false_ne_true]
      exact e_last R1 g1.t (S1.mono fun b σ' ρ' Hb' H' g2 R2 p => p (g1.trans g2))
theorem me_one {op} (h : PE X a (tE X.K X.mg E ma)) : PE X (.BoolOp op [a] pos) (tE X.K X.mg E ma) := pe_one h
theorem me_if (hc : PT X c (tT X.K X.mg E mc)) (ha : PE X a (tE X.K X.mg E ma)) (hb : PE X b (tE X.K X.mg E mb)) : PE X (.IfExp c a b pos) (tE X.K X.mg E (mIf mc ma mb)) := (pe_ifExp hc ha hb).imp fun σ H Q w => by
  obtain ⟨Hb, ρ, R, S⟩ := w
  refine tT_mono (e_test R S) fun t H1 ⟨Hb1, ρ1, R1, g1, S1⟩ => ?_
  cases t with
  | true =>
    rw [if_pos rfl]
    exact e_last R1 g1.t (S1.mono fun b σ' ρ' Hb' H' g2 R2 p => p (g1.trans g2))
  | false =>
    rw [if_neg Bool.false_ne_true]
    exact e_last R1 g1.t (S1.mono fun b σ' ρ' Hb' H' g2 R2 p => p (g1.trans g2))
/-- a test by the truth of any value -/
theorem mt_tru {m : M Res} (he : PE X a (tE X.K X.mg E m)) (hs : ∀ whole, isTrue a X.env whole = (do let v ← whole; standAt a.pos; holding [v] (truthy v)) := by intro _; rfl) : PT X a (tT X.K X.mg E (mTru m)) := (pt_truth he hs).imp fun σ H Q w => by
  obtain ⟨Hb, ρ, R, S⟩ := w
  refine tE_mono (e_thaw R S) fun v H1 ⟨Hb1, ρ1, x, R1, rx, g1, S1⟩ => ?_
  obtain ⟨out, ρ', e, h1, h2⟩ := S1
  unfold asTru at e
  split at e
  · rename_i d hd
    split at e
    · rename_i k hk
      cases e
      refine ⟨k, ?_, h1 _ rfl σ Hb1 H1 Go.refl R1 g1 rfl⟩
      have tp := repA_top R1 rx hd
      unfold truD at hk
      split at hk
      · cases hk; cases tp.none; rfl
      · cases hk; cases tp.bool; rfl
      · cases hk; cases tp.int; rfl
      · rename_i z
        split at hk
        · rename_i c
          cases hk
          cases tp.str
          refine ⟨c, ?_⟩
          cases q : z.length with
          | zero => rfl
          | succ n =>
            have e : ((n + 1 : Nat) : Int) ≠ 0 := by omega
            simp [e]
            omega
        · cases hk
      · rename_i xs
        cases hk
        obtain ⟨p, vs, rfl, s, r⟩ := tp.list R1.ex
        refine .inl ⟨vs, s, ?_⟩
        cases r <;> rfl
      · rename_i xs
        cases hk
        obtain ⟨p, vs, rfl, s, r⟩ := tp.tuple R1.ex
        refine .inr (.inl ⟨vs, s, ?_⟩)
        cases r <;> rfl
      · cases hk
    · cases e
  · cases e
end

/-! ### arguments -/
def aNil : M (List Res) := ret []
/-- an argument that is seen | that is kept -/
def aT (m : M Res) (r : M (List Res)) : M (List Res) := bnd (thaw m) fun x => bnd r fun xs => ret (x :: xs)
def aV (m : M Res) (r : M (List Res)) : M (List Res) := bnd (mVal m) fun d => bnd r fun xs => ret (.val d :: xs)
section
variable {X : Cx} {E : XK} {e : Expr} {es : List Expr} {m : M Res} {mr : M (List Res)}
theorem ma_nil : PA X [] (tA X.K X.mg E aNil) := ⟨fun pos pins s σ H Q I w => pa_nil.run pos pins s σ H Q I (by
  obtain ⟨Hb, ρ, R, S⟩ := w
  exact S.ret R rfl [] .nil)⟩
theorem ma_t (he : PE X e (tE X.K X.mg E m)) (hr : PA X es (tA X.K X.mg E mr)) (hs : starEach (e :: es) X.env = (false, eval e X.env) :: starEach es X.env := by rfl) : PA X (e :: es) (tA X.K X.mg E (aT m mr)) := (pa_cons he hr hs).imp fun σ H Q w => by
  obtain ⟨Hb, ρ, R, S⟩ := w
  refine tE_mono (e_thaw R S) fun v H1 ⟨Hb1, ρ1, x, R1, rx, g1, S1⟩ => ?_
  refine tA_mono (e_args R1 S1) fun vs H2 ⟨Hb2, ρ2, rs, R2, rr, g2, S2⟩ => ?_
  exact S2.ret R2 g2 (g1.trans g2) rfl _ ((rx.mono g2.b).append rr)
theorem ma_v (he : PE X e (tE X.K X.mg E m)) (hr : PA X es (tA X.K X.mg E mr)) (hs : starEach (e :: es) X.env = (false, eval e X.env) :: starEach es X.env := by rfl) : PA X (e :: es) (tA X.K X.mg E (aV m mr)) := (pa_cons he hr hs).imp fun σ H Q w => by
  obtain ⟨Hb, ρ, R, S⟩ := w
  refine tE_mono (e_val R S) fun v H1 ⟨Hb1, ρ1, d, R1, rx, g1, S1⟩ => ?_
  refine tA_mono (e_args R1 S1) fun vs H2 ⟨Hb2, ρ2, rs, R2, rr, g2, S2⟩ => ?_
  exact S2.ret R2 g2 (g1.trans g2) rfl _ (.val (rx.mono g2.b) rr)
end
/-- all data -/
def valsOf : List Res → Option (List D)
  | [] => some []
  | .val d :: rs => (valsOf rs).map (d :: ·)
  | _ :: _ => none
theorem valsOf_rp {K : PySem.W.Frag} {Hb : Hp} {σ : St} : ∀ {vs : List V} {rs : List Res} {ds : List D}, RepA K Hb σ vs rs → valsOf rs = some ds → RpAll K Hb vs ds
  | _, _, _, .nil, e => by cases e; exact .nil
  | _, _, _, .val a b, e => by
    unfold valsOf at e
    obtain ⟨es, e1, rfl⟩ := Option.map_eq_some_iff.mp e
    exact .cons a (valsOf_rp b e1)
  | _, _, _, .slot _ _, e => by cases e
def mTup (as : M (List Res)) : M Res := bnd as fun rs => fun ρ => match valsOf rs with
  | some ds => if ds.length ≤ sizeLine then some (.ok (.val (.tuple ds)), ρ) else none
  | none => none
def mLst (as : M (List Res)) : M Res := bnd as fun rs => fun ρ => match valsOf rs with
  | some ds => if ds.length ≤ sizeLine then some (.ok (.fresh ds), ρ) else none
  | none => none
section
variable {X : Cx} {E : XK} {es : List Expr} {pos : Pos} {mr : M (List Res)}
theorem me_tup {k} (h : PA X es (tA X.K X.mg E mr)) : PE X (.Tuple es k pos) (tE X.K X.mg E (mTup mr)) := (pe_tup h).imp fun σ H Q w => by
  obtain ⟨Hb, ρ, R, S⟩ := w
  refine tA_mono (e_args R S) fun vs H2 ⟨Hb2, ρ2, rs, R2, rr, g2, S2⟩ => ?_
  obtain ⟨out, ρ', e, h1, h2⟩ := S2
  dsimp only at e
  split at e
  · rename_i ds hd
    split at e
    · rename_i c
      cases e
      have r := valsOf_rp rr hd
      refine ⟨by rw [r.length]; exact c, fun p hp => ?_⟩
      have n := New.fix (o := HO.tup vs) R2.ex hp
      exact h1 _ rfl σ _ _ n.go (n.rel R2) (g2.trans n.go) rfl _ (.tup (SqT.of upd_same) (r.mono n.b))
    · cases e
  · cases e
theorem me_lst (h : PA X es (tA X.K X.mg E mr)) : PE X (.List es pos) (tE X.K X.mg E (mLst mr)) := (pe_lst h).imp fun σ H Q w => by
  obtain ⟨Hb, ρ, R, S⟩ := w
  refine tA_mono (e_args R S) fun vs H2 ⟨Hb2, ρ2, rs, R2, rr, g2, S2⟩ => ?_
  obtain ⟨out, ρ', e, h1, h2⟩ := S2
  dsimp only at e
  split at e
  · rename_i ds hd
    split at e
    · rename_i c
      cases e
      have r := valsOf_rp rr hd
      refine ⟨by rw [r.length]; exact c, fun p hp => ?_⟩
      have n := New.mut (o := HO.lst vs) R2.ex hp
      have g := g2.trans (n.go (σ := σ) (ρ := ρ2))
      refine h1 _ rfl σ _ _ n.go (n.rel R2) g rfl _ ⟨p, vs, rfl, fresh_back R2.ex hp, upd_same, r, Classical.byContradiction fun q => g2.t p q hp, fun q => ?_⟩
      obtain ⟨_, ws, z⟩ := R2.owned q
      rw [hp] at z; cases z
    · cases e
  · cases e
end

/-! ### calls of what is known by its values -/
abbrev TopAll (K : PySem.W.Frag) (Hb H : Hp) : List V → List D → Prop := Paired (Top K Hb H)
def lookAll : List Res → R → Option (List D)
  | [], _ => some []
  | r :: rs, ρ => match look r ρ, lookAll rs ρ with
    | some d, some ds => some (d :: ds)
    | _, _ => none
theorem lookAll_top {K : PySem.W.Frag} {Hb H : Hp} {σ : St} {ρ : R} (R : Rel K Hb H σ ρ) : ∀ {vs : List V} {rs : List Res} {ds : List D}, RepA K Hb σ vs rs → lookAll rs ρ = some ds → TopAll K Hb H vs ds
  | _, _, _, .nil, e => by cases e; exact .nil
  | _, _, _, .val a b, e => by
    unfold lookAll at e
    split at e
    · rename_i d ds h1 h2
      cases e
      exact .cons (repA_top R (.val a .nil) h1) (lookAll_top R b h2)
    · cases e
  | _, _, _, .slot a b, e => by
    unfold lookAll at e
    split at e
    · rename_i d ds h1 h2
      cases e
      exact .cons (repA_top R (.slot a .nil) h1) (lookAll_top R b h2)
    · cases e
def Cal (K : PySem.W.Frag) (r : List V → Hp → VK → Prop) (f : List D → Option Res) : Prop := ∀ (Hb H : Hp) (vs : List V) (ds : List D) (res : Res) (Q : VK), Ex Hb H → TopAll K Hb H vs ds → f ds = some res →
  (∀ v Hb' H', New Hb H Hb' H' → RR K Hb' H' H v res → Q v H') → r vs H Q
def opN (f : List D → Option Res) (rs : List Res) : M Res := fun ρ => match lookAll rs ρ with
  | some ds => match f ds with
    | some r => some (.ok r, ρ)
    | none => none
  | none => none
def mCall (f : List D → Option Res) (as : M (List Res)) : M Res := bnd as fun rs => opN f rs
theorem cal_read {K : PySem.W.Frag} {mg : Str → Option Value} {E : XK} {σ : St} {H : Hp} {Q : VK} {r : List V → Hp → VK → Prop} {f : List D → Option Res} {mr : M (List Res)} (hr : Cal K r f) (w : tE K mg E (mCall f mr) σ H Q) : tA K mg E mr σ H fun vs H1 => r vs H1 Q := by
  obtain ⟨Hb, ρ, R, S⟩ := w
  refine tA_mono (e_args R S) fun vs H2 ⟨Hb2, ρ2, rs, R2, rr, g2, S2⟩ => ?_
  obtain ⟨out, ρ', e, h1, h2⟩ := S2
  unfold opN at e
  split at e
  · rename_i ds hd
    split at e
    · rename_i res hf
      cases e
      exact hr Hb2 H2 vs ds res Q R2.ex (lookAll_top R2 rr hd) hf fun v Hb' H' n rr' => h1 _ rfl σ Hb' H' n.go (n.rel R2) (g2.trans n.go) rfl v ((rr'.rep R2).from' g2.t)
    · cases e
  · cases e
theorem Cal.or {K : PySem.W.Frag} {r r' : List V → Hp → VK → Prop} {f f' : List D → Option Res} (h : Cal K r f) (h' : Cal K r' f') : Cal K (fun vs H Q => r vs H Q ∨ r' vs H Q) (fun ds => match f ds with | some z => some z | none => f' ds) := by
  intro Hb H vs ds res Q ex hx hf k
  dsimp only at hf
  cases q : f ds with
  | some z =>
    rw [q] at hf
    exact .inl (h Hb H vs ds res Q ex hx (q.trans hf) k)
  | none =>
    rw [q] at hf
    exact .inr (h' Hb H vs ds res Q ex hx hf k)
theorem Cal.imp {K : PySem.W.Frag} {r : List V → Hp → VK → Prop} {f f' : List D → Option Res} (h : Cal K r f) (k : ∀ ds z, f' ds = some z → f ds = some z) : Cal K r f' := fun Hb H vs ds res Q ex hx hf => h Hb H vs ds res Q ex hx (k ds res hf)
theorem CallR.or' {X : Cx} {f : Value} {r r' : List V → Hp → VK → Prop} (h : CallR X f r) (h' : CallR X f r') : CallR X f fun vs H Q => r vs H Q ∨ r' vs H Q := by
  intro pins s σ H xs us Q I rv w
  rcases w with w | w
  · exact h pins s σ H xs us Q I rv w
  · exact h' pins s σ H xs us Q I rv w
section
variable {X : Cx} {E : XK} {e : Expr} {es : List Expr} {p pos : Pos} {x : Str} {id T : String} {r : List V → Hp → VK → Prop} {f : List D → Option Res} {mr : M (List Res)}
theorem me_callB (hc : CallR X (.builtin id) r) (hf : Cal X.K r f) (hg : Gl X x) (hm : X.mg x = none) (hv : bootBuiltins x = some (.builtin id)) (ha : PA X (e :: es) (tA X.K X.mg E mr)) (hn : x ≠ "__name__" := by decide) (hdb : (x == ("__debug__" : Str)) = false := by decide)
    (he : starEach (e :: es) X.env = (false, eval e X.env) :: starEach es X.env := by rfl) (hpl : (backTo pos (starEach es X.env)).any (·.1) = false := by rfl) : PE X (.Call (.Name x p) (e :: es) [] pos) (tE X.K X.mg E (mCall f mr)) :=
  (pe_callB hc hg hm hv ha hn hdb he hpl).imp fun _ _ _ w => cal_read hf w
theorem me_callT (hc : CallR X (.type T) r) (hf : Cal X.K r f) (hg : Gl X x) (hm : X.mg x = none) (hv : bootBuiltins x = some (.type T)) (ha : PA X (e :: es) (tA X.K X.mg E mr)) (hn : x ≠ "__name__" := by decide) (hdb : (x == ("__debug__" : Str)) = false := by decide)
    (he : starEach (e :: es) X.env = (false, eval e X.env) :: starEach es X.env := by rfl) (hpl : (backTo pos (starEach es X.env)).any (·.1) = false := by rfl) : PE X (.Call (.Name x p) (e :: es) [] pos) (tE X.K X.mg E (mCall f mr)) :=
  (pe_callTy hc hg hm hv ha hn hdb he hpl).imp fun _ _ _ w => cal_read hf w
/-- a name of the module that holds a built-in function -/
theorem me_callG (hc : CallR X (.builtin id) r) (hf : Cal X.K r f) (hg : Gl X x) (hm : X.mg x = some (.builtin id)) (ha : PA X (e :: es) (tA X.K X.mg E mr)) (hdb : (x == ("__debug__" : Str)) = false := by decide)
    (he : starEach (e :: es) X.env = (false, eval e X.env) :: starEach es X.env := by rfl) (hpl : (backTo pos (starEach es X.env)).any (·.1) = false := by rfl) : PE X (.Call (.Name x p) (e :: es) [] pos) (tE X.K X.mg E (mCall f mr)) :=
  (pe_callBfun hc hg hm ha hdb he hpl).imp fun _ _ _ w => cal_read hf w
end

/-! ### which -/
section
variable {K : PySem.W.Frag} {X : Cx}
theorem tops1 {Hb H : Hp} {vs : List V} {d : D} (h : TopAll K Hb H vs [d]) : ∃ v, vs = [v] ∧ Top K Hb H v d := by
  cases h with
  | cons a b =>
    cases b
    exact ⟨_, rfl, a⟩
theorem tops2 {Hb H : Hp} {vs : List V} {d e : D} (h : TopAll K Hb H vs [d, e]) : ∃ v w, vs = [v, w] ∧ Top K Hb H v d ∧ Top K Hb H w e := by
  cases h with
  | cons a b =>
    cases b with
    | cons a' b' =>
      cases b'
      exact ⟨_, _, rfl, a, a'⟩
def lenD : List D → Option Res
  | [.list xs] => some (.val (.int (xs.length : Nat)))
  | [.tuple xs] => some (.val (.int (xs.length : Nat)))
  | [.str z] => if z.length ≤ sizeLine then some (.val (.int (z.length : Nat))) else none
  | _ => none
theorem cal_len : Cal K (fun xs H Q => ∃ x n, xs = [x] ∧ LenV K x H n ∧ Q (.int n) H) lenD := by
  intro Hb H vs ds res Q ex hx hf k
  unfold lenD at hf
  split at hf
  · rename_i xs
    cases hf
    obtain ⟨v, rfl, tp⟩ := tops1 hx
    obtain ⟨p, ws, rfl, s, r⟩ := tp.list ex
    exact ⟨_, xs.length, rfl, .inl ⟨ws, s, r.length.symm⟩, k _ Hb H (New.refl ex) (.int _)⟩
  · rename_i xs
    cases hf
    obtain ⟨v, rfl, tp⟩ := tops1 hx
    obtain ⟨p, ws, rfl, s, r⟩ := tp.tuple ex
    exact ⟨_, xs.length, rfl, .inr ⟨ws, s, r.length.symm⟩, k _ Hb H (New.refl ex) (.int _)⟩
  · rename_i z
    split at hf
    · rename_i c
      cases hf
      obtain ⟨v, rfl, tp⟩ := tops1 hx
      cases tp.str
      exact ⟨_, z.length, rfl, ⟨c, rfl⟩, k _ Hb H (New.refl ex) (.int _)⟩
    · cases hf
  · cases hf
def absD : List D → Option Res
  | [.int i] => some (.val (.int (if i < 0 then -i else i)))
  | _ => none
theorem cal_abs : Cal K (fun xs H Q => ∃ i, xs = [.int i] ∧ Q (.int (if i < 0 then -i else i)) H) absD := by
  intro Hb H vs ds res Q ex hx hf k
  unfold absD at hf
  split at hf
  · cases hf
    obtain ⟨v, rfl, tp⟩ := tops1 hx
    cases tp.int
    exact ⟨_, rfl, k _ Hb H (New.refl ex) (.int _)⟩
  · cases hf
def max2D : List D → Option Res
  | [.int i, .int j] => some (.val (.int (if j > i then j else i)))
  | _ => none
def min2D : List D → Option Res
  | [.int i, .int j] => some (.val (.int (if j < i then j else i)))
  | _ => none
theorem cal_max2 : Cal K (fun xs H Q => ∃ i j, xs = [.int i, .int j] ∧ Q (.int (if j > i then j else i)) H) max2D := by
  intro Hb H vs ds res Q ex hx hf k
  unfold max2D at hf
  split at hf
  · cases hf
    obtain ⟨v, w, rfl, t1, t2⟩ := tops2 hx
    cases t1.int
    cases t2.int
    exact ⟨_, _, rfl, k _ Hb H (New.refl ex) (.int _)⟩
  · cases hf
theorem cal_min2 : Cal K (fun xs H Q => ∃ i j, xs = [.int i, .int j] ∧ Q (.int (if j < i then j else i)) H) min2D := by
  intro Hb H vs ds res Q ex hx hf k
  unfold min2D at hf
  split at hf
  · cases hf
    obtain ⟨v, w, rfl, t1, t2⟩ := tops2 hx
    cases t1.int
    cases t2.int
    exact ⟨_, _, rfl, k _ Hb H (New.refl ex) (.int _)⟩
  · cases hf
def gcdD : List D → Option Res
  | [.int i, .int j] => some (.val (.int ((Nat.gcd i.natAbs j.natAbs : Nat) : Int)))
  | _ => none
theorem cal_gcd : Cal K rGcd gcdD := by
  intro Hb H vs ds res Q ex hx hf k
  unfold gcdD at hf
  split at hf
  · cases hf
    obtain ⟨v, w, rfl, t1, t2⟩ := tops2 hx
    cases t1.int
    cases t2.int
    exact ⟨_, _, rfl, k _ Hb H (New.refl ex) (.int _)⟩
  · cases hf
def intD : List D → Option Res
  | [.int i] => some (.val (.int i))
  | [.bool b] => some (.val (.int (if b then 1 else 0)))
  | [.str a] => if a.length ≤ 640 then (PySem.intText? a).map fun n => .val (.int n) else none
  | _ => none
theorem cal_int : Cal K (fun xs H Q => ((∃ i, xs = [.int i] ∧ Q (.int i) H) ∨ ∃ k, xs = [.bl k] ∧ Q (.int (if k then 1 else 0)) H) ∨ ∃ a n, xs = [.str a] ∧ PySem.intText? a = some n ∧ a.length ≤ 640 ∧ Q (.int n) H) intD := by
  intro Hb H vs ds res Q ex hx hf k
  unfold intD at hf
  split at hf
  · cases hf
    obtain ⟨v, rfl, t1⟩ := tops1 hx
    cases t1.int
    exact .inl (.inl ⟨_, rfl, k _ Hb H (New.refl ex) (.int _)⟩)
  · cases hf
    obtain ⟨v, rfl, t1⟩ := tops1 hx
    cases t1.bool
    exact .inl (.inr ⟨_, rfl, k _ Hb H (New.refl ex) (.int _)⟩)
  · rename_i a
    split at hf
    · rename_i c
      obtain ⟨n, e, rfl⟩ := Option.map_eq_some_iff.mp hf
      obtain ⟨v, rfl, t1⟩ := tops1 hx
      cases t1.str
      exact .inr ⟨a, n, rfl, e, c, k _ Hb H (New.refl ex) (.int _)⟩
    · cases hf
  · cases hf
theorem cr_int : CallR X (.type "int") (fun xs H Q => ((∃ i, xs = [.int i] ∧ Q (.int i) H) ∨ ∃ k, xs = [.bl k] ∧ Q (.int (if k then 1 else 0)) H) ∨ ∃ a n, xs = [.str a] ∧ PySem.intText? a = some n ∧ a.length ≤ 640 ∧ Q (.int n) H) := CallR.or' call_int1 call_int_str
def strD : List D → Option Res
  | [.int i] => if i.natAbs.log2 < 1920 then some (.val (.str (toString i))) else none
  | [.str a] => some (.val (.str a))
  | _ => none
theorem cal_str : Cal K (fun xs H Q => (∃ i, xs = [.int i] ∧ i.natAbs.log2 < 1920 ∧ Q (.str (toString i)) H) ∨ ∃ a, xs = [.str a] ∧ Q (.str a) H) strD := by
  intro Hb H vs ds res Q ex hx hf k
  unfold strD at hf
  split at hf
  · split at hf
    · rename_i c
      cases hf
      obtain ⟨v, rfl, t1⟩ := tops1 hx
      cases t1.int
      exact .inl ⟨_, rfl, c, k _ Hb H (New.refl ex) (.str _)⟩
    · cases hf
  · cases hf
    obtain ⟨v, rfl, t1⟩ := tops1 hx
    cases t1.str
    exact .inr ⟨_, rfl, k _ Hb H (New.refl ex) (.str _)⟩
  · cases hf
theorem cr_str : CallR X (.type "str") (fun xs H Q => (∃ i, xs = [.int i] ∧ i.natAbs.log2 < 1920 ∧ Q (.str (toString i)) H) ∨ ∃ a, xs = [.str a] ∧ Q (.str a) H) := CallR.or' call_str_int SkE.call_str_str
def listD : List D → Option Res
  | [.list xs] => some (.fresh xs)
  | [.tuple xs] => some (.fresh xs)
  | _ => none
theorem cal_list : Cal K (fun xs H Q => ∃ p ys, xs = [.ref p] ∧ (SqL K H p ys ∨ SqT K H p ys) ∧ ∀ l, H l = none → Q (.ref l) (upd H l (.lst ys))) listD := by
  intro Hb H vs ds res Q ex hx hf k
  unfold listD at hf
  split at hf
  · cases hf
    obtain ⟨v, rfl, tp⟩ := tops1 hx
    obtain ⟨p, ws, rfl, s, r⟩ := tp.list ex
    exact ⟨p, ws, rfl, .inl s, fun l hl => k _ Hb _ (New.mut ex hl) ⟨l, ws, rfl, fresh_back ex hl, upd_same, r, hl⟩⟩
  · cases hf
    obtain ⟨v, rfl, tp⟩ := tops1 hx
    obtain ⟨p, ws, rfl, s, r⟩ := tp.tuple'
    exact ⟨p, ws, rfl, .inr (ex_t ex s), fun l hl => k _ Hb _ (New.mut ex hl) ⟨l, ws, rfl, fresh_back ex hl, upd_same, r, hl⟩⟩
  · cases hf
def tupleD : List D → Option Res
  | [.list xs] => some (.val (.tuple xs))
  | [.tuple xs] => some (.val (.tuple xs))
  | _ => none
theorem cal_tuple : Cal K (fun xs H Q => ∃ p ys, xs = [.ref p] ∧ ((SqL K H p ys ∧ ∀ l, H l = none → Q (.ref l) (upd H l (.tup ys))) ∨ (SqT K H p ys ∧ Q (.ref p) H))) tupleD := by
  intro Hb H vs ds res Q ex hx hf k
  unfold tupleD at hf
  split at hf
  · cases hf
    obtain ⟨v, rfl, tp⟩ := tops1 hx
    obtain ⟨p, ws, rfl, s, r⟩ := tp.list ex
    refine ⟨p, ws, rfl, .inl ⟨s, fun l hl => ?_⟩⟩
    have n := New.fix (o := HO.tup ws) ex hl
    exact k _ _ _ n (.tup (SqT.of upd_same) (r.mono n.b))
  · cases hf
    obtain ⟨v, rfl, tp⟩ := tops1 hx
    obtain ⟨p, ws, rfl, s, r⟩ := tp.tuple'
    exact ⟨p, ws, rfl, .inr ⟨ex_t ex s, k _ Hb H (New.refl ex) (.tup s r)⟩⟩
  · cases hf
/-- lists of ints, of truths -/
def intsOf : List D → Option (List Int)
  | [] => some []
  | .int i :: r => (intsOf r).map (i :: ·)
  | _ :: _ => none
def boolsOf : List D → Option (List Bool)
  | [] => some []
  | .bool i :: r => (boolsOf r).map (i :: ·)
  | _ :: _ => none
theorem ints_rp {H : Hp} : ∀ {vs : List V} {ds : List D} {ns : List Int}, RpAll K H vs ds → intsOf ds = some ns → vs = ns.map V.int
  | _, _, _, .nil, e => by cases e; rfl
  | _, d :: ds, _, .cons a b, e => by
    cases d <;> unfold intsOf at e <;> try cases e
    obtain ⟨es, e1, rfl⟩ := Option.map_eq_some_iff.mp e
    rw [a.int_inv, ints_rp b e1]
    rfl
theorem bools_rp {H : Hp} : ∀ {vs : List V} {ds : List D} {ns : List Bool}, RpAll K H vs ds → boolsOf ds = some ns → vs = ns.map V.bl
  | _, _, _, .nil, e => by cases e; rfl
  | _, d :: ds, _, .cons a b, e => by
    cases d <;> unfold boolsOf at e <;> try cases e
    obtain ⟨es, e1, rfl⟩ := Option.map_eq_some_iff.mp e
    rw [a.bool_inv, bools_rp b e1]
    rfl
def sumD : List D → Option Res
  | [.list xs] => (intsOf xs).map fun ns => .val (.int ns.sum)
  | _ => none
theorem cal_sum : Cal K (rSum K) sumD := by
  intro Hb H vs ds res Q ex hx hf k
  unfold sumD at hf
  split at hf
  · obtain ⟨ns, e, rfl⟩ := Option.map_eq_some_iff.mp hf
    obtain ⟨v, rfl, tp⟩ := tops1 hx
    obtain ⟨p, ws, rfl, s, r⟩ := tp.list ex
    rw [ints_rp r e] at s
    exact ⟨p, ns, rfl, s, k _ Hb H (New.refl ex) (.int _)⟩
  · cases hf
def allD : List D → Option Res
  | [.list xs] => (boolsOf xs).map fun ns => .val (.bool (ns.all id))
  | _ => none
def anyD : List D → Option Res
  | [.list xs] => (boolsOf xs).map fun ns => .val (.bool (ns.any id))
  | _ => none
theorem cal_all : Cal K (rAll K) allD := by
  intro Hb H vs ds res Q ex hx hf k
  unfold allD at hf
  split at hf
  · obtain ⟨ns, e, rfl⟩ := Option.map_eq_some_iff.mp hf
    obtain ⟨v, rfl, tp⟩ := tops1 hx
    obtain ⟨p, ws, rfl, s, r⟩ := tp.list ex
    rw [bools_rp r e] at s
    exact ⟨p, ns, rfl, s, k _ Hb H (New.refl ex) (.bl _)⟩
  · cases hf
theorem cal_any : Cal K (rAny K) anyD := by
  intro Hb H vs ds res Q ex hx hf k
  unfold anyD at hf
  split at hf
  · obtain ⟨ns, e, rfl⟩ := Option.map_eq_some_iff.mp hf
    obtain ⟨v, rfl, tp⟩ := tops1 hx
    obtain ⟨p, ws, rfl, s, r⟩ := tp.list ex
    rw [bools_rp r e] at s
    exact ⟨p, ns, rfl, s, k _ Hb H (New.refl ex) (.bl _)⟩
  · cases hf
def divmodD : List D → Option Res
  | [.int i, .int j] => if 0 < j ∧ j.natAbs.log2 < 9000 then some (.val (.tuple [.int (i / j), .int (i % j)])) else none
  | _ => none
theorem cal_divmod : Cal K (fun xs H Q => ∃ i j, xs = [.int i, .int j] ∧ CDivP i j ∧ ∀ p, H p = none → Q (.ref p) (upd H p (.tup [.int (i / j), .int (i % j)]))) divmodD := by
  intro Hb H vs ds res Q ex hx hf k
  unfold divmodD at hf
  split at hf
  · rename_i i j
    split at hf
    · rename_i c
      cases hf
      obtain ⟨v, w, rfl, t1, t2⟩ := tops2 hx
      cases t1.int
      cases t2.int
      refine ⟨_, _, rfl, ⟨c.1, PyProof.noPylong_of_log2 c.2⟩, fun p hp => ?_⟩
      have n := New.fix (o := HO.tup [.int (i / j), .int (i % j)]) ex hp
      exact k _ _ _ n (.tup (SqT.of upd_same) (.cons (.int _) (.cons (.int _) .nil)))
    · cases hf
  · cases hf
/-- repr -/
def reprOk (d : D) : Bool := d.canLay0 && d.showable && decide (d.depth ≤ 64) && decide (d.shown.length ≤ sizeLine)
def reprD : List D → Option Res
  | [d] => if reprOk d then some (.val (.str d.shown)) else none
  | _ => none
def rRepr (K : PySem.W.Frag) : List V → Hp → VK → Prop := fun vs H Q => ∃ v d, vs = [v] ∧ Dp K H v d ∧ reprOk d = true ∧ Q (.str d.shown) H
theorem cal_repr : Cal K (rRepr K) reprD := by
  intro Hb H vs ds res Q ex hx hf k
  unfold reprD at hf
  split at hf
  · split at hf
    · rename_i c
      cases hf
      obtain ⟨v, rfl, tp⟩ := tops1 hx
      have c' := c
      unfold reprOk at c'
      simp only [Bool.and_eq_true] at c'
      exact ⟨v, _, rfl, rp_dp c'.1.1.1 (tp.rp ex), c, k _ Hb H (New.refl ex) (.str _)⟩
    · cases hf
  · cases hf
end
end Mi

/-! Mi: statements. -/
namespace Mi
open PySem L2 Evl

/-! ### a slot is set -/
section
variable {K : PySem.W.Frag} {σ : St} {ρ : R} {Hb H Hb1 H1 : Hp} {ρ1 : R} {v : V} {d : D} {i : Nat}
theorem get_set {ρ : R} {i j : Nat} {s : Option Slot} {t : Option Slot} (h : (ρ.set i s)[j]? = some t) : (j = i ∧ t = s) ∨ (j ≠ i ∧ ρ[j]? = some t) := by
  by_cases e : j = i
  · subst e
    by_cases hi : j < ρ.length
    · rw [List.getElem?_set_self hi] at h
      cases h
      exact .inl ⟨rfl, rfl⟩
    · rw [List.getElem?_eq_none (by simpa using hi)] at h
      cases h
  · rw [List.getElem?_set_ne (Ne.symm e)] at h
    exact .inr ⟨e, h⟩
theorem get_set_V {σ : St} {i j : Nat} {s t : Option V} (h : (σ.set i s)[j]? = some t) : (j = i ∧ t = s) ∨ (j ≠ i ∧ σ[j]? = some t) := by
  by_cases e : j = i
  · subst e
    by_cases hi : j < σ.length
    · rw [List.getElem?_set_self hi] at h
      cases h
      exact .inl ⟨rfl, rfl⟩
    · rw [List.getElem?_eq_none (by simpa using hi)] at h
      cases h
  · rw [List.getElem?_set_ne (Ne.symm e)] at h
    exact .inr ⟨e, h⟩
/-- may be stored to -/
def okSet (ρ : R) (i : Nat) : Bool := decide (i < ρ.length) && match ρ[i]? with
  | some (some s) => match s.m with
    | .val => true
    | .own => true
    | _ => false
  | _ => true
theorem okSet_io (h : okSet ρ i = true) {s : Slot} (e : ρ[i]? = some (some s)) : s.m.isIo = false := by
  unfold okSet at h
  rw [e] at h
  obtain ⟨m, d⟩ := s
  cases m <;> simp_all [Md.isIo]
theorem okSet_lk (h : okSet ρ i = true) {s : Slot} (e : ρ[i]? = some (some s)) : s.m.isLk = false := by
  unfold okSet at h
  rw [e] at h
  obtain ⟨m, d⟩ := s
  cases m <;> simp_all [Md.isLk]
theorem okSet_lt (h : okSet ρ i = true) : i < ρ.length := by
  unfold okSet at h
  rw [Bool.and_eq_true] at h
  exact of_decide_eq_true h.1
theorem own_set {a : Addr} {s : Option Slot} {w : Option V} (hs : ∀ t, s = some t → t.m.isOwn = false) (q : Own (σ.set i w) (ρ.set i s) a) : Own σ ρ a := by
  obtain ⟨j, t, q1, q2, q3⟩ := q
  rcases get_set q1 with ⟨_, z⟩ | ⟨ne, z⟩
  · rw [hs t z.symm] at q2; cases q2
  · rcases get_set_V q3 with ⟨e, _⟩ | ⟨_, z'⟩
    · exact absurd e ne
    · exact ⟨j, t, z, q2, z'⟩
/-- a datum is stored -/
theorem set_val (R : Rel K Hb H σ ρ) (rp : Rp K Hb v d) (h : okSet ρ i = true) :
    Go σ ρ Hb H (σ.set i (some v)) (ρ.set i (some ⟨.val, d⟩)) Hb H ∧ Rel K Hb H (σ.set i (some v)) (ρ.set i (some ⟨.val, d⟩)) := by
  have hi := okSet_lt h
  refine ⟨⟨Ex.refl _, fun _ _ q _ => q, fun a q1 q2 => absurd q1 q2, fun _ q => q, fun a q => .inl (own_set (fun t e => by cases e; rfl) q), fun j s q1 q2 => ?_, fun j s q1 q2 => ?_⟩, ⟨by simp [R.len], R.ex, fun j s q1 q2 => ?_, fun j s q1 q2 => ?_, fun j k s t a q1 q2 q3 q4 q5 q6 => ?_⟩⟩
  · have ne : j ≠ i := fun e => by
      subst e
      rw [okSet_io h q1] at q2; cases q2
    exact ⟨List.getElem?_set_ne (Ne.symm ne), s, by rw [List.getElem?_set_ne (Ne.symm ne)]; exact q1, q2⟩
  · have ne : j ≠ i := fun e => by
      subst e
      rw [okSet_lk h q1] at q2; cases q2
    exact ⟨List.getElem?_set_ne (Ne.symm ne), by rw [List.getElem?_set_ne (Ne.symm ne)]; exact q1⟩
  · rcases get_set q1 with ⟨e, z⟩ | ⟨ne, z⟩
    · subst e
      cases z
      exact ⟨v, List.getElem?_set_self (by rw [R.len]; exact hi), rp⟩
    · obtain ⟨w, e1, e2⟩ := R.val j s z q2
      exact ⟨w, by rw [List.getElem?_set_ne (Ne.symm ne)]; exact e1, e2⟩
  · rcases get_set q1 with ⟨e, z⟩ | ⟨ne, z⟩
    · cases z; cases q2
    · obtain ⟨a, vs, xs, e1, e2⟩ := R.own j s z q2
      exact ⟨a, vs, xs, by rw [List.getElem?_set_ne (Ne.symm ne)]; exact e1, e2⟩
  · rcases get_set q1 with ⟨e, z⟩ | ⟨ne, z⟩
    · cases z; cases q3
    · rcases get_set q2 with ⟨e', z'⟩ | ⟨ne', z'⟩
      · cases z'; cases q4
      · rw [List.getElem?_set_ne (Ne.symm ne)] at q5
        rw [List.getElem?_set_ne (Ne.symm ne')] at q6
        exact R.inj j k s t a z z' q3 q4 q5 q6
/-- a new list is stored: the slot's own -/
theorem set_own {a : Addr} {vs : List V} {xs : List D} (g : Go σ ρ Hb H σ ρ1 Hb1 H1) (R : Rel K Hb1 H1 σ ρ1) (h1 : Hb1 a = none) (h2 : H1 a = some (.lst vs)) (h3 : RpAll K Hb1 vs xs) (h4 : H a = none) (h5 : ¬ Own σ ρ1 a) (h : okSet ρ1 i = true) :
    Go σ ρ Hb H (σ.set i (some (.ref a))) (ρ1.set i (some ⟨.own, .list xs⟩)) Hb1 H1 ∧ Rel K Hb1 H1 (σ.set i (some (.ref a))) (ρ1.set i (some ⟨.own, .list xs⟩)) := by
  have hi := okSet_lt h
  have hσ : i < σ.length := by rw [R.len]; exact hi
  have noti : ∀ (j : Nat) (s : Slot), j ≠ i → ρ1[j]? = some (some s) → s.m.isOwn = true → σ[j]? ≠ some (some (.ref a)) := fun j s _ q1 q2 q3 => h5 ⟨j, s, q1, q2, q3⟩
  refine ⟨⟨g.b, g.k, g.f, g.t, fun b q => ?_, fun j s q1 q2 => ?_, fun j s q1 q2 => ?_⟩, ⟨by simp [R.len], R.ex, fun j s q1 q2 => ?_, fun j s q1 q2 => ?_, fun j k s t b q1 q2 q3 q4 q5 q6 => ?_⟩⟩
  · obtain ⟨j, t, q1, q2, q3⟩ := q
    rcases get_set_V q3 with ⟨e, z⟩ | ⟨ne, z⟩
    · cases z
      exact .inr h4
    · rcases get_set q1 with ⟨e', _⟩ | ⟨_, z'⟩
      · exact absurd e' ne
      · exact g.o b ⟨j, t, z', q2, z⟩
  · obtain ⟨e1, s1, e2, e3⟩ := g.io j s q1 q2
    have ne : j ≠ i := fun e => by
      subst e
      rw [okSet_io h e2] at e3; cases e3
    exact ⟨List.getElem?_set_ne (Ne.symm ne), s1, by rw [List.getElem?_set_ne (Ne.symm ne)]; exact e2, e3⟩
  · obtain ⟨e1, e2⟩ := g.lk j s q1 q2
    have ne : j ≠ i := fun e => by
      subst e
      rw [okSet_lk h e2] at q2; cases q2
    exact ⟨List.getElem?_set_ne (Ne.symm ne), by rw [List.getElem?_set_ne (Ne.symm ne)]; exact e2⟩
  · rcases get_set q1 with ⟨e, z⟩ | ⟨ne, z⟩
    · cases z; cases q2
    · obtain ⟨w, e1, e2⟩ := R.val j s z q2
      exact ⟨w, by rw [List.getElem?_set_ne (Ne.symm ne)]; exact e1, e2⟩
  · rcases get_set q1 with ⟨e, z⟩ | ⟨ne, z⟩
    · subst e
      cases z
      exact ⟨a, vs, xs, List.getElem?_set_self hσ, rfl, h1, h2, h3⟩
    · obtain ⟨b, ws, ys, e1, e2⟩ := R.own j s z q2
      exact ⟨b, ws, ys, by rw [List.getElem?_set_ne (Ne.symm ne)]; exact e1, e2⟩
  · rcases get_set q1 with ⟨e, z⟩ | ⟨ne, z⟩
    · rcases get_set q2 with ⟨e', z'⟩ | ⟨ne', z'⟩
      · rw [e, e']
      · subst e
        rw [List.getElem?_set_self hσ] at q5
        cases q5
        rw [List.getElem?_set_ne (Ne.symm ne')] at q6
        exact absurd q6 (noti k t ne' z' q4)
    · rw [List.getElem?_set_ne (Ne.symm ne)] at q5
      rcases get_set q2 with ⟨e', z'⟩ | ⟨ne', z'⟩
      · subst e'
        rw [List.getElem?_set_self hσ] at q6
        cases q6
        exact absurd q5 (noti j s ne z q3)
      · rw [List.getElem?_set_ne (Ne.symm ne')] at q6
        exact R.inj j k s t b z z' q3 q4 q5 q6
/-- the list that a slot owns gets new contents -/
theorem set_cont {a : Addr} {ws : List V} {ys : List D} {s : Slot} (R : Rel K Hb H σ ρ) (hs : ρ[i]? = some (some s)) (ho : s.m.isOwn = true) (hlk : s.m.isLk = false) (ha : σ[i]? = some (some (.ref a))) (hy : RpAll K Hb ws ys) :
    Go σ ρ Hb H σ (ρ.set i (some ⟨s.m, .list ys⟩)) Hb (upd H a (.lst ws)) ∧ Rel K Hb (upd H a (.lst ws)) σ (ρ.set i (some ⟨s.m, .list ys⟩)) := by
  have hi : i < ρ.length := (List.getElem?_eq_some_iff.mp hs).1
  obtain ⟨a', vs, xs, e1, e2, e3, e4, e5⟩ := R.own i s hs ho
  rw [ha] at e1
  cases e1
  have hown : Own σ ρ a := ⟨i, s, hs, ho, ha⟩
  refine ⟨⟨Ex.refl _, fun b o q n => ?_, fun b q1 q2 => absurd q1 q2, fun b q => ?_, fun b q => ?_, fun j t q1 q2 => ⟨rfl, ?_⟩, fun j t q1 q2 => ⟨rfl, ?_⟩⟩, ⟨by simp [R.len], fun b o q => ?_, fun j t q1 q2 => ?_, fun j t q1 q2 => ?_, fun j k t u b q1 q2 q3 q4 q5 q6 => ?_⟩⟩
  · have ne : b ≠ a := fun e => n (e ▸ hown)
    rw [upd_ne ne]; exact q
  · by_cases e : b = a
    · rw [e, upd_same]; exact fun z => nomatch z
    · rw [upd_ne e]; exact q
  · obtain ⟨j, t, q1, q2, q3⟩ := q
    rcases get_set q1 with ⟨e, z⟩ | ⟨ne, z⟩
    · subst e
      exact .inl ⟨_, s, hs, ho, q3⟩
    · exact .inl ⟨j, t, z, q2, q3⟩
  · by_cases e : j = i
    · subst e
      rw [hs] at q1; cases q1
      exact ⟨_, List.getElem?_set_self hi, q2⟩
    · exact ⟨t, by rw [List.getElem?_set_ne (Ne.symm e)]; exact q1, q2⟩
  · by_cases e : j = i
    · subst e
      rw [hs] at q1; cases q1
      rw [hlk] at q2; cases q2
    · rw [List.getElem?_set_ne (Ne.symm e)]; exact q1
  · have ne : b ≠ a := fun e => by rw [e, e3] at q; cases q
    rw [upd_ne ne]; exact R.ex b o q
  · rcases get_set q1 with ⟨e, z⟩ | ⟨ne, z⟩
    · cases z
      have q2 : s.m.isOwn = false := q2
      rw [ho] at q2; cases q2
    · exact R.val j t z q2
  · rcases get_set q1 with ⟨e, z⟩ | ⟨ne, z⟩
    · subst e
      cases z
      exact ⟨a, ws, ys, ha, rfl, e3, upd_same, hy⟩
    · obtain ⟨b, us, zs, f1, f2, f3, f4, f5⟩ := R.own j t z q2
      refine ⟨b, us, zs, f1, f2, f3, ?_, f5⟩
      rw [upd_ne ?_]
      · exact f4
      · intro e
        subst e
        exact ne (R.inj j i t s _ z hs q2 ho f1 ha)
  · have h1 : ∃ t', ρ[j]? = some (some t') ∧ t'.m.isOwn = true := by
      rcases get_set q1 with ⟨e, z⟩ | ⟨ne, z⟩
      · subst e; exact ⟨s, hs, ho⟩
      · exact ⟨t, z, q3⟩
    have h2 : ∃ t', ρ[k]? = some (some t') ∧ t'.m.isOwn = true := by
      rcases get_set q2 with ⟨e, z⟩ | ⟨ne, z⟩
      · subst e; exact ⟨s, hs, ho⟩
      · exact ⟨u, z, q4⟩
    obtain ⟨t1, z1, z2⟩ := h1
    obtain ⟨t2, z3, z4⟩ := h2
    exact R.inj j k t1 t2 b z1 z3 z2 z4 q5 q6
end

/-! ### stores -/
def mStore (i : Nat) (r : Res) : M Unit := fun ρ => if okSet ρ i then match r with
    | .val d => some (.ok (), ρ.set i (some ⟨.val, d⟩))
    | .fresh xs => some (.ok (), ρ.set i (some ⟨.own, .list xs⟩))
    | .slot j => match valR (.slot j) ρ with
      | some (.ok d, ρ') => if okSet ρ' i then some (.ok (), ρ'.set i (some ⟨.val, d⟩)) else none
      | _ => none
  else none
theorem store_run {K : PySem.W.Frag} {σ : St} {ρ ρ1 ρ2 : R} {Hb H Hb1 H1 : Hp} {v : V} {r : Res} {i : Nat} {o : Out Unit} (g : Go σ ρ Hb H σ ρ1 Hb1 H1) (R : Rel K Hb1 H1 σ ρ1) (rep : RepR K Hb1 H1 σ ρ1 H v r) (e : mStore i r ρ1 = some (o, ρ2)) :
    o = .ok () ∧ ∃ Hb2, Go σ ρ Hb H (σ.set i (some v)) ρ2 Hb2 H1 ∧ Rel K Hb2 H1 (σ.set i (some v)) ρ2 := by
  unfold mStore at e
  split at e
  · rename_i h
    cases r with
    | val d =>
      cases e
      obtain ⟨g2, R2⟩ := set_val R rep h
      exact ⟨rfl, Hb1, g.trans g2, R2⟩
    | fresh xs =>
      cases e
      obtain ⟨a, vs, rfl, h1, h2, h3, h4, h5⟩ := rep
      obtain ⟨g2, R2⟩ := set_own g R h1 h2 h3 h4 h5 h
      exact ⟨rfl, Hb1, g2, R2⟩
    | slot j =>
      dsimp only at e
      split at e
      · rename_i d ρ' e2
        split at e
        · rename_i h'
          cases e
          obtain ⟨Hb2, g2, R2, rp⟩ := rep_val g R rep e2
          obtain ⟨g3, R3⟩ := set_val R2 rp h'
          exact ⟨rfl, Hb2, g2.trans g3, R3⟩
        · cases e
      · cases e
  · cases e
def mAsg (i : Nat) (m : M Res) : M Fl := bnd m fun r => bnd (mStore i r) fun _ => ret .nx
def mRet (m : M Res) : M Fl := bnd m fun r => ret (.rt r)
def mDrop (m : M Res) : M Fl := bnd m fun _ => ret .nx
def mIfS (c : M Bool) (a b : M Fl) : M Fl := bnd c fun t => if t then a else b
def mSeq (a b : M Fl) : M Fl := bnd a fun fl => match fl with
  | .nx => b
  | f => ret f
def mNx : M Fl := ret .nx
section
variable {K : PySem.W.Frag} {mg : Str → Option Value} {E : XK} {σ : St} {H : Hp} {De : Ends}
theorem asg_read {i : Nat} {m : M Res} (w : tS K mg E (mAsg i m) De σ H) : tAsg (tE K mg E m) (gName i) De σ H := by
  obtain ⟨Hb, ρ, R, S⟩ := w
  refine ⟨Hb, ρ, R, S.bnd0.mono fun r σ' ρ1 Hb1 H1 g1 R1 S1 es v rep => ?_⟩
  subst es
  obtain ⟨out, ρ3, e, h1, h2⟩ := S1
  unfold bnd at e
  split at e
  · rename_i u ρ2 e2
    obtain ⟨_, Hb2, g2, R2⟩ := store_run g1 R1 rep e2
    cases e
    exact h1 _ rfl _ _ _ g2 R2
  · rename_i x ρ2 e2
    obtain ⟨z, _⟩ := store_run g1 R1 rep e2
    cases z
  · cases e
theorem ret_read {m : M Res} (w : tS K mg E (mRet m) De σ H) : tRet (tE K mg E m) De σ H := by
  obtain ⟨Hb, ρ, R, S⟩ := w
  refine ⟨Hb, ρ, R, S.bnd.mono fun r σ' ρ1 Hb1 H1 g1 R1 S1 es v rep => ?_⟩
  subst es
  exact S1.ret R1 g1 v rep
theorem drop_read {m : M Res} (w : tS K mg E (mDrop m) De σ H) : tDrop (tE K mg E m) De σ H := by
  obtain ⟨Hb, ρ, R, S⟩ := w
  refine ⟨Hb, ρ, R, S.bnd.mono fun r σ' ρ1 Hb1 H1 g1 R1 S1 es v rep => ?_⟩
  subst es
  exact S1.ret R1 g1
theorem FlP.from' {H0 H00 : Hp} (t : ∀ a, H00 a ≠ none → H0 a ≠ none) {fl : Fl} {σ' : St} {ρ' : R} {Hb' H' : Hp} (h : FlP K De H00 fl σ' ρ' Hb' H') : FlP K De H0 fl σ' ρ' Hb' H' := by
  cases fl with
  | nx => exact h
  | bk => exact h
  | ct => exact h
  | rt r => exact fun v rep => h v (rep.from' t)
theorem tS_sat {m : M Fl} {Hb : Hp} {ρ : R} {H0 : Hp} (R : Rel K Hb H σ ρ) (t : ∀ a, H0 a ≠ none → H a ≠ none) (S : Sat K mg E σ Hb H ρ m (FlP K De H0)) : tS K mg E m De σ H :=
  ⟨Hb, ρ, R, S.mono fun fl σ' ρ' Hb' H' _ _ p => p.from' t⟩
theorem ifs_read {c : M Bool} {a b : M Fl} (w : tS K mg E (mIfS c a b) De σ H) : tIfS (tT K mg E c) (tS K mg E a) (tS K mg E b) De σ H := by
  obtain ⟨Hb, ρ, R, S⟩ := w
  refine tT_mono (e_test R S) fun t H1 ⟨Hb1, ρ1, R1, g1, S1⟩ => ?_
  have S2 := S1.mono fun b σ' ρ' Hb' H' g2 R2 p => p (g1.trans g2)
  cases t with
  | true =>
    rw [if_pos rfl]
    exact tS_sat R1 g1.t S2
  | false =>
    rw [if_neg Bool.false_ne_true]
    exact tS_sat R1 g1.t S2
theorem seq_read {a b : M Fl} (w : tS K mg E (mSeq a b) De σ H) : tSeq (tS K mg E a) (tS K mg E b) De σ H := by
  obtain ⟨Hb, ρ, R, S⟩ := w
  refine ⟨Hb, ρ, R, S.bnd.mono fun fl σ' ρ1 Hb1 H1 g1 R1 S1 => ?_⟩
  cases fl with
  | nx => exact tS_sat R1 g1.t (S1.mono fun b σ' ρ' Hb' H' g2 R2 p => p (g1.trans g2))
  | bk => exact S1.ret R1 g1
  | ct => exact S1.ret R1 g1
  | rt r => exact S1.ret R1 g1
end
section
variable {X : Cx} {E : XK} {pos : Pos} {e : Expr} {m : M Res} {st : Stmt} {rest : List Stmt} {a b : M Fl} {mc : M Bool}
theorem ms_set {i : Nat} {x : Str} {pos' : Pos} (hN : X.N.Nodup) (hi : X.N[i]? = some x) (hx : Loc X.env.scope x) (he : PE X e (tE X.K X.mg E m)) (hs : swapsWith e (some (.Name x pos')) pos.line X.env = pure false := by rfl)
    (hf : X.fn x = true ∨ X.env.scope.names.lookup x = some .local := by first | exact .inl rfl | exact .inr rfl | assumption) : PS X (.Assign [.Name x pos'] e pos) (tS X.K X.mg E (mAsg i m)) := (ps_set hN hi hx he hs hf).imp fun _ _ _ w => asg_read w
theorem ms_ret (he : PE X e (tE X.K X.mg E m)) : PS X (.Return (some e) pos) (tS X.K X.mg E (mRet m)) := (ps_ret he).imp fun _ _ _ w => ret_read w
theorem ms_retN : PS X (.Return none pos) (tS X.K X.mg E (ret (.rt (.val .none)))) := ps_retN.imp fun De σ H w => by
  obtain ⟨Hb, ρ, R, S⟩ := w
  exact S.ret R _ .non
theorem ms_expr (he : PE X e (tE X.K X.mg E m)) (hs : swapsWith e none pos.line X.env = pure false := by rfl) : PS X (.Expr e pos) (tS X.K X.mg E (mDrop m)) := (ps_expr he hs).imp fun _ _ _ w => drop_read w
theorem ms_pass : PS X (.Pass pos) (tS X.K X.mg E mNx) := ps_pass.imp fun De σ H w => by
  obtain ⟨Hb, ρ, R, S⟩ := w
  exact S.ret R
theorem ms_break : PS X (.Break pos) (tS X.K X.mg E (ret .bk)) := ps_break.imp fun De σ H w => by
  obtain ⟨Hb, ρ, R, S⟩ := w
  exact S.ret R
theorem ms_continue : PS X (.Continue pos) (tS X.K X.mg E (ret .ct)) := ps_continue.imp fun De σ H w => by
  obtain ⟨Hb, ρ, R, S⟩ := w
  exact S.ret R
/-- code that is not come to -/
theorem ms_never : PS X st (tS X.K X.mg E stuck) := ps_never.imp fun De σ H w => by
  obtain ⟨Hb, ρ, R, _, _, e, _⟩ := w
  cases e
theorem ms_if {c : Expr} {p q : List Stmt} (hc : PT X c (tT X.K X.mg E mc)) (ha : PSs X p (tS X.K X.mg E a)) (hb : PSs X q (tS X.K X.mg E b)) : PS X (.If c p q pos) (tS X.K X.mg E (mIfS mc a b)) := (ps_if hc ha hb).imp fun _ _ _ w => ifs_read w
theorem mss_nil : PSs X [] (tS X.K X.mg E mNx) := pss_nil.imp fun De σ H w => by
  obtain ⟨Hb, ρ, R, S⟩ := w
  exact S.ret R
theorem mss_one (h : PS X st (tS X.K X.mg E a)) : PSs X [st] (tS X.K X.mg E a) := pss_one h
theorem mss_cons (h : PS X st (tS X.K X.mg E a)) (hr : PSs X rest (tS X.K X.mg E b)) : PSs X (st :: rest) (tS X.K X.mg E (mSeq a b)) := (pss_cons h hr).imp fun _ _ _ w => seq_read w
end

/-! ### lists that a slot owns -/
def appTo (i : Nat) (d : D) : M Fl := fun ρ => match ρ[i]? with
  | some (some ⟨.own, .list xs⟩) => if xs.length < sizeLine then some (.ok .nx, ρ.set i (some ⟨.own, .list (xs ++ [d])⟩)) else none
  | some (some ⟨.io, .list xs⟩) => if xs.length < sizeLine then some (.ok .nx, ρ.set i (some ⟨.io, .list (xs ++ [d])⟩)) else none
  | _ => none
def ownAt (ρ : R) (i : Nat) : Bool := match ρ[i]? with
  | some (some s) => s.m.isOwn
  | _ => false
def mApp (i : Nat) (m : M Res) : M Fl := fun ρ => if ownAt ρ i then bnd (mVal m) (appTo i) ρ else none
theorem own_at {K : PySem.W.Frag} {Hb H : Hp} {σ : St} {ρ : R} {i : Nat} (Rr : Rel K Hb H σ ρ) (h : ownAt ρ i = true) : ∃ a vs, σ[i]? = some (some (.ref a)) ∧ H a = some (.lst vs) := by
  unfold ownAt at h
  split at h
  · rename_i s hs
    obtain ⟨a, vs, xs, e1, e2, e3, e4, e5⟩ := Rr.own i s hs h
    exact ⟨a, vs, e1, e4⟩
  · cases h
/-- slot i's list at an index -/
def setIx (i : Nat) (k : Res) (d : D) : M Unit := fun ρ => match k with
  | .val (.int n) => match ρ[i]? with
    | some (some ⟨.own, .list xs⟩) => match ixN xs.length n with
      | some j => some (.ok (), ρ.set i (some ⟨.own, .list (xs.set j d)⟩))
      | none => none
    | some (some ⟨.io, .list xs⟩) => match ixN xs.length n with
      | some j => some (.ok (), ρ.set i (some ⟨.io, .list (xs.set j d)⟩))
      | none => none
    | _ => none
  | _ => none
def mSetIx (i : Nat) (mk m : M Res) : M Fl := bnd (mVal m) fun d => fun ρ => if ownAt ρ i then bnd (thaw mk) (fun j => bnd (setIx i j d) fun _ => ret Fl.nx) ρ else none
section
variable {K : PySem.W.Frag} {mg : Str → Option Value} {E : XK} {σ : St} {Hb H : Hp} {ρ : R}
theorem setIx_run {i : Nat} {k : Res} {d : D} {v w : V} {o : Out Unit × R} (R : Rel K Hb H σ ρ) (rk : RepA K Hb σ [w] [k]) (rp : Rp K Hb v d) (e : setIx i k d ρ = some o) :
    ∃ a n vs j H', o.1 = .ok () ∧ σ[i]? = some (some (.ref a)) ∧ w = .int n ∧ H a = some (.lst vs) ∧ ixN vs.length n = some j ∧ H' = upd H a (.lst (vs.set j v)) ∧ Go σ ρ Hb H σ o.2 Hb H' ∧ Rel K Hb H' σ o.2 := by
  have fin : ∀ {m : Md} {xs : List D} {n : Int} {j : Nat}, ρ[i]? = some (some ⟨m, .list xs⟩) → m.isOwn = true → m.isLk = false → k = .val (.int n) → ixN xs.length n = some j → o = (.ok (), ρ.set i (some ⟨m, .list (xs.set j d)⟩)) →
      ∃ a n vs j H', o.1 = .ok () ∧ σ[i]? = some (some (.ref a)) ∧ w = .int n ∧ H a = some (.lst vs) ∧ ixN vs.length n = some j ∧ H' = upd H a (.lst (vs.set j v)) ∧ Go σ ρ Hb H σ o.2 Hb H' ∧ Rel K Hb H' σ o.2 := by
    intro m xs n j hs ho hlk hk hj hO
    subst hk
    subst hO
    obtain ⟨a, vs, xs', e1, e2, e3, e4, e5⟩ := R.own i _ hs ho
    cases e2
    have hw : w = .int n := by
      cases rk with
      | val h _ => exact h.int_inv
    obtain ⟨g, R2⟩ := set_cont (ws := vs.set j v) (ys := xs.set j d) R hs ho hlk e1 (e5.set j rp)
    exact ⟨a, n, vs, j, _, rfl, e1, hw, e4, by rw [e5.length]; exact hj, rfl, g, R2⟩
  unfold setIx at e
  split at e
  · rename_i n
    split at e
    · rename_i xs hs
      split at e
      · rename_i j hj
        cases e
        exact fin hs rfl rfl rfl hj rfl
      · cases e
    · rename_i xs hs
      split at e
      · rename_i j hj
        cases e
        exact fin hs rfl rfl rfl hj rfl
      · cases e
    · cases e
  · cases e
theorem app_run {i : Nat} {d : D} {v : V} {o : Out Fl × R} (Rr : Rel K Hb H σ ρ) (rp : Rp K Hb v d) (e : appTo i d ρ = some o) :
    ∃ a vs H', o.1 = .ok .nx ∧ σ[i]? = some (some (.ref a)) ∧ H a = some (.lst vs) ∧ vs.length < sizeLine ∧ H' = upd H a (.lst (vs ++ [v])) ∧ Go σ ρ Hb H σ o.2 Hb H' ∧ Rel K Hb H' σ o.2 := by
  have fin : ∀ {m : Md} {xs : List D}, ρ[i]? = some (some ⟨m, .list xs⟩) → m.isOwn = true → m.isLk = false → xs.length < sizeLine → o = (.ok .nx, ρ.set i (some ⟨m, .list (xs ++ [d])⟩)) →
      ∃ a vs H', o.1 = .ok .nx ∧ σ[i]? = some (some (.ref a)) ∧ H a = some (.lst vs) ∧ vs.length < sizeLine ∧ H' = upd H a (.lst (vs ++ [v])) ∧ Go σ ρ Hb H σ o.2 Hb H' ∧ Rel K Hb H' σ o.2 := by
    intro m xs hs ho hlk hl hO
    subst hO
    obtain ⟨a, vs, xs', e1, e2, e3, e4, e5⟩ := Rr.own i _ hs ho
    cases e2
    obtain ⟨g, R2⟩ := set_cont (ws := vs ++ [v]) (ys := xs ++ [d]) Rr hs ho hlk e1 (e5.append (.cons rp .nil))
    exact ⟨a, vs, _, rfl, e1, e4, by rw [e5.length]; exact hl, rfl, g, R2⟩
  unfold appTo at e
  split at e
  · rename_i xs hs
    split at e
    · rename_i c
      cases e
      exact fin hs rfl rfl c rfl
    · cases e
  · rename_i xs hs
    split at e
    · rename_i c
      cases e
      exact fin hs rfl rfl c rfl
    · cases e
  · cases e
end
section
variable {X : Cx} {E : XK} {pos apos cpos npos : Pos} {e k : Expr} {m mk : M Res}
/-- x.append(e), x the slot i's list -/
theorem ms_app {i : Nat} {x : Str} (hx : PE X (.Name x npos) (tVar i)) (he : PE X e (tE X.K X.mg E m)) (hs : starEach [e] X.env = (false, eval e X.env) :: starEach [] X.env := by rfl)
    (hsw : swapsWith (.Call (.Attribute (.Name x npos) "append" apos) [e] [] cpos) none pos.line X.env = pure false := by rfl)
    (hE : PE X (.Call (.Attribute (.Name x npos) "append" apos) [e] [] cpos) (tBM X.K "list" rAppend (tVar i) (tCons (tE X.K X.mg E m) tNil))) :
    PS X (.Expr (.Call (.Attribute (.Name x npos) "append" apos) [e] [] cpos) pos) (tS X.K X.mg E (mApp i m)) := (ps_expr hE hsw).imp fun De σ H w => by
  obtain ⟨Hb, ρ, R, S⟩ := w
  obtain ⟨c, S'⟩ : ownAt ρ i = true ∧ Sat X.K X.mg E σ Hb H ρ (bnd (mVal m) (appTo i)) (FlP X.K De H) := by
    obtain ⟨out, ρ', e, h⟩ := S
    unfold mApp at e
    split at e
    · rename_i c
      exact ⟨c, out, ρ', e, h⟩
    · cases e
  obtain ⟨a, vs, ea, ha⟩ := own_at R c
  refine ⟨.ref a, ea, .inl ⟨rfl, vs, SqL.of ha⟩, ?_⟩
  refine tE_mono (e_val R S') fun v H1 ⟨Hb1, ρ1, d, R1, rp, g1, S1⟩ => ?_
  obtain ⟨out, ρ', e, h1, h2⟩ := S1
  obtain ⟨b, ws, H', q1, q2, q3, q4, q5, q6, q7⟩ := app_run R1 rp e
  rw [ea] at q2
  cases q2
  subst q5
  exact ⟨a, ws, v, rfl, rfl, q3, q4, h1 .nx q1 σ Hb1 _ q6 q7 (g1.trans q6)⟩
/-- x[k] = e -/
theorem ms_setix {i : Nat} {x : Str} {pk : Pos} (hx : PE X (.Name x npos) (tVar i)) (hk : PE X k (tE X.K X.mg E mk)) (he : PE X e (tE X.K X.mg E m))
    (hs : swapsWithSole [.Subscript (.Name x npos) k pk] e pos.line X.env = pure false := by rfl) (hw : swappedStores [.Subscript (.Name x npos) k pk] e X.env = pure none := by rfl)
    (h1 : (assignEach [.Subscript (.Name x npos) k pk] X.env).map (·.2) = [assign (.Subscript (.Name x npos) k pk) X.env] := by rfl)
    (hg : PG X (.Subscript (.Name x npos) k pk) (gSub (tVar i) (tE X.K X.mg E mk) rSetL)) :
    PS X (.Assign [.Subscript (.Name x npos) k pk] e pos) (tS X.K X.mg E (mSetIx i mk m)) := (ps_asg he hg hs hw h1).imp fun De σ H w => by
  obtain ⟨Hb, ρ, R, S⟩ := w
  refine tE_mono (e_val R S) fun v H1 ⟨Hb1, ρ1, d, R1, rp, g1, S1⟩ => ?_
  obtain ⟨out, ρ', e, h⟩ := S1
  dsimp only at e
  split at e
  · rename_i c
    obtain ⟨a, vs, ea, ha⟩ := own_at R1 c
    refine ⟨.ref a, ea, ?_⟩
    refine tE_mono (e_thaw R1 (⟨out, ρ', e, h⟩ : Sat X.K X.mg E σ Hb1 H1 ρ1 (bnd (thaw mk) fun j => bnd (setIx i j d) fun _ => ret Fl.nx) fun b σ' ρ' Hb' H' => Go σ ρ Hb H σ' ρ' Hb' H' → FlP X.K De H b σ' ρ' Hb' H')) fun w H2 ⟨Hb2, ρ2, kr, R2, rk, g2, S2⟩ => ?_
    obtain ⟨out, ρ', e, h1, h2⟩ := S2
    unfold bnd at e
    split at e
    · rename_i u ρ3 e3
      cases e
      obtain ⟨b, n, ws, j, H', q1, q2, q3, q4, q5, q6, q7, q8⟩ := setIx_run R2 rk (rp.mono g2.b) e3
      rw [ea] at q2
      cases q2
      subst q6
      subst q3
      exact ⟨a, ws, n, j, rfl, rfl, q4, q5, h1 _ rfl σ Hb2 _ q7 q8 (g2.trans q7) (g1.trans (g2.trans q7))⟩
    · rename_i x ρ3 e3
      obtain ⟨b, n, ws, j, H', q1, _⟩ := setIx_run R2 rk (rp.mono g2.b) e3
      cases q1
    · cases e
  · cases e
end
end Mi

/-! Mi: defs. -/
namespace Mi
open PySem L2 Evl PySem.Spec

/-- what a def does with data: the answer, and what the list of the caller's at io holds behind it -/
abbrev Fn := List D → Option (Out Res × D)
def IoA (io : Option Nat) (vs : List V) (a : Addr) : Prop := ∃ i, io = some i ∧ vs[i]? = some (.ref a)
structure ArgR (K : PySem.W.Frag) (Hb H : Hp) (io : Option Nat) (vs : List V) (ds : List D) : Prop where
  len : vs.length = ds.length
  val : ∀ (i : Nat) (d : D), ds[i]? = some d → io ≠ some i → ∃ v, vs[i]? = some v ∧ Rp K Hb v d
  io : ∀ i, io = some i → ∃ a ws xs, vs[i]? = some (.ref a) ∧ ds[i]? = some (.list xs) ∧ Hb a = none ∧ H a = some (.lst ws) ∧ RpAll K Hb ws xs
structure GoF (io : Option Nat) (vs : List V) (Hb H Hb' H' : Hp) : Prop where
  b : Ex Hb Hb'
  e : Ex Hb' H'
  k : ∀ a o, H a = some o → ¬ IoA io vs a → H' a = some o
  f : ∀ a, Hb a = none → Hb' a ≠ none → H a = none
  t : ∀ a, H a ≠ none → H' a ≠ none
def IoR (K : PySem.W.Frag) (Hb' H' : Hp) (io : Option Nat) (vs : List V) (y : D) : Prop :=
  ∀ i a, io = some i → vs[i]? = some (.ref a) → Hb' a = none ∧ ∃ ws xs, y = .list xs ∧ H' a = some (.lst ws) ∧ RpAll K Hb' ws xs
def spF (K : PySem.W.Frag) (mg : Str → Option Value) (n : Nat) (io : Option Nat) (F : Fn) : Sp := fun vs H Q E => vs.length = n ∧ ∃ Hb ds, Ex Hb H ∧ ArgR K Hb H io vs ds ∧ ∃ out y, F ds = some (out, y) ∧
  (∀ r, out = .ok r → ∀ v Hb' H', GoF io vs Hb H Hb' H' → IoR K Hb' H' io vs y → RR K Hb' H' H v r → Q v H') ∧
  (∀ e, out = .exc e → ∀ c d Hb' H', GoF io vs Hb H Hb' H' → IoR K Hb' H' io vs y → ExcR K mg Hb' H' c d e → E c d H')

/-! ### a def's body as such a function -/
def slot0 (io : Option Nat) : Nat → List D → R
  | _, [] => []
  | i, d :: ds => some ⟨if io = some i then .io else .val, d⟩ :: slot0 io (i + 1) ds
def slots (n : Nat) (io : Option Nat) (ds : List D) : R := slot0 io 0 ds ++ List.replicate (n - ds.length) none
def outIo (io : Option Nat) (ρ : R) : D := match io with
  | none => .none
  | some i => match ρ[i]? with
    | some (some s) => s.d
    | _ => .none
def isListAt (io : Option Nat) (ds : List D) : Bool := match io with
  | none => true
  | some i => match ds[i]? with
    | some (.list _) => true
    | _ => false
def retR (r : Res) (ρ : R) : Option Res := match r with
  | .val d => some (.val d)
  | .fresh xs => some (.fresh xs)
  | .slot i => match ρ[i]? with
    | some (some ⟨.val, d⟩) => some (.val d)
    | some (some ⟨.own, .list xs⟩) => some (.fresh xs)
    | some (some ⟨.lock, .list xs⟩) => some (.fresh xs)
    | _ => none
/-- p parameters, n names -/
def mkFn (p n : Nat) (io : Option Nat) (body : M Fl) : Fn := fun ds => if ds.length = p ∧ isListAt io ds = true then match body (slots n io ds) with
  | some (.ok .nx, ρ) => some (.ok (.val .none), outIo io ρ)
  | some (.ok (.rt r), ρ) => match retR r ρ with
    | some r' => some (.ok r', outIo io ρ)
    | none => none
  | some (.ok _, _) => none
  | some (.exc e, ρ) => some (.exc e, outIo io ρ)
  | none => none
  else none

section
variable {K : PySem.W.Frag} {mg : Str → Option Value} {Hb H : Hp} {io : Option Nat} {vs : List V} {ds : List D} {n : Nat}
theorem slot0_get : ∀ {ds : List D} {k i : Nat} {s : Slot}, (slot0 io k ds)[i]? = some (some s) → ∃ d, ds[i]? = some d ∧ s = ⟨if io = some (k + i) then .io else .val, d⟩
  | [], _, _, _, h => by simp [slot0] at h
  | d :: ds, k, 0, s, h => by
    simp [slot0] at h
    exact ⟨d, rfl, h.symm⟩
  | d :: ds, k, i + 1, s, h => by
    have h' : (slot0 io (k + 1) ds)[i]? = some (some s) := by simpa [slot0] using h
    obtain ⟨d', e1, e2⟩ := slot0_get h'
    exact ⟨d', by simpa using e1, by rw [e2, show k + 1 + i = k + (i + 1) by omega]⟩
theorem slot0_length : ∀ (ds : List D) (k : Nat), (slot0 io k ds).length = ds.length
  | [], _ => rfl
  | d :: ds, k => by
    show (slot0 io (k + 1) ds).length + 1 = ds.length + 1
    rw [slot0_length ds]
theorem slots_get {i : Nat} {s : Slot} (h : (slots n io ds)[i]? = some (some s)) : ∃ d, ds[i]? = some d ∧ s = ⟨if io = some i then .io else .val, d⟩ := by
  unfold slots at h
  by_cases hi : i < (slot0 io 0 ds).length
  · rw [List.getElem?_append_left hi] at h
    obtain ⟨d, e1, e2⟩ := slot0_get h
    exact ⟨d, e1, by rw [e2, Nat.zero_add]⟩
  · rw [List.getElem?_append_right (by omega)] at h
    have := List.mem_of_getElem? h
    rw [List.mem_replicate] at this
    cases this.2
theorem start_get {N : List Str} {i : Nat} {v : V} (h : vs[i]? = some v) : (L2.start N vs)[i]? = some (some v) := by
  have hi : i < vs.length := (List.getElem?_eq_some_iff.mp h).1
  unfold L2.start
  rw [List.getElem?_append_left (by simpa using hi), List.getElem?_map, h]
  rfl
theorem start_of {N : List Str} {i : Nat} {v : V} (h : (L2.start N vs)[i]? = some (some v)) : vs[i]? = some v := by
  unfold L2.start at h
  by_cases hi : i < (vs.map some).length
  · rw [List.getElem?_append_left hi, List.getElem?_map] at h
    cases q : vs[i]? with
    | none => rw [q] at h; cases h
    | some w => rw [q] at h; cases h; rfl
  · rw [List.getElem?_append_right (by omega)] at h
    have := List.mem_of_getElem? h
    rw [List.mem_replicate] at this
    cases this.2
theorem slots_rel {N : List Str} (hn : N.length = n) (ex : Ex Hb H) (A : ArgR K Hb H io vs ds) : Rel K Hb H (L2.start N vs) (slots n io ds) where
  len := by
    unfold L2.start slots
    simp only [List.length_append, List.length_map, List.length_replicate, slot0_length]
    rw [A.len, hn]
  ex := ex
  val := fun i s h1 h2 => by
    obtain ⟨d, e1, e2⟩ := slots_get h1
    subst e2
    by_cases c : io = some i
    · rw [if_pos c] at h2; cases h2
    · obtain ⟨v, q1, q2⟩ := A.val i d e1 c
      exact ⟨v, start_get q1, q2⟩
  own := fun i s h1 h2 => by
    obtain ⟨d, e1, e2⟩ := slots_get h1
    subst e2
    by_cases c : io = some i
    · obtain ⟨a, ws, xs, q1, q2, q3, q4, q5⟩ := A.io i c
      rw [e1] at q2
      cases q2
      exact ⟨a, ws, xs, start_get q1, rfl, q3, q4, q5⟩
    · rw [if_neg c] at h2; cases h2
  inj := fun i j s t a h1 h2 h3 h4 h5 h6 => by
    obtain ⟨d, e1, e2⟩ := slots_get h1
    obtain ⟨d', e1', e2'⟩ := slots_get h2
    subst e2
    subst e2'
    by_cases c : io = some i
    · by_cases c' : io = some j
      · rw [c] at c'; exact Option.some.inj c'
      · rw [if_neg c'] at h4; cases h4
    · rw [if_neg c] at h3; cases h3
theorem slots_own {N : List Str} {a : Addr} (A : ArgR K Hb H io vs ds) : Own (L2.start N vs) (slots n io ds) a ↔ IoA io vs a := by
  constructor
  · rintro ⟨i, s, h1, h2, h3⟩
    obtain ⟨d, e1, e2⟩ := slots_get h1
    subst e2
    by_cases c : io = some i
    · exact ⟨i, c, start_of h3⟩
    · rw [if_neg c] at h2; cases h2
  · rintro ⟨i, c, h⟩
    obtain ⟨b, ws, xs, q1, q2, _⟩ := A.io i c
    have hi : i < ds.length := (List.getElem?_eq_some_iff.mp q2).1
    refine ⟨i, ⟨.io, .list xs⟩, ?_, rfl, start_get h⟩
    unfold slots
    rw [List.getElem?_append_left (by rw [slot0_length]; exact hi)]
    have key : ∀ (ds : List D) (k i : Nat) (d : D), ds[i]? = some d → (slot0 io k ds)[i]? = some (some ⟨if io = some (k + i) then .io else .val, d⟩) := by
      intro ds
      induction ds with
      | nil => intro k i d e; simp at e
      | cons x ds ih =>
        intro k i d e
        cases i with
        | zero => simp at e; subst e; rfl
        | succ i =>
          have := ih (k + 1) i d (by simpa using e)
          rw [show k + (i + 1) = k + 1 + i by omega]
          simpa [slot0] using this
    rw [key ds 0 i _ q2, Nat.zero_add, if_pos c]
/-- from the body's end to the def's -/
theorem go_fn {N : List Str} {σ' : L2.St} {ρ' : R} {Hb' H' : Hp} (A : ArgR K Hb H io vs ds) (g : Go (L2.start N vs) (slots n io ds) Hb H σ' ρ' Hb' H') (R' : Rel K Hb' H' σ' ρ') :
    GoF io vs Hb H Hb' H' ∧ IoR K Hb' H' io vs (outIo io ρ') ∧ (∀ a, Own σ' ρ' a → IoA io vs a ∨ H a = none) ∧ (∀ i a, io = some i → vs[i]? = some (.ref a) → σ'[i]? = some (some (.ref a)) ∧ ∃ s', ρ'[i]? = some (some s') ∧ s'.m.isIo = true) := by
  have keep : ∀ i a, io = some i → vs[i]? = some (.ref a) → σ'[i]? = some (some (.ref a)) ∧ ∃ s', ρ'[i]? = some (some s') ∧ s'.m.isIo = true := by
    intro i a c h
    have o := (slots_own (n := n) (N := N) A).mpr ⟨i, c, h⟩
    obtain ⟨j, s, h1, h2, h3⟩ := o
    obtain ⟨d, e1, e2⟩ := slots_get h1
    have cj : io = some j := by
      subst e2
      by_cases c : io = some j
      · exact c
      · rw [if_neg c] at h2; cases h2
    rw [c] at cj
    cases cj
    subst e2
    obtain ⟨k1, s', k2, k3⟩ := g.io i _ h1 (by rw [if_pos c]; rfl)
    exact ⟨k1.trans h3, s', k2, k3⟩
  have isOwn : ∀ {m : Md}, m.isIo = true → m.isOwn = true := fun {m} h => by cases m <;> simp_all [Md.isIo, Md.isOwn]
  have owned : ∀ i a, io = some i → vs[i]? = some (.ref a) → Hb' a = none ∧ ∃ ws xs, outIo io ρ' = .list xs ∧ H' a = some (.lst ws) ∧ RpAll K Hb' ws xs := by
    intro i a c h
    obtain ⟨k1, s', k2, k3⟩ := keep i a c h
    obtain ⟨b, ws, xs, q1, q2, q3, q4, q5⟩ := R'.own i s' k2 (isOwn k3)
    rw [k1] at q1
    cases q1
    refine ⟨q3, ws, xs, ?_, q4, q5⟩
    unfold outIo
    rw [c]
    dsimp only
    rw [k2]
    exact q2
  refine ⟨⟨g.b, R'.ex, fun a o h q => g.k a o h fun z => q ((slots_own A).mp z), fun a h1 h2 => ?_, g.t⟩, owned, fun a q => ?_, keep⟩
  · rcases g.f a h1 h2 with z | z
    · exact z
    · obtain ⟨i, c, h⟩ := (slots_own A).mp z
      exact absurd (owned i a c h).1 h2
  · rcases g.o a q with z | z
    · exact .inl ((slots_own A).mp z)
    · exact .inr z
end

/-! ### the promise over a stack without guards -/
structure FnG (P : Program) (w : World) (K : PySem.W.Frag) (mg : Str → Option Value) (base : Heap) (CX : CXT) (k : Nat) (f : Addr) (fd : FuncData) (ps : List Str) (sp : Sp) : Prop where
  len : ∀ vs H Q E, sp vs H Q E → vs.length = ps.length
  run : ∀ (A : Around) (outer : List Env) (s : Shared) (H : Hp) (args : Args) (us : List Value) (vs : List V) (Q : VK) (E : XK), Room k A → A.guards = some [] → Env0 P w K mg base A outer s H → BindsTo s fd args (ps.zip us) → Vals vs us → sp vs H Q E →
    codeAny (model P w) A (.call (.ref f) args) (CR CX outer P w H s Q E) s
theorem FnG.mono {P : Program} {w : World} {K : PySem.W.Frag} {mg : Str → Option Value} {base : Heap} {CX : CXT} {j k : Nat} {f : Addr} {fd : FuncData} {ps : List Str} {sp : Sp} (F : FnG P w K mg base CX j f fd ps sp) (h : j ≤ k) :
    FnG P w K mg base CX k f fd ps sp := ⟨F.len, fun A outer s H args us vs Q E hr => F.run A outer s H args us vs Q E (hr.mono h)⟩
theorem FnG.imp {P : Program} {w : World} {K : PySem.W.Frag} {mg : Str → Option Value} {base : Heap} {CX : CXT} {k : Nat} {f : Addr} {fd : FuncData} {ps : List Str} {sp sp' : Sp} (F : FnG P w K mg base CX k f fd ps sp)
    (h : ∀ vs H Q E, sp' vs H Q E → sp vs H Q E) : FnG P w K mg base CX k f fd ps sp' :=
  ⟨fun vs H Q E q => F.len vs H Q E (h _ _ _ _ q), fun A outer s H args us vs Q E hr hg he hb hv hs => F.run A outer s H args us vs Q E hr hg he hb hv (h _ _ _ _ hs)⟩
/-- from a body -/
theorem fng_of {P : Program} {w : World} {K : PySem.W.Frag} {mg : Str → Option Value} {base : Heap} {CX : CXT} {k : Nat} {f : Addr} {x qual : Str} {st : Stmt} {fd : FuncData} {N ps : List Str} {sp : Sp} (F : Fun K x qual st f fd) (S : FnScope N ps (defScope st))
    (len : ∀ vs H Q E, sp vs H Q E → vs.length = ps.length)
    (hbody : ∀ (cdv : Value) (A : Around) (outer : List Env) (s : Shared) (H : Hp) (vs : List V) (Q : VK) (E : XK), Room k (A.deeper (PyProof.Rows.envOfC qual (defScope st) s.heap.objs.size f cdv)) → A.guards = some [] → sp vs H Q E →
      ∃ t, PSs (cxOf CX P w K mg base N qual (defScope st) f cdv A outer s H E) (defBody st) t ∧ t { nx := fun _ H' => Q .non H', rt := Q } (L2.start N vs) H) :
    FnG P w K mg base CX (k + 1) f fd ps sp := by
  obtain ⟨oc, od, kV, doc, pm, an, cdv, ct, osl, rfl, lk, hcd⟩ := F.ex
  refine ⟨len, fun A outer s H args us vs Q E hr hgd e0 hb r hsp => ?_⟩
  have KX : K.In s.heap := e0.mod.kin.keeps fun b o e => (e0.bs b o e).1
  have lim : s.heap.NoLimit := e0.mod.nolimit.keeps fun b o e => (e0.bs b o e).1
  refine codeAny_call_function hr.depth (KX _ _ lk) rfl S.co S.gen rfl (PySem.W.codeRec_of KX hcd) (hb _ _ _ _ ?_)
  refine wpAny_newFunctionEnv_cells S.kind (fun ⟨y, v⟩ hy => ?_) fun env he s1 xx => ?_
  · rcases S.par y (List.of_mem_zip hy).1 with q | q
    · exact .inl q
    · exact .inr ⟨q, PySem.W.cellsFrom_some _ _ _ (.inl q)⟩
  subst he
  obtain ⟨t, ht, hq⟩ := hbody cdv A outer s H vs Q E (hr.deeper _) hgd hsp
  have I : L2.Inv (cxOf CX P w K mg base N qual (defScope st) f cdv A outer s H E) [] (L2.start N vs) H s1 := inv_start S hr.hd e0 (len _ _ _ _ hsp) r xx
  refine ⟨lim.keeps xx.toInCall.keep, codeAny_func (wpAny_mono (ht.run [] s1 (L2.start N vs) H _ I hq) (fun fl s' hs => ?_) fun e s' hs => hs)⟩
  cases fl with
  | ret u =>
    obtain ⟨v, σ', H', J, rv, q⟩ := hs
    exact ⟨v, H', J.os, J.bare, J.base, J.hok, rv, q⟩
  | next =>
    obtain ⟨σ', H', J, q⟩ := hs
    exact ⟨V.non, H', J.os, J.bare, J.base, J.hok, rfl, q⟩
  | brk =>
    obtain ⟨_, _, _, q⟩ := hs
    exact q.elim
  | cont =>
    obtain ⟨_, _, _, q⟩ := hs
    exact q.elim
/-- THE RULE for a def: its body does what the function tells -/
theorem def_ok {P : Program} {w : World} {K : PySem.W.Frag} {mg : Str → Option Value} {base : Heap} {k p n : Nat} {io : Option Nat} {f : Addr} {x qual : Str} {st : Stmt} {fd : FuncData} {N ps : List Str} {m : M Fl} (F : Fun K x qual st f fd) (S : FnScope N ps (defScope st))
    (hN : N.length = n) (hps : ps.length = p)
    (hbody : ∀ (cdv : Value) (A : Around) (outer : List Env) (s : Shared) (H : Hp) (E : XK), Room k (A.deeper (PyProof.Rows.envOfC qual (defScope st) s.heap.objs.size f cdv)) → A.guards = some [] →
      PSs (cxOf (L2.CX P w) P w K mg base N qual (defScope st) f cdv A outer s H E) (defBody st) (tS K mg E m)) :
    FnG P w K mg base (L2.CX P w) (k + 1) f fd ps (spF K mg p io (mkFn p n io m)) := by
  refine fng_of F S (fun vs H Q E h => h.1.trans hps.symm) fun cdv A outer s H vs Q E hr hg h => ⟨_, hbody cdv A outer s H E hr hg, ?_⟩
  obtain ⟨hl, Hb, ds, ex, AR, out, y, e, h1, h2⟩ := h
  unfold mkFn at e
  split at e
  · refine ⟨Hb, slots n io ds, slots_rel hN ex AR, ?_⟩
    split at e
    · rename_i ρ' eb
      cases e
      refine ⟨_, _, eb, fun fl q σ' Hb' H' g R' => ?_, fun x q => by cases q⟩
      cases q
      obtain ⟨gf, ior, _⟩ := go_fn AR g R'
      exact h1 _ rfl .non Hb' H' gf ior .non
    · rename_i r ρ' eb
      split at e
      · rename_i r' er
        cases e
        refine ⟨_, _, eb, fun fl q σ' Hb' H' g R' => ?_, fun x q => by cases q⟩
        cases q
        intro v rep
        obtain ⟨gf, ior, own, kp⟩ := go_fn AR g R'
        refine h1 _ rfl v Hb' H' gf ior ?_
        have slotF : ∀ {i : Nat} {md : Md} {xs : List D}, σ'[i]? = some (some v) → ρ'[i]? = some (some ⟨md, .list xs⟩) → md.isOwn = true → md.isIo = false → RR K Hb' H' H v (.fresh xs) := by
          intro i md xs hv hs ho hi
          obtain ⟨a, ws, xs', q1, q2, q3, q4, q5⟩ := R'.own i _ hs ho
          cases q2
          rw [hv] at q1
          cases q1
          refine ⟨a, ws, rfl, q3, q4, q5, ?_⟩
          rcases own a ⟨i, _, hs, ho, hv⟩ with ⟨j, c, hj⟩ | z
          · obtain ⟨z1, s', z2, z3⟩ := kp j a c hj
            have : s'.m.isOwn = true := by
              cases hm : s'.m <;> simp_all [Md.isIo, Md.isOwn]
            have e := R'.inj i j _ s' a hs z2 ho this hv z1
            subst e
            rw [hs] at z2
            cases z2
            rw [hi] at z3; cases z3
          · exact z
        unfold retR at er
        split at er
        · cases er; exact rep
        · cases er
          obtain ⟨a, ws, q1, q2, q3, q4, q5, _⟩ := rep
          exact ⟨a, ws, q1, q2, q3, q4, q5⟩
        · rename_i i
          have hv : σ'[i]? = some (some v) := rep
          split at er
          · rename_i d hs
            cases er
            obtain ⟨w', q1, q2⟩ := R'.val i _ hs rfl
            rw [hv] at q1
            cases q1
            exact q2
          · rename_i xs hs
            cases er
            exact slotF hv hs rfl rfl
          · rename_i xs hs
            cases er
            exact slotF hv hs rfl rfl
          · cases er
      · cases e
    · cases e
    · rename_i x ρ' eb
      cases e
      refine ⟨_, _, eb, fun fl q => (by cases q), fun x' q σ' c d Hb' H' g R' xr => ?_⟩
      cases q
      obtain ⟨gf, ior, _⟩ := go_fn AR g R'
      exact h2 _ rfl c d Hb' H' gf ior xr
    · cases e
  · cases e
end Mi

/-! Mi: calls of defs. -/
namespace Mi
open PySem L2 Evl PySem.Spec

def notSlot (j : Nat) : Res → Bool
  | .slot k => k != j
  | _ => true
def mayGive : Md → Bool
  | .own => true
  | .io => true
  | _ => false
/-- the slot whose list is handed to be changed -/
def callIo (io : Option Nat) (rs : List Res) (ρ : R) : Option (Option Nat) := match io with
  | none => some none
  | some i => match rs[i]? with
    | some (.slot j) => match ρ[j]? with
      | some (some s) => if mayGive s.m && (rs.eraseIdx i).all (notSlot j) then some (some j) else none
      | _ => none
    | _ => none
def putIo (oj : Option Nat) (y : D) (ρ : R) : R := match oj with
  | none => ρ
  | some j => match ρ[j]? with
    | some (some s) => ρ.set j (some ⟨s.m, y⟩)
    | _ => ρ
mutual
/-- without a list or a dict -/
def flatD : D → Bool
  | .none => true
  | .bool _ => true
  | .int _ => true
  | .str _ => true
  | .tuple xs => flatAll xs
  | .list _ => false
  | .dict _ => false
def flatAll : List D → Bool
  | [] => true
  | x :: xs => flatD x && flatAll xs
end
def flatY : D → Bool
  | .none => true
  | .list xs => flatAll xs
  | _ => false
/-- the lists that were handed on as they are: nobody's own from here on -/
def freezeBy (oj : Option Nat) : List Res → R → Option R
  | [], ρ => some ρ
  | .slot k :: rs, ρ => if oj = some k then freezeBy oj rs ρ else match ρ[k]? with
    | some (some ⟨.own, d⟩) => freezeBy oj rs (ρ.set k (some ⟨.val, d⟩))
    | some (some ⟨.val, _⟩) => freezeBy oj rs ρ
    | _ => none
  | _ :: rs, ρ => freezeBy oj rs ρ
def callF (F : Fn) (io : Option Nat) (rs : List Res) : M Res := fun ρ => match callIo io rs ρ, lookAll rs ρ with
  | some oj, some ds => match F ds with
    | some (.ok (.val d), y) => if flatD d && flatY y then some (.ok (.val d), putIo oj y ρ) else match freezeBy oj rs (putIo oj y ρ) with
      | some ρ' => some (.ok (.val d), ρ')
      | none => none
    | some (.ok (.fresh xs), y) => if flatAll xs && flatY y then some (.ok (.fresh xs), putIo oj y ρ) else match freezeBy oj rs (putIo oj y ρ) with
      | some ρ' => some (.ok (.fresh xs), ρ')
      | none => none
    | some (.exc e, y) => match freezeBy oj rs (putIo oj y ρ) with
      | some ρ' => some (.exc e, ρ')
      | none => none
    | _ => none
  | _, _ => none
def mFn (F : Fn) (io : Option Nat) (as : M (List Res)) : M Res := bnd as fun rs => callF F io rs

section
variable {K : PySem.W.Frag} {mg : Str → Option Value} {E : XK} {σ : L2.St} {Hb H Hb1 H1 Hb2 H2 : Hp} {ρ : R} {vs : List V} {rs : List Res} {ds : List D} {io oj : Option Nat} {y : D}
theorem repA_get : ∀ {vs : List V} {rs : List Res} {i : Nat} {r : Res}, RepA K Hb σ vs rs → rs[i]? = some r → ∃ v, vs[i]? = some v ∧ RepA K Hb σ [v] [r]
  | _, _, _, _, .nil, e => by simp at e
  | _, _, 0, _, .val a _, e => by simp at e; subst e; exact ⟨_, rfl, .val a .nil⟩
  | _, _, 0, _, .slot a _, e => by simp at e; subst e; exact ⟨_, rfl, .slot a .nil⟩
  | _, _, i + 1, _, .val _ b, e => by
    obtain ⟨v, h1, h2⟩ := repA_get (i := i) b (by simpa using e)
    exact ⟨v, by simpa using h1, h2⟩
  | _, _, i + 1, _, .slot _ b, e => by
    obtain ⟨v, h1, h2⟩ := repA_get (i := i) b (by simpa using e)
    exact ⟨v, by simpa using h1, h2⟩
theorem lookAll_get : ∀ {rs : List Res} {ds : List D} {i : Nat} {d : D}, lookAll rs ρ = some ds → ds[i]? = some d → ∃ r, rs[i]? = some r ∧ look r ρ = some d
  | [], _, _, _, e, h => by cases e; simp at h
  | r :: rs, ds, i, d, e, h => by
    unfold lookAll at e
    split at e
    · rename_i d' ds' h1 h2
      cases e
      cases i with
      | zero => simp at h; subst h; exact ⟨r, rfl, h1⟩
      | succ i =>
        obtain ⟨r', q1, q2⟩ := lookAll_get (i := i) h2 (by simpa using h)
        exact ⟨r', by simpa using q1, q2⟩
    · cases e
theorem lookAll_len : ∀ {rs : List Res} {ds : List D}, lookAll rs ρ = some ds → rs.length = ds.length
  | [], _, e => by cases e; rfl
  | r :: rs, ds, e => by
    unfold lookAll at e
    split at e
    · rename_i d' ds' h1 h2
      cases e
      rw [List.length_cons, List.length_cons, lookAll_len h2]
    · cases e
/-- an address of a list that is handed on as it is -/
def ByV (σ : L2.St) (ρ : R) (rs : List Res) (oj : Option Nat) (a : Addr) : Prop := ∃ k s, Res.slot k ∈ rs ∧ oj ≠ some k ∧ ρ[k]? = some (some s) ∧ s.m.isOwn = true ∧ σ[k]? = some (some (.ref a))
theorem mayGive_own {m : Md} (h : mayGive m = true) : m.isOwn = true := by cases m <;> simp_all [mayGive, Md.isOwn]
theorem call_prep (Rr : Rel K Hb H σ ρ) (rr : RepA K Hb σ vs rs) (hio : callIo io rs ρ = some oj) (hl : lookAll rs ρ = some ds) :
    ∃ Hb1, Ex Hb Hb1 ∧ Ex Hb1 H ∧ (∀ a, Hb a = none → Hb1 a ≠ none → ByV σ ρ rs oj a) ∧ (∀ a, ByV σ ρ rs oj a → Hb1 a = H a) ∧ ArgR K Hb1 H io vs ds ∧ (∀ a, IoA io vs a ↔ ∃ j, oj = some j ∧ σ[j]? = some (some (.ref a))) ∧
      (∀ j, oj = some j → ∃ s, ρ[j]? = some (some s) ∧ mayGive s.m = true) := by
  have ioF : ∀ i, io = some i → ∃ j s, oj = some j ∧ rs[i]? = some (.slot j) ∧ ρ[j]? = some (some s) ∧ mayGive s.m = true ∧ (rs.eraseIdx i).all (notSlot j) = true := by
    intro i hi
    unfold callIo at hio
    rw [hi] at hio
    dsimp only at hio
    split at hio
    · rename_i j hj
      split at hio
      · rename_i s hs
        split at hio
        · rename_i c
          cases hio
          rw [Bool.and_eq_true] at c
          exact ⟨j, s, rfl, hj, hs, c.1, c.2⟩
        · cases hio
      · cases hio
    · cases hio
  have ioN : io = none → oj = none := fun h => by
    unfold callIo at hio
    rw [h] at hio
    cases hio
    rfl
  classical
  have owned : ∀ a, ByV σ ρ rs oj a → Hb a = none ∧ ∃ ws, H a = some (.lst ws) := fun a ⟨k, s, _, _, h3, h4, h5⟩ => Rr.owned ⟨k, s, h3, h4, h5⟩
  refine ⟨fun a => if ByV σ ρ rs oj a then H a else Hb a, fun a o h => ?_, fun a o h => ?_, fun a h1 h2 => ?_, fun a h => if_pos h, ?_, ?_, ?_⟩
  · show (if ByV σ ρ rs oj a then H a else Hb a) = some o
    rw [if_neg]
    · exact h
    · intro z
      rw [(owned a z).1] at h; cases h
  · have h : (if ByV σ ρ rs oj a then H a else Hb a) = some o := h
    by_cases z : ByV σ ρ rs oj a
    · rw [if_pos z] at h; exact h
    · rw [if_neg z] at h; exact Rr.ex a o h
  · have h2 : (if ByV σ ρ rs oj a then H a else Hb a) ≠ none := h2
    by_cases z : ByV σ ρ rs oj a
    · exact z
    · rw [if_neg z] at h2; exact absurd h1 h2
  · have ex1 : Ex Hb (fun a => if ByV σ ρ rs oj a then H a else Hb a) := fun a o h => by
      show (if ByV σ ρ rs oj a then H a else Hb a) = some o
      rw [if_neg]
      · exact h
      · intro z
        rw [(owned a z).1] at h; cases h
    refine ⟨rr.length.trans (lookAll_len hl), fun i d hd hi => ?_, fun i hi => ?_⟩
    · obtain ⟨r, e1, e2⟩ := lookAll_get hl hd
      obtain ⟨v, e3, e4⟩ := repA_get rr e1
      refine ⟨v, e3, ?_⟩
      cases e4 with
      | val h _ =>
        cases e2
        exact h.mono ex1
      | @slot _ _ k _ h _ =>
        unfold look at e2
        dsimp only at e2
        split at e2
        · rename_i s hs
          cases e2
          cases q : s.m.isOwn with
          | false =>
            obtain ⟨v', q1, q2⟩ := Rr.val k s hs q
            rw [h] at q1; cases q1
            exact q2.mono ex1
          | true =>
            obtain ⟨a, ws, xs, q1, q2, q3, q4, q5⟩ := Rr.own k s hs q
            rw [h] at q1; cases q1
            have bv : ByV σ ρ rs oj a := by
              refine ⟨k, s, List.mem_of_getElem? e1, fun z => ?_, hs, q, h⟩
              cases hio' : io with
              | none => rw [ioN hio'] at z; cases z
              | some i0 =>
                obtain ⟨j, s', f1, f2, f3, f4, f5⟩ := ioF i0 hio'
                rw [f1] at z
                cases z
                have ne : i ≠ i0 := fun e => hi (by rw [hio', e])
                have := List.all_eq_true.mp f5 (.slot k) (List.mem_eraseIdx_iff_getElem?.mpr ⟨i, ne, e1⟩)
                simp [notSlot] at this
            rw [q2]
            refine .lst (SqL.of (xs := ws) ?_) (q5.mono ex1)
            show (if ByV σ ρ rs oj a then H a else Hb a) = _
            rw [if_pos bv]
            exact q4
        · cases e2
    · obtain ⟨j, s, f1, f2, f3, f4, f5⟩ := ioF i hi
      obtain ⟨v, e3, e4⟩ := repA_get rr f2
      obtain ⟨a, ws, xs, q1, q2, q3, q4, q5⟩ := Rr.own j s f3 (mayGive_own f4)
      have ev : v = .ref a := by
        cases e4 with
        | slot h _ => rw [q1] at h; cases h; rfl
      subst ev
      refine ⟨a, ws, xs, e3, ?_, ?_, q4, q5.mono ex1⟩
      · have hi' : i < ds.length := by
          rw [← lookAll_len hl]
          exact (List.getElem?_eq_some_iff.mp f2).1
        obtain ⟨r, g1, g2⟩ := lookAll_get hl (List.getElem?_eq_getElem hi')
        rw [f2] at g1
        cases g1
        unfold look at g2
        dsimp only at g2
        rw [f3] at g2
        dsimp only at g2
        rw [List.getElem?_eq_getElem hi', ← g2, q2]
      · show (if ByV σ ρ rs oj a then H a else Hb a) = none
        rw [if_neg]
        · exact q3
        · rintro ⟨k, s', h1, h2, h3, h4, h5⟩
          have := Rr.inj k j s' s a h3 f3 h4 (mayGive_own f4) h5 q1
          subst this
          exact h2 f1
  · intro a
    constructor
    · rintro ⟨i, hi, hv⟩
      obtain ⟨j, s, f1, f2, f3, f4, f5⟩ := ioF i hi
      obtain ⟨v, e3, e4⟩ := repA_get rr f2
      rw [hv] at e3
      cases e3
      cases e4 with
      | slot h _ => exact ⟨j, f1, h⟩
    · rintro ⟨j, hj, hv⟩
      cases hio' : io with
      | none => rw [ioN hio'] at hj; cases hj
      | some i =>
        obtain ⟨j', s, f1, f2, f3, f4, f5⟩ := ioF i hio'
        rw [f1] at hj
        cases hj
        obtain ⟨v, e3, e4⟩ := repA_get rr f2
        cases e4 with
        | slot h _ =>
          rw [hv] at h
          cases h
          exact ⟨i, rfl, e3⟩
  · intro j hj
    cases hio' : io with
    | none => rw [ioN hio'] at hj; cases hj
    | some i =>
      obtain ⟨j', s, f1, f2, f3, f4, f5⟩ := ioF i hio'
      rw [f1] at hj
      cases hj
      exact ⟨s, f3, f4⟩

/-! ### behind the call -/
theorem putIo_get {j : Nat} {s : Slot} (h : (putIo oj y ρ)[j]? = some (some s)) : (oj ≠ some j ∧ ρ[j]? = some (some s)) ∨ (oj = some j ∧ ∃ s0, ρ[j]? = some (some s0) ∧ s = ⟨s0.m, y⟩) := by
  unfold putIo at h
  cases hoj : oj with
  | none => rw [hoj] at h; exact .inl ⟨fun z => (nomatch z), h⟩
  | some k =>
    rw [hoj] at h
    dsimp only at h
    split at h
    · rename_i s0 hs0
      rcases get_set h with ⟨e, z⟩ | ⟨ne, z⟩
      · subst e
        cases z
        exact .inr ⟨rfl, s0, hs0, rfl⟩
      · exact .inl ⟨fun z' => ne (by cases z'; rfl), z⟩
    · rename_i hn
      refine .inl ⟨fun z => ?_, h⟩
      cases z
      exact hn s h
theorem putIo_of {j : Nat} {s : Slot} (h : ρ[j]? = some (some s)) : ∃ s', (putIo oj y ρ)[j]? = some (some s') ∧ s'.m = s.m := by
  unfold putIo
  cases oj with
  | none => exact ⟨s, h, rfl⟩
  | some k =>
    dsimp only
    split
    · rename_i s0 hs0
      by_cases e : j = k
      · subst e
        rw [h] at hs0
        cases hs0
        exact ⟨_, List.getElem?_set_self (List.getElem?_eq_some_iff.mp h).1, rfl⟩
      · exact ⟨s, by rw [List.getElem?_set_ne (Ne.symm e)]; exact h, rfl⟩
    · exact ⟨s, h, rfl⟩
theorem putIo_lk {j : Nat} {s : Slot} (hj : ∀ j, oj = some j → ∃ s, ρ[j]? = some (some s) ∧ mayGive s.m = true) (h : ρ[j]? = some (some s)) (hl : s.m.isLk = true) : (putIo oj y ρ)[j]? = some (some s) := by
  unfold putIo
  cases hoj : oj with
  | none => exact h
  | some k =>
    dsimp only
    split
    · rename_i s0 hs0
      have e : j ≠ k := fun e => by
        subst e
        obtain ⟨s1, z1, z2⟩ := hj j hoj
        rw [h] at z1
        cases z1
        cases hm : s.m <;> simp_all [Md.isLk, mayGive]
      rw [List.getElem?_set_ne (Ne.symm e)]; exact h
    · exact h
theorem putIo_len : (putIo oj y ρ).length = ρ.length := by
  unfold putIo
  cases oj with
  | none => rfl
  | some k =>
    dsimp only
    split
    · simp
    · rfl
/-- the state behind a call: Hb2 the frozen part (Hb, or what the callee left) -/
theorem call_state (Rr : Rel K Hb H σ ρ) (b : Ex Hb Hb2) (e2 : Ex Hb2 H2) (k : ∀ a o, H a = some o → ¬ (∃ j, oj = some j ∧ σ[j]? = some (some (.ref a))) → H2 a = some o) (t : ∀ a, H a ≠ none → H2 a ≠ none)
    (f : ∀ a, Hb a = none → Hb2 a ≠ none → H a = none ∨ ByV σ ρ rs oj a)
    (hj : ∀ j, oj = some j → ∃ s, ρ[j]? = some (some s) ∧ mayGive s.m = true)
    (hio : ∀ j a, oj = some j → σ[j]? = some (some (.ref a)) → Hb2 a = none ∧ ∃ ws xs, y = .list xs ∧ H2 a = some (.lst ws) ∧ RpAll K Hb2 ws xs)
    {ρ' : R} (len' : ρ'.length = ρ.length)
    (get' : ∀ (i : Nat) (s' : Slot), ρ'[i]? = some (some s') → (s'.m.isOwn = true ∧ (putIo oj y ρ)[i]? = some (some s') ∧ ∀ a, ByV σ ρ rs oj a → Hb2 a ≠ none → σ[i]? ≠ some (some (.ref a))) ∨ (s'.m.isOwn = false ∧ ∃ s, ρ[i]? = some (some s) ∧ s.d = s'.d ∧ (s.m.isOwn = true → ∃ a ws xs, σ[i]? = some (some (.ref a)) ∧ s.d = .list xs ∧ Hb2 a = some (.lst ws) ∧ RpAll K Hb2 ws xs)))
    (iok : ∀ (i : Nat) (s : Slot), ρ[i]? = some (some s) → s.m.isIo = true → ∃ s', ρ'[i]? = some (some s') ∧ s'.m.isIo = true)
    (lkk : ∀ (i : Nat) (s : Slot), ρ[i]? = some (some s) → s.m.isLk = true → ρ'[i]? = some (some s)) :
    Go σ ρ Hb H σ ρ' Hb2 H2 ∧ Rel K Hb2 H2 σ ρ' := by
  have ownOf : ∀ a, Own σ ρ' a → Own σ ρ a := fun a ⟨i, s', h1, h2, h3⟩ => by
    rcases get' i s' h1 with ⟨_, p, _⟩ | ⟨q, _⟩
    · rcases putIo_get p with ⟨_, z⟩ | ⟨_, s0, z, e⟩
      · exact ⟨i, s', z, h2, h3⟩
      · subst e
        exact ⟨i, s0, z, h2, h3⟩
    · rw [q] at h2; cases h2
  have bvOwn : ∀ a, ByV σ ρ rs oj a → Own σ ρ a := fun a ⟨k, s, _, _, h3, h4, h5⟩ => ⟨k, s, h3, h4, h5⟩
  have ioOwn : ∀ a, (∃ j, oj = some j ∧ σ[j]? = some (some (.ref a))) → Own σ ρ a := fun a ⟨j, h1, h2⟩ => by
    obtain ⟨s, h3, h4⟩ := hj j h1
    exact ⟨j, s, h3, mayGive_own h4, h2⟩
  refine ⟨⟨b, fun a o h n => k a o h fun z => n (ioOwn a z), fun a h1 h2 => (f a h1 h2).imp id (bvOwn a), t, fun a h => .inl (ownOf a h), fun i s h1 h2 => ⟨rfl, iok i s h1 h2⟩, fun i s h1 h2 => ⟨rfl, lkk i s h1 h2⟩⟩, ⟨by rw [len']; exact Rr.len, e2, fun i s' h1 h2 => ?_, fun i s' h1 h2 => ?_, fun i j s t a h1 h2 h3 h4 h5 h6 => ?_⟩⟩
  · rcases get' i s' h1 with ⟨q, _⟩ | ⟨_, s, z, ed, zo⟩
    · rw [q] at h2; cases h2
    · cases qo : s.m.isOwn with
      | false =>
        obtain ⟨v, q1, q2⟩ := Rr.val i s z qo
        rw [← ed]
        exact ⟨v, q1, q2.mono b⟩
      | true =>
        obtain ⟨a, ws, xs, q1, q2, q3, q4⟩ := zo qo
        rw [← ed, q2]
        exact ⟨.ref a, q1, .lst (SqL.of q3) q4⟩
  · rcases get' i s' h1 with ⟨_, p, nb⟩ | ⟨q, _⟩
    · rcases putIo_get p with ⟨nj, z⟩ | ⟨ej, s0, z, e⟩
      · obtain ⟨a, ws, xs, q1, q2, q3, q4, q5⟩ := Rr.own i s' z h2
        have n1 : ¬ ∃ j, oj = some j ∧ σ[j]? = some (some (.ref a)) := fun ⟨j, z1, z2⟩ => by
          obtain ⟨s, z3, z4⟩ := hj j z1
          have := Rr.inj i j s' s a z z3 h2 (mayGive_own z4) q1 z2
          subst this
          exact nj z1
        refine ⟨a, ws, xs, q1, q2, ?_, k a _ q4 n1, q5.mono b⟩
        refine Classical.byContradiction fun q => ?_
        rcases f a q3 q with w | w
        · rw [q4] at w; cases w
        · exact nb a w q q1
      · subst e
        obtain ⟨a, ws, xs, q1, q2, q3, q4, q5⟩ := Rr.own i s0 z h2
        obtain ⟨w1, us, zs, w2, w3, w4⟩ := hio i a ej q1
        exact ⟨a, us, zs, q1, w2, w1, w3, w4⟩
    · rw [q] at h2; cases h2
  · have g : ∀ (i : Nat) (s' : Slot), ρ'[i]? = some (some s') → s'.m.isOwn = true → ∃ s, ρ[i]? = some (some s) ∧ s.m.isOwn = true := fun i s' h1 h2 => by
      rcases get' i s' h1 with ⟨_, p, _⟩ | ⟨q, _⟩
      · rcases putIo_get p with ⟨_, z⟩ | ⟨_, s0, z, e⟩
        · exact ⟨s', z, h2⟩
        · subst e
          exact ⟨s0, z, h2⟩
      · rw [q] at h2; cases h2
    obtain ⟨s1, z1, z2⟩ := g i s h1 h3
    obtain ⟨s2, z3, z4⟩ := g j t h2 h4
    exact Rr.inj i j s1 s2 a z1 z3 z2 z4 h5 h6
end
end Mi

/-! Mi: calls of defs, as expressions. -/
namespace Mi
open PySem L2 Evl PySem.Spec

section
variable {K : PySem.W.Frag} {mg : Str → Option Value} {E : XK} {σ : L2.St} {Hb H Hb1 H1 Hb2 H2 : Hp} {ρ : R} {vs : List V} {rs : List Res} {ds : List D} {io oj : Option Nat} {y : D}
theorem freezeBy_get : ∀ {rs : List Res} {ρ ρ' : R}, freezeBy oj rs ρ = some ρ' → ρ'.length = ρ.length ∧
    (∀ (i : Nat) (s' : Slot), ρ'[i]? = some (some s') → (ρ[i]? = some (some s') ∧ (s'.m.isOwn = true → ∀ k, Res.slot k ∈ rs → oj ≠ some k → k ≠ i)) ∨ (s'.m = .val ∧ ρ[i]? = some (some ⟨.own, s'.d⟩) ∧ Res.slot i ∈ rs ∧ oj ≠ some i)) ∧
    (∀ (i : Nat) (s : Slot), ρ[i]? = some (some s) → s.m.isIo = true ∨ s.m.isLk = true → ρ'[i]? = some (some s))
  | [], ρ, ρ', e => by
    cases e
    exact ⟨rfl, fun i s' h => .inl ⟨h, fun _ k hk => by cases hk⟩, fun i s h _ => h⟩
  | .val d :: rs, ρ, ρ', e => by
    have e : freezeBy oj rs ρ = some ρ' := e
    obtain ⟨l, g, o⟩ := freezeBy_get e
    refine ⟨l, fun i s' h => ?_, o⟩
    rcases g i s' h with ⟨h1, h2⟩ | ⟨h1, h2, h3, h4⟩
    · exact .inl ⟨h1, fun q k hk ho => h2 q k (by cases hk with | tail _ z => exact z) ho⟩
    · exact .inr ⟨h1, h2, List.mem_cons_of_mem _ h3, h4⟩
  | .fresh d :: rs, ρ, ρ', e => by
    have e : freezeBy oj rs ρ = some ρ' := e
    obtain ⟨l, g, o⟩ := freezeBy_get e
    refine ⟨l, fun i s' h => ?_, o⟩
    rcases g i s' h with ⟨h1, h2⟩ | ⟨h1, h2, h3, h4⟩
    · exact .inl ⟨h1, fun q k hk ho => h2 q k (by cases hk with | tail _ z => exact z) ho⟩
    · exact .inr ⟨h1, h2, List.mem_cons_of_mem _ h3, h4⟩
  | .slot k :: rs, ρ, ρ', e => by
    unfold freezeBy at e
    split at e
    · rename_i c
      obtain ⟨l, g, o⟩ := freezeBy_get e
      refine ⟨l, fun i s' h => ?_, o⟩
      rcases g i s' h with ⟨h1, h2⟩ | ⟨h1, h2, h3, h4⟩
      · refine .inl ⟨h1, fun q k' hk ho => ?_⟩
        rcases List.mem_cons.mp hk with z | z
        · cases z; exact absurd c ho
        · exact h2 q k' z ho
      · exact .inr ⟨h1, h2, List.mem_cons_of_mem _ h3, h4⟩
    · rename_i c
      split at e
      · rename_i d hd
        obtain ⟨l, g, o⟩ := freezeBy_get e
        refine ⟨by rw [l]; simp, fun i s' h => ?_, fun i s h1 h2 => ?_⟩
        · rcases g i s' h with ⟨h1, h2⟩ | ⟨h1, h2, h3, h4⟩
          · rcases get_set h1 with ⟨e1, z⟩ | ⟨ne, z⟩
            · subst e1
              cases z
              exact .inr ⟨rfl, hd, List.mem_cons_self, c⟩
            · refine .inl ⟨z, fun q k' hk ho => ?_⟩
              rcases List.mem_cons.mp hk with w | w
              · cases w; exact Ne.symm ne
              · exact h2 q k' w ho
          · rcases get_set h2 with ⟨e1, z⟩ | ⟨ne, z⟩
            · cases z
            · exact .inr ⟨h1, z, List.mem_cons_of_mem _ h3, h4⟩
        · have ne : i ≠ k := fun e1 => by
            subst e1
            rw [hd] at h1; cases h1; rcases h2 with h2 | h2 <;> cases h2
          exact o i s (by rw [List.getElem?_set_ne (Ne.symm ne)]; exact h1) h2
      · rename_i d hd
        obtain ⟨l, g, o⟩ := freezeBy_get e
        refine ⟨l, fun i s' h => ?_, o⟩
        rcases g i s' h with ⟨h1, h2⟩ | ⟨h1, h2, h3, h4⟩
        · refine .inl ⟨h1, fun q k' hk ho => ?_⟩
          rcases List.mem_cons.mp hk with w | w
          · cases w
            intro e1
            subst e1
            rw [hd] at h1; cases h1; cases q
          · exact h2 q k' w ho
        · exact .inr ⟨h1, h2, List.mem_cons_of_mem _ h3, h4⟩
      · cases e
mutual
theorem flat_rp {p : Addr → Prop} (hp : ∀ a, p a → ∃ ws, Hb a = some (.lst ws)) (hb : ∀ a, ¬ p a → Hb2 a = Hb a) : ∀ {v : V} {d : D}, Rp K Hb v d → flatD d = true → Rp K Hb2 v d
  | _, _, .non, _ => .non
  | _, _, .bl b, _ => .bl b
  | _, _, .int i, _ => .int i
  | _, _, .str x, _ => .str x
  | _, _, .lst _ _, f => by simp [flatD] at f
  | _, _, .dct _ _, f => by simp [flatD] at f
  | _, _, .tup (a := a) sq r, f => by
    simp only [flatD] at f
    refine .tup ?_ (flat_rpAll hp hb r f)
    rcases sq with (h | ⟨o, h⟩) | h
    · refine .inl (.inl ?_)
      rw [hb a fun z => by
        obtain ⟨ws, q⟩ := hp a z
        rw [h] at q; cases q]
      exact h
    · refine .inl (.inr ⟨o, ?_⟩)
      rw [hb a fun z => by
        obtain ⟨ws, q⟩ := hp a z
        rw [h] at q; cases q]
      exact h
    · exact .inr h
theorem flat_rpAll {p : Addr → Prop} (hp : ∀ a, p a → ∃ ws, Hb a = some (.lst ws)) (hb : ∀ a, ¬ p a → Hb2 a = Hb a) : ∀ {vs : List V} {ds : List D}, RpAll K Hb vs ds → flatAll ds = true → RpAll K Hb2 vs ds
  | _, _, .nil, _ => .nil
  | _, _, .cons a b, f => by
    simp only [flatAll, Bool.and_eq_true] at f
    exact .cons (flat_rp hp hb a f.1) (flat_rpAll hp hb b f.2)
end
open Classical in
/-- what is frozen behind a call that keeps nothing: all but the lists that were shown -/
noncomputable def lent (σ : L2.St) (ρ : R) (rs : List Res) (oj : Option Nat) (Hb : Hp) : Hp := fun a => if ByV σ ρ rs oj a then none else Hb a
/-- the call: what the callee promises, from what the caller's function tells -/
theorem call_run {F : Fn} {n : Nat} {Q : VK} {H0 : Hp} (Rr : Rel K Hb H σ ρ) (rr : RepA K Hb σ vs rs) (hl : vs.length = n) (t : ∀ a, H0 a ≠ none → H a ≠ none)
    (S : Sat K mg E σ Hb H ρ (callF F io rs) fun r σ' ρ' Hb' H' => σ' = σ → ∀ v, RepR K Hb' H' σ ρ' H0 v r → Q v H') : spF K mg n io F vs H Q E := by
  obtain ⟨out, ρ', e, h1, h2⟩ := S
  unfold callF at e
  split at e
  · rename_i oj ds hio hlk
    obtain ⟨Hb1, b1, b2, b3, b4, AR, ioA, ioS⟩ := call_prep Rr rr hio hlk
    refine ⟨hl, Hb1, ds, b2, AR, ?_⟩
    -- the state behind, frozen
    have frz : ∀ {y : D} {ρ2 : R} {Hb' H' : Hp}, freezeBy oj rs (putIo oj y ρ) = some ρ2 → GoF io vs Hb1 H Hb' H' → IoR K Hb' H' io vs y → Go σ ρ Hb H σ ρ2 Hb' H' ∧ Rel K Hb' H' σ ρ2 := by
      intro y ρ2 Hb' H' ef gf ior
      obtain ⟨fl, fg, fo⟩ := freezeBy_get ef
      refine call_state (rs := rs) (oj := oj) (y := y) Rr (b1.trans gf.b) gf.e (fun a o h n => gf.k a o h fun z => n ((ioA a).mp z)) gf.t (fun a q1 q2 => ?_) ioS (fun j a hj hv => ?_) (by rw [fl, putIo_len]) (fun i s' q => ?_) (fun i s q1 q2 => ?_) (fun i s q1 q2 => ?_)
      · by_cases c : Hb1 a = none
        · exact .inl (gf.f a c q2)
        · exact .inr (b3 a q1 c)
      · obtain ⟨i, c1, c2⟩ := (ioA a).mpr ⟨j, hj, hv⟩
        exact ior i a c1 c2
      · rcases fg i s' q with ⟨g1, g2⟩ | ⟨g1, g2, g3, g4⟩
        · cases qo : s'.m.isOwn with
          | true =>
            refine .inl ⟨rfl, g1, fun a bv hn hv => ?_⟩
            obtain ⟨k, s, k1, k2, k3, k4, k5⟩ := bv
            have : ∃ s0, ρ[i]? = some (some s0) ∧ s0.m.isOwn = true := by
              rcases putIo_get g1 with ⟨_, z⟩ | ⟨_, s0, z, e0⟩
              · exact ⟨s', z, qo⟩
              · subst e0; exact ⟨s0, z, qo⟩
            obtain ⟨s0, z1, z2⟩ := this
            exact g2 qo k k1 k2 (Rr.inj k i s s0 a k3 z1 k4 z2 k5 hv)
          | false =>
            refine .inr ⟨rfl, ?_⟩
            rcases putIo_get g1 with ⟨_, z⟩ | ⟨ej, s0, z, e0⟩
            · exact ⟨s', z, rfl, fun w => by rw [qo] at w; cases w⟩
            · subst e0
              obtain ⟨s1, w1, w2⟩ := ioS i ej
              rw [z] at w1
              cases w1
              have qo : s0.m.isOwn = false := qo
              rw [mayGive_own w2] at qo; cases qo
        · refine .inr ⟨by rw [g1]; rfl, ?_⟩
          rcases putIo_get g2 with ⟨_, z⟩ | ⟨ej, _⟩
          · refine ⟨_, z, rfl, fun _ => ?_⟩
            obtain ⟨a, ws, xs, w1, w2, w3, w4, w5⟩ := Rr.own i _ z rfl
            refine ⟨a, ws, xs, w1, w2, gf.b a _ ?_, (w5.mono b1).mono gf.b⟩
            rw [b4 a ⟨i, _, g3, g4, z, rfl, w1⟩]
            exact w4
          · exact absurd ej g4
      · obtain ⟨s', w1, w2⟩ := putIo_of (oj := oj) (y := y) q1
        exact ⟨s', fo i s' w1 (.inl (by rw [w2]; exact q2)), by rw [w2]; exact q2⟩
      · exact fo i s (putIo_lk ioS q1 q2) (.inr q2)
    -- the state behind, nothing kept
    have lst1 : ∀ {Hb' H' : Hp}, GoF io vs Hb1 H Hb' H' → ∀ a, ByV σ ρ rs oj a → ∃ ws, Hb' a = some (.lst ws) := fun {Hb' H'} gf a bv => by
      obtain ⟨k, s, k1, k2, k3, k4, k5⟩ := bv
      obtain ⟨a', ws, xs, w1, w2, w3, w4, w5⟩ := Rr.own k s k3 k4
      rw [k5] at w1
      cases w1
      exact ⟨ws, gf.b a _ (by rw [b4 a ⟨k, s, k1, k2, k3, k4, k5⟩]; exact w4)⟩
    have lent1 : ∀ (Hb' : Hp) (a : Addr), ¬ ByV σ ρ rs oj a → lent σ ρ rs oj Hb' a = Hb' a := fun Hb' a h => if_neg h
    have lent0 : ∀ (Hb' : Hp) (a : Addr), ByV σ ρ rs oj a → lent σ ρ rs oj Hb' a = none := fun Hb' a h => if_pos h
    have lentS : ∀ (Hb' : Hp) (a : Addr) (o : HO), lent σ ρ rs oj Hb' a = some o → Hb' a = some o ∧ ¬ ByV σ ρ rs oj a := fun Hb' a o h => by
      by_cases c : ByV σ ρ rs oj a
      · rw [lent0 Hb' a c] at h; cases h
      · rw [lent1 Hb' a c] at h; exact ⟨h, c⟩
    have bor : ∀ {y : D} {Hb' H' : Hp}, flatY y = true → GoF io vs Hb1 H Hb' H' → IoR K Hb' H' io vs y → Go σ ρ Hb H σ (putIo oj y ρ) (lent σ ρ rs oj Hb') H' ∧ Rel K (lent σ ρ rs oj Hb') H' σ (putIo oj y ρ) := by
      intro y Hb' H' fy gf ior
      have bvOwn : ∀ a, ByV σ ρ rs oj a → Hb a = none := fun a ⟨k, s, k1, k2, k3, k4, k5⟩ => (Rr.owned ⟨k, s, k3, k4, k5⟩).1
      refine call_state (rs := rs) (oj := oj) (y := y) Rr (fun a o h => ?_) (fun a o h => gf.e a o (lentS Hb' a o h).1) (fun a o h n => gf.k a o h fun z => n ((ioA a).mp z)) gf.t (fun a q1 q2 => ?_) ioS (fun j a hj hv => ?_) putIo_len (fun i s' q => ?_) (fun i s q1 q2 => ?_) (fun i s q1 q2 => ?_)
      · rw [lent1 Hb' a fun z => by rw [bvOwn a z] at h; cases h]
        exact gf.b a o (b1 a o h)
      · by_cases c : Hb1 a = none
        · refine .inl (gf.f a c fun z => ?_)
          by_cases bv : ByV σ ρ rs oj a
          · exact q2 (lent0 Hb' a bv)
          · exact q2 (by rw [lent1 Hb' a bv]; exact z)
        · exact .inr (b3 a q1 c)
      · obtain ⟨i, c1, c2⟩ := (ioA a).mpr ⟨j, hj, hv⟩
        obtain ⟨z1, ws, xs, z2, z3, z4⟩ := ior i a c1 c2
        refine ⟨?_, ws, xs, z2, z3, flat_rpAll (lst1 gf) (lent1 Hb') z4 (by rw [z2] at fy; exact fy)⟩
        by_cases bv : ByV σ ρ rs oj a
        · exact lent0 Hb' a bv
        · rw [lent1 Hb' a bv]; exact z1
      · cases qo : s'.m.isOwn with
        | true =>
          refine .inl ⟨rfl, q, fun a bv hn => absurd (lent0 Hb' a bv) hn⟩
        | false =>
          refine .inr ⟨rfl, ?_⟩
          rcases putIo_get q with ⟨_, z⟩ | ⟨ej, s0, z, e0⟩
          · exact ⟨s', z, rfl, fun w => by rw [qo] at w; cases w⟩
          · subst e0
            obtain ⟨s1, w1, w2⟩ := ioS i ej
            rw [z] at w1
            cases w1
            have qo : s0.m.isOwn = false := qo
            rw [mayGive_own w2] at qo; cases qo
      · obtain ⟨s', w1, w2⟩ := putIo_of (oj := oj) (y := y) q1
        exact ⟨s', w1, by rw [w2]; exact q2⟩
      · exact putIo_lk ioS q1 q2
    split at e
    · rename_i d y hF
      refine ⟨_, y, hF, fun r q v Hb' H' gf ior rep => ?_, fun x q => by cases q⟩
      cases q
      split at e
      · rename_i c
        rw [Bool.and_eq_true] at c
        cases e
        obtain ⟨g, R'⟩ := bor c.2 gf ior
        exact h1 _ rfl σ _ _ g R' rfl v (flat_rp (lst1 gf) (lent1 Hb') rep c.1)
      · split at e
        · rename_i ρ2 ef
          cases e
          obtain ⟨g, R'⟩ := frz ef gf ior
          exact h1 _ rfl σ _ _ g R' rfl v rep
        · cases e
    · rename_i xs y hF
      refine ⟨_, y, hF, fun r q v Hb' H' gf ior rep => ?_, fun x q => by cases q⟩
      cases q
      obtain ⟨a, ws, q1, q2, q3, q4, q5⟩ := rep
      have notOwn : ∀ {ρ2 : R}, (∀ (i : Nat) (s' : Slot), ρ2[i]? = some (some s') → s'.m.isOwn = true → (putIo oj y ρ)[i]? = some (some s')) → ¬ Own σ ρ2 a := fun {ρ2} get ⟨i, s', z1, z2, z3⟩ => by
        rcases putIo_get (get i s' z1 z2) with ⟨_, z4⟩ | ⟨_, s0, z4, e0⟩
        · obtain ⟨_, us, w⟩ := Rr.owned ⟨i, s', z4, z2, z3⟩
          rw [q5] at w; cases w
        · subst e0
          obtain ⟨_, us, w⟩ := Rr.owned ⟨i, s0, z4, z2, z3⟩
          rw [q5] at w; cases w
      split at e
      · rename_i c
        rw [Bool.and_eq_true] at c
        cases e
        obtain ⟨g, R'⟩ := bor c.2 gf ior
        have q2' : lent σ ρ rs oj Hb' a = none := by
          by_cases bv : ByV σ ρ rs oj a
          · exact lent0 Hb' a bv
          · rw [lent1 Hb' a bv]; exact q2
        exact h1 _ rfl σ _ _ g R' rfl v ⟨a, ws, q1, q2', q3, flat_rpAll (lst1 gf) (lent1 Hb') q4 c.1, Classical.byContradiction fun z => t a z q5, notOwn fun i s' z _ => z⟩
      · split at e
        · rename_i ρ2 ef
          cases e
          obtain ⟨g, R'⟩ := frz ef gf ior
          obtain ⟨fl, fg, fo⟩ := freezeBy_get ef
          refine h1 _ rfl σ _ _ g R' rfl v ⟨a, ws, q1, q2, q3, q4, Classical.byContradiction fun z => t a z q5, notOwn fun i s' z ho => ?_⟩
          rcases fg i s' z with ⟨g1, _⟩ | ⟨g1, _⟩
          · exact g1
          · rw [g1] at ho; cases ho
        · cases e
    · rename_i x y hF
      refine ⟨_, y, hF, fun r q => (by cases q), fun x' q c d Hb' H' gf ior xr => ?_⟩
      cases q
      split at e
      · rename_i ρ2 ef
        cases e
        obtain ⟨g, R'⟩ := frz ef gf ior
        exact h2 _ rfl σ c d _ _ g R' xr
      · cases e
    · cases e
  · cases e
end

/-! ### how arguments come to parameters -/
def gath {α : Type} (ix : List Nat) (xs : List α) : List α := ix.filterMap fun i => xs[i]?
theorem gath_rep {K : PySem.W.Frag} {Hb : Hp} {σ : L2.St} {vs : List V} {rs : List Res} (h : RepA K Hb σ vs rs) : ∀ ix : List Nat, RepA K Hb σ (gath ix vs) (gath ix rs)
  | [] => .nil
  | i :: ix => by
    unfold gath
    rw [List.filterMap_cons, List.filterMap_cons]
    cases q : rs[i]? with
    | none =>
      have : vs[i]? = none := by
        rw [List.getElem?_eq_none_iff] at q ⊢
        rw [h.length]; exact q
      rw [this]
      exact gath_rep h ix
    | some r =>
      obtain ⟨v, e1, e2⟩ := repA_get h q
      rw [e1]
      exact e2.append (gath_rep h ix)
theorem gath_vals {vs : List V} {us : List Value} (h : Vals vs us) : ∀ ix : List Nat, Vals (gath ix vs) (gath ix us)
  | [] => .nil
  | i :: ix => by
    unfold gath
    rw [List.filterMap_cons, List.filterMap_cons]
    cases q : vs[i]? with
    | none =>
      rw [h.none_of q]
      exact gath_vals h ix
    | some r =>
      obtain ⟨v, e1, e2⟩ := h.get q
      rw [e1]
      exact .cons e2 (gath_vals h ix)
/-- n positional arguments, keywords ks, then the defaults' values; ix: where each parameter's value stands in that row -/
structure BindsX (K : PySem.W.Frag) (fd : FuncData) (ps : List Str) (n : Nat) (ks : List Str) (dvs : List V) (ds : List Value) (ix : List Nat) : Prop where
  to : ∀ (s : Shared) (us ws : List Value), K.In s.heap → us.length = n → ws.length = ks.length → BindsTo s fd ⟨us, ks.zip ws⟩ (ps.zip (gath ix (us ++ ws ++ ds)))
  vals : Vals dvs ds
section
variable {X : Cx} {CX : CXT} {k n : Nat} {f : Addr} {fd : FuncData} {ps ks : List Str} {sp : Sp} {dvs : List V} {dvals : List Value} {ix : List Nat} {E : XK} {x : Str} {p pos : Pos} {e : Expr} {es : List Expr} {kws : List Keyword} {t tk : TA}
def tCallX (sp : Sp) (n m : Nat) (dvs : List V) (ix : List Nat) (E : XK) (t tk : TA) : TE := fun σ H Q => t σ H fun vs H1 => tk σ H1 fun zs H2 => vs.length = n ∧ zs.length = m ∧ sp (gath ix (vs ++ zs ++ dvs)) H2 Q E
theorem run_fnX {pins : List (Addr × Obj)} {σ : L2.St} {H : Hp} {s : Shared} {Q : VK} {us ws : List Value} {vs zs : List V} (F : FnG X.prog X.w X.K X.mg X.base CX k f fd ps sp) (hr : Room k X.A) (hgd : X.A.guards = some []) (hb : BindsX X.K fd ps n ks dvs dvals ix) (hx : Passes CX X E)
    (I : L2.Inv X pins σ H s) (r : Vals vs us) (rz : Vals zs ws) (l1 : vs.length = n) (l2 : zs.length = ks.length) (h : sp (gath ix (vs ++ zs ++ dvs)) H Q E) : wpAny (model X.prog X.w) X.A (call (.ref f) us (ks.zip ws)) (EP X pins σ Q) X.xe s := by
  have r2 := gath_vals ((r.append rz).append hb.vals) ix
  refine wpAny_call (codeAny_mono (F.run X.A X.stack s H ⟨us, ks.zip ws⟩ _ _ Q E hr hgd I.env0 (hb.to s us ws I.kIn (r.length.symm.trans l1) (rz.length.symm.trans l2)) r2 h) fun r s' hq => ?_)
  cases r with
  | error e => exact hx pins σ H s e s' I hq
  | ok fl =>
    cases fl with
    | ret u => exact I.after hq
    | next => exact hq.elim
    | brk => exact hq.elim
    | cont => exact hq.elim
/-- f(a, ..) -/
theorem pe_callX (F : FnG X.prog X.w X.K X.mg X.base CX k f fd ps sp) (hr : Room k X.A) (hgd : X.A.guards = some []) (hg : Gl X x) (hm : X.mg x = some (.ref f)) (hk : PySem.W.keepIn X.K (.ref f) = true) (hb : BindsX X.K fd ps n [] dvs dvals ix) (hx : Passes CX X E)
    (ha : PA X (e :: es) t) (hdb : (x == ("__debug__" : Str)) = false := by decide) (he : starEach (e :: es) X.env = (false, eval e X.env) :: starEach es X.env := by rfl) (hpl : (backTo pos (starEach es X.env)).any (·.1) = false := by rfl) :
    PE X (.Call (.Name x p) (e :: es) [] pos) (tCallX sp n 0 dvs ix E t tNil) := by
  refine ⟨fun pins s σ H Q I h => ?_⟩
  refine wpAny_Call_Name_kw (ld_glob I hg hm ?_ hdb)
  refine PySem.W.callWith_K (h₀ := X.base) I.ok.mod.kin hk (thn (ha.run pos pins s σ H _ I h) fun us s1 ⟨vs, H1, I1, r, q⟩ => ⟨I1.kIn, ?_⟩) he hpl
  obtain ⟨q1, _, q2⟩ := q
  exact run_fnX (ws := []) (zs := []) F hr hgd hb hx I1 r .nil q1 rfl q2
/-- f() -/
theorem pe_callX0 (F : FnG X.prog X.w X.K X.mg X.base CX k f fd ps sp) (hr : Room k X.A) (hgd : X.A.guards = some []) (hg : Gl X x) (hm : X.mg x = some (.ref f)) (hk : PySem.W.keepIn X.K (.ref f) = true) (hb : BindsX X.K fd ps n [] dvs dvals ix) (hx : Passes CX X E)
    (hdb : (x == ("__debug__" : Str)) = false := by decide) : PE X (.Call (.Name x p) [] [] pos) (tCallX sp n 0 dvs ix E tNil tNil) := by
  refine ⟨fun pins s σ H Q I h => ?_⟩
  refine wpAny_Call_Name_kw (ld_glob I hg hm ?_ hdb)
  obtain ⟨q1, _, q2⟩ := h
  exact PySem.W.callWith_K0 I.kIn hk (run_fnX (us := []) (ws := []) (vs := []) (zs := []) F hr hgd hb hx I .nil .nil q1 rfl q2)
/-- f(a, .., k = b, ..) -/
theorem pe_callXK (F : FnG X.prog X.w X.K X.mg X.base CX k f fd ps sp) (hr : Room k X.A) (hgd : X.A.guards = some []) (hg : Gl X x) (hm : X.mg x = some (.ref f)) (hk : PySem.W.keepIn X.K (.ref f) = true) (hb : BindsX X.K fd ps n ks dvs dvals ix) (hx : Passes CX X E)
    (ha : PA X (e :: es) t) (hkw : PK X kws tk) (hall : (backToKw pos (keywordEach kws X.env)).all (·.1.isSome) = true := by rfl) (hks : (backToKw pos (keywordEach kws X.env)).filterMap (·.1) = ks := by rfl)
    (hdb : (x == ("__debug__" : Str)) = false := by decide) (he : starEach (e :: es) X.env = (false, eval e X.env) :: starEach es X.env := by rfl)
    (hpl : ((backTo pos (starEach (e :: es) X.env)).any (·.1) || (backToKw pos (keywordEach kws X.env)).any (·.1.isNone)) = false := by rfl) :
    PE X (.Call (.Name x p) (e :: es) kws pos) (tCallX sp n ks.length dvs ix E t tk) := by
  refine ⟨fun pins s σ H Q I h => ?_⟩
  refine wpAny_Call_Name_kw (ld_glob I hg hm ?_ hdb)
  refine PySem.W.callWith_KW (h₀ := X.base) I.ok.mod.kin hk hall (thn (ha.run pos pins s σ H _ I h) fun us s1 ⟨vs, H1, I1, r, q⟩ => ?_) hpl he
  refine thn (hkw.run pos pins s1 σ H1 _ I1 q) fun ws s2 ⟨zs, H2, I2, rz, l1, l2, q2⟩ => ⟨I2.kIn, ?_⟩
  rw [hks]
  exact run_fnX F hr hgd hb hx I2 r rz l1 l2 q2
/-- f(k = b, ..) -/
theorem pe_callXK0 (F : FnG X.prog X.w X.K X.mg X.base CX k f fd ps sp) (hr : Room k X.A) (hgd : X.A.guards = some []) (hg : Gl X x) (hm : X.mg x = some (.ref f)) (hk : PySem.W.keepIn X.K (.ref f) = true) (hb : BindsX X.K fd ps n ks dvs dvals ix) (hx : Passes CX X E)
    (hkw : PK X kws tk) (hall : (backToKw pos (keywordEach kws X.env)).all (·.1.isSome) = true := by rfl) (hks : (backToKw pos (keywordEach kws X.env)).filterMap (·.1) = ks := by rfl)
    (hdb : (x == ("__debug__" : Str)) = false := by decide)
    (hpl : ((backTo pos (starEach [] X.env)).any (·.1) || (backToKw pos (keywordEach kws X.env)).any (·.1.isNone)) = false := by rfl) :
    PE X (.Call (.Name x p) [] kws pos) (tCallX sp n ks.length dvs ix E tNil tk) := by
  refine ⟨fun pins s σ H Q I h => ?_⟩
  refine wpAny_Call_Name_kw (ld_glob I hg hm ?_ hdb)
  refine PySem.W.callWith_KW0 (h₀ := X.base) I.ok.mod.kin hk hall ?_ hpl
  refine thn (hkw.run pos pins s σ H _ I h) fun ws s2 ⟨zs, H2, I2, rz, l1, l2, q2⟩ => ⟨I2.kIn, ?_⟩
  rw [hks]
  exact run_fnX (us := []) (vs := []) F hr hgd hb hx I2 .nil rz l1 l2 q2
end
/-- the defaults as results -/
def mCallX (F : Fn) (io : Option Nat) (n m : Nat) (dds : List D) (ix : List Nat) (as ks : M (List Res)) : M Res := bnd as fun rs => bnd ks fun qs => if rs.length = n ∧ qs.length = m then callF F io (gath ix (rs ++ qs ++ dds.map .val)) else stuck
theorem callX_read {K : PySem.W.Frag} {mg : Str → Option Value} {E : XK} {σ : L2.St} {H : Hp} {Q : VK} {F : Fn} {io : Option Nat} {n m p : Nat} {dds : List D} {dvs : List V} {ix : List Nat} {as ks : M (List Res)} (hd : ∀ Hb σ, RepA K Hb σ dvs (dds.map .val)) (hix : ∀ (rs : List Res), rs.length = n + m + dds.length → (gath ix rs).length = p)
    (w : tE K mg E (mCallX F io n m dds ix as ks) σ H Q) : tCallX (spF K mg p io F) n m dvs ix E (tA K mg E as) (tA K mg E ks) σ H Q := by
  obtain ⟨Hb, ρ, R, S⟩ := w
  refine tA_mono (e_args R S) fun vs H1 ⟨Hb1, ρ1, rs, R1, rr, g1, S1⟩ => ?_
  refine tA_mono (e_args R1 S1) fun zs H2 ⟨Hb2, ρ2, qs, R2, rq, g2, S2⟩ => ?_
  by_cases c : rs.length = n ∧ qs.length = m
  · rw [if_pos c] at S2
    refine ⟨rr.length.trans c.1, rq.length.trans c.2, ?_⟩
    have rp := gath_rep (((rr.mono g2.b).append rq).append (hd Hb2 σ)) ix
    refine call_run R2 rp ?_ (g1.trans g2).t (S2.mono fun b σ' ρ' Hb' H' g3 R3 q => q (g2.trans g3) (g1.trans (g2.trans g3)))
    rw [rp.length]
    exact hix _ (by simp [c.1, c.2]; omega)
  · rw [if_neg c] at S2
    obtain ⟨_, _, e, _⟩ := S2
    cases e
section
variable {X : Cx} {E : XK} {e : Expr} {kws : List Keyword} {nm : Option Str} {kpos : Pos} {m : M Res} {mr : M (List Res)}
theorem mk_nil : PK X [] (tA X.K X.mg E aNil) := ⟨fun pos pins s σ H Q I w => pk_nil.run pos pins s σ H Q I (by
  obtain ⟨Hb, ρ, R, S⟩ := w
  exact S.ret R rfl [] .nil)⟩
theorem mk_cons (he : PE X e (tE X.K X.mg E m)) (hr : PK X kws (tA X.K X.mg E mr)) : PK X (⟨nm, e, kpos⟩ :: kws) (tA X.K X.mg E (aT m mr)) := ⟨fun pos pins s σ H Q I w => (pk_cons he hr).run pos pins s σ H Q I (by
  obtain ⟨Hb, ρ, R, S⟩ := w
  refine tE_mono (e_thaw R S) fun v H1 ⟨Hb1, ρ1, x, R1, rx, g1, S1⟩ => ?_
  refine tA_mono (e_args R1 S1) fun vs H2 ⟨Hb2, ρ2, rs, R2, rr, g2, S2⟩ => ?_
  exact S2.ret R2 g2 (g1.trans g2) rfl _ ((rx.mono g2.b).append rr))⟩
end
/-- what a caller knows of a def -/
structure Knows (P : Program) (w : World) (K : PySem.W.Frag) (mg : Str → Option Value) (base : Heap) (k : Nat) (x : Str) (p : Nat) (io : Option Nat) (F : Fn) : Prop where
  it : ∃ (f : Addr) (fd : FuncData) (ps : List Str), FnG P w K mg base (L2.CX P w) k f fd ps (spF K mg p io F) ∧ mg x = some (.ref f) ∧ PySem.W.keepIn K (.ref f) = true
end Mi

/-! Mi: loops. -/
namespace Mi
open PySem L2 Evl PySem.Spec

/-! ### while -/
def mWhile (c : M Bool) (b : M Fl) : Nat → M Fl
  | 0 => stuck
  | n + 1 => bnd c fun t => if t then bnd b fun fl => match fl with
      | .nx => mWhile c b n
      | .ct => mWhile c b n
      | .bk => ret .nx
      | .rt r => ret (.rt r)
    else ret .nx
section
variable {K : PySem.W.Frag} {mg : Str → Option Value} {E : XK}
/-- how a run ends, told from a state before -/
structure Fin (K : PySem.W.Frag) (mg : Str → Option Value) (E : XK) (De : Ends) (σ : L2.St) (Hb H : Hp) (ρ : R) (out : Out Fl) (ρ2 : R) : Prop where
  ok : ∀ fl, out = .ok fl → ∀ σ' Hb' H', Go σ ρ Hb H σ' ρ2 Hb' H' → Rel K Hb' H' σ' ρ2 → FlP K De H fl σ' ρ2 Hb' H'
  exc : ∀ e, out = .exc e → ∀ σ' c d Hb' H', Go σ ρ Hb H σ' ρ2 Hb' H' → Rel K Hb' H' σ' ρ2 → ExcR K mg Hb' H' c d e → E c d H'
theorem while_read {c : M Bool} {b : M Fl} {n : Nat} {De : Ends} {σ : L2.St} {H : Hp} (w : tS K mg E (mWhile c b n) De σ H) : tWhile (tT K mg E c) (tS K mg E b) De σ H := by
  obtain ⟨Hb, ρ, R, out, ρ2, e, h1, h2⟩ := w
  refine ⟨fun m σ' H' => ∃ Hb' ρ', Rel K Hb' H' σ' ρ' ∧ Go σ ρ Hb H σ' ρ' Hb' H' ∧ mWhile c b m ρ' = some (out, ρ2), ⟨n, Hb, ρ, R, Go.refl, e⟩, ?_⟩
  rintro m σ' H' ⟨Hb', ρ', R', g', e'⟩
  cases m with
  | zero => cases e'
  | succ k =>
    unfold mWhile bnd at e'
    refine ⟨Hb', ρ', R', ?_⟩
    split at e'
    · rename_i t ρ1 e1
      refine ⟨_, _, e1, fun t' q σ1 Hb1 H1 g1 R1 es => ?_, fun x q => (by cases q)⟩
      cases q
      subst es
      dsimp only at e'
      cases t with
      | false =>
        rw [if_neg Bool.false_ne_true] at e' ⊢
        cases e'
        exact h1 .nx rfl _ _ _ (g'.trans g1) R1
      | true =>
        rw [if_pos rfl] at e' ⊢
        refine ⟨fun σ3 H3 => ∃ Hb3 ρ3, Rel K Hb3 H3 σ3 ρ3 ∧ Go σ ρ Hb H σ3 ρ3 Hb3 H3 ∧ mWhile c b k ρ3 = some (out, ρ2), fun σ3 H3 q => ⟨k, Nat.lt_succ_self k, q⟩, Hb1, ρ1, R1, ?_⟩
        split at e'
        · rename_i fl ρ3 e3
          refine ⟨_, _, e3, fun fl' q σ4 Hb4 H4 g4 R4 => ?_, fun x q => (by cases q)⟩
          cases q
          have gg := g'.trans (g1.trans g4)
          cases fl with
          | nx => exact ⟨Hb4, ρ3, R4, gg, e'⟩
          | ct => exact ⟨Hb4, ρ3, R4, gg, e'⟩
          | bk =>
            cases e'
            exact h1 .nx rfl _ _ _ gg R4
          | rt r =>
            cases e'
            exact fun v rep => h1 (.rt r) rfl _ _ _ gg R4 v (rep.from' (g'.trans g1).t)
        · rename_i x ρ3 e3
          cases e'
          refine ⟨_, _, e3, fun fl' q => (by cases q), fun x' q σ4 cc dd Hb4 H4 g4 R4 xr => ?_⟩
          cases q
          exact h2 _ rfl σ4 cc dd Hb4 H4 (g'.trans (g1.trans g4)) R4 xr
        · cases e'
    · rename_i x ρ1 e1
      cases e'
      refine ⟨_, _, e1, fun fl' q => (by cases q), fun x' q σ4 cc dd Hb4 H4 g4 R4 xr => ?_⟩
      cases q
      exact h2 _ rfl σ4 cc dd Hb4 H4 (g'.trans g4) R4 xr
    · cases e'
end
theorem ms_while {X : Cx} {E : XK} {c : Expr} {body : List Stmt} {pos : Pos} {mc : M Bool} {mb : M Fl} (n : Nat) (hp : PassesOwn (model X.prog X.w) X.A X.env X.xe) (hc : PT X c (tT X.K X.mg E mc)) (hb : PSs X body (tS X.K X.mg E mb)) :
    PS X (.While c body [] pos) (tS X.K X.mg E (mWhile mc mb n)) := (ps_while hp hc hb).imp fun _ _ _ w => while_read w

/-! ### targets -/
section
variable (K : PySem.W.Frag) (mg : Str → Option Value) (E : XK)
def tGt (W : L2.St → L2.St → Prop) (g : D → M Unit) : TG := fun v σ H Q => ∃ Hb ρ d, Rel K Hb H σ ρ ∧ Rp K Hb v d ∧ Sat K mg E σ Hb H ρ (g d) fun _ σ' _ _ H' => W σ σ' → Q σ' H'
def tGts (W : L2.St → L2.St → Prop) (g : List D → M Unit) : TGs := fun vs σ H Q => ∃ Hb ρ ds, Rel K Hb H σ ρ ∧ RpAll K Hb vs ds ∧ Sat K mg E σ Hb H ρ (g ds) fun _ σ' _ _ H' => W σ σ' → Q σ' H'
end
def gN (i : Nat) : D → M Unit := fun d => mStore i (.val d)
def gT (n : Nat) (g : List D → M Unit) : D → M Unit := fun d => match d with
  | .tuple ds => if ds.length = n then g ds else stuck
  | _ => stuck
def gsNil : List D → M Unit := fun ds => match ds with
  | [] => ret ()
  | _ => stuck
def gsCons (g : D → M Unit) (r : List D → M Unit) : List D → M Unit := fun ds => match ds with
  | d :: ds => bnd (g d) fun _ => r ds
  | _ => stuck
def gIx (i : Nat) (mk : M Res) : D → M Unit := fun d => fun ρ => if ownAt ρ i then bnd (thaw mk) (fun k => setIx i k d) ρ else none
section
variable {X : Cx} {E : XK} {pos : Pos} {W : L2.St → L2.St → Prop}
theorem mg_name {i : Nat} {x : Str} (hW : ∀ σ v, W σ (σ.set i (some v))) (hN : X.N.Nodup) (hi : X.N[i]? = some x) (hx : Loc X.env.scope x) (hf : X.fn x = true ∨ X.env.scope.names.lookup x = some .local := by first | exact .inl rfl | exact .inr rfl | assumption) :
    PG X (.Name x pos) (tGt X.K X.mg E W (gN i)) := (pg_name hN hi hx hf).imp fun v σ H Q w => by
  obtain ⟨Hb, ρ, d, R, rp, out, ρ2, e, h1, h2⟩ := w
  obtain ⟨z, Hb2, g2, R2⟩ := store_run (H1 := H) (r := .val d) Go.refl R rp e
  exact h1 _ z _ _ _ g2 R2 (hW _ _)
theorem mg_nil (hW : ∀ σ, W σ σ) : PGs X [] (tGts X.K X.mg E W gsNil) := ⟨fun pins s σ H vs us Q I r w => pgs_nil.run pins s σ H vs us Q I r (by
  obtain ⟨Hb, ρ, ds, R, rp, S⟩ := w
  cases rp with
  | nil => exact ⟨rfl, S.ret R (hW σ)⟩
  | cons _ _ =>
    obtain ⟨_, _, e, _⟩ := S
    cases e)⟩
theorem mg_cons {t : Expr} {ts : List Expr} {g : D → M Unit} {r : List D → M Unit} (hs : (assignEach (t :: ts) X.env).map (·.2) = assign t X.env :: (assignEach ts X.env).map (·.2) := by rfl) (hW : ∀ a b c, W a b → W b c → W a c) (h : PG X t (tGt X.K X.mg E W g)) (hr : PGs X ts (tGts X.K X.mg E W r)) : PGs X (t :: ts) (tGts X.K X.mg E W (gsCons g r)) :=
  ⟨fun pins s σ H vs us Q I rv w => (pgs_cons h hr hs).run pins s σ H vs us Q I rv (by
  obtain ⟨Hb, ρ, ds, R, rp, S⟩ := w
  cases rp with
  | nil =>
    obtain ⟨_, _, e, _⟩ := S
    cases e
  | cons a b =>
    refine ⟨_, _, rfl, Hb, ρ, _, R, a, S.bnd.mono fun _ σ1 ρ1 Hb1 H1 g1 R1 S1 w1 => ?_⟩
    exact ⟨Hb1, ρ1, _, R1, b.mono g1.b, S1.mono fun _ σ2 ρ2 Hb2 H2 g2 R2 q w2 => q (g1.trans g2) (hW _ _ _ w1 w2)⟩)⟩
theorem mg_tup {es : List Expr} {k n : Nat} {g : List D → M Unit} (hc : X.calm = true) (h : PGs X es (tGts X.K X.mg E W g)) (hn : n = es.length)
    (hp : PG X (.Tuple es k pos) (gTup X.K n (tGts X.K X.mg E W g))) : PG X (.Tuple es k pos) (tGt X.K X.mg E W (gT n g)) := hp.imp fun v σ H Q w => by
  obtain ⟨Hb, ρ, d, R, rp, S⟩ := w
  cases rp with
  | @tup a xs ds sq ra =>
    obtain ⟨out, ρ2, e, h1⟩ := S
    have e : (if ds.length = n then g ds else stuck) ρ = some (out, ρ2) := e
    by_cases c : ds.length = n
    · rw [if_pos c] at e
      exact ⟨_, _, rfl, ex_t R.ex sq, ra.length.trans c, Hb, ρ, _, R, ra, out, ρ2, e, h1⟩
    · rw [if_neg c] at e
      cases e
  | _ =>
    obtain ⟨_, _, e, _⟩ := S
    cases e
/-- a list's place as a target -/
theorem mg_ix {i : Nat} {x : Str} {mk : M Res} {k : Expr} {npos : Pos} (hW : ∀ σ, W σ σ) (hg : PG X (.Subscript (.Name x npos) k pos) (gSub (tVar i) (tE X.K X.mg E mk) rSetL)) : PG X (.Subscript (.Name x npos) k pos) (tGt X.K X.mg E W (gIx i mk)) := hg.imp fun v σ H Q w => by
  obtain ⟨Hb, ρ, d, R, rp, out, ρ2, e, h⟩ := w
  unfold gIx at e
  split at e
  · rename_i c
    obtain ⟨a, vs, ea, ha⟩ := own_at R c
    refine ⟨.ref a, ea, ?_⟩
    refine tE_mono (e_thaw R (⟨out, ρ2, e, h⟩ : Sat X.K X.mg E σ Hb H ρ (bnd (thaw mk) fun k => setIx i k d) fun _ σ' _ _ H' => W σ σ' → Q σ' H')) fun w H2 ⟨Hb2, ρ3, kr, R2, rk, g2, S2⟩ => ?_
    obtain ⟨out, ρ', e3, h1, h2⟩ := S2
    obtain ⟨b, n, ws, j, H', q1, q2, q3, q4, q5, q6, q7, q8⟩ := setIx_run R2 rk (rp.mono g2.b) e3
    rw [ea] at q2
    cases q2
    subst q6
    subst q3
    exact ⟨a, ws, n, j, rfl, rfl, q4, q5, h1 _ q1 σ Hb2 _ q7 q8 (g2.trans q7) (hW σ)⟩
  · cases e
def mAsgG (g : D → M Unit) (m : M Res) : M Fl := bnd (mVal m) fun d => bnd (g d) fun _ => ret .nx
theorem ms_asgG {tg e : Expr} {g : D → M Unit} {m : M Res} (he : PE X e (tE X.K X.mg E m)) (hg : PG X tg (tGt X.K X.mg E (fun _ _ => True) g)) (hs : swapsWithSole [tg] e pos.line X.env = pure false := by rfl) (hw : swappedStores [tg] e X.env = pure none := by rfl)
    (h1 : (assignEach [tg] X.env).map (·.2) = [assign tg X.env] := by rfl) : PS X (.Assign [tg] e pos) (tS X.K X.mg E (mAsgG g m)) := (ps_asg he hg hs hw h1).imp fun De σ H w => by
  obtain ⟨Hb, ρ, R, S⟩ := w
  refine tE_mono (e_val R S) fun v H1 ⟨Hb1, ρ1, d, R1, rp, g1, S1⟩ => ?_
  exact ⟨Hb1, ρ1, d, R1, rp, S1.bnd.mono fun _ σ2 ρ2 Hb2 H2 g2 R2 S2 _ => S2.ret R2 g2 (g1.trans g2)⟩
end
/-- a, b = x, y -/
def settle : Res → M Res
  | .slot j => bnd (valR (.slot j)) fun d => ret (.val d)
  | r => ret r
def mSet (m : M Res) : M Res := bnd m settle
def mPar (i j : Nat) (m1 m2 : M Res) : M Fl := bnd (mVal m1) fun d => bnd (mVal m2) fun e => bnd (mStore i (.val d)) fun _ => bnd (mStore j (.val e)) fun _ => ret .nx
theorem par_read {K : PySem.W.Frag} {mg : Str → Option Value} {E : XK} {i j : Nat} {m1 m2 : M Res} {De : Ends} {σ : L2.St} {H : Hp} (w : tS K mg E (mPar i j m1 m2) De σ H) : tPar i j (tCons (tE K mg E m1) (tCons (tE K mg E m2) tNil)) De σ H := by
  obtain ⟨Hb, ρ, R, S⟩ := w
  refine tE_mono (e_val R S) fun v H1 ⟨Hb1, ρ1, d, R1, rp, g1, S1⟩ => ?_
  refine tE_mono (e_val R1 S1) fun u H2 ⟨Hb2, ρ2, e, R2, rq, g2, S2⟩ => ?_
  refine ⟨v, u, rfl, ?_⟩
  obtain ⟨out, ρ5, e5, h1, h2⟩ := S2
  unfold bnd at e5
  split at e5
  · rename_i x ρ3 e3
    obtain ⟨_, Hb3, g3, R3⟩ := store_run (H1 := H2) (r := .val d) Go.refl R2 (rp.mono g2.b) e3
    dsimp only at e5
    split at e5
    · rename_i y ρ4 e4
      obtain ⟨_, Hb4, g4, R4⟩ := store_run (H1 := H2) (r := .val e) Go.refl R3 (rq.mono g3.b) e4
      cases e5
      exact h1 .nx rfl _ _ _ (g3.trans g4) R4 (g2.trans (g3.trans g4)) (g1.trans (g2.trans (g3.trans g4)))
    · rename_i x ρ4 e4
      obtain ⟨z, _⟩ := store_run (H1 := H2) (r := .val e) Go.refl R3 (rq.mono g3.b) e4
      cases z
    · cases e5
  · rename_i x ρ3 e3
    obtain ⟨z, _⟩ := store_run (H1 := H2) (r := .val d) Go.refl R2 (rp.mono g2.b) e3
    cases z
  · cases e5
end Mi

/-! Mi: what is walked; for; comprehensions. -/
namespace Mi
open PySem L2 Evl PySem.Spec

/-- what a loop walks: the items; the slots that are locked meanwhile -/
structure Itd where
  items : List D
  lk : List (Nat × D)
def Held (σ0 : L2.St) (I : Itd) (σ : L2.St) (ρ : R) : Prop := ∀ p ∈ I.lk, σ[p.1]? = σ0[p.1]? ∧ ∃ m, Md.isLk m = true ∧ ρ[p.1]? = some (some ⟨m, p.2⟩)
structure Walks (K : PySem.W.Frag) (J : It) (σ0 : L2.St) (Hb0 : Hp) (I : Itd) : Prop where
  at' : ∀ (σ : L2.St) (ρ : R) (Hb H : Hp), Rel K Hb H σ ρ → Ex Hb0 Hb → Held σ0 I σ ρ →
    (∀ i, i < I.items.length → J.go i H) ∧ J.stop I.items.length H ∧ ∀ i x H', i < I.items.length → J.yld i H x H' → ∃ Hb', New Hb H Hb' H' ∧ ∃ d, I.items[i]? = some d ∧ Rp K Hb' x d
section
variable (K : PySem.W.Frag) (mg : Str → Option Value) (E : XK)
def tI (m : M Itd) : TI := fun σ H Rc => ∃ Hb ρ, Rel K Hb H σ ρ ∧ Sat K mg E σ Hb H ρ m fun I σ' ρ' Hb' H' => σ' = σ → Held σ I σ ρ' → ∀ J, Walks K J σ Hb' I → Rc J H'
end
/-- unlocking -/
def unlock1 (j : Nat) (d : D) : M Unit := fun ρ => match ρ[j]? with
  | some (some ⟨.lock, _⟩) => some (.ok (), ρ.set j (some ⟨.own, d⟩))
  | some (some ⟨.iol, _⟩) => some (.ok (), ρ.set j (some ⟨.io, d⟩))
  | _ => none
def unlock : List (Nat × D) → M Unit
  | [] => ret ()
  | p :: l => bnd (unlock1 p.1 p.2) fun _ => unlock l
def loopF (g : D → M Unit) (b : M Fl) : List D → M Fl
  | [] => ret .nx
  | d :: ds => bnd (g d) fun _ => bnd b fun fl => match fl with
    | .nx => loopF g b ds
    | .ct => loopF g b ds
    | .bk => ret .nx
    | .rt r => ret (.rt r)
def mFor (it : M Itd) (g : D → M Unit) (b : M Fl) : M Fl := bnd it fun I => bnd (loopF g b I.items) fun fl => bnd (unlock I.lk) fun _ => ret fl

section
variable {K : PySem.W.Frag} {mg : Str → Option Value} {E : XK} {σ σ' : L2.St} {Hb H Hb' H' : Hp} {ρ ρ' ρ2 : R}
theorem bnd_some {α β : Type} {m : M α} {f : α → M β} {o : Out β × R} (e : bnd m f ρ = some o) : (∃ a ρ1, m ρ = some (.ok a, ρ1) ∧ f a ρ1 = some o) ∨ ∃ x ρ1, m ρ = some (.exc x, ρ1) ∧ o = (.exc x, ρ1) := by
  unfold bnd at e
  split at e
  · rename_i a ρ1 e1
    exact .inl ⟨a, ρ1, e1, e⟩
  · rename_i x ρ1 e1
    cases e
    exact .inr ⟨x, ρ1, e1, rfl⟩
  · cases e
theorem unlock1_ok {j : Nat} {d : D} {o : Out Unit × R} (hm : ∃ m, Md.isLk m = true ∧ ρ'[j]? = some (some ⟨m, d⟩)) (e : unlock1 j d ρ' = some o) : o.1 = .ok () ∧ o.2.length = ρ'.length ∧
    ∃ m m', Md.isLk m = true ∧ Md.isLk m' = false ∧ Md.isOwn m' = true ∧ (Md.isIo m' = Md.isIo m) ∧ ρ'[j]? = some (some ⟨m, d⟩) ∧ o.2 = ρ'.set j (some ⟨m', d⟩) := by
  obtain ⟨m, hm, hj⟩ := hm
  unfold unlock1 at e
  rw [hj] at e
  cases m <;> first | cases hm | skip
  · cases e
    exact ⟨rfl, by simp, .lock, .own, rfl, rfl, rfl, rfl, hj, rfl⟩
  · cases e
    exact ⟨rfl, by simp, .iol, .io, rfl, rfl, rfl, rfl, hj, rfl⟩
/-- a slot is unlocked: the state goes on from one in which it was not locked -/
theorem unlock1_go {j : Nat} {d : D} {m m' : Md} (g : Go σ ρ Hb H σ' ρ' Hb' H') (R' : Rel K Hb' H' σ' ρ') (h0 : ∀ s, ρ[j]? = some (some s) → s.m.isLk = false) (hm : Md.isLk m = true) (hm' : Md.isOwn m' = true) (hio : Md.isIo m' = Md.isIo m) (hj : ρ'[j]? = some (some ⟨m, d⟩)) :
    Go σ ρ Hb H σ' (ρ'.set j (some ⟨m', d⟩)) Hb' H' ∧ Rel K Hb' H' σ' (ρ'.set j (some ⟨m', d⟩)) := by
  have hjl : j < ρ'.length := (List.getElem?_eq_some_iff.mp hj).1
  have mo : Md.isOwn m = true := by cases m <;> first | rfl | cases hm
  have ownE : ∀ a, Own σ' (ρ'.set j (some ⟨m', d⟩)) a → Own σ' ρ' a := fun a ⟨i, s, q1, q2, q3⟩ => by
    rcases get_set q1 with ⟨e, z⟩ | ⟨_, z⟩
    · subst e
      exact ⟨_, _, hj, mo, q3⟩
    · exact ⟨i, s, z, q2, q3⟩
  refine ⟨⟨g.b, g.k, g.f, g.t, fun a q => g.o a (ownE a q), fun i s q1 q2 => ?_, fun i s q1 q2 => ?_⟩, ⟨by simp [R'.len], R'.ex, fun i s q1 q2 => ?_, fun i s q1 q2 => ?_, fun i k s t a q1 q2 q3 q4 q5 q6 => ?_⟩⟩
  · obtain ⟨e1, s', e2, e3⟩ := g.io i s q1 q2
    refine ⟨e1, ?_⟩
    by_cases e : i = j
    · subst e
      rw [hj] at e2
      cases e2
      exact ⟨_, List.getElem?_set_self hjl, hio.trans e3⟩
    · exact ⟨s', by rw [List.getElem?_set_ne (Ne.symm e)]; exact e2, e3⟩
  · obtain ⟨e1, e2⟩ := g.lk i s q1 q2
    have ne : i ≠ j := fun e => by
      subst e
      rw [h0 s q1] at q2; cases q2
    exact ⟨e1, by rw [List.getElem?_set_ne (Ne.symm ne)]; exact e2⟩
  · rcases get_set q1 with ⟨e, z⟩ | ⟨_, z⟩
    · cases z
      rw [hm'] at q2; cases q2
    · exact R'.val i s z q2
  · rcases get_set q1 with ⟨e, z⟩ | ⟨_, z⟩
    · subst e
      cases z
      have q := R'.own i ⟨m, d⟩ hj mo
      exact q
    · exact R'.own i s z q2
  · have f1 : ∃ s', ρ'[i]? = some (some s') ∧ s'.m.isOwn = true := by
      rcases get_set q1 with ⟨e, z⟩ | ⟨_, z⟩
      · subst e; exact ⟨_, hj, mo⟩
      · exact ⟨s, z, q3⟩
    have f2 : ∃ s', ρ'[k]? = some (some s') ∧ s'.m.isOwn = true := by
      rcases get_set q2 with ⟨e, z⟩ | ⟨_, z⟩
      · subst e; exact ⟨_, hj, mo⟩
      · exact ⟨t, z, q4⟩
    obtain ⟨s1, z1, z2⟩ := f1
    obtain ⟨s2, z3, z4⟩ := f2
    exact R'.inj i k s1 s2 a z1 z3 z2 z4 q5 q6
/-- what is locked was not locked ahead -/
def WasFree (ρ : R) (l : List (Nat × D)) : Prop := ∀ p ∈ l, ∀ s, ρ[p.1]? = some (some s) → s.m.isLk = false
theorem unlock_go : ∀ {l : List (Nat × D)} {ρ' : R} {o : Out Unit × R}, Go σ ρ Hb H σ' ρ' Hb' H' → Rel K Hb' H' σ' ρ' → WasFree ρ l → (∀ p ∈ l, ∃ m, Md.isLk m = true ∧ ρ'[p.1]? = some (some ⟨m, p.2⟩)) → (l.map (·.1)).Nodup → unlock l ρ' = some o →
    o.1 = .ok () ∧ Go σ ρ Hb H σ' o.2 Hb' H' ∧ Rel K Hb' H' σ' o.2 ∧ ∀ a, Own σ' o.2 a → Own σ' ρ' a
  | [], ρ', o, g, R', _, _, _, e => by
    cases e
    exact ⟨rfl, g, R', fun _ h => h⟩
  | p :: l, ρ', o, g, R', wf, hl, nd, e => by
    rcases bnd_some (m := unlock1 p.1 p.2) e with ⟨u, ρ1, e1, e2⟩ | ⟨x, ρ1, e1, e2⟩
    · obtain ⟨h1, h2, m, m', q1, q2, q3, q4, q5, q6⟩ := unlock1_ok (hl p List.mem_cons_self) e1
      have q6 : ρ1 = ρ'.set p.1 (some ⟨m', p.2⟩) := q6
      subst q6
      obtain ⟨g1, R1⟩ := unlock1_go g R' (wf p List.mem_cons_self) q1 q3 q4 q5
      rw [List.map_cons, List.nodup_cons] at nd
      obtain ⟨z1, z2, z3, z4⟩ := unlock_go g1 R1 (fun q hq => wf q (List.mem_cons_of_mem _ hq)) (fun q hq => by
        obtain ⟨mq, w1, w2⟩ := hl q (List.mem_cons_of_mem _ hq)
        refine ⟨mq, w1, ?_⟩
        rw [List.getElem?_set_ne fun e => nd.1 (by rw [e]; exact List.mem_map_of_mem hq)]
        exact w2) nd.2 e2
      refine ⟨z1, z2, z3, fun a h => ?_⟩
      obtain ⟨i, s, w1, w2, w3⟩ := z4 a h
      rcases get_set w1 with ⟨e3, z⟩ | ⟨_, z⟩
      · subst e3
        refine ⟨_, _, q5, ?_, w3⟩
        cases m <;> first | rfl | cases q1
      · exact ⟨i, s, z, w2, w3⟩
    · obtain ⟨h1, _⟩ := unlock1_ok (hl p List.mem_cons_self) e1
      cases h1
theorem held_go {σ0 : L2.St} {I : Itd} (g : Go σ ρ Hb H σ' ρ' Hb' H') (h : Held σ0 I σ ρ) : Held σ0 I σ' ρ' := fun p hp => by
  obtain ⟨e, m, hm, hj⟩ := h p hp
  obtain ⟨e1, e2⟩ := g.lk p.1 ⟨m, p.2⟩ hj hm
  exact ⟨e1.trans e, m, hm, e2⟩
/-- iterators whose locks are in order -/
structure ItOk (m : M Itd) : Prop where
  nd : ∀ ρ I ρ', m ρ = some (.ok I, ρ') → (I.lk.map (·.1)).Nodup ∧ WasFree ρ I.lk
theorem for_read {it : M Itd} {g : D → M Unit} {b : M Fl} {De : Ends} (ok : ItOk it) (w : tS K mg E (mFor it g b) De σ H) : tFor (tI K mg E it) (tGt K mg E (fun _ _ => True) g) (tS K mg E b) De σ H := by
  obtain ⟨Hb, ρ, Rr, out, ρ2, e, h1, h2⟩ := w
  rcases bnd_some e with ⟨I, ρ1, e1, e2⟩ | ⟨x, ρ1, e1, e2⟩
  · obtain ⟨nd, wf⟩ := ok.nd ρ I ρ1 e1
    refine ⟨Hb, ρ, Rr, _, _, e1, fun I' q σ1 Hb1 H1 g1 R1 es hd J wk => ?_, fun x q => by cases q⟩
    cases q
    subst es
    -- the rest of the run from a turn on
    let rest : List D → M Fl := fun ds => bnd (loopF g b ds) fun fl => bnd (unlock I.lk) fun _ => ret fl
    -- the very end
    have fin : ∀ {fl : Fl} {σ' : L2.St} {ρ' : R} {Hb' H' H0 : Hp}, Go σ1 ρ Hb H σ' ρ' Hb' H' → Rel K Hb' H' σ' ρ' → Held σ1 I σ' ρ' → (∀ a, H a ≠ none → H0 a ≠ none) → (bnd (unlock I.lk) fun _ => ret fl) ρ' = some (out, ρ2) → FlP K De H0 fl σ' ρ' Hb' H' := by
      intro fl σ' ρ' Hb' H' H0 gg Rg hh t er
      rcases bnd_some er with ⟨u, ρ3, f1, f2⟩ | ⟨x, ρ3, f1, f2⟩
      · obtain ⟨_, z2, z3, z4⟩ := unlock_go gg Rg wf (fun p hp => (hh p hp).2) nd f1
        cases f2
        have q := h1 _ rfl σ' Hb' H' z2 z3
        cases fl with
        | nx => exact q
        | bk => exact q
        | ct => exact q
        | rt r =>
          intro v rep
          refine q v ?_
          cases r with
          | val d => exact rep
          | slot i => exact rep
          | fresh xs =>
            obtain ⟨a, vs, w1, w2, w3, w4, w5, w6⟩ := rep
            exact ⟨a, vs, w1, w2, w3, w4, Classical.byContradiction fun z => t a z w5, fun z => w6 (z4 a z)⟩
      · obtain ⟨z1, _⟩ := unlock_go gg Rg wf (fun p hp => (hh p hp).2) nd f1
        cases z1
    have excEnd : ∀ {x : Exc} {σ' : L2.St} {Hb' H' : Hp}, out = .exc x → ∀ c d, Go σ1 ρ Hb H σ' ρ2 Hb' H' → Rel K Hb' H' σ' ρ2 → ExcR K mg Hb' H' c d x → E c d H' := fun {x σ' Hb' H'} q c d => h2 x q σ' c d Hb' H'
    refine ⟨fun i m σ' H' => m = I.items.length - i ∧ i ≤ I.items.length ∧ ∃ Hb' ρ', Rel K Hb' H' σ' ρ' ∧ Go σ1 ρ1 Hb1 H1 σ' ρ' Hb' H' ∧ rest (I.items.drop i) ρ' = some (out, ρ2), ⟨_, rfl, Nat.zero_le _, Hb1, ρ1, R1, Go.refl, by rw [List.drop_zero]; exact e2⟩, ?_⟩
    rintro i m σ' H' ⟨rfl, hi, Hb', ρ', R', g', e'⟩
    have hh := held_go g' hd
    obtain ⟨wgo, wstop, wy⟩ := wk.at' σ' ρ' Hb' H' R' g'.b hh
    by_cases c : i < I.items.length
    · refine .inr ⟨wgo i c, fun σ3 H3 => i + 1 ≤ I.items.length ∧ ∃ Hb3 ρ3, Rel K Hb3 H3 σ3 ρ3 ∧ Go σ1 ρ1 Hb1 H1 σ3 ρ3 Hb3 H3 ∧ rest (I.items.drop (i + 1)) ρ3 = some (out, ρ2), fun σ3 H3 q => ⟨I.items.length - (i + 1), by omega, rfl, q⟩, fun x H'' y => ?_⟩
      obtain ⟨Hb'', n, d, hd', rp⟩ := wy i x H'' c y
      have ed : I.items.drop i = d :: I.items.drop (i + 1) := by
        rw [List.drop_eq_getElem_cons c]
        rw [List.getElem?_eq_getElem c] at hd'
        cases hd'
        rfl
      rw [ed] at e'
      have gn := g'.trans (n.go (σ := σ') (ρ := ρ'))
      have e3 : (bnd (g d) fun _ => bnd b fun fl => bnd (match fl with
          | .nx => loopF g b (I.items.drop (i + 1))
          | .ct => loopF g b (I.items.drop (i + 1))
          | .bk => ret .nx
          | .rt r => ret (.rt r)) fun fl => bnd (unlock I.lk) fun _ => ret fl) ρ' = some (out, ρ2) := by
        rw [← e']
        show _ = bnd (bnd (g d) fun _ => bnd b fun fl => _) _ ρ'
        unfold bnd
        cases g d ρ' with
        | none => rfl
        | some o =>
          obtain ⟨o, ρa⟩ := o
          cases o with
          | exc x => rfl
          | ok u =>
            dsimp only
            cases b ρa with
            | none => rfl
            | some o =>
              obtain ⟨o, ρb⟩ := o
              cases o <;> rfl
      rcases bnd_some e3 with ⟨u, ρa, a1, a2⟩ | ⟨x, ρa, a1, a2⟩
      · refine ⟨Hb'', ρ', d, n.rel R', rp, _, _, a1, fun u' q σ2 Hb2 H2 g2 R2 _ => ?_, fun x q => by cases q⟩
        cases q
        have ga := gn.trans g2
        rcases bnd_some a2 with ⟨fl, ρb, b1, b2⟩ | ⟨x, ρb, b1, b2⟩
        · refine ⟨Hb2, ρa, R2, _, _, b1, fun fl' q σ3 Hb3 H3 g3 R3 => ?_, fun x q => by cases q⟩
          cases q
          have gb := ga.trans g3
          cases fl with
          | nx => exact ⟨c, Hb3, ρb, R3, gb, b2⟩
          | ct => exact ⟨c, Hb3, ρb, R3, gb, b2⟩
          | bk =>
            have b2 : (bnd (unlock I.lk) fun _ => ret Fl.nx) ρb = some (out, ρ2) := b2
            exact fin (fl := .nx) (H0 := H) (g1.trans gb) R3 (held_go gb hd) (fun _ q => q) b2
          | rt r =>
            have b2 : (bnd (unlock I.lk) fun _ => ret (Fl.rt r)) ρb = some (out, ρ2) := b2
            exact fin (fl := .rt r) (H0 := H2) (g1.trans gb) R3 (held_go gb hd) (g1.trans ga).t b2
        · cases b2
          refine ⟨Hb2, ρa, R2, _, _, b1, fun fl' q => (by cases q), fun x' q σ3 cc dd Hb3 H3 g3 R3 xr => ?_⟩
          cases q
          exact excEnd rfl cc dd (g1.trans (ga.trans g3)) R3 xr
      · cases a2
        refine ⟨Hb'', ρ', d, n.rel R', rp, _, _, a1, fun u' q => (by cases q), fun x' q σ3 cc dd Hb3 H3 g3 R3 xr => ?_⟩
        cases q
        exact excEnd rfl cc dd (g1.trans (gn.trans g3)) R3 xr
    · have ei : i = I.items.length := by omega
      subst ei
      refine .inl ⟨wstop, ?_⟩
      rw [List.drop_length] at e'
      have e' : (bnd (unlock I.lk) fun _ => ret Fl.nx) ρ' = some (out, ρ2) := e'
      exact fin (fl := .nx) (H0 := H) (g1.trans g') R' hh (fun _ q => q) e'
  · cases e2
    refine ⟨Hb, ρ, Rr, _, _, e1, fun I' q => (by cases q), fun x' q σ1 c d Hb1 H1 g1 R1 xr => ?_⟩
    cases q
    exact h2 _ rfl σ1 c d Hb1 H1 g1 R1 xr
end
theorem ms_for {X : Cx} {E : XK} {tg iter : Expr} {body : List Stmt} {pos : Pos} {mi : M Itd} {g : D → M Unit} {mb : M Fl} (hp : PassesOwn (model X.prog X.w) X.A X.env X.xe) (hc : X.calm = true) (ok : ItOk mi) (hi : PI X tg iter (tI X.K X.mg E mi)) (hg : PG X tg (tGt X.K X.mg E (fun _ _ => True) g)) (hb : PSs X body (tS X.K X.mg E mb))
    (hs : ∀ x, foldedSetIterable iter X.env x = pure x := by intro _; rfl) : PS X (.For tg iter body [] pos) (tS X.K X.mg E (mFor mi g mb)) := (ps_for hp hc hi hg hb hs).imp fun _ _ _ w => for_read ok w
end Mi

/-! Mi: the things that are walked; comprehensions. -/
namespace Mi
open PySem L2 Evl PySem.Spec

def freeAt (ρ : R) (j : Nat) : Bool := match ρ[j]? with
  | some (some s) => !s.m.isLk
  | _ => true
def chk (m : M Itd) : M Itd := fun ρ => match m ρ with
  | some (.ok I, ρ') => if (I.lk.map (·.1)).Nodup ∧ (I.lk.all fun p => freeAt ρ p.1) = true then some (.ok I, ρ') else none
  | o => o
theorem chk_some {m : M Itd} {ρ : R} {o : Out Itd × R} (e : chk m ρ = some o) : m ρ = some o := by
  unfold chk at e
  split at e
  · rename_i I ρ' e1
    split at e
    · cases e; exact e1
    · cases e
  · exact e
theorem chk_ok (m : M Itd) : ItOk (chk m) := ⟨fun ρ I ρ' e => by
  have e0 := chk_some e
  unfold chk at e
  rw [e0] at e
  dsimp only at e
  split at e
  · rename_i c
    refine ⟨c.1, fun p hp s hs => ?_⟩
    have := List.all_eq_true.mp c.2 p hp
    unfold freeAt at this
    rw [hs] at this
    simpa using this
  · cases e⟩
theorem tI_chk {K : PySem.W.Frag} {mg : Str → Option Value} {E : XK} {m : M Itd} {σ : L2.St} {H : Hp} {Rc : It → Hp → Prop} (w : tI K mg E (chk m) σ H Rc) : tI K mg E m σ H Rc := by
  obtain ⟨Hb, ρ, Rr, out, ρ', e, h⟩ := w
  exact ⟨Hb, ρ, Rr, out, ρ', chk_some e, h⟩
theorem PI_imp {X : Cx} {tg e : Expr} {w w' : TI} (h : PI X tg e w) (k : ∀ σ H Rc, w' σ H Rc → w σ H Rc) : PI X tg e w' := ⟨fun pins s σ H Rc I q => h.run pins s σ H Rc I (k σ H Rc q)⟩
theorem PI_or {X : Cx} {tg e : Expr} {w w' : TI} (h : PI X tg e w) (h' : PI X tg e w') : PI X tg e (fun σ H Rc => w σ H Rc ∨ w' σ H Rc) := ⟨fun pins s σ H Rc I q => by
  rcases q with q | q
  · exact h.run pins s σ H Rc I q
  · exact h'.run pins s σ H Rc I q⟩

/-! ### data -/
def signs (z : Str) : List D := z.cps.toList.map fun c => .str ⟨#[c]⟩
def iterD (r : Res) : M Itd := fun ρ => match r with
  | .val (.list xs) => some (.ok ⟨xs, []⟩, ρ)
  | .val (.tuple xs) => some (.ok ⟨xs, []⟩, ρ)
  | .val (.str z) => some (.ok ⟨signs z, []⟩, ρ)
  | .slot j => match ρ[j]? with
    | some (some ⟨.own, .list xs⟩) => some (.ok ⟨xs, [(j, .list xs)]⟩, ρ.set j (some ⟨.lock, .list xs⟩))
    | some (some ⟨.io, .list xs⟩) => some (.ok ⟨xs, [(j, .list xs)]⟩, ρ.set j (some ⟨.iol, .list xs⟩))
    | some (some ⟨.val, .list xs⟩) => some (.ok ⟨xs, []⟩, ρ)
    | _ => none
  | _ => none
def mItD (m : M Res) : M Itd := bnd (thaw m) iterD
section
variable {K : PySem.W.Frag} {mg : Str → Option Value} {E : XK} {σ : L2.St} {Hb H : Hp} {ρ : R}
theorem lock_go {j : Nat} {d : D} {m m' : Md} (Rr : Rel K Hb H σ ρ) (hm : Md.isOwn m = true) (hm2 : Md.isLk m = false) (hm' : Md.isOwn m' = true) (hio : Md.isIo m' = Md.isIo m) (hj : ρ[j]? = some (some ⟨m, d⟩)) :
    Go σ ρ Hb H σ (ρ.set j (some ⟨m', d⟩)) Hb H ∧ Rel K Hb H σ (ρ.set j (some ⟨m', d⟩)) := by
  have hjl : j < ρ.length := (List.getElem?_eq_some_iff.mp hj).1
  refine ⟨⟨Ex.refl _, fun _ _ h _ => h, fun a q1 q2 => absurd q1 q2, fun _ h => h, fun a ⟨i, s, q1, q2, q3⟩ => .inl ?_, fun i s q1 q2 => ⟨rfl, ?_⟩, fun i s q1 q2 => ⟨rfl, ?_⟩⟩, ⟨by simp [Rr.len], Rr.ex, fun i s q1 q2 => ?_, fun i s q1 q2 => ?_, fun i k s t a q1 q2 q3 q4 q5 q6 => ?_⟩⟩
  · rcases get_set q1 with ⟨e, z⟩ | ⟨_, z⟩
    · subst e; exact ⟨_, _, hj, hm, q3⟩
    · exact ⟨i, s, z, q2, q3⟩
  · by_cases e : i = j
    · subst e
      rw [hj] at q1; cases q1
      exact ⟨_, List.getElem?_set_self hjl, hio.trans q2⟩
    · exact ⟨s, by rw [List.getElem?_set_ne (Ne.symm e)]; exact q1, q2⟩
  · have e : i ≠ j := fun e => by
      subst e
      rw [hj] at q1; cases q1
      rw [hm2] at q2; cases q2
    rw [List.getElem?_set_ne (Ne.symm e)]; exact q1
  · rcases get_set q1 with ⟨e, z⟩ | ⟨_, z⟩
    · cases z
      rw [hm'] at q2; cases q2
    · exact Rr.val i s z q2
  · rcases get_set q1 with ⟨e, z⟩ | ⟨_, z⟩
    · subst e
      cases z
      have q := Rr.own i ⟨m, d⟩ hj hm
      exact q
    · exact Rr.own i s z q2
  · have f1 : ∃ s', ρ[i]? = some (some s') ∧ s'.m.isOwn = true := by
      rcases get_set q1 with ⟨e, z⟩ | ⟨_, z⟩
      · subst e; exact ⟨_, hj, hm⟩
      · exact ⟨s, z, q3⟩
    have f2 : ∃ s', ρ[k]? = some (some s') ∧ s'.m.isOwn = true := by
      rcases get_set q2 with ⟨e, z⟩ | ⟨_, z⟩
      · subst e; exact ⟨_, hj, hm⟩
      · exact ⟨t, z, q4⟩
    obtain ⟨s1, z1, z2⟩ := f1
    obtain ⟨s2, z3, z4⟩ := f2
    exact Rr.inj i k s1 s2 a z1 z3 z2 z4 q5 q6
theorem walks_list {a : Addr} {xs : List D} {Hb0 : Hp} {σ0 : L2.St} {vs : List V} {I : Itd} (hI : I.items = xs) (hs : ∀ (σ : L2.St) (ρ : R) (Hb H : Hp), Rel K Hb H σ ρ → Ex Hb0 Hb → Held σ0 I σ ρ → ∃ vs, SqL K H a vs ∧ RpAll K Hb vs xs) : Walks K (Itl K a) σ0 Hb0 I := ⟨fun σ ρ Hb H Rr ex hd => by
  obtain ⟨vs, s, r⟩ := hs σ ρ Hb H Rr ex hd
  subst hI
  refine ⟨fun i hi => ?_, ⟨vs, s, by rw [r.length]; exact Nat.le_refl _⟩, fun i x H' hi y => ?_⟩
  · have hi' : i < vs.length := by rw [r.length]; exact hi
    exact ⟨vs, vs[i], s, by simp [hi']⟩
  · obtain ⟨e, y⟩ := y
    subst e
    obtain ⟨d, e1, e2⟩ := r.getV (y vs s)
    exact ⟨Hb, New.refl Rr.ex, d, e1, e2⟩⟩
theorem walks_tup {a : Addr} {xs : List D} {Hb0 : Hp} {σ0 : L2.St} {vs : List V} (s : SqT K Hb0 a vs) (r : RpAll K Hb0 vs xs) : Walks K (Itt K a) σ0 Hb0 ⟨xs, []⟩ := ⟨fun σ ρ Hb H Rr ex hd => by
  have s' : SqT K H a vs := ex_t (ex.trans Rr.ex) s
  refine ⟨fun i hi => ?_, ⟨vs, s', by rw [r.length]; exact Nat.le_refl _⟩, fun i x H' hi y => ?_⟩
  · have hi' : i < vs.length := by rw [r.length]; exact hi
    exact ⟨vs, vs[i], s', by simp [hi']⟩
  · obtain ⟨e, y⟩ := y
    subst e
    obtain ⟨d, e1, e2⟩ := r.getV (y vs s')
    exact ⟨Hb, New.refl Rr.ex, d, e1, e2.mono ex⟩⟩
theorem walks_str {z : Str} {Hb0 : Hp} {σ0 : L2.St} : Walks K (Its z) σ0 Hb0 ⟨signs z, []⟩ := ⟨fun σ ρ Hb H Rr ex hd => by
  have hl : (signs z).length = z.cps.size := by unfold signs; simp
  refine ⟨fun i hi => by rw [hl] at hi; exact hi, (by show z.cps.size ≤ (signs z).length; omega), fun i x H' hi y => ?_⟩
  obtain ⟨e, c, y, q⟩ := y
  subst e
  subst q
  refine ⟨Hb, New.refl Rr.ex, .str ⟨#[c]⟩, ?_, .str _⟩
  show (signs z)[i]? = _
  unfold signs
  rw [List.getElem?_map, Array.getElem?_toList, y]
  rfl⟩
end
theorem thaw_some {m : M Res} {ρ ρ1 : R} {o : Out Res} (e : thaw m ρ = some (o, ρ1)) : (∃ r0, m ρ = some (.ok r0, ρ1) ∧ o = .ok (thawR r0)) ∨ ∃ x, m ρ = some (.exc x, ρ1) ∧ o = .exc x := by
  rcases bnd_some e with ⟨r0, ρ2, e1, e2⟩ | ⟨x, ρ2, e1, e2⟩
  · cases e2
    exact .inl ⟨r0, e1, rfl⟩
  · cases e2
    exact .inr ⟨x, e1, rfl⟩
theorem e_known {K : PySem.W.Frag} {mg : Str → Option Value} {E : XK} {σ : L2.St} {Hb H : Hp} {ρ ρ1 : R} {m : M Res} {r0 : Res} (Rr : Rel K Hb H σ ρ) (em : m ρ = some (.ok r0, ρ1)) :
    tE K mg E m σ H fun v H1 => ∃ Hb1, Rel K Hb1 H1 σ ρ1 ∧ RepA K Hb1 σ [v] [thawR r0] ∧ Go σ ρ Hb H σ ρ1 Hb1 H1 := by
  refine ⟨Hb, ρ, Rr, _, _, em, fun r q σ' Hb1 H1 g R1 es v rep => ?_, fun x q => by cases q⟩
  cases q
  subst es
  obtain ⟨Hb2, g2, R2, _, rep2⟩ := rep_thaw g R1 rep
  refine ⟨Hb2, R2, ?_, g2⟩
  cases r0 with
  | val d => exact .val rep2 .nil
  | fresh xs => exact .val rep2 .nil
  | slot i => exact .slot rep2 .nil
theorem e_exc {K : PySem.W.Frag} {mg : Str → Option Value} {E : XK} {σ : L2.St} {Hb H : Hp} {ρ ρ1 : R} {m : M Res} {x : Exc} {Q : VK} (Rr : Rel K Hb H σ ρ) (em : m ρ = some (.exc x, ρ1))
    (h : ∀ σ' c d Hb' H', Go σ ρ Hb H σ' ρ1 Hb' H' → Rel K Hb' H' σ' ρ1 → ExcR K mg Hb' H' c d x → E c d H') : tE K mg E m σ H Q :=
  ⟨Hb, ρ, Rr, _, _, em, fun r q => (by cases q), fun x' q => by cases q; exact h⟩
section
variable {X : Cx} {E : XK} {tg e : Expr} {m : M Res}
theorem mi_data (h : PE X e (tE X.K X.mg E m)) : PI X tg e (tI X.K X.mg E (mItD m)) := PI_imp (PI_or (PI_or (pi_list h) (pi_tup h)) (pi_str h)) fun σ H Rc w => by
  obtain ⟨Hb, ρ, Rr, out, ρ2, e, h1, h2⟩ := w
  rcases bnd_some e with ⟨r, ρ1, e1, e2⟩ | ⟨x, ρ1, e1, e2⟩
  · rcases thaw_some e1 with ⟨r0, em, q⟩ | ⟨x, _, q⟩
    · cases q
      cases hr : thawR r0 with
      | fresh xs => cases r0 <;> cases hr
      | val d =>
        rw [hr] at e2
        unfold iterD at e2
        split at e2
        · rename_i xs hx
          cases hx
          cases e2
          refine .inl (.inl (tE_mono (e_known Rr em) fun v H1 ⟨Hb1, R1, rx, g1⟩ => ?_))
          rw [hr] at rx
          cases rx with
          | val rp _ =>
            cases rp with
            | @lst a vs _ sq ra =>
              refine ⟨a, rfl, ⟨vs, ex_l R1.ex sq⟩, h1 _ rfl σ Hb1 H1 g1 R1 rfl (fun p hp => by cases hp) _ (walks_list (vs := vs) rfl fun σ ρ Hb H Rr ex _ => ⟨vs, ex_l (ex.trans Rr.ex) sq, ra.mono ex⟩)⟩
        · rename_i xs hx
          cases hx
          cases e2
          refine .inl (.inr (tE_mono (e_known Rr em) fun v H1 ⟨Hb1, R1, rx, g1⟩ => ?_))
          rw [hr] at rx
          cases rx with
          | val rp _ =>
            cases rp with
            | @tup a vs _ sq ra => exact ⟨a, rfl, ⟨vs, ex_t R1.ex sq⟩, h1 _ rfl σ Hb1 H1 g1 R1 rfl (fun p hp => by cases hp) _ (walks_tup sq ra)⟩
        · rename_i z hx
          cases hx
          cases e2
          refine .inr (tE_mono (e_known Rr em) fun v H1 ⟨Hb1, R1, rx, g1⟩ => ?_)
          rw [hr] at rx
          cases rx with
          | val rp _ => exact ⟨z, rp.str_inv, h1 _ rfl σ Hb1 H1 g1 R1 rfl (fun p hp => by cases hp) _ walks_str⟩
        · rename_i hx
          cases hx
        · cases e2
      | slot j =>
        rw [hr] at e2
        -- a list that the slot owns is locked
        have own : ∀ {md md' : Md} {xs : List D}, ρ1[j]? = some (some ⟨md, .list xs⟩) → Md.isOwn md = true → Md.isLk md = false → Md.isLk md' = true → Md.isOwn md' = true → Md.isIo md' = Md.isIo md → out = .ok ⟨xs, [(j, .list xs)]⟩ → ρ2 = ρ1.set j (some ⟨md', .list xs⟩) →
            iList X.K (tE X.K X.mg E m) σ H Rc := by
          intro md md' xs hj ho hl hl' ho' hio hO hρ
          subst hO
          subst hρ
          refine tE_mono (e_known Rr em) fun v H1 ⟨Hb1, R1, rx, g1⟩ => ?_
          rw [hr] at rx
          obtain ⟨g2, R2⟩ := lock_go R1 ho hl ho' hio hj
          obtain ⟨a, vs, xs', q1, q2, q3, q4, q5⟩ := R1.own j _ hj ho
          cases q2
          have ev : v = .ref a := by
            cases rx with
            | slot h _ => rw [q1] at h; cases h; rfl
          subst ev
          have hjl : j < ρ1.length := (List.getElem?_eq_some_iff.mp hj).1
          refine ⟨a, rfl, ⟨vs, SqL.of q4⟩, h1 _ rfl σ Hb1 H1 (g1.trans g2) R2 rfl (fun p hp => ?_) _ (walks_list (vs := vs) rfl fun σ' ρ' Hb' H' R' ex hd => ?_)⟩
          · rcases List.mem_cons.mp hp with e | e
            · subst e
              exact ⟨rfl, md', hl', List.getElem?_set_self hjl⟩
            · cases e
          · obtain ⟨e1, m3, w1, w2⟩ := hd (j, .list xs) List.mem_cons_self
            have ow : Md.isOwn m3 = true := by cases m3 <;> first | rfl | cases w1
            obtain ⟨b, us, ys, z1, z2, z3, z4, z5⟩ := R'.own j _ w2 ow
            cases z2
            have e1 : σ'[j]? = σ[j]? := e1
            rw [e1, q1] at z1
            cases z1
            exact ⟨us, SqL.of z4, z5⟩
        unfold iterD at e2
        dsimp only at e2
        split at e2
        · rename_i xs hj
          cases e2
          exact .inl (.inl (own (md' := .lock) hj rfl rfl rfl rfl rfl rfl rfl))
        · rename_i xs hj
          cases e2
          exact .inl (.inl (own (md' := .iol) hj rfl rfl rfl rfl rfl rfl rfl))
        · rename_i xs hj
          cases e2
          refine .inl (.inl (tE_mono (e_known Rr em) fun v H1 ⟨Hb1, R1, rx, g1⟩ => ?_))
          rw [hr] at rx
          obtain ⟨w, q1, q2⟩ := R1.val j _ hj rfl
          have ev : v = w := by
            cases rx with
            | slot h _ => rw [q1] at h; cases h; rfl
          subst ev
          cases q2 with
          | @lst a vs _ sq ra =>
            refine ⟨a, rfl, ⟨vs, ex_l R1.ex sq⟩, h1 _ rfl σ Hb1 H1 g1 R1 rfl (fun p hp => by cases hp) _ (walks_list (vs := vs) rfl fun σ ρ Hb H Rr ex _ => ⟨vs, ex_l (ex.trans Rr.ex) sq, ra.mono ex⟩)⟩
        · cases e2
    · cases q
  · cases e2
    rcases thaw_some e1 with ⟨r0, em, q⟩ | ⟨x', em, q⟩
    · cases q
    · cases q
      exact .inl (.inl (e_exc Rr em (h2 _ rfl)))
end
end Mi

/-! Mi: ranges; comprehensions. -/
namespace Mi
open PySem L2 Evl PySem.Spec

def rangeD (lo : Int) (n : Nat) : List D := (List.range n).map fun i => .int (lo + (i : Nat))
def in62 (i : Int) : Bool := decide (-(2 ^ 62) ≤ i ∧ i < 2 ^ 62)
def rng1 (rs : List Res) : M Itd := fun ρ => match rs with
  | [.val (.int n)] => if in62 n then some (.ok ⟨rangeD 0 n.toNat, []⟩, ρ) else none
  | _ => none
def rng2 (rs : List Res) : M Itd := fun ρ => match rs with
  | [.val (.int a), .val (.int b)] => if in62 a && in62 b then some (.ok ⟨rangeD a (b - a).toNat, []⟩, ρ) else none
  | _ => none
def mRng1 (as : M (List Res)) : M Itd := bnd as rng1
def mRng2 (as : M (List Res)) : M Itd := bnd as rng2
theorem walks_rng {K : PySem.W.Frag} {lo : Int} {n : Nat} {Hb0 : Hp} {σ0 : L2.St} : Walks K (Itr lo n) σ0 Hb0 ⟨rangeD lo n, []⟩ := ⟨fun σ ρ Hb H Rr ex hd => by
  have hl : (rangeD lo n).length = n := by unfold rangeD; simp
  refine ⟨fun i hi => by rw [hl] at hi; exact hi, (by show n ≤ (rangeD lo n).length; omega), fun i x H' hi y => ?_⟩
  obtain ⟨e, y⟩ := y
  subst e
  subst y
  rw [hl] at hi
  refine ⟨Hb, New.refl Rr.ex, .int (lo + (i : Nat)), ?_, .int _⟩
  show (rangeD lo n)[i]? = _
  unfold rangeD
  rw [List.getElem?_map, List.getElem?_range hi]
  rfl⟩
section
variable {X : Cx} {E : XK} {tg a b : Expr} {p pos : Pos} {mr : M (List Res)}
theorem mi_rng1 (hg : Gl X "range") (hm : X.mg "range" = none) (ha : PA X [a] (tA X.K X.mg E mr)) (hs : starEach [a] X.env = [(false, eval a X.env)] := by rfl) : PI X tg (.Call (.Name "range" p) [a] [] pos) (tI X.K X.mg E (mRng1 mr)) :=
  PI_imp (pi_range1 hg hm ha hs) fun σ H Rc w => by
  obtain ⟨Hb, ρ, Rr, S⟩ := w
  refine tA_mono (e_args Rr S) fun vs H1 ⟨Hb1, ρ1, rs, R1, rr, g1, out, ρ2, e, h1, _⟩ => ?_
  unfold rng1 at e
  split at e
  · rename_i n
    split at e
    · rename_i c
      cases e
      have c := of_decide_eq_true c
      cases rr with
      | val rp r2 =>
        cases r2
        exact ⟨n, by rw [rp.int_inv], c.1, c.2, h1 _ rfl σ Hb1 H1 Go.refl R1 g1 rfl (fun p hp => by cases hp) _ walks_rng⟩
    · cases e
  · cases e
theorem mi_rng2 (hg : Gl X "range") (hm : X.mg "range" = none) (ha : PA X [a, b] (tA X.K X.mg E mr)) (hs : starEach [a, b] X.env = [(false, eval a X.env), (false, eval b X.env)] := by rfl) (hs2 : starEach [b] X.env = [(false, eval b X.env)] := by rfl) : PI X tg (.Call (.Name "range" p) [a, b] [] pos) (tI X.K X.mg E (mRng2 mr)) :=
  PI_imp (pi_range2 hg hm ha hs hs2) fun σ H Rc w => by
  obtain ⟨Hb, ρ, Rr, S⟩ := w
  refine tA_mono (e_args Rr S) fun vs H1 ⟨Hb1, ρ1, rs, R1, rr, g1, out, ρ2, e, h1, _⟩ => ?_
  unfold rng2 at e
  split at e
  · rename_i i j
    split at e
    · rename_i c
      cases e
      rw [Bool.and_eq_true] at c
      have c1 := of_decide_eq_true c.1
      have c2 := of_decide_eq_true c.2
      cases rr with
      | val rp r2 =>
        cases r2 with
        | val rp2 r3 =>
          cases r3
          exact ⟨i, j, by rw [rp.int_inv, rp2.int_inv], ⟨c1.1, c1.2, c2.1, c2.2⟩, h1 _ rfl σ Hb1 H1 Go.refl R1 g1 rfl (fun p hp => by cases hp) _ walks_rng⟩
    · cases e
  · cases e
end

/-! ### comprehensions -/
def wipeR (ρ : R) : List Nat → R
  | [] => ρ
  | v :: vs => (wipeR ρ vs).set v none
def restR (ρ0 ρ : R) : List Nat → R
  | [] => ρ
  | v :: vs => match ρ0[v]? with
    | some s => (restR ρ0 ρ vs).set v s
    | none => restR ρ0 ρ vs
def loopC (g : D → M Unit) (t : M Bool) (e : M Res) (vs : List Nat) : List D → R → List D → Option (List D × R)
  | [], ρ, acc => some (acc, ρ)
  | d :: ds, ρ, acc => match g d ρ with
    | some (.ok _, ρa) => match t ρa with
      | some (.ok true, ρb) => match mVal e ρb with
        | some (.ok y, ρc) => if acc.length < sizeLine then loopC g t e vs ds (wipeR ρc vs) (acc ++ [y]) else none
        | _ => none
      | some (.ok false, ρb) => loopC g t e vs ds (wipeR ρb vs) acc
      | _ => none
    | _ => none
def mLc (it : M Itd) (g : D → M Unit) (t : M Bool) (e : M Res) (vs : List Nat) : M Res := bnd (chk it) fun I => fun ρ1 => if (I.lk.all fun p => !vs.contains p.1) = true then match loopC g t e vs I.items (wipeR ρ1 vs) [] with
  | some (xs, ρe) => (bnd (unlock I.lk) fun _ => ret (.fresh xs)) (restR ρ1 ρe vs)
  | none => none else none
section
variable {ρ ρ0 : R} {σ : L2.St} {vs : List Nat}
theorem wipeR_get {i : Nat} {s : Slot} : ∀ {vs : List Nat}, (wipeR ρ vs)[i]? = some (some s) → ρ[i]? = some (some s) ∧ i ∉ vs
  | [], h => ⟨h, by simp⟩
  | v :: vs, h => by
    unfold wipeR at h
    rcases get_set h with ⟨_, z⟩ | ⟨ne, z⟩
    · cases z
    · obtain ⟨h1, h2⟩ := wipeR_get z
      exact ⟨h1, by simp only [List.mem_cons, not_or]; exact ⟨ne, h2⟩⟩
theorem wipeR_of {i : Nat} : ∀ {vs : List Nat}, i ∉ vs → (wipeR ρ vs)[i]? = ρ[i]?
  | [], _ => rfl
  | v :: vs, h => by
    unfold wipeR
    simp only [List.mem_cons, not_or] at h
    rw [List.getElem?_set_ne (Ne.symm h.1), wipeR_of h.2]
theorem wipeR_len : ∀ vs : List Nat, (wipeR ρ vs).length = ρ.length
  | [] => rfl
  | v :: vs => by unfold wipeR; rw [List.length_set, wipeR_len vs]
theorem wipe_of {i : Nat} : ∀ {vs : List Nat}, i ∉ vs → (wipe σ vs)[i]? = σ[i]?
  | [], _ => rfl
  | v :: vs, h => by
    unfold wipe
    simp only [List.mem_cons, not_or] at h
    rw [List.getElem?_set_ne (Ne.symm h.1), wipe_of h.2]
theorem restR_len : ∀ vs : List Nat, (restR ρ0 ρ vs).length = ρ.length
  | [] => rfl
  | v :: vs => by
    unfold restR
    split
    · rw [List.length_set, restR_len vs]
    · exact restR_len vs
theorem restR_get {i : Nat} {s : Slot} : ∀ {vs : List Nat}, (restR ρ0 ρ vs)[i]? = some (some s) → (i ∉ vs ∧ ρ[i]? = some (some s)) ∨ (i ∈ vs ∧ ρ0[i]? = some (some s)) ∨ (i ∈ vs ∧ ρ0[i]? = none)
  | [], h => .inl ⟨by simp, h⟩
  | v :: vs, h => by
    unfold restR at h
    split at h
    · rename_i t ht
      rcases get_set h with ⟨e, z⟩ | ⟨ne, z⟩
      · subst e
        exact .inr (.inl ⟨List.mem_cons_self, by rw [ht, z]⟩)
      · rcases restR_get z with ⟨h1, h2⟩ | ⟨h1, h2⟩ | ⟨h1, h2⟩
        · exact .inl ⟨by simp only [List.mem_cons, not_or]; exact ⟨ne, h1⟩, h2⟩
        · exact .inr (.inl ⟨List.mem_cons_of_mem _ h1, h2⟩)
        · exact .inr (.inr ⟨List.mem_cons_of_mem _ h1, h2⟩)
    · rename_i hn
      by_cases e : i = v
      · subst e
        exact .inr (.inr ⟨List.mem_cons_self, hn⟩)
      · rcases restR_get h with ⟨h1, h2⟩ | ⟨h1, h2⟩ | ⟨h1, h2⟩
        · exact .inl ⟨by simp only [List.mem_cons, not_or]; exact ⟨e, h1⟩, h2⟩
        · exact .inr (.inl ⟨List.mem_cons_of_mem _ h1, h2⟩)
        · exact .inr (.inr ⟨List.mem_cons_of_mem _ h1, h2⟩)
theorem restR_of {i : Nat} : ∀ {vs : List Nat}, i ∉ vs → (restR ρ0 ρ vs)[i]? = ρ[i]?
  | [], _ => rfl
  | v :: vs, h => by
    unfold restR
    simp only [List.mem_cons, not_or] at h
    split
    · rw [List.getElem?_set_ne (Ne.symm h.1), restR_of h.2]
    · exact restR_of h.2
theorem restR_in {i : Nat} {s : Option Slot} : ∀ {vs : List Nat}, i ∈ vs → ρ0[i]? = some s → i < ρ.length → (restR ρ0 ρ vs)[i]? = some s
  | v :: vs, h, hs, hl => by
    unfold restR
    by_cases e : i = v
    · subst e
      rw [hs]
      exact List.getElem?_set_self (by rw [restR_len]; exact hl)
    · have hm : i ∈ vs := by
        rcases List.mem_cons.mp h with z | z
        · exact absurd z e
        · exact z
      split
      · rw [List.getElem?_set_ne (Ne.symm e)]
        exact restR_in hm hs hl
      · exact restR_in hm hs hl
theorem wipe_idem : ∀ vs : List Nat, wipe (wipe σ vs) vs = wipe σ vs := by
  intro vs
  refine List.ext_getElem? fun i => ?_
  have key : ∀ (τ : L2.St) (ws : List Nat), (wipe τ ws)[i]? = if i ∈ ws then (if i < τ.length then some none else none) else τ[i]? := by
    intro τ ws
    induction ws with
    | nil => simp [wipe]
    | cons w ws ih =>
      unfold wipe
      by_cases e : w = i
      · subst e
        by_cases hl : w < (wipe τ ws).length
        · rw [List.getElem?_set_self hl]
          rw [wipe_length] at hl
          simp [hl]
        · rw [List.getElem?_eq_none (by rw [List.length_set]; omega)]
          rw [wipe_length] at hl
          simp [hl]
      · rw [List.getElem?_set_ne e, ih]
        by_cases hm : i ∈ ws
        · simp [hm, Ne.symm e]
        · simp [hm, Ne.symm e]
  rw [key, key, wipe_length]
  by_cases h : i ∈ vs
  · simp [h]
  · simp only [if_neg h]
theorem wipe_set {i : Nat} {x : Option V} : ∀ {vs : List Nat}, i ∈ vs → wipe (σ.set i x) vs = wipe σ vs := by
  intro vs hm
  refine List.ext_getElem? fun j => ?_
  have key : ∀ (τ : L2.St) (ws : List Nat), (wipe τ ws)[j]? = if j ∈ ws then (if j < τ.length then some none else none) else τ[j]? := by
    intro τ ws
    induction ws with
    | nil => simp [wipe]
    | cons w ws ih =>
      unfold wipe
      by_cases e : w = j
      · subst e
        by_cases hl : w < (wipe τ ws).length
        · rw [List.getElem?_set_self hl]
          rw [wipe_length] at hl
          simp [hl]
        · rw [List.getElem?_eq_none (by rw [List.length_set]; omega)]
          rw [wipe_length] at hl
          simp [hl]
      · rw [List.getElem?_set_ne e, ih]
        by_cases hm : j ∈ ws
        · simp [hm, Ne.symm e]
        · simp [hm, Ne.symm e]
  rw [key, key, List.length_set]
  by_cases h : j ∈ vs
  · simp [h]
  · have ne : j ≠ i := fun e => h (e ▸ hm)
    rw [if_neg h, if_neg h, List.getElem?_set_ne (Ne.symm ne)]
end
section
variable {K : PySem.W.Frag} {mg : Str → Option Value} {E : XK} {σ σ2 : L2.St} {Hb H Hb' H' : Hp} {ρ ρ1 ρ2 : R} {vs : List Nat}
theorem own_wipe {a : Addr} (h : Own (wipe σ vs) (wipeR ρ vs) a) : Own σ ρ a := by
  obtain ⟨i, s, h1, h2, h3⟩ := h
  obtain ⟨z1, z2⟩ := wipeR_get h1
  exact ⟨i, s, z1, h2, by rw [← wipe_of z2]; exact h3⟩
theorem rel_wipe (Rr : Rel K Hb H σ ρ) : Rel K Hb H (wipe σ vs) (wipeR ρ vs) where
  len := by rw [wipe_length, wipeR_len]; exact Rr.len
  ex := Rr.ex
  val := fun i s h1 h2 => by
    obtain ⟨z1, z2⟩ := wipeR_get h1
    rw [wipe_of z2]
    exact Rr.val i s z1 h2
  own := fun i s h1 h2 => by
    obtain ⟨z1, z2⟩ := wipeR_get h1
    rw [wipe_of z2]
    exact Rr.own i s z1 h2
  inj := fun i j s t a h1 h2 h3 h4 h5 h6 => by
    obtain ⟨z1, z2⟩ := wipeR_get h1
    obtain ⟨z3, z4⟩ := wipeR_get h2
    rw [wipe_of z2] at h5
    rw [wipe_of z4] at h6
    exact Rr.inj i j s t a z1 z3 h3 h4 h5 h6
/-- a turn's end: the block's own names are forgotten again -/
theorem go_wipe (g : Go (wipe σ vs) (wipeR ρ1 vs) Hb H σ2 ρ2 Hb' H') (e : wipe σ2 vs = wipe σ vs) : Go (wipe σ vs) (wipeR ρ1 vs) Hb H (wipe σ vs) (wipeR ρ2 vs) Hb' H' where
  b := g.b
  k := g.k
  f := g.f
  t := g.t
  o := fun a h => g.o a (own_wipe (by rw [e]; exact h))
  io := fun i s h1 h2 => by
    obtain ⟨e1, s', e2, e3⟩ := g.io i s h1 h2
    obtain ⟨_, z⟩ := wipeR_get h1
    exact ⟨rfl, s', by rw [wipeR_of z]; exact e2, e3⟩
  lk := fun i s h1 h2 => by
    obtain ⟨e1, e2⟩ := g.lk i s h1 h2
    obtain ⟨_, z⟩ := wipeR_get h1
    exact ⟨rfl, by rw [wipeR_of z]; exact e2⟩
/-- behind the block -/
theorem rest_state {ρe : R} (Rr : Rel K Hb H σ ρ1) (g : Go (wipe σ vs) (wipeR ρ1 vs) Hb H (wipe σ vs) ρe Hb' H') (Re : Rel K Hb' H' (wipe σ vs) ρe) (hv : ∀ i s, ρe[i]? = some (some s) → i ∉ vs) :
    Go σ ρ1 Hb H σ (restR ρ1 ρe vs) Hb' H' ∧ Rel K Hb' H' σ (restR ρ1 ρe vs) := by
  have lens : ρe.length = ρ1.length := by
    have := Re.len
    rw [wipe_length, Rr.len] at this
    exact this.symm
  have get : ∀ {i : Nat} {s : Slot}, (restR ρ1 ρe vs)[i]? = some (some s) → (i ∉ vs ∧ ρe[i]? = some (some s)) ∨ (i ∈ vs ∧ ρ1[i]? = some (some s)) := fun {i s} h => by
    rcases restR_get h with z | z | ⟨z1, z2⟩
    · exact .inl z
    · exact .inr z
    · rw [List.getElem?_eq_none_iff] at z2
      have := (List.getElem?_eq_some_iff.mp h).1
      rw [restR_len, lens] at this
      omega
  have inOwn : ∀ {i : Nat} {s : Slot} {a : Addr}, i ∈ vs → ρ1[i]? = some (some s) → s.m.isOwn = true → σ[i]? = some (some (.ref a)) → ¬ Own (wipe σ vs) (wipeR ρ1 vs) a := fun {i s a} hm h1 h2 h3 ⟨j, t, q1, q2, q3⟩ => by
    obtain ⟨z1, z2⟩ := wipeR_get q1
    rw [wipe_of z2] at q3
    have := Rr.inj i j s t a h1 z1 h2 q2 h3 q3
    subst this
    exact z2 hm
  refine ⟨⟨g.b, fun a o h n => g.k a o h fun z => n (own_wipe z), fun a h1 h2 => (g.f a h1 h2).imp id own_wipe, g.t, fun a ⟨i, s, h1, h2, h3⟩ => ?_, fun i s h1 h2 => ⟨rfl, ?_⟩, fun i s h1 h2 => ⟨rfl, ?_⟩⟩, ⟨by rw [restR_len, lens]; exact Rr.len, Re.ex, fun i s h1 h2 => ?_, fun i s h1 h2 => ?_, fun i j s t a h1 h2 h3 h4 h5 h6 => ?_⟩⟩
  · rcases get h1 with ⟨z1, z2⟩ | ⟨z1, z2⟩
    · rcases g.o a ⟨i, s, z2, h2, by rw [wipe_of z1]; exact h3⟩ with w | w
      · exact .inl (own_wipe w)
      · exact .inr w
    · exact .inl ⟨i, s, z2, h2, h3⟩
  · by_cases hm : i ∈ vs
    · exact ⟨s, restR_in hm h1 (by rw [lens]; exact (List.getElem?_eq_some_iff.mp h1).1), h2⟩
    · obtain ⟨_, s', e2, e3⟩ := g.io i s (by rw [wipeR_of hm]; exact h1) h2
      exact ⟨s', by rw [restR_of hm]; exact e2, e3⟩
  · by_cases hm : i ∈ vs
    · exact restR_in hm h1 (by rw [lens]; exact (List.getElem?_eq_some_iff.mp h1).1)
    · obtain ⟨_, e2⟩ := g.lk i s (by rw [wipeR_of hm]; exact h1) h2
      rw [restR_of hm]; exact e2
  · rcases get h1 with ⟨z1, z2⟩ | ⟨z1, z2⟩
    · obtain ⟨v, e1, e2⟩ := Re.val i s z2 h2
      exact ⟨v, by rw [← wipe_of z1]; exact e1, e2⟩
    · obtain ⟨v, e1, e2⟩ := Rr.val i s z2 h2
      exact ⟨v, e1, e2.mono g.b⟩
  · rcases get h1 with ⟨z1, z2⟩ | ⟨z1, z2⟩
    · obtain ⟨a, ws, xs, e1, e2⟩ := Re.own i s z2 h2
      exact ⟨a, ws, xs, by rw [← wipe_of z1]; exact e1, e2⟩
    · obtain ⟨a, ws, xs, e1, e2, e3, e4, e5⟩ := Rr.own i s z2 h2
      have no := inOwn z1 z2 h2 e1
      refine ⟨a, ws, xs, e1, e2, ?_, g.k a _ e4 no, e5.mono g.b⟩
      refine Classical.byContradiction fun q => ?_
      rcases g.f a e3 q with w | w
      · rw [e4] at w; cases w
      · exact no w
  · have cross : ∀ {i j : Nat} {s t : Slot}, i ∉ vs → ρe[i]? = some (some s) → s.m.isOwn = true → σ[i]? = some (some (.ref a)) → j ∈ vs → ρ1[j]? = some (some t) → t.m.isOwn = true → σ[j]? = some (some (.ref a)) → False := fun {i j s t} q1 q2 q3 q4 q5 q6 q7 q8 => by
      rcases g.o a ⟨i, s, q2, q3, by rw [wipe_of q1]; exact q4⟩ with w | w
      · exact inOwn q5 q6 q7 q8 w
      · obtain ⟨_, ws, z⟩ := Rr.owned ⟨j, t, q6, q7, q8⟩
        rw [w] at z; cases z
    rcases get h1 with ⟨z1, z2⟩ | ⟨z1, z2⟩
    · rcases get h2 with ⟨z3, z4⟩ | ⟨z3, z4⟩
      · exact Re.inj i j s t a z2 z4 h3 h4 (by rw [wipe_of z1]; exact h5) (by rw [wipe_of z3]; exact h6)
      · exact (cross z1 z2 h3 h5 z3 z4 h4 h6).elim
    · rcases get h2 with ⟨z3, z4⟩ | ⟨z3, z4⟩
      · exact (cross z3 z4 h4 h6 z1 z2 h3 h5).elim
      · exact Rr.inj i j s t a z2 z4 h3 h4 h5 h6
end

section
variable {K : PySem.W.Frag} {mg : Str → Option Value} {E : XK} {σ : L2.St} {H : Hp} {vs : List Nat}
/-- a step's end at an object that is neither frozen nor owned, and that was not at the base -/
theorem put_state {σ0 : L2.St} {ρ0 ρ : R} {Hb0 H0 Hb H : Hp} {σ : L2.St} {D : Addr} {o : HO} (g : Go σ0 ρ0 Hb0 H0 σ ρ Hb H) (Rr : Rel K Hb H σ ρ) (h0 : H0 D = none) (hb : Hb D = none) (ho : ¬ Own σ ρ D) :
    Go σ0 ρ0 Hb0 H0 σ ρ Hb (upd H D o) ∧ Rel K Hb (upd H D o) σ ρ := by
  have ne : ∀ {a : Addr} {x : HO}, Hb a = some x → a ≠ D := fun h e => by rw [e, hb] at h; cases h
  refine ⟨⟨g.b, fun a x h n => ?_, g.f, fun a h => ?_, g.o, g.io, g.lk⟩, ⟨Rr.len, fun a x h => ?_, Rr.val, fun i s h1 h2 => ?_, Rr.inj⟩⟩
  · rw [upd_ne (fun e => by rw [e, h0] at h; cases h)]
    exact g.k a x h n
  · by_cases e : a = D
    · rw [e, upd_same]; simp
    · rw [upd_ne e]; exact g.t a h
  · rw [upd_ne (ne h)]; exact Rr.ex a x h
  · obtain ⟨a, ws, xs, e1, e2, e3, e4, e5⟩ := Rr.own i s h1 h2
    exact ⟨a, ws, xs, e1, e2, e3, by rw [upd_ne fun e => ho ⟨i, s, h1, h2, by rw [← e]; exact e1⟩]; exact e4, e5⟩
theorem wipeR_no {ρ : R} : ∀ i s, (wipeR ρ vs)[i]? = some (some s) → i ∉ vs := fun _ _ h => (wipeR_get h).2
theorem lc_read {it : M Itd} {g : D → M Unit} {t : M Bool} {e : M Res} {Q : VK} (w : tE K mg E (mLc it g t e vs) σ H Q) :
    tLc (tI K mg E (chk it)) (tGt K mg E0 (fun σ σ' => wipe σ' vs = wipe σ vs) g) (tT K mg E0 t) (tE K mg E0 e) vs σ H Q := by
  obtain ⟨Hb, ρ, Rr, out, ρ2, er, h1, h2⟩ := w
  rcases bnd_some er with ⟨I, ρ1, e1, e2⟩ | ⟨x, ρ1, e1, e2⟩
  · obtain ⟨nd, wf⟩ := (chk_ok it).nd ρ I ρ1 e1
    refine ⟨Hb, ρ, Rr, _, _, e1, fun I' q σ1 Hb1 H1 g1 R1 es hd J wk => ?_, fun x q => by cases q⟩
    cases q
    subst es
    intro D hD
    -- the checks
    by_cases hv : (I.lk.all fun p => !vs.contains p.1) = true
    case neg => rw [if_neg hv] at e2; cases e2
    rw [if_pos hv] at e2
    have hv' : ∀ p ∈ I.lk, p.1 ∉ vs := fun p hp z => by
      have := List.all_eq_true.mp hv p hp
      simp [z] at this
    have hdw : Held σ1 I (wipe σ1 vs) (wipeR ρ1 vs) := fun p hp => by
      obtain ⟨z1, m, z2, z3⟩ := hd p hp
      exact ⟨by rw [wipe_of (hv' p hp)], m, z2, by rw [wipeR_of (hv' p hp)]; exact z3⟩
    generalize hl : loopC g t e vs I.items (wipeR ρ1 vs) [] = lr at e2
    cases lr with
    | none => cases e2
    | some pr =>
    obtain ⟨xs, ρe⟩ := pr
    have Rw := rel_wipe (vs := vs) R1
    have hDb : Hb1 D = none := by
      cases z : Hb1 D with
      | none => rfl
      | some o => have := R1.ex D o z; rw [hD] at this; cases this
    have noOwn : ∀ {σ' : L2.St} {ρ' : R} {H' : Hp}, Rel K Hb1 H1 σ' ρ' → ¬ Own σ' ρ' D := fun Rz z => by
      obtain ⟨_, ws, q⟩ := Rz.owned z
      rw [hD] at q; cases q
    refine ⟨fun i m H' => m = I.items.length - i ∧ i ≤ I.items.length ∧ ∃ Hb' ρ' avs acc, Rel K Hb' H' (wipe σ1 vs) ρ' ∧ Go (wipe σ1 vs) (wipeR ρ1 vs) Hb1 H1 (wipe σ1 vs) ρ' Hb' H' ∧ (∀ i s, ρ'[i]? = some (some s) → i ∉ vs) ∧
      H' D = some (.lst avs) ∧ RpAll K Hb' avs acc ∧ Hb' D = none ∧ ¬ Own (wipe σ1 vs) ρ' D ∧ loopC g t e vs (I.items.drop i) ρ' acc = some (xs, ρe), ⟨_, rfl, Nat.zero_le _, ?_⟩, ?_⟩
    · obtain ⟨q1, q2⟩ := put_state (o := .lst []) (Go.refl (σ := wipe σ1 vs) (ρ := wipeR ρ1 vs)) Rw hD hDb (noOwn (H' := H1) Rw)
      exact ⟨Hb1, wipeR ρ1 vs, [], [], q2, q1, wipeR_no, upd_same, .nil, hDb, noOwn (H' := H1) Rw, by rw [List.drop_zero]; exact hl⟩
    rintro i m H' ⟨rfl, hi, Hb', ρ', avs, acc, R', g', nv, hDl, ra, hDb', hDo, e'⟩
    have hh := held_go g' hdw
    obtain ⟨wgo, wstop, wy⟩ := wk.at' (wipe σ1 vs) ρ' Hb' H' R' g'.b hh
    by_cases c : i < I.items.length
    · refine .inr ⟨wgo i c, fun H3 => i + 1 ≤ I.items.length ∧ ∃ Hb' ρ' avs acc, Rel K Hb' H3 (wipe σ1 vs) ρ' ∧ Go (wipe σ1 vs) (wipeR ρ1 vs) Hb1 H1 (wipe σ1 vs) ρ' Hb' H3 ∧ (∀ i s, ρ'[i]? = some (some s) → i ∉ vs) ∧
        H3 D = some (.lst avs) ∧ RpAll K Hb' avs acc ∧ Hb' D = none ∧ ¬ Own (wipe σ1 vs) ρ' D ∧ loopC g t e vs (I.items.drop (i + 1)) ρ' acc = some (xs, ρe), fun H3 q => ⟨I.items.length - (i + 1), by omega, rfl, q⟩, fun x H'' y => ?_⟩
      obtain ⟨Hb'', n, d, hd', rp⟩ := wy i x H'' c y
      have ed : I.items.drop i = d :: I.items.drop (i + 1) := by
        rw [List.drop_eq_getElem_cons c]
        rw [List.getElem?_eq_getElem c] at hd'
        cases hd'
        rfl
      rw [ed] at e'
      have gn := n.go (σ := wipe σ1 vs) (ρ := ρ')
      have gn' := g'.trans gn
      -- D over a step
      have keepD : ∀ {σa σb : L2.St} {ρa ρb : R} {Ha Hc Hba Hbc : Hp} {o : HO}, Go σa ρa Hba Ha σb ρb Hbc Hc → Ha D = some o → Hba D = none → ¬ Own σa ρa D → Hc D = some o ∧ Hbc D = none ∧ ¬ Own σb ρb D := fun {σa σb ρa ρb Ha Hc Hba Hbc o} gg z1 z2 z3 => by
        refine ⟨gg.k D o z1 z3, ?_, fun z => ?_⟩
        · refine Classical.byContradiction fun q => ?_
          rcases gg.f D z2 q with u | u
          · rw [z1] at u; cases u
          · exact z3 u
        · rcases gg.o D z with u | u
          · exact z3 u
          · rw [z1] at u; cases u
      unfold loopC at e'
      split at e'
      case h_2 => cases e'
      rename_i ua ρa ea
      refine ⟨Hb'', ρ', d, n.rel R', rp, _, _, ea, fun u' q σ2 Hb2 H2 g2 R2 w2 => ?_, fun x q => by cases q⟩
      have w2 : wipe σ2 vs = wipe σ1 vs := by rw [w2, wipe_idem]
      have ga := gn.trans g2
      refine ⟨w2, Hb2, ρa, R2, ?_⟩
      split at e'
      case h_3 => cases e'
      · rename_i ρb eb
        refine ⟨_, _, eb, fun b q σ3 Hb3 H3 g3 R3 es => ?_, fun x q => by cases q⟩
        cases q
        subst es
        rw [if_pos rfl]
        split at e'
        case h_2 => cases e'
        rename_i y ρc ec
        split at e'
        case isFalse => cases e'
        rename_i csz
        have S4 : Sat K mg E0 σ3 Hb3 H3 ρb (bnd (mVal e) fun d => ret d) fun d' σ' ρ' Hb' H' => d' = y ∧ ρ' = ρc := by
          refine ⟨.ok y, ρc, ?_, fun a q => ?_, fun x q => by cases q⟩
          · unfold bnd; rw [ec]; rfl
          · cases q; exact fun _ _ _ _ _ => ⟨rfl, rfl⟩
        refine tE_mono (e_val R3 S4) fun v H4 ⟨Hb4, ρ4, d4, R4, rp4, g4, S5⟩ => ?_
        obtain ⟨rfl, rfl⟩ := S5.ret R4 g4
        have gb := (ga.trans g3).trans g4
        obtain ⟨k1, k2, k3⟩ := keepD gb hDl hDb' hDo
        have raa := ra.mono gb.b
        refine ⟨avs, k1, by rw [raa.length]; exact csz, c, ?_⟩
        have gfull := go_wipe (g'.trans gb) w2
        have Rfull : Rel K Hb4 H4 (wipe σ1 vs) (wipeR ρ4 vs) := by rw [← w2]; exact rel_wipe R4
        have no4 : ¬ Own (wipe σ1 vs) (wipeR ρ4 vs) D := fun z => k3 (own_wipe (by rw [w2]; exact z))
        obtain ⟨q1, q2⟩ := put_state (o := .lst (avs ++ [v])) gfull Rfull hD k2 no4
        exact ⟨Hb4, wipeR ρ4 vs, avs ++ [v], acc ++ [d4], q2, q1, wipeR_no, upd_same, raa.append (.cons rp4 .nil), k2, no4, e'⟩
      · rename_i ρb eb
        refine ⟨_, _, eb, fun b q σ3 Hb3 H3 g3 R3 es => ?_, fun x q => by cases q⟩
        cases q
        subst es
        rw [if_neg (by decide)]
        have gb := ga.trans g3
        obtain ⟨k1, k2, k3⟩ := keepD gb hDl hDb' hDo
        have gfull := go_wipe (g'.trans gb) w2
        have Rfull : Rel K Hb3 H3 (wipe σ1 vs) (wipeR ρb vs) := by rw [← w2]; exact rel_wipe R3
        have no4 : ¬ Own (wipe σ1 vs) (wipeR ρb vs) D := fun z => k3 (own_wipe (by rw [w2]; exact z))
        exact ⟨c, Hb3, wipeR ρb vs, avs, acc, Rfull, gfull, wipeR_no, k1, ra.mono gb.b, k2, no4, e'⟩
    · have ei : i = I.items.length := by omega
      subst ei
      refine .inl ⟨wstop, ?_⟩
      rw [List.drop_length] at e'
      cases e'
      obtain ⟨gr, Rz⟩ := rest_state R1 g' R' nv
      have hh2 := held_go gr hd
      rcases bnd_some e2 with ⟨u, ρ3, f1, f2⟩ | ⟨x, ρ3, f1, f2⟩
      · obtain ⟨_, z2, z3, z4⟩ := unlock_go (g1.trans gr) Rz wf (fun p hp => (hh2 p hp).2) nd f1
        cases f2
        refine h1 _ rfl σ1 Hb' H' z2 z3 rfl (.ref D) ⟨D, avs, rfl, hDb', hDl, ra, ?_, fun z => ?_⟩
        · exact Classical.byContradiction fun z => g1.t D z hD
        · have hz := z4 D z
          rcases gr.o D hz with q | q
          · exact noOwn (H' := H1) R1 q
          · obtain ⟨i, s, q1, q2, q3⟩ := hz
            rcases restR_get q1 with ⟨p1, p2⟩ | ⟨p1, p2⟩ | ⟨p1, p2⟩
            · exact hDo ⟨i, s, p2, q2, by rw [wipe_of p1]; exact q3⟩
            · exact noOwn (H' := H1) R1 ⟨i, s, p2, q2, q3⟩
            · rw [List.getElem?_eq_none_iff] at p2
              have l1 := R1.len
              have := (List.getElem?_eq_some_iff.mp q3).1
              omega
      · obtain ⟨z1, _⟩ := unlock_go (g1.trans gr) Rz wf (fun p hp => (hh2 p hp).2) nd f1
        cases z1
  · cases e2
    refine ⟨Hb, ρ, Rr, _, _, e1, fun I' q => (by cases q), fun x' q σ1 c d Hb1 H1 g1 R1 xr => ?_⟩
    cases q
    exact h2 _ rfl σ1 c d Hb1 H1 g1 R1 xr
end
section
variable {X : Cx} {E : XK} {elt tg iter : Expr} {scope : Scope} {own : List (Str × Nat)} {pos : Pos} {mi : M Itd} {g : D → M Unit} {me : M Res} {mt : M Bool} {ifs : List Expr}
theorem me_lc (hc : X.calm = true) (hN : X.N.Nodup) (hi : PI X tg iter (tI X.K X.mg E mi)) (ok : BlkOk X.N X.env.scope scope own)
    (hg : ∀ (s : Shared) (H : Hp) (C : Addr) (cl : List (Str × Addr)) (fp : List Addr), PG (X.blk s H scope (compEnvC scope cl C X.env) fp) tg (tGt X.K X.mg E0 (fun σ σ' => wipe σ' (own.map (·.2)) = wipe σ (own.map (·.2))) g)) (ht : ∀ (s : Shared) (H : Hp) (C : Addr) (cl : List (Str × Addr)) (fp : List Addr), PTs (X.blk s H scope (compEnvC scope cl C X.env) fp) ifs (tT X.K X.mg E0 mt))
    (he : ∀ (s : Shared) (H : Hp) (C : Addr) (cl : List (Str × Addr)) (fp : List Addr), PE (X.blk s H scope (compEnvC scope cl C X.env) fp) elt (tE X.K X.mg E0 me)) (hs : ∀ x, foldedSetIterable iter X.env x = pure x := by intro _; rfl) :
    PE X (.ListComp elt [⟨tg, iter, ifs, 0⟩] scope pos) (tE X.K X.mg E (mLc mi g mt me (own.map (·.2)))) :=
  (pe_lc hc hN (PI_imp hi fun σ H Rc w => tI_chk w) ok hg ht he hs).imp fun σ H Q w => lc_read w
theorem mts_nil : PTs X [] (tT X.K X.mg E0 (ret true)) := ⟨fun pins s σ H Q I h => pts_nil.run pins s σ H Q I (by
  obtain ⟨Hb, ρ, Rr, S⟩ := h
  exact S.ret Rr rfl)⟩
theorem mts_one {c : Expr} (h : PT X c (tT X.K X.mg E0 mt)) : PTs X [c] (tT X.K X.mg E0 mt) := pts_one h
theorem ms_setLc {i : Nat} {y : Str} {py spos : Pos} (hc : X.calm = true) (hN : X.N.Nodup) (hy : X.N[i]? = some y) (hyl : X.env.scope.names.lookup y = some .local)
    (hsw : swapsWith (.ListComp elt [⟨tg, iter, ifs, 0⟩] scope pos) (some (.Name y py)) spos.line X.env = pure true) (hi : PI X tg iter (tI X.K X.mg E mi)) (ok : BlkOk X.N X.env.scope scope own)
    (hg : ∀ (s : Shared) (H : Hp) (C : Addr) (cl : List (Str × Addr)) (fp : List Addr), PG (X.blk s H scope (compEnvC scope cl C X.env) fp) tg (tGt X.K X.mg E0 (fun σ σ' => wipe σ' (own.map (·.2)) = wipe σ (own.map (·.2))) g)) (ht : ∀ (s : Shared) (H : Hp) (C : Addr) (cl : List (Str × Addr)) (fp : List Addr), PTs (X.blk s H scope (compEnvC scope cl C X.env) fp) ifs (tT X.K X.mg E0 mt))
    (he : ∀ (s : Shared) (H : Hp) (C : Addr) (cl : List (Str × Addr)) (fp : List Addr), PE (X.blk s H scope (compEnvC scope cl C X.env) fp) elt (tE X.K X.mg E0 me)) (hs : ∀ x, foldedSetIterable iter X.env x = pure x := by intro _; rfl) :
    PS X (.Assign [.Name y py] (.ListComp elt [⟨tg, iter, ifs, 0⟩] scope pos) spos) (tS X.K X.mg E (mAsg i (mLc mi g mt me (own.map (·.2))))) :=
  (ps_setLc hc hN hy hyl hsw (PI_imp hi fun σ H Rc w => tI_chk w) ok hg ht he hs).imp fun De σ H w => lc_read (asg_read w)
end
end Mi

/-! Mi: repr, isinstance, lcm, reversed slices, in. -/
namespace Mi
open PySem L2 Evl PySem.Spec PyProof.Rows
section
variable {X : Cx} {K : PySem.W.Frag}
theorem lay_noDict : ∀ {d : D}, d.canLay0 = true → d.hasDict = false
  | .none, _ => rfl
  | .bool _, _ => rfl
  | .int _, _ => rfl
  | .str _, _ => rfl
  | .list xs, h => by
    have h : PyData.canLayAll0 xs = true := by simpa only [PyData.canLay0] using h
    show PyData.hasDictAll xs = false
    exact go h
  | .tuple xs, h => by
    have h : PyData.canLayAll0 xs = true := by simpa only [PyData.canLay0] using h
    show PyData.hasDictAll xs = false
    exact go h
  | .dict _, h => by simp [PyData.canLay0] at h
where
  go : ∀ {xs : List D}, PyData.canLayAll0 xs = true → PyData.hasDictAll xs = false
  | [], _ => rfl
  | x :: xs, h => by
    simp only [PyData.canLayAll0, Bool.and_eq_true] at h
    simp only [PyData.hasDictAll, Bool.or_eq_false_iff]
    exact ⟨lay_noDict h.1, go h.2⟩
theorem cr_repr (hg : X.A.guards = some []) (hu : X.A.units + 70 < cLine) : CallR X (.builtin "repr") (rRepr X.K) := by
  intro pins s σ H vs us Q I r h
  obtain ⟨v, d, rfl, hd, ok, q⟩ := h
  obtain ⟨u, rfl, rv⟩ := vals1 r
  unfold reprOk at ok
  simp only [Bool.and_eq_true, decide_eq_true_eq] at ok
  obtain ⟨⟨⟨o1, o2⟩, o3⟩, o4⟩ := ok
  have fin : ∀ (h' : Heap) (t tk : Nat), (∀ b o, s.heap.get? b = some o → h'.get? b = some o) → EP X pins σ Q (.str d.shown t) { s with heap := h', toks := tk } := fun h' t tk k => ⟨.str _, H, I.kept k, ⟨t, rfl⟩, q⟩
  have tok : EP X pins σ Q (.str d.shown s.toks) { s with toks := s.toks + 1 } := ⟨.str _, H, I.tok _, ⟨_, rfl⟩, q⟩
  obtain ⟨as, rd⟩ := Dp.reads I d v u hd rv
  have nd := lay_noDict o1
  cases hd with
  | non => cases rd; exact PySem.P.repr_of_none tok
  | bl b => cases rd; exact PySem.P.repr_of_bool tok
  | int i => cases rd; exact PySem.P.repr_of_int (by simpa [PyData.showable] using o2) tok
  | str x => cases rd; exact PySem.P.repr_of_str tok o4
  | lst _ _ =>
    cases rd with
    | list h1 h2 h3 h4 => exact repr_of_reads' (.list h1 h2 h3 h4) o2 (fun z => by rw [nd] at z; cases z) hg (by omega) (fun _ _ z => z) (fun h' u tk k => fin h' u tk k) o4
  | tup _ _ =>
    cases rd with
    | tuple h1 h2 h3 h4 => exact repr_of_reads' (.tuple h1 h2 h3 h4) o2 (fun z => by rw [nd] at z; cases z) hg (by omega) (fun _ _ z => z) (fun h' u tk k => fin h' u tk k) o4
end

/-! ### isinstance -/
def tyD : D → String
  | .none => "NoneType"
  | .bool _ => "bool"
  | .int _ => "int"
  | .str _ => "str"
  | .list _ => "list"
  | .tuple _ => "tuple"
  | .dict _ => "dict"
/-- of the type T (int, bool, str, list, tuple, dict) -/
def isK (T : String) (d : D) : Bool := T == tyD d || (T == "int" && tyD d == "bool")
def kinds : List String := ["int", "bool", "str", "list", "tuple", "dict"]
theorem kit_all : ∀ T ∈ kinds, ∀ a ∈ "NoneType" :: kinds, kitB a T = some (T == a || (T == "int" && a == "bool")) := by decide +kernel
theorem tyD_mem (d : D) : tyD d ∈ "NoneType" :: kinds := by cases d <;> simp [tyD, kinds]
theorem kit_isK {T : String} (h : kinds.contains T = true) (d : D) : kitB (tyD d) T = some (isK T d) := kit_all T (by simpa using h) _ (tyD_mem d)
theorem tyx_of {K : PySem.W.Frag} {H : Hp} {v : V} {d : D} (h : Rp K H v d) : TyX K H v (.type (tyD d)) := by
  cases h with
  | non => exact .base .non
  | bl b => exact .base (.bl b)
  | int i => exact .base (.int i)
  | str x => exact .base (.str x)
  | lst s _ =>
    rcases s with (q | ⟨o, q⟩) | ⟨o, its, n, q, c, _⟩
    · exact .base (.lst q)
    · exact .base (.frz q)
    · exact .kList q c
  | tup s _ =>
    rcases s with (q | ⟨o, q⟩) | ⟨o, its, n, q, c, _⟩
    · exact .base (.tup q)
    · exact .fTuple q
    · exact .kTuple q c
  | dct h _ =>
    rcases h with q | ⟨o, q⟩
    · exact .base (.dK q)
    · exact .fDict q
def isiD (Ts : List String) (d : D) : Option Res := if Ts.all fun T => kinds.contains T then some (.val (.bool (Ts.any fun T => isK T d))) else none
def mIsi (Ts : List String) (m : M Res) : M Res := bnd (thaw m) fun x => fun ρ => match look x ρ with
  | some d => match isiD Ts d with
    | some r => some (.ok r, ρ)
    | none => none
  | none => none
theorem isi_kitAny {K : PySem.W.Frag} {d : D} : ∀ {Ts : List String}, Ts.all (fun T => kinds.contains T) = true → PySem.W.kitAny K (.type (tyD d)) (Ts.map Value.type) = some (Ts.any fun T => isK T d)
  | [], _ => kitAny_nil
  | T :: Ts, h => by
    rw [List.all_cons, Bool.and_eq_true] at h
    refine kitAny_cons (kit_ty (kit_isK h.1 d)) (fun e => ?_) (fun e => by rw [List.any_cons, e, Bool.true_or])
    rw [isi_kitAny h.2, List.any_cons, e, Bool.false_or]
theorem cls_pair : ∀ Ts : List String, Paired ClsV (Ts.map V.ty) (Ts.map Value.type)
  | [] => .nil
  | T :: Ts => .cons (.ty T) (cls_pair Ts)
section
variable {X : Cx} {E : XK} {e : Expr} {p p1 p2 pos : Pos} {m : M Res} {T : Str}
theorem isi_read {σ : L2.St} {H : Hp} {Q : VK} {Ts : List String} (w : tE X.K X.mg E (mIsi Ts m) σ H Q) : tE X.K X.mg E m σ H fun v H1 => (Ts.all fun T => kinds.contains T) = true ∧ ∃ d, TyX X.K H1 v (.type (tyD d)) ∧ (∀ p o, H1 p = none → TyX X.K (upd H1 p o) v (.type (tyD d))) ∧ Q (.bl (Ts.any fun T => isK T d)) H1 ∧ ∀ p o, H1 p = none → Q (.bl (Ts.any fun T => isK T d)) (upd H1 p o) := by
  obtain ⟨Hb, ρ, R, S⟩ := w
  refine tE_mono (e_thaw R S) fun v H1 ⟨Hb1, ρ1, x, R1, rx, g1, out, ρ', eo, h1, h2⟩ => ?_
  dsimp only at eo
  split at eo
  · rename_i d hd
    unfold isiD at eo
    split at eo
    · rename_i r hr
      split at hr
      · rename_i c
        cases hr
        cases eo
        have tp := repA_top R1 rx hd
        refine ⟨c, d, tyx_of (tp.rp R1.ex), fun p o hp => ?_, h1 _ rfl σ Hb1 H1 Go.refl R1 g1 rfl _ (.bl _), fun p o hp => ?_⟩
        · have n := New.mut (o := o) R1.ex hp
          exact tyx_of ((tp.mono n).rp (n.rel R1).ex)
        · have n := New.mut (o := o) R1.ex hp
          exact h1 _ rfl σ _ _ n.go (n.rel R1) (g1.trans n.go) rfl _ (.bl _)
      · cases hr
    · cases eo
  · cases eo
theorem me_isi1 (hg : Gl X "isinstance") (hm : X.mg "isinstance" = none) (hgT : Gl X T) (hmT : X.mg T = none) (S : String) (hv : bootBuiltins T = some (.type S)) (he : PE X e (tE X.K X.mg E m)) (hn : T ≠ "__name__" := by decide) (hd : (T == ("__debug__" : Str)) = false := by decide)
    (hs : starEach [e, .Name T p2] X.env = [(false, eval e X.env), (false, eval (.Name T p2) X.env)] := by rfl) (hs2 : starEach [.Name T p2] X.env = [(false, eval (.Name T p2) X.env)] := by rfl) (hpl : (backTo pos (starEach [.Name T p2] X.env)).any (·.1) = false := by rfl) :
    PE X (.Call (.Name "isinstance" p) [e, .Name T p2] [] pos) (tE X.K X.mg E (mIsi [S] m)) :=
  (pe_callB call_isi hg hm rfl (pa_cons he (pa_cons (pe_bltn hgT hmT hv (v := .ty S) rfl hn hd) pa_nil hs2) hs) (by decide) (by decide) hs hpl).imp fun σ H Q w => by
    refine tE_mono (isi_read w) fun v H1 ⟨c, d, ty, _, q, _⟩ => ?_
    have k := kit_isK (T := S) (by simpa using c) d
    refine ⟨v, .ty S, _, .type S, _, rfl, .ty S, ty, kit_ty k, ?_⟩
    simpa using q
theorem me_isi2 {T2 : Str} {p3 p4 : Pos} {kk : Nat} (hg : Gl X "isinstance") (hm : X.mg "isinstance" = none) (hgT : Gl X T) (hmT : X.mg T = none) (S : String) (hv : bootBuiltins T = some (.type S)) (hgT2 : Gl X T2) (hmT2 : X.mg T2 = none) (S2 : String) (hv2 : bootBuiltins T2 = some (.type S2)) (he : PE X e (tE X.K X.mg E m)) (hn : T ≠ "__name__" := by decide) (hd : (T == ("__debug__" : Str)) = false := by decide) (hn2 : T2 ≠ "__name__" := by decide) (hd2 : (T2 == ("__debug__" : Str)) = false := by decide)
    (hs : starEach [e, .Tuple [.Name T p2, .Name T2 p3] kk p4] X.env = [(false, eval e X.env), (false, eval (.Tuple [.Name T p2, .Name T2 p3] kk p4) X.env)] := by rfl) (hs2 : starEach [.Tuple [.Name T p2, .Name T2 p3] kk p4] X.env = [(false, eval (.Tuple [.Name T p2, .Name T2 p3] kk p4) X.env)] := by rfl) (hpl : (backTo pos (starEach [.Tuple [.Name T p2, .Name T2 p3] kk p4] X.env)).any (·.1) = false := by rfl)
    (hs3 : starEach [.Name T p2, .Name T2 p3] X.env = [(false, eval (.Name T p2) X.env), (false, eval (.Name T2 p3) X.env)] := by rfl) (hs4 : starEach [.Name T2 p3] X.env = [(false, eval (.Name T2 p3) X.env)] := by rfl) :
    PE X (.Call (.Name "isinstance" p) [e, .Tuple [.Name T p2, .Name T2 p3] kk p4] [] pos) (tE X.K X.mg E (mIsi [S, S2] m)) :=
  (pe_callB call_isiT hg hm rfl (pa_cons he (pa_cons (pe_tup (pa_cons (pe_bltn hgT hmT hv (v := .ty S) rfl hn hd) (pa_cons (pe_bltn hgT2 hmT2 hv2 (v := .ty S2) rfl hn2 hd2) pa_nil hs4) hs3)) pa_nil hs2) hs) (by decide) (by decide) hs hpl).imp fun σ H Q w => by
    refine tE_mono (isi_read w) fun v H1 ⟨c, d, _, ty, _, q⟩ => ?_
    have k := isi_kitAny (K := X.K) (d := d) (Ts := [S, S2]) c
    refine ⟨by show 2 ≤ sizeLine; decide, fun p hp => ⟨v, p, [.ty S, .ty S2], _, [.type S, .type S2], _, rfl, upd_same, cls_pair [S, S2], ty p _ hp, k, ?_⟩⟩
    exact q p _ hp
end
/-! ### lcm, reversed lists, in -/
def lcmD : List D → Option Res
  | [.int i, .int j] => if i.natAbs.log2 < 9000 ∧ j.natAbs.log2 < 9000 then some (.val (.int ((Nat.lcm i.natAbs j.natAbs : Nat) : Int))) else none
  | _ => none
def rLcm : List V → Hp → VK → Prop := fun vs H Q => ∃ a b : Int, vs = [.int a, .int b] ∧ a.natAbs.log2 < 9000 ∧ b.natAbs.log2 < 9000 ∧ Q (.int ((Nat.lcm a.natAbs b.natAbs : Nat) : Int)) H
theorem log2_max {a b n : Nat} (ha : a.log2 < n) (hb : b.log2 < n) : (max a b).log2 < n := by
  rcases Nat.le_total a b with h | h
  · rw [Nat.max_eq_right h]; exact hb
  · rw [Nat.max_eq_left h]; exact ha
theorem cr_lcm {X : Cx} : CallR X (.builtin "math.lcm") rLcm := by
  intro pins s σ H vs us Q I r h
  obtain ⟨a, b, rfl, ha, hb, q⟩ := h
  obtain ⟨t, u, rfl⟩ := Vals.int2 r
  have h1 : (max 1 a.natAbs).log2 < 9000 := log2_max (by decide) ha
  have h2 : (max a.natAbs b.natAbs).log2 < 9000 := log2_max ha hb
  have hl : Nat.lcm 1 a.natAbs = a.natAbs := Nat.lcm_one_left _
  have hz : ((((Nat.lcm 1 a.natAbs).lcm b.natAbs : Nat) : Int)).natAbs.log2 < bitsLine := by
    rw [hl, Int.natAbs_natCast]
    have l1 : a.natAbs < 2 ^ 9000 := by
      rcases Nat.eq_zero_or_pos a.natAbs with z | z
      · rw [z]; exact Nat.two_pow_pos _
      · exact (Nat.log2_lt (Nat.pos_iff_ne_zero.mp z)).mp ha
    have l2 : b.natAbs < 2 ^ 9000 := by
      rcases Nat.eq_zero_or_pos b.natAbs with z | z
      · rw [z]; exact Nat.two_pow_pos _
      · exact (Nat.log2_lt (Nat.pos_iff_ne_zero.mp z)).mp hb
    have l3 : Nat.lcm a.natAbs b.natAbs ≤ a.natAbs * b.natAbs := Nat.div_le_self _ _
    have l4 : a.natAbs * b.natAbs < 2 ^ 9000 * 2 ^ 9000 := by
      rcases Nat.eq_zero_or_pos b.natAbs with z | z
      · rw [z, Nat.mul_zero]; exact Nat.mul_pos (Nat.two_pow_pos _) (Nat.two_pow_pos _)
      · exact Nat.mul_lt_mul_of_lt_of_le l1 (Nat.le_of_lt l2) (Nat.two_pow_pos _)
    rw [← Nat.pow_add] at l4
    rcases Nat.eq_zero_or_pos (Nat.lcm a.natAbs b.natAbs) with z | z
    · rw [z]; decide
    · exact Nat.lt_of_lt_of_le ((Nat.log2_lt (Nat.pos_iff_ne_zero.mp z)).mpr (Nat.lt_of_le_of_lt l3 l4)) (by decide)
  refine call_function_meets PySem.W.MGF.kind_lcm PySem.W.MGF.plain_lcm PySem.W.MGF.entry_lcm (PySem.W.MGF.args_lcm _ _) (PySem.W.mg_run_lcm a t b u (by omega) (by omega) hz).meets ?_
  rw [hl]
  exact ⟨.int _, H, I.tok _, ⟨_, rfl⟩, q⟩
theorem cal_lcm {K : PySem.W.Frag} : Cal K rLcm lcmD := by
  intro Hb H vs ds res Q ex hx hf k
  unfold lcmD at hf
  split at hf
  · split at hf
    · rename_i c
      cases hf
      obtain ⟨v, w, rfl, t1, t2⟩ := tops2 hx
      cases t1.int
      cases t2.int
      exact ⟨_, _, rfl, c.1, c.2, k _ Hb H (New.refl ex) (.int _)⟩
    · cases hf
  · cases hf
/-- xs[::-1] of a list -/
def revD : D → Option Res
  | .list xs => some (.fresh xs.reverse)
  | _ => none
theorem me_rev {X : Cx} {E : XK} {e : Expr} {k : Nat} {p1 p2 p3 pos : Pos} {m : M Res} (he : PE X e (tE X.K X.mg E m)) : PE X (.Subscript e (.Slice none none (some (.UnaryOp .USub (.Constant (.int 1) k p1) p2)) p3) pos) (tE X.K X.mg E (mUn revD m)) := (pe_revL he).imp fun σ H Q w => by
  refine tE_mono (un_read w) fun v H1 ⟨Hb, d, res, ex, h1, h2, h3⟩ => ?_
  unfold revD at h2
  split at h2
  · rename_i xs
    cases h2
    obtain ⟨a, vs, rfl, s, r⟩ := h1.list ex
    exact ⟨a, vs, rfl, s, fun p hp => h3 _ Hb _ (New.mut ex hp) ⟨p, _, rfl, fresh_back ex hp, upd_same, r.rev, hp⟩⟩
  · cases h2
end Mi

/-! Mi: the end of a law. -/
namespace Mi
open PySem L2 Evl PySem.Spec PyProof.Rows

/-- the promise of a law's function over data -/
def LawOk (F : Fn) : Prop := ∀ ns : List Int, ns.length ≤ 63 → (∀ z ∈ ns, Builtin.Int.intBits z ≤ 1048576) → ∃ y, F [.list (ns.map PyData.int)] = some (.ok (.val (.bool true)), y)
theorem rp_ints {K : PySem.W.Frag} {H : Hp} : ∀ ns : List Int, RpAll K H (ns.map V.int) (ns.map PyData.int)
  | [] => .nil
  | n :: ns => .cons (.int n) (rp_ints ns)
theorem end_sp {K : PySem.W.Frag} {mg : Str → Option Value} {F : Fn} {H : Hp} {a : Addr} {ns : List Int} {y : D} (hF : F [.list (ns.map PyData.int)] = some (.ok (.val (.bool true)), y)) (hS : SqL K H a (ns.map V.int)) :
    spF K mg 1 none F [.ref a] H (fun v _ => v = .bl true) fun _ _ _ => False := by
  refine ⟨rfl, H, [.list (ns.map PyData.int)], Ex.refl _, ⟨rfl, fun i d hi _ => ?_, fun i h => by cases h⟩, _, y, hF, fun r q v Hb' H' _ _ rr => ?_, fun e q => by cases q⟩
  · cases i with
    | zero =>
      cases hi
      exact ⟨_, rfl, .lst hS (rp_ints ns)⟩
    | succ i => simp at hi
  · cases q
    exact Rp.bool_inv rr
/-- a frame for the script alone: its heap of tracked objects -/
structure Lone (P : Program) (w : World) (K : PySem.W.Frag) (h : Heap) (a : Addr) (ns : List Int) (H : Hp) : Prop where
  only : ∀ b u, H b = some u → b = a ∧ K.lookup a = none ∧ ∃ o xs, u = .frz o (.lst xs)
  seq : SqL K H a (ns.map V.int)
  ok : HOk P w H h
theorem lone {P : Program} {w : World} {K : PySem.W.Frag} {h : Heap} {a : Addr} {vs : List Value} {ns : List Int} (KX : K.In h) (ha : h.get? a = some { cls := .type "list", data := .seq vs.toArray }) (hi : IntsAre vs ns) (hl : ns.length ≤ sizeLine) : ∃ H, Lone P w K h a ns H := by
  have rv : Vals (ns.map V.int) vs := vals_ints hi
  cases hk : K.lookup a with
  | some o =>
    have e := KX a o hk
    rw [ha] at e
    cases e
    refine ⟨fun _ => none, fun b u z => (nomatch z), .inr ⟨_, vs.toArray, _, hk, rfl, rfl, rfl, ?_, by simpa using rv⟩, fun b u z => (nomatch z)⟩
    rw [List.size_toArray, hi.length]
    exact hl
  | none =>
    have at_a : ∀ {b : Addr} {u : HO}, (if b = a then some (HO.frz { cls := .type "list", data := .seq vs.toArray } (.lst (ns.map V.int))) else none) = some u → b = a ∧ u = HO.frz { cls := .type "list", data := .seq vs.toArray } (.lst (ns.map V.int)) := fun {b u} z => by
      split at z
      · rename_i e
        exact ⟨e, (Option.some.inj z).symm⟩
      · cases z
    refine ⟨fun b => if b = a then some (.frz { cls := .type "list", data := .seq vs.toArray } (.lst (ns.map V.int))) else none, fun b u z => ?_, .inl (.inr ⟨_, if_pos rfl⟩), fun b u z => ?_⟩
    · obtain ⟨e1, e2⟩ := at_a z
      exact ⟨e1, hk, _, _, e2⟩
    · obtain ⟨e1, e2⟩ := at_a z
      subst e1
      subst e2
      exact ⟨ha, by rw [List.length_map]; exact hl, vs, _, rv, ha⟩
/-- the call of the law behind the top -/
theorem call_end {P : Program} {w : World} {K : PySem.W.Frag} {mg mb : Str → Option Value} {k : Nat} {fa a : Addr} {fd : FuncData} {x : Str} {F : Fn} {s : Shared} {vs : List Value} {ns : List Int}
    (KX : K.In s.heap) (glob : s.heap.Ns mainGlobals mg) (blt : s.heap.Ns builtinsNs mb) (names : ∀ z : Str, z ≠ "__name__" → mb z = bootBuiltins z) (lim : s.heap.NoLimit) (gens : s.gens = #[])
    (ha : s.heap.get? a = some { cls := .type "list", data := .seq vs.toArray }) (hi : IntsAre vs ns) (hl : ns.length ≤ sizeLine) (hr : Room k callerA)
    (fn : ∀ base : Heap, K.In base → base.Ns mainGlobals mg → FnG P w K mg base (L2.CX P w) k fa fd [x] (spF K mg 1 none F)) (bind : ∀ (s : Shared) (u : Value), BindsTo s fd ⟨[u], []⟩ [(x, u)])
    {y : D} (hF : F [.list (ns.map PyData.int)] = some (.ok (.val (.bool true)), y)) :
    codeAny (model P w) callerA (.call (.ref fa) ⟨[.ref a], []⟩) (fun r s' => r = .ok (.ret (.bool true)) ∧ OldK s.heap s'.heap ∧ s'.os = s.os ∧ AllBare s'.gens) s := by
  obtain ⟨H, L⟩ := lone (P := P) (w := w) KX ha hi hl
  -- what is no list is not tracked
  have free : ∀ {b : Addr} {o : Obj} {es : Array DictEntry} {n : Nat}, s.heap.get? b = some o → o.data = .dict es n → H b = none := fun {b o es n} e d => by
    cases q : H b with
    | none => rfl
    | some u =>
      obtain ⟨rfl, _⟩ := L.only b u q
      rw [ha] at e
      cases e
      exact Data.noConfusion d
  have hid : ∀ {b : Addr} {o : Obj}, s.heap.get? b = some o → H b = none → (hidT s.heap H).get? b = some o := hidT_get
  have ns_hid : ∀ {b : Addr} {m : Str → Option Value}, s.heap.Ns b m → (hidT s.heap H).Ns b m := fun {b m} ⟨o, es, n, e, d, r⟩ => ⟨o, es, n, hid e (free e d), d, r⟩
  have kin : K.In (hidT s.heap H) := fun b o e => by
    refine hid (KX b o e) ?_
    cases q : H b with
    | none => rfl
    | some u =>
      obtain ⟨rfl, hk, _⟩ := L.only b u q
      rw [hk] at e
      cases e
  obtain ⟨mc, l1, l2⟩ := lim
  have md : Mod K mg (hidT s.heap H) := ⟨kin, ns_hid glob, ⟨mb, ns_hid blt, names⟩, mc, ns_hid l1, l2⟩
  have nofr : ∀ b, b ∈ frs ([] : List Env) → False := fun b hb => (List.not_mem_nil hb)
  have e0 : Env0 P w K mg (hidT s.heap H) callerA [] s H := ⟨rfl, md, fun _ _ e => of_hidT e, Nat.le_of_eq (hidT_size _ _), trivial, fun b hb => (nofr b hb).elim, L.ok, .of_eq gens⟩
  have run := (fn _ kin (ns_hid glob)).run callerA [] s H ⟨[.ref a], []⟩ [.ref a] [.ref a] _ _ hr rfl e0 (bind s _) (.cons rfl .nil) (end_sp (mg := mg) hF L.seq)
  refine codeAny_mono run fun r s' h => ?_
  cases r with
  | error e =>
    obtain ⟨_, _, _, _, _, _, _, _, _, _, _, _, z⟩ := h
    exact z.elim
  | ok fl =>
    cases fl with
    | next => exact False.elim h
    | brk => exact False.elim h
    | cont => exact False.elim h
    | ret u =>
      obtain ⟨v, H', os, bare, un, ok', rv, q⟩ := h
      have q : v = .bl true := q
      subst q
      cases (show u = Value.bool true from rv)
      refine ⟨rfl, .of_keep fun b o e => ?_, os, bare⟩
      cases q : H b with
      | none => exact un.keep b o e q (fun z => (nofr b z).elim) (by simp)
      | some u =>
        obtain ⟨_, _, ob, xs, rfl⟩ := L.only b u q
        have q1 := (L.ok b _ q).1
        have q2 := (ok' b _ (un.frzs b ob _ q)).1
        rw [e] at q1
        cases q1
        exact q2
/-- the goal that k_head leaves -/
theorem law_end {l : PySem.W.OpenLaw} {k : Nat} {q : Program} {loose : List Str} {XP : (Str → Option Value) → Heap → Prop} {YP : World → Heap → Prop} {d : DefRec} {K : Params → PySem.W.Frag} {F : Fn}
    (hn : l.most = some 63) (hdf : d.params.defaults = []) (hr : Room k callerA) (hY : ∀ (w : World) (h : Heap), YP w h → (K w.params).In h)
    (fn : ∀ (w : World) (mg : Str → Option Value) (fa : Addr) (h : Heap), (K w.params).In h → h.Ns mainGlobals mg → mg d.name = some (.ref fa) →
      ∃ fd : FuncData, (∀ (s : Shared) (u : Value), BindsTo s fd ⟨[u], []⟩ [("script", u)]) ∧ ∀ base : Heap, (K w.params).In base → base.Ns mainGlobals mg → FnG l.prog w (K w.params) mg base (L2.CX l.prog w) k fa fd ["script"] (spF (K w.params) mg 1 none F))
    (hF : LawOk F) : PySem.W.WalkO q loose XP YP l.row.toRowW d [] (fun f vs => PySem.call f vs) := by
  refine Att.attach_callB hn hdf fun w s₀ s mg mb fa o pm cd doc a vs ns G Y ho hd hcd hmg hobj hints hlen hbits hg => ?_
  have KX := hY w _ Y
  obtain ⟨fd, hb, hfn⟩ := fn w mg fa _ KX G.T.g hmg
  obtain ⟨y, hy⟩ := hF ns hlen hbits
  exact call_end KX G.T.g G.T.b G.T.builtins G.T.nolimit hg hobj hints (Nat.le_trans hlen (by decide)) hr hfn hb hy
end Mi

/-! Mi: calls of defs by their names. -/
namespace Mi
open PySem L2 Evl PySem.Spec PyProof.Rows

/-- what a caller knows of a def: the name x, bound to the def y that stands at st -/
structure Kn (P : Program) (w : World) (K : PySem.W.Frag) (mg : Str → Option Value) (base : Heap) (k : Nat) (x y : Str) (st : Stmt) (ps : List Str) (io : Option Nat) (F : Fn) : Prop where
  it : ∃ (f : Addr) (fd : FuncData), FnG P w K mg base (L2.CX P w) k f fd ps (spF K mg ps.length io F) ∧ mg x = some (.ref f) ∧ Fun K y y st f fd
theorem Kn.mono {P : Program} {w : World} {K : PySem.W.Frag} {mg : Str → Option Value} {base : Heap} {j k : Nat} {x y : Str} {st : Stmt} {ps : List Str} {io : Option Nat} {F : Fn} (h : Kn P w K mg base j x y st ps io F) (hk : j ≤ k) : Kn P w K mg base k x y st ps io F := by
  obtain ⟨f, fd, h1, h2, h3⟩ := h.it
  exact ⟨f, fd, h1.mono hk, h2, h3⟩
/-- how n positional arguments and the keywords ks bind -/
def BindsQ (y : Str) (st : Stmt) (ps : List Str) (n : Nat) (ks : List Str) (ix : List Nat) : Prop := ∀ (kV doc pm : Value) (an : Option Addr) (cdv ct : Value) (us ws : List Value), us.length = n → ws.length = ks.length →
  bindArgs (PySem.W.fnOf y y (defArgs st) (defBody st) (defScope st) .none kV doc pm an cdv ct) ⟨us, ks.zip ws⟩ = pure (ps.zip (gath ix (us ++ ws)))
theorem BindsQ.x {K : PySem.W.Frag} {y : Str} {st : Stmt} {f : Addr} {fd : FuncData} {ps : List Str} {n : Nat} {ks : List Str} {ix : List Nat} (h : BindsQ y st ps n ks ix) (F : Fun K y y st f fd) : BindsX K fd ps n ks [] [] ix := by
  obtain ⟨oc, od, kV, doc, pm, an, cdv, ct, osl, rfl, lk, hcd⟩ := F.ex
  refine ⟨fun s us ws _ h1 h2 => .of_eq ?_, .nil⟩
  rw [h kV doc pm an cdv ct us ws h1 h2, List.append_nil]
/-- all positional, in place -/
def mF (p : Nat) (F : Fn) (io : Option Nat) (as : M (List Res)) : M Res := bnd as fun rs => if rs.length = p then callF F io rs else stuck
/-- with keywords: ix tells where each parameter's value stands in the row of the arguments -/
def mFk (n m : Nat) (ix : List Nat) (F : Fn) (io : Option Nat) (as ks : M (List Res)) : M Res := bnd as fun rs => bnd ks fun qs => if rs.length = n ∧ qs.length = m then callF F io (gath ix (rs ++ qs)) else stuck
section
variable {X : Cx} {E : XK} {x y : Str} {st : Stmt} {ps ks : List Str} {io : Option Nat} {F : Fn} {k n : Nat} {ix : List Nat} {p pos : Pos} {e : Expr} {es : List Expr} {kws : List Keyword} {as qs : M (List Res)}
theorem gath_all {α : Type} : ∀ (pre xs : List α), gath ((List.range xs.length).map (· + pre.length)) (pre ++ xs) = xs
  | pre, [] => rfl
  | pre, a :: xs => by
    have ih := gath_all (pre ++ [a]) xs
    rw [List.append_assoc] at ih
    have e : (List.range (a :: xs).length).map (· + pre.length) = pre.length :: (List.range xs.length).map (· + (pre ++ [a]).length) := by
      rw [List.length_cons, List.range_succ_eq_map, List.map_cons, List.map_map]
      simp only [List.length_append, List.length_cons, List.length_nil, Nat.zero_add]
      congr 1
      apply List.map_congr_left
      intro b _
      show b + 1 + pre.length = b + (pre.length + 1)
      omega
    rw [e]
    unfold gath at ih ⊢
    rw [List.filterMap_cons]
    simp only [List.getElem?_append_right (Nat.le_refl _), Nat.sub_self, List.getElem?_cons_zero]
    rw [show pre ++ a :: xs = pre ++ ([a] ++ xs) from rfl, ih]
theorem gath_id {α : Type} {xs : List α} {p : Nat} (h : xs.length = p) : gath (List.range p) xs = xs := by
  have := gath_all [] xs
  simpa [h] using this
theorem callK_read {σ : L2.St} {H : Hp} {Q : VK} {m : Nat} (hix : ∀ (rs : List Res), rs.length = n + m → (gath ix rs).length = ps.length) (w : tE X.K X.mg E (mFk n m ix F io as qs) σ H Q) : tCallX (spF X.K X.mg ps.length io F) n m [] ix E (tA X.K X.mg E as) (tA X.K X.mg E qs) σ H Q := by
  refine callX_read (dds := []) (fun _ _ => .nil) (fun rs h => hix rs (by simpa using h)) ?_
  have e : mCallX F io n m [] ix as qs = mFk n m ix F io as qs := by
    unfold mCallX mFk
    simp only [List.map_nil, List.append_nil]
  rw [e]
  exact w
theorem callP_read {σ : L2.St} {H : Hp} {Q : VK} {q : Nat} (w : tE X.K X.mg E (mF q F io as) σ H Q) : tCallX (spF X.K X.mg q io F) q 0 [] (List.range q) E (tA X.K X.mg E as) tNil σ H Q := by
  have w2 : tE X.K X.mg E (mFk q 0 (List.range q) F io as aNil) σ H Q := by
    obtain ⟨Hb, ρ, Rr, S⟩ := w
    refine ⟨Hb, ρ, Rr, S.eq ?_⟩
    unfold mF mFk aNil
    show bnd as _ ρ = bnd as _ ρ
    congr 1
    funext rs
    show _ = (if rs.length = q ∧ ([] : List Res).length = 0 then callF F io (gath (List.range q) (rs ++ [])) else stuck)
    by_cases c : rs.length = q
    · rw [if_pos c, if_pos ⟨c, rfl⟩, List.append_nil, gath_id c]
    · rw [if_neg c, if_neg fun z => c z.1]
  have := callX_read (p := q) (dds := []) (dvs := []) (n := q) (m := 0) (ix := List.range q) (fun _ _ => .nil) (fun rs h => by rw [gath_id (by simpa using h)]; simpa using h) (w := (by
    have e : mCallX F io q 0 [] (List.range q) as aNil = mFk q 0 (List.range q) F io as aNil := by
      unfold mCallX mFk
      simp only [List.map_nil, List.append_nil]
    rw [e]; exact w2))
  refine tA_mono this fun vs H1 h => ?_
  obtain ⟨Hb, ρ, Rr, S⟩ := h
  exact S.ret Rr rfl _ .nil
theorem me_call (G : Kn X.prog X.w X.K X.mg X.base k x y st ps io F) (hr : Room k X.A) (hgd : X.A.guards = some []) (hg : Gl X x) (q : Nat) (hq : ps.length = q) (hb : BindsQ y st ps q [] (List.range q)) (hx : Passes (L2.CX X.prog X.w) X E)
    (ha : PA X (e :: es) (tA X.K X.mg E as)) (hdb : (x == ("__debug__" : Str)) = false := by decide) (he : starEach (e :: es) X.env = (false, eval e X.env) :: starEach es X.env := by rfl) (hpl : (backTo pos (starEach es X.env)).any (·.1) = false := by rfl) :
    PE X (.Call (.Name x p) (e :: es) [] pos) (tE X.K X.mg E (mF q F io as)) := by
  subst hq
  obtain ⟨f, fd, h1, h2, h3⟩ := G.it
  exact (pe_callX h1 hr hgd hg h2 h3.kp (hb.x h3) hx ha hdb he hpl).imp fun σ H Q w => callP_read w
theorem me_call0 (G : Kn X.prog X.w X.K X.mg X.base k x y st [] io F) (hr : Room k X.A) (hgd : X.A.guards = some []) (hg : Gl X x) (hb : BindsQ y st [] 0 [] []) (hx : Passes (L2.CX X.prog X.w) X E)
    (hdb : (x == ("__debug__" : Str)) = false := by decide) : PE X (.Call (.Name x p) [] [] pos) (tE X.K X.mg E (mF 0 F io aNil)) := by
  obtain ⟨f, fd, h1, h2, h3⟩ := G.it
  exact (pe_callX0 h1 hr hgd hg h2 h3.kp (hb.x h3) hx hdb).imp fun σ H Q w => by
    have := callP_read w
    obtain ⟨Hb, ρ, Rr, S⟩ := this
    exact S.ret Rr rfl _ .nil
theorem me_callK (G : Kn X.prog X.w X.K X.mg X.base k x y st ps io F) (hr : Room k X.A) (hgd : X.A.guards = some []) (hg : Gl X x) (hb : BindsQ y st ps n ks ix) (hx : Passes (L2.CX X.prog X.w) X E) (hix : ∀ (rs : List Res), rs.length = n + ks.length → (gath ix rs).length = ps.length)
    (ha : PA X (e :: es) (tA X.K X.mg E as)) (hkw : PK X kws (tA X.K X.mg E qs)) (hall : (backToKw pos (keywordEach kws X.env)).all (·.1.isSome) = true := by rfl) (hks : (backToKw pos (keywordEach kws X.env)).filterMap (·.1) = ks := by rfl)
    (hdb : (x == ("__debug__" : Str)) = false := by decide) (he : starEach (e :: es) X.env = (false, eval e X.env) :: starEach es X.env := by rfl)
    (hpl : ((backTo pos (starEach (e :: es) X.env)).any (·.1) || (backToKw pos (keywordEach kws X.env)).any (·.1.isNone)) = false := by rfl) :
    PE X (.Call (.Name x p) (e :: es) kws pos) (tE X.K X.mg E (mFk n ks.length ix F io as qs)) := by
  obtain ⟨f, fd, h1, h2, h3⟩ := G.it
  exact (pe_callXK h1 hr hgd hg h2 h3.kp (hb.x h3) hx ha hkw hall hks hdb he hpl).imp fun σ H Q w => callK_read hix w
theorem me_callK0 (G : Kn X.prog X.w X.K X.mg X.base k x y st ps io F) (hr : Room k X.A) (hgd : X.A.guards = some []) (hg : Gl X x) (hb : BindsQ y st ps 0 ks ix) (hx : Passes (L2.CX X.prog X.w) X E) (hix : ∀ (rs : List Res), rs.length = 0 + ks.length → (gath ix rs).length = ps.length)
    (hkw : PK X kws (tA X.K X.mg E qs)) (hall : (backToKw pos (keywordEach kws X.env)).all (·.1.isSome) = true := by rfl) (hks : (backToKw pos (keywordEach kws X.env)).filterMap (·.1) = ks := by rfl)
    (hdb : (x == ("__debug__" : Str)) = false := by decide)
    (hpl : ((backTo pos (starEach [] X.env)).any (·.1) || (backToKw pos (keywordEach kws X.env)).any (·.1.isNone)) = false := by rfl) :
    PE X (.Call (.Name x p) [] kws pos) (tE X.K X.mg E (mFk 0 ks.length ix F io aNil qs)) := by
  obtain ⟨f, fd, h1, h2, h3⟩ := G.it
  exact (pe_callXK0 h1 hr hgd hg h2 h3.kp (hb.x h3) hx hkw hall hks hdb hpl).imp fun σ H Q w => by
    have := callK_read hix w
    obtain ⟨Hb, ρ, Rr, S⟩ := this
    exact S.ret Rr rfl _ .nil
end
/-- a def, from its body -/
theorem kn_def {P : Program} {w : World} {K : PySem.W.Frag} {mg : Str → Option Value} {base : Heap} {k n : Nat} {io : Option Nat} {f : Addr} {x y : Str} {st : Stmt} {fd : FuncData} {N ps : List Str} {m : M Fl} (F : Fun K y y st f fd) (hm : mg x = some (.ref f)) (S : FnScope N ps (defScope st)) (hN : N.length = n)
    (hbody : ∀ (cdv : Value) (A : Around) (outer : List Env) (s : Shared) (H : Hp) (E : XK), Room k (A.deeper (PyProof.Rows.envOfC y (defScope st) s.heap.objs.size f cdv)) → A.guards = some [] →
      PSs (cxOf (L2.CX P w) P w K mg base N y (defScope st) f cdv A outer s H E) (defBody st) (tS K mg E m)) :
    Kn P w K mg base (k + 1) x y st ps io (mkFn ps.length n io m) :=
  ⟨f, fd, def_ok F S hN rfl hbody, hm, F⟩
end Mi

/-! Mi: a, b = x, y. -/
namespace Mi
open PySem L2 Evl PySem.Spec PyProof.Rows
def mPar3 (i j l : Nat) (m1 m2 m3 : M Res) : M Fl := bnd (mVal m1) fun d => bnd (mVal m2) fun e => bnd (mVal m3) fun f => bnd (mStore i (.val d)) fun _ => bnd (mStore j (.val e)) fun _ => bnd (mStore l (.val f)) fun _ => ret .nx
section
variable {K : PySem.W.Frag} {mg : Str → Option Value} {E : XK} {De : Ends} {σ : L2.St} {H : Hp}
/-- a store of a datum, then what follows -/
theorem st_run {β : Type} {i : Nat} {d : D} {f : Unit → M β} {Hb : Hp} {ρ : R} {v : V} {P : β → L2.St → R → Hp → Hp → Prop} (Rr : Rel K Hb H σ ρ) (rp : Rp K Hb v d) (S : Sat K mg E σ Hb H ρ (bnd (mStore i (.val d)) f) P) :
    ∃ Hb1 ρ1, Go σ ρ Hb H (σ.set i (some v)) ρ1 Hb1 H ∧ Rel K Hb1 H (σ.set i (some v)) ρ1 ∧ Sat K mg E (σ.set i (some v)) Hb1 H ρ1 (f ()) fun b σ' ρ' Hb' H' => Go σ ρ Hb H σ' ρ' Hb' H' → P b σ' ρ' Hb' H' := by
  obtain ⟨out, ρ5, e5, h1, h2⟩ := S
  rcases bnd_some e5 with ⟨u, ρ3, e3, e4⟩ | ⟨x, ρ3, e3, e4⟩
  · obtain ⟨_, Hb3, g3, R3⟩ := store_run (H1 := H) (r := .val d) Go.refl Rr rp e3
    exact ⟨Hb3, ρ3, g3, R3, out, ρ5, e4, fun a q σ' Hb' H' _ R' g => h1 a q σ' Hb' H' g R', fun e q σ' c dd Hb' H' g R' x => h2 e q σ' c dd Hb' H' (g3.trans g) R' x⟩
  · obtain ⟨z, _⟩ := store_run (H1 := H) (r := .val d) Go.refl Rr rp e3
    cases z
theorem par3_read {i j l : Nat} {m1 m2 m3 : M Res} (w : tS K mg E (mPar3 i j l m1 m2 m3) De σ H) : tPar3 i j l (tCons (tE K mg E m1) (tCons (tE K mg E m2) (tCons (tE K mg E m3) tNil))) De σ H := by
  obtain ⟨Hb, ρ, Rr, S⟩ := w
  refine tE_mono (e_val Rr S) fun v H1 ⟨Hb1, ρ1, d, R1, rp, g1, S1⟩ => ?_
  refine tE_mono (e_val R1 S1) fun u H2 ⟨Hb2, ρ2, e, R2, rq, g2, S2⟩ => ?_
  refine tE_mono (e_val R2 S2) fun z H3 ⟨Hb3, ρ3, f, R3, rz, g3, S3⟩ => ?_
  refine ⟨v, u, z, rfl, ?_⟩
  obtain ⟨Hb4, ρ4, g4, R4, S4⟩ := st_run R3 (rp.mono (g2.trans g3).b) S3
  obtain ⟨Hb5, ρ5, g5, R5, S5⟩ := st_run R4 (rq.mono (g3.trans g4).b) S4
  obtain ⟨Hb6, ρ6, g6, R6, S6⟩ := st_run R5 (rz.mono (g4.trans g5).b) S5
  have q := S6.ret R6 g6
  exact q (g5.trans g6) (g4.trans (g5.trans g6)) (g3.trans (g4.trans (g5.trans g6))) (g2.trans (g3.trans (g4.trans (g5.trans g6)))) (g1.trans (g2.trans (g3.trans (g4.trans (g5.trans g6)))))
end
section
variable {X : Cx} {E : XK} {a b c : Expr} {m1 m2 m3 : M Res} {i j l : Nat} {x y z : Str} {px py pz pt pos pt2 : Pos} {kt k2 : Nat}
theorem ms_par (hc : X.calm = true) (hN : X.N.Nodup) (i j : Nat) (ha : PE X a (tE X.K X.mg E m1)) (hb : PE X b (tE X.K X.mg E m2)) (hi : X.N[i]? = some x := by rfl) (hj : X.N[j]? = some y := by rfl) (hij : i ≠ j := by decide)
    (hx : X.env.scope.names.lookup x = some .local := by rfl) (hy : X.env.scope.names.lookup y = some .local := by rfl)
    (s1 : starEach [a, b] X.env = (false, eval a X.env) :: starEach [b] X.env := by rfl) (s2 : starEach [b] X.env = (false, eval b X.env) :: starEach [] X.env := by rfl)
    (hw : swappedStores [.Tuple [.Name x px, .Name y py] kt pt] (.Tuple [a, b] k2 pt2) X.env = pure (some [x, y]) := by rfl)
    (hs : swapsWithSole [.Tuple [.Name x px, .Name y py] kt pt] (.Tuple [a, b] k2 pt2) pos.line X.env = pure false := by rfl) :
    PS X (.Assign [.Tuple [.Name x px, .Name y py] kt pt] (.Tuple [a, b] k2 pt2) pos) (tS X.K X.mg E (mPar i j m1 m2)) := (ps_par hc hN hi hj hij hx hy (pa_cons ha (pa_cons hb pa_nil s2) s1) hw hs).imp fun _ _ _ w => par_read w
theorem ms_par3 (hc : X.calm = true) (hN : X.N.Nodup) (i j l : Nat) (ha : PE X a (tE X.K X.mg E m1)) (hb : PE X b (tE X.K X.mg E m2)) (hcc : PE X c (tE X.K X.mg E m3)) (hi : X.N[i]? = some x := by rfl) (hj : X.N[j]? = some y := by rfl) (hl : X.N[l]? = some z := by rfl) (hij : i ≠ j := by decide) (hil : i ≠ l := by decide) (hjl : j ≠ l := by decide)
    (hx : X.env.scope.names.lookup x = some .local := by rfl) (hy : X.env.scope.names.lookup y = some .local := by rfl) (hz : X.env.scope.names.lookup z = some .local := by rfl)
    (s1 : starEach [a, b, c] X.env = (false, eval a X.env) :: starEach [b, c] X.env := by rfl) (s2 : starEach [b, c] X.env = (false, eval b X.env) :: starEach [c] X.env := by rfl) (s3 : starEach [c] X.env = (false, eval c X.env) :: starEach [] X.env := by rfl)
    (hw : swappedStores [.Tuple [.Name x px, .Name y py, .Name z pz] kt pt] (.Tuple [a, b, c] k2 pt2) X.env = pure (some [x, y, z]) := by rfl)
    (hs : swapsWithSole [.Tuple [.Name x px, .Name y py, .Name z pz] kt pt] (.Tuple [a, b, c] k2 pt2) pos.line X.env = pure false := by rfl) :
    PS X (.Assign [.Tuple [.Name x px, .Name y py, .Name z pz] kt pt] (.Tuple [a, b, c] k2 pt2) pos) (tS X.K X.mg E (mPar3 i j l m1 m2 m3)) := (ps_par3 hc hN hi hj hl hij hil hjl hx hy hz (pa_cons ha (pa_cons hb (pa_cons hcc pa_nil s3) s2) s1) hw hs).imp fun _ _ _ w => par3_read w
end
/-- a tuple constant of the written part -/
theorem rp_ktup {K : PySem.W.Frag} {a : Addr} {od : Option Addr} {its : Array Value} {n : Nat} {sl : Array (Option Value)} {xs : List V} {ds : List D} (l : K.lookup a = some ⟨.type "tuple", od, .seq its n, sl⟩) (hz : its.size ≤ sizeLine) (r : Vals xs its.toList) (h : ∀ H, RpAll K H xs ds) : ∀ H, Rp K H (.ref a) (.tuple ds) :=
  fun H => .tup (.inr ⟨_, its, n, l, rfl, rfl, hz, r⟩) (h H)
/-- a constant of the module -/
def Cst (K : PySem.W.Frag) (mg : Str → Option Value) (x : Str) (d : D) : Prop := ∃ (u : Value) (v : V), mg x = some u ∧ RelV v u ∧ ∀ H, Rp K H v d
theorem me_cst {X : Cx} {E : XK} {x : Str} {pos : Pos} {d : D} (hg : Gl X x) (h : Cst X.K X.mg x d) (hd : (x == ("__debug__" : Str)) = false := by decide) : PE X (.Name x pos) (tE X.K X.mg E (mC d)) := by
  obtain ⟨u, v, h1, h2, h3⟩ := h
  exact me_glob hg h1 h2 h3 hd
theorem cst_int {K : PySem.W.Frag} {h : Heap} {mg : Str → Option Value} {x : Str} {i : Int} {t : Tok} (X : K.In h) (G : h.Ns mainGlobals mg) (a : PySem.W.nsIn K mainGlobals x = some (some (.int i t))) : Cst K mg x (.int i) := ⟨_, .int i, PySem.W.mg_of X G a, ⟨t, rfl⟩, fun _ => .int i⟩
theorem cst_str {K : PySem.W.Frag} {h : Heap} {mg : Str → Option Value} {x : Str} {i : Str} {t : Tok} (X : K.In h) (G : h.Ns mainGlobals mg) (a : PySem.W.nsIn K mainGlobals x = some (some (.str i t))) : Cst K mg x (.str i) := ⟨_, .str i, PySem.W.mg_of X G a, ⟨t, rfl⟩, fun _ => .str i⟩
theorem cst_tup2 {K : PySem.W.Frag} {h : Heap} {mg : Str → Option Value} {x : Str} {i j : Int} {a : Addr} {t u : Tok} {od : Option Addr} {n : Nat} {sl : Array (Option Value)} (X : K.In h) (G : h.Ns mainGlobals mg) (q : PySem.W.nsIn K mainGlobals x = some (some (.ref a))) (l : K.lookup a = some ⟨.type "tuple", od, .seq #[.int i t, .int j u] n, sl⟩) : Cst K mg x (.tuple [.int i, .int j]) :=
  ⟨_, .ref a, PySem.W.mg_of X G q, rfl, rp_ktup (xs := [.int i, .int j]) l (by show 2 ≤ sizeLine; decide) (.cons ⟨t, rfl⟩ (.cons ⟨u, rfl⟩ .nil)) fun _ => .cons (.int i) (.cons (.int j) .nil)⟩
/-- a def as the top has written it -/
theorem dat {K : PySem.W.Frag} {h : Heap} {mg : Str → Option Value} {x y : Str} {st : Stmt} {f : Addr} {oc : Value} {od an : Option Addr} {osl : Array (Option Value)} {kV doc pm cdv ct : Value} (X : K.In h) (G : h.Ns mainGlobals mg) (a : PySem.W.nsIn K mainGlobals x = some (some (.ref f)))
    (l : K.lookup f = some ⟨oc, od, .func (PySem.W.fnOf y y (defArgs st) (defBody st) (defScope st) .none kV doc pm an cdv ct), osl⟩) (c : PySem.W.codeIn K cdv y = true) (k : PySem.W.keepIn K (.ref f) = true) : ∃ (f : Addr) (fd : FuncData), mg x = some (.ref f) ∧ Fun K y y st f fd :=
  ⟨f, _, PySem.W.mg_of X G a, fun_mk l c k⟩
theorem kn_of {P : Program} {w : World} {K : PySem.W.Frag} {mg : Str → Option Value} {base : Heap} {k : Nat} {x y : Str} {st : Stmt} {ps : List Str} {io : Option Nat} {F : Fn} {f : Addr} {fd : FuncData} (h : Kn P w K mg base k x y st ps io F) (hm : mg x = some (.ref f)) (hf : Fun K y y st f fd) : FnG P w K mg base (L2.CX P w) k f fd ps (spF K mg ps.length io F) := by
  obtain ⟨f', fd', h1, h2, h3⟩ := h.it
  rw [hm] at h2
  cases h2
  obtain ⟨_, _, _, _, _, _, _, _, _, _, l1, _⟩ := h3.ex
  obtain ⟨_, _, _, _, _, _, _, _, _, _, l2, _⟩ := hf.ex
  rw [l1] at l2
  cases l2
  exact h1
section
variable {X : Cx} {E : XK} {pos apos cpos npos pk : Pos} {e k : Expr} {m mk : M Res} {i : Nat} {x : Str} {W : L2.St → L2.St → Prop}
theorem ms_append (hx : PE X (.Name x npos) (tVar i)) (he : PE X e (tE X.K X.mg E m)) (hs : starEach [e] X.env = (false, eval e X.env) :: starEach [] X.env := by rfl)
    (hsw : swapsWith (.Call (.Attribute (.Name x npos) "append" apos) [e] [] cpos) none pos.line X.env = pure false := by rfl)
    (hbase : attributeBase (.Name x npos) "append" X.env (eval (.Name x npos) X.env) = eval (.Name x npos) X.env := by rfl)
    (hfew : ((backTo cpos (starEach [e] X.env)).all (fun x => !x.1) && (backToKw cpos (keywordEach [] X.env)).all (fun x => x.1.isSome) && decide ([e].length + ([] : List Keyword).length + (if ([] : List Keyword).isEmpty then 0 else 1) < 30)) = true := by rfl)
    (hline : (apos.endLine == cpos.line) = true := by rfl) (hplain : (backTo cpos (starEach [] X.env)).any (·.1) = false := by rfl) :
    PS X (.Expr (.Call (.Attribute (.Name x npos) "append" apos) [e] [] cpos) pos) (tS X.K X.mg E (mApp i m)) :=
  ms_app hx he hs hsw (pe_bm PySem.F.plainAttrs_list PySem.F.slot_list_append PySem.F.type_list_append mt_append hx (pa_cons he pa_nil hs) hbase hfew hline hs hplain)
theorem ms_setixS (hx : PE X (.Name x npos) (tVar i)) (hk : PE X k (tE X.K X.mg E mk)) (he : PE X e (tE X.K X.mg E m))
    (hs : swapsWithSole [.Subscript (.Name x npos) k pk] e pos.line X.env = pure false := by rfl) (hw : swappedStores [.Subscript (.Name x npos) k pk] e X.env = pure none := by rfl)
    (h1 : (assignEach [.Subscript (.Name x npos) k pk] X.env).map (·.2) = [assign (.Subscript (.Name x npos) k pk) X.env] := by rfl)
    (ha : ∀ v, assign (.Subscript (.Name x npos) k pk) X.env v = (do let ov ← holding [v] (eval (.Name x npos) X.env); let iv ← holding [v, ov] (eval k X.env); standAt pk; holding [v, ov, iv] (setItem ov iv v); release [v, ov, iv] []) := by intro _; rfl) :
    PS X (.Assign [.Subscript (.Name x npos) k pk] e pos) (tS X.K X.mg E (mSetIx i mk m)) := ms_setix hx hk he hs hw h1 (pg_sub hx hk set_list ha)
theorem mg_ixS (hW : ∀ σ, W σ σ) (hx : PE X (.Name x npos) (tVar i)) (hk : PE X k (tE X.K X.mg E mk))
    (ha : ∀ v, assign (.Subscript (.Name x npos) k pos) X.env v = (do let ov ← holding [v] (eval (.Name x npos) X.env); let iv ← holding [v, ov] (eval k X.env); standAt pos; holding [v, ov, iv] (setItem ov iv v); release [v, ov, iv] []) := by intro _; rfl) :
    PG X (.Subscript (.Name x npos) k pos) (tGt X.K X.mg E W (gIx i mk)) := mg_ix hW (pg_sub hx hk set_list ha)
theorem mg_tupS {es : List Expr} {kk n : Nat} {g : List D → M Unit} (hc : X.calm = true) (h : PGs X es (tGts X.K X.mg E W g)) (hn : n = es.length := by rfl)
    (h1 : (assignEach es X.env).length = n := by rfl) (h2 : (assignEach es X.env).findIdx? (·.1) = none := by rfl) : PG X (.Tuple es kk pos) (tGt X.K X.mg E W (gT n g)) := mg_tup hc h hn (pg_tup hc h h1 h2)
theorem ms_forC {tg iter : Expr} {body : List Stmt} {mi : M Itd} {g : D → M Unit} {mb : M Fl} (hp : PassesOwn (model X.prog X.w) X.A X.env X.xe) (hc : X.calm = true) (hi : PI X tg iter (tI X.K X.mg E mi)) (hg : PG X tg (tGt X.K X.mg E (fun _ _ => True) g)) (hb : PSs X body (tS X.K X.mg E mb))
    (hs : ∀ x, foldedSetIterable iter X.env x = pure x := by intro _; rfl) : PS X (.For tg iter body [] pos) (tS X.K X.mg E (mFor (chk mi) g mb)) := ms_for hp hc (chk_ok mi) (PI_imp hi fun _ _ _ w => tI_chk w) hg hb hs
end
theorem _root_.L2.Room.units64 {k : Nat} {A : Around} (r : Room k A) : A.units + 64 < cLine := by have := r.un; omega
theorem _root_.L2.Room.units70 {k : Nat} {A : Around} (r : Room k A) : A.units + 70 < cLine := by have := r.un; omega
end Mi

/-! Mi: == of texts beside == of data. -/
namespace Mi
open PySem L2 Evl PySem.Spec PyProof.Rows
def eqT : D → D → Option Res
  | .str x, .str y => some (.val (.bool (decide (x = y))))
  | _, _ => none
def neT : D → D → Option Res
  | .str x, .str y => some (.val (.bool (!decide (x = y))))
  | _, _ => none
def eqsD : D → D → Option Res
  | .str x, .str y => some (.val (.bool (decide (x = y))))
  | d, e => eqD d e
def nesD : D → D → Option Res
  | .str x, .str y => some (.val (.bool (!decide (x = y))))
  | d, e => neD d e
theorem dec_strV {x y : Str} : decide (V.str x = V.str y) = decide (x = y) := by
  by_cases h : x = y <;> simp [h]
theorem bin_eqT {K : PySem.W.Frag} : Bin K rEq eqT := by
  intro Hb H x y d e res Q ex hx hy hf k
  unfold eqT at hf
  split at hf
  · cases hf
    rw [hx.str, hy.str]
    refine ⟨rfl, ?_⟩
    rw [dec_strV]
    exact k _ Hb H (New.refl ex) (.bl _)
  · cases hf
theorem bin_neT {K : PySem.W.Frag} : Bin K rNe neT := by
  intro Hb H x y d e res Q ex hx hy hf k
  unfold neT at hf
  split at hf
  · cases hf
    rw [hx.str, hy.str]
    refine ⟨rfl, ?_⟩
    rw [dec_strV]
    exact k _ Hb H (New.refl ex) (.bl _)
  · cases hf
theorem op_eqS {X : Cx} (hu : X.A.units + 64 < cLine) : OpR X (compareOp .Eq) (fun x y H Q => rEq x y H Q ∨ rEqD X.K x y H Q) := op_eq.or (op_eqD hu)
theorem op_neS {X : Cx} (hu : X.A.units + 64 < cLine) : OpR X (compareOp .NotEq) (fun x y H Q => rNe x y H Q ∨ rNeD X.K x y H Q) := op_ne.or (op_neD hu)
theorem bin_eqS {K : PySem.W.Frag} : Bin K (fun x y H Q => rEq x y H Q ∨ rEqD K x y H Q) eqsD := (bin_eqT.or bin_eqA).imp fun d e z q => by
  cases d <;> cases e <;> first | exact q | (unfold eqsD at q; simp only [eqT]; exact q)
theorem bin_neS {K : PySem.W.Frag} : Bin K (fun x y H Q => rNe x y H Q ∨ rNeD K x y H Q) nesD := (bin_neT.or bin_neA).imp fun d e z q => by
  cases d <;> cases e <;> first | exact q | (unfold nesD at q; simp only [neT]; exact q)
end Mi

/-! Mi: runs of loops over data. -/
namespace Mi
open PySem L2 Evl PySem.Spec
theorem loopF_run {g : D → M Unit} {b : M Fl} (Inv : Nat → R → Prop) : ∀ (ds : List D) (k : Nat) (ρ : R), Inv k ρ →
    (∀ i ρ d, ds[i]? = some d → Inv (k + i) ρ → ∃ ρ1 ρ2 fl, g d ρ = some (.ok (), ρ1) ∧ b ρ1 = some (.ok fl, ρ2) ∧ (fl = .nx ∨ fl = .ct) ∧ Inv (k + i + 1) ρ2) → ∃ ρ', loopF g b ds ρ = some (.ok .nx, ρ') ∧ Inv (k + ds.length) ρ'
  | [], k, ρ, h0, _ => ⟨ρ, rfl, h0⟩
  | d :: ds, k, ρ, h0, step => by
    obtain ⟨ρ1, ρ2, fl, e1, e2, hf, h1⟩ := step 0 ρ d rfl h0
    obtain ⟨ρ', e3, h2⟩ := loopF_run Inv ds (k + 1) ρ2 h1 fun i ρ d hd hi => by
      have := step (i + 1) ρ d (by simpa using hd) (by rw [show k + (i + 1) = k + 1 + i by omega]; exact hi)
      rw [show k + (i + 1) + 1 = k + 1 + i + 1 by omega] at this
      exact this
    refine ⟨ρ', ?_, by rw [List.length_cons, show k + (ds.length + 1) = k + 1 + ds.length by omega]; exact h2⟩
    unfold loopF bnd
    rw [e1]
    dsimp only
    rw [e2]
    rcases hf with rfl | rfl <;> exact e3
/-- .. that may leave with a result -/
theorem loopF_exit {g : D → M Unit} {b : M Fl} (Inv : Nat → R → Prop) (Out : Fl → R → Prop) : ∀ (ds : List D) (k : Nat) (ρ : R), Inv k ρ →
    (∀ i ρ d, ds[i]? = some d → Inv (k + i) ρ → ∃ ρ1 ρ2 fl, g d ρ = some (.ok (), ρ1) ∧ b ρ1 = some (.ok fl, ρ2) ∧ ((fl = .nx ∨ fl = .ct) ∧ Inv (k + i + 1) ρ2 ∨ fl = .bk ∧ Out .nx ρ2 ∨ ∃ r, fl = .rt r ∧ Out (.rt r) ρ2)) →
    ∃ ρ' fl, loopF g b ds ρ = some (.ok fl, ρ') ∧ (fl = .nx ∧ Inv (k + ds.length) ρ' ∨ Out fl ρ')
  | [], k, ρ, h0, _ => ⟨ρ, .nx, rfl, .inl ⟨rfl, h0⟩⟩
  | d :: ds, k, ρ, h0, step => by
    obtain ⟨ρ1, ρ2, fl, e1, e2, hf⟩ := step 0 ρ d rfl h0
    rcases hf with ⟨hf, h1⟩ | ⟨rfl, h1⟩ | ⟨r, rfl, h1⟩
    · obtain ⟨ρ', fl', e3, h2⟩ := loopF_exit Inv Out ds (k + 1) ρ2 h1 fun i ρ d hd hi => by
        have := step (i + 1) ρ d (by simpa using hd) (by rw [show k + (i + 1) = k + 1 + i by omega]; exact hi)
        rw [show k + (i + 1) + 1 = k + 1 + i + 1 by omega] at this
        exact this
      refine ⟨ρ', fl', ?_, ?_⟩
      · unfold loopF bnd
        rw [e1]
        dsimp only
        rw [e2]
        rcases hf with rfl | rfl <;> exact e3
      · rw [List.length_cons, show k + (ds.length + 1) = k + 1 + ds.length by omega]
        exact h2
    · refine ⟨ρ2, .nx, ?_, .inr h1⟩
      unfold loopF bnd
      rw [e1]
      dsimp only
      rw [e2]
      rfl
    · refine ⟨ρ2, .rt r, ?_, .inr h1⟩
      unfold loopF bnd
      rw [e1]
      dsimp only
      rw [e2]
      rfl
/-- a comprehension without a test, over a state that the block leaves as it was -/
theorem loopC_map {g : D → M Unit} {e : M Res} {vs : List Nat} {ρw : R} {f : D → D} : ∀ (ds acc : List D), acc.length + ds.length ≤ sizeLine →
    (∀ d ∈ ds, ∃ ρa ρc, g d ρw = some (.ok (), ρa) ∧ mVal e ρa = some (.ok (f d), ρc) ∧ wipeR ρc vs = ρw) → loopC g (ret true) e vs ds ρw acc = some (acc ++ ds.map f, ρw)
  | [], acc, _, _ => by
    unfold loopC
    rw [List.map_nil, List.append_nil]
  | d :: ds, acc, hl, h => by
    obtain ⟨ρa, ρc, e1, e2, e3⟩ := h d List.mem_cons_self
    rw [List.length_cons] at hl
    unfold loopC
    rw [e1]
    dsimp only [ret]
    rw [e2]
    dsimp only
    rw [if_pos (by omega), e3, loopC_map ds (acc ++ [f d]) (by rw [List.length_append, List.length_cons, List.length_nil]; omega) fun d' hd => h d' (List.mem_cons_of_mem _ hd)]
    rw [List.map_cons, List.append_assoc]
    rfl
/-- a comprehension as a whole, nothing locked -/
theorem lc_run {it : M Itd} {g : D → M Unit} {t : M Bool} {e : M Res} {vs : List Nat} {ρ ρ1 ρe : R} {ds xs : List D} (hi : it ρ = some (.ok ⟨ds, []⟩, ρ1)) (hc : loopC g t e vs ds (wipeR ρ1 vs) [] = some (xs, ρe)) : mLc it g t e vs ρ = some (.ok (.fresh xs), restR ρ1 ρe vs) := by
  unfold mLc bnd chk
  rw [hi]
  dsimp only
  rw [if_pos (by simp)]
  dsimp only
  rw [if_pos (by simp)]
  rw [hc]
  rfl
/-- a loop as a whole, nothing locked -/
theorem for_run {it : M Itd} {g : D → M Unit} {b : M Fl} {ρ ρ1 ρ2 : R} {ds : List D} {fl : Fl} (hi : it ρ = some (.ok ⟨ds, []⟩, ρ1)) (hl : loopF g b ds ρ1 = some (.ok fl, ρ2)) : mFor (chk it) g b ρ = some (.ok fl, ρ2) := by
  unfold mFor bnd chk
  rw [hi]
  dsimp only
  rw [if_pos (by simp)]
  dsimp only
  rw [hl]
  rfl
end Mi

namespace K11
open PySem L2 Evl PySem.Spec PyProof.Rows Mi
def top (i : Nat) : Stmt := PySem.Challenge.pw_carryoffice_k11_whole_ratios_reckoned.main.body.getD i (.Pass ⟨0, 0, 0, 0⟩)
def v_BEYOND : D := .int 10000000000000000000000000000000000000000000000000000000000000000000000000000000000000000000000000000000000000000000000000000000000000000000000000000000000000000000000000000000000000000000000000000000000000000000000000000000000000000000000000000000000000000000000000000000000000000000000000000000000000000000000000000000000000000000000000000000000000000000000000000000000000000000000000000000000000000
def v_NOUGHT : D := .tuple [(.int 0), (.int 1)]
structure Txt (K : PySem.W.Frag) (mg : Str → Option Value) : Prop where
  b_abs : mg "abs" = none
  b_all : mg "all" = none
  b_bool : mg "bool" = none
  b_divmod : mg "divmod" = none
  b_int : mg "int" = none
  b_isinstance : mg "isinstance" = none
  b_len : mg "len" = none
  b_list : mg "list" = none
  b_max : mg "max" = none
  b_range : mg "range" = none
  b_repr : mg "repr" = none
  b_str : mg "str" = none
  b_tuple : mg "tuple" = none
  g_gcd : mg "gcd" = some (.builtin "math.gcd")
  g_lcm : mg "lcm" = some (.builtin "math.lcm")
  c_BEYOND : Cst K mg "BEYOND" v_BEYOND
  c_NOUGHT : Cst K mg "NOUGHT" v_NOUGHT
theorem txt_mk {K : PySem.W.Frag} {h : Heap} {mg : Str → Option Value} (X : K.In h) (G : h.Ns mainGlobals mg) {t_BEYOND : Tok} {a_NOUGHT : Addr} {t_NOUGHT u_NOUGHT : Tok} {od_NOUGHT : Option Addr} {n_NOUGHT : Nat} {sl_NOUGHT : Array (Option Value)}
    (b_abs : PySem.W.nsIn K mainGlobals "abs" = some none)
    (b_all : PySem.W.nsIn K mainGlobals "all" = some none)
    (b_bool : PySem.W.nsIn K mainGlobals "bool" = some none)
    (b_divmod : PySem.W.nsIn K mainGlobals "divmod" = some none)
    (b_int : PySem.W.nsIn K mainGlobals "int" = some none)
    (b_isinstance : PySem.W.nsIn K mainGlobals "isinstance" = some none)
    (b_len : PySem.W.nsIn K mainGlobals "len" = some none)
    (b_list : PySem.W.nsIn K mainGlobals "list" = some none)
    (b_max : PySem.W.nsIn K mainGlobals "max" = some none)
    (b_range : PySem.W.nsIn K mainGlobals "range" = some none)
    (b_repr : PySem.W.nsIn K mainGlobals "repr" = some none)
    (b_str : PySem.W.nsIn K mainGlobals "str" = some none)
    (b_tuple : PySem.W.nsIn K mainGlobals "tuple" = some none)
    (g_gcd : PySem.W.nsIn K mainGlobals "gcd" = some (some (.builtin "math.gcd")))
    (g_lcm : PySem.W.nsIn K mainGlobals "lcm" = some (some (.builtin "math.lcm")))
    (c_BEYOND : PySem.W.nsIn K mainGlobals "BEYOND" = some (some (.int 10000000000000000000000000000000000000000000000000000000000000000000000000000000000000000000000000000000000000000000000000000000000000000000000000000000000000000000000000000000000000000000000000000000000000000000000000000000000000000000000000000000000000000000000000000000000000000000000000000000000000000000000000000000000000000000000000000000000000000000000000000000000000000000000000000000000000000 t_BEYOND)))
    (c_NOUGHT : PySem.W.nsIn K mainGlobals "NOUGHT" = some (some (.ref a_NOUGHT)))
    (l_NOUGHT : K.lookup a_NOUGHT = some ⟨.type "tuple", od_NOUGHT, .seq #[.int 0 t_NOUGHT, .int 1 u_NOUGHT] n_NOUGHT, sl_NOUGHT⟩)
    : Txt K mg := ⟨PySem.W.mg_none_of X G b_abs, PySem.W.mg_none_of X G b_all, PySem.W.mg_none_of X G b_bool, PySem.W.mg_none_of X G b_divmod, PySem.W.mg_none_of X G b_int, PySem.W.mg_none_of X G b_isinstance, PySem.W.mg_none_of X G b_len, PySem.W.mg_none_of X G b_list, PySem.W.mg_none_of X G b_max, PySem.W.mg_none_of X G b_range, PySem.W.mg_none_of X G b_repr, PySem.W.mg_none_of X G b_str, PySem.W.mg_none_of X G b_tuple, PySem.W.mg_of X G g_gcd, PySem.W.mg_of X G g_lcm, cst_int X G c_BEYOND, cst_tup2 X G c_NOUGHT l_NOUGHT⟩
theorem b__law_pot_2 : BindsQ "_law_pot" (top 42) ["script", "k"] 2 [] (List.range 2) := fun _ _ _ _ _ _ us ws h1 h2 => match us, h1, ws, h2 with | [_, _], _, [], _ => rfl
theorem b__law_drawn_1 : BindsQ "_law_drawn" (top 48) ["pot"] 1 [] (List.range 1) := fun _ _ _ _ _ _ us ws h1 h2 => match us, h1, ws, h2 with | [_], _, [], _ => rfl
theorem b__law_ratio_2 : BindsQ "_law_ratio" (top 46) ["number", "under"] 2 [] (List.range 2) := fun _ _ _ _ _ _ us ws h1 h2 => match us, h1, ws, h2 with | [_, _], _, [], _ => rfl
theorem b__law_second_2 : BindsQ "_law_second" (top 49) ["pot", "ratio"] 2 [] (List.range 2) := fun _ _ _ _ _ _ us ws h1 h2 => match us, h1, ws, h2 with | [_, _], _, [], _ => rfl
theorem b__law_two_2 : BindsQ "_law_two" (top 50) ["near", "far"] 2 [] (List.range 2) := fun _ _ _ _ _ _ us ws h1 h2 => match us, h1, ws, h2 with | [_, _], _, [], _ => rfl
theorem b__law_one_1 : BindsQ "_law_one" (top 51) ["ratio"] 1 [] (List.range 1) := fun _ _ _ _ _ _ us ws h1 h2 => match us, h1, ws, h2 with | [_], _, [], _ => rfl
theorem b__law_list_1 : BindsQ "_law_list" (top 52) ["pot"] 1 [] (List.range 1) := fun _ _ _ _ _ _ us ws h1 h2 => match us, h1, ws, h2 with | [_], _, [], _ => rfl
theorem b__law_lists_2 : BindsQ "_law_lists" (top 53) ["pot", "ratios"] 2 [] (List.range 2) := fun _ _ _ _ _ _ us ws h1 h2 => match us, h1, ws, h2 with | [_, _], _, [], _ => rfl
theorem b__law_any_1 : BindsQ "_law_any" (top 54) ["pot"] 1 [] (List.range 1) := fun _ _ _ _ _ _ us ws h1 h2 => match us, h1, ws, h2 with | [_], _, [], _ => rfl
theorem b__law_number_1 : BindsQ "_law_number" (top 47) ["pot"] 1 [] (List.range 1) := fun _ _ _ _ _ _ us ws h1 h2 => match us, h1, ws, h2 with | [_], _, [], _ => rfl
theorem b__law_pick_2 : BindsQ "_law_pick" (top 44) ["pot", "some"] 2 [] (List.range 2) := fun _ _ _ _ _ _ us ws h1 h2 => match us, h1, ws, h2 with | [_, _], _, [], _ => rfl
theorem b__law_draw_2 : BindsQ "_law_draw" (top 43) ["pot", "size"] 2 [] (List.range 2) := fun _ _ _ _ _ _ us ws h1 h2 => match us, h1, ws, h2 with | [_, _], _, [], _ => rfl
theorem b__law_common_2 : BindsQ "_law_common" (top 45) ["one", "other"] 2 [] (List.range 2) := fun _ _ _ _ _ _ us ws h1 h2 => match us, h1, ws, h2 with | [_, _], _, [], _ => rfl
theorem b_compared_2 : BindsQ "compared" (top 34) ["ratio", "other_ratio"] 2 [] (List.range 2) := fun _ _ _ _ _ _ us ws h1 h2 => match us, h1, ws, h2 with | [_, _], _, [], _ => rfl
theorem b_times_0_ratio_other_ratio : BindsQ "times" (top 32) ["ratio", "other_ratio"] 0 ["ratio", "other_ratio"] [0, 1] := fun _ _ _ _ _ _ us ws h1 h2 => match us, h1, ws, h2 with | [], _, [_, _], _ => rfl
theorem b_less_2 : BindsQ "less" (top 31) ["ratio", "other_ratio"] 2 [] (List.range 2) := fun _ _ _ _ _ _ us ws h1 h2 => match us, h1, ws, h2 with | [_, _], _, [], _ => rfl
theorem b_added_0_other_ratio_ratio : BindsQ "added" (top 30) ["ratio", "other_ratio"] 0 ["other_ratio", "ratio"] [1, 0] := fun _ _ _ _ _ _ us ws h1 h2 => match us, h1, ws, h2 with | [], _, [_, _], _ => rfl
theorem b_compared_0_ratio_other_ratio : BindsQ "compared" (top 34) ["ratio", "other_ratio"] 0 ["ratio", "other_ratio"] [0, 1] := fun _ _ _ _ _ _ us ws h1 h2 => match us, h1, ws, h2 with | [], _, [_, _], _ => rfl
theorem b_added_2 : BindsQ "added" (top 30) ["ratio", "other_ratio"] 2 [] (List.range 2) := fun _ _ _ _ _ _ us ws h1 h2 => match us, h1, ws, h2 with | [_, _], _, [], _ => rfl
theorem b_less_0_other_ratio_ratio : BindsQ "less" (top 31) ["ratio", "other_ratio"] 0 ["other_ratio", "ratio"] [1, 0] := fun _ _ _ _ _ _ us ws h1 h2 => match us, h1, ws, h2 with | [], _, [_, _], _ => rfl
theorem b_over_0_other_ratio_ratio : BindsQ "over" (top 33) ["ratio", "other_ratio"] 0 ["other_ratio", "ratio"] [1, 0] := fun _ _ _ _ _ _ us ws h1 h2 => match us, h1, ws, h2 with | [], _, [_, _], _ => rfl
theorem b_over_2 : BindsQ "over" (top 33) ["ratio", "other_ratio"] 2 [] (List.range 2) := fun _ _ _ _ _ _ us ws h1 h2 => match us, h1, ws, h2 with | [_, _], _, [], _ => rfl
theorem b__want_two_2 : BindsQ "_want_two" (top 27) ["ratio", "other_ratio"] 2 [] (List.range 2) := fun _ _ _ _ _ _ us ws h1 h2 => match us, h1, ws, h2 with | [_, _], _, [], _ => rfl
theorem b_is_less_2 : BindsQ "is_less" (top 25) ["near", "far"] 2 [] (List.range 2) := fun _ _ _ _ _ _ us ws h1 h2 => match us, h1, ws, h2 with | [_, _], _, [], _ => rfl
theorem b_want_ratio_1 : BindsQ "want_ratio" (top 19) ["value"] 1 [] (List.range 1) := fun _ _ _ _ _ _ us ws h1 h2 => match us, h1, ws, h2 with | [_], _, [], _ => rfl
theorem b_is_ratio_1 : BindsQ "is_ratio" (top 18) ["value"] 1 [] (List.range 1) := fun _ _ _ _ _ _ us ws h1 h2 => match us, h1, ws, h2 with | [_], _, [], _ => rfl
theorem b_is_row_2 : BindsQ "is_row" (top 13) ["value", "many"] 2 [] (List.range 2) := fun _ _ _ _ _ _ us ws h1 h2 => match us, h1, ws, h2 with | [_, _], _, [], _ => rfl
theorem b_is_integer_1 : BindsQ "is_integer" (top 11) ["value"] 1 [] (List.range 1) := fun _ _ _ _ _ _ us ws h1 h2 => match us, h1, ws, h2 with | [_], _, [], _ => rfl
theorem b_product_2 : BindsQ "product" (top 23) ["near", "far"] 2 [] (List.range 2) := fun _ _ _ _ _ _ us ws h1 h2 => match us, h1, ws, h2 with | [_, _], _, [], _ => rfl
theorem b__told_1 : BindsQ "_told" (top 26) ["ratio"] 1 [] (List.range 1) := fun _ _ _ _ _ _ us ws h1 h2 => match us, h1, ws, h2 with | [_], _, [], _ => rfl
theorem b_fraction_2 : BindsQ "fraction" (top 20) ["number", "under"] 2 [] (List.range 2) := fun _ _ _ _ _ _ us ws h1 h2 => match us, h1, ws, h2 with | [_, _], _, [], _ => rfl
theorem b_minus_2 : BindsQ "minus" (top 22) ["near", "far"] 2 [] (List.range 2) := fun _ _ _ _ _ _ us ws h1 h2 => match us, h1, ws, h2 with | [_, _], _, [], _ => rfl
theorem b_plus_2 : BindsQ "plus" (top 21) ["near", "far"] 2 [] (List.range 2) := fun _ _ _ _ _ _ us ws h1 h2 => match us, h1, ws, h2 with | [_, _], _, [], _ => rfl
theorem b_quotient_2 : BindsQ "quotient" (top 24) ["near", "far"] 2 [] (List.range 2) := fun _ _ _ _ _ _ us ws h1 h2 => match us, h1, ws, h2 with | [_, _], _, [], _ => rfl
theorem b_floor_of_1 : BindsQ "floor_of" (top 36) ["ratio"] 1 [] (List.range 1) := fun _ _ _ _ _ _ us ws h1 h2 => match us, h1, ws, h2 with | [_], _, [], _ => rfl
theorem b_ceiling_of_1 : BindsQ "ceiling_of" (top 37) ["ratio"] 1 [] (List.range 1) := fun _ _ _ _ _ _ us ws h1 h2 => match us, h1, ws, h2 with | [_], _, [], _ => rfl
theorem b_ceiling_of_0_ratio : BindsQ "ceiling_of" (top 37) ["ratio"] 0 ["ratio"] [0] := fun _ _ _ _ _ _ us ws h1 h2 => match us, h1, ws, h2 with | [], _, [_], _ => rfl
theorem b_floor_of_0_ratio : BindsQ "floor_of" (top 36) ["ratio"] 0 ["ratio"] [0] := fun _ _ _ _ _ _ us ws h1 h2 => match us, h1, ws, h2 with | [], _, [_], _ => rfl
theorem b_whole_row_0_ratios : BindsQ "whole_row" (top 40) ["ratios"] 0 ["ratios"] [0] := fun _ _ _ _ _ _ us ws h1 h2 => match us, h1, ws, h2 with | [], _, [_], _ => rfl
theorem b_common_under_1 : BindsQ "common_under" (top 39) ["ratios"] 1 [] (List.range 1) := fun _ _ _ _ _ _ us ws h1 h2 => match us, h1, ws, h2 with | [_], _, [], _ => rfl
theorem b_sum_of_1 : BindsQ "sum_of" (top 35) ["ratios"] 1 [] (List.range 1) := fun _ _ _ _ _ _ us ws h1 h2 => match us, h1, ws, h2 with | [_], _, [], _ => rfl
theorem b_whole_row_1 : BindsQ "whole_row" (top 40) ["ratios"] 1 [] (List.range 1) := fun _ _ _ _ _ _ us ws h1 h2 => match us, h1, ws, h2 with | [_], _, [], _ => rfl
theorem b_common_under_0_ratios : BindsQ "common_under" (top 39) ["ratios"] 0 ["ratios"] [0] := fun _ _ _ _ _ _ us ws h1 h2 => match us, h1, ws, h2 with | [], _, [_], _ => rfl
theorem b_sum_of_0_ratios : BindsQ "sum_of" (top 35) ["ratios"] 0 ["ratios"] [0] := fun _ _ _ _ _ _ us ws h1 h2 => match us, h1, ws, h2 with | [], _, [_], _ => rfl
theorem b__want_ratios_1 : BindsQ "_want_ratios" (top 28) ["value"] 1 [] (List.range 1) := fun _ _ _ _ _ _ us ws h1 h2 => match us, h1, ws, h2 with | [_], _, [], _ => rfl
theorem b_under_of_1 : BindsQ "under_of" (top 38) ["ratios"] 1 [] (List.range 1) := fun _ _ _ _ _ _ us ws h1 h2 => match us, h1, ws, h2 with | [_], _, [], _ => rfl
theorem b_is_list_1 : BindsQ "is_list" (top 12) ["value"] 1 [] (List.range 1) := fun _ _ _ _ _ _ us ws h1 h2 => match us, h1, ws, h2 with | [_], _, [], _ => rfl
theorem b_is_ratio_0_value : BindsQ "is_ratio" (top 18) ["value"] 0 ["value"] [0] := fun _ _ _ _ _ _ us ws h1 h2 => match us, h1, ws, h2 with | [], _, [_], _ => rfl
theorem b_made_0_under_number : BindsQ "made" (top 29) ["number", "under"] 0 ["under", "number"] [1, 0] := fun _ _ _ _ _ _ us ws h1 h2 => match us, h1, ws, h2 with | [], _, [_, _], _ => rfl
theorem b_made_2 : BindsQ "made" (top 29) ["number", "under"] 2 [] (List.range 2) := fun _ _ _ _ _ _ us ws h1 h2 => match us, h1, ws, h2 with | [_, _], _, [], _ => rfl
theorem sc__law_pot : FnScope ["script", "k", "cell"] ["script", "k"] (defScope (top 42)) := ⟨rfl, rfl, rfl, by decide +kernel, rfl, by decide +kernel, by decide +kernel⟩
def m__law_pot : M Fl := (mSeq (mAsg 2 (mIf (mB (mBin ltD (mVar 1) (mCall lenD (aT (mVar 0) aNil)))) (mCall absD (aT (mBin ixD (mVar 0) (mVar 1)) aNil)) (mBin addD (mBin mulD (mC (.int 719)) (mVar 1)) (mC (.int 1327))))) (mRet (mLst (aV (mCall max2D (aT (mC (.int 0)) (aT (mBin subD (mVar 2) (mBin powD (mC (.int 10)) (mC (.int 18)))) aNil))) (aV (mBin addD (mBin modD (mCall intD (aT (mBin addD (mBin addD (mBin mulD (mBin modD (mCall intD (aT (mVar 2) aNil)) (mC (.int 2147483549))) (mC (.int 41411))) (mBin mulD (mC (.int 173)) (mVar 1))) (mC (.int 907))) aNil)) (mC (.int 2147483563))) (mC (.int 1))) aNil)))))
def f__law_pot : Fn := mkFn 2 3 none m__law_pot
theorem sc__law_draw : FnScope ["pot", "size", "digit"] ["pot", "size"] (defScope (top 43)) := ⟨rfl, rfl, rfl, by decide +kernel, rfl, by decide +kernel, by decide +kernel⟩
def m__law_draw : M Fl := (mSeq (mIfS (mB (mBin gtD (mBin ixD (mVar 0) (mC (.int 0))) (mC (.int 0)))) (mSeq (mAsgG (gT 2 (gsCons (gIx 0 (mC (.int 0))) (gsCons (gN 2) gsNil))) (mCall divmodD (aT (mBin ixD (mVar 0) (mC (.int 0))) (aT (mVar 1) aNil)))) (mRet (mVar 2))) mNx) (mSeq (mSetIx 0 (mC (.int 1)) (mBin modD (mCall intD (aT (mBin addD (mBin mulD (mBin ixD (mVar 0) (mC (.int 1))) (mC (.int 40692))) (mC (.int 173))) aNil)) (mC (.int 2147483399)))) (mRet (mBin modD (mCall intD (aT (mBin fdivD (mBin modD (mCall intD (aT (mBin mulD (mBin ixD (mVar 0) (mC (.int 1))) (mBin ixD (mVar 0) (mC (.int 1)))) aNil)) (mC (.int 2147483323))) (mC (.int 19))) aNil)) (mVar 1)))))
def f__law_draw : Fn := mkFn 2 3 (some 0) m__law_draw
theorem sc__law_pick : FnScope ["pot", "some"] ["pot", "some"] (defScope (top 44)) := ⟨rfl, rfl, rfl, by decide +kernel, rfl, by decide +kernel, by decide +kernel⟩
def m__law_pick : M Fl := (mRet (mBin ixD (mVar 1) (mF 2 f__law_draw (some 0) (aT (mVar 0) (aT (mCall lenD (aT (mVar 1) aNil)) aNil)))))
def f__law_pick : Fn := mkFn 2 2 (some 0) m__law_pick
theorem sc__law_number : FnScope ["pot", "size"] ["pot"] (defScope (top 47)) := ⟨rfl, rfl, rfl, by decide +kernel, rfl, by decide +kernel, by decide +kernel⟩
def m__law_number : M Fl := (mSeq (mAsg 1 (mF 2 f__law_pick (some 0) (aT (mVar 0) (aT (mLst (aV (mC (.int 3)) (aV (mC (.int 12)) (aV (mC (.int 100)) (aV (mBin powD (mC (.int 10)) (mC (.int 9))) (aV (mBin powD (mC (.int 10)) (mC (.int 40))) aNil)))))) aNil)))) (mRet (mBin subD (mF 2 f__law_draw (some 0) (aT (mVar 0) (aT (mBin addD (mBin mulD (mC (.int 2)) (mVar 1)) (mC (.int 1))) aNil))) (mVar 1))))
def f__law_number : Fn := mkFn 1 2 (some 0) m__law_number
theorem sc__law_drawn : FnScope ["pot", "number", "under"] ["pot"] (defScope (top 48)) := ⟨rfl, rfl, rfl, by decide +kernel, rfl, by decide +kernel, by decide +kernel⟩
def m__law_drawn : M Fl := (mSeq (mPar 1 2 (mF 1 f__law_number (some 0) (aT (mVar 0) aNil)) (mF 1 f__law_number (some 0) (aT (mVar 0) aNil))) (mRet (mTup (aV (mVar 1) (aV (mIf (mB (mBin nesD (mVar 2) (mC (.int 0)))) (mVar 2) (mF 2 f__law_pick (some 0) (aT (mVar 0) (aT (mLst (aV (mC (.int 1)) (aV (mUn negD (mC (.int 1))) (aV (mC (.int 6)) aNil)))) aNil)))) aNil)))))
def f__law_drawn : Fn := mkFn 1 3 (some 0) m__law_drawn
theorem sc__law_common : FnScope ["one", "other"] ["one", "other"] (defScope (top 45)) := ⟨rfl, rfl, rfl, by decide +kernel, rfl, by decide +kernel, by decide +kernel⟩
def m__law_common : M Fl := (mSeq (mWhile (mB (mBin nesD (mVar 1) (mC (.int 0)))) (mPar 0 1 (mVar 1) (mBin subD (mVar 0) (mBin mulD (mBin fdivD (mVar 0) (mVar 1)) (mVar 1)))) 100000) (mRet (mCall absD (aT (mVar 0) aNil))))
def f__law_common : Fn := mkFn 2 2 none m__law_common
theorem sc__law_ratio : FnScope ["number", "under", "common"] ["number", "under"] (defScope (top 46)) := ⟨rfl, rfl, rfl, by decide +kernel, rfl, by decide +kernel, by decide +kernel⟩
def m__law_ratio : M Fl := (mSeq (mAsg 2 (mF 2 f__law_common none (aT (mVar 0) (aT (mVar 1) aNil)))) (mSeq (mIfS (mB (mBin ltD (mVar 1) (mC (.int 0)))) (mAsg 2 (mUn negD (mVar 2))) mNx) (mRet (mTup (aV (mBin fdivD (mVar 0) (mVar 2)) (aV (mBin fdivD (mVar 1) (mVar 2)) aNil))))))
def f__law_ratio : Fn := mkFn 2 3 none m__law_ratio
theorem sc__law_second : FnScope ["pot", "ratio", "way", "one"] ["pot", "ratio"] (defScope (top 49)) := ⟨rfl, rfl, rfl, by decide +kernel, rfl, by decide +kernel, by decide +kernel⟩
def m__law_second : M Fl := (mSeq (mAsg 2 (mF 2 f__law_draw (some 0) (aT (mVar 0) (aT (mC (.int 6)) aNil)))) (mSeq (mIfS (mB (mBin eqsD (mVar 2) (mC (.int 0)))) (mRet (mVar 1)) mNx) (mSeq (mIfS (mB (mBin eqsD (mVar 2) (mC (.int 1)))) (mRet (mTup (aV (mUn negD (mBin ixD (mVar 1) (mC (.int 0)))) (aV (mBin ixD (mVar 1) (mC (.int 1))) aNil)))) mNx) (mSeq (mIfS (mB (mBin eqsD (mVar 2) (mC (.int 2)))) (mRet (mF 2 f__law_ratio none (aT (mBin addD (mBin mulD (mBin ixD (mVar 1) (mC (.int 0))) (mC (.int 1000))) (mF 2 f__law_pick (some 0) (aT (mVar 0) (aT (mLst (aV (mUn negD (mC (.int 1))) (aV (mC (.int 1)) aNil))) aNil)))) (aT (mBin mulD (mBin ixD (mVar 1) (mC (.int 1))) (mC (.int 1000))) aNil)))) mNx) (mSeq (mIfS (mB (mBin eqsD (mVar 2) (mC (.int 3)))) (mRet (mTup (aV (mF 1 f__law_number (some 0) (aT (mVar 0) aNil)) (aV (mC (.int 1)) aNil)))) mNx) (mSeq (mAsg 3 (mF 1 f__law_drawn (some 0) (aT (mVar 0) aNil))) (mRet (mF 2 f__law_ratio none (aT (mBin ixD (mVar 3) (mC (.int 0))) (aT (mBin ixD (mVar 3) (mC (.int 1))) aNil))))))))))
def f__law_second : Fn := mkFn 2 4 (some 0) m__law_second
theorem sc_is_row : FnScope ["value", "many"] ["value", "many"] (defScope (top 13)) := ⟨rfl, rfl, rfl, by decide +kernel, rfl, by decide +kernel, by decide +kernel⟩
def m_is_row : M Fl := (mRet (mAndV (mIsi ["tuple"] (mVar 0)) (mBin eqsD (mCall lenD (aT (mVar 0) aNil)) (mVar 1))))
def f_is_row : Fn := mkFn 2 2 none m_is_row
theorem sc_is_integer : FnScope ["value"] ["value"] (defScope (top 11)) := ⟨rfl, rfl, rfl, by decide +kernel, rfl, by decide +kernel, by decide +kernel⟩
def m_is_integer : M Fl := (mRet (mAndV (mIsi ["int"] (mVar 0)) (mUn notD (mIsi ["bool"] (mVar 0)))))
def f_is_integer : Fn := mkFn 1 1 none m_is_integer
theorem sc_is_ratio : FnScope ["value"] ["value"] (defScope (top 18)) := ⟨rfl, rfl, rfl, by decide +kernel, rfl, by decide +kernel, by decide +kernel⟩
def m_is_ratio : M Fl := (mSeq (mIfS (mOr (mNot (mB (mF 2 f_is_row none (aT (mVar 0) (aT (mC (.int 2)) aNil))))) (mOr (mNot (mB (mF 1 f_is_integer none (aT (mBin ixD (mVar 0) (mC (.int 0))) aNil)))) (mNot (mB (mF 1 f_is_integer none (aT (mBin ixD (mVar 0) (mC (.int 1))) aNil)))))) (mRet (mC (.bool false))) mNx) (mRet (mAndV (mChain ltD ltD (mC (.int 0)) (mBin ixD (mVar 0) (mC (.int 1))) (mC v_BEYOND)) (mAndV (mChain ltD ltD (mUn negD (mC v_BEYOND)) (mBin ixD (mVar 0) (mC (.int 0))) (mC v_BEYOND)) (mBin eqsD (mCall gcdD (aT (mBin ixD (mVar 0) (mC (.int 0))) (aT (mBin ixD (mVar 0) (mC (.int 1))) aNil))) (mC (.int 1)))))))
def f_is_ratio : Fn := mkFn 1 1 none m_is_ratio
theorem sc_want_ratio : FnScope ["value"] ["value"] (defScope (top 19)) := ⟨rfl, rfl, rfl, by decide +kernel, rfl, by decide +kernel, by decide +kernel⟩
def m_want_ratio : M Fl := (mSeq (mIfS (mNot (mB (mF 1 f_is_ratio none (aT (mVar 0) aNil)))) stuck mNx) (mRet (mVar 0)))
def f_want_ratio : Fn := mkFn 1 1 none m_want_ratio
theorem sc__want_two : FnScope ["ratio", "other_ratio"] ["ratio", "other_ratio"] (defScope (top 27)) := ⟨rfl, rfl, rfl, by decide +kernel, rfl, by decide +kernel, by decide +kernel⟩
def m__want_two : M Fl := (mSeq (mDrop (mF 1 f_want_ratio none (aT (mVar 0) aNil))) (mDrop (mF 1 f_want_ratio none (aT (mVar 1) aNil))))
def f__want_two : Fn := mkFn 2 2 none m__want_two
theorem sc_is_less : FnScope ["near", "far"] ["near", "far"] (defScope (top 25)) := ⟨rfl, rfl, rfl, by decide +kernel, rfl, by decide +kernel, by decide +kernel⟩
def m_is_less : M Fl := (mRet (mBin ltD (mBin mulD (mBin ixD (mVar 0) (mC (.int 0))) (mBin ixD (mVar 1) (mC (.int 1)))) (mBin mulD (mBin ixD (mVar 1) (mC (.int 0))) (mBin ixD (mVar 0) (mC (.int 1))))))
def f_is_less : Fn := mkFn 2 2 none m_is_less
theorem sc_compared : FnScope ["ratio", "other_ratio"] ["ratio", "other_ratio"] (defScope (top 34)) := ⟨rfl, rfl, rfl, by decide +kernel, rfl, by decide +kernel, by decide +kernel⟩
def m_compared : M Fl := (mSeq (mDrop (mF 2 f__want_two none (aT (mVar 0) (aT (mVar 1) aNil)))) (mSeq (mIfS (mB (mBin eqsD (mVar 0) (mVar 1))) (mRet (mC (.int 0))) mNx) (mRet (mIf (mB (mF 2 f_is_less none (aT (mVar 0) (aT (mVar 1) aNil)))) (mUn negD (mC (.int 1))) (mC (.int 1))))))
def f_compared : Fn := mkFn 2 2 none m_compared
theorem sc__told : FnScope ["ratio"] ["ratio"] (defScope (top 26)) := ⟨rfl, rfl, rfl, by decide +kernel, rfl, by decide +kernel, by decide +kernel⟩
def m__told : M Fl := (mSeq (mIfS (mNot (mAnd (mB (mBin ltD (mBin ixD (mVar 0) (mC (.int 1))) (mC v_BEYOND))) (mB (mChain ltD ltD (mUn negD (mC v_BEYOND)) (mBin ixD (mVar 0) (mC (.int 0))) (mC v_BEYOND))))) stuck mNx) (mRet (mVar 0)))
def f__told : Fn := mkFn 1 1 none m__told
theorem sc_fraction : FnScope ["number", "under", "part"] ["number", "under"] (defScope (top 20)) := ⟨rfl, rfl, rfl, by decide +kernel, rfl, by decide +kernel, by decide +kernel⟩
def m_fraction : M Fl := (mSeq (mAsg 2 (mCall gcdD (aT (mVar 0) (aT (mVar 1) aNil)))) (mSeq (mIfS (mB (mBin ltD (mVar 1) (mC (.int 0)))) (mAsg 2 (mUn negD (mVar 2))) mNx) (mRet (mTup (aV (mBin fdivD (mVar 0) (mVar 2)) (aV (mBin fdivD (mVar 1) (mVar 2)) aNil))))))
def f_fraction : Fn := mkFn 2 3 none m_fraction
theorem sc_product : FnScope ["near", "far"] ["near", "far"] (defScope (top 23)) := ⟨rfl, rfl, rfl, by decide +kernel, rfl, by decide +kernel, by decide +kernel⟩
def m_product : M Fl := (mRet (mF 2 f_fraction none (aT (mBin mulD (mBin ixD (mVar 0) (mC (.int 0))) (mBin ixD (mVar 1) (mC (.int 0)))) (aT (mBin mulD (mBin ixD (mVar 0) (mC (.int 1))) (mBin ixD (mVar 1) (mC (.int 1)))) aNil))))
def f_product : Fn := mkFn 2 2 none m_product
theorem sc_times : FnScope ["ratio", "other_ratio"] ["ratio", "other_ratio"] (defScope (top 32)) := ⟨rfl, rfl, rfl, by decide +kernel, rfl, by decide +kernel, by decide +kernel⟩
def m_times : M Fl := (mSeq (mDrop (mF 2 f__want_two none (aT (mVar 0) (aT (mVar 1) aNil)))) (mRet (mF 1 f__told none (aT (mF 2 f_product none (aT (mVar 0) (aT (mVar 1) aNil))) aNil))))
def f_times : Fn := mkFn 2 2 none m_times
theorem sc_plus : FnScope ["near", "far"] ["near", "far"] (defScope (top 21)) := ⟨rfl, rfl, rfl, by decide +kernel, rfl, by decide +kernel, by decide +kernel⟩
def m_plus : M Fl := (mSeq (mIfS (mB (mBin eqsD (mBin ixD (mVar 0) (mC (.int 1))) (mBin ixD (mVar 1) (mC (.int 1))))) (mRet (mF 2 f_fraction none (aT (mBin addD (mBin ixD (mVar 0) (mC (.int 0))) (mBin ixD (mVar 1) (mC (.int 0)))) (aT (mBin ixD (mVar 0) (mC (.int 1))) aNil)))) mNx) (mRet (mF 2 f_fraction none (aT (mBin addD (mBin mulD (mBin ixD (mVar 0) (mC (.int 0))) (mBin ixD (mVar 1) (mC (.int 1)))) (mBin mulD (mBin ixD (mVar 1) (mC (.int 0))) (mBin ixD (mVar 0) (mC (.int 1))))) (aT (mBin mulD (mBin ixD (mVar 0) (mC (.int 1))) (mBin ixD (mVar 1) (mC (.int 1)))) aNil)))))
def f_plus : Fn := mkFn 2 2 none m_plus
theorem sc_minus : FnScope ["near", "far"] ["near", "far"] (defScope (top 22)) := ⟨rfl, rfl, rfl, by decide +kernel, rfl, by decide +kernel, by decide +kernel⟩
def m_minus : M Fl := (mRet (mF 2 f_plus none (aT (mVar 0) (aT (mTup (aV (mUn negD (mBin ixD (mVar 1) (mC (.int 0)))) (aV (mBin ixD (mVar 1) (mC (.int 1))) aNil))) aNil))))
def f_minus : Fn := mkFn 2 2 none m_minus
theorem sc_less : FnScope ["ratio", "other_ratio"] ["ratio", "other_ratio"] (defScope (top 31)) := ⟨rfl, rfl, rfl, by decide +kernel, rfl, by decide +kernel, by decide +kernel⟩
def m_less : M Fl := (mSeq (mDrop (mF 2 f__want_two none (aT (mVar 0) (aT (mVar 1) aNil)))) (mRet (mF 1 f__told none (aT (mF 2 f_minus none (aT (mVar 0) (aT (mVar 1) aNil))) aNil))))
def f_less : Fn := mkFn 2 2 none m_less
theorem sc_added : FnScope ["ratio", "other_ratio"] ["ratio", "other_ratio"] (defScope (top 30)) := ⟨rfl, rfl, rfl, by decide +kernel, rfl, by decide +kernel, by decide +kernel⟩
def m_added : M Fl := (mSeq (mDrop (mF 2 f__want_two none (aT (mVar 0) (aT (mVar 1) aNil)))) (mRet (mF 1 f__told none (aT (mF 2 f_plus none (aT (mVar 0) (aT (mVar 1) aNil))) aNil))))
def f_added : Fn := mkFn 2 2 none m_added
theorem sc_quotient : FnScope ["near", "far"] ["near", "far"] (defScope (top 24)) := ⟨rfl, rfl, rfl, by decide +kernel, rfl, by decide +kernel, by decide +kernel⟩
def m_quotient : M Fl := (mRet (mF 2 f_fraction none (aT (mBin mulD (mBin ixD (mVar 0) (mC (.int 0))) (mBin ixD (mVar 1) (mC (.int 1)))) (aT (mBin mulD (mBin ixD (mVar 0) (mC (.int 1))) (mBin ixD (mVar 1) (mC (.int 0)))) aNil))))
def f_quotient : Fn := mkFn 2 2 none m_quotient
theorem sc_over : FnScope ["ratio", "other_ratio"] ["ratio", "other_ratio"] (defScope (top 33)) := ⟨rfl, rfl, rfl, by decide +kernel, rfl, by decide +kernel, by decide +kernel⟩
def m_over : M Fl := (mSeq (mDrop (mF 2 f__want_two none (aT (mVar 0) (aT (mVar 1) aNil)))) (mSeq (mIfS (mB (mBin eqsD (mVar 1) (mC v_NOUGHT))) stuck mNx) (mRet (mF 1 f__told none (aT (mF 2 f_quotient none (aT (mVar 0) (aT (mVar 1) aNil))) aNil)))))
def f_over : Fn := mkFn 2 2 none m_over
theorem sc__law_two : FnScope ["near", "far", "sides", "due", "told", "due_over"] ["near", "far"] (defScope (top 50)) := ⟨rfl, rfl, rfl, by decide +kernel, rfl, by decide +kernel, by decide +kernel⟩
def m__law_two : M Fl := (mSeq (mAsg 2 (mBin subD (mBin mulD (mBin ixD (mVar 0) (mC (.int 0))) (mBin ixD (mVar 1) (mC (.int 1)))) (mBin mulD (mBin ixD (mVar 1) (mC (.int 0))) (mBin ixD (mVar 0) (mC (.int 1)))))) (mSeq (mAsg 3 (mLst (aV (mF 2 f__law_ratio none (aT (mBin addD (mBin mulD (mBin ixD (mVar 0) (mC (.int 0))) (mBin ixD (mVar 1) (mC (.int 1)))) (mBin mulD (mBin ixD (mVar 1) (mC (.int 0))) (mBin ixD (mVar 0) (mC (.int 1))))) (aT (mBin mulD (mBin ixD (mVar 0) (mC (.int 1))) (mBin ixD (mVar 1) (mC (.int 1)))) aNil))) (aV (mF 2 f__law_ratio none (aT (mVar 2) (aT (mBin mulD (mBin ixD (mVar 0) (mC (.int 1))) (mBin ixD (mVar 1) (mC (.int 1)))) aNil))) (aV (mF 2 f__law_ratio none (aT (mBin mulD (mBin ixD (mVar 0) (mC (.int 0))) (mBin ixD (mVar 1) (mC (.int 0)))) (aT (mBin mulD (mBin ixD (mVar 0) (mC (.int 1))) (mBin ixD (mVar 1) (mC (.int 1)))) aNil))) (aV (mIf (mB (mBin ltD (mVar 2) (mC (.int 0)))) (mUn negD (mC (.int 1))) (mIf (mB (mBin gtD (mVar 2) (mC (.int 0)))) (mC (.int 1)) (mC (.int 0)))) aNil)))))) (mSeq (mAsg 4 (mLst (aV (mFk 0 2 [1, 0] f_added none aNil (aT (mVar 1) (aT (mVar 0) aNil))) (aV (mF 2 f_less none (aT (mVar 0) (aT (mVar 1) aNil))) (aV (mFk 0 2 [0, 1] f_times none aNil (aT (mVar 0) (aT (mVar 1) aNil))) (aV (mF 2 f_compared none (aT (mVar 0) (aT (mVar 1) aNil))) aNil)))))) (mSeq (mIfS (mB (mBin nesD (mCall reprD (aT (mVar 4) aNil)) (mCall reprD (aT (mVar 3) aNil)))) (mRet (mC (.bool false))) mNx) (mSeq (mIfS (mB (mBin nesD (mCall reprD (aT (mLst (aV (mFk 0 2 [1, 0] f_less none aNil (aT (mVar 1) (aT (mVar 0) aNil))) (aV (mF 2 f_added none (aT (mVar 0) (aT (mVar 1) aNil))) (aV (mFk 0 2 [0, 1] f_compared none aNil (aT (mVar 0) (aT (mVar 1) aNil))) aNil)))) aNil)) (mCall reprD (aT (mLst (aV (mBin ixD (mVar 3) (mC (.int 1))) (aV (mBin ixD (mVar 3) (mC (.int 0))) (aV (mBin ixD (mVar 3) (mC (.int 3))) aNil)))) aNil)))) (mRet (mC (.bool false))) mNx) (mSeq (mIfS (mB (mBin eqsD (mBin ixD (mVar 1) (mC (.int 0))) (mC (.int 0)))) (mRet (mC (.bool true))) mNx) (mSeq (mAsg 5 (mF 2 f__law_ratio none (aT (mBin mulD (mBin ixD (mVar 0) (mC (.int 0))) (mBin ixD (mVar 1) (mC (.int 1)))) (aT (mBin mulD (mBin ixD (mVar 0) (mC (.int 1))) (mBin ixD (mVar 1) (mC (.int 0)))) aNil)))) (mRet (mBin eqsD (mCall reprD (aT (mLst (aV (mF 2 f_over none (aT (mVar 0) (aT (mVar 1) aNil))) (aV (mFk 0 2 [1, 0] f_over none aNil (aT (mVar 1) (aT (mVar 0) aNil))) aNil))) aNil)) (mCall reprD (aT (mLst (aV (mVar 5) (aV (mVar 5) aNil))) aNil)))))))))))
def f__law_two : Fn := mkFn 2 6 none m__law_two
theorem sc_floor_of : FnScope ["ratio"] ["ratio"] (defScope (top 36)) := ⟨rfl, rfl, rfl, by decide +kernel, rfl, by decide +kernel, by decide +kernel⟩
def m_floor_of : M Fl := (mSeq (mDrop (mF 1 f_want_ratio none (aT (mVar 0) aNil))) (mRet (mBin fdivD (mBin ixD (mVar 0) (mC (.int 0))) (mBin ixD (mVar 0) (mC (.int 1))))))
def f_floor_of : Fn := mkFn 1 1 none m_floor_of
theorem sc_ceiling_of : FnScope ["ratio"] ["ratio"] (defScope (top 37)) := ⟨rfl, rfl, rfl, by decide +kernel, rfl, by decide +kernel, by decide +kernel⟩
def m_ceiling_of : M Fl := (mSeq (mDrop (mF 1 f_want_ratio none (aT (mVar 0) aNil))) (mRet (mUn negD (mBin fdivD (mUn negD (mBin ixD (mVar 0) (mC (.int 0)))) (mBin ixD (mVar 0) (mC (.int 1)))))))
def f_ceiling_of : Fn := mkFn 1 1 none m_ceiling_of
theorem sc__law_one : FnScope ["ratio", "low", "high"] ["ratio"] (defScope (top 51)) := ⟨rfl, rfl, rfl, by decide +kernel, rfl, by decide +kernel, by decide +kernel⟩
def m__law_one : M Fl := (mSeq (mPar 1 2 (mF 1 f_floor_of none (aT (mVar 0) aNil)) (mF 1 f_ceiling_of none (aT (mVar 0) aNil))) (mSeq (mIfS (mB (mBin nesD (mCall reprD (aT (mLst (aV (mVar 1) (aV (mVar 2) aNil))) aNil)) (mCall reprD (aT (mLst (aV (mFk 0 1 [0] f_floor_of none aNil (aT (mVar 0) aNil)) (aV (mFk 0 1 [0] f_ceiling_of none aNil (aT (mVar 0) aNil)) aNil))) aNil)))) (mRet (mC (.bool false))) mNx) (mSeq (mIfS (mOr (mNot (mB (mIsi ["int"] (mVar 1)))) (mOr (mNot (mB (mIsi ["int"] (mVar 2)))) (mOr (mB (mIsi ["bool"] (mVar 1))) (mB (mIsi ["bool"] (mVar 2)))))) (mRet (mC (.bool false))) mNx) (mSeq (mIfS (mNot (mAnd (mB (mBin leD (mBin mulD (mVar 1) (mBin ixD (mVar 0) (mC (.int 1)))) (mBin ixD (mVar 0) (mC (.int 0))))) (mB (mBin ltD (mBin ixD (mVar 0) (mC (.int 0))) (mBin mulD (mBin addD (mVar 1) (mC (.int 1))) (mBin ixD (mVar 0) (mC (.int 1)))))))) (mRet (mC (.bool false))) mNx) (mRet (mAndV (mBin leD (mBin ixD (mVar 0) (mC (.int 0))) (mBin mulD (mVar 2) (mBin ixD (mVar 0) (mC (.int 1))))) (mBin ltD (mBin mulD (mBin subD (mVar 2) (mC (.int 1))) (mBin ixD (mVar 0) (mC (.int 1)))) (mBin ixD (mVar 0) (mC (.int 0))))))))))
def f__law_one : Fn := mkFn 1 3 none m__law_one
theorem sc_is_list : FnScope ["value"] ["value"] (defScope (top 12)) := ⟨rfl, rfl, rfl, by decide +kernel, rfl, by decide +kernel, by decide +kernel⟩
def m_is_list : M Fl := (mRet (mIsi ["list", "tuple"] (mVar 0)))
def f_is_list : Fn := mkFn 1 1 none m_is_list
theorem sc__want_ratios : FnScope ["value", "one"] ["value"] (defScope (top 28)) := ⟨rfl, rfl, rfl, by decide +kernel, rfl, by decide +kernel, by decide +kernel⟩
def m__want_ratios : M Fl := (mIfS (mOr (mNot (mB (mF 1 f_is_list none (aT (mVar 0) aNil)))) (mOr (mB (mBin gtD (mCall lenD (aT (mVar 0) aNil)) (mC (.int 200)))) (mNot (mB (mCall allD (aT (mLc (mItD (mVar 0)) (gN 1) (ret true) (mF 1 f_is_ratio none (aT (mVar 1) aNil)) [1]) aNil)))))) stuck mNx)
def f__want_ratios : Fn := mkFn 1 2 none m__want_ratios
theorem sc_under_of : FnScope ["ratios", "under", "ratio"] ["ratios"] (defScope (top 38)) := ⟨rfl, rfl, rfl, by decide +kernel, rfl, by decide +kernel, by decide +kernel⟩
def m_under_of : M Fl := (mSeq (mAsg 1 (mC (.int 1))) (mSeq (mFor (chk (mItD (mVar 0))) (gN 2) (mAsg 1 (mCall lcmD (aT (mVar 1) (aT (mBin ixD (mVar 2) (mC (.int 1))) aNil))))) (mRet (mVar 1))))
def f_under_of : Fn := mkFn 1 3 none m_under_of
theorem sc_whole_row : FnScope ["ratios", "under", "ratio"] ["ratios"] (defScope (top 40)) := ⟨rfl, rfl, rfl, by decide +kernel, rfl, by decide +kernel, by decide +kernel⟩
def m_whole_row : M Fl := (mSeq (mDrop (mF 1 f__want_ratios none (aT (mVar 0) aNil))) (mSeq (mAsg 1 (mBin ixD (mF 1 f__told none (aT (mTup (aV (mF 1 f_under_of none (aT (mVar 0) aNil)) (aV (mC (.int 1)) aNil))) aNil)) (mC (.int 0)))) (mRet (mTup (aV (mCall tupleD (aT (mLc (mItD (mVar 0)) (gN 2) (ret true) (mBin ixD (mF 1 f__told none (aT (mTup (aV (mBin mulD (mBin ixD (mVar 2) (mC (.int 0))) (mBin fdivD (mVar 1) (mBin ixD (mVar 2) (mC (.int 1))))) (aV (mC (.int 1)) aNil))) aNil)) (mC (.int 0))) [2]) aNil)) (aV (mVar 1) aNil))))))
def f_whole_row : Fn := mkFn 1 3 none m_whole_row
theorem sc_common_under : FnScope ["ratios"] ["ratios"] (defScope (top 39)) := ⟨rfl, rfl, rfl, by decide +kernel, rfl, by decide +kernel, by decide +kernel⟩
def m_common_under : M Fl := (mSeq (mDrop (mF 1 f__want_ratios none (aT (mVar 0) aNil))) (mRet (mBin ixD (mF 1 f__told none (aT (mTup (aV (mF 1 f_under_of none (aT (mVar 0) aNil)) (aV (mC (.int 1)) aNil))) aNil)) (mC (.int 0)))))
def f_common_under : Fn := mkFn 1 1 none m_common_under
theorem sc_sum_of : FnScope ["ratios", "total", "ratio"] ["ratios"] (defScope (top 35)) := ⟨rfl, rfl, rfl, by decide +kernel, rfl, by decide +kernel, by decide +kernel⟩
def m_sum_of : M Fl := (mSeq (mDrop (mF 1 f__want_ratios none (aT (mVar 0) aNil))) (mSeq (mAsg 1 (mC v_NOUGHT)) (mSeq (mFor (chk (mItD (mVar 0))) (gN 2) (mAsg 1 (mF 2 f_plus none (aT (mVar 1) (aT (mVar 2) aNil))))) (mRet (mF 1 f__told none (aT (mVar 1) aNil))))))
def f_sum_of : Fn := mkFn 1 3 none m_sum_of
theorem sc__law_lists : FnScope ["pot", "ratios", "number", "under", "least", "ratio", "due", "kept", "told"] ["pot", "ratios"] (defScope (top 53)) := ⟨rfl, rfl, rfl, by decide +kernel, rfl, by decide +kernel, by decide +kernel⟩
def m__law_lists : M Fl := (mSeq (mAsgG (gT 3 (gsCons (gN 2) (gsCons (gN 3) (gsCons (gN 4) gsNil)))) (mTup (aV (mC (.int 0)) (aV (mC (.int 1)) (aV (mC (.int 1)) aNil))))) (mSeq (mFor (chk (mItD (mVar 1))) (gN 5) (mSeq (mPar 2 3 (mBin addD (mBin mulD (mVar 2) (mBin ixD (mVar 5) (mC (.int 1)))) (mBin mulD (mBin ixD (mVar 5) (mC (.int 0))) (mVar 3))) (mBin mulD (mVar 3) (mBin ixD (mVar 5) (mC (.int 1))))) (mAsg 4 (mBin fdivD (mBin mulD (mVar 4) (mBin ixD (mVar 5) (mC (.int 1)))) (mF 2 f__law_common none (aT (mVar 4) (aT (mBin ixD (mVar 5) (mC (.int 1))) aNil))))))) (mSeq (mAsg 6 (mLst (aV (mF 2 f__law_ratio none (aT (mVar 2) (aT (mVar 3) aNil))) (aV (mVar 4) (aV (mTup (aV (mCall tupleD (aT (mLc (mItD (mVar 1)) (gN 5) (ret true) (mBin mulD (mBin ixD (mVar 5) (mC (.int 0))) (mBin fdivD (mVar 4) (mBin ixD (mVar 5) (mC (.int 1))))) [5]) aNil)) (aV (mVar 4) aNil))) aNil))))) (mSeq (mAsg 7 (mCall reprD (aT (mVar 1) aNil))) (mSeq (mAsg 8 (mLst (aV (mF 1 f_sum_of none (aT (mVar 1) aNil)) (aV (mF 1 f_common_under none (aT (mCall tupleD (aT (mVar 1) aNil)) aNil)) (aV (mFk 0 1 [0] f_whole_row none aNil (aT (mVar 1) aNil)) aNil))))) (mSeq (mIfS (mOr (mB (mBin nesD (mCall reprD (aT (mVar 8) aNil)) (mCall reprD (aT (mVar 6) aNil)))) (mB (mBin nesD (mCall reprD (aT (mVar 1) aNil)) (mVar 7)))) (mRet (mC (.bool false))) mNx) (mRet (mBin eqsD (mCall reprD (aT (mLst (aV (mFk 0 1 [0] f_sum_of none aNil (aT (mUn revD (mVar 1)) aNil)) (aV (mFk 0 1 [0] f_common_under none aNil (aT (mVar 1) aNil)) (aV (mF 1 f_whole_row none (aT (mCall tupleD (aT (mVar 1) aNil)) aNil)) aNil)))) aNil)) (mCall reprD (aT (mVar 6) aNil))))))))))
def f__law_lists : Fn := mkFn 2 9 none m__law_lists
theorem sc__law_list : FnScope ["pot", "found", "turn"] ["pot"] (defScope (top 52)) := ⟨rfl, rfl, rfl, by decide +kernel, rfl, by decide +kernel, by decide +kernel⟩
def m__law_list : M Fl := (mSeq (mAsg 1 (mLst aNil)) (mSeq (mFor (chk (mRng1 (aT (mF 2 f__law_draw (some 0) (aT (mVar 0) (aT (mC (.int 10)) aNil))) aNil))) (gN 2) (mIfS (mAnd (mB (mBin nesD (mVar 1) (mLst aNil))) (mB (mBin eqsD (mF 2 f__law_draw (some 0) (aT (mVar 0) (aT (mC (.int 4)) aNil))) (mC (.int 0))))) (mApp 1 (mF 2 f__law_second (some 0) (aT (mVar 0) (aT (mF 2 f__law_pick (some 0) (aT (mVar 0) (aT (mVar 1) aNil))) aNil)))) (mApp 1 (mF 2 f__law_ratio none (aT (mF 1 f__law_number (some 0) (aT (mVar 0) aNil)) (aT (mBin addD (mC (.int 1)) (mF 2 f__law_draw (some 0) (aT (mVar 0) (aT (mF 2 f__law_pick (some 0) (aT (mVar 0) (aT (mLst (aV (mC (.int 2)) (aV (mC (.int 12)) (aV (mC (.int 60)) aNil)))) aNil))) aNil)))) aNil)))))) (mRet (mVar 1))))
def f__law_list : Fn := mkFn 1 3 (some 0) m__law_list
theorem sc_made : FnScope ["number", "under"] ["number", "under"] (defScope (top 29)) := ⟨rfl, rfl, rfl, by decide +kernel, rfl, by decide +kernel, by decide +kernel⟩
def m_made : M Fl := (mSeq (mIfS (mNot (mB (mF 1 f_is_integer none (aT (mVar 0) aNil)))) stuck mNx) (mSeq (mIfS (mNot (mB (mF 1 f_is_integer none (aT (mVar 1) aNil)))) stuck mNx) (mSeq (mIfS (mB (mBin eqsD (mVar 1) (mC (.int 0)))) stuck mNx) (mRet (mF 1 f__told none (aT (mF 2 f_fraction none (aT (mVar 0) (aT (mVar 1) aNil))) aNil))))))
def f_made : Fn := mkFn 2 2 none m_made
theorem sc__law_any : FnScope ["pot", "drawn", "right", "by", "some", "value", "is_due", "edge", "told"] ["pot"] (defScope (top 54)) := ⟨rfl, rfl, rfl, by decide +kernel, rfl, by decide +kernel, by decide +kernel⟩
def m__law_any : M Fl := (mSeq (mAsg 1 (mF 1 f__law_drawn (some 0) (aT (mVar 0) aNil))) (mSeq (mAsg 2 (mF 2 f__law_ratio none (aT (mBin ixD (mVar 1) (mC (.int 0))) (aT (mBin ixD (mVar 1) (mC (.int 1))) aNil)))) (mSeq (mAsg 3 (mBin addD (mC (.int 2)) (mF 2 f__law_draw (some 0) (aT (mVar 0) (aT (mC (.int 3)) aNil))))) (mSeq (mAsg 4 (mLst (aV (mTup (aV (mVar 1) (aV (mC .none) aNil))) (aV (mTup (aV (mVar 2) (aV (mC (.bool true)) aNil))) (aV (mTup (aV (mTup (aV (mBin mulD (mBin ixD (mVar 2) (mC (.int 0))) (mVar 3)) (aV (mBin mulD (mBin ixD (mVar 2) (mC (.int 1))) (mVar 3)) aNil))) (aV (mC (.bool false)) aNil))) (aV (mTup (aV (mTup (aV (mBin ixD (mVar 2) (mC (.int 0))) (aV (mUn negD (mBin ixD (mVar 2) (mC (.int 1)))) aNil))) (aV (mC (.bool false)) aNil))) (aV (mTup (aV (mLst (aV (mBin ixD (mVar 2) (mC (.int 0))) (aV (mBin ixD (mVar 2) (mC (.int 1))) aNil))) (aV (mC (.bool false)) aNil))) (aV (mTup (aV (mTup (aV (mBin ixD (mVar 2) (mC (.int 0))) aNil)) (aV (mC (.bool false)) aNil))) (aV (mTup (aV (mBin addD (mVar 2) (mTup (aV (mC (.int 1)) aNil))) (aV (mC (.bool false)) aNil))) (aV (mTup (aV (mTup (aV (mBin ixD (mVar 2) (mC (.int 0))) (aV (mC (.int 0)) aNil))) (aV (mC (.bool false)) aNil))) (aV (mTup (aV (mTup (aV (mC (.bool true)) (aV (mC (.int 1)) aNil))) (aV (mC (.bool false)) aNil))) (aV (mTup (aV (mTup (aV (mC (.int 1)) (aV (mC (.bool true)) aNil))) (aV (mC (.bool false)) aNil))) (aV (mTup (aV (mTup (aV (mC (.int 0)) (aV (mC (.int 1)) aNil))) (aV (mC (.bool true)) aNil))) (aV (mTup (aV (mTup (aV (mC (.int 0)) (aV (mVar 3) aNil))) (aV (mC (.bool false)) aNil))) (aV (mTup (aV (mTup (aV (mC (.bool false)) (aV (mC (.int 1)) aNil))) (aV (mC (.bool false)) aNil))) (aV (mTup (aV (mTup (aV (mCall strD (aT (mBin ixD (mVar 2) (mC (.int 0))) aNil)) (aV (mBin ixD (mVar 2) (mC (.int 1))) aNil))) (aV (mC (.bool false)) aNil))) (aV (mTup (aV (mTup (aV (mVar 2) (aV (mC (.int 1)) aNil))) (aV (mC (.bool false)) aNil))) (aV (mTup (aV (mTup (aV (mC .none) (aV (mC (.int 1)) aNil))) (aV (mC (.bool false)) aNil))) (aV (mTup (aV (mBin ixD (mVar 2) (mC (.int 0))) (aV (mC (.bool false)) aNil))) aNil))))))))))))))))))) (mSeq (mFor (chk (mItD (mVar 4))) (gT 2 (gsCons (gN 5) (gsCons (gN 6) gsNil))) (mSeq (mIfS (mB (mBin isD (mVar 6) (mC .none))) (mAsg 6 (mAndV (mBin gtD (mBin ixD (mVar 5) (mC (.int 1))) (mC (.int 0))) (mBin eqsD (mF 2 f__law_common none (aT (mBin ixD (mVar 5) (mC (.int 0))) (aT (mBin ixD (mVar 5) (mC (.int 1))) aNil))) (mC (.int 1))))) mNx) (mIfS (mB (mBin nesD (mCall reprD (aT (mF 1 f_is_ratio none (aT (mVar 5) aNil)) aNil)) (mCall reprD (aT (mVar 6) aNil)))) (mRet (mC (.bool false))) mNx))) (mSeq (mAsg 7 (mBin powD (mBin powD (mC (.int 10)) (mC (.int 50))) (mC (.int 8)))) (mSeq (mAsg 8 (mLst (aV (mF 1 f_is_ratio none (aT (mTup (aV (mBin subD (mVar 7) (mC (.int 1))) (aV (mC (.int 1)) aNil))) aNil)) (aV (mF 1 f_is_ratio none (aT (mTup (aV (mVar 7) (aV (mC (.int 1)) aNil))) aNil)) (aV (mF 1 f_is_ratio none (aT (mTup (aV (mBin subD (mC (.int 1)) (mVar 7)) (aV (mBin subD (mVar 7) (mC (.int 2))) aNil))) aNil)) (aV (mF 1 f_is_ratio none (aT (mTup (aV (mUn negD (mVar 7)) (aV (mC (.int 1)) aNil))) aNil)) (aV (mF 1 f_is_ratio none (aT (mTup (aV (mC (.int 1)) (aV (mVar 7) aNil))) aNil)) (aV (mFk 0 1 [0] f_is_ratio none aNil (aT (mTup (aV (mC (.int 1)) (aV (mBin subD (mVar 7) (mC (.int 1))) aNil))) aNil)) aNil)))))))) (mSeq (mIfS (mB (mBin nesD (mCall reprD (aT (mVar 8) aNil)) (mCall reprD (aT (mLst (aV (mC (.bool true)) (aV (mC (.bool false)) (aV (mC (.bool true)) (aV (mC (.bool false)) (aV (mC (.bool false)) (aV (mC (.bool true)) aNil))))))) aNil)))) (mRet (mC (.bool false))) mNx) (mRet (mBin eqsD (mCall reprD (aT (mLst (aV (mF 2 f_made none (aT (mBin ixD (mVar 1) (mC (.int 0))) (aT (mBin ixD (mVar 1) (mC (.int 1))) aNil))) (aV (mFk 0 2 [1, 0] f_made none aNil (aT (mUn negD (mBin ixD (mVar 1) (mC (.int 1)))) (aT (mBin ixD (mVar 1) (mC (.int 0))) aNil))) aNil))) aNil)) (mCall reprD (aT (mLst (aV (mVar 2) (aV (mTup (aV (mUn negD (mBin ixD (mVar 2) (mC (.int 0)))) (aV (mBin ixD (mVar 2) (mC (.int 1))) aNil))) aNil))) aNil))))))))))))
def f__law_any : Fn := mkFn 1 9 (some 0) m__law_any
theorem sc_law : FnScope ["script", "pot", "turn", "drawn", "near", "far"] ["script"] (defScope (top 55)) := ⟨rfl, rfl, rfl, by decide +kernel, rfl, by decide +kernel, by decide +kernel⟩
def m_law : M Fl := (mSeq (mAsg 1 (mF 2 f__law_pot none (aT (mVar 0) (aT (mC (.int 0)) aNil)))) (mSeq (mFor (chk (mRng1 (aT (mC (.int 3)) aNil))) (gN 2) (mSeq (mAsg 3 (mF 1 f__law_drawn (some 0) (aT (mVar 1) aNil))) (mSeq (mAsg 4 (mF 2 f__law_ratio none (aT (mBin ixD (mVar 3) (mC (.int 0))) (aT (mBin ixD (mVar 3) (mC (.int 1))) aNil)))) (mSeq (mAsg 5 (mF 2 f__law_second (some 0) (aT (mVar 1) (aT (mVar 4) aNil)))) (mIfS (mOr (mNot (mB (mF 2 f__law_two none (aT (mVar 4) (aT (mVar 5) aNil))))) (mOr (mNot (mB (mF 1 f__law_one none (aT (mVar 4) aNil)))) (mNot (mB (mF 1 f__law_one none (aT (mVar 5) aNil)))))) (mRet (mC (.bool false))) mNx))))) (mSeq (mIfS (mOr (mNot (mB (mF 1 f__law_one none (aT (mTup (aV (mC (.int 7)) (aV (mC (.int 2)) aNil))) aNil)))) (mOr (mNot (mB (mF 1 f__law_one none (aT (mTup (aV (mUn negD (mC (.int 7))) (aV (mC (.int 2)) aNil))) aNil)))) (mOr (mNot (mB (mF 2 f__law_two none (aT (mTup (aV (mC (.int 1)) (aV (mC (.int 3)) aNil))) (aT (mTup (aV (mC (.int 1)) (aV (mC (.int 2)) aNil))) aNil))))) (mNot (mB (mF 2 f__law_two none (aT (mTup (aV (mC (.int 5)) (aV (mC (.int 3)) aNil))) (aT (mTup (aV (mC (.int 0)) (aV (mC (.int 1)) aNil))) aNil)))))))) (mRet (mC (.bool false))) mNx) (mRet (mAndV (mF 2 f__law_lists none (aT (mVar 1) (aT (mF 1 f__law_list (some 0) (aT (mVar 1) aNil)) aNil))) (mAndV (mF 2 f__law_lists none (aT (mVar 1) (aT (mLst aNil) aNil))) (mF 1 f__law_any (some 0) (aT (mVar 1) aNil))))))))
def f_law : Fn := mkFn 1 6 none m_law
section
variable {w : World} {K : PySem.W.Frag} {mg : Str → Option Value} {base : Heap}
theorem kn__law_pot (T : Txt K mg)  {x : Str} {f : Addr} {fd : FuncData} (hm : mg x = some (.ref f)) (F : Fun K "_law_pot" "_law_pot" (top 42) f fd) : Kn PySem.Challenge.pw_carryoffice_k11_whole_ratios_reckoned w K mg base 1 x "_law_pot" (top 42) ["script", "k"] none f__law_pot :=
  kn_def F hm sc__law_pot rfl fun cdv A outer s H E hr hgd => by
    have hx : Passes (L2.CX PySem.Challenge.pw_carryoffice_k11_whole_ratios_reckoned w) (cxOf (L2.CX PySem.Challenge.pw_carryoffice_k11_whole_ratios_reckoned w) PySem.Challenge.pw_carryoffice_k11_whole_ratios_reckoned w K mg base ["script", "k", "cell"] "_law_pot" (defScope (top 42)) f cdv A outer s H E) E := passes_call (takes_of rfl rfl rfl rfl) fun _ _ _ _ h => h
    exact (mss_cons (ms_set sc__law_pot.nd rfl (Or.inl rfl) (me_if (mt_cmp op_lt bin_ltA (me_var 1) (me_callB call_len cal_len (by rfl) T.b_len rfl (ma_t (me_var 0) ma_nil))) (me_callB call_abs cal_abs (by rfl) T.b_abs rfl (ma_t (me_ix (me_var 0) (me_var 1)) ma_nil)) (pe_bin op_addA bin_addA (pe_bin op_mulA bin_mulA me_int (me_var 1)) me_int))) (mss_one (ms_ret (me_lst (ma_v (me_callB (call_max2 rfl) cal_max2 (by rfl) T.b_max rfl (ma_t me_int (ma_t (pe_bin op_sub bin_subA (me_var 2) (pe_bin op_powA bin_powA me_int me_int)) ma_nil))) (ma_v (pe_bin op_addA bin_addA (pe_bin op_modN bin_modA (me_callT cr_int cal_int (by rfl) T.b_int rfl (ma_t (pe_bin op_addA bin_addA (pe_bin op_addA bin_addA (pe_bin op_mulA bin_mulA (pe_bin op_modN bin_modA (me_callT cr_int cal_int (by rfl) T.b_int rfl (ma_t (me_var 2) ma_nil)) me_int) me_int) (pe_bin op_mulA bin_mulA me_int (me_var 1))) me_int) ma_nil)) me_int) me_int) ma_nil))))))
theorem kn__law_draw (T : Txt K mg)  {x : Str} {f : Addr} {fd : FuncData} (hm : mg x = some (.ref f)) (F : Fun K "_law_draw" "_law_draw" (top 43) f fd) : Kn PySem.Challenge.pw_carryoffice_k11_whole_ratios_reckoned w K mg base 1 x "_law_draw" (top 43) ["pot", "size"] (some 0) f__law_draw :=
  kn_def F hm sc__law_draw rfl fun cdv A outer s H E hr hgd => by
    have hx : Passes (L2.CX PySem.Challenge.pw_carryoffice_k11_whole_ratios_reckoned w) (cxOf (L2.CX PySem.Challenge.pw_carryoffice_k11_whole_ratios_reckoned w) PySem.Challenge.pw_carryoffice_k11_whole_ratios_reckoned w K mg base ["pot", "size", "digit"] "_law_draw" (defScope (top 43)) f cdv A outer s H E) E := passes_call (takes_of rfl rfl rfl rfl) fun _ _ _ _ h => h
    exact (mss_cons (ms_if (mt_cmp op_gt bin_gtA (me_ix (me_var 0) me_int) me_int) (mss_cons (ms_asgG (me_callB call_divmodW cal_divmod (by rfl) T.b_divmod rfl (ma_t (me_ix (me_var 0) me_int) (ma_t (me_var 1) ma_nil))) (mg_tupS rfl (mg_cons rfl (fun _ _ _ _ _ => trivial) (mg_ixS (fun _ => trivial) (pv 0) me_int) (mg_cons rfl (fun _ _ _ _ _ => trivial) (mg_name (fun _ _ => trivial) sc__law_draw.nd rfl (Or.inl rfl)) (mg_nil (fun _ => trivial)))))) (mss_one (ms_ret (me_var 2)))) mss_nil) (mss_cons (ms_setixS (pv 0) me_int (pe_bin op_modN bin_modA (me_callT cr_int cal_int (by rfl) T.b_int rfl (ma_t (pe_bin op_addA bin_addA (pe_bin op_mulA bin_mulA (me_ix (me_var 0) me_int) me_int) me_int) ma_nil)) me_int)) (mss_one (ms_ret (pe_bin op_modN bin_modA (me_callT cr_int cal_int (by rfl) T.b_int rfl (ma_t (pe_bin op_fdivA bin_fdivA (pe_bin op_modN bin_modA (me_callT cr_int cal_int (by rfl) T.b_int rfl (ma_t (pe_bin op_mulA bin_mulA (me_ix (me_var 0) me_int) (me_ix (me_var 0) me_int)) ma_nil)) me_int) me_int) ma_nil)) (me_var 1))))))
theorem kn__law_pick (T : Txt K mg) (q__law_draw : Kn PySem.Challenge.pw_carryoffice_k11_whole_ratios_reckoned w K mg base 1 "_law_draw" "_law_draw" (top 43) ["pot", "size"] (some 0) f__law_draw) {x : Str} {f : Addr} {fd : FuncData} (hm : mg x = some (.ref f)) (F : Fun K "_law_pick" "_law_pick" (top 44) f fd) : Kn PySem.Challenge.pw_carryoffice_k11_whole_ratios_reckoned w K mg base 2 x "_law_pick" (top 44) ["pot", "some"] (some 0) f__law_pick :=
  kn_def F hm sc__law_pick rfl fun cdv A outer s H E hr hgd => by
    have hx : Passes (L2.CX PySem.Challenge.pw_carryoffice_k11_whole_ratios_reckoned w) (cxOf (L2.CX PySem.Challenge.pw_carryoffice_k11_whole_ratios_reckoned w) PySem.Challenge.pw_carryoffice_k11_whole_ratios_reckoned w K mg base ["pot", "some"] "_law_pick" (defScope (top 44)) f cdv A outer s H E) E := passes_call (takes_of rfl rfl rfl rfl) fun _ _ _ _ h => h
    exact (mss_one (ms_ret (me_ix (me_var 1) (me_call q__law_draw (hr.mono (by decide)) hgd (by rfl) 2 rfl b__law_draw_2 hx (ma_t (me_var 0) (ma_t (me_callB call_len cal_len (by rfl) T.b_len rfl (ma_t (me_var 1) ma_nil)) ma_nil))))))
theorem kn__law_number (T : Txt K mg) (q__law_pick : Kn PySem.Challenge.pw_carryoffice_k11_whole_ratios_reckoned w K mg base 2 "_law_pick" "_law_pick" (top 44) ["pot", "some"] (some 0) f__law_pick) (q__law_draw : Kn PySem.Challenge.pw_carryoffice_k11_whole_ratios_reckoned w K mg base 1 "_law_draw" "_law_draw" (top 43) ["pot", "size"] (some 0) f__law_draw) {x : Str} {f : Addr} {fd : FuncData} (hm : mg x = some (.ref f)) (F : Fun K "_law_number" "_law_number" (top 47) f fd) : Kn PySem.Challenge.pw_carryoffice_k11_whole_ratios_reckoned w K mg base 3 x "_law_number" (top 47) ["pot"] (some 0) f__law_number :=
  kn_def F hm sc__law_number rfl fun cdv A outer s H E hr hgd => by
    have hx : Passes (L2.CX PySem.Challenge.pw_carryoffice_k11_whole_ratios_reckoned w) (cxOf (L2.CX PySem.Challenge.pw_carryoffice_k11_whole_ratios_reckoned w) PySem.Challenge.pw_carryoffice_k11_whole_ratios_reckoned w K mg base ["pot", "size"] "_law_number" (defScope (top 47)) f cdv A outer s H E) E := passes_call (takes_of rfl rfl rfl rfl) fun _ _ _ _ h => h
    exact (mss_cons (ms_set sc__law_number.nd rfl (Or.inl rfl) (me_call q__law_pick (hr.mono (by decide)) hgd (by rfl) 2 rfl b__law_pick_2 hx (ma_t (me_var 0) (ma_t (me_lst (ma_v me_int (ma_v me_int (ma_v me_int (ma_v (pe_bin op_powA bin_powA me_int me_int) (ma_v (pe_bin op_powA bin_powA me_int me_int) ma_nil)))))) ma_nil)))) (mss_one (ms_ret (pe_bin op_sub bin_subA (me_call q__law_draw (hr.mono (by decide)) hgd (by rfl) 2 rfl b__law_draw_2 hx (ma_t (me_var 0) (ma_t (pe_bin op_addA bin_addA (pe_bin op_mulA bin_mulA me_int (me_var 1)) me_int) ma_nil))) (me_var 1)))))
theorem kn__law_drawn (T : Txt K mg) (q__law_number : Kn PySem.Challenge.pw_carryoffice_k11_whole_ratios_reckoned w K mg base 3 "_law_number" "_law_number" (top 47) ["pot"] (some 0) f__law_number) (q__law_pick : Kn PySem.Challenge.pw_carryoffice_k11_whole_ratios_reckoned w K mg base 2 "_law_pick" "_law_pick" (top 44) ["pot", "some"] (some 0) f__law_pick) {x : Str} {f : Addr} {fd : FuncData} (hm : mg x = some (.ref f)) (F : Fun K "_law_drawn" "_law_drawn" (top 48) f fd) : Kn PySem.Challenge.pw_carryoffice_k11_whole_ratios_reckoned w K mg base 4 x "_law_drawn" (top 48) ["pot"] (some 0) f__law_drawn :=
  kn_def F hm sc__law_drawn rfl fun cdv A outer s H E hr hgd => by
    have hx : Passes (L2.CX PySem.Challenge.pw_carryoffice_k11_whole_ratios_reckoned w) (cxOf (L2.CX PySem.Challenge.pw_carryoffice_k11_whole_ratios_reckoned w) PySem.Challenge.pw_carryoffice_k11_whole_ratios_reckoned w K mg base ["pot", "number", "under"] "_law_drawn" (defScope (top 48)) f cdv A outer s H E) E := passes_call (takes_of rfl rfl rfl rfl) fun _ _ _ _ h => h
    exact (mss_cons (ms_par rfl sc__law_drawn.nd 1 2 (me_call q__law_number (hr.mono (by decide)) hgd (by rfl) 1 rfl b__law_number_1 hx (ma_t (me_var 0) ma_nil)) (me_call q__law_number (hr.mono (by decide)) hgd (by rfl) 1 rfl b__law_number_1 hx (ma_t (me_var 0) ma_nil))) (mss_one (ms_ret (me_tup (ma_v (me_var 1) (ma_v (me_if (mt_cmp (op_neS hr.units64) bin_neS (me_var 2) me_int) (me_var 2) (me_call q__law_pick (hr.mono (by decide)) hgd (by rfl) 2 rfl b__law_pick_2 hx (ma_t (me_var 0) (ma_t (me_lst (ma_v me_int (ma_v (me_neg me_int) (ma_v me_int ma_nil)))) ma_nil)))) ma_nil))))))
theorem kn__law_common (T : Txt K mg)  {x : Str} {f : Addr} {fd : FuncData} (hm : mg x = some (.ref f)) (F : Fun K "_law_common" "_law_common" (top 45) f fd) : Kn PySem.Challenge.pw_carryoffice_k11_whole_ratios_reckoned w K mg base 1 x "_law_common" (top 45) ["one", "other"] none f__law_common :=
  kn_def F hm sc__law_common rfl fun cdv A outer s H E hr hgd => by
    have hx : Passes (L2.CX PySem.Challenge.pw_carryoffice_k11_whole_ratios_reckoned w) (cxOf (L2.CX PySem.Challenge.pw_carryoffice_k11_whole_ratios_reckoned w) PySem.Challenge.pw_carryoffice_k11_whole_ratios_reckoned w K mg base ["one", "other"] "_law_common" (defScope (top 45)) f cdv A outer s H E) E := passes_call (takes_of rfl rfl rfl rfl) fun _ _ _ _ h => h
    exact (mss_cons (ms_while 100000 (passes_of rfl) (mt_cmp (op_neS hr.units64) bin_neS (me_var 1) me_int) (mss_one (ms_par rfl sc__law_common.nd 0 1 (me_var 1) (pe_bin op_sub bin_subA (me_var 0) (pe_bin op_mulA bin_mulA (pe_bin op_fdivA bin_fdivA (me_var 0) (me_var 1)) (me_var 1)))))) (mss_one (ms_ret (me_callB call_abs cal_abs (by rfl) T.b_abs rfl (ma_t (me_var 0) ma_nil)))))
theorem kn__law_ratio (T : Txt K mg) (q__law_common : Kn PySem.Challenge.pw_carryoffice_k11_whole_ratios_reckoned w K mg base 1 "_law_common" "_law_common" (top 45) ["one", "other"] none f__law_common) {x : Str} {f : Addr} {fd : FuncData} (hm : mg x = some (.ref f)) (F : Fun K "_law_ratio" "_law_ratio" (top 46) f fd) : Kn PySem.Challenge.pw_carryoffice_k11_whole_ratios_reckoned w K mg base 2 x "_law_ratio" (top 46) ["number", "under"] none f__law_ratio :=
  kn_def F hm sc__law_ratio rfl fun cdv A outer s H E hr hgd => by
    have hx : Passes (L2.CX PySem.Challenge.pw_carryoffice_k11_whole_ratios_reckoned w) (cxOf (L2.CX PySem.Challenge.pw_carryoffice_k11_whole_ratios_reckoned w) PySem.Challenge.pw_carryoffice_k11_whole_ratios_reckoned w K mg base ["number", "under", "common"] "_law_ratio" (defScope (top 46)) f cdv A outer s H E) E := passes_call (takes_of rfl rfl rfl rfl) fun _ _ _ _ h => h
    exact (mss_cons (ms_set sc__law_ratio.nd rfl (Or.inl rfl) (me_call q__law_common (hr.mono (by decide)) hgd (by rfl) 2 rfl b__law_common_2 hx (ma_t (me_var 0) (ma_t (me_var 1) ma_nil)))) (mss_cons (ms_if (mt_cmp op_lt bin_ltA (me_var 1) me_int) (mss_one (ms_set sc__law_ratio.nd rfl (Or.inl rfl) (me_neg (me_var 2)))) mss_nil) (mss_one (ms_ret (me_tup (ma_v (pe_bin op_fdivA bin_fdivA (me_var 0) (me_var 2)) (ma_v (pe_bin op_fdivA bin_fdivA (me_var 1) (me_var 2)) ma_nil)))))))
theorem kn__law_second (T : Txt K mg) (q__law_draw : Kn PySem.Challenge.pw_carryoffice_k11_whole_ratios_reckoned w K mg base 1 "_law_draw" "_law_draw" (top 43) ["pot", "size"] (some 0) f__law_draw) (q__law_ratio : Kn PySem.Challenge.pw_carryoffice_k11_whole_ratios_reckoned w K mg base 2 "_law_ratio" "_law_ratio" (top 46) ["number", "under"] none f__law_ratio) (q__law_pick : Kn PySem.Challenge.pw_carryoffice_k11_whole_ratios_reckoned w K mg base 2 "_law_pick" "_law_pick" (top 44) ["pot", "some"] (some 0) f__law_pick) (q__law_number : Kn PySem.Challenge.pw_carryoffice_k11_whole_ratios_reckoned w K mg base 3 "_law_number" "_law_number" (top 47) ["pot"] (some 0) f__law_number) (q__law_drawn : Kn PySem.Challenge.pw_carryoffice_k11_whole_ratios_reckoned w K mg base 4 "_law_drawn" "_law_drawn" (top 48) ["pot"] (some 0) f__law_drawn) {x : Str} {f : Addr} {fd : FuncData} (hm : mg x = some (.ref f)) (F : Fun K "_law_second" "_law_second" (top 49) f fd) : Kn PySem.Challenge.pw_carryoffice_k11_whole_ratios_reckoned w K mg base 5 x "_law_second" (top 49) ["pot", "ratio"] (some 0) f__law_second :=
  kn_def F hm sc__law_second rfl fun cdv A outer s H E hr hgd => by
    have hx : Passes (L2.CX PySem.Challenge.pw_carryoffice_k11_whole_ratios_reckoned w) (cxOf (L2.CX PySem.Challenge.pw_carryoffice_k11_whole_ratios_reckoned w) PySem.Challenge.pw_carryoffice_k11_whole_ratios_reckoned w K mg base ["pot", "ratio", "way", "one"] "_law_second" (defScope (top 49)) f cdv A outer s H E) E := passes_call (takes_of rfl rfl rfl rfl) fun _ _ _ _ h => h
    exact (mss_cons (ms_set sc__law_second.nd rfl (Or.inl rfl) (me_call q__law_draw (hr.mono (by decide)) hgd (by rfl) 2 rfl b__law_draw_2 hx (ma_t (me_var 0) (ma_t me_int ma_nil)))) (mss_cons (ms_if (mt_cmp (op_eqS hr.units64) bin_eqS (me_var 2) me_int) (mss_one (ms_ret (me_var 1))) mss_nil) (mss_cons (ms_if (mt_cmp (op_eqS hr.units64) bin_eqS (me_var 2) me_int) (mss_one (ms_ret (me_tup (ma_v (me_neg (me_ix (me_var 1) me_int)) (ma_v (me_ix (me_var 1) me_int) ma_nil))))) mss_nil) (mss_cons (ms_if (mt_cmp (op_eqS hr.units64) bin_eqS (me_var 2) me_int) (mss_one (ms_ret (me_call q__law_ratio (hr.mono (by decide)) hgd (by rfl) 2 rfl b__law_ratio_2 hx (ma_t (pe_bin op_addA bin_addA (pe_bin op_mulA bin_mulA (me_ix (me_var 1) me_int) me_int) (me_call q__law_pick (hr.mono (by decide)) hgd (by rfl) 2 rfl b__law_pick_2 hx (ma_t (me_var 0) (ma_t (me_lst (ma_v (me_neg me_int) (ma_v me_int ma_nil))) ma_nil)))) (ma_t (pe_bin op_mulA bin_mulA (me_ix (me_var 1) me_int) me_int) ma_nil))))) mss_nil) (mss_cons (ms_if (mt_cmp (op_eqS hr.units64) bin_eqS (me_var 2) me_int) (mss_one (ms_ret (me_tup (ma_v (me_call q__law_number (hr.mono (by decide)) hgd (by rfl) 1 rfl b__law_number_1 hx (ma_t (me_var 0) ma_nil)) (ma_v me_int ma_nil))))) mss_nil) (mss_cons (ms_set sc__law_second.nd rfl (Or.inl rfl) (me_call q__law_drawn (hr.mono (by decide)) hgd (by rfl) 1 rfl b__law_drawn_1 hx (ma_t (me_var 0) ma_nil))) (mss_one (ms_ret (me_call q__law_ratio (hr.mono (by decide)) hgd (by rfl) 2 rfl b__law_ratio_2 hx (ma_t (me_ix (me_var 3) me_int) (ma_t (me_ix (me_var 3) me_int) ma_nil)))))))))))
theorem kn_is_row (T : Txt K mg)  {x : Str} {f : Addr} {fd : FuncData} (hm : mg x = some (.ref f)) (F : Fun K "is_row" "is_row" (top 13) f fd) : Kn PySem.Challenge.pw_carryoffice_k11_whole_ratios_reckoned w K mg base 1 x "is_row" (top 13) ["value", "many"] none f_is_row :=
  kn_def F hm sc_is_row rfl fun cdv A outer s H E hr hgd => by
    have hx : Passes (L2.CX PySem.Challenge.pw_carryoffice_k11_whole_ratios_reckoned w) (cxOf (L2.CX PySem.Challenge.pw_carryoffice_k11_whole_ratios_reckoned w) PySem.Challenge.pw_carryoffice_k11_whole_ratios_reckoned w K mg base ["value", "many"] "is_row" (defScope (top 13)) f cdv A outer s H E) E := passes_call (takes_of rfl rfl rfl rfl) fun _ _ _ _ h => h
    exact (mss_one (ms_ret (me_and (me_isi1 (by rfl) T.b_isinstance (by rfl) T.b_tuple "tuple" rfl (me_var 0)) (me_one (pe_cmp2 (op_eqS hr.units64) bin_eqS (me_callB call_len cal_len (by rfl) T.b_len rfl (ma_t (me_var 0) ma_nil)) (me_var 1) (by with_unfolding_all rfl))))))
theorem kn_is_integer (T : Txt K mg)  {x : Str} {f : Addr} {fd : FuncData} (hm : mg x = some (.ref f)) (F : Fun K "is_integer" "is_integer" (top 11) f fd) : Kn PySem.Challenge.pw_carryoffice_k11_whole_ratios_reckoned w K mg base 1 x "is_integer" (top 11) ["value"] none f_is_integer :=
  kn_def F hm sc_is_integer rfl fun cdv A outer s H E hr hgd => by
    have hx : Passes (L2.CX PySem.Challenge.pw_carryoffice_k11_whole_ratios_reckoned w) (cxOf (L2.CX PySem.Challenge.pw_carryoffice_k11_whole_ratios_reckoned w) PySem.Challenge.pw_carryoffice_k11_whole_ratios_reckoned w K mg base ["value"] "is_integer" (defScope (top 11)) f cdv A outer s H E) E := passes_call (takes_of rfl rfl rfl rfl) fun _ _ _ _ h => h
    exact (mss_one (ms_ret (me_and (me_isi1 (by rfl) T.b_isinstance (by rfl) T.b_int "int" rfl (me_var 0)) (me_one (me_not (me_isi1 (by rfl) T.b_isinstance (by rfl) T.b_bool "bool" rfl (me_var 0)))))))
theorem kn_is_ratio (T : Txt K mg) (q_is_row : Kn PySem.Challenge.pw_carryoffice_k11_whole_ratios_reckoned w K mg base 1 "is_row" "is_row" (top 13) ["value", "many"] none f_is_row) (q_is_integer : Kn PySem.Challenge.pw_carryoffice_k11_whole_ratios_reckoned w K mg base 1 "is_integer" "is_integer" (top 11) ["value"] none f_is_integer) {x : Str} {f : Addr} {fd : FuncData} (hm : mg x = some (.ref f)) (F : Fun K "is_ratio" "is_ratio" (top 18) f fd) : Kn PySem.Challenge.pw_carryoffice_k11_whole_ratios_reckoned w K mg base 2 x "is_ratio" (top 18) ["value"] none f_is_ratio :=
  kn_def F hm sc_is_ratio rfl fun cdv A outer s H E hr hgd => by
    have hx : Passes (L2.CX PySem.Challenge.pw_carryoffice_k11_whole_ratios_reckoned w) (cxOf (L2.CX PySem.Challenge.pw_carryoffice_k11_whole_ratios_reckoned w) PySem.Challenge.pw_carryoffice_k11_whole_ratios_reckoned w K mg base ["value"] "is_ratio" (defScope (top 18)) f cdv A outer s H E) E := passes_call (takes_of rfl rfl rfl rfl) fun _ _ _ _ h => h
    exact (mss_cons (ms_if ((mt_or (mt_not (mt_val (me_call q_is_row (hr.mono (by decide)) hgd (by rfl) 2 rfl b_is_row_2 hx (ma_t (me_var 0) (ma_t me_int ma_nil))))) (mt_or (mt_not (mt_val (me_call q_is_integer (hr.mono (by decide)) hgd (by rfl) 1 rfl b_is_integer_1 hx (ma_t (me_ix (me_var 0) me_int) ma_nil)))) (mt_or1 (mt_not (mt_val (me_call q_is_integer (hr.mono (by decide)) hgd (by rfl) 1 rfl b_is_integer_1 hx (ma_t (me_ix (me_var 0) me_int) ma_nil)))))))).pt (mss_one (ms_ret me_bl)) mss_nil) (mss_one (ms_ret (me_and (me_chain op_lt op_lt bin_ltA bin_ltA me_int (me_ix (me_var 0) me_int) (me_cst (by rfl) T.c_BEYOND)) (me_and (me_chain op_lt op_lt bin_ltA bin_ltA (me_neg (me_cst (by rfl) T.c_BEYOND)) (me_ix (me_var 0) me_int) (me_cst (by rfl) T.c_BEYOND)) (me_one (pe_cmp2 (op_eqS hr.units64) bin_eqS (me_callG cr_gcd cal_gcd (by rfl) T.g_gcd (ma_t (me_ix (me_var 0) me_int) (ma_t (me_ix (me_var 0) me_int) ma_nil))) me_int (by with_unfolding_all rfl))))))))
theorem kn_want_ratio (T : Txt K mg) (q_is_ratio : Kn PySem.Challenge.pw_carryoffice_k11_whole_ratios_reckoned w K mg base 2 "is_ratio" "is_ratio" (top 18) ["value"] none f_is_ratio) {x : Str} {f : Addr} {fd : FuncData} (hm : mg x = some (.ref f)) (F : Fun K "want_ratio" "want_ratio" (top 19) f fd) : Kn PySem.Challenge.pw_carryoffice_k11_whole_ratios_reckoned w K mg base 3 x "want_ratio" (top 19) ["value"] none f_want_ratio :=
  kn_def F hm sc_want_ratio rfl fun cdv A outer s H E hr hgd => by
    have hx : Passes (L2.CX PySem.Challenge.pw_carryoffice_k11_whole_ratios_reckoned w) (cxOf (L2.CX PySem.Challenge.pw_carryoffice_k11_whole_ratios_reckoned w) PySem.Challenge.pw_carryoffice_k11_whole_ratios_reckoned w K mg base ["value"] "want_ratio" (defScope (top 19)) f cdv A outer s H E) E := passes_call (takes_of rfl rfl rfl rfl) fun _ _ _ _ h => h
    exact (mss_cons (ms_if (mt_not (mt_val (me_call q_is_ratio (hr.mono (by decide)) hgd (by rfl) 1 rfl b_is_ratio_1 hx (ma_t (me_var 0) ma_nil)))) (mss_one ms_never) mss_nil) (mss_one (ms_ret (me_var 0))))
theorem kn__want_two (T : Txt K mg) (q_want_ratio : Kn PySem.Challenge.pw_carryoffice_k11_whole_ratios_reckoned w K mg base 3 "want_ratio" "want_ratio" (top 19) ["value"] none f_want_ratio) {x : Str} {f : Addr} {fd : FuncData} (hm : mg x = some (.ref f)) (F : Fun K "_want_two" "_want_two" (top 27) f fd) : Kn PySem.Challenge.pw_carryoffice_k11_whole_ratios_reckoned w K mg base 4 x "_want_two" (top 27) ["ratio", "other_ratio"] none f__want_two :=
  kn_def F hm sc__want_two rfl fun cdv A outer s H E hr hgd => by
    have hx : Passes (L2.CX PySem.Challenge.pw_carryoffice_k11_whole_ratios_reckoned w) (cxOf (L2.CX PySem.Challenge.pw_carryoffice_k11_whole_ratios_reckoned w) PySem.Challenge.pw_carryoffice_k11_whole_ratios_reckoned w K mg base ["ratio", "other_ratio"] "_want_two" (defScope (top 27)) f cdv A outer s H E) E := passes_call (takes_of rfl rfl rfl rfl) fun _ _ _ _ h => h
    exact (mss_cons (ms_expr (me_call q_want_ratio (hr.mono (by decide)) hgd (by rfl) 1 rfl b_want_ratio_1 hx (ma_t (me_var 0) ma_nil))) (mss_one (ms_expr (me_call q_want_ratio (hr.mono (by decide)) hgd (by rfl) 1 rfl b_want_ratio_1 hx (ma_t (me_var 1) ma_nil)))))
theorem kn_is_less (T : Txt K mg)  {x : Str} {f : Addr} {fd : FuncData} (hm : mg x = some (.ref f)) (F : Fun K "is_less" "is_less" (top 25) f fd) : Kn PySem.Challenge.pw_carryoffice_k11_whole_ratios_reckoned w K mg base 1 x "is_less" (top 25) ["near", "far"] none f_is_less :=
  kn_def F hm sc_is_less rfl fun cdv A outer s H E hr hgd => by
    have hx : Passes (L2.CX PySem.Challenge.pw_carryoffice_k11_whole_ratios_reckoned w) (cxOf (L2.CX PySem.Challenge.pw_carryoffice_k11_whole_ratios_reckoned w) PySem.Challenge.pw_carryoffice_k11_whole_ratios_reckoned w K mg base ["near", "far"] "is_less" (defScope (top 25)) f cdv A outer s H E) E := passes_call (takes_of rfl rfl rfl rfl) fun _ _ _ _ h => h
    exact (mss_one (ms_ret (pe_cmp2 op_lt bin_ltA (pe_bin op_mulA bin_mulA (me_ix (me_var 0) me_int) (me_ix (me_var 1) me_int)) (pe_bin op_mulA bin_mulA (me_ix (me_var 1) me_int) (me_ix (me_var 0) me_int)) (by with_unfolding_all rfl))))
theorem kn_compared (T : Txt K mg) (q__want_two : Kn PySem.Challenge.pw_carryoffice_k11_whole_ratios_reckoned w K mg base 4 "_want_two" "_want_two" (top 27) ["ratio", "other_ratio"] none f__want_two) (q_is_less : Kn PySem.Challenge.pw_carryoffice_k11_whole_ratios_reckoned w K mg base 1 "is_less" "is_less" (top 25) ["near", "far"] none f_is_less) {x : Str} {f : Addr} {fd : FuncData} (hm : mg x = some (.ref f)) (F : Fun K "compared" "compared" (top 34) f fd) : Kn PySem.Challenge.pw_carryoffice_k11_whole_ratios_reckoned w K mg base 5 x "compared" (top 34) ["ratio", "other_ratio"] none f_compared :=
  kn_def F hm sc_compared rfl fun cdv A outer s H E hr hgd => by
    have hx : Passes (L2.CX PySem.Challenge.pw_carryoffice_k11_whole_ratios_reckoned w) (cxOf (L2.CX PySem.Challenge.pw_carryoffice_k11_whole_ratios_reckoned w) PySem.Challenge.pw_carryoffice_k11_whole_ratios_reckoned w K mg base ["ratio", "other_ratio"] "compared" (defScope (top 34)) f cdv A outer s H E) E := passes_call (takes_of rfl rfl rfl rfl) fun _ _ _ _ h => h
    exact (mss_cons (ms_expr (me_call q__want_two (hr.mono (by decide)) hgd (by rfl) 2 rfl b__want_two_2 hx (ma_t (me_var 0) (ma_t (me_var 1) ma_nil)))) (mss_cons (ms_if (mt_cmp (op_eqS hr.units64) bin_eqS (me_var 0) (me_var 1)) (mss_one (ms_ret me_int)) mss_nil) (mss_one (ms_ret (me_if (mt_val (me_call q_is_less (hr.mono (by decide)) hgd (by rfl) 2 rfl b_is_less_2 hx (ma_t (me_var 0) (ma_t (me_var 1) ma_nil)))) (me_neg me_int) me_int)))))
theorem kn__told (T : Txt K mg)  {x : Str} {f : Addr} {fd : FuncData} (hm : mg x = some (.ref f)) (F : Fun K "_told" "_told" (top 26) f fd) : Kn PySem.Challenge.pw_carryoffice_k11_whole_ratios_reckoned w K mg base 1 x "_told" (top 26) ["ratio"] none f__told :=
  kn_def F hm sc__told rfl fun cdv A outer s H E hr hgd => by
    have hx : Passes (L2.CX PySem.Challenge.pw_carryoffice_k11_whole_ratios_reckoned w) (cxOf (L2.CX PySem.Challenge.pw_carryoffice_k11_whole_ratios_reckoned w) PySem.Challenge.pw_carryoffice_k11_whole_ratios_reckoned w K mg base ["ratio"] "_told" (defScope (top 26)) f cdv A outer s H E) E := passes_call (takes_of rfl rfl rfl rfl) fun _ _ _ _ h => h
    exact (mss_cons (ms_if (mt_not ((mt_and (mt_cmp op_lt bin_ltA (me_ix (me_var 0) me_int) (me_cst (by rfl) T.c_BEYOND)) (mt_and1 (mt_chain op_lt op_lt bin_ltA bin_ltA (me_neg (me_cst (by rfl) T.c_BEYOND)) (me_ix (me_var 0) me_int) (me_cst (by rfl) T.c_BEYOND))))).pt) (mss_one ms_never) mss_nil) (mss_one (ms_ret (me_var 0))))
theorem kn_fraction (T : Txt K mg)  {x : Str} {f : Addr} {fd : FuncData} (hm : mg x = some (.ref f)) (F : Fun K "fraction" "fraction" (top 20) f fd) : Kn PySem.Challenge.pw_carryoffice_k11_whole_ratios_reckoned w K mg base 1 x "fraction" (top 20) ["number", "under"] none f_fraction :=
  kn_def F hm sc_fraction rfl fun cdv A outer s H E hr hgd => by
    have hx : Passes (L2.CX PySem.Challenge.pw_carryoffice_k11_whole_ratios_reckoned w) (cxOf (L2.CX PySem.Challenge.pw_carryoffice_k11_whole_ratios_reckoned w) PySem.Challenge.pw_carryoffice_k11_whole_ratios_reckoned w K mg base ["number", "under", "part"] "fraction" (defScope (top 20)) f cdv A outer s H E) E := passes_call (takes_of rfl rfl rfl rfl) fun _ _ _ _ h => h
    exact (mss_cons (ms_set sc_fraction.nd rfl (Or.inl rfl) (me_callG cr_gcd cal_gcd (by rfl) T.g_gcd (ma_t (me_var 0) (ma_t (me_var 1) ma_nil)))) (mss_cons (ms_if (mt_cmp op_lt bin_ltA (me_var 1) me_int) (mss_one (ms_set sc_fraction.nd rfl (Or.inl rfl) (me_neg (me_var 2)))) mss_nil) (mss_one (ms_ret (me_tup (ma_v (pe_bin op_fdivA bin_fdivA (me_var 0) (me_var 2)) (ma_v (pe_bin op_fdivA bin_fdivA (me_var 1) (me_var 2)) ma_nil)))))))
theorem kn_product (T : Txt K mg) (q_fraction : Kn PySem.Challenge.pw_carryoffice_k11_whole_ratios_reckoned w K mg base 1 "fraction" "fraction" (top 20) ["number", "under"] none f_fraction) {x : Str} {f : Addr} {fd : FuncData} (hm : mg x = some (.ref f)) (F : Fun K "product" "product" (top 23) f fd) : Kn PySem.Challenge.pw_carryoffice_k11_whole_ratios_reckoned w K mg base 2 x "product" (top 23) ["near", "far"] none f_product :=
  kn_def F hm sc_product rfl fun cdv A outer s H E hr hgd => by
    have hx : Passes (L2.CX PySem.Challenge.pw_carryoffice_k11_whole_ratios_reckoned w) (cxOf (L2.CX PySem.Challenge.pw_carryoffice_k11_whole_ratios_reckoned w) PySem.Challenge.pw_carryoffice_k11_whole_ratios_reckoned w K mg base ["near", "far"] "product" (defScope (top 23)) f cdv A outer s H E) E := passes_call (takes_of rfl rfl rfl rfl) fun _ _ _ _ h => h
    exact (mss_one (ms_ret (me_call q_fraction (hr.mono (by decide)) hgd (by rfl) 2 rfl b_fraction_2 hx (ma_t (pe_bin op_mulA bin_mulA (me_ix (me_var 0) me_int) (me_ix (me_var 1) me_int)) (ma_t (pe_bin op_mulA bin_mulA (me_ix (me_var 0) me_int) (me_ix (me_var 1) me_int)) ma_nil)))))
theorem kn_times (T : Txt K mg) (q__want_two : Kn PySem.Challenge.pw_carryoffice_k11_whole_ratios_reckoned w K mg base 4 "_want_two" "_want_two" (top 27) ["ratio", "other_ratio"] none f__want_two) (q__told : Kn PySem.Challenge.pw_carryoffice_k11_whole_ratios_reckoned w K mg base 1 "_told" "_told" (top 26) ["ratio"] none f__told) (q_product : Kn PySem.Challenge.pw_carryoffice_k11_whole_ratios_reckoned w K mg base 2 "product" "product" (top 23) ["near", "far"] none f_product) {x : Str} {f : Addr} {fd : FuncData} (hm : mg x = some (.ref f)) (F : Fun K "times" "times" (top 32) f fd) : Kn PySem.Challenge.pw_carryoffice_k11_whole_ratios_reckoned w K mg base 5 x "times" (top 32) ["ratio", "other_ratio"] none f_times :=
  kn_def F hm sc_times rfl fun cdv A outer s H E hr hgd => by
    have hx : Passes (L2.CX PySem.Challenge.pw_carryoffice_k11_whole_ratios_reckoned w) (cxOf (L2.CX PySem.Challenge.pw_carryoffice_k11_whole_ratios_reckoned w) PySem.Challenge.pw_carryoffice_k11_whole_ratios_reckoned w K mg base ["ratio", "other_ratio"] "times" (defScope (top 32)) f cdv A outer s H E) E := passes_call (takes_of rfl rfl rfl rfl) fun _ _ _ _ h => h
    exact (mss_cons (ms_expr (me_call q__want_two (hr.mono (by decide)) hgd (by rfl) 2 rfl b__want_two_2 hx (ma_t (me_var 0) (ma_t (me_var 1) ma_nil)))) (mss_one (ms_ret (me_call q__told (hr.mono (by decide)) hgd (by rfl) 1 rfl b__told_1 hx (ma_t (me_call q_product (hr.mono (by decide)) hgd (by rfl) 2 rfl b_product_2 hx (ma_t (me_var 0) (ma_t (me_var 1) ma_nil))) ma_nil)))))
theorem kn_plus (T : Txt K mg) (q_fraction : Kn PySem.Challenge.pw_carryoffice_k11_whole_ratios_reckoned w K mg base 1 "fraction" "fraction" (top 20) ["number", "under"] none f_fraction) {x : Str} {f : Addr} {fd : FuncData} (hm : mg x = some (.ref f)) (F : Fun K "plus" "plus" (top 21) f fd) : Kn PySem.Challenge.pw_carryoffice_k11_whole_ratios_reckoned w K mg base 2 x "plus" (top 21) ["near", "far"] none f_plus :=
  kn_def F hm sc_plus rfl fun cdv A outer s H E hr hgd => by
    have hx : Passes (L2.CX PySem.Challenge.pw_carryoffice_k11_whole_ratios_reckoned w) (cxOf (L2.CX PySem.Challenge.pw_carryoffice_k11_whole_ratios_reckoned w) PySem.Challenge.pw_carryoffice_k11_whole_ratios_reckoned w K mg base ["near", "far"] "plus" (defScope (top 21)) f cdv A outer s H E) E := passes_call (takes_of rfl rfl rfl rfl) fun _ _ _ _ h => h
    exact (mss_cons (ms_if (mt_cmp (op_eqS hr.units64) bin_eqS (me_ix (me_var 0) me_int) (me_ix (me_var 1) me_int)) (mss_one (ms_ret (me_call q_fraction (hr.mono (by decide)) hgd (by rfl) 2 rfl b_fraction_2 hx (ma_t (pe_bin op_addA bin_addA (me_ix (me_var 0) me_int) (me_ix (me_var 1) me_int)) (ma_t (me_ix (me_var 0) me_int) ma_nil))))) mss_nil) (mss_one (ms_ret (me_call q_fraction (hr.mono (by decide)) hgd (by rfl) 2 rfl b_fraction_2 hx (ma_t (pe_bin op_addA bin_addA (pe_bin op_mulA bin_mulA (me_ix (me_var 0) me_int) (me_ix (me_var 1) me_int)) (pe_bin op_mulA bin_mulA (me_ix (me_var 1) me_int) (me_ix (me_var 0) me_int))) (ma_t (pe_bin op_mulA bin_mulA (me_ix (me_var 0) me_int) (me_ix (me_var 1) me_int)) ma_nil))))))
theorem kn_minus (T : Txt K mg) (q_plus : Kn PySem.Challenge.pw_carryoffice_k11_whole_ratios_reckoned w K mg base 2 "plus" "plus" (top 21) ["near", "far"] none f_plus) {x : Str} {f : Addr} {fd : FuncData} (hm : mg x = some (.ref f)) (F : Fun K "minus" "minus" (top 22) f fd) : Kn PySem.Challenge.pw_carryoffice_k11_whole_ratios_reckoned w K mg base 3 x "minus" (top 22) ["near", "far"] none f_minus :=
  kn_def F hm sc_minus rfl fun cdv A outer s H E hr hgd => by
    have hx : Passes (L2.CX PySem.Challenge.pw_carryoffice_k11_whole_ratios_reckoned w) (cxOf (L2.CX PySem.Challenge.pw_carryoffice_k11_whole_ratios_reckoned w) PySem.Challenge.pw_carryoffice_k11_whole_ratios_reckoned w K mg base ["near", "far"] "minus" (defScope (top 22)) f cdv A outer s H E) E := passes_call (takes_of rfl rfl rfl rfl) fun _ _ _ _ h => h
    exact (mss_one (ms_ret (me_call q_plus (hr.mono (by decide)) hgd (by rfl) 2 rfl b_plus_2 hx (ma_t (me_var 0) (ma_t (me_tup (ma_v (me_neg (me_ix (me_var 1) me_int)) (ma_v (me_ix (me_var 1) me_int) ma_nil))) ma_nil)))))
theorem kn_less (T : Txt K mg) (q__want_two : Kn PySem.Challenge.pw_carryoffice_k11_whole_ratios_reckoned w K mg base 4 "_want_two" "_want_two" (top 27) ["ratio", "other_ratio"] none f__want_two) (q__told : Kn PySem.Challenge.pw_carryoffice_k11_whole_ratios_reckoned w K mg base 1 "_told" "_told" (top 26) ["ratio"] none f__told) (q_minus : Kn PySem.Challenge.pw_carryoffice_k11_whole_ratios_reckoned w K mg base 3 "minus" "minus" (top 22) ["near", "far"] none f_minus) {x : Str} {f : Addr} {fd : FuncData} (hm : mg x = some (.ref f)) (F : Fun K "less" "less" (top 31) f fd) : Kn PySem.Challenge.pw_carryoffice_k11_whole_ratios_reckoned w K mg base 5 x "less" (top 31) ["ratio", "other_ratio"] none f_less :=
  kn_def F hm sc_less rfl fun cdv A outer s H E hr hgd => by
    have hx : Passes (L2.CX PySem.Challenge.pw_carryoffice_k11_whole_ratios_reckoned w) (cxOf (L2.CX PySem.Challenge.pw_carryoffice_k11_whole_ratios_reckoned w) PySem.Challenge.pw_carryoffice_k11_whole_ratios_reckoned w K mg base ["ratio", "other_ratio"] "less" (defScope (top 31)) f cdv A outer s H E) E := passes_call (takes_of rfl rfl rfl rfl) fun _ _ _ _ h => h
    exact (mss_cons (ms_expr (me_call q__want_two (hr.mono (by decide)) hgd (by rfl) 2 rfl b__want_two_2 hx (ma_t (me_var 0) (ma_t (me_var 1) ma_nil)))) (mss_one (ms_ret (me_call q__told (hr.mono (by decide)) hgd (by rfl) 1 rfl b__told_1 hx (ma_t (me_call q_minus (hr.mono (by decide)) hgd (by rfl) 2 rfl b_minus_2 hx (ma_t (me_var 0) (ma_t (me_var 1) ma_nil))) ma_nil)))))
theorem kn_added (T : Txt K mg) (q__want_two : Kn PySem.Challenge.pw_carryoffice_k11_whole_ratios_reckoned w K mg base 4 "_want_two" "_want_two" (top 27) ["ratio", "other_ratio"] none f__want_two) (q__told : Kn PySem.Challenge.pw_carryoffice_k11_whole_ratios_reckoned w K mg base 1 "_told" "_told" (top 26) ["ratio"] none f__told) (q_plus : Kn PySem.Challenge.pw_carryoffice_k11_whole_ratios_reckoned w K mg base 2 "plus" "plus" (top 21) ["near", "far"] none f_plus) {x : Str} {f : Addr} {fd : FuncData} (hm : mg x = some (.ref f)) (F : Fun K "added" "added" (top 30) f fd) : Kn PySem.Challenge.pw_carryoffice_k11_whole_ratios_reckoned w K mg base 5 x "added" (top 30) ["ratio", "other_ratio"] none f_added :=
  kn_def F hm sc_added rfl fun cdv A outer s H E hr hgd => by
    have hx : Passes (L2.CX PySem.Challenge.pw_carryoffice_k11_whole_ratios_reckoned w) (cxOf (L2.CX PySem.Challenge.pw_carryoffice_k11_whole_ratios_reckoned w) PySem.Challenge.pw_carryoffice_k11_whole_ratios_reckoned w K mg base ["ratio", "other_ratio"] "added" (defScope (top 30)) f cdv A outer s H E) E := passes_call (takes_of rfl rfl rfl rfl) fun _ _ _ _ h => h
    exact (mss_cons (ms_expr (me_call q__want_two (hr.mono (by decide)) hgd (by rfl) 2 rfl b__want_two_2 hx (ma_t (me_var 0) (ma_t (me_var 1) ma_nil)))) (mss_one (ms_ret (me_call q__told (hr.mono (by decide)) hgd (by rfl) 1 rfl b__told_1 hx (ma_t (me_call q_plus (hr.mono (by decide)) hgd (by rfl) 2 rfl b_plus_2 hx (ma_t (me_var 0) (ma_t (me_var 1) ma_nil))) ma_nil)))))
theorem kn_quotient (T : Txt K mg) (q_fraction : Kn PySem.Challenge.pw_carryoffice_k11_whole_ratios_reckoned w K mg base 1 "fraction" "fraction" (top 20) ["number", "under"] none f_fraction) {x : Str} {f : Addr} {fd : FuncData} (hm : mg x = some (.ref f)) (F : Fun K "quotient" "quotient" (top 24) f fd) : Kn PySem.Challenge.pw_carryoffice_k11_whole_ratios_reckoned w K mg base 2 x "quotient" (top 24) ["near", "far"] none f_quotient :=
  kn_def F hm sc_quotient rfl fun cdv A outer s H E hr hgd => by
    have hx : Passes (L2.CX PySem.Challenge.pw_carryoffice_k11_whole_ratios_reckoned w) (cxOf (L2.CX PySem.Challenge.pw_carryoffice_k11_whole_ratios_reckoned w) PySem.Challenge.pw_carryoffice_k11_whole_ratios_reckoned w K mg base ["near", "far"] "quotient" (defScope (top 24)) f cdv A outer s H E) E := passes_call (takes_of rfl rfl rfl rfl) fun _ _ _ _ h => h
    exact (mss_one (ms_ret (me_call q_fraction (hr.mono (by decide)) hgd (by rfl) 2 rfl b_fraction_2 hx (ma_t (pe_bin op_mulA bin_mulA (me_ix (me_var 0) me_int) (me_ix (me_var 1) me_int)) (ma_t (pe_bin op_mulA bin_mulA (me_ix (me_var 0) me_int) (me_ix (me_var 1) me_int)) ma_nil)))))
theorem kn_over (T : Txt K mg) (q__want_two : Kn PySem.Challenge.pw_carryoffice_k11_whole_ratios_reckoned w K mg base 4 "_want_two" "_want_two" (top 27) ["ratio", "other_ratio"] none f__want_two) (q__told : Kn PySem.Challenge.pw_carryoffice_k11_whole_ratios_reckoned w K mg base 1 "_told" "_told" (top 26) ["ratio"] none f__told) (q_quotient : Kn PySem.Challenge.pw_carryoffice_k11_whole_ratios_reckoned w K mg base 2 "quotient" "quotient" (top 24) ["near", "far"] none f_quotient) {x : Str} {f : Addr} {fd : FuncData} (hm : mg x = some (.ref f)) (F : Fun K "over" "over" (top 33) f fd) : Kn PySem.Challenge.pw_carryoffice_k11_whole_ratios_reckoned w K mg base 5 x "over" (top 33) ["ratio", "other_ratio"] none f_over :=
  kn_def F hm sc_over rfl fun cdv A outer s H E hr hgd => by
    have hx : Passes (L2.CX PySem.Challenge.pw_carryoffice_k11_whole_ratios_reckoned w) (cxOf (L2.CX PySem.Challenge.pw_carryoffice_k11_whole_ratios_reckoned w) PySem.Challenge.pw_carryoffice_k11_whole_ratios_reckoned w K mg base ["ratio", "other_ratio"] "over" (defScope (top 33)) f cdv A outer s H E) E := passes_call (takes_of rfl rfl rfl rfl) fun _ _ _ _ h => h
    exact (mss_cons (ms_expr (me_call q__want_two (hr.mono (by decide)) hgd (by rfl) 2 rfl b__want_two_2 hx (ma_t (me_var 0) (ma_t (me_var 1) ma_nil)))) (mss_cons (ms_if (mt_cmp (op_eqS hr.units64) bin_eqS (me_var 1) (me_cst (by rfl) T.c_NOUGHT)) (mss_one ms_never) mss_nil) (mss_one (ms_ret (me_call q__told (hr.mono (by decide)) hgd (by rfl) 1 rfl b__told_1 hx (ma_t (me_call q_quotient (hr.mono (by decide)) hgd (by rfl) 2 rfl b_quotient_2 hx (ma_t (me_var 0) (ma_t (me_var 1) ma_nil))) ma_nil))))))
theorem kn__law_two (T : Txt K mg) (q__law_ratio : Kn PySem.Challenge.pw_carryoffice_k11_whole_ratios_reckoned w K mg base 2 "_law_ratio" "_law_ratio" (top 46) ["number", "under"] none f__law_ratio) (q_compared : Kn PySem.Challenge.pw_carryoffice_k11_whole_ratios_reckoned w K mg base 5 "compared" "compared" (top 34) ["ratio", "other_ratio"] none f_compared) (q_times : Kn PySem.Challenge.pw_carryoffice_k11_whole_ratios_reckoned w K mg base 5 "times" "times" (top 32) ["ratio", "other_ratio"] none f_times) (q_less : Kn PySem.Challenge.pw_carryoffice_k11_whole_ratios_reckoned w K mg base 5 "less" "less" (top 31) ["ratio", "other_ratio"] none f_less) (q_added : Kn PySem.Challenge.pw_carryoffice_k11_whole_ratios_reckoned w K mg base 5 "added" "added" (top 30) ["ratio", "other_ratio"] none f_added) (q_over : Kn PySem.Challenge.pw_carryoffice_k11_whole_ratios_reckoned w K mg base 5 "over" "over" (top 33) ["ratio", "other_ratio"] none f_over) {x : Str} {f : Addr} {fd : FuncData} (hm : mg x = some (.ref f)) (F : Fun K "_law_two" "_law_two" (top 50) f fd) : Kn PySem.Challenge.pw_carryoffice_k11_whole_ratios_reckoned w K mg base 6 x "_law_two" (top 50) ["near", "far"] none f__law_two :=
  kn_def F hm sc__law_two rfl fun cdv A outer s H E hr hgd => by
    have hx : Passes (L2.CX PySem.Challenge.pw_carryoffice_k11_whole_ratios_reckoned w) (cxOf (L2.CX PySem.Challenge.pw_carryoffice_k11_whole_ratios_reckoned w) PySem.Challenge.pw_carryoffice_k11_whole_ratios_reckoned w K mg base ["near", "far", "sides", "due", "told", "due_over"] "_law_two" (defScope (top 50)) f cdv A outer s H E) E := passes_call (takes_of rfl rfl rfl rfl) fun _ _ _ _ h => h
    exact (mss_cons (ms_set sc__law_two.nd rfl (Or.inl rfl) (pe_bin op_sub bin_subA (pe_bin op_mulA bin_mulA (me_ix (me_var 0) me_int) (me_ix (me_var 1) me_int)) (pe_bin op_mulA bin_mulA (me_ix (me_var 1) me_int) (me_ix (me_var 0) me_int)))) (mss_cons (ms_set sc__law_two.nd rfl (Or.inl rfl) (me_lst (ma_v (me_call q__law_ratio (hr.mono (by decide)) hgd (by rfl) 2 rfl b__law_ratio_2 hx (ma_t (pe_bin op_addA bin_addA (pe_bin op_mulA bin_mulA (me_ix (me_var 0) me_int) (me_ix (me_var 1) me_int)) (pe_bin op_mulA bin_mulA (me_ix (me_var 1) me_int) (me_ix (me_var 0) me_int))) (ma_t (pe_bin op_mulA bin_mulA (me_ix (me_var 0) me_int) (me_ix (me_var 1) me_int)) ma_nil))) (ma_v (me_call q__law_ratio (hr.mono (by decide)) hgd (by rfl) 2 rfl b__law_ratio_2 hx (ma_t (me_var 2) (ma_t (pe_bin op_mulA bin_mulA (me_ix (me_var 0) me_int) (me_ix (me_var 1) me_int)) ma_nil))) (ma_v (me_call q__law_ratio (hr.mono (by decide)) hgd (by rfl) 2 rfl b__law_ratio_2 hx (ma_t (pe_bin op_mulA bin_mulA (me_ix (me_var 0) me_int) (me_ix (me_var 1) me_int)) (ma_t (pe_bin op_mulA bin_mulA (me_ix (me_var 0) me_int) (me_ix (me_var 1) me_int)) ma_nil))) (ma_v (me_if (mt_cmp op_lt bin_ltA (me_var 2) me_int) (me_neg me_int) (me_if (mt_cmp op_gt bin_gtA (me_var 2) me_int) me_int me_int)) ma_nil)))))) (mss_cons (ms_set sc__law_two.nd rfl (Or.inl rfl) (me_lst (ma_v (me_callK0 q_added (hr.mono (by decide)) hgd (by rfl) b_added_0_other_ratio_ratio hx (fun rs h => match rs, h with | [_, _], _ => rfl) (mk_cons (me_var 1) (mk_cons (me_var 0) mk_nil))) (ma_v (me_call q_less (hr.mono (by decide)) hgd (by rfl) 2 rfl b_less_2 hx (ma_t (me_var 0) (ma_t (me_var 1) ma_nil))) (ma_v (me_callK0 q_times (hr.mono (by decide)) hgd (by rfl) b_times_0_ratio_other_ratio hx (fun rs h => match rs, h with | [_, _], _ => rfl) (mk_cons (me_var 0) (mk_cons (me_var 1) mk_nil))) (ma_v (me_call q_compared (hr.mono (by decide)) hgd (by rfl) 2 rfl b_compared_2 hx (ma_t (me_var 0) (ma_t (me_var 1) ma_nil))) ma_nil)))))) (mss_cons (ms_if (mt_cmp (op_neS hr.units64) bin_neS (me_callB (cr_repr hgd (hr.units70)) cal_repr (by rfl) T.b_repr rfl (ma_t (me_var 4) ma_nil)) (me_callB (cr_repr hgd (hr.units70)) cal_repr (by rfl) T.b_repr rfl (ma_t (me_var 3) ma_nil))) (mss_one (ms_ret me_bl)) mss_nil) (mss_cons (ms_if (mt_cmp (op_neS hr.units64) bin_neS (me_callB (cr_repr hgd (hr.units70)) cal_repr (by rfl) T.b_repr rfl (ma_t (me_lst (ma_v (me_callK0 q_less (hr.mono (by decide)) hgd (by rfl) b_less_0_other_ratio_ratio hx (fun rs h => match rs, h with | [_, _], _ => rfl) (mk_cons (me_var 1) (mk_cons (me_var 0) mk_nil))) (ma_v (me_call q_added (hr.mono (by decide)) hgd (by rfl) 2 rfl b_added_2 hx (ma_t (me_var 0) (ma_t (me_var 1) ma_nil))) (ma_v (me_callK0 q_compared (hr.mono (by decide)) hgd (by rfl) b_compared_0_ratio_other_ratio hx (fun rs h => match rs, h with | [_, _], _ => rfl) (mk_cons (me_var 0) (mk_cons (me_var 1) mk_nil))) ma_nil)))) ma_nil)) (me_callB (cr_repr hgd (hr.units70)) cal_repr (by rfl) T.b_repr rfl (ma_t (me_lst (ma_v (me_ix (me_var 3) me_int) (ma_v (me_ix (me_var 3) me_int) (ma_v (me_ix (me_var 3) me_int) ma_nil)))) ma_nil))) (mss_one (ms_ret me_bl)) mss_nil) (mss_cons (ms_if (mt_cmp (op_eqS hr.units64) bin_eqS (me_ix (me_var 1) me_int) me_int) (mss_one (ms_ret me_bl)) mss_nil) (mss_cons (ms_set sc__law_two.nd rfl (Or.inl rfl) (me_call q__law_ratio (hr.mono (by decide)) hgd (by rfl) 2 rfl b__law_ratio_2 hx (ma_t (pe_bin op_mulA bin_mulA (me_ix (me_var 0) me_int) (me_ix (me_var 1) me_int)) (ma_t (pe_bin op_mulA bin_mulA (me_ix (me_var 0) me_int) (me_ix (me_var 1) me_int)) ma_nil)))) (mss_one (ms_ret (pe_cmp2 (op_eqS hr.units64) bin_eqS (me_callB (cr_repr hgd (hr.units70)) cal_repr (by rfl) T.b_repr rfl (ma_t (me_lst (ma_v (me_call q_over (hr.mono (by decide)) hgd (by rfl) 2 rfl b_over_2 hx (ma_t (me_var 0) (ma_t (me_var 1) ma_nil))) (ma_v (me_callK0 q_over (hr.mono (by decide)) hgd (by rfl) b_over_0_other_ratio_ratio hx (fun rs h => match rs, h with | [_, _], _ => rfl) (mk_cons (me_var 1) (mk_cons (me_var 0) mk_nil))) ma_nil))) ma_nil)) (me_callB (cr_repr hgd (hr.units70)) cal_repr (by rfl) T.b_repr rfl (ma_t (me_lst (ma_v (me_var 5) (ma_v (me_var 5) ma_nil))) ma_nil)) (by with_unfolding_all rfl)))))))))))
theorem kn_floor_of (T : Txt K mg) (q_want_ratio : Kn PySem.Challenge.pw_carryoffice_k11_whole_ratios_reckoned w K mg base 3 "want_ratio" "want_ratio" (top 19) ["value"] none f_want_ratio) {x : Str} {f : Addr} {fd : FuncData} (hm : mg x = some (.ref f)) (F : Fun K "floor_of" "floor_of" (top 36) f fd) : Kn PySem.Challenge.pw_carryoffice_k11_whole_ratios_reckoned w K mg base 4 x "floor_of" (top 36) ["ratio"] none f_floor_of :=
  kn_def F hm sc_floor_of rfl fun cdv A outer s H E hr hgd => by
    have hx : Passes (L2.CX PySem.Challenge.pw_carryoffice_k11_whole_ratios_reckoned w) (cxOf (L2.CX PySem.Challenge.pw_carryoffice_k11_whole_ratios_reckoned w) PySem.Challenge.pw_carryoffice_k11_whole_ratios_reckoned w K mg base ["ratio"] "floor_of" (defScope (top 36)) f cdv A outer s H E) E := passes_call (takes_of rfl rfl rfl rfl) fun _ _ _ _ h => h
    exact (mss_cons (ms_expr (me_call q_want_ratio (hr.mono (by decide)) hgd (by rfl) 1 rfl b_want_ratio_1 hx (ma_t (me_var 0) ma_nil))) (mss_one (ms_ret (pe_bin op_fdivA bin_fdivA (me_ix (me_var 0) me_int) (me_ix (me_var 0) me_int)))))
theorem kn_ceiling_of (T : Txt K mg) (q_want_ratio : Kn PySem.Challenge.pw_carryoffice_k11_whole_ratios_reckoned w K mg base 3 "want_ratio" "want_ratio" (top 19) ["value"] none f_want_ratio) {x : Str} {f : Addr} {fd : FuncData} (hm : mg x = some (.ref f)) (F : Fun K "ceiling_of" "ceiling_of" (top 37) f fd) : Kn PySem.Challenge.pw_carryoffice_k11_whole_ratios_reckoned w K mg base 4 x "ceiling_of" (top 37) ["ratio"] none f_ceiling_of :=
  kn_def F hm sc_ceiling_of rfl fun cdv A outer s H E hr hgd => by
    have hx : Passes (L2.CX PySem.Challenge.pw_carryoffice_k11_whole_ratios_reckoned w) (cxOf (L2.CX PySem.Challenge.pw_carryoffice_k11_whole_ratios_reckoned w) PySem.Challenge.pw_carryoffice_k11_whole_ratios_reckoned w K mg base ["ratio"] "ceiling_of" (defScope (top 37)) f cdv A outer s H E) E := passes_call (takes_of rfl rfl rfl rfl) fun _ _ _ _ h => h
    exact (mss_cons (ms_expr (me_call q_want_ratio (hr.mono (by decide)) hgd (by rfl) 1 rfl b_want_ratio_1 hx (ma_t (me_var 0) ma_nil))) (mss_one (ms_ret (me_neg (pe_bin op_fdivA bin_fdivA (me_neg (me_ix (me_var 0) me_int)) (me_ix (me_var 0) me_int))))))
theorem kn__law_one (T : Txt K mg) (q_floor_of : Kn PySem.Challenge.pw_carryoffice_k11_whole_ratios_reckoned w K mg base 4 "floor_of" "floor_of" (top 36) ["ratio"] none f_floor_of) (q_ceiling_of : Kn PySem.Challenge.pw_carryoffice_k11_whole_ratios_reckoned w K mg base 4 "ceiling_of" "ceiling_of" (top 37) ["ratio"] none f_ceiling_of) {x : Str} {f : Addr} {fd : FuncData} (hm : mg x = some (.ref f)) (F : Fun K "_law_one" "_law_one" (top 51) f fd) : Kn PySem.Challenge.pw_carryoffice_k11_whole_ratios_reckoned w K mg base 5 x "_law_one" (top 51) ["ratio"] none f__law_one :=
  kn_def F hm sc__law_one rfl fun cdv A outer s H E hr hgd => by
    have hx : Passes (L2.CX PySem.Challenge.pw_carryoffice_k11_whole_ratios_reckoned w) (cxOf (L2.CX PySem.Challenge.pw_carryoffice_k11_whole_ratios_reckoned w) PySem.Challenge.pw_carryoffice_k11_whole_ratios_reckoned w K mg base ["ratio", "low", "high"] "_law_one" (defScope (top 51)) f cdv A outer s H E) E := passes_call (takes_of rfl rfl rfl rfl) fun _ _ _ _ h => h
    exact (mss_cons (ms_par rfl sc__law_one.nd 1 2 (me_call q_floor_of (hr.mono (by decide)) hgd (by rfl) 1 rfl b_floor_of_1 hx (ma_t (me_var 0) ma_nil)) (me_call q_ceiling_of (hr.mono (by decide)) hgd (by rfl) 1 rfl b_ceiling_of_1 hx (ma_t (me_var 0) ma_nil))) (mss_cons (ms_if (mt_cmp (op_neS hr.units64) bin_neS (me_callB (cr_repr hgd (hr.units70)) cal_repr (by rfl) T.b_repr rfl (ma_t (me_lst (ma_v (me_var 1) (ma_v (me_var 2) ma_nil))) ma_nil)) (me_callB (cr_repr hgd (hr.units70)) cal_repr (by rfl) T.b_repr rfl (ma_t (me_lst (ma_v (me_callK0 q_floor_of (hr.mono (by decide)) hgd (by rfl) b_floor_of_0_ratio hx (fun rs h => match rs, h with | [_], _ => rfl) (mk_cons (me_var 0) mk_nil)) (ma_v (me_callK0 q_ceiling_of (hr.mono (by decide)) hgd (by rfl) b_ceiling_of_0_ratio hx (fun rs h => match rs, h with | [_], _ => rfl) (mk_cons (me_var 0) mk_nil)) ma_nil))) ma_nil))) (mss_one (ms_ret me_bl)) mss_nil) (mss_cons (ms_if ((mt_or (mt_not (mt_val (me_isi1 (by rfl) T.b_isinstance (by rfl) T.b_int "int" rfl (me_var 1)))) (mt_or (mt_not (mt_val (me_isi1 (by rfl) T.b_isinstance (by rfl) T.b_int "int" rfl (me_var 2)))) (mt_or (mt_val (me_isi1 (by rfl) T.b_isinstance (by rfl) T.b_bool "bool" rfl (me_var 1))) (mt_or1 (mt_val (me_isi1 (by rfl) T.b_isinstance (by rfl) T.b_bool "bool" rfl (me_var 2)))))))).pt (mss_one (ms_ret me_bl)) mss_nil) (mss_cons (ms_if (mt_not ((mt_and (mt_cmp op_le bin_leA (pe_bin op_mulA bin_mulA (me_var 1) (me_ix (me_var 0) me_int)) (me_ix (me_var 0) me_int)) (mt_and1 (mt_cmp op_lt bin_ltA (me_ix (me_var 0) me_int) (pe_bin op_mulA bin_mulA (pe_bin op_addA bin_addA (me_var 1) me_int) (me_ix (me_var 0) me_int)))))).pt) (mss_one (ms_ret me_bl)) mss_nil) (mss_one (ms_ret (me_and (pe_cmp2 op_le bin_leA (me_ix (me_var 0) me_int) (pe_bin op_mulA bin_mulA (me_var 2) (me_ix (me_var 0) me_int)) (by with_unfolding_all rfl)) (me_one (pe_cmp2 op_lt bin_ltA (pe_bin op_mulA bin_mulA (pe_bin op_sub bin_subA (me_var 2) me_int) (me_ix (me_var 0) me_int)) (me_ix (me_var 0) me_int) (by with_unfolding_all rfl))))))))))
theorem kn_is_list (T : Txt K mg)  {x : Str} {f : Addr} {fd : FuncData} (hm : mg x = some (.ref f)) (F : Fun K "is_list" "is_list" (top 12) f fd) : Kn PySem.Challenge.pw_carryoffice_k11_whole_ratios_reckoned w K mg base 1 x "is_list" (top 12) ["value"] none f_is_list :=
  kn_def F hm sc_is_list rfl fun cdv A outer s H E hr hgd => by
    have hx : Passes (L2.CX PySem.Challenge.pw_carryoffice_k11_whole_ratios_reckoned w) (cxOf (L2.CX PySem.Challenge.pw_carryoffice_k11_whole_ratios_reckoned w) PySem.Challenge.pw_carryoffice_k11_whole_ratios_reckoned w K mg base ["value"] "is_list" (defScope (top 12)) f cdv A outer s H E) E := passes_call (takes_of rfl rfl rfl rfl) fun _ _ _ _ h => h
    exact (mss_one (ms_ret (me_isi2 (by rfl) T.b_isinstance (by rfl) T.b_list "list" rfl (by rfl) T.b_tuple "tuple" rfl (me_var 0))))
theorem kn__want_ratios (T : Txt K mg) (q_is_list : Kn PySem.Challenge.pw_carryoffice_k11_whole_ratios_reckoned w K mg base 1 "is_list" "is_list" (top 12) ["value"] none f_is_list) (q_is_ratio : Kn PySem.Challenge.pw_carryoffice_k11_whole_ratios_reckoned w K mg base 2 "is_ratio" "is_ratio" (top 18) ["value"] none f_is_ratio) {x : Str} {f : Addr} {fd : FuncData} (hm : mg x = some (.ref f)) (F : Fun K "_want_ratios" "_want_ratios" (top 28) f fd) : Kn PySem.Challenge.pw_carryoffice_k11_whole_ratios_reckoned w K mg base 3 x "_want_ratios" (top 28) ["value"] none f__want_ratios :=
  kn_def F hm sc__want_ratios rfl fun cdv A outer s H E hr hgd => by
    have hx : Passes (L2.CX PySem.Challenge.pw_carryoffice_k11_whole_ratios_reckoned w) (cxOf (L2.CX PySem.Challenge.pw_carryoffice_k11_whole_ratios_reckoned w) PySem.Challenge.pw_carryoffice_k11_whole_ratios_reckoned w K mg base ["value", "one"] "_want_ratios" (defScope (top 28)) f cdv A outer s H E) E := passes_call (takes_of rfl rfl rfl rfl) fun _ _ _ _ h => h
    exact (mss_one (ms_if ((mt_or (mt_not (mt_val (me_call q_is_list (hr.mono (by decide)) hgd (by rfl) 1 rfl b_is_list_1 hx (ma_t (me_var 0) ma_nil)))) (mt_or (mt_cmp op_gt bin_gtA (me_callB call_len cal_len (by rfl) T.b_len rfl (ma_t (me_var 0) ma_nil)) me_int) (mt_or1 (mt_not (mt_val (me_callB (cr_all rfl) cal_all (by rfl) T.b_all rfl (ma_t (me_lc rfl sc__want_ratios.nd (mi_data (me_var 0)) (own := [("one", 1)]) (blkOk_by (by rfl)) (fun _ _ _ _ _ => (mg_name (fun _ _ => wipe_set (by decide)) sc__want_ratios.nd rfl (Or.inl rfl))) (fun _ _ _ _ _ => mts_nil) (fun _ _ _ _ _ => (me_call q_is_ratio (hr.mono (by decide)) hgd (by rfl) 1 rfl b_is_ratio_1 passL (ma_t (me_var 1) ma_nil)))) ma_nil)))))))).pt (mss_one ms_never) mss_nil))
theorem kn_under_of (T : Txt K mg)  {x : Str} {f : Addr} {fd : FuncData} (hm : mg x = some (.ref f)) (F : Fun K "under_of" "under_of" (top 38) f fd) : Kn PySem.Challenge.pw_carryoffice_k11_whole_ratios_reckoned w K mg base 1 x "under_of" (top 38) ["ratios"] none f_under_of :=
  kn_def F hm sc_under_of rfl fun cdv A outer s H E hr hgd => by
    have hx : Passes (L2.CX PySem.Challenge.pw_carryoffice_k11_whole_ratios_reckoned w) (cxOf (L2.CX PySem.Challenge.pw_carryoffice_k11_whole_ratios_reckoned w) PySem.Challenge.pw_carryoffice_k11_whole_ratios_reckoned w K mg base ["ratios", "under", "ratio"] "under_of" (defScope (top 38)) f cdv A outer s H E) E := passes_call (takes_of rfl rfl rfl rfl) fun _ _ _ _ h => h
    exact (mss_cons (ms_set sc_under_of.nd rfl (Or.inl rfl) me_int) (mss_cons (ms_forC (passes_of rfl) rfl (mi_data (me_var 0)) (mg_name (fun _ _ => trivial) sc_under_of.nd rfl (Or.inl rfl)) (mss_one (ms_set sc_under_of.nd rfl (Or.inl rfl) (me_callG cr_lcm cal_lcm (by rfl) T.g_lcm (ma_t (me_var 1) (ma_t (me_ix (me_var 2) me_int) ma_nil)))))) (mss_one (ms_ret (me_var 1)))))
theorem kn_whole_row (T : Txt K mg) (q__want_ratios : Kn PySem.Challenge.pw_carryoffice_k11_whole_ratios_reckoned w K mg base 3 "_want_ratios" "_want_ratios" (top 28) ["value"] none f__want_ratios) (q__told : Kn PySem.Challenge.pw_carryoffice_k11_whole_ratios_reckoned w K mg base 1 "_told" "_told" (top 26) ["ratio"] none f__told) (q_under_of : Kn PySem.Challenge.pw_carryoffice_k11_whole_ratios_reckoned w K mg base 1 "under_of" "under_of" (top 38) ["ratios"] none f_under_of) {x : Str} {f : Addr} {fd : FuncData} (hm : mg x = some (.ref f)) (F : Fun K "whole_row" "whole_row" (top 40) f fd) : Kn PySem.Challenge.pw_carryoffice_k11_whole_ratios_reckoned w K mg base 4 x "whole_row" (top 40) ["ratios"] none f_whole_row :=
  kn_def F hm sc_whole_row rfl fun cdv A outer s H E hr hgd => by
    have hx : Passes (L2.CX PySem.Challenge.pw_carryoffice_k11_whole_ratios_reckoned w) (cxOf (L2.CX PySem.Challenge.pw_carryoffice_k11_whole_ratios_reckoned w) PySem.Challenge.pw_carryoffice_k11_whole_ratios_reckoned w K mg base ["ratios", "under", "ratio"] "whole_row" (defScope (top 40)) f cdv A outer s H E) E := passes_call (takes_of rfl rfl rfl rfl) fun _ _ _ _ h => h
    exact (mss_cons (ms_expr (me_call q__want_ratios (hr.mono (by decide)) hgd (by rfl) 1 rfl b__want_ratios_1 hx (ma_t (me_var 0) ma_nil))) (mss_cons (ms_set sc_whole_row.nd rfl (Or.inr rfl) (me_ix (me_call q__told (hr.mono (by decide)) hgd (by rfl) 1 rfl b__told_1 hx (ma_t (me_tup (ma_v (me_call q_under_of (hr.mono (by decide)) hgd (by rfl) 1 rfl b_under_of_1 hx (ma_t (me_var 0) ma_nil)) (ma_v me_int ma_nil))) ma_nil)) me_int)) (mss_one (ms_ret (me_tup (ma_v (me_callT call_tuple_of cal_tuple (by rfl) T.b_tuple rfl (ma_t (me_lc rfl sc_whole_row.nd (mi_data (me_var 0)) (own := [("ratio", 2)]) (blkOk_by (by rfl)) (fun _ _ _ _ _ => (mg_name (fun _ _ => wipe_set (by decide)) sc_whole_row.nd rfl (Or.inl rfl))) (fun _ _ _ _ _ => mts_nil) (fun _ _ _ _ _ => (me_ix (me_call q__told (hr.mono (by decide)) hgd (by rfl) 1 rfl b__told_1 passL (ma_t (me_tup (ma_v (pe_bin op_mulA bin_mulA (me_ix (me_var 2) me_int) (pe_bin op_fdivA bin_fdivA (me_var 1) (me_ix (me_var 2) me_int))) (ma_v me_int ma_nil))) ma_nil)) me_int))) ma_nil)) (ma_v (me_var 1) ma_nil)))))))
theorem kn_common_under (T : Txt K mg) (q__want_ratios : Kn PySem.Challenge.pw_carryoffice_k11_whole_ratios_reckoned w K mg base 3 "_want_ratios" "_want_ratios" (top 28) ["value"] none f__want_ratios) (q__told : Kn PySem.Challenge.pw_carryoffice_k11_whole_ratios_reckoned w K mg base 1 "_told" "_told" (top 26) ["ratio"] none f__told) (q_under_of : Kn PySem.Challenge.pw_carryoffice_k11_whole_ratios_reckoned w K mg base 1 "under_of" "under_of" (top 38) ["ratios"] none f_under_of) {x : Str} {f : Addr} {fd : FuncData} (hm : mg x = some (.ref f)) (F : Fun K "common_under" "common_under" (top 39) f fd) : Kn PySem.Challenge.pw_carryoffice_k11_whole_ratios_reckoned w K mg base 4 x "common_under" (top 39) ["ratios"] none f_common_under :=
  kn_def F hm sc_common_under rfl fun cdv A outer s H E hr hgd => by
    have hx : Passes (L2.CX PySem.Challenge.pw_carryoffice_k11_whole_ratios_reckoned w) (cxOf (L2.CX PySem.Challenge.pw_carryoffice_k11_whole_ratios_reckoned w) PySem.Challenge.pw_carryoffice_k11_whole_ratios_reckoned w K mg base ["ratios"] "common_under" (defScope (top 39)) f cdv A outer s H E) E := passes_call (takes_of rfl rfl rfl rfl) fun _ _ _ _ h => h
    exact (mss_cons (ms_expr (me_call q__want_ratios (hr.mono (by decide)) hgd (by rfl) 1 rfl b__want_ratios_1 hx (ma_t (me_var 0) ma_nil))) (mss_one (ms_ret (me_ix (me_call q__told (hr.mono (by decide)) hgd (by rfl) 1 rfl b__told_1 hx (ma_t (me_tup (ma_v (me_call q_under_of (hr.mono (by decide)) hgd (by rfl) 1 rfl b_under_of_1 hx (ma_t (me_var 0) ma_nil)) (ma_v me_int ma_nil))) ma_nil)) me_int))))
theorem kn_sum_of (T : Txt K mg) (q__want_ratios : Kn PySem.Challenge.pw_carryoffice_k11_whole_ratios_reckoned w K mg base 3 "_want_ratios" "_want_ratios" (top 28) ["value"] none f__want_ratios) (q_plus : Kn PySem.Challenge.pw_carryoffice_k11_whole_ratios_reckoned w K mg base 2 "plus" "plus" (top 21) ["near", "far"] none f_plus) (q__told : Kn PySem.Challenge.pw_carryoffice_k11_whole_ratios_reckoned w K mg base 1 "_told" "_told" (top 26) ["ratio"] none f__told) {x : Str} {f : Addr} {fd : FuncData} (hm : mg x = some (.ref f)) (F : Fun K "sum_of" "sum_of" (top 35) f fd) : Kn PySem.Challenge.pw_carryoffice_k11_whole_ratios_reckoned w K mg base 4 x "sum_of" (top 35) ["ratios"] none f_sum_of :=
  kn_def F hm sc_sum_of rfl fun cdv A outer s H E hr hgd => by
    have hx : Passes (L2.CX PySem.Challenge.pw_carryoffice_k11_whole_ratios_reckoned w) (cxOf (L2.CX PySem.Challenge.pw_carryoffice_k11_whole_ratios_reckoned w) PySem.Challenge.pw_carryoffice_k11_whole_ratios_reckoned w K mg base ["ratios", "total", "ratio"] "sum_of" (defScope (top 35)) f cdv A outer s H E) E := passes_call (takes_of rfl rfl rfl rfl) fun _ _ _ _ h => h
    exact (mss_cons (ms_expr (me_call q__want_ratios (hr.mono (by decide)) hgd (by rfl) 1 rfl b__want_ratios_1 hx (ma_t (me_var 0) ma_nil))) (mss_cons (ms_set sc_sum_of.nd rfl (Or.inl rfl) (me_cst (by rfl) T.c_NOUGHT)) (mss_cons (ms_forC (passes_of rfl) rfl (mi_data (me_var 0)) (mg_name (fun _ _ => trivial) sc_sum_of.nd rfl (Or.inl rfl)) (mss_one (ms_set sc_sum_of.nd rfl (Or.inl rfl) (me_call q_plus (hr.mono (by decide)) hgd (by rfl) 2 rfl b_plus_2 hx (ma_t (me_var 1) (ma_t (me_var 2) ma_nil)))))) (mss_one (ms_ret (me_call q__told (hr.mono (by decide)) hgd (by rfl) 1 rfl b__told_1 hx (ma_t (me_var 1) ma_nil)))))))
theorem kn__law_lists (T : Txt K mg) (q__law_common : Kn PySem.Challenge.pw_carryoffice_k11_whole_ratios_reckoned w K mg base 1 "_law_common" "_law_common" (top 45) ["one", "other"] none f__law_common) (q__law_ratio : Kn PySem.Challenge.pw_carryoffice_k11_whole_ratios_reckoned w K mg base 2 "_law_ratio" "_law_ratio" (top 46) ["number", "under"] none f__law_ratio) (q_whole_row : Kn PySem.Challenge.pw_carryoffice_k11_whole_ratios_reckoned w K mg base 4 "whole_row" "whole_row" (top 40) ["ratios"] none f_whole_row) (q_common_under : Kn PySem.Challenge.pw_carryoffice_k11_whole_ratios_reckoned w K mg base 4 "common_under" "common_under" (top 39) ["ratios"] none f_common_under) (q_sum_of : Kn PySem.Challenge.pw_carryoffice_k11_whole_ratios_reckoned w K mg base 4 "sum_of" "sum_of" (top 35) ["ratios"] none f_sum_of) {x : Str} {f : Addr} {fd : FuncData} (hm : mg x = some (.ref f)) (F : Fun K "_law_lists" "_law_lists" (top 53) f fd) : Kn PySem.Challenge.pw_carryoffice_k11_whole_ratios_reckoned w K mg base 5 x "_law_lists" (top 53) ["pot", "ratios"] none f__law_lists :=
  kn_def F hm sc__law_lists rfl fun cdv A outer s H E hr hgd => by
    have hx : Passes (L2.CX PySem.Challenge.pw_carryoffice_k11_whole_ratios_reckoned w) (cxOf (L2.CX PySem.Challenge.pw_carryoffice_k11_whole_ratios_reckoned w) PySem.Challenge.pw_carryoffice_k11_whole_ratios_reckoned w K mg base ["pot", "ratios", "number", "under", "least", "ratio", "due", "kept", "told"] "_law_lists" (defScope (top 53)) f cdv A outer s H E) E := passes_call (takes_of rfl rfl rfl rfl) fun _ _ _ _ h => h
    exact (mss_cons (ms_asgG (me_tup (ma_v me_int (ma_v me_int (ma_v me_int ma_nil)))) (mg_tupS rfl (mg_cons rfl (fun _ _ _ _ _ => trivial) (mg_name (fun _ _ => trivial) sc__law_lists.nd rfl (Or.inl rfl)) (mg_cons rfl (fun _ _ _ _ _ => trivial) (mg_name (fun _ _ => trivial) sc__law_lists.nd rfl (Or.inl rfl)) (mg_cons rfl (fun _ _ _ _ _ => trivial) (mg_name (fun _ _ => trivial) sc__law_lists.nd rfl (Or.inr rfl)) (mg_nil (fun _ => trivial))))))) (mss_cons (ms_forC (passes_of rfl) rfl (mi_data (me_var 1)) (mg_name (fun _ _ => trivial) sc__law_lists.nd rfl (Or.inl rfl)) (mss_cons (ms_par rfl sc__law_lists.nd 2 3 (pe_bin op_addA bin_addA (pe_bin op_mulA bin_mulA (me_var 2) (me_ix (me_var 5) me_int)) (pe_bin op_mulA bin_mulA (me_ix (me_var 5) me_int) (me_var 3))) (pe_bin op_mulA bin_mulA (me_var 3) (me_ix (me_var 5) me_int))) (mss_one (ms_set sc__law_lists.nd rfl (Or.inr rfl) (pe_bin op_fdivA bin_fdivA (pe_bin op_mulA bin_mulA (me_var 4) (me_ix (me_var 5) me_int)) (me_call q__law_common (hr.mono (by decide)) hgd (by rfl) 2 rfl b__law_common_2 hx (ma_t (me_var 4) (ma_t (me_ix (me_var 5) me_int) ma_nil)))))))) (mss_cons (ms_set sc__law_lists.nd rfl (Or.inl rfl) (me_lst (ma_v (me_call q__law_ratio (hr.mono (by decide)) hgd (by rfl) 2 rfl b__law_ratio_2 hx (ma_t (me_var 2) (ma_t (me_var 3) ma_nil))) (ma_v (me_var 4) (ma_v (me_tup (ma_v (me_callT call_tuple_of cal_tuple (by rfl) T.b_tuple rfl (ma_t (me_lc rfl sc__law_lists.nd (mi_data (me_var 1)) (own := [("ratio", 5)]) (blkOk_by (by rfl)) (fun _ _ _ _ _ => (mg_name (fun _ _ => wipe_set (by decide)) sc__law_lists.nd rfl (Or.inl rfl))) (fun _ _ _ _ _ => mts_nil) (fun _ _ _ _ _ => (pe_bin op_mulA bin_mulA (me_ix (me_var 5) me_int) (pe_bin op_fdivA bin_fdivA (me_var 4) (me_ix (me_var 5) me_int))))) ma_nil)) (ma_v (me_var 4) ma_nil))) ma_nil))))) (mss_cons (ms_set sc__law_lists.nd rfl (Or.inl rfl) (me_callB (cr_repr hgd (hr.units70)) cal_repr (by rfl) T.b_repr rfl (ma_t (me_var 1) ma_nil))) (mss_cons (ms_set sc__law_lists.nd rfl (Or.inl rfl) (me_lst (ma_v (me_call q_sum_of (hr.mono (by decide)) hgd (by rfl) 1 rfl b_sum_of_1 hx (ma_t (me_var 1) ma_nil)) (ma_v (me_call q_common_under (hr.mono (by decide)) hgd (by rfl) 1 rfl b_common_under_1 hx (ma_t (me_callT call_tuple_of cal_tuple (by rfl) T.b_tuple rfl (ma_t (me_var 1) ma_nil)) ma_nil)) (ma_v (me_callK0 q_whole_row (hr.mono (by decide)) hgd (by rfl) b_whole_row_0_ratios hx (fun rs h => match rs, h with | [_], _ => rfl) (mk_cons (me_var 1) mk_nil)) ma_nil))))) (mss_cons (ms_if ((mt_or (mt_cmp (op_neS hr.units64) bin_neS (me_callB (cr_repr hgd (hr.units70)) cal_repr (by rfl) T.b_repr rfl (ma_t (me_var 8) ma_nil)) (me_callB (cr_repr hgd (hr.units70)) cal_repr (by rfl) T.b_repr rfl (ma_t (me_var 6) ma_nil))) (mt_or1 (mt_cmp (op_neS hr.units64) bin_neS (me_callB (cr_repr hgd (hr.units70)) cal_repr (by rfl) T.b_repr rfl (ma_t (me_var 1) ma_nil)) (me_var 7))))).pt (mss_one (ms_ret me_bl)) mss_nil) (mss_one (ms_ret (pe_cmp2 (op_eqS hr.units64) bin_eqS (me_callB (cr_repr hgd (hr.units70)) cal_repr (by rfl) T.b_repr rfl (ma_t (me_lst (ma_v (me_callK0 q_sum_of (hr.mono (by decide)) hgd (by rfl) b_sum_of_0_ratios hx (fun rs h => match rs, h with | [_], _ => rfl) (mk_cons (me_rev (me_var 1)) mk_nil)) (ma_v (me_callK0 q_common_under (hr.mono (by decide)) hgd (by rfl) b_common_under_0_ratios hx (fun rs h => match rs, h with | [_], _ => rfl) (mk_cons (me_var 1) mk_nil)) (ma_v (me_call q_whole_row (hr.mono (by decide)) hgd (by rfl) 1 rfl b_whole_row_1 hx (ma_t (me_callT call_tuple_of cal_tuple (by rfl) T.b_tuple rfl (ma_t (me_var 1) ma_nil)) ma_nil)) ma_nil)))) ma_nil)) (me_callB (cr_repr hgd (hr.units70)) cal_repr (by rfl) T.b_repr rfl (ma_t (me_var 6) ma_nil)) (by with_unfolding_all rfl))))))))))
theorem kn__law_list (T : Txt K mg) (q__law_draw : Kn PySem.Challenge.pw_carryoffice_k11_whole_ratios_reckoned w K mg base 1 "_law_draw" "_law_draw" (top 43) ["pot", "size"] (some 0) f__law_draw) (q__law_second : Kn PySem.Challenge.pw_carryoffice_k11_whole_ratios_reckoned w K mg base 5 "_law_second" "_law_second" (top 49) ["pot", "ratio"] (some 0) f__law_second) (q__law_pick : Kn PySem.Challenge.pw_carryoffice_k11_whole_ratios_reckoned w K mg base 2 "_law_pick" "_law_pick" (top 44) ["pot", "some"] (some 0) f__law_pick) (q__law_ratio : Kn PySem.Challenge.pw_carryoffice_k11_whole_ratios_reckoned w K mg base 2 "_law_ratio" "_law_ratio" (top 46) ["number", "under"] none f__law_ratio) (q__law_number : Kn PySem.Challenge.pw_carryoffice_k11_whole_ratios_reckoned w K mg base 3 "_law_number" "_law_number" (top 47) ["pot"] (some 0) f__law_number) {x : Str} {f : Addr} {fd : FuncData} (hm : mg x = some (.ref f)) (F : Fun K "_law_list" "_law_list" (top 52) f fd) : Kn PySem.Challenge.pw_carryoffice_k11_whole_ratios_reckoned w K mg base 6 x "_law_list" (top 52) ["pot"] (some 0) f__law_list :=
  kn_def F hm sc__law_list rfl fun cdv A outer s H E hr hgd => by
    have hx : Passes (L2.CX PySem.Challenge.pw_carryoffice_k11_whole_ratios_reckoned w) (cxOf (L2.CX PySem.Challenge.pw_carryoffice_k11_whole_ratios_reckoned w) PySem.Challenge.pw_carryoffice_k11_whole_ratios_reckoned w K mg base ["pot", "found", "turn"] "_law_list" (defScope (top 52)) f cdv A outer s H E) E := passes_call (takes_of rfl rfl rfl rfl) fun _ _ _ _ h => h
    exact (mss_cons (ms_set sc__law_list.nd rfl (Or.inl rfl) (me_lst ma_nil)) (mss_cons (ms_forC (passes_of rfl) rfl (mi_rng1 (by rfl) T.b_range (ma_t (me_call q__law_draw (hr.mono (by decide)) hgd (by rfl) 2 rfl b__law_draw_2 hx (ma_t (me_var 0) (ma_t me_int ma_nil))) ma_nil)) (mg_name (fun _ _ => trivial) sc__law_list.nd rfl (Or.inl rfl)) (mss_one (ms_if ((mt_and (mt_cmp (op_neS hr.units64) bin_neS (me_var 1) (me_lst ma_nil)) (mt_and1 (mt_cmp (op_eqS hr.units64) bin_eqS (me_call q__law_draw (hr.mono (by decide)) hgd (by rfl) 2 rfl b__law_draw_2 hx (ma_t (me_var 0) (ma_t me_int ma_nil))) me_int)))).pt (mss_one (ms_append (pv 1) (me_call q__law_second (hr.mono (by decide)) hgd (by rfl) 2 rfl b__law_second_2 hx (ma_t (me_var 0) (ma_t (me_call q__law_pick (hr.mono (by decide)) hgd (by rfl) 2 rfl b__law_pick_2 hx (ma_t (me_var 0) (ma_t (me_var 1) ma_nil))) ma_nil))))) (mss_one (ms_append (pv 1) (me_call q__law_ratio (hr.mono (by decide)) hgd (by rfl) 2 rfl b__law_ratio_2 hx (ma_t (me_call q__law_number (hr.mono (by decide)) hgd (by rfl) 1 rfl b__law_number_1 hx (ma_t (me_var 0) ma_nil)) (ma_t (pe_bin op_addA bin_addA me_int (me_call q__law_draw (hr.mono (by decide)) hgd (by rfl) 2 rfl b__law_draw_2 hx (ma_t (me_var 0) (ma_t (me_call q__law_pick (hr.mono (by decide)) hgd (by rfl) 2 rfl b__law_pick_2 hx (ma_t (me_var 0) (ma_t (me_lst (ma_v me_int (ma_v me_int (ma_v me_int ma_nil)))) ma_nil))) ma_nil)))) ma_nil)))))))) (mss_one (ms_ret (me_var 1)))))
theorem kn_made (T : Txt K mg) (q_is_integer : Kn PySem.Challenge.pw_carryoffice_k11_whole_ratios_reckoned w K mg base 1 "is_integer" "is_integer" (top 11) ["value"] none f_is_integer) (q__told : Kn PySem.Challenge.pw_carryoffice_k11_whole_ratios_reckoned w K mg base 1 "_told" "_told" (top 26) ["ratio"] none f__told) (q_fraction : Kn PySem.Challenge.pw_carryoffice_k11_whole_ratios_reckoned w K mg base 1 "fraction" "fraction" (top 20) ["number", "under"] none f_fraction) {x : Str} {f : Addr} {fd : FuncData} (hm : mg x = some (.ref f)) (F : Fun K "made" "made" (top 29) f fd) : Kn PySem.Challenge.pw_carryoffice_k11_whole_ratios_reckoned w K mg base 2 x "made" (top 29) ["number", "under"] none f_made :=
  kn_def F hm sc_made rfl fun cdv A outer s H E hr hgd => by
    have hx : Passes (L2.CX PySem.Challenge.pw_carryoffice_k11_whole_ratios_reckoned w) (cxOf (L2.CX PySem.Challenge.pw_carryoffice_k11_whole_ratios_reckoned w) PySem.Challenge.pw_carryoffice_k11_whole_ratios_reckoned w K mg base ["number", "under"] "made" (defScope (top 29)) f cdv A outer s H E) E := passes_call (takes_of rfl rfl rfl rfl) fun _ _ _ _ h => h
    exact (mss_cons (ms_if (mt_not (mt_val (me_call q_is_integer (hr.mono (by decide)) hgd (by rfl) 1 rfl b_is_integer_1 hx (ma_t (me_var 0) ma_nil)))) (mss_one ms_never) mss_nil) (mss_cons (ms_if (mt_not (mt_val (me_call q_is_integer (hr.mono (by decide)) hgd (by rfl) 1 rfl b_is_integer_1 hx (ma_t (me_var 1) ma_nil)))) (mss_one ms_never) mss_nil) (mss_cons (ms_if (mt_cmp (op_eqS hr.units64) bin_eqS (me_var 1) me_int) (mss_one ms_never) mss_nil) (mss_one (ms_ret (me_call q__told (hr.mono (by decide)) hgd (by rfl) 1 rfl b__told_1 hx (ma_t (me_call q_fraction (hr.mono (by decide)) hgd (by rfl) 2 rfl b_fraction_2 hx (ma_t (me_var 0) (ma_t (me_var 1) ma_nil))) ma_nil)))))))
theorem kn__law_any (T : Txt K mg) (q__law_drawn : Kn PySem.Challenge.pw_carryoffice_k11_whole_ratios_reckoned w K mg base 4 "_law_drawn" "_law_drawn" (top 48) ["pot"] (some 0) f__law_drawn) (q__law_ratio : Kn PySem.Challenge.pw_carryoffice_k11_whole_ratios_reckoned w K mg base 2 "_law_ratio" "_law_ratio" (top 46) ["number", "under"] none f__law_ratio) (q__law_draw : Kn PySem.Challenge.pw_carryoffice_k11_whole_ratios_reckoned w K mg base 1 "_law_draw" "_law_draw" (top 43) ["pot", "size"] (some 0) f__law_draw) (q__law_common : Kn PySem.Challenge.pw_carryoffice_k11_whole_ratios_reckoned w K mg base 1 "_law_common" "_law_common" (top 45) ["one", "other"] none f__law_common) (q_is_ratio : Kn PySem.Challenge.pw_carryoffice_k11_whole_ratios_reckoned w K mg base 2 "is_ratio" "is_ratio" (top 18) ["value"] none f_is_ratio) (q_made : Kn PySem.Challenge.pw_carryoffice_k11_whole_ratios_reckoned w K mg base 2 "made" "made" (top 29) ["number", "under"] none f_made) {x : Str} {f : Addr} {fd : FuncData} (hm : mg x = some (.ref f)) (F : Fun K "_law_any" "_law_any" (top 54) f fd) : Kn PySem.Challenge.pw_carryoffice_k11_whole_ratios_reckoned w K mg base 5 x "_law_any" (top 54) ["pot"] (some 0) f__law_any :=
  kn_def F hm sc__law_any rfl fun cdv A outer s H E hr hgd => by
    have hx : Passes (L2.CX PySem.Challenge.pw_carryoffice_k11_whole_ratios_reckoned w) (cxOf (L2.CX PySem.Challenge.pw_carryoffice_k11_whole_ratios_reckoned w) PySem.Challenge.pw_carryoffice_k11_whole_ratios_reckoned w K mg base ["pot", "drawn", "right", "by", "some", "value", "is_due", "edge", "told"] "_law_any" (defScope (top 54)) f cdv A outer s H E) E := passes_call (takes_of rfl rfl rfl rfl) fun _ _ _ _ h => h
    exact (mss_cons (ms_set sc__law_any.nd rfl (Or.inl rfl) (me_call q__law_drawn (hr.mono (by decide)) hgd (by rfl) 1 rfl b__law_drawn_1 hx (ma_t (me_var 0) ma_nil))) (mss_cons (ms_set sc__law_any.nd rfl (Or.inl rfl) (me_call q__law_ratio (hr.mono (by decide)) hgd (by rfl) 2 rfl b__law_ratio_2 hx (ma_t (me_ix (me_var 1) me_int) (ma_t (me_ix (me_var 1) me_int) ma_nil)))) (mss_cons (ms_set sc__law_any.nd rfl (Or.inl rfl) (pe_bin op_addA bin_addA me_int (me_call q__law_draw (hr.mono (by decide)) hgd (by rfl) 2 rfl b__law_draw_2 hx (ma_t (me_var 0) (ma_t me_int ma_nil))))) (mss_cons (ms_set sc__law_any.nd rfl (Or.inl rfl) (me_lst (ma_v (me_tup (ma_v (me_var 1) (ma_v me_non ma_nil))) (ma_v (me_tup (ma_v (me_var 2) (ma_v me_bl ma_nil))) (ma_v (me_tup (ma_v (me_tup (ma_v (pe_bin op_mulA bin_mulA (me_ix (me_var 2) me_int) (me_var 3)) (ma_v (pe_bin op_mulA bin_mulA (me_ix (me_var 2) me_int) (me_var 3)) ma_nil))) (ma_v me_bl ma_nil))) (ma_v (me_tup (ma_v (me_tup (ma_v (me_ix (me_var 2) me_int) (ma_v (me_neg (me_ix (me_var 2) me_int)) ma_nil))) (ma_v me_bl ma_nil))) (ma_v (me_tup (ma_v (me_lst (ma_v (me_ix (me_var 2) me_int) (ma_v (me_ix (me_var 2) me_int) ma_nil))) (ma_v me_bl ma_nil))) (ma_v (me_tup (ma_v (me_tup (ma_v (me_ix (me_var 2) me_int) ma_nil)) (ma_v me_bl ma_nil))) (ma_v (me_tup (ma_v (pe_bin op_addA bin_addA (me_var 2) (me_tup (ma_v me_int ma_nil))) (ma_v me_bl ma_nil))) (ma_v (me_tup (ma_v (me_tup (ma_v (me_ix (me_var 2) me_int) (ma_v me_int ma_nil))) (ma_v me_bl ma_nil))) (ma_v (me_tup (ma_v (me_tup (ma_v me_bl (ma_v me_int ma_nil))) (ma_v me_bl ma_nil))) (ma_v (me_tup (ma_v (me_tup (ma_v me_int (ma_v me_bl ma_nil))) (ma_v me_bl ma_nil))) (ma_v (me_tup (ma_v (me_tup (ma_v me_int (ma_v me_int ma_nil))) (ma_v me_bl ma_nil))) (ma_v (me_tup (ma_v (me_tup (ma_v me_int (ma_v (me_var 3) ma_nil))) (ma_v me_bl ma_nil))) (ma_v (me_tup (ma_v (me_tup (ma_v me_bl (ma_v me_int ma_nil))) (ma_v me_bl ma_nil))) (ma_v (me_tup (ma_v (me_tup (ma_v (me_callT cr_str cal_str (by rfl) T.b_str rfl (ma_t (me_ix (me_var 2) me_int) ma_nil)) (ma_v (me_ix (me_var 2) me_int) ma_nil))) (ma_v me_bl ma_nil))) (ma_v (me_tup (ma_v (me_tup (ma_v (me_var 2) (ma_v me_int ma_nil))) (ma_v me_bl ma_nil))) (ma_v (me_tup (ma_v (me_tup (ma_v me_non (ma_v me_int ma_nil))) (ma_v me_bl ma_nil))) (ma_v (me_tup (ma_v (me_ix (me_var 2) me_int) (ma_v me_bl ma_nil))) ma_nil))))))))))))))))))) (mss_cons (ms_forC (passes_of rfl) rfl (mi_data (me_var 4)) (mg_tupS rfl (mg_cons rfl (fun _ _ _ _ _ => trivial) (mg_name (fun _ _ => trivial) sc__law_any.nd rfl (Or.inl rfl)) (mg_cons rfl (fun _ _ _ _ _ => trivial) (mg_name (fun _ _ => trivial) sc__law_any.nd rfl (Or.inl rfl)) (mg_nil (fun _ => trivial))))) (mss_cons (ms_if (mt_cmp op_isA bin_isA (me_var 6) me_non) (mss_one (ms_set sc__law_any.nd rfl (Or.inl rfl) (me_and (pe_cmp2 op_gt bin_gtA (me_ix (me_var 5) me_int) me_int (by with_unfolding_all rfl)) (me_one (pe_cmp2 (op_eqS hr.units64) bin_eqS (me_call q__law_common (hr.mono (by decide)) hgd (by rfl) 2 rfl b__law_common_2 hx (ma_t (me_ix (me_var 5) me_int) (ma_t (me_ix (me_var 5) me_int) ma_nil))) me_int (by with_unfolding_all rfl)))))) mss_nil) (mss_one (ms_if (mt_cmp (op_neS hr.units64) bin_neS (me_callB (cr_repr hgd (hr.units70)) cal_repr (by rfl) T.b_repr rfl (ma_t (me_call q_is_ratio (hr.mono (by decide)) hgd (by rfl) 1 rfl b_is_ratio_1 hx (ma_t (me_var 5) ma_nil)) ma_nil)) (me_callB (cr_repr hgd (hr.units70)) cal_repr (by rfl) T.b_repr rfl (ma_t (me_var 6) ma_nil))) (mss_one (ms_ret me_bl)) mss_nil)))) (mss_cons (ms_set sc__law_any.nd rfl (Or.inl rfl) (pe_bin op_powA bin_powA (pe_bin op_powA bin_powA me_int me_int) me_int)) (mss_cons (ms_set sc__law_any.nd rfl (Or.inl rfl) (me_lst (ma_v (me_call q_is_ratio (hr.mono (by decide)) hgd (by rfl) 1 rfl b_is_ratio_1 hx (ma_t (me_tup (ma_v (pe_bin op_sub bin_subA (me_var 7) me_int) (ma_v me_int ma_nil))) ma_nil)) (ma_v (me_call q_is_ratio (hr.mono (by decide)) hgd (by rfl) 1 rfl b_is_ratio_1 hx (ma_t (me_tup (ma_v (me_var 7) (ma_v me_int ma_nil))) ma_nil)) (ma_v (me_call q_is_ratio (hr.mono (by decide)) hgd (by rfl) 1 rfl b_is_ratio_1 hx (ma_t (me_tup (ma_v (pe_bin op_sub bin_subA me_int (me_var 7)) (ma_v (pe_bin op_sub bin_subA (me_var 7) me_int) ma_nil))) ma_nil)) (ma_v (me_call q_is_ratio (hr.mono (by decide)) hgd (by rfl) 1 rfl b_is_ratio_1 hx (ma_t (me_tup (ma_v (me_neg (me_var 7)) (ma_v me_int ma_nil))) ma_nil)) (ma_v (me_call q_is_ratio (hr.mono (by decide)) hgd (by rfl) 1 rfl b_is_ratio_1 hx (ma_t (me_tup (ma_v me_int (ma_v (me_var 7) ma_nil))) ma_nil)) (ma_v (me_callK0 q_is_ratio (hr.mono (by decide)) hgd (by rfl) b_is_ratio_0_value hx (fun rs h => match rs, h with | [_], _ => rfl) (mk_cons (me_tup (ma_v me_int (ma_v (pe_bin op_sub bin_subA (me_var 7) me_int) ma_nil))) mk_nil)) ma_nil)))))))) (mss_cons (ms_if (mt_cmp (op_neS hr.units64) bin_neS (me_callB (cr_repr hgd (hr.units70)) cal_repr (by rfl) T.b_repr rfl (ma_t (me_var 8) ma_nil)) (me_callB (cr_repr hgd (hr.units70)) cal_repr (by rfl) T.b_repr rfl (ma_t (me_lst (ma_v me_bl (ma_v me_bl (ma_v me_bl (ma_v me_bl (ma_v me_bl (ma_v me_bl ma_nil))))))) ma_nil))) (mss_one (ms_ret me_bl)) mss_nil) (mss_one (ms_ret (pe_cmp2 (op_eqS hr.units64) bin_eqS (me_callB (cr_repr hgd (hr.units70)) cal_repr (by rfl) T.b_repr rfl (ma_t (me_lst (ma_v (me_call q_made (hr.mono (by decide)) hgd (by rfl) 2 rfl b_made_2 hx (ma_t (me_ix (me_var 1) me_int) (ma_t (me_ix (me_var 1) me_int) ma_nil))) (ma_v (me_callK0 q_made (hr.mono (by decide)) hgd (by rfl) b_made_0_under_number hx (fun rs h => match rs, h with | [_, _], _ => rfl) (mk_cons (me_neg (me_ix (me_var 1) me_int)) (mk_cons (me_ix (me_var 1) me_int) mk_nil))) ma_nil))) ma_nil)) (me_callB (cr_repr hgd (hr.units70)) cal_repr (by rfl) T.b_repr rfl (ma_t (me_lst (ma_v (me_var 2) (ma_v (me_tup (ma_v (me_neg (me_ix (me_var 2) me_int)) (ma_v (me_ix (me_var 2) me_int) ma_nil))) ma_nil))) ma_nil)) (by with_unfolding_all rfl))))))))))))
theorem kn_law (T : Txt K mg) (q__law_pot : Kn PySem.Challenge.pw_carryoffice_k11_whole_ratios_reckoned w K mg base 1 "_law_pot" "_law_pot" (top 42) ["script", "k"] none f__law_pot) (q__law_drawn : Kn PySem.Challenge.pw_carryoffice_k11_whole_ratios_reckoned w K mg base 4 "_law_drawn" "_law_drawn" (top 48) ["pot"] (some 0) f__law_drawn) (q__law_ratio : Kn PySem.Challenge.pw_carryoffice_k11_whole_ratios_reckoned w K mg base 2 "_law_ratio" "_law_ratio" (top 46) ["number", "under"] none f__law_ratio) (q__law_second : Kn PySem.Challenge.pw_carryoffice_k11_whole_ratios_reckoned w K mg base 5 "_law_second" "_law_second" (top 49) ["pot", "ratio"] (some 0) f__law_second) (q__law_two : Kn PySem.Challenge.pw_carryoffice_k11_whole_ratios_reckoned w K mg base 6 "_law_two" "_law_two" (top 50) ["near", "far"] none f__law_two) (q__law_one : Kn PySem.Challenge.pw_carryoffice_k11_whole_ratios_reckoned w K mg base 5 "_law_one" "_law_one" (top 51) ["ratio"] none f__law_one) (q__law_lists : Kn PySem.Challenge.pw_carryoffice_k11_whole_ratios_reckoned w K mg base 5 "_law_lists" "_law_lists" (top 53) ["pot", "ratios"] none f__law_lists) (q__law_list : Kn PySem.Challenge.pw_carryoffice_k11_whole_ratios_reckoned w K mg base 6 "_law_list" "_law_list" (top 52) ["pot"] (some 0) f__law_list) (q__law_any : Kn PySem.Challenge.pw_carryoffice_k11_whole_ratios_reckoned w K mg base 5 "_law_any" "_law_any" (top 54) ["pot"] (some 0) f__law_any) {x : Str} {f : Addr} {fd : FuncData} (hm : mg x = some (.ref f)) (F : Fun K "law" "law" (top 55) f fd) : Kn PySem.Challenge.pw_carryoffice_k11_whole_ratios_reckoned w K mg base 7 x "law" (top 55) ["script"] none f_law :=
  kn_def F hm sc_law rfl fun cdv A outer s H E hr hgd => by
    have hx : Passes (L2.CX PySem.Challenge.pw_carryoffice_k11_whole_ratios_reckoned w) (cxOf (L2.CX PySem.Challenge.pw_carryoffice_k11_whole_ratios_reckoned w) PySem.Challenge.pw_carryoffice_k11_whole_ratios_reckoned w K mg base ["script", "pot", "turn", "drawn", "near", "far"] "law" (defScope (top 55)) f cdv A outer s H E) E := passes_call (takes_of rfl rfl rfl rfl) fun _ _ _ _ h => h
    exact (mss_cons (ms_set sc_law.nd rfl (Or.inl rfl) (me_call q__law_pot (hr.mono (by decide)) hgd (by rfl) 2 rfl b__law_pot_2 hx (ma_t (me_var 0) (ma_t me_int ma_nil)))) (mss_cons (ms_forC (passes_of rfl) rfl (mi_rng1 (by rfl) T.b_range (ma_t me_int ma_nil)) (mg_name (fun _ _ => trivial) sc_law.nd rfl (Or.inl rfl)) (mss_cons (ms_set sc_law.nd rfl (Or.inl rfl) (me_call q__law_drawn (hr.mono (by decide)) hgd (by rfl) 1 rfl b__law_drawn_1 hx (ma_t (me_var 1) ma_nil))) (mss_cons (ms_set sc_law.nd rfl (Or.inl rfl) (me_call q__law_ratio (hr.mono (by decide)) hgd (by rfl) 2 rfl b__law_ratio_2 hx (ma_t (me_ix (me_var 3) me_int) (ma_t (me_ix (me_var 3) me_int) ma_nil)))) (mss_cons (ms_set sc_law.nd rfl (Or.inl rfl) (me_call q__law_second (hr.mono (by decide)) hgd (by rfl) 2 rfl b__law_second_2 hx (ma_t (me_var 1) (ma_t (me_var 4) ma_nil)))) (mss_one (ms_if ((mt_or (mt_not (mt_val (me_call q__law_two (hr.mono (by decide)) hgd (by rfl) 2 rfl b__law_two_2 hx (ma_t (me_var 4) (ma_t (me_var 5) ma_nil))))) (mt_or (mt_not (mt_val (me_call q__law_one (hr.mono (by decide)) hgd (by rfl) 1 rfl b__law_one_1 hx (ma_t (me_var 4) ma_nil)))) (mt_or1 (mt_not (mt_val (me_call q__law_one (hr.mono (by decide)) hgd (by rfl) 1 rfl b__law_one_1 hx (ma_t (me_var 5) ma_nil)))))))).pt (mss_one (ms_ret me_bl)) mss_nil)))))) (mss_cons (ms_if ((mt_or (mt_not (mt_val (me_call q__law_one (hr.mono (by decide)) hgd (by rfl) 1 rfl b__law_one_1 hx (ma_t (me_tup (ma_v me_int (ma_v me_int ma_nil))) ma_nil)))) (mt_or (mt_not (mt_val (me_call q__law_one (hr.mono (by decide)) hgd (by rfl) 1 rfl b__law_one_1 hx (ma_t (me_tup (ma_v (me_neg me_int) (ma_v me_int ma_nil))) ma_nil)))) (mt_or (mt_not (mt_val (me_call q__law_two (hr.mono (by decide)) hgd (by rfl) 2 rfl b__law_two_2 hx (ma_t (me_tup (ma_v me_int (ma_v me_int ma_nil))) (ma_t (me_tup (ma_v me_int (ma_v me_int ma_nil))) ma_nil))))) (mt_or1 (mt_not (mt_val (me_call q__law_two (hr.mono (by decide)) hgd (by rfl) 2 rfl b__law_two_2 hx (ma_t (me_tup (ma_v me_int (ma_v me_int ma_nil))) (ma_t (me_tup (ma_v me_int (ma_v me_int ma_nil))) ma_nil)))))))))).pt (mss_one (ms_ret me_bl)) mss_nil) (mss_one (ms_ret (me_and (me_call q__law_lists (hr.mono (by decide)) hgd (by rfl) 2 rfl b__law_lists_2 hx (ma_t (me_var 1) (ma_t (me_call q__law_list (hr.mono (by decide)) hgd (by rfl) 1 rfl b__law_list_1 hx (ma_t (me_var 1) ma_nil)) ma_nil))) (me_and (me_call q__law_lists (hr.mono (by decide)) hgd (by rfl) 2 rfl b__law_lists_2 hx (ma_t (me_var 1) (ma_t (me_lst ma_nil) ma_nil))) (me_one (me_call q__law_any (hr.mono (by decide)) hgd (by rfl) 1 rfl b__law_any_1 hx (ma_t (me_var 1) ma_nil))))))))))
end
theorem all {w : World} {K : PySem.W.Frag} {mg : Str → Option Value} {fa : Addr} (hfa : mg "law" = some (.ref fa)) (T : Txt K mg)
    (d__law_draw : ∃ (f : Addr) (fd : FuncData), mg "_law_draw" = some (.ref f) ∧ Fun K "_law_draw" "_law_draw" (top 43) f fd)
    (d__law_pick : ∃ (f : Addr) (fd : FuncData), mg "_law_pick" = some (.ref f) ∧ Fun K "_law_pick" "_law_pick" (top 44) f fd)
    (d__law_number : ∃ (f : Addr) (fd : FuncData), mg "_law_number" = some (.ref f) ∧ Fun K "_law_number" "_law_number" (top 47) f fd)
    (d__law_common : ∃ (f : Addr) (fd : FuncData), mg "_law_common" = some (.ref f) ∧ Fun K "_law_common" "_law_common" (top 45) f fd)
    (d__law_ratio : ∃ (f : Addr) (fd : FuncData), mg "_law_ratio" = some (.ref f) ∧ Fun K "_law_ratio" "_law_ratio" (top 46) f fd)
    (d__law_drawn : ∃ (f : Addr) (fd : FuncData), mg "_law_drawn" = some (.ref f) ∧ Fun K "_law_drawn" "_law_drawn" (top 48) f fd)
    (d_is_row : ∃ (f : Addr) (fd : FuncData), mg "is_row" = some (.ref f) ∧ Fun K "is_row" "is_row" (top 13) f fd)
    (d_is_integer : ∃ (f : Addr) (fd : FuncData), mg "is_integer" = some (.ref f) ∧ Fun K "is_integer" "is_integer" (top 11) f fd)
    (d_is_ratio : ∃ (f : Addr) (fd : FuncData), mg "is_ratio" = some (.ref f) ∧ Fun K "is_ratio" "is_ratio" (top 18) f fd)
    (d_want_ratio : ∃ (f : Addr) (fd : FuncData), mg "want_ratio" = some (.ref f) ∧ Fun K "want_ratio" "want_ratio" (top 19) f fd)
    (d__want_two : ∃ (f : Addr) (fd : FuncData), mg "_want_two" = some (.ref f) ∧ Fun K "_want_two" "_want_two" (top 27) f fd)
    (d_is_less : ∃ (f : Addr) (fd : FuncData), mg "is_less" = some (.ref f) ∧ Fun K "is_less" "is_less" (top 25) f fd)
    (d_fraction : ∃ (f : Addr) (fd : FuncData), mg "fraction" = some (.ref f) ∧ Fun K "fraction" "fraction" (top 20) f fd)
    (d__told : ∃ (f : Addr) (fd : FuncData), mg "_told" = some (.ref f) ∧ Fun K "_told" "_told" (top 26) f fd)
    (d_product : ∃ (f : Addr) (fd : FuncData), mg "product" = some (.ref f) ∧ Fun K "product" "product" (top 23) f fd)
    (d_plus : ∃ (f : Addr) (fd : FuncData), mg "plus" = some (.ref f) ∧ Fun K "plus" "plus" (top 21) f fd)
    (d_minus : ∃ (f : Addr) (fd : FuncData), mg "minus" = some (.ref f) ∧ Fun K "minus" "minus" (top 22) f fd)
    (d_quotient : ∃ (f : Addr) (fd : FuncData), mg "quotient" = some (.ref f) ∧ Fun K "quotient" "quotient" (top 24) f fd)
    (d_compared : ∃ (f : Addr) (fd : FuncData), mg "compared" = some (.ref f) ∧ Fun K "compared" "compared" (top 34) f fd)
    (d_times : ∃ (f : Addr) (fd : FuncData), mg "times" = some (.ref f) ∧ Fun K "times" "times" (top 32) f fd)
    (d_less : ∃ (f : Addr) (fd : FuncData), mg "less" = some (.ref f) ∧ Fun K "less" "less" (top 31) f fd)
    (d_added : ∃ (f : Addr) (fd : FuncData), mg "added" = some (.ref f) ∧ Fun K "added" "added" (top 30) f fd)
    (d_over : ∃ (f : Addr) (fd : FuncData), mg "over" = some (.ref f) ∧ Fun K "over" "over" (top 33) f fd)
    (d_floor_of : ∃ (f : Addr) (fd : FuncData), mg "floor_of" = some (.ref f) ∧ Fun K "floor_of" "floor_of" (top 36) f fd)
    (d_ceiling_of : ∃ (f : Addr) (fd : FuncData), mg "ceiling_of" = some (.ref f) ∧ Fun K "ceiling_of" "ceiling_of" (top 37) f fd)
    (d_is_list : ∃ (f : Addr) (fd : FuncData), mg "is_list" = some (.ref f) ∧ Fun K "is_list" "is_list" (top 12) f fd)
    (d__want_ratios : ∃ (f : Addr) (fd : FuncData), mg "_want_ratios" = some (.ref f) ∧ Fun K "_want_ratios" "_want_ratios" (top 28) f fd)
    (d_under_of : ∃ (f : Addr) (fd : FuncData), mg "under_of" = some (.ref f) ∧ Fun K "under_of" "under_of" (top 38) f fd)
    (d_whole_row : ∃ (f : Addr) (fd : FuncData), mg "whole_row" = some (.ref f) ∧ Fun K "whole_row" "whole_row" (top 40) f fd)
    (d_common_under : ∃ (f : Addr) (fd : FuncData), mg "common_under" = some (.ref f) ∧ Fun K "common_under" "common_under" (top 39) f fd)
    (d_sum_of : ∃ (f : Addr) (fd : FuncData), mg "sum_of" = some (.ref f) ∧ Fun K "sum_of" "sum_of" (top 35) f fd)
    (d__law_second : ∃ (f : Addr) (fd : FuncData), mg "_law_second" = some (.ref f) ∧ Fun K "_law_second" "_law_second" (top 49) f fd)
    (d_made : ∃ (f : Addr) (fd : FuncData), mg "made" = some (.ref f) ∧ Fun K "made" "made" (top 29) f fd)
    (d__law_pot : ∃ (f : Addr) (fd : FuncData), mg "_law_pot" = some (.ref f) ∧ Fun K "_law_pot" "_law_pot" (top 42) f fd)
    (d__law_two : ∃ (f : Addr) (fd : FuncData), mg "_law_two" = some (.ref f) ∧ Fun K "_law_two" "_law_two" (top 50) f fd)
    (d__law_one : ∃ (f : Addr) (fd : FuncData), mg "_law_one" = some (.ref f) ∧ Fun K "_law_one" "_law_one" (top 51) f fd)
    (d__law_lists : ∃ (f : Addr) (fd : FuncData), mg "_law_lists" = some (.ref f) ∧ Fun K "_law_lists" "_law_lists" (top 53) f fd)
    (d__law_list : ∃ (f : Addr) (fd : FuncData), mg "_law_list" = some (.ref f) ∧ Fun K "_law_list" "_law_list" (top 52) f fd)
    (d__law_any : ∃ (f : Addr) (fd : FuncData), mg "_law_any" = some (.ref f) ∧ Fun K "_law_any" "_law_any" (top 54) f fd)
    (d_law : ∃ (f : Addr) (fd : FuncData), mg "law" = some (.ref f) ∧ Fun K "law" "law" (top 55) f fd)
    : ∃ fd : FuncData, (∀ (s : Shared) (u : Value), BindsTo s fd ⟨[u], []⟩ [("script", u)]) ∧ ∀ base : Heap, K.In base → base.Ns mainGlobals mg → FnG PySem.Challenge.pw_carryoffice_k11_whole_ratios_reckoned w K mg base (L2.CX PySem.Challenge.pw_carryoffice_k11_whole_ratios_reckoned w) 7 fa fd ["script"] (spF K mg 1 none f_law) := by
  obtain ⟨a__law_draw, fd__law_draw, h__law_draw, F__law_draw⟩ := d__law_draw
  obtain ⟨a__law_pick, fd__law_pick, h__law_pick, F__law_pick⟩ := d__law_pick
  obtain ⟨a__law_number, fd__law_number, h__law_number, F__law_number⟩ := d__law_number
  obtain ⟨a__law_common, fd__law_common, h__law_common, F__law_common⟩ := d__law_common
  obtain ⟨a__law_ratio, fd__law_ratio, h__law_ratio, F__law_ratio⟩ := d__law_ratio
  obtain ⟨a__law_drawn, fd__law_drawn, h__law_drawn, F__law_drawn⟩ := d__law_drawn
  obtain ⟨a_is_row, fd_is_row, h_is_row, F_is_row⟩ := d_is_row
  obtain ⟨a_is_integer, fd_is_integer, h_is_integer, F_is_integer⟩ := d_is_integer
  obtain ⟨a_is_ratio, fd_is_ratio, h_is_ratio, F_is_ratio⟩ := d_is_ratio
  obtain ⟨a_want_ratio, fd_want_ratio, h_want_ratio, F_want_ratio⟩ := d_want_ratio
  obtain ⟨a__want_two, fd__want_two, h__want_two, F__want_two⟩ := d__want_two
  obtain ⟨a_is_less, fd_is_less, h_is_less, F_is_less⟩ := d_is_less
  obtain ⟨a_fraction, fd_fraction, h_fraction, F_fraction⟩ := d_fraction
  obtain ⟨a__told, fd__told, h__told, F__told⟩ := d__told
  obtain ⟨a_product, fd_product, h_product, F_product⟩ := d_product
  obtain ⟨a_plus, fd_plus, h_plus, F_plus⟩ := d_plus
  obtain ⟨a_minus, fd_minus, h_minus, F_minus⟩ := d_minus
  obtain ⟨a_quotient, fd_quotient, h_quotient, F_quotient⟩ := d_quotient
  obtain ⟨a_compared, fd_compared, h_compared, F_compared⟩ := d_compared
  obtain ⟨a_times, fd_times, h_times, F_times⟩ := d_times
  obtain ⟨a_less, fd_less, h_less, F_less⟩ := d_less
  obtain ⟨a_added, fd_added, h_added, F_added⟩ := d_added
  obtain ⟨a_over, fd_over, h_over, F_over⟩ := d_over
  obtain ⟨a_floor_of, fd_floor_of, h_floor_of, F_floor_of⟩ := d_floor_of
  obtain ⟨a_ceiling_of, fd_ceiling_of, h_ceiling_of, F_ceiling_of⟩ := d_ceiling_of
  obtain ⟨a_is_list, fd_is_list, h_is_list, F_is_list⟩ := d_is_list
  obtain ⟨a__want_ratios, fd__want_ratios, h__want_ratios, F__want_ratios⟩ := d__want_ratios
  obtain ⟨a_under_of, fd_under_of, h_under_of, F_under_of⟩ := d_under_of
  obtain ⟨a_whole_row, fd_whole_row, h_whole_row, F_whole_row⟩ := d_whole_row
  obtain ⟨a_common_under, fd_common_under, h_common_under, F_common_under⟩ := d_common_under
  obtain ⟨a_sum_of, fd_sum_of, h_sum_of, F_sum_of⟩ := d_sum_of
  obtain ⟨a__law_second, fd__law_second, h__law_second, F__law_second⟩ := d__law_second
  obtain ⟨a_made, fd_made, h_made, F_made⟩ := d_made
  obtain ⟨a__law_pot, fd__law_pot, h__law_pot, F__law_pot⟩ := d__law_pot
  obtain ⟨a__law_two, fd__law_two, h__law_two, F__law_two⟩ := d__law_two
  obtain ⟨a__law_one, fd__law_one, h__law_one, F__law_one⟩ := d__law_one
  obtain ⟨a__law_lists, fd__law_lists, h__law_lists, F__law_lists⟩ := d__law_lists
  obtain ⟨a__law_list, fd__law_list, h__law_list, F__law_list⟩ := d__law_list
  obtain ⟨a__law_any, fd__law_any, h__law_any, F__law_any⟩ := d__law_any
  obtain ⟨a_law, fd_law, h_law, F_law⟩ := d_law
  have e := hfa.symm.trans h_law
  cases e
  refine ⟨fd_law, fun s u => ?_, fun base _ _ => ?_⟩
  · obtain ⟨_, _, _, _, _, _, _, _, _, rfl, _, _⟩ := F_law.ex
    exact .of_eq rfl
  · have k__law_pot := kn__law_pot (base := base) (w := w) T  h__law_pot F__law_pot
    have k__law_draw := kn__law_draw (base := base) (w := w) T  h__law_draw F__law_draw
    have k__law_pick := kn__law_pick (base := base) (w := w) T k__law_draw h__law_pick F__law_pick
    have k__law_number := kn__law_number (base := base) (w := w) T k__law_pick k__law_draw h__law_number F__law_number
    have k__law_drawn := kn__law_drawn (base := base) (w := w) T k__law_number k__law_pick h__law_drawn F__law_drawn
    have k__law_common := kn__law_common (base := base) (w := w) T  h__law_common F__law_common
    have k__law_ratio := kn__law_ratio (base := base) (w := w) T k__law_common h__law_ratio F__law_ratio
    have k__law_second := kn__law_second (base := base) (w := w) T k__law_draw k__law_ratio k__law_pick k__law_number k__law_drawn h__law_second F__law_second
    have k_is_row := kn_is_row (base := base) (w := w) T  h_is_row F_is_row
    have k_is_integer := kn_is_integer (base := base) (w := w) T  h_is_integer F_is_integer
    have k_is_ratio := kn_is_ratio (base := base) (w := w) T k_is_row k_is_integer h_is_ratio F_is_ratio
    have k_want_ratio := kn_want_ratio (base := base) (w := w) T k_is_ratio h_want_ratio F_want_ratio
    have k__want_two := kn__want_two (base := base) (w := w) T k_want_ratio h__want_two F__want_two
    have k_is_less := kn_is_less (base := base) (w := w) T  h_is_less F_is_less
    have k_compared := kn_compared (base := base) (w := w) T k__want_two k_is_less h_compared F_compared
    have k__told := kn__told (base := base) (w := w) T  h__told F__told
    have k_fraction := kn_fraction (base := base) (w := w) T  h_fraction F_fraction
    have k_product := kn_product (base := base) (w := w) T k_fraction h_product F_product
    have k_times := kn_times (base := base) (w := w) T k__want_two k__told k_product h_times F_times
    have k_plus := kn_plus (base := base) (w := w) T k_fraction h_plus F_plus
    have k_minus := kn_minus (base := base) (w := w) T k_plus h_minus F_minus
    have k_less := kn_less (base := base) (w := w) T k__want_two k__told k_minus h_less F_less
    have k_added := kn_added (base := base) (w := w) T k__want_two k__told k_plus h_added F_added
    have k_quotient := kn_quotient (base := base) (w := w) T k_fraction h_quotient F_quotient
    have k_over := kn_over (base := base) (w := w) T k__want_two k__told k_quotient h_over F_over
    have k__law_two := kn__law_two (base := base) (w := w) T k__law_ratio k_compared k_times k_less k_added k_over h__law_two F__law_two
    have k_floor_of := kn_floor_of (base := base) (w := w) T k_want_ratio h_floor_of F_floor_of
    have k_ceiling_of := kn_ceiling_of (base := base) (w := w) T k_want_ratio h_ceiling_of F_ceiling_of
    have k__law_one := kn__law_one (base := base) (w := w) T k_floor_of k_ceiling_of h__law_one F__law_one
    have k_is_list := kn_is_list (base := base) (w := w) T  h_is_list F_is_list
    have k__want_ratios := kn__want_ratios (base := base) (w := w) T k_is_list k_is_ratio h__want_ratios F__want_ratios
    have k_under_of := kn_under_of (base := base) (w := w) T  h_under_of F_under_of
    have k_whole_row := kn_whole_row (base := base) (w := w) T k__want_ratios k__told k_under_of h_whole_row F_whole_row
    have k_common_under := kn_common_under (base := base) (w := w) T k__want_ratios k__told k_under_of h_common_under F_common_under
    have k_sum_of := kn_sum_of (base := base) (w := w) T k__want_ratios k_plus k__told h_sum_of F_sum_of
    have k__law_lists := kn__law_lists (base := base) (w := w) T k__law_common k__law_ratio k_whole_row k_common_under k_sum_of h__law_lists F__law_lists
    have k__law_list := kn__law_list (base := base) (w := w) T k__law_draw k__law_second k__law_pick k__law_ratio k__law_number h__law_list F__law_list
    have k_made := kn_made (base := base) (w := w) T k_is_integer k__told k_fraction h_made F_made
    have k__law_any := kn__law_any (base := base) (w := w) T k__law_drawn k__law_ratio k__law_draw k__law_common k_is_ratio k_made h__law_any F__law_any
    have k_law := kn_law (base := base) (w := w) T k__law_pot k__law_drawn k__law_ratio k__law_second k__law_two k__law_one k__law_lists k__law_list k__law_any h_law F_law
    exact kn_of k_law h_law F_law
end K11

namespace K11
open PySem L2 Evl PySem.Spec Mi
def PotOk (d : D) : Prop := ∃ a b : Int, 0 ≤ a ∧ 0 ≤ b ∧ b < 4294967296 ∧ d = .list [.int a, .int b]
theorem lg_of {n k : Nat} (h : n < 2 ^ k) (hk : 0 < k) : n.log2 < k := by
  rcases Nat.eq_zero_or_pos n with z | z
  · subst z; exact hk
  · exact (Nat.log2_lt (Nat.pos_iff_ne_zero.mp z)).mpr h
theorem mulOk_of {i j : Int} {a b : Nat} (hi : i.natAbs < 2 ^ a) (hj : j.natAbs < 2 ^ b) (ha : 0 < a) (hb : 0 < b) (h : a + b < 1000000) : mulOk i j = true := by
  have h1 := lg_of hi ha
  have h2 := lg_of hj hb
  exact decide_eq_true (by omega)
theorem divOk_of {j : Int} {k : Nat} (h0 : j ≠ 0) (hj : j.natAbs < 2 ^ k) (h : 0 < k ∧ k ≤ 9000) : divOk j = true := by
  have := lg_of hj h.1
  exact decide_eq_true ⟨h0, by omega⟩
theorem fmod_eq {a b : Int} (h : 0 < b) : a.fmod b = a % b := Int.fmod_eq_emod_of_nonneg _ (Int.le_of_lt h)
theorem fdiv_eq {a b : Int} (h : 0 < b) : a.fdiv b = a / b := Int.fdiv_eq_ediv_of_nonneg _ (Int.le_of_lt h)
theorem ev_draw {p : D} (h : PotOk p) {n : Int} (hn : 0 < n) (hb : n.natAbs < 2 ^ 9000) : ∃ r p', 0 ≤ r ∧ r < n ∧ PotOk p' ∧ f__law_draw [p, .int n] = some (.ok (.val (.int r)), p') := by
  obtain ⟨a, b, ha, h0, h1, rfl⟩ := h
  have hl : n.natAbs.log2 < 9000 := lg_of hb (by decide)
  by_cases c : 0 < a
  · refine ⟨a % n, .list [.int (a / n), .int b], Int.emod_nonneg _ (by omega), Int.emod_lt_of_pos _ hn, ⟨a / n, b, Int.ediv_nonneg ha (by omega), h0, h1, rfl⟩, ?_⟩
    simp [f__law_draw, m__law_draw, c, hn, hl, mkFn, isListAt, slots, slot0, mSeq, mAsg, mRet, mIfS, mDrop, mB, bnd, Mi.ret, thaw, thawR, mVal, valR, mVar, mC, mBin, mUn, op1, op2, look, opN, lookAll, mCall, aT, aV, aNil, mStore, okSet, isT, asB, mTup, mLst, valsOf, mNx, outIo, retR, Md.isOwn, Md.isIo, Md.isLk, fI, mIf, mAnd, mOr, mNot, mAndV, mOrV, mChain, mPar, mPar3, mF, mFk, callF, callIo, putIo, freezeBy, flatD, flatAll, flatY, mayGive, notSlot, gath, mAsgG, gT, gsCons, gsNil, gIx, gN, setIx, mSetIx, ownAt, mApp, appTo, mIsi, isiD, isK, kinds, tyD, mSl, mPart, mNoPart, asInt, slD, cutD, lenD, absD, max2D, min2D, gcdD, lcmD, intD, listD, tupleD, allD, boolsOf, divmodD, addD, subD, mulD, fdivD, modD, powD, ltD, leD, gtD, geD, isD, isntD, negD, notD, ixD, revD, atI, ixN, isNone, sizeLine, eqsD, nesD, eqD, neD]
  · have m1 : mulOk b 40692 = true := mulOk_of (a := 33) (b := 33) (by omega) (by decide) (by decide) (by decide) (by decide)
    let b' := (b * 40692 + 173).fmod 2147483399
    have e' : b' = (b * 40692 + 173) % 2147483399 := fmod_eq (by decide)
    have b0 : 0 ≤ b' := by rw [e']; exact Int.emod_nonneg _ (by decide)
    have b1 : b' < 2147483399 := by rw [e']; exact Int.emod_lt_of_pos _ (by decide)
    have m2 : mulOk b' b' = true := mulOk_of (a := 33) (b := 33) (by omega) (by omega) (by decide) (by decide) (by decide)
    refine ⟨(((b' * b').fmod 2147483323).fdiv 19).fmod n, .list [.int a, .int b'], ?_, ?_, ⟨a, b', ha, b0, by omega, rfl⟩, ?_⟩
    · rw [fmod_eq hn]; exact Int.emod_nonneg _ (by omega)
    · rw [fmod_eq hn]; exact Int.emod_lt_of_pos _ hn
    · have hn0 : n ≠ 0 := by omega
      have d19 : divOk 19 = true := by decide
      simp [f__law_draw, m__law_draw, c, m1, m2, hn0, d19, b', mkFn, isListAt, slots, slot0, mSeq, mAsg, mRet, mIfS, mDrop, mB, bnd, Mi.ret, thaw, thawR, mVal, valR, mVar, mC, mBin, mUn, op1, op2, look, opN, lookAll, mCall, aT, aV, aNil, mStore, okSet, isT, asB, mTup, mLst, valsOf, mNx, outIo, retR, Md.isOwn, Md.isIo, Md.isLk, fI, mIf, mAnd, mOr, mNot, mAndV, mOrV, mChain, mPar, mPar3, mF, mFk, callF, callIo, putIo, freezeBy, flatD, flatAll, flatY, mayGive, notSlot, gath, mAsgG, gT, gsCons, gsNil, gIx, gN, setIx, mSetIx, ownAt, mApp, appTo, mIsi, isiD, isK, kinds, tyD, mSl, mPart, mNoPart, asInt, slD, cutD, lenD, absD, max2D, min2D, gcdD, lcmD, intD, listD, tupleD, allD, boolsOf, divmodD, addD, subD, mulD, fdivD, modD, powD, ltD, leD, gtD, geD, isD, isntD, negD, notD, ixD, revD, atI, ixN, isNone, sizeLine, eqsD, nesD, eqD, neD]
theorem ev_pick {p : D} (h : PotOk p) {xs : List D} (hx : 0 < xs.length) (hl : xs.length < 1000) : ∃ x p', x ∈ xs ∧ PotOk p' ∧ f__law_pick [p, .list xs] = some (.ok (.val x), p') := by
  obtain ⟨r, p', r0, r1, hp, e⟩ := ev_draw h (n := (xs.length : Int)) (by omega) (by
    have : (1000 : Nat) < 2 ^ 9000 := Nat.lt_of_lt_of_le (by decide : 1000 < 2 ^ 10) (Nat.pow_le_pow_right (by decide) (by decide))
    rw [Int.natAbs_natCast]
    omega)
  obtain ⟨a, b, _, _, _, rfl⟩ := h
  obtain ⟨a', b', _, _, _, rfl⟩ := hp
  have hr : r.toNat < xs.length := by omega
  refine ⟨xs[r.toNat], _, List.getElem_mem _, ⟨a', b', by assumption, by assumption, by assumption, rfl⟩, ?_⟩
  have r2 : r < (xs.length : Int) := r1
  simp [f__law_pick, m__law_pick, e, r0, r2, hr, mkFn, isListAt, slots, slot0, mSeq, mAsg, mRet, mIfS, mDrop, mB, bnd, Mi.ret, thaw, thawR, mVal, valR, mVar, mC, mBin, mUn, op1, op2, look, opN, lookAll, mCall, aT, aV, aNil, mStore, okSet, isT, asB, mTup, mLst, valsOf, mNx, outIo, retR, Md.isOwn, Md.isIo, Md.isLk, fI, mIf, mAnd, mOr, mNot, mAndV, mOrV, mChain, mPar, mPar3, mF, mFk, callF, callIo, putIo, freezeBy, flatD, flatAll, flatY, mayGive, notSlot, gath, mAsgG, gT, gsCons, gsNil, gIx, gN, setIx, mSetIx, ownAt, mApp, appTo, mIsi, isiD, isK, kinds, tyD, mSl, mPart, mNoPart, asInt, slD, cutD, lenD, absD, max2D, min2D, gcdD, lcmD, intD, listD, tupleD, allD, boolsOf, divmodD, addD, subD, mulD, fdivD, modD, powD, ltD, leD, gtD, geD, isD, isntD, negD, notD, ixD, revD, atI, ixN, isNone, sizeLine, eqsD, nesD, eqD, neD]
end K11

namespace K11
open PySem L2 Evl PySem.Spec Mi
theorem eqv_int (a b : Int) : PyData.eqv (.int a) (.int b) = decide (a = b) := by
  simp only [PyData.eqv]
  by_cases h : a = b <;> simp [h]
theorem shaped_int (a : Int) : SeqAt.shaped (.int a) = true := by simp [SeqAt.shaped, PyData.canLay0, PyData.depth]
/-! ### Euclid's loop -/
def ss (a b : Int) : Prop := (0 ≤ a ∧ 0 ≤ b) ∨ (a ≤ 0 ∧ b ≤ 0)
def rem (a b : Int) : Int := a - a.fdiv b * b
theorem rem_pos {a b : Int} (hb : 0 < b) : rem a b = a % b := by
  unfold rem
  rw [fdiv_eq hb, Int.mul_comm, Int.emod_def]
theorem rem_neg {a b : Int} : rem a b = -(rem (-a) (-b)) := by
  unfold rem
  rw [Int.neg_fdiv_neg, Int.mul_neg]
  omega
theorem rem_any {a b : Int} (hb : b ≠ 0) : (rem a b).natAbs < b.natAbs ∧ ss b (rem a b) := by
  rcases Int.lt_or_gt_of_ne hb with h | h
  · have e := rem_pos (a := -a) (b := -b) (by omega)
    rw [rem_neg, e]
    have h1 := Int.emod_nonneg (-a) (b := -b) (by omega)
    have h2 := Int.emod_lt_of_pos (-a) (b := -b) (by omega)
    unfold ss
    omega
  · rw [rem_pos h]
    have h1 := Int.emod_nonneg a (b := b) (by omega)
    have h2 := Int.emod_lt_of_pos a (b := b) h
    unfold ss
    omega
theorem rem_ss {a b : Int} (hb : b ≠ 0) (h : ss a b) : (rem a b).natAbs = a.natAbs % b.natAbs := by
  rcases h with ⟨h1, h2⟩ | ⟨h1, h2⟩
  · rw [rem_pos (by omega)]
    have : a % b = ((a.natAbs % b.natAbs : Nat) : Int) := by
      rw [Int.natCast_emod, Int.natAbs_of_nonneg h1, Int.natAbs_of_nonneg h2]
    rw [this, Int.natAbs_natCast]
  · rw [rem_neg, rem_pos (by omega)]
    have : (-a) % (-b) = ((a.natAbs % b.natAbs : Nat) : Int) := by
      rw [Int.natCast_emod, show ((a.natAbs : Nat) : Int) = -a by omega, show ((b.natAbs : Nat) : Int) = -b by omega]
    rw [this, Int.natAbs_neg, Int.natAbs_natCast]
theorem rem_gcd (a b : Int) : Int.gcd b (rem a b) = Int.gcd a b := by
  unfold rem
  rw [Int.gcd_comm b, Int.gcd_sub_mul_right_left]
def cLoop : M Bool := mB (mBin nesD (mVar 1) (mC (.int 0)))
def bLoop : M Fl := mPar 0 1 (mVar 1) (mBin subD (mVar 0) (mBin mulD (mBin fdivD (mVar 0) (mVar 1)) (mVar 1)))
def rg (a b : Int) : R := [some ⟨.val, .int a⟩, some ⟨.val, .int b⟩]
theorem c_run (a b : Int) : cLoop (rg a b) = some (.ok (decide (b ≠ 0)), rg a b) := by
  simp [cLoop, rg, eqv_int, shaped_int, mkFn, isListAt, slots, slot0, mSeq, mAsg, mRet, mIfS, mDrop, mB, bnd, Mi.ret, thaw, thawR, mVal, valR, mVar, mC, mBin, mUn, op1, op2, look, opN, lookAll, mCall, aT, aV, aNil, mStore, okSet, isT, asB, mTup, mLst, valsOf, mNx, outIo, retR, Md.isOwn, Md.isIo, Md.isLk, fI, mIf, mAnd, mOr, mNot, mAndV, mOrV, mChain, mPar, mPar3, mF, mFk, callF, callIo, putIo, freezeBy, flatD, flatAll, flatY, mayGive, notSlot, gath, mAsgG, gT, gsCons, gsNil, gIx, gN, setIx, mSetIx, ownAt, mApp, appTo, mIsi, isiD, isK, kinds, tyD, mSl, mPart, mNoPart, asInt, slD, cutD, lenD, absD, max2D, min2D, gcdD, lcmD, intD, listD, tupleD, allD, boolsOf, divmodD, addD, subD, mulD, fdivD, modD, powD, ltD, leD, gtD, geD, isD, isntD, negD, notD, ixD, revD, atI, ixN, isNone, sizeLine, eqsD, nesD, eqD, neD]
theorem b_run {a b : Int} (hb : b ≠ 0) (ha9 : a.natAbs < 2 ^ 9000) (hb9 : b.natAbs < 2 ^ 9000) : bLoop (rg a b) = some (.ok .nx, rg b (rem a b)) := by
  have h1 : divOk b = true := divOk_of hb hb9 (by decide)
  have h2 : mulOk (a.fdiv b) b = true := mulOk_of (Nat.lt_of_le_of_lt (Int.natAbs_fdiv_le_natAbs a b) ha9) hb9 (by decide) (by decide) (by decide)
  simp [bLoop, rg, rem, h1, h2, mkFn, isListAt, slots, slot0, mSeq, mAsg, mRet, mIfS, mDrop, mB, bnd, Mi.ret, thaw, thawR, mVal, valR, mVar, mC, mBin, mUn, op1, op2, look, opN, lookAll, mCall, aT, aV, aNil, mStore, okSet, isT, asB, mTup, mLst, valsOf, mNx, outIo, retR, Md.isOwn, Md.isIo, Md.isLk, fI, mIf, mAnd, mOr, mNot, mAndV, mOrV, mChain, mPar, mPar3, mF, mFk, callF, callIo, putIo, freezeBy, flatD, flatAll, flatY, mayGive, notSlot, gath, mAsgG, gT, gsCons, gsNil, gIx, gN, setIx, mSetIx, ownAt, mApp, appTo, mIsi, isiD, isK, kinds, tyD, mSl, mPart, mNoPart, asInt, slD, cutD, lenD, absD, max2D, min2D, gcdD, lcmD, intD, listD, tupleD, allD, boolsOf, divmodD, addD, subD, mulD, fdivD, modD, powD, ltD, leD, gtD, geD, isD, isntD, negD, notD, ixD, revD, atI, ixN, isNone, sizeLine, eqsD, nesD, eqD, neD]
theorem loop0 {a : Int} {n : Nat} (hn : 1 ≤ n) : mWhile cLoop bLoop n (rg a 0) = some (.ok .nx, rg a 0) := by
  obtain ⟨n, rfl⟩ : ∃ m, n = m + 1 := ⟨n - 1, by omega⟩
  unfold mWhile bnd
  rw [c_run]
  rfl
theorem loop1 {a b : Int} {n : Nat} (hb : b ≠ 0) (ha9 : a.natAbs < 2 ^ 9000) (hb9 : b.natAbs < 2 ^ 9000) : mWhile cLoop bLoop (n + 1) (rg a b) = mWhile cLoop bLoop n (rg b (rem a b)) := by
  rw [mWhile]
  unfold bnd
  rw [c_run]
  simp only [decide_eq_true_eq, ne_eq, hb, not_false_eq_true, decide_true, if_true]
  rw [b_run hb ha9 hb9]
theorem loop_ss : ∀ (k : Nat) (a b : Int) (n : Nat), ss a b → a.natAbs < 2 ^ 9000 → b.natAbs < 2 ^ 9000 → b.natAbs < 2 ^ k → 2 * k + 1 ≤ n → ∃ g : Int, g.natAbs = Int.gcd a b ∧ mWhile cLoop bLoop n (rg a b) = some (.ok .nx, rg g 0)
  | 0, a, b, n, _, _, _, hk, hn => by
    have hb : b = 0 := by omega
    subst hb
    exact ⟨a, by simp, loop0 (by omega)⟩
  | k + 1, a, b, n, hs, ha, hb, hk, hn => by
    by_cases h0 : b = 0
    · subst h0
      exact ⟨a, by simp, loop0 (by omega)⟩
    obtain ⟨n, rfl⟩ : ∃ m, n = m + 1 := ⟨n - 1, by omega⟩
    obtain ⟨r1, r2⟩ := rem_any (a := a) h0
    rw [loop1 h0 ha hb]
    by_cases h1 : rem a b = 0
    · refine ⟨b, ?_, ?_⟩
      · rw [← rem_gcd, h1]; simp
      · rw [h1]; exact loop0 (by omega)
    obtain ⟨n, rfl⟩ : ∃ m, n = m + 1 := ⟨n - 1, by omega⟩
    have hr9 : (rem a b).natAbs < 2 ^ 9000 := Nat.lt_trans r1 hb
    rw [loop1 h1 hb hr9]
    have e := rem_ss h1 r2
    obtain ⟨s1, s2⟩ := rem_any (a := b) h1
    have half : 2 * (rem b (rem a b)).natAbs < b.natAbs := by
      rw [e]
      have q1 : b.natAbs % (rem a b).natAbs < (rem a b).natAbs := Nat.mod_lt _ (by omega)
      have q2 : b.natAbs % (rem a b).natAbs ≤ b.natAbs - (rem a b).natAbs := by
        rw [Nat.mod_eq_sub_mod (Nat.le_of_lt r1)]
        exact Nat.mod_le _ _
      omega
    have e2 : (2 : Nat) ^ (k + 1) = 2 * 2 ^ k := by rw [Nat.pow_succ, Nat.mul_comm]
    obtain ⟨g, g1, g2⟩ := loop_ss k (rem a b) (rem b (rem a b)) n s2 hr9 (Nat.lt_trans s1 hr9) (by omega) (by omega)
    exact ⟨g, by rw [g1, rem_gcd, rem_gcd], g2⟩
theorem ev_common {a b : Int} (ha : a.natAbs < 2 ^ 9000) (hb : b.natAbs < 2 ^ 9000) : f__law_common [.int a, .int b] = some (.ok (.val (.int (Int.gcd a b))), .none) := by
  have run : ∃ g : Int, g.natAbs = Int.gcd a b ∧ mWhile cLoop bLoop 100000 (rg a b) = some (.ok .nx, rg g 0) := by
    by_cases h0 : b = 0
    · subst h0
      exact ⟨a, by simp, loop0 (by omega)⟩
    obtain ⟨r1, r2⟩ := rem_any (a := a) h0
    rw [show (100000 : Nat) = 99999 + 1 from rfl, loop1 h0 ha hb]
    obtain ⟨g, g1, g2⟩ := loop_ss 9000 b (rem a b) 99999 r2 hb (Nat.lt_trans r1 hb) (Nat.lt_trans r1 hb) (by omega)
    exact ⟨g, by rw [g1, rem_gcd], g2⟩
  obtain ⟨g, g1, g2⟩ := run
  have g3 : (if g < 0 then -g else g) = (Int.gcd a b : Int) := by
    rw [← g1]
    split <;> omega
  have e : m__law_common = mSeq (mWhile cLoop bLoop 100000) (mRet (mCall absD (aT (mVar 0) aNil))) := rfl
  simp only [f__law_common, mkFn, e, slots, slot0, isListAt]
  have e2 : (mSeq (mWhile cLoop bLoop 100000) (mRet (mCall absD (aT (mVar 0) aNil)))) (rg a b) = some (.ok (.rt (.val (.int (Int.gcd a b)))), rg g 0) := by
    unfold mSeq bnd
    rw [g2]
    simp [rg, g3, mkFn, isListAt, slots, slot0, mSeq, mAsg, mRet, mIfS, mDrop, mB, bnd, Mi.ret, thaw, thawR, mVal, valR, mVar, mC, mBin, mUn, op1, op2, look, opN, lookAll, mCall, aT, aV, aNil, mStore, okSet, isT, asB, mTup, mLst, valsOf, mNx, outIo, retR, Md.isOwn, Md.isIo, Md.isLk, fI, mIf, mAnd, mOr, mNot, mAndV, mOrV, mChain, mPar, mPar3, mF, mFk, callF, callIo, putIo, freezeBy, flatD, flatAll, flatY, mayGive, notSlot, gath, mAsgG, gT, gsCons, gsNil, gIx, gN, setIx, mSetIx, ownAt, mApp, appTo, mIsi, isiD, isK, kinds, tyD, mSl, mPart, mNoPart, asInt, slD, cutD, lenD, absD, max2D, min2D, gcdD, lcmD, intD, listD, tupleD, allD, boolsOf, divmodD, addD, subD, mulD, fdivD, modD, powD, ltD, leD, gtD, geD, isD, isntD, negD, notD, ixD, revD, atI, ixN, isNone, sizeLine, eqsD, nesD, eqD, neD]
  simp only [rg] at e2
  simp [e2, retR, outIo]
end K11

namespace K11
open PySem L2 Evl PySem.Spec Mi
/-! ### ratios in lowest terms -/
abbrev rat (a b : Int) : D := .tuple [.int a, .int b]
def gs (n u : Int) : Int := if u < 0 then -(Int.gcd n u : Int) else Int.gcd n u
def redN (n u : Int) : Int := n.fdiv (gs n u)
def redU (n u : Int) : Int := u.fdiv (gs n u)
abbrev red (n u : Int) : D := rat (redN n u) (redU n u)
def Low (a b : Int) : Prop := 0 < b ∧ Int.gcd a b = 1
section
variable {n u : Int}
theorem gs_ne (hu : u ≠ 0) : gs n u ≠ 0 := by
  have : Int.gcd n u ≠ 0 := fun h => hu (Int.gcd_eq_zero_iff.mp h).2
  unfold gs
  split <;> omega
theorem gs_n (n u : Int) : gs n u ∣ n := by
  unfold gs
  split
  · exact Int.neg_dvd.mpr (Int.gcd_dvd_left ..)
  · exact Int.gcd_dvd_left ..
theorem gs_u (n u : Int) : gs n u ∣ u := by
  unfold gs
  split
  · exact Int.neg_dvd.mpr (Int.gcd_dvd_right ..)
  · exact Int.gcd_dvd_right ..
theorem fdiv_mul {a b : Int} (h : b ∣ a) : a.fdiv b * b = a := Int.fdiv_mul_cancel h
theorem redN_mul (n u : Int) : redN n u * gs n u = n := fdiv_mul (gs_n n u)
theorem redU_mul (n u : Int) : redU n u * gs n u = u := fdiv_mul (gs_u n u)
theorem gs_abs (n u : Int) : (gs n u).natAbs = Int.gcd n u := by
  unfold gs
  split <;> omega
theorem red_low (hu : u ≠ 0) : Low (redN n u) (redU n u) := by
  have g0 := gs_ne (n := n) hu
  have e1 := redN_mul n u
  have e2 := redU_mul n u
  refine ⟨?_, ?_⟩
  · by_cases h : u < 0
    · have gneg : gs n u < 0 := by unfold gs at g0 ⊢; rw [if_pos h] at g0 ⊢; omega
      refine Classical.byContradiction fun q => ?_
      have := Int.mul_nonneg_of_nonpos_of_nonpos (a := redU n u) (b := gs n u) (by omega) (by omega)
      omega
    · have gpos : 0 < gs n u := by unfold gs at g0 ⊢; rw [if_neg h] at g0 ⊢; omega
      refine Classical.byContradiction fun q => ?_
      have := Int.mul_nonpos_of_nonpos_of_nonneg (a := redU n u) (b := gs n u) (by omega) (by omega)
      omega
  · have h : Int.gcd (redN n u * gs n u) (redU n u * gs n u) = Int.gcd (redN n u) (redU n u) * (gs n u).natAbs := Int.gcd_mul_right _ _ _
    rw [e1, e2, gs_abs] at h
    have p : 0 < Int.gcd n u := by
      have := gs_abs n u
      omega
    exact (Nat.eq_of_mul_eq_mul_right p (by rw [Nat.one_mul]; exact h)).symm
theorem redN_le (n u : Int) : (redN n u).natAbs ≤ n.natAbs := Int.natAbs_fdiv_le_natAbs _ _
theorem redU_le (n u : Int) : (redU n u).natAbs ≤ u.natAbs := Int.natAbs_fdiv_le_natAbs _ _
theorem dvd_of {a b c : Int} (h : b ∣ a * c) (g : Int.gcd a b = 1) : b ∣ c := by
  have h := Int.natAbs_dvd_natAbs.mpr h
  rw [Int.natAbs_mul] at h
  have g : Nat.Coprime b.natAbs a.natAbs := by rw [Nat.coprime_comm]; exact g
  exact Int.natAbs_dvd_natAbs.mp (Nat.Coprime.dvd_of_dvd_mul_left g h)
theorem low_inj {a b c d : Int} (h : Low a b) (k : Low c d) (e : a * d = c * b) : a = c ∧ b = d := by
  have h1 : b ∣ d := by
    have : b ∣ a * d := ⟨c, by rw [e, Int.mul_comm]⟩
    exact dvd_of this h.2
  have h2 : d ∣ b := by
    have : d ∣ c * b := ⟨a, by rw [← e, Int.mul_comm]⟩
    exact dvd_of this k.2
  have e2 : b = d := Int.dvd_antisymm (Int.le_of_lt h.1) (Int.le_of_lt k.1) h1 h2
  subst e2
  exact ⟨Int.eq_of_mul_eq_mul_right (by have := h.1; omega) e, rfl⟩
theorem red_eq {n u n' u' : Int} (hu : u ≠ 0) (hu' : u' ≠ 0) (e : n * u' = n' * u) : redN n u = redN n' u' ∧ redU n u = redU n' u' := by
  refine low_inj (red_low hu) (red_low hu') ?_
  have g0 := gs_ne (n := n) hu
  have g1 := gs_ne (n := n') hu'
  have k : (redN n u * redU n' u') * (gs n u * gs n' u') = (redN n' u' * redU n u) * (gs n u * gs n' u') := by
    have e1 : (redN n u * redU n' u') * (gs n u * gs n' u') = (redN n u * gs n u) * (redU n' u' * gs n' u') := by ac_rfl
    have e2 : (redN n' u' * redU n u) * (gs n u * gs n' u') = (redN n' u' * gs n' u') * (redU n u * gs n u) := by ac_rfl
    rw [e1, e2, redN_mul, redU_mul, redN_mul, redU_mul, e]
  exact Int.eq_of_mul_eq_mul_right (Int.mul_ne_zero g0 g1) k
/-- a ratio in lowest terms is its own -/
theorem red_self {a b : Int} (h : Low a b) : redN a b = a ∧ redU a b = b := by
  have hb : b ≠ 0 := by have := h.1; omega
  refine low_inj (red_low hb) h ?_
  have g0 := gs_ne (n := a) hb
  refine Int.eq_of_mul_eq_mul_right g0 ?_
  have e1 : redN a b * b * gs a b = (redN a b * gs a b) * b := by ac_rfl
  have e2 : a * redU a b * gs a b = a * (redU a b * gs a b) := by ac_rfl
  rw [e1, e2, redN_mul, redU_mul]
theorem ev_fraction (hu : u ≠ 0) (hn9 : n.natAbs < 2 ^ 9000) (hu9 : u.natAbs < 2 ^ 9000) : f_fraction [.int n, .int u] = some (.ok (.val (red n u)), .none) := by
  have hg : (gs n u).natAbs < 2 ^ 9000 := by
    rw [gs_abs]
    exact Nat.lt_of_le_of_lt (Nat.le_of_dvd (by omega) (Nat.gcd_dvd_right n.natAbs u.natAbs)) hu9
  have hd : divOk (gs n u) = true := divOk_of (gs_ne hu) hg (by decide)
  unfold red redN redU
  by_cases h : u < 0
  · have e : gs n u = -((n.natAbs.gcd u.natAbs : Nat) : Int) := by unfold gs; rw [if_pos h]; rfl
    rw [e] at hd ⊢
    simp [f_fraction, m_fraction, h, hd, mkFn, isListAt, slots, slot0, mSeq, mAsg, mRet, mIfS, mDrop, mB, bnd, Mi.ret, thaw, thawR, mVal, valR, mVar, mC, mBin, mUn, op1, op2, look, opN, lookAll, mCall, aT, aV, aNil, mStore, okSet, isT, asB, mTup, mLst, valsOf, mNx, outIo, retR, Md.isOwn, Md.isIo, Md.isLk, fI, mIf, mAnd, mOr, mNot, mAndV, mOrV, mChain, mPar, mPar3, mF, mFk, callF, callIo, putIo, freezeBy, flatD, flatAll, flatY, mayGive, notSlot, gath, mAsgG, gT, gsCons, gsNil, gIx, gN, setIx, mSetIx, ownAt, mApp, appTo, mIsi, isiD, isK, kinds, tyD, mSl, mPart, mNoPart, asInt, slD, cutD, lenD, absD, max2D, min2D, gcdD, lcmD, intD, listD, tupleD, allD, boolsOf, divmodD, addD, subD, mulD, fdivD, modD, powD, ltD, leD, gtD, geD, isD, isntD, negD, notD, ixD, revD, atI, ixN, isNone, sizeLine, eqsD, nesD, eqD, neD]
  · have e : gs n u = ((n.natAbs.gcd u.natAbs : Nat) : Int) := by unfold gs; rw [if_neg h]; rfl
    rw [e] at hd ⊢
    simp [f_fraction, m_fraction, h, hd, mkFn, isListAt, slots, slot0, mSeq, mAsg, mRet, mIfS, mDrop, mB, bnd, Mi.ret, thaw, thawR, mVal, valR, mVar, mC, mBin, mUn, op1, op2, look, opN, lookAll, mCall, aT, aV, aNil, mStore, okSet, isT, asB, mTup, mLst, valsOf, mNx, outIo, retR, Md.isOwn, Md.isIo, Md.isLk, fI, mIf, mAnd, mOr, mNot, mAndV, mOrV, mChain, mPar, mPar3, mF, mFk, callF, callIo, putIo, freezeBy, flatD, flatAll, flatY, mayGive, notSlot, gath, mAsgG, gT, gsCons, gsNil, gIx, gN, setIx, mSetIx, ownAt, mApp, appTo, mIsi, isiD, isK, kinds, tyD, mSl, mPart, mNoPart, asInt, slD, cutD, lenD, absD, max2D, min2D, gcdD, lcmD, intD, listD, tupleD, allD, boolsOf, divmodD, addD, subD, mulD, fdivD, modD, powD, ltD, leD, gtD, geD, isD, isntD, negD, notD, ixD, revD, atI, ixN, isNone, sizeLine, eqsD, nesD, eqD, neD]
theorem ev_lratio (hu : u ≠ 0) (hn9 : n.natAbs < 2 ^ 9000) (hu9 : u.natAbs < 2 ^ 9000) : f__law_ratio [.int n, .int u] = some (.ok (.val (red n u)), .none) := by
  have hg : (gs n u).natAbs < 2 ^ 9000 := by
    rw [gs_abs]
    exact Nat.lt_of_le_of_lt (Nat.le_of_dvd (by omega) (Nat.gcd_dvd_right n.natAbs u.natAbs)) hu9
  have hd : divOk (gs n u) = true := divOk_of (gs_ne hu) hg (by decide)
  have ec := ev_common hn9 hu9
  unfold red redN redU
  by_cases h : u < 0
  · have e : gs n u = -((n.gcd u : Nat) : Int) := by unfold gs; rw [if_pos h]
    rw [e] at hd ⊢
    simp [f__law_ratio, m__law_ratio, h, hd, ec, mkFn, isListAt, slots, slot0, mSeq, mAsg, mRet, mIfS, mDrop, mB, bnd, Mi.ret, thaw, thawR, mVal, valR, mVar, mC, mBin, mUn, op1, op2, look, opN, lookAll, mCall, aT, aV, aNil, mStore, okSet, isT, asB, mTup, mLst, valsOf, mNx, outIo, retR, Md.isOwn, Md.isIo, Md.isLk, fI, mIf, mAnd, mOr, mNot, mAndV, mOrV, mChain, mPar, mPar3, mF, mFk, callF, callIo, putIo, freezeBy, flatD, flatAll, flatY, mayGive, notSlot, gath, mAsgG, gT, gsCons, gsNil, gIx, gN, setIx, mSetIx, ownAt, mApp, appTo, mIsi, isiD, isK, kinds, tyD, mSl, mPart, mNoPart, asInt, slD, cutD, lenD, absD, max2D, min2D, gcdD, lcmD, intD, listD, tupleD, allD, boolsOf, divmodD, addD, subD, mulD, fdivD, modD, powD, ltD, leD, gtD, geD, isD, isntD, negD, notD, ixD, revD, atI, ixN, isNone, sizeLine, eqsD, nesD, eqD, neD]
  · have e : gs n u = ((n.gcd u : Nat) : Int) := by unfold gs; rw [if_neg h]
    rw [e] at hd ⊢
    simp [f__law_ratio, m__law_ratio, h, hd, ec, mkFn, isListAt, slots, slot0, mSeq, mAsg, mRet, mIfS, mDrop, mB, bnd, Mi.ret, thaw, thawR, mVal, valR, mVar, mC, mBin, mUn, op1, op2, look, opN, lookAll, mCall, aT, aV, aNil, mStore, okSet, isT, asB, mTup, mLst, valsOf, mNx, outIo, retR, Md.isOwn, Md.isIo, Md.isLk, fI, mIf, mAnd, mOr, mNot, mAndV, mOrV, mChain, mPar, mPar3, mF, mFk, callF, callIo, putIo, freezeBy, flatD, flatAll, flatY, mayGive, notSlot, gath, mAsgG, gT, gsCons, gsNil, gIx, gN, setIx, mSetIx, ownAt, mApp, appTo, mIsi, isiD, isK, kinds, tyD, mSl, mPart, mNoPart, asInt, slD, cutD, lenD, absD, max2D, min2D, gcdD, lcmD, intD, listD, tupleD, allD, boolsOf, divmodD, addD, subD, mulD, fdivD, modD, powD, ltD, leD, gtD, geD, isD, isntD, negD, notD, ixD, revD, atI, ixN, isNone, sizeLine, eqsD, nesD, eqD, neD]
end
def bey : Int := 10 ^ 400
theorem v_bey : v_BEYOND = .int bey := by
  unfold v_BEYOND bey
  congr 1
def isR (a b : Int) : Bool := decide (0 < b) && decide (b < bey) && (decide (-bey < a) && decide (a < bey)) && decide (Int.gcd a b = 1)
theorem ev_is_integer (d : D) : f_is_integer [d] = some (.ok (.val (.bool (match d with | .int _ => true | _ => false))), .none) := by
  cases d <;> simp [f_is_integer, m_is_integer, mkFn, isListAt, slots, slot0, mSeq, mAsg, mRet, mIfS, mDrop, mB, bnd, Mi.ret, thaw, thawR, mVal, valR, mVar, mC, mBin, mUn, op1, op2, look, opN, lookAll, mCall, aT, aV, aNil, mStore, okSet, isT, asB, mTup, mLst, valsOf, mNx, outIo, retR, Md.isOwn, Md.isIo, Md.isLk, fI, mIf, mAnd, mOr, mNot, mAndV, mOrV, mChain, mPar, mPar3, mF, mFk, callF, callIo, putIo, freezeBy, flatD, flatAll, flatY, mayGive, notSlot, gath, mAsgG, gT, gsCons, gsNil, gIx, gN, setIx, mSetIx, ownAt, mApp, appTo, mIsi, isiD, isK, kinds, tyD, mSl, mPart, mNoPart, asInt, slD, cutD, lenD, absD, max2D, min2D, gcdD, lcmD, intD, listD, tupleD, allD, boolsOf, divmodD, addD, subD, mulD, fdivD, modD, powD, ltD, leD, gtD, geD, isD, isntD, negD, notD, ixD, revD, atI, ixN, isNone, sizeLine, eqsD, nesD, eqD, neD]
theorem ev_is_row (d : D) (n : Int) : f_is_row [d, .int n] = some (.ok (.val (.bool (match d with | .tuple xs => decide ((xs.length : Int) = n) | _ => false))), .none) := by
  cases d <;> simp [f_is_row, m_is_row, shaped_int, eqv_int, mkFn, isListAt, slots, slot0, mSeq, mAsg, mRet, mIfS, mDrop, mB, bnd, Mi.ret, thaw, thawR, mVal, valR, mVar, mC, mBin, mUn, op1, op2, look, opN, lookAll, mCall, aT, aV, aNil, mStore, okSet, isT, asB, mTup, mLst, valsOf, mNx, outIo, retR, Md.isOwn, Md.isIo, Md.isLk, fI, mIf, mAnd, mOr, mNot, mAndV, mOrV, mChain, mPar, mPar3, mF, mFk, callF, callIo, putIo, freezeBy, flatD, flatAll, flatY, mayGive, notSlot, gath, mAsgG, gT, gsCons, gsNil, gIx, gN, setIx, mSetIx, ownAt, mApp, appTo, mIsi, isiD, isK, kinds, tyD, mSl, mPart, mNoPart, asInt, slD, cutD, lenD, absD, max2D, min2D, gcdD, lcmD, intD, listD, tupleD, allD, boolsOf, divmodD, addD, subD, mulD, fdivD, modD, powD, ltD, leD, gtD, geD, isD, isntD, negD, notD, ixD, revD, atI, ixN, isNone, sizeLine, eqsD, nesD, eqD, neD]
theorem ev_is_ratio (a b : Int) : f_is_ratio [rat a b] = some (.ok (.val (.bool (isR a b))), .none) := by
  have e : f_is_row [rat a b, .int 2] = some (.ok (.val (.bool true)), .none) := by rw [ev_is_row]; rfl
  have hg : ∀ g : Nat, PyData.eqv (.int (g : Int)) (.int 1) = decide (g = 1) := fun g => by
    rw [eqv_int]
    by_cases h : g = 1
    · simp [h]
    · simp [h]; omega
  unfold isR
  by_cases h1 : 0 < b
  · by_cases h2 : b < bey
    · by_cases h3 : -bey < a
      · by_cases h4 : a < bey
        · simp [f_is_ratio, m_is_ratio, e, ev_is_integer, v_bey, h1, h2, h3, h4, shaped_int, hg, Int.gcd, mkFn, isListAt, slots, slot0, mSeq, mAsg, mRet, mIfS, mDrop, mB, bnd, Mi.ret, thaw, thawR, mVal, valR, mVar, mC, mBin, mUn, op1, op2, look, opN, lookAll, mCall, aT, aV, aNil, mStore, okSet, isT, asB, mTup, mLst, valsOf, mNx, outIo, retR, Md.isOwn, Md.isIo, Md.isLk, fI, mIf, mAnd, mOr, mNot, mAndV, mOrV, mChain, mPar, mPar3, mF, mFk, callF, callIo, putIo, freezeBy, flatD, flatAll, flatY, mayGive, notSlot, gath, mAsgG, gT, gsCons, gsNil, gIx, gN, setIx, mSetIx, ownAt, mApp, appTo, mIsi, isiD, isK, kinds, tyD, mSl, mPart, mNoPart, asInt, slD, cutD, lenD, absD, max2D, min2D, gcdD, lcmD, intD, listD, tupleD, allD, boolsOf, divmodD, addD, subD, mulD, fdivD, modD, powD, ltD, leD, gtD, geD, isD, isntD, negD, notD, ixD, revD, atI, ixN, isNone, sizeLine, eqsD, nesD, eqD, neD]
          try rfl
        · simp [f_is_ratio, m_is_ratio, e, ev_is_integer, v_bey, h1, h2, h3, h4, shaped_int, hg, mkFn, isListAt, slots, slot0, mSeq, mAsg, mRet, mIfS, mDrop, mB, bnd, Mi.ret, thaw, thawR, mVal, valR, mVar, mC, mBin, mUn, op1, op2, look, opN, lookAll, mCall, aT, aV, aNil, mStore, okSet, isT, asB, mTup, mLst, valsOf, mNx, outIo, retR, Md.isOwn, Md.isIo, Md.isLk, fI, mIf, mAnd, mOr, mNot, mAndV, mOrV, mChain, mPar, mPar3, mF, mFk, callF, callIo, putIo, freezeBy, flatD, flatAll, flatY, mayGive, notSlot, gath, mAsgG, gT, gsCons, gsNil, gIx, gN, setIx, mSetIx, ownAt, mApp, appTo, mIsi, isiD, isK, kinds, tyD, mSl, mPart, mNoPart, asInt, slD, cutD, lenD, absD, max2D, min2D, gcdD, lcmD, intD, listD, tupleD, allD, boolsOf, divmodD, addD, subD, mulD, fdivD, modD, powD, ltD, leD, gtD, geD, isD, isntD, negD, notD, ixD, revD, atI, ixN, isNone, sizeLine, eqsD, nesD, eqD, neD]
      · simp [f_is_ratio, m_is_ratio, e, ev_is_integer, v_bey, h1, h2, h3, shaped_int, hg, mkFn, isListAt, slots, slot0, mSeq, mAsg, mRet, mIfS, mDrop, mB, bnd, Mi.ret, thaw, thawR, mVal, valR, mVar, mC, mBin, mUn, op1, op2, look, opN, lookAll, mCall, aT, aV, aNil, mStore, okSet, isT, asB, mTup, mLst, valsOf, mNx, outIo, retR, Md.isOwn, Md.isIo, Md.isLk, fI, mIf, mAnd, mOr, mNot, mAndV, mOrV, mChain, mPar, mPar3, mF, mFk, callF, callIo, putIo, freezeBy, flatD, flatAll, flatY, mayGive, notSlot, gath, mAsgG, gT, gsCons, gsNil, gIx, gN, setIx, mSetIx, ownAt, mApp, appTo, mIsi, isiD, isK, kinds, tyD, mSl, mPart, mNoPart, asInt, slD, cutD, lenD, absD, max2D, min2D, gcdD, lcmD, intD, listD, tupleD, allD, boolsOf, divmodD, addD, subD, mulD, fdivD, modD, powD, ltD, leD, gtD, geD, isD, isntD, negD, notD, ixD, revD, atI, ixN, isNone, sizeLine, eqsD, nesD, eqD, neD]
    · simp [f_is_ratio, m_is_ratio, e, ev_is_integer, v_bey, h1, h2, shaped_int, hg, mkFn, isListAt, slots, slot0, mSeq, mAsg, mRet, mIfS, mDrop, mB, bnd, Mi.ret, thaw, thawR, mVal, valR, mVar, mC, mBin, mUn, op1, op2, look, opN, lookAll, mCall, aT, aV, aNil, mStore, okSet, isT, asB, mTup, mLst, valsOf, mNx, outIo, retR, Md.isOwn, Md.isIo, Md.isLk, fI, mIf, mAnd, mOr, mNot, mAndV, mOrV, mChain, mPar, mPar3, mF, mFk, callF, callIo, putIo, freezeBy, flatD, flatAll, flatY, mayGive, notSlot, gath, mAsgG, gT, gsCons, gsNil, gIx, gN, setIx, mSetIx, ownAt, mApp, appTo, mIsi, isiD, isK, kinds, tyD, mSl, mPart, mNoPart, asInt, slD, cutD, lenD, absD, max2D, min2D, gcdD, lcmD, intD, listD, tupleD, allD, boolsOf, divmodD, addD, subD, mulD, fdivD, modD, powD, ltD, leD, gtD, geD, isD, isntD, negD, notD, ixD, revD, atI, ixN, isNone, sizeLine, eqsD, nesD, eqD, neD]
  · simp [f_is_ratio, m_is_ratio, e, ev_is_integer, v_bey, h1, shaped_int, hg, mkFn, isListAt, slots, slot0, mSeq, mAsg, mRet, mIfS, mDrop, mB, bnd, Mi.ret, thaw, thawR, mVal, valR, mVar, mC, mBin, mUn, op1, op2, look, opN, lookAll, mCall, aT, aV, aNil, mStore, okSet, isT, asB, mTup, mLst, valsOf, mNx, outIo, retR, Md.isOwn, Md.isIo, Md.isLk, fI, mIf, mAnd, mOr, mNot, mAndV, mOrV, mChain, mPar, mPar3, mF, mFk, callF, callIo, putIo, freezeBy, flatD, flatAll, flatY, mayGive, notSlot, gath, mAsgG, gT, gsCons, gsNil, gIx, gN, setIx, mSetIx, ownAt, mApp, appTo, mIsi, isiD, isK, kinds, tyD, mSl, mPart, mNoPart, asInt, slD, cutD, lenD, absD, max2D, min2D, gcdD, lcmD, intD, listD, tupleD, allD, boolsOf, divmodD, addD, subD, mulD, fdivD, modD, powD, ltD, leD, gtD, geD, isD, isntD, negD, notD, ixD, revD, atI, ixN, isNone, sizeLine, eqsD, nesD, eqD, neD]
end K11

namespace K11
open PySem L2 Evl PySem.Spec Mi
theorem mul_lt {i j : Int} {a b : Nat} (hi : i.natAbs < 2 ^ a) (hj : j.natAbs < 2 ^ b) : (i * j).natAbs < 2 ^ (a + b) := by
  rw [Int.natAbs_mul, Nat.pow_add]
  exact Nat.mul_lt_mul_of_lt_of_lt hi hj
theorem add_lt {i j : Int} {a : Nat} (hi : i.natAbs < 2 ^ a) (hj : j.natAbs < 2 ^ a) : (i + j).natAbs < 2 ^ (a + 1) := by
  have := Int.natAbs_add_le i j
  rw [Nat.pow_succ]
  omega
theorem lt_mono {n a b : Nat} (h : n < 2 ^ a) (hab : a ≤ b) : n < 2 ^ b := Nat.lt_of_lt_of_le h (Nat.pow_le_pow_right (by decide) hab)
/-- the four numbers of two ratios are below 2 ^ 4000 -/
structure Sz (a b : Int) : Prop where
  n : a.natAbs < 2 ^ 4000
  u : b.natAbs < 2 ^ 4000
theorem ev_want {a b : Int} (h : isR a b = true) : f_want_ratio [rat a b] = some (.ok (.val (rat a b)), .none) := by
  simp [f_want_ratio, m_want_ratio, ev_is_ratio, h, mkFn, isListAt, slots, slot0, mSeq, mAsg, mRet, mIfS, mDrop, mB, bnd, Mi.ret, thaw, thawR, mVal, valR, mVar, mC, mBin, mUn, op1, op2, look, opN, lookAll, mCall, aT, aV, aNil, mStore, okSet, isT, asB, mTup, mLst, valsOf, mNx, outIo, retR, Md.isOwn, Md.isIo, Md.isLk, fI, mIf, mAnd, mOr, mNot, mAndV, mOrV, mChain, mPar, mPar3, mF, mFk, callF, callIo, putIo, freezeBy, flatD, flatAll, flatY, mayGive, notSlot, gath, mAsgG, gT, gsCons, gsNil, gIx, gN, setIx, mSetIx, ownAt, mApp, appTo, mIsi, isiD, isK, kinds, tyD, mSl, mPart, mNoPart, asInt, slD, cutD, lenD, absD, max2D, min2D, gcdD, lcmD, intD, listD, tupleD, allD, boolsOf, divmodD, addD, subD, mulD, fdivD, modD, powD, ltD, leD, gtD, geD, isD, isntD, negD, notD, ixD, revD, atI, ixN, isNone, sizeLine, eqsD, nesD, eqD, neD]
theorem ev_want_two {a b c d : Int} (h : isR a b = true) (k : isR c d = true) : f__want_two [rat a b, rat c d] = some (.ok (.val .none), .none) := by
  simp [f__want_two, m__want_two, ev_want h, ev_want k, mkFn, isListAt, slots, slot0, mSeq, mAsg, mRet, mIfS, mDrop, mB, bnd, Mi.ret, thaw, thawR, mVal, valR, mVar, mC, mBin, mUn, op1, op2, look, opN, lookAll, mCall, aT, aV, aNil, mStore, okSet, isT, asB, mTup, mLst, valsOf, mNx, outIo, retR, Md.isOwn, Md.isIo, Md.isLk, fI, mIf, mAnd, mOr, mNot, mAndV, mOrV, mChain, mPar, mPar3, mF, mFk, callF, callIo, putIo, freezeBy, flatD, flatAll, flatY, mayGive, notSlot, gath, mAsgG, gT, gsCons, gsNil, gIx, gN, setIx, mSetIx, ownAt, mApp, appTo, mIsi, isiD, isK, kinds, tyD, mSl, mPart, mNoPart, asInt, slD, cutD, lenD, absD, max2D, min2D, gcdD, lcmD, intD, listD, tupleD, allD, boolsOf, divmodD, addD, subD, mulD, fdivD, modD, powD, ltD, leD, gtD, geD, isD, isntD, negD, notD, ixD, revD, atI, ixN, isNone, sizeLine, eqsD, nesD, eqD, neD]
section
variable {a b c d : Int}
theorem ev_plus (h : Sz a b) (k : Sz c d) (hb : b ≠ 0) (hd : d ≠ 0) : f_plus [rat a b, rat c d] = some (.ok (.val (red (a * d + c * b) (b * d))), .none) := by
  have m1 : mulOk a d = true := mulOk_of h.n k.u (by decide) (by decide) (by decide)
  have m2 : mulOk c b = true := mulOk_of k.n h.u (by decide) (by decide) (by decide)
  have m3 : mulOk b d = true := mulOk_of h.u k.u (by decide) (by decide) (by decide)
  by_cases e : b = d
  · subst e
    have ev := ev_fraction (n := a + c) (u := b) hb (lt_mono (add_lt h.n k.n) (by decide)) (lt_mono h.u (by decide))
    obtain ⟨q1, q2⟩ := red_eq (n := a + c) (u := b) (n' := a * b + c * b) (u' := b * b) hb (Int.mul_ne_zero hb hb) (by rw [← Int.add_mul, Int.mul_assoc])
    simp [f_plus, m_plus, shaped_int, eqv_int, ev, q1, q2, mkFn, isListAt, slots, slot0, mSeq, mAsg, mRet, mIfS, mDrop, mB, bnd, Mi.ret, thaw, thawR, mVal, valR, mVar, mC, mBin, mUn, op1, op2, look, opN, lookAll, mCall, aT, aV, aNil, mStore, okSet, isT, asB, mTup, mLst, valsOf, mNx, outIo, retR, Md.isOwn, Md.isIo, Md.isLk, fI, mIf, mAnd, mOr, mNot, mAndV, mOrV, mChain, mPar, mPar3, mF, mFk, callF, callIo, putIo, freezeBy, flatD, flatAll, flatY, mayGive, notSlot, gath, mAsgG, gT, gsCons, gsNil, gIx, gN, setIx, mSetIx, ownAt, mApp, appTo, mIsi, isiD, isK, kinds, tyD, mSl, mPart, mNoPart, asInt, slD, cutD, lenD, absD, max2D, min2D, gcdD, lcmD, intD, listD, tupleD, allD, boolsOf, divmodD, addD, subD, mulD, fdivD, modD, powD, ltD, leD, gtD, geD, isD, isntD, negD, notD, ixD, revD, atI, ixN, isNone, sizeLine, eqsD, nesD, eqD, neD]
  · have ev := ev_fraction (n := a * d + c * b) (u := b * d) (Int.mul_ne_zero hb hd) (lt_mono (add_lt (mul_lt h.n k.u) (mul_lt k.n h.u)) (by decide)) (lt_mono (mul_lt h.u k.u) (by decide))
    simp [f_plus, m_plus, shaped_int, eqv_int, e, m1, m2, m3, ev, mkFn, isListAt, slots, slot0, mSeq, mAsg, mRet, mIfS, mDrop, mB, bnd, Mi.ret, thaw, thawR, mVal, valR, mVar, mC, mBin, mUn, op1, op2, look, opN, lookAll, mCall, aT, aV, aNil, mStore, okSet, isT, asB, mTup, mLst, valsOf, mNx, outIo, retR, Md.isOwn, Md.isIo, Md.isLk, fI, mIf, mAnd, mOr, mNot, mAndV, mOrV, mChain, mPar, mPar3, mF, mFk, callF, callIo, putIo, freezeBy, flatD, flatAll, flatY, mayGive, notSlot, gath, mAsgG, gT, gsCons, gsNil, gIx, gN, setIx, mSetIx, ownAt, mApp, appTo, mIsi, isiD, isK, kinds, tyD, mSl, mPart, mNoPart, asInt, slD, cutD, lenD, absD, max2D, min2D, gcdD, lcmD, intD, listD, tupleD, allD, boolsOf, divmodD, addD, subD, mulD, fdivD, modD, powD, ltD, leD, gtD, geD, isD, isntD, negD, notD, ixD, revD, atI, ixN, isNone, sizeLine, eqsD, nesD, eqD, neD]
theorem ev_minus (h : Sz a b) (k : Sz c d) (hb : b ≠ 0) (hd : d ≠ 0) : f_minus [rat a b, rat c d] = some (.ok (.val (red (a * d - c * b) (b * d))), .none) := by
  have ev := ev_plus (a := a) (b := b) (c := -c) (d := d) h ⟨by rw [Int.natAbs_neg]; exact k.n, k.u⟩ hb hd
  have e : a * d + -c * b = a * d - c * b := by rw [Int.neg_mul]; omega
  rw [e] at ev
  simp [f_minus, m_minus, ev, mkFn, isListAt, slots, slot0, mSeq, mAsg, mRet, mIfS, mDrop, mB, bnd, Mi.ret, thaw, thawR, mVal, valR, mVar, mC, mBin, mUn, op1, op2, look, opN, lookAll, mCall, aT, aV, aNil, mStore, okSet, isT, asB, mTup, mLst, valsOf, mNx, outIo, retR, Md.isOwn, Md.isIo, Md.isLk, fI, mIf, mAnd, mOr, mNot, mAndV, mOrV, mChain, mPar, mPar3, mF, mFk, callF, callIo, putIo, freezeBy, flatD, flatAll, flatY, mayGive, notSlot, gath, mAsgG, gT, gsCons, gsNil, gIx, gN, setIx, mSetIx, ownAt, mApp, appTo, mIsi, isiD, isK, kinds, tyD, mSl, mPart, mNoPart, asInt, slD, cutD, lenD, absD, max2D, min2D, gcdD, lcmD, intD, listD, tupleD, allD, boolsOf, divmodD, addD, subD, mulD, fdivD, modD, powD, ltD, leD, gtD, geD, isD, isntD, negD, notD, ixD, revD, atI, ixN, isNone, sizeLine, eqsD, nesD, eqD, neD]
theorem ev_product (h : Sz a b) (k : Sz c d) (hb : b ≠ 0) (hd : d ≠ 0) : f_product [rat a b, rat c d] = some (.ok (.val (red (a * c) (b * d))), .none) := by
  have m1 : mulOk a c = true := mulOk_of h.n k.n (by decide) (by decide) (by decide)
  have m3 : mulOk b d = true := mulOk_of h.u k.u (by decide) (by decide) (by decide)
  have ev := ev_fraction (n := a * c) (u := b * d) (Int.mul_ne_zero hb hd) (lt_mono (mul_lt h.n k.n) (by decide)) (lt_mono (mul_lt h.u k.u) (by decide))
  simp [f_product, m_product, m1, m3, ev, mkFn, isListAt, slots, slot0, mSeq, mAsg, mRet, mIfS, mDrop, mB, bnd, Mi.ret, thaw, thawR, mVal, valR, mVar, mC, mBin, mUn, op1, op2, look, opN, lookAll, mCall, aT, aV, aNil, mStore, okSet, isT, asB, mTup, mLst, valsOf, mNx, outIo, retR, Md.isOwn, Md.isIo, Md.isLk, fI, mIf, mAnd, mOr, mNot, mAndV, mOrV, mChain, mPar, mPar3, mF, mFk, callF, callIo, putIo, freezeBy, flatD, flatAll, flatY, mayGive, notSlot, gath, mAsgG, gT, gsCons, gsNil, gIx, gN, setIx, mSetIx, ownAt, mApp, appTo, mIsi, isiD, isK, kinds, tyD, mSl, mPart, mNoPart, asInt, slD, cutD, lenD, absD, max2D, min2D, gcdD, lcmD, intD, listD, tupleD, allD, boolsOf, divmodD, addD, subD, mulD, fdivD, modD, powD, ltD, leD, gtD, geD, isD, isntD, negD, notD, ixD, revD, atI, ixN, isNone, sizeLine, eqsD, nesD, eqD, neD]
theorem ev_quotient (h : Sz a b) (k : Sz c d) (hb : b ≠ 0) (hc : c ≠ 0) : f_quotient [rat a b, rat c d] = some (.ok (.val (red (a * d) (b * c))), .none) := by
  have m1 : mulOk a d = true := mulOk_of h.n k.u (by decide) (by decide) (by decide)
  have m3 : mulOk b c = true := mulOk_of h.u k.n (by decide) (by decide) (by decide)
  have ev := ev_fraction (n := a * d) (u := b * c) (Int.mul_ne_zero hb hc) (lt_mono (mul_lt h.n k.u) (by decide)) (lt_mono (mul_lt h.u k.n) (by decide))
  simp [f_quotient, m_quotient, m1, m3, ev, mkFn, isListAt, slots, slot0, mSeq, mAsg, mRet, mIfS, mDrop, mB, bnd, Mi.ret, thaw, thawR, mVal, valR, mVar, mC, mBin, mUn, op1, op2, look, opN, lookAll, mCall, aT, aV, aNil, mStore, okSet, isT, asB, mTup, mLst, valsOf, mNx, outIo, retR, Md.isOwn, Md.isIo, Md.isLk, fI, mIf, mAnd, mOr, mNot, mAndV, mOrV, mChain, mPar, mPar3, mF, mFk, callF, callIo, putIo, freezeBy, flatD, flatAll, flatY, mayGive, notSlot, gath, mAsgG, gT, gsCons, gsNil, gIx, gN, setIx, mSetIx, ownAt, mApp, appTo, mIsi, isiD, isK, kinds, tyD, mSl, mPart, mNoPart, asInt, slD, cutD, lenD, absD, max2D, min2D, gcdD, lcmD, intD, listD, tupleD, allD, boolsOf, divmodD, addD, subD, mulD, fdivD, modD, powD, ltD, leD, gtD, geD, isD, isntD, negD, notD, ixD, revD, atI, ixN, isNone, sizeLine, eqsD, nesD, eqD, neD]
theorem ev_is_less (h : Sz a b) (k : Sz c d) : f_is_less [rat a b, rat c d] = some (.ok (.val (.bool (decide (a * d < c * b)))), .none) := by
  have m1 : mulOk a d = true := mulOk_of h.n k.u (by decide) (by decide) (by decide)
  have m2 : mulOk c b = true := mulOk_of k.n h.u (by decide) (by decide) (by decide)
  simp [f_is_less, m_is_less, m1, m2, mkFn, isListAt, slots, slot0, mSeq, mAsg, mRet, mIfS, mDrop, mB, bnd, Mi.ret, thaw, thawR, mVal, valR, mVar, mC, mBin, mUn, op1, op2, look, opN, lookAll, mCall, aT, aV, aNil, mStore, okSet, isT, asB, mTup, mLst, valsOf, mNx, outIo, retR, Md.isOwn, Md.isIo, Md.isLk, fI, mIf, mAnd, mOr, mNot, mAndV, mOrV, mChain, mPar, mPar3, mF, mFk, callF, callIo, putIo, freezeBy, flatD, flatAll, flatY, mayGive, notSlot, gath, mAsgG, gT, gsCons, gsNil, gIx, gN, setIx, mSetIx, ownAt, mApp, appTo, mIsi, isiD, isK, kinds, tyD, mSl, mPart, mNoPart, asInt, slD, cutD, lenD, absD, max2D, min2D, gcdD, lcmD, intD, listD, tupleD, allD, boolsOf, divmodD, addD, subD, mulD, fdivD, modD, powD, ltD, leD, gtD, geD, isD, isntD, negD, notD, ixD, revD, atI, ixN, isNone, sizeLine, eqsD, nesD, eqD, neD]
theorem ev_told (h1 : b < bey) (h2 : -bey < a) (h3 : a < bey) : f__told [rat a b] = some (.ok (.val (rat a b)), .none) := by
  simp [f__told, m__told, v_bey, h1, h2, h3, mkFn, isListAt, slots, slot0, mSeq, mAsg, mRet, mIfS, mDrop, mB, bnd, Mi.ret, thaw, thawR, mVal, valR, mVar, mC, mBin, mUn, op1, op2, look, opN, lookAll, mCall, aT, aV, aNil, mStore, okSet, isT, asB, mTup, mLst, valsOf, mNx, outIo, retR, Md.isOwn, Md.isIo, Md.isLk, fI, mIf, mAnd, mOr, mNot, mAndV, mOrV, mChain, mPar, mPar3, mF, mFk, callF, callIo, putIo, freezeBy, flatD, flatAll, flatY, mayGive, notSlot, gath, mAsgG, gT, gsCons, gsNil, gIx, gN, setIx, mSetIx, ownAt, mApp, appTo, mIsi, isiD, isK, kinds, tyD, mSl, mPart, mNoPart, asInt, slD, cutD, lenD, absD, max2D, min2D, gcdD, lcmD, intD, listD, tupleD, allD, boolsOf, divmodD, addD, subD, mulD, fdivD, modD, powD, ltD, leD, gtD, geD, isD, isntD, negD, notD, ixD, revD, atI, ixN, isNone, sizeLine, eqsD, nesD, eqD, neD]
theorem eqv_rat : PyData.eqv (rat a b) (rat c d) = decide (a = c ∧ b = d) := by
  simp only [PyData.eqv, PyData.eqvAll]
  by_cases h : a = c <;> by_cases k : b = d <;> simp [h, k]
theorem shaped_rat : SeqAt.shaped (rat a b) = true := by simp [SeqAt.shaped, PyData.canLay0, PyData.canLayAll0, PyData.depth, PyData.depthAll]
/-- within the bounds of the law: below 10 ^ 60 -/
structure Rt (a b : Int) : Prop where
  low : Low a b
  n : a.natAbs < 10 ^ 60
  u : b.natAbs < 10 ^ 60
theorem Rt.sz (h : Rt a b) : Sz a b := ⟨Nat.lt_trans h.n (by decide), Nat.lt_trans h.u (by decide)⟩
theorem Rt.ne (h : Rt a b) : b ≠ 0 := by have := h.low.1; omega
theorem Rt.isR (h : Rt a b) : isR a b = true := by
  have e : (10 : Int) ^ 400 = bey := rfl
  have l : (10 : Int) ^ 60 < bey := by decide
  have p : ((10 ^ 60 : Nat) : Int) = (10 : Int) ^ 60 := by decide
  have h1 := h.n
  have h2 := h.u
  have h3 := h.low.1
  simp only [K11.isR, Bool.and_eq_true, decide_eq_true_eq]
  exact ⟨⟨⟨h3, by omega⟩, by omega, by omega⟩, h.low.2⟩
/-- a sum's, a product's bounds -/
theorem told_red {n u : Int} (hn : n.natAbs < 10 ^ 200) (hu : u.natAbs < 10 ^ 200) (h0 : u ≠ 0) : f__told [red n u] = some (.ok (.val (red n u)), .none) := by
  have l : (10 : Int) ^ 200 < bey := by decide
  have p : ((10 ^ 200 : Nat) : Int) = (10 : Int) ^ 200 := by decide
  have h1 := redN_le n u
  have h2 := redU_le n u
  exact ev_told (by omega) (by omega) (by omega)
theorem mul_lt10 {i j : Int} (hi : i.natAbs < 10 ^ 60) (hj : j.natAbs < 10 ^ 60) : (i * j).natAbs < 10 ^ 120 := by
  rw [Int.natAbs_mul, show (10 : Nat) ^ 120 = 10 ^ 60 * 10 ^ 60 by decide]
  exact Nat.mul_lt_mul_of_lt_of_lt hi hj
theorem big10 {i : Int} (hi : i.natAbs < 10 ^ 120) : i.natAbs < 10 ^ 200 := Nat.lt_trans hi (by decide)
theorem ev_added (h : Rt a b) (k : Rt c d) : f_added [rat a b, rat c d] = some (.ok (.val (red (a * d + c * b) (b * d))), .none) := by
  have t := told_red (n := a * d + c * b) (u := b * d) (by
    have h1 := mul_lt10 h.n k.u
    have h2 := mul_lt10 k.n h.u
    have h3 := Int.natAbs_add_le (a * d) (c * b)
    have h4 : 10 ^ 120 + 10 ^ 120 < 10 ^ 200 := by decide
    omega) (big10 (mul_lt10 h.u k.u)) (Int.mul_ne_zero h.ne k.ne)
  simp [f_added, m_added, ev_want_two h.isR k.isR, ev_plus h.sz k.sz h.ne k.ne, t, mkFn, isListAt, slots, slot0, mSeq, mAsg, mRet, mIfS, mDrop, mB, bnd, Mi.ret, thaw, thawR, mVal, valR, mVar, mC, mBin, mUn, op1, op2, look, opN, lookAll, mCall, aT, aV, aNil, mStore, okSet, isT, asB, mTup, mLst, valsOf, mNx, outIo, retR, Md.isOwn, Md.isIo, Md.isLk, fI, mIf, mAnd, mOr, mNot, mAndV, mOrV, mChain, mPar, mPar3, mF, mFk, callF, callIo, putIo, freezeBy, flatD, flatAll, flatY, mayGive, notSlot, gath, mAsgG, gT, gsCons, gsNil, gIx, gN, setIx, mSetIx, ownAt, mApp, appTo, mIsi, isiD, isK, kinds, tyD, mSl, mPart, mNoPart, asInt, slD, cutD, lenD, absD, max2D, min2D, gcdD, lcmD, intD, listD, tupleD, allD, boolsOf, divmodD, addD, subD, mulD, fdivD, modD, powD, ltD, leD, gtD, geD, isD, isntD, negD, notD, ixD, revD, atI, ixN, isNone, sizeLine, eqsD, nesD, eqD, neD]
theorem ev_less (h : Rt a b) (k : Rt c d) : f_less [rat a b, rat c d] = some (.ok (.val (red (a * d - c * b) (b * d))), .none) := by
  have t := told_red (n := a * d - c * b) (u := b * d) (by
    have h1 := mul_lt10 h.n k.u
    have h2 := mul_lt10 k.n h.u
    have h3 := Int.natAbs_sub_le (a * d) (c * b)
    have h4 : 10 ^ 120 + 10 ^ 120 < 10 ^ 200 := by decide
    omega) (big10 (mul_lt10 h.u k.u)) (Int.mul_ne_zero h.ne k.ne)
  simp [f_less, m_less, ev_want_two h.isR k.isR, ev_minus h.sz k.sz h.ne k.ne, t, mkFn, isListAt, slots, slot0, mSeq, mAsg, mRet, mIfS, mDrop, mB, bnd, Mi.ret, thaw, thawR, mVal, valR, mVar, mC, mBin, mUn, op1, op2, look, opN, lookAll, mCall, aT, aV, aNil, mStore, okSet, isT, asB, mTup, mLst, valsOf, mNx, outIo, retR, Md.isOwn, Md.isIo, Md.isLk, fI, mIf, mAnd, mOr, mNot, mAndV, mOrV, mChain, mPar, mPar3, mF, mFk, callF, callIo, putIo, freezeBy, flatD, flatAll, flatY, mayGive, notSlot, gath, mAsgG, gT, gsCons, gsNil, gIx, gN, setIx, mSetIx, ownAt, mApp, appTo, mIsi, isiD, isK, kinds, tyD, mSl, mPart, mNoPart, asInt, slD, cutD, lenD, absD, max2D, min2D, gcdD, lcmD, intD, listD, tupleD, allD, boolsOf, divmodD, addD, subD, mulD, fdivD, modD, powD, ltD, leD, gtD, geD, isD, isntD, negD, notD, ixD, revD, atI, ixN, isNone, sizeLine, eqsD, nesD, eqD, neD]
theorem ev_times (h : Rt a b) (k : Rt c d) : f_times [rat a b, rat c d] = some (.ok (.val (red (a * c) (b * d))), .none) := by
  have t := told_red (n := a * c) (u := b * d) (big10 (mul_lt10 h.n k.n)) (big10 (mul_lt10 h.u k.u)) (Int.mul_ne_zero h.ne k.ne)
  simp [f_times, m_times, ev_want_two h.isR k.isR, ev_product h.sz k.sz h.ne k.ne, t, mkFn, isListAt, slots, slot0, mSeq, mAsg, mRet, mIfS, mDrop, mB, bnd, Mi.ret, thaw, thawR, mVal, valR, mVar, mC, mBin, mUn, op1, op2, look, opN, lookAll, mCall, aT, aV, aNil, mStore, okSet, isT, asB, mTup, mLst, valsOf, mNx, outIo, retR, Md.isOwn, Md.isIo, Md.isLk, fI, mIf, mAnd, mOr, mNot, mAndV, mOrV, mChain, mPar, mPar3, mF, mFk, callF, callIo, putIo, freezeBy, flatD, flatAll, flatY, mayGive, notSlot, gath, mAsgG, gT, gsCons, gsNil, gIx, gN, setIx, mSetIx, ownAt, mApp, appTo, mIsi, isiD, isK, kinds, tyD, mSl, mPart, mNoPart, asInt, slD, cutD, lenD, absD, max2D, min2D, gcdD, lcmD, intD, listD, tupleD, allD, boolsOf, divmodD, addD, subD, mulD, fdivD, modD, powD, ltD, leD, gtD, geD, isD, isntD, negD, notD, ixD, revD, atI, ixN, isNone, sizeLine, eqsD, nesD, eqD, neD]
theorem ev_over (h : Rt a b) (k : Rt c d) (hc : c ≠ 0) : f_over [rat a b, rat c d] = some (.ok (.val (red (a * d) (b * c))), .none) := by
  have t := told_red (n := a * d) (u := b * c) (big10 (mul_lt10 h.n k.u)) (big10 (mul_lt10 h.u k.n)) (Int.mul_ne_zero h.ne hc)
  have e : v_NOUGHT = rat 0 1 := rfl
  have sh : SeqAt.shaped (rat c d) = true := shaped_rat
  have sh2 : SeqAt.shaped (rat 0 1) = true := shaped_rat
  simp [f_over, m_over, ev_want_two h.isR k.isR, ev_quotient h.sz k.sz h.ne hc, t, e, sh, sh2, eqv_rat, hc, mkFn, isListAt, slots, slot0, mSeq, mAsg, mRet, mIfS, mDrop, mB, bnd, Mi.ret, thaw, thawR, mVal, valR, mVar, mC, mBin, mUn, op1, op2, look, opN, lookAll, mCall, aT, aV, aNil, mStore, okSet, isT, asB, mTup, mLst, valsOf, mNx, outIo, retR, Md.isOwn, Md.isIo, Md.isLk, fI, mIf, mAnd, mOr, mNot, mAndV, mOrV, mChain, mPar, mPar3, mF, mFk, callF, callIo, putIo, freezeBy, flatD, flatAll, flatY, mayGive, notSlot, gath, mAsgG, gT, gsCons, gsNil, gIx, gN, setIx, mSetIx, ownAt, mApp, appTo, mIsi, isiD, isK, kinds, tyD, mSl, mPart, mNoPart, asInt, slD, cutD, lenD, absD, max2D, min2D, gcdD, lcmD, intD, listD, tupleD, allD, boolsOf, divmodD, addD, subD, mulD, fdivD, modD, powD, ltD, leD, gtD, geD, isD, isntD, negD, notD, ixD, revD, atI, ixN, isNone, sizeLine, eqsD, nesD, eqD, neD]
theorem ev_compared (h : Rt a b) (k : Rt c d) : f_compared [rat a b, rat c d] = some (.ok (.val (.int (if a * d - c * b < 0 then -1 else if 0 < a * d - c * b then 1 else 0))), .none) := by
  have sh : SeqAt.shaped (rat a b) = true := shaped_rat
  have sh2 : SeqAt.shaped (rat c d) = true := shaped_rat
  by_cases e : a * d = c * b
  · obtain ⟨rfl, rfl⟩ := low_inj h.low k.low e
    have z : ¬ (a * b - a * b < 0) := by omega
    have z2 : ¬ (0 < a * b - a * b) := by omega
    simp [f_compared, m_compared, ev_want_two h.isR k.isR, sh, eqv_rat, z, z2, mkFn, isListAt, slots, slot0, mSeq, mAsg, mRet, mIfS, mDrop, mB, bnd, Mi.ret, thaw, thawR, mVal, valR, mVar, mC, mBin, mUn, op1, op2, look, opN, lookAll, mCall, aT, aV, aNil, mStore, okSet, isT, asB, mTup, mLst, valsOf, mNx, outIo, retR, Md.isOwn, Md.isIo, Md.isLk, fI, mIf, mAnd, mOr, mNot, mAndV, mOrV, mChain, mPar, mPar3, mF, mFk, callF, callIo, putIo, freezeBy, flatD, flatAll, flatY, mayGive, notSlot, gath, mAsgG, gT, gsCons, gsNil, gIx, gN, setIx, mSetIx, ownAt, mApp, appTo, mIsi, isiD, isK, kinds, tyD, mSl, mPart, mNoPart, asInt, slD, cutD, lenD, absD, max2D, min2D, gcdD, lcmD, intD, listD, tupleD, allD, boolsOf, divmodD, addD, subD, mulD, fdivD, modD, powD, ltD, leD, gtD, geD, isD, isntD, negD, notD, ixD, revD, atI, ixN, isNone, sizeLine, eqsD, nesD, eqD, neD]
  · have ne : ¬ (a = c ∧ b = d) := fun q => e (by rw [q.1, q.2])
    by_cases l : a * d < c * b
    · have z : a * d - c * b < 0 := by omega
      simp [f_compared, m_compared, ev_want_two h.isR k.isR, sh, sh2, eqv_rat, ne, ev_is_less h.sz k.sz, l, z, mkFn, isListAt, slots, slot0, mSeq, mAsg, mRet, mIfS, mDrop, mB, bnd, Mi.ret, thaw, thawR, mVal, valR, mVar, mC, mBin, mUn, op1, op2, look, opN, lookAll, mCall, aT, aV, aNil, mStore, okSet, isT, asB, mTup, mLst, valsOf, mNx, outIo, retR, Md.isOwn, Md.isIo, Md.isLk, fI, mIf, mAnd, mOr, mNot, mAndV, mOrV, mChain, mPar, mPar3, mF, mFk, callF, callIo, putIo, freezeBy, flatD, flatAll, flatY, mayGive, notSlot, gath, mAsgG, gT, gsCons, gsNil, gIx, gN, setIx, mSetIx, ownAt, mApp, appTo, mIsi, isiD, isK, kinds, tyD, mSl, mPart, mNoPart, asInt, slD, cutD, lenD, absD, max2D, min2D, gcdD, lcmD, intD, listD, tupleD, allD, boolsOf, divmodD, addD, subD, mulD, fdivD, modD, powD, ltD, leD, gtD, geD, isD, isntD, negD, notD, ixD, revD, atI, ixN, isNone, sizeLine, eqsD, nesD, eqD, neD]
    · have z : ¬ (a * d - c * b < 0) := by omega
      have z2 : 0 < a * d - c * b := by omega
      have l2 : c * b < a * d := by omega
      simp [f_compared, m_compared, ev_want_two h.isR k.isR, sh, sh2, eqv_rat, ne, ev_is_less h.sz k.sz, l, z, z2, l2, mkFn, isListAt, slots, slot0, mSeq, mAsg, mRet, mIfS, mDrop, mB, bnd, Mi.ret, thaw, thawR, mVal, valR, mVar, mC, mBin, mUn, op1, op2, look, opN, lookAll, mCall, aT, aV, aNil, mStore, okSet, isT, asB, mTup, mLst, valsOf, mNx, outIo, retR, Md.isOwn, Md.isIo, Md.isLk, fI, mIf, mAnd, mOr, mNot, mAndV, mOrV, mChain, mPar, mPar3, mF, mFk, callF, callIo, putIo, freezeBy, flatD, flatAll, flatY, mayGive, notSlot, gath, mAsgG, gT, gsCons, gsNil, gIx, gN, setIx, mSetIx, ownAt, mApp, appTo, mIsi, isiD, isK, kinds, tyD, mSl, mPart, mNoPart, asInt, slD, cutD, lenD, absD, max2D, min2D, gcdD, lcmD, intD, listD, tupleD, allD, boolsOf, divmodD, addD, subD, mulD, fdivD, modD, powD, ltD, leD, gtD, geD, isD, isntD, negD, notD, ixD, revD, atI, ixN, isNone, sizeLine, eqsD, nesD, eqD, neD]
theorem ev_floor (h : Rt a b) : f_floor_of [rat a b] = some (.ok (.val (.int (a / b))), .none) := by
  have dv : divOk b = true := divOk_of h.ne h.sz.u (by decide)
  have e : a.fdiv b = a / b := fdiv_eq h.low.1
  simp [f_floor_of, m_floor_of, ev_want h.isR, dv, e, mkFn, isListAt, slots, slot0, mSeq, mAsg, mRet, mIfS, mDrop, mB, bnd, Mi.ret, thaw, thawR, mVal, valR, mVar, mC, mBin, mUn, op1, op2, look, opN, lookAll, mCall, aT, aV, aNil, mStore, okSet, isT, asB, mTup, mLst, valsOf, mNx, outIo, retR, Md.isOwn, Md.isIo, Md.isLk, fI, mIf, mAnd, mOr, mNot, mAndV, mOrV, mChain, mPar, mPar3, mF, mFk, callF, callIo, putIo, freezeBy, flatD, flatAll, flatY, mayGive, notSlot, gath, mAsgG, gT, gsCons, gsNil, gIx, gN, setIx, mSetIx, ownAt, mApp, appTo, mIsi, isiD, isK, kinds, tyD, mSl, mPart, mNoPart, asInt, slD, cutD, lenD, absD, max2D, min2D, gcdD, lcmD, intD, listD, tupleD, allD, boolsOf, divmodD, addD, subD, mulD, fdivD, modD, powD, ltD, leD, gtD, geD, isD, isntD, negD, notD, ixD, revD, atI, ixN, isNone, sizeLine, eqsD, nesD, eqD, neD]
theorem ev_ceiling (h : Rt a b) : f_ceiling_of [rat a b] = some (.ok (.val (.int (-(-a / b)))), .none) := by
  have dv : divOk b = true := divOk_of h.ne h.sz.u (by decide)
  have e : (-a).fdiv b = -a / b := fdiv_eq h.low.1
  simp [f_ceiling_of, m_ceiling_of, ev_want h.isR, dv, e, mkFn, isListAt, slots, slot0, mSeq, mAsg, mRet, mIfS, mDrop, mB, bnd, Mi.ret, thaw, thawR, mVal, valR, mVar, mC, mBin, mUn, op1, op2, look, opN, lookAll, mCall, aT, aV, aNil, mStore, okSet, isT, asB, mTup, mLst, valsOf, mNx, outIo, retR, Md.isOwn, Md.isIo, Md.isLk, fI, mIf, mAnd, mOr, mNot, mAndV, mOrV, mChain, mPar, mPar3, mF, mFk, callF, callIo, putIo, freezeBy, flatD, flatAll, flatY, mayGive, notSlot, gath, mAsgG, gT, gsCons, gsNil, gIx, gN, setIx, mSetIx, ownAt, mApp, appTo, mIsi, isiD, isK, kinds, tyD, mSl, mPart, mNoPart, asInt, slD, cutD, lenD, absD, max2D, min2D, gcdD, lcmD, intD, listD, tupleD, allD, boolsOf, divmodD, addD, subD, mulD, fdivD, modD, powD, ltD, leD, gtD, geD, isD, isntD, negD, notD, ixD, revD, atI, ixN, isNone, sizeLine, eqsD, nesD, eqD, neD]
end
end K11

namespace K11
open PySem L2 Evl PySem.Spec Mi
/-! ### what repr takes -/
theorem leaves_of : ∀ {d : D}, d.canLay0 = true → d.showable = true → d.leavesShort 1921 = true
  | .none, _, _ => rfl
  | .bool _, _, _ => rfl
  | .int i, _, h => by
    have h : i.natAbs.log2 < 1920 := by simpa [PyData.showable] using h
    simp only [PyData.leavesShort, decide_eq_true_eq]
    have q := int_text_length_le (k := 1920) (by decide) h
    show (Str.ofString (toString i)).length ≤ 1921
    rw [ofString_length]
    exact q
  | .str x, h, _ => by
    have h : PyData.strOk x = true := by simpa [PyData.canLay0] using h
    simp only [PyData.leavesShort]
    unfold PyData.strOk at h
    rw [List.all_eq_true]
    intro c hc
    have := Array.all_eq_true_iff_forall_mem.mp h c (by simpa using hc)
    simp only [decide_eq_true_eq] at this ⊢
    omega
  | .list xs, h, k => by
    simp only [PyData.canLay0] at h
    simp only [PyData.showable] at k
    simp only [PyData.leavesShort]
    exact go h k
  | .tuple xs, h, k => by
    simp only [PyData.canLay0] at h
    simp only [PyData.showable] at k
    simp only [PyData.leavesShort]
    exact go h k
  | .dict _, h, _ => by simp [PyData.canLay0] at h
where
  go : ∀ {xs : List D}, PyData.canLayAll0 xs = true → PyData.showableAll xs = true → PyData.leavesShortAll 1921 xs = true
  | [], _, _ => rfl
  | x :: xs, h, k => by
    simp only [PyData.canLayAll0, Bool.and_eq_true] at h
    simp only [PyData.showableAll, Bool.and_eq_true] at k
    simp only [PyData.leavesShortAll, Bool.and_eq_true]
    exact ⟨leaves_of h.1 k.1, go h.2 k.2⟩
theorem reprOk_of {d : D} (h1 : d.canLay0 = true) (h2 : d.showable = true) (h3 : d.depth ≤ 64) (h4 : d.bulk ≤ 8000) : reprOk d = true := by
  have h := PyData.shown_le_bulk 1921 (by decide) d (leaves_of h1 h2)
  unfold reprOk
  have e : sizeLine = 16777216 := rfl
  simp only [h1, h2, Bool.true_and, Bool.and_eq_true, decide_eq_true_eq]
  exact ⟨h3, by rw [e]; omega⟩
theorem lg1920 {i : Int} {k : Nat} (h : i.natAbs < 10 ^ 500) : i.natAbs.log2 < 1920 := lg_of (Nat.lt_trans h (by decide)) (by decide)
section
variable {a b c d : Int}
theorem show_red {n u : Int} (hn : n.natAbs < 10 ^ 500) (hu : u.natAbs < 10 ^ 500) : (redN n u).natAbs.log2 < 1920 ∧ (redU n u).natAbs.log2 < 1920 :=
  ⟨lg1920 (k := 0) (Nat.lt_of_le_of_lt (redN_le n u) hn), lg1920 (k := 0) (Nat.lt_of_le_of_lt (redU_le n u) hu)⟩
theorem ev_two (h : Rt a b) (k : Rt c d) : f__law_two [rat a b, rat c d] = some (.ok (.val (.bool true)), .none) := by
  have p1 := mul_lt10 h.n k.u
  have p2 := mul_lt10 k.n h.u
  have p3 := mul_lt10 h.u k.u
  have p4 := mul_lt10 h.n k.n
  have p5 := mul_lt10 h.u k.n
  have big : 10 ^ 120 + 10 ^ 120 < 10 ^ 500 := by decide
  have s1 := Int.natAbs_add_le (a * d) (c * b)
  have s2 := Int.natAbs_sub_le (a * d) (c * b)
  have l1 : (a * d + c * b).natAbs < 10 ^ 500 := by omega
  have l2 : (a * d - c * b).natAbs < 10 ^ 500 := by omega
  have l3 : (b * d).natAbs < 10 ^ 500 := by omega
  have l4 : (a * c).natAbs < 10 ^ 500 := by omega
  have l5 : (a * d).natAbs < 10 ^ 500 := by omega
  have l6 : (b * c).natAbs < 10 ^ 500 := by omega
  have n0 : b * d ≠ 0 := Int.mul_ne_zero h.ne k.ne
  have big9 : (10 : Nat) ^ 500 < 2 ^ 9000 := by decide
  have v1 := ev_lratio n0 (Nat.lt_trans l1 big9) (Nat.lt_trans l3 big9)
  have v2 := ev_lratio n0 (Nat.lt_trans l2 big9) (Nat.lt_trans l3 big9)
  have v3 := ev_lratio n0 (Nat.lt_trans l4 big9) (Nat.lt_trans l3 big9)
  have m1 : mulOk a d = true := mulOk_of h.sz.n k.sz.u (by decide) (by decide) (by decide)
  have m2 : mulOk c b = true := mulOk_of k.sz.n h.sz.u (by decide) (by decide) (by decide)
  have m3 : mulOk b d = true := mulOk_of h.sz.u k.sz.u (by decide) (by decide) (by decide)
  have m4 : mulOk a c = true := mulOk_of h.sz.n k.sz.n (by decide) (by decide) (by decide)
  have m5 : mulOk b c = true := mulOk_of h.sz.u k.sz.n (by decide) (by decide) (by decide)
  obtain ⟨w1, w2⟩ := show_red l1 l3
  obtain ⟨w3, w4⟩ := show_red l2 l3
  obtain ⟨w5, w6⟩ := show_red l4 l3
  have cz : ∀ z : Int, (if z < 0 then (-1 : Int) else if 0 < z then 1 else 0).natAbs.log2 < 1920 := fun z => by
    split
    · decide
    · split <;> decide
  have r1 : ∀ z : Int, z.natAbs.log2 < 1920 → reprOk (.list [red (a * d + c * b) (b * d), red (a * d - c * b) (b * d), red (a * c) (b * d), .int z]) = true := fun z hz => by
    refine reprOk_of ?_ ?_ ?_ ?_
    · simp [PyData.canLay0, PyData.canLayAll0]
    · simp [PyData.showable, PyData.showableAll, w1, w2, w3, w4, w5, w6, hz]
    · simp [PyData.depth, PyData.depthAll]
    · simp [PyData.bulk, PyData.bulkAll]
  have r2 : ∀ z : Int, z.natAbs.log2 < 1920 → reprOk (.list [red (a * d - c * b) (b * d), red (a * d + c * b) (b * d), .int z]) = true := fun z hz => by
    refine reprOk_of ?_ ?_ ?_ ?_
    · simp [PyData.canLay0, PyData.canLayAll0]
    · simp [PyData.showable, PyData.showableAll, w1, w2, w3, w4, w5, w6, hz]
    · simp [PyData.depth, PyData.depthAll]
    · simp [PyData.bulk, PyData.bulkAll]
  have e1 := ev_added h k
  have e2 := ev_less h k
  have e3 := ev_times h k
  have e4 := ev_compared h k
  have big3 : 10 ^ 120 < 10 ^ 500 := by decide
  have fin : ∀ z : Int, z.natAbs.log2 < 1920 → f_compared [rat a b, rat c d] = some (.ok (.val (.int z)), .none) → ((a * d - c * b < 0 ∧ z = -1) ∨ (¬ (a * d - c * b < 0) ∧ 0 < a * d - c * b ∧ z = 1) ∨ (¬ (a * d - c * b < 0) ∧ ¬ (0 < a * d - c * b) ∧ z = 0)) → f__law_two [rat a b, rat c d] = some (.ok (.val (.bool true)), .none) := by
    intro z hz ez dz
    have q1 := r1 z hz
    have q2 := r2 z hz
    by_cases c0 : c = 0
    · have hc : decide (c = 0) = true := decide_eq_true c0
      clear c0
      rcases dz with ⟨g1, rfl⟩ | ⟨g1, g2, rfl⟩ | ⟨g1, g2, rfl⟩ <;> (try have g3 : a * d < c * b := by omega) <;> (try have g3 : ¬ (a * d < c * b) := by omega) <;> (try have g4 : c * b < a * d := by omega) <;> (try have g4 : ¬ (c * b < a * d) := by omega)
      · simp [f__law_two, m__law_two, e1, e2, e3, ez, v1, v2, v3, m1, m2, m3, m4, g1, g3, g4, reprD, q1, q2, hc, shaped_int, eqv_int, mkFn, isListAt, slots, slot0, mSeq, mAsg, mRet, mIfS, mDrop, mB, bnd, Mi.ret, thaw, thawR, mVal, valR, mVar, mC, mBin, mUn, op1, op2, look, opN, lookAll, mCall, aT, aV, aNil, mStore, okSet, isT, asB, mTup, mLst, valsOf, mNx, outIo, retR, Md.isOwn, Md.isIo, Md.isLk, fI, mIf, mAnd, mOr, mNot, mAndV, mOrV, mChain, mPar, mPar3, mF, mFk, callF, callIo, putIo, freezeBy, flatD, flatAll, flatY, mayGive, notSlot, gath, mAsgG, gT, gsCons, gsNil, gIx, gN, setIx, mSetIx, ownAt, mApp, appTo, mIsi, isiD, isK, kinds, tyD, mSl, mPart, mNoPart, asInt, slD, cutD, lenD, absD, max2D, min2D, gcdD, lcmD, intD, listD, tupleD, allD, boolsOf, divmodD, addD, subD, mulD, fdivD, modD, powD, ltD, leD, gtD, geD, isD, isntD, negD, notD, ixD, revD, atI, ixN, isNone, sizeLine, eqsD, nesD, eqD, neD]
      · simp [f__law_two, m__law_two, e1, e2, e3, ez, v1, v2, v3, m1, m2, m3, m4, g1, g2, g3, g4, reprD, q1, q2, hc, shaped_int, eqv_int, mkFn, isListAt, slots, slot0, mSeq, mAsg, mRet, mIfS, mDrop, mB, bnd, Mi.ret, thaw, thawR, mVal, valR, mVar, mC, mBin, mUn, op1, op2, look, opN, lookAll, mCall, aT, aV, aNil, mStore, okSet, isT, asB, mTup, mLst, valsOf, mNx, outIo, retR, Md.isOwn, Md.isIo, Md.isLk, fI, mIf, mAnd, mOr, mNot, mAndV, mOrV, mChain, mPar, mPar3, mF, mFk, callF, callIo, putIo, freezeBy, flatD, flatAll, flatY, mayGive, notSlot, gath, mAsgG, gT, gsCons, gsNil, gIx, gN, setIx, mSetIx, ownAt, mApp, appTo, mIsi, isiD, isK, kinds, tyD, mSl, mPart, mNoPart, asInt, slD, cutD, lenD, absD, max2D, min2D, gcdD, lcmD, intD, listD, tupleD, allD, boolsOf, divmodD, addD, subD, mulD, fdivD, modD, powD, ltD, leD, gtD, geD, isD, isntD, negD, notD, ixD, revD, atI, ixN, isNone, sizeLine, eqsD, nesD, eqD, neD]
      · simp [f__law_two, m__law_two, e1, e2, e3, ez, v1, v2, v3, m1, m2, m3, m4, g1, g2, g3, g4, reprD, q1, q2, hc, shaped_int, eqv_int, mkFn, isListAt, slots, slot0, mSeq, mAsg, mRet, mIfS, mDrop, mB, bnd, Mi.ret, thaw, thawR, mVal, valR, mVar, mC, mBin, mUn, op1, op2, look, opN, lookAll, mCall, aT, aV, aNil, mStore, okSet, isT, asB, mTup, mLst, valsOf, mNx, outIo, retR, Md.isOwn, Md.isIo, Md.isLk, fI, mIf, mAnd, mOr, mNot, mAndV, mOrV, mChain, mPar, mPar3, mF, mFk, callF, callIo, putIo, freezeBy, flatD, flatAll, flatY, mayGive, notSlot, gath, mAsgG, gT, gsCons, gsNil, gIx, gN, setIx, mSetIx, ownAt, mApp, appTo, mIsi, isiD, isK, kinds, tyD, mSl, mPart, mNoPart, asInt, slD, cutD, lenD, absD, max2D, min2D, gcdD, lcmD, intD, listD, tupleD, allD, boolsOf, divmodD, addD, subD, mulD, fdivD, modD, powD, ltD, leD, gtD, geD, isD, isntD, negD, notD, ixD, revD, atI, ixN, isNone, sizeLine, eqsD, nesD, eqD, neD]
    · have n1 : b * c ≠ 0 := Int.mul_ne_zero h.ne c0
      have v4 := ev_lratio n1 (Nat.lt_trans l5 big9) (Nat.lt_trans l6 big9)
      have e5 := ev_over h k c0
      obtain ⟨w7, w8⟩ := show_red l5 l6
      have q3 : reprOk (.list [red (a * d) (b * c), red (a * d) (b * c)]) = true := by
        refine reprOk_of ?_ ?_ ?_ ?_
        · simp [PyData.canLay0, PyData.canLayAll0]
        · simp [PyData.showable, PyData.showableAll, w7, w8]
        · simp [PyData.depth, PyData.depthAll]
        · simp [PyData.bulk, PyData.bulkAll]
      rcases dz with ⟨g1, rfl⟩ | ⟨g1, g2, rfl⟩ | ⟨g1, g2, rfl⟩ <;> (try have g3 : a * d < c * b := by omega) <;> (try have g3 : ¬ (a * d < c * b) := by omega) <;> (try have g4 : c * b < a * d := by omega) <;> (try have g4 : ¬ (c * b < a * d) := by omega) <;>
      simp [f__law_two, m__law_two, e1, e2, e3, ez, v1, v2, v3, v4, e5, m1, m2, m3, m4, m5, g1, g3, g4, reprD, q1, q2, q3, c0, shaped_int, eqv_int, mkFn, isListAt, slots, slot0, mSeq, mAsg, mRet, mIfS, mDrop, mB, bnd, Mi.ret, thaw, thawR, mVal, valR, mVar, mC, mBin, mUn, op1, op2, look, opN, lookAll, mCall, aT, aV, aNil, mStore, okSet, isT, asB, mTup, mLst, valsOf, mNx, outIo, retR, Md.isOwn, Md.isIo, Md.isLk, fI, mIf, mAnd, mOr, mNot, mAndV, mOrV, mChain, mPar, mPar3, mF, mFk, callF, callIo, putIo, freezeBy, flatD, flatAll, flatY, mayGive, notSlot, gath, mAsgG, gT, gsCons, gsNil, gIx, gN, setIx, mSetIx, ownAt, mApp, appTo, mIsi, isiD, isK, kinds, tyD, mSl, mPart, mNoPart, asInt, slD, cutD, lenD, absD, max2D, min2D, gcdD, lcmD, intD, listD, tupleD, allD, boolsOf, divmodD, addD, subD, mulD, fdivD, modD, powD, ltD, leD, gtD, geD, isD, isntD, negD, notD, ixD, revD, atI, ixN, isNone, sizeLine, eqsD, nesD, eqD, neD]
  refine fin _ (cz _) e4 ?_
  by_cases g1 : a * d - c * b < 0
  · exact .inl ⟨g1, by rw [if_pos g1]⟩
  · by_cases g2 : 0 < a * d - c * b
    · exact .inr (.inl ⟨g1, g2, by rw [if_neg g1, if_pos g2]⟩)
    · exact .inr (.inr ⟨g1, g2, by rw [if_neg g1, if_neg g2]⟩)
end
end K11

namespace K11
open PySem L2 Evl PySem.Spec Mi
theorem ev_one0 {a b lo hi : Int} (f : f_floor_of [rat a b] = some (.ok (.val (.int lo)), .none)) (c : f_ceiling_of [rat a b] = some (.ok (.val (.int hi)), .none)) (r1 : reprOk (.list [.int lo, .int hi]) = true)
    (m1 : mulOk lo b = true) (m2 : mulOk (lo + 1) b = true) (m3 : mulOk hi b = true) (m4 : mulOk (hi - 1) b = true) (d1 : lo * b ≤ a) (d2 : a < (lo + 1) * b) (d3 : a ≤ hi * b) (d4 : (hi - 1) * b < a) : f__law_one [rat a b] = some (.ok (.val (.bool true)), .none) := by
  simp [f__law_one, m__law_one, f, c, m1, m2, m3, m4, reprD, r1, d1, d2, d3, d4, mkFn, isListAt, slots, slot0, mSeq, mAsg, mRet, mIfS, mDrop, mB, bnd, Mi.ret, thaw, thawR, mVal, valR, mVar, mC, mBin, mUn, op1, op2, look, opN, lookAll, mCall, aT, aV, aNil, mStore, okSet, isT, asB, mTup, mLst, valsOf, mNx, outIo, retR, Md.isOwn, Md.isIo, Md.isLk, fI, mIf, mAnd, mOr, mNot, mAndV, mOrV, mChain, mPar, mPar3, mF, mFk, callF, callIo, putIo, freezeBy, flatD, flatAll, flatY, mayGive, notSlot, gath, mAsgG, gT, gsCons, gsNil, gIx, gN, setIx, mSetIx, ownAt, mApp, appTo, mIsi, isiD, isK, kinds, tyD, mSl, mPart, mNoPart, asInt, slD, cutD, lenD, absD, max2D, min2D, gcdD, lcmD, intD, listD, tupleD, allD, boolsOf, divmodD, addD, subD, mulD, fdivD, modD, powD, ltD, leD, gtD, geD, isD, isntD, negD, notD, ixD, revD, atI, ixN, isNone, sizeLine, eqsD, nesD, eqD, neD]
theorem ev_one {a b : Int} (h : Rt a b) : f__law_one [rat a b] = some (.ok (.val (.bool true)), .none) := by
  have hb := h.low.1
  have q1 : (a / b).natAbs ≤ a.natAbs := Int.natAbs_ediv_le_natAbs a b
  have q2 : (-a / b).natAbs ≤ a.natAbs := by rw [← Int.natAbs_neg a]; exact Int.natAbs_ediv_le_natAbs (-a) b
  have e500 : (10 : Nat) ^ 60 < 10 ^ 500 := by decide
  have e99 : (10 : Nat) ^ 60 < 2 ^ 4000 := by decide
  have e2 : (2 : Nat) ^ 4001 = 2 * 2 ^ 4000 := by rw [Nat.pow_succ, Nat.mul_comm]
  have hn := h.n
  have l1 : (a / b).natAbs.log2 < 1920 := lg1920 (k := 0) (by omega)
  have l2 : (-(-a / b)).natAbs.log2 < 1920 := lg1920 (k := 0) (by rw [Int.natAbs_neg]; omega)
  refine ev_one0 (ev_floor h) (ev_ceiling h) ?_ (mulOk_of (a := 4000) (by omega) h.sz.u (by decide) (by decide) (by decide)) (mulOk_of (a := 4001) (by omega) h.sz.u (by decide) (by decide) (by decide))
    (mulOk_of (a := 4000) (by rw [Int.natAbs_neg]; omega) h.sz.u (by decide) (by decide) (by decide)) (mulOk_of (a := 4001) (by omega) h.sz.u (by decide) (by decide) (by decide)) (Int.ediv_mul_le a (by omega)) (Int.lt_ediv_add_one_mul_self a hb) ?_ ?_
  · refine reprOk_of ?_ ?_ ?_ ?_
    · simp [PyData.canLay0, PyData.canLayAll0]
    · simp only [PyData.showable, PyData.showableAll, l1, l2]; simp
    · simp [PyData.depth, PyData.depthAll]
    · simp [PyData.bulk, PyData.bulkAll]
  · have t3' : -a / b * b ≤ -a := Int.ediv_mul_le (-a) (by omega)
    rw [Int.neg_mul]; omega
  · have t4' : -a < (-a / b + 1) * b := Int.lt_ediv_add_one_mul_self (-a) hb
    have e : (-(-a / b) - 1) * b = -((-a / b + 1) * b) := by rw [← Int.neg_mul]; congr 1; omega
    omega
/-! ### draws -/
theorem pw9 : powOk 10 9 = true := by decide +kernel
theorem pw40 : powOk 10 40 = true := by decide +kernel
theorem b40 : (10 : Nat) ^ 41 < 2 ^ 9000 := by decide
theorem ev_number {p : D} (h : PotOk p) : ∃ (r : Int) (p' : D), r.natAbs ≤ 10 ^ 40 ∧ PotOk p' ∧ f__law_number [p] = some (.ok (.val (.int r)), p') := by
  obtain ⟨x, p1, hx, h1, e1⟩ := ev_pick h (xs := [.int 3, .int 12, .int 100, .int (10 ^ 9), .int (10 ^ 40)]) (by simp) (by simp)
  have hs : ∃ s : Int, 0 ≤ s ∧ s ≤ 10 ^ 40 ∧ x = .int s := by
    simp only [List.mem_cons, List.not_mem_nil, or_false] at hx
    rcases hx with rfl | rfl | rfl | rfl | rfl
    · exact ⟨3, by decide, by decide, rfl⟩
    · exact ⟨12, by decide, by decide, rfl⟩
    · exact ⟨100, by decide, by decide, rfl⟩
    · exact ⟨10 ^ 9, by decide, by decide, rfl⟩
    · exact ⟨10 ^ 40, by decide, by decide, rfl⟩
  obtain ⟨s, s0, s1, rfl⟩ := hs
  obtain ⟨r, p2, r0, r1, h2, e2⟩ := ev_draw h1 (n := 2 * s + 1) (by omega) (by have := b40; omega)
  have m : mulOk 2 s = true := mulOk_of (a := 9000) (b := 9000) (Nat.lt_of_lt_of_le (by decide : 2 < 2 ^ 2) (Nat.pow_le_pow_right (by decide) (by decide))) (by have := b40; omega) (by decide) (by decide) (by decide)
  obtain ⟨a, b, _, _, _, rfl⟩ := h
  obtain ⟨a1, b1, _, _, _, rfl⟩ := h1
  refine ⟨r - s, p2, by omega, h2, ?_⟩
  obtain ⟨a2, b2, _, _, _, rfl⟩ := h2
  simp at e1
  simp [f__law_number, m__law_number, pw9, pw40, e1, e2, m, mkFn, isListAt, slots, slot0, mSeq, mAsg, mRet, mIfS, mDrop, mB, bnd, Mi.ret, thaw, thawR, mVal, valR, mVar, mC, mBin, mUn, op1, op2, look, opN, lookAll, mCall, aT, aV, aNil, mStore, okSet, isT, asB, mTup, mLst, valsOf, mNx, outIo, retR, Md.isOwn, Md.isIo, Md.isLk, fI, mIf, mAnd, mOr, mNot, mAndV, mOrV, mChain, mPar, mPar3, mF, mFk, callF, callIo, putIo, freezeBy, flatD, flatAll, flatY, mayGive, notSlot, gath, mAsgG, gT, gsCons, gsNil, gIx, gN, setIx, mSetIx, ownAt, mApp, appTo, mIsi, isiD, isK, kinds, tyD, mSl, mPart, mNoPart, asInt, slD, cutD, lenD, absD, max2D, min2D, gcdD, lcmD, intD, listD, tupleD, allD, boolsOf, divmodD, addD, subD, mulD, fdivD, modD, powD, ltD, leD, gtD, geD, isD, isntD, negD, notD, ixD, revD, atI, ixN, isNone, sizeLine, eqsD, nesD, eqD, neD]
theorem ev_drawn {p : D} (h : PotOk p) : ∃ (n u : Int) (p' : D), n.natAbs ≤ 10 ^ 40 ∧ u.natAbs ≤ 10 ^ 40 ∧ u ≠ 0 ∧ PotOk p' ∧ f__law_drawn [p] = some (.ok (.val (rat n u)), p') := by
  obtain ⟨n, p1, hn, h1, e1⟩ := ev_number h
  obtain ⟨u, p2, hu, h2, e2⟩ := ev_number h1
  by_cases c : u = 0
  · subst c
    obtain ⟨x, p3, hx, h3, e3⟩ := ev_pick h2 (xs := [.int 1, .int (-1), .int 6]) (by simp) (by simp)
    have hs : ∃ s : Int, s ≠ 0 ∧ s.natAbs ≤ 10 ^ 40 ∧ x = .int s := by
      simp only [List.mem_cons, List.not_mem_nil, or_false] at hx
      rcases hx with rfl | rfl | rfl
      · exact ⟨1, by decide, by decide, rfl⟩
      · exact ⟨-1, by decide, by decide, rfl⟩
      · exact ⟨6, by decide, by decide, rfl⟩
    obtain ⟨s, s0, s1, rfl⟩ := hs
    refine ⟨n, s, p3, hn, s1, s0, h3, ?_⟩
    obtain ⟨a, b, _, _, _, rfl⟩ := h
    obtain ⟨a1, b1, _, _, _, rfl⟩ := h1
    obtain ⟨a2, b2, _, _, _, rfl⟩ := h2
    obtain ⟨a3, b3, _, _, _, rfl⟩ := h3
    simp [f__law_drawn, m__law_drawn, e1, e2, e3, shaped_int, eqv_int, mkFn, isListAt, slots, slot0, mSeq, mAsg, mRet, mIfS, mDrop, mB, bnd, Mi.ret, thaw, thawR, mVal, valR, mVar, mC, mBin, mUn, op1, op2, look, opN, lookAll, mCall, aT, aV, aNil, mStore, okSet, isT, asB, mTup, mLst, valsOf, mNx, outIo, retR, Md.isOwn, Md.isIo, Md.isLk, fI, mIf, mAnd, mOr, mNot, mAndV, mOrV, mChain, mPar, mPar3, mF, mFk, callF, callIo, putIo, freezeBy, flatD, flatAll, flatY, mayGive, notSlot, gath, mAsgG, gT, gsCons, gsNil, gIx, gN, setIx, mSetIx, ownAt, mApp, appTo, mIsi, isiD, isK, kinds, tyD, mSl, mPart, mNoPart, asInt, slD, cutD, lenD, absD, max2D, min2D, gcdD, lcmD, intD, listD, tupleD, allD, boolsOf, divmodD, addD, subD, mulD, fdivD, modD, powD, ltD, leD, gtD, geD, isD, isntD, negD, notD, ixD, revD, atI, ixN, isNone, sizeLine, eqsD, nesD, eqD, neD]
  · refine ⟨n, u, p2, hn, hu, c, h2, ?_⟩
    obtain ⟨a, b, _, _, _, rfl⟩ := h
    obtain ⟨a1, b1, _, _, _, rfl⟩ := h1
    obtain ⟨a2, b2, _, _, _, rfl⟩ := h2
    simp [f__law_drawn, m__law_drawn, e1, e2, c, shaped_int, eqv_int, mkFn, isListAt, slots, slot0, mSeq, mAsg, mRet, mIfS, mDrop, mB, bnd, Mi.ret, thaw, thawR, mVal, valR, mVar, mC, mBin, mUn, op1, op2, look, opN, lookAll, mCall, aT, aV, aNil, mStore, okSet, isT, asB, mTup, mLst, valsOf, mNx, outIo, retR, Md.isOwn, Md.isIo, Md.isLk, fI, mIf, mAnd, mOr, mNot, mAndV, mOrV, mChain, mPar, mPar3, mF, mFk, callF, callIo, putIo, freezeBy, flatD, flatAll, flatY, mayGive, notSlot, gath, mAsgG, gT, gsCons, gsNil, gIx, gN, setIx, mSetIx, ownAt, mApp, appTo, mIsi, isiD, isK, kinds, tyD, mSl, mPart, mNoPart, asInt, slD, cutD, lenD, absD, max2D, min2D, gcdD, lcmD, intD, listD, tupleD, allD, boolsOf, divmodD, addD, subD, mulD, fdivD, modD, powD, ltD, leD, gtD, geD, isD, isntD, negD, notD, ixD, revD, atI, ixN, isNone, sizeLine, eqsD, nesD, eqD, neD]
/-- what _law_second gives -/
def Snd (a b c d : Int) : Prop := Low c d ∧ ((c.natAbs = a.natAbs ∧ d = b) ∨ (∃ e : Int, (e = 1 ∨ e = -1) ∧ c = redN (a * 1000 + e) (b * 1000) ∧ d = redU (a * 1000 + e) (b * 1000)) ∨ (c.natAbs ≤ 10 ^ 40 ∧ d.natAbs ≤ 10 ^ 40))
theorem ev_second {p : D} (h : PotOk p) {a b : Int} (l : Low a b) (hs : Sz a b) : ∃ (c d : Int) (p' : D), Snd a b c d ∧ PotOk p' ∧ f__law_second [p, rat a b] = some (.ok (.val (rat c d)), p') := by
  obtain ⟨w, p1, w0, w1, h1, e1⟩ := ev_draw h (n := 6) (by decide) (by decide)
  by_cases c0 : w = 0
  · subst c0
    refine ⟨a, b, p1, ⟨l, .inl ⟨rfl, rfl⟩⟩, h1, ?_⟩
    obtain ⟨a, b, _, _, _, rfl⟩ := h
    obtain ⟨a1, b1, _, _, _, rfl⟩ := h1
    simp [f__law_second, m__law_second, e1, shaped_int, eqv_int, mkFn, isListAt, slots, slot0, mSeq, mAsg, mRet, mIfS, mDrop, mB, bnd, Mi.ret, thaw, thawR, mVal, valR, mVar, mC, mBin, mUn, op1, op2, look, opN, lookAll, mCall, aT, aV, aNil, mStore, okSet, isT, asB, mTup, mLst, valsOf, mNx, outIo, retR, Md.isOwn, Md.isIo, Md.isLk, fI, mIf, mAnd, mOr, mNot, mAndV, mOrV, mChain, mPar, mPar3, mF, mFk, callF, callIo, putIo, freezeBy, flatD, flatAll, flatY, mayGive, notSlot, gath, mAsgG, gT, gsCons, gsNil, gIx, gN, setIx, mSetIx, ownAt, mApp, appTo, mIsi, isiD, isK, kinds, tyD, mSl, mPart, mNoPart, asInt, slD, cutD, lenD, absD, max2D, min2D, gcdD, lcmD, intD, listD, tupleD, allD, boolsOf, divmodD, addD, subD, mulD, fdivD, modD, powD, ltD, leD, gtD, geD, isD, isntD, negD, notD, ixD, revD, atI, ixN, isNone, sizeLine, eqsD, nesD, eqD, neD]
  by_cases c1 : w = 1
  · subst c1
    refine ⟨-a, b, p1, ⟨⟨l.1, by rw [Int.neg_gcd]; exact l.2⟩, .inl ⟨Int.natAbs_neg _, rfl⟩⟩, h1, ?_⟩
    obtain ⟨a, b, _, _, _, rfl⟩ := h
    obtain ⟨a1, b1, _, _, _, rfl⟩ := h1
    simp [f__law_second, m__law_second, e1, shaped_int, eqv_int, mkFn, isListAt, slots, slot0, mSeq, mAsg, mRet, mIfS, mDrop, mB, bnd, Mi.ret, thaw, thawR, mVal, valR, mVar, mC, mBin, mUn, op1, op2, look, opN, lookAll, mCall, aT, aV, aNil, mStore, okSet, isT, asB, mTup, mLst, valsOf, mNx, outIo, retR, Md.isOwn, Md.isIo, Md.isLk, fI, mIf, mAnd, mOr, mNot, mAndV, mOrV, mChain, mPar, mPar3, mF, mFk, callF, callIo, putIo, freezeBy, flatD, flatAll, flatY, mayGive, notSlot, gath, mAsgG, gT, gsCons, gsNil, gIx, gN, setIx, mSetIx, ownAt, mApp, appTo, mIsi, isiD, isK, kinds, tyD, mSl, mPart, mNoPart, asInt, slD, cutD, lenD, absD, max2D, min2D, gcdD, lcmD, intD, listD, tupleD, allD, boolsOf, divmodD, addD, subD, mulD, fdivD, modD, powD, ltD, leD, gtD, geD, isD, isntD, negD, notD, ixD, revD, atI, ixN, isNone, sizeLine, eqsD, nesD, eqD, neD]
  by_cases c2 : w = 2
  · subst c2
    obtain ⟨x, p2, hx, h2, e2⟩ := ev_pick h1 (xs := [.int (-1), .int 1]) (by simp) (by simp)
    have he : ∃ e : Int, (e = 1 ∨ e = -1) ∧ x = .int e := by
      simp only [List.mem_cons, List.not_mem_nil, or_false] at hx
      rcases hx with rfl | rfl
      · exact ⟨-1, .inr rfl, rfl⟩
      · exact ⟨1, .inl rfl, rfl⟩
    obtain ⟨e, he, rfl⟩ := he
    have hb0 : b * 1000 ≠ 0 := by have := l.1; omega
    have k1 : (1000 : Int).natAbs < 2 ^ 10 := by decide
    have z1 := mul_lt hs.n k1
    have z2 := mul_lt hs.u k1
    have z3 : (2 : Nat) ^ (4000 + 10) + 1 < 2 ^ 9000 := by decide
    have z4 : (2 : Nat) ^ (4000 + 10) < 2 ^ 9000 := by decide
    have v := ev_lratio (n := a * 1000 + e) (u := b * 1000) hb0 (by omega) (by omega)
    have m1 : mulOk a 1000 = true := mulOk_of hs.n k1 (by decide) (by decide) (by decide)
    have m2 : mulOk b 1000 = true := mulOk_of hs.u k1 (by decide) (by decide) (by decide)
    refine ⟨_, _, p2, ⟨red_low hb0, .inr (.inl ⟨e, he, rfl, rfl⟩)⟩, h2, ?_⟩
    obtain ⟨a, b, _, _, _, rfl⟩ := h
    obtain ⟨a1, b1, _, _, _, rfl⟩ := h1
    obtain ⟨a2, b2, _, _, _, rfl⟩ := h2
    simp [f__law_second, m__law_second, e1, e2, m1, m2, v, shaped_int, eqv_int, mkFn, isListAt, slots, slot0, mSeq, mAsg, mRet, mIfS, mDrop, mB, bnd, Mi.ret, thaw, thawR, mVal, valR, mVar, mC, mBin, mUn, op1, op2, look, opN, lookAll, mCall, aT, aV, aNil, mStore, okSet, isT, asB, mTup, mLst, valsOf, mNx, outIo, retR, Md.isOwn, Md.isIo, Md.isLk, fI, mIf, mAnd, mOr, mNot, mAndV, mOrV, mChain, mPar, mPar3, mF, mFk, callF, callIo, putIo, freezeBy, flatD, flatAll, flatY, mayGive, notSlot, gath, mAsgG, gT, gsCons, gsNil, gIx, gN, setIx, mSetIx, ownAt, mApp, appTo, mIsi, isiD, isK, kinds, tyD, mSl, mPart, mNoPart, asInt, slD, cutD, lenD, absD, max2D, min2D, gcdD, lcmD, intD, listD, tupleD, allD, boolsOf, divmodD, addD, subD, mulD, fdivD, modD, powD, ltD, leD, gtD, geD, isD, isntD, negD, notD, ixD, revD, atI, ixN, isNone, sizeLine, eqsD, nesD, eqD, neD]
  by_cases c3 : w = 3
  · subst c3
    obtain ⟨n, p2, hn, h2, e2⟩ := ev_number h1
    refine ⟨n, 1, p2, ⟨⟨by decide, by simp⟩, .inr (.inr ⟨hn, by decide⟩)⟩, h2, ?_⟩
    obtain ⟨a, b, _, _, _, rfl⟩ := h
    obtain ⟨a1, b1, _, _, _, rfl⟩ := h1
    obtain ⟨a2, b2, _, _, _, rfl⟩ := h2
    simp [f__law_second, m__law_second, e1, e2, shaped_int, eqv_int, mkFn, isListAt, slots, slot0, mSeq, mAsg, mRet, mIfS, mDrop, mB, bnd, Mi.ret, thaw, thawR, mVal, valR, mVar, mC, mBin, mUn, op1, op2, look, opN, lookAll, mCall, aT, aV, aNil, mStore, okSet, isT, asB, mTup, mLst, valsOf, mNx, outIo, retR, Md.isOwn, Md.isIo, Md.isLk, fI, mIf, mAnd, mOr, mNot, mAndV, mOrV, mChain, mPar, mPar3, mF, mFk, callF, callIo, putIo, freezeBy, flatD, flatAll, flatY, mayGive, notSlot, gath, mAsgG, gT, gsCons, gsNil, gIx, gN, setIx, mSetIx, ownAt, mApp, appTo, mIsi, isiD, isK, kinds, tyD, mSl, mPart, mNoPart, asInt, slD, cutD, lenD, absD, max2D, min2D, gcdD, lcmD, intD, listD, tupleD, allD, boolsOf, divmodD, addD, subD, mulD, fdivD, modD, powD, ltD, leD, gtD, geD, isD, isntD, negD, notD, ixD, revD, atI, ixN, isNone, sizeLine, eqsD, nesD, eqD, neD]
  · obtain ⟨n, u, p2, hn, hu, hu0, h2, e2⟩ := ev_drawn h1
    have z := b40
    have v := ev_lratio (n := n) (u := u) hu0 (by omega) (by omega)
    refine ⟨_, _, p2, ⟨red_low hu0, .inr (.inr ⟨Nat.le_trans (redN_le n u) hn, Nat.le_trans (redU_le n u) hu⟩)⟩, h2, ?_⟩
    obtain ⟨a, b, _, _, _, rfl⟩ := h
    obtain ⟨a1, b1, _, _, _, rfl⟩ := h1
    obtain ⟨a2, b2, _, _, _, rfl⟩ := h2
    simp [f__law_second, m__law_second, e1, e2, c0, c1, c2, c3, v, shaped_int, eqv_int, mkFn, isListAt, slots, slot0, mSeq, mAsg, mRet, mIfS, mDrop, mB, bnd, Mi.ret, thaw, thawR, mVal, valR, mVar, mC, mBin, mUn, op1, op2, look, opN, lookAll, mCall, aT, aV, aNil, mStore, okSet, isT, asB, mTup, mLst, valsOf, mNx, outIo, retR, Md.isOwn, Md.isIo, Md.isLk, fI, mIf, mAnd, mOr, mNot, mAndV, mOrV, mChain, mPar, mPar3, mF, mFk, callF, callIo, putIo, freezeBy, flatD, flatAll, flatY, mayGive, notSlot, gath, mAsgG, gT, gsCons, gsNil, gIx, gN, setIx, mSetIx, ownAt, mApp, appTo, mIsi, isiD, isK, kinds, tyD, mSl, mPart, mNoPart, asInt, slD, cutD, lenD, absD, max2D, min2D, gcdD, lcmD, intD, listD, tupleD, allD, boolsOf, divmodD, addD, subD, mulD, fdivD, modD, powD, ltD, leD, gtD, geD, isD, isntD, negD, notD, ixD, revD, atI, ixN, isNone, sizeLine, eqsD, nesD, eqD, neD]
end K11

namespace K11
open PySem L2 Evl PySem.Spec Mi
abbrev rats (ps : List (Int × Int)) : List D := ps.map fun p => rat p.1 p.2
def LB : Nat → Nat
  | 0 => 1
  | k + 1 => 100 * 10 ^ (40 * k)
/-- the drawn list: its ratios' unders divide a number that grows slowly -/
def Fnd (ps : List (Int × Int)) : Prop := ∃ L : Nat, 0 < L ∧ L ≤ LB ps.length ∧ ∀ p ∈ ps, Low p.1 p.2 ∧ p.2.natAbs ∣ L ∧ p.1.natAbs ≤ (10 ^ 40 + ps.length) * p.2.natAbs ∧ p.2.natAbs ≤ 10 ^ (40 + 3 * ps.length)
theorem fnd_nil : Fnd [] := ⟨1, by decide, by decide, fun p h => by cases h⟩
/-- one more -/
theorem fnd_add {ps : List (Int × Int)} {c d : Int} {m : Nat} (h : ∃ L : Nat, 0 < L ∧ L ≤ LB ps.length ∧ ∀ p ∈ ps, Low p.1 p.2 ∧ p.2.natAbs ∣ L ∧ p.1.natAbs ≤ (10 ^ 40 + ps.length) * p.2.natAbs ∧ p.2.natAbs ≤ 10 ^ (40 + 3 * ps.length) ∧ True) (L : Nat) (hL : 0 < L) (hL2 : ∀ p ∈ ps, p.2.natAbs ∣ L) (hm : 0 < m) (lb : L * m ≤ LB (ps.length + 1)) (lw : Low c d) (hd : d.natAbs ∣ L * m) (hc : c.natAbs ≤ (10 ^ 40 + (ps.length + 1)) * d.natAbs) (hu : d.natAbs ≤ 10 ^ (40 + 3 * (ps.length + 1))) : Fnd (ps ++ [(c, d)]) := by
  obtain ⟨L0, _, _, hp⟩ := h
  have hl : (ps ++ [(c, d)]).length = ps.length + 1 := by simp
  refine ⟨L * m, Nat.mul_pos hL hm, by rw [hl]; exact lb, fun p hq => ?_⟩
  rw [hl]
  rcases List.mem_append.mp hq with q | q
  · obtain ⟨h1, h2, h3, h4, _⟩ := hp p q
    refine ⟨h1, Nat.dvd_trans (hL2 p q) (Nat.dvd_mul_right _ _), Nat.le_trans h3 (Nat.mul_le_mul_right _ (by omega)), Nat.le_trans h4 (Nat.pow_le_pow_right (by decide) (by omega))⟩
  · rcases List.mem_cons.mp q with e | e
    · subst e
      exact ⟨lw, hd, hc, hu⟩
    · cases e
theorem fnd_small {ps : List (Int × Int)} (h : Fnd ps) {c d : Int} (lw : Low c d) (hc : c.natAbs ≤ 10 ^ 40) (hd : if ps = [] then d.natAbs ≤ 60 else d.natAbs ≤ 10 ^ 40) : Fnd (ps ++ [(c, d)]) := by
  obtain ⟨L, h0, h1, h2⟩ := h
  have d0 : 0 < d.natAbs := by have := lw.1; omega
  have d1 : d.natAbs ≤ 10 ^ 40 := by
    split at hd
    · exact Nat.le_trans hd (by decide)
    · exact hd
  refine fnd_add ⟨L, h0, h1, fun p hp => ⟨(h2 p hp).1, (h2 p hp).2.1, (h2 p hp).2.2.1, (h2 p hp).2.2.2, trivial⟩⟩ L h0 (fun p hp => (h2 p hp).2.1) d0 ?_ lw (Nat.dvd_mul_left _ _) ?_ ?_
  · cases ps with
    | nil =>
      rw [if_pos rfl] at hd
      have h1 : L ≤ 1 := h1
      show L * d.natAbs ≤ 100 * 10 ^ (40 * 0)
      have := Nat.mul_le_mul h1 hd
      omega
    | cons p ps =>
      have h1 : L ≤ 100 * 10 ^ (40 * ps.length) := h1
      show L * d.natAbs ≤ 100 * 10 ^ (40 * (ps.length + 1))
      have := Nat.mul_le_mul h1 d1
      rw [Nat.mul_add, Nat.pow_add, ← Nat.mul_assoc]
      exact this
  · have : (10 ^ 40 + (ps.length + 1)) * 1 ≤ (10 ^ 40 + (ps.length + 1)) * d.natAbs := Nat.mul_le_mul_left _ d0
    omega
  · exact Nat.le_trans d1 (Nat.pow_le_pow_right (by decide) (by omega))
theorem fnd_second {ps : List (Int × Int)} (h : Fnd ps) {a b c d : Int} (hm : (a, b) ∈ ps) (s : Snd a b c d) : Fnd (ps ++ [(c, d)]) := by
  obtain ⟨lw, s⟩ := s
  have ne : ps ≠ [] := fun e => by rw [e] at hm; cases hm
  rcases s with ⟨s1, s2⟩ | ⟨e, he, s1, s2⟩ | ⟨s1, s2⟩
  · obtain ⟨L, h0, h1, h2⟩ := h
    obtain ⟨q1, q2, q3, q4⟩ := h2 _ hm
    subst s2
    refine fnd_add (m := 1) ⟨L, h0, h1, fun p hp => ⟨(h2 p hp).1, (h2 p hp).2.1, (h2 p hp).2.2.1, (h2 p hp).2.2.2, trivial⟩⟩ L h0 (fun p hp => (h2 p hp).2.1) (by decide) ?_ lw (by rw [Nat.mul_one]; exact q2) ?_ ?_
    · rw [Nat.mul_one]
      refine Nat.le_trans h1 ?_
      cases ps with
      | nil => exact absurd rfl ne
      | cons p ps =>
        show 100 * 10 ^ (40 * ps.length) ≤ 100 * 10 ^ (40 * (ps.length + 1))
        exact Nat.mul_le_mul_left _ (Nat.pow_le_pow_right (by decide) (by omega))
    · rw [s1]
      exact Nat.le_trans q3 (Nat.mul_le_mul_right _ (by omega))
    · exact Nat.le_trans q4 (Nat.pow_le_pow_right (by decide) (by omega))
  · obtain ⟨L, h0, h1, h2⟩ := h
    obtain ⟨q1, q2, q3, q4⟩ := h2 _ hm
    have hb0 : b * 1000 ≠ 0 := by have := q1.1; omega
    have m1 := redN_mul (a * 1000 + e) (b * 1000)
    have m2 := redU_mul (a * 1000 + e) (b * 1000)
    rw [← s1] at m1
    rw [← s2] at m2
    have n1 : c.natAbs * (gs (a * 1000 + e) (b * 1000)).natAbs = (a * 1000 + e).natAbs := by rw [← Int.natAbs_mul, m1]
    have n2 : d.natAbs * (gs (a * 1000 + e) (b * 1000)).natAbs = b.natAbs * 1000 := by rw [← Int.natAbs_mul, m2, Int.natAbs_mul]; rfl
    have g0 : 0 < (gs (a * 1000 + e) (b * 1000)).natAbs := by
      have := gs_ne (n := a * 1000 + e) hb0
      omega
    have b0 : 0 < b.natAbs := by have := q1.1; omega
    refine fnd_add (m := 1000) ⟨L, h0, h1, fun p hp => ⟨(h2 p hp).1, (h2 p hp).2.1, (h2 p hp).2.2.1, (h2 p hp).2.2.2, trivial⟩⟩ L h0 (fun p hp => (h2 p hp).2.1) (by decide) ?_ lw ?_ ?_ ?_
    · cases ps with
      | nil => exact absurd rfl ne
      | cons p ps =>
        have h1 : L ≤ 100 * 10 ^ (40 * ps.length) := h1
        show L * 1000 ≤ 100 * 10 ^ (40 * (ps.length + 1))
        rw [Nat.mul_add, Nat.pow_add, ← Nat.mul_assoc]
        exact Nat.mul_le_mul h1 (by decide)
    · have : d.natAbs ∣ b.natAbs * 1000 := ⟨_, n2.symm⟩
      exact Nat.dvd_trans this (Nat.mul_dvd_mul_right q2 1000)
    · refine Nat.le_of_mul_le_mul_right ?_ g0
      rw [n1, Nat.mul_assoc, n2]
      have : (a * 1000 + e).natAbs ≤ a.natAbs * 1000 + 1 := by rcases he with rfl | rfl <;> omega
      have z : (10 ^ 40 + (ps.length + 1)) * (b.natAbs * 1000) = (10 ^ 40 + ps.length) * b.natAbs * 1000 + b.natAbs * 1000 := by
        rw [show 10 ^ 40 + (ps.length + 1) = (10 ^ 40 + ps.length) + 1 by omega, Nat.add_mul, Nat.one_mul, Nat.mul_assoc]
      have q3 : a.natAbs ≤ (10 ^ 40 + ps.length) * b.natAbs := q3
      have z2 := Nat.mul_le_mul_right 1000 q3
      omega
    · have : d.natAbs ≤ b.natAbs * 1000 := by
        rw [← n2]
        exact Nat.le_mul_of_pos_right _ g0
      rw [show 40 + 3 * (ps.length + 1) = (40 + 3 * ps.length) + 3 by omega, Nat.pow_add]
      exact Nat.le_trans this (Nat.mul_le_mul_right 1000 q4)
  · exact fnd_small ⟨h.choose, h.choose_spec⟩ lw s1 (by rw [if_neg ne]; exact s2)
/-! ### shapes of lists of ratios -/
theorem rats_lay : ∀ ps : List (Int × Int), PyData.canLayAll0 (rats ps) = true
  | [] => rfl
  | p :: ps => by
    show (PyData.canLay0 (rat p.1 p.2) && PyData.canLayAll0 (rats ps)) = true
    rw [rats_lay ps]
    rfl
theorem rats_depth : ∀ ps : List (Int × Int), PyData.depthAll (rats ps) ≤ 1
  | [] => by decide
  | p :: ps => by
    show max (PyData.depth (rat p.1 p.2)) (PyData.depthAll (rats ps)) ≤ 1
    have := rats_depth ps
    have e : PyData.depth (rat p.1 p.2) = 1 := by simp [PyData.depth, PyData.depthAll]
    omega
theorem shaped_rats (ps : List (Int × Int)) : SeqAt.shaped (.list (rats ps)) = true := by
  have h := rats_depth ps
  refine Bool.and_eq_true_iff.mpr ⟨?_, decide_eq_true ?_⟩
  · show PyData.canLay0 (.list (rats ps)) = true
    simp only [PyData.canLay0]
    exact rats_lay ps
  · show PyData.depth (.list (rats ps)) ≤ 64
    simp only [PyData.depth]
    omega
theorem eqv_nil (xs : List D) : PyData.eqv (.list xs) (.list []) = xs.isEmpty := by
  cases xs <;> simp [PyData.eqv, PyData.eqvAll]
theorem shaped_nil : SeqAt.shaped (.list []) = true := shaped_rats []
def bodyL : M Fl := (mIfS (mAnd (mB (mBin nesD (mVar 1) (mLst aNil))) (mB (mBin eqsD (mF 2 f__law_draw (some 0) (aT (mVar 0) (aT (mC (.int 4)) aNil))) (mC (.int 0))))) (mApp 1 (mF 2 f__law_second (some 0) (aT (mVar 0) (aT (mF 2 f__law_pick (some 0) (aT (mVar 0) (aT (mVar 1) aNil))) aNil)))) (mApp 1 (mF 2 f__law_ratio none (aT (mF 1 f__law_number (some 0) (aT (mVar 0) aNil)) (aT (mBin addD (mC (.int 1)) (mF 2 f__law_draw (some 0) (aT (mVar 0) (aT (mF 2 f__law_pick (some 0) (aT (mVar 0) (aT (mLst (aV (mC (.int 2)) (aV (mC (.int 12)) (aV (mC (.int 60)) aNil)))) aNil))) aNil)))) aNil)))))
/-- the registers of _law_list -/
def rgL (p : D) (ps : List (Int × Int)) (s : Option Slot) : R := [some ⟨.io, p⟩, some ⟨.own, .list (rats ps)⟩, s]
theorem else_ratio {p : D} (h : PotOk p) : ∃ (c d : Int) (p1 p2 p3 : D) (n r : Int) (s : Int), Low c d ∧ c.natAbs ≤ 10 ^ 40 ∧ d.natAbs ≤ 60 ∧ PotOk p1 ∧ PotOk p2 ∧ PotOk p3 ∧ f__law_number [p] = some (.ok (.val (.int n)), p1) ∧
    f__law_pick [p1, .list [.int 2, .int 12, .int 60]] = some (.ok (.val (.int s)), p2) ∧ f__law_draw [p2, .int s] = some (.ok (.val (.int r)), p3) ∧ f__law_ratio [.int n, .int (1 + r)] = some (.ok (.val (rat c d)), .none) := by
  obtain ⟨n, p1, hn, h1, e1⟩ := ev_number h
  obtain ⟨x, p2, hx, h2, e2⟩ := ev_pick h1 (xs := [.int 2, .int 12, .int 60]) (by simp) (by simp)
  have hs : ∃ s : Int, 0 < s ∧ s ≤ 60 ∧ x = .int s := by
    simp only [List.mem_cons, List.not_mem_nil, or_false] at hx
    rcases hx with rfl | rfl | rfl
    · exact ⟨2, by decide, by decide, rfl⟩
    · exact ⟨12, by decide, by decide, rfl⟩
    · exact ⟨60, by decide, by decide, rfl⟩
  obtain ⟨s, s0, s1, rfl⟩ := hs
  have z := b40
  obtain ⟨r, p3, r0, r1, h3, e3⟩ := ev_draw h2 (n := s) s0 (by omega)
  have v := ev_lratio (n := n) (u := 1 + r) (by omega) (by omega) (by omega)
  exact ⟨_, _, p1, p2, p3, n, r, s, red_low (by omega), Nat.le_trans (redN_le n (1 + r)) hn, Nat.le_trans (redU_le n (1 + r)) (by omega), h1, h2, h3, e1, e2, e3, v⟩
theorem flat_rat (c d : Int) : flatD (rat c d) = true := by simp [flatD, flatAll]
theorem body_else {p : D} (h : PotOk p) {ps : List (Int × Int)} {t : D} (hl : ps.length < 1000) : ∃ (c d : Int) (p' : D), Low c d ∧ c.natAbs ≤ 10 ^ 40 ∧ d.natAbs ≤ 60 ∧ PotOk p' ∧
    (mApp 1 (mF 2 f__law_ratio none (aT (mF 1 f__law_number (some 0) (aT (mVar 0) aNil)) (aT (mBin addD (mC (.int 1)) (mF 2 f__law_draw (some 0) (aT (mVar 0) (aT (mF 2 f__law_pick (some 0) (aT (mVar 0) (aT (mLst (aV (mC (.int 2)) (aV (mC (.int 12)) (aV (mC (.int 60)) aNil)))) aNil))) aNil)))) aNil)))) (rgL p ps (some ⟨.val, t⟩)) = some (.ok .nx, rgL p' (ps ++ [(c, d)]) (some ⟨.val, t⟩)) := by
  obtain ⟨c, d, p1, p2, p3, n, r, s, q1, q2, q3, h1, h2, h3, e1, e2, e3, e4⟩ := else_ratio h
  refine ⟨c, d, p3, q1, q2, q3, h3, ?_⟩
  obtain ⟨a, b, _, _, _, rfl⟩ := h
  obtain ⟨a1, b1, _, _, _, rfl⟩ := h1
  obtain ⟨a2, b2, _, _, _, rfl⟩ := h2
  obtain ⟨a3, b3, _, _, _, rfl⟩ := h3
  have hz : ps.length < 16777216 := by omega
  simp [rgL, e1, e2, e3, e4, hz, mkFn, isListAt, slots, slot0, mSeq, mAsg, mRet, mIfS, mDrop, mB, bnd, Mi.ret, thaw, thawR, mVal, valR, mVar, mC, mBin, mUn, op1, op2, look, opN, lookAll, mCall, aT, aV, aNil, mStore, okSet, isT, asB, mTup, mLst, valsOf, mNx, outIo, retR, Md.isOwn, Md.isIo, Md.isLk, fI, mIf, mAnd, mOr, mNot, mAndV, mOrV, mChain, mPar, mPar3, mF, mFk, callF, callIo, putIo, freezeBy, flatD, flatAll, flatY, mayGive, notSlot, gath, mAsgG, gT, gsCons, gsNil, gIx, gN, setIx, mSetIx, ownAt, mApp, appTo, mIsi, isiD, isK, kinds, tyD, mSl, mPart, mNoPart, asInt, slD, cutD, lenD, absD, max2D, min2D, gcdD, lcmD, intD, listD, tupleD, allD, boolsOf, divmodD, addD, subD, mulD, fdivD, modD, powD, ltD, leD, gtD, geD, isD, isntD, negD, notD, ixD, revD, atI, ixN, isNone, sizeLine, eqsD, nesD, eqD, neD]
theorem body_second {p : D} (h : PotOk p) {ps : List (Int × Int)} {t : D} (hp : 0 < ps.length) (hl : ps.length < 1000) (hw : ∀ q ∈ ps, Low q.1 q.2 ∧ Sz q.1 q.2) : ∃ (a b c d : Int) (p' : D), (a, b) ∈ ps ∧ Snd a b c d ∧ PotOk p' ∧
    (mApp 1 (mF 2 f__law_second (some 0) (aT (mVar 0) (aT (mF 2 f__law_pick (some 0) (aT (mVar 0) (aT (mVar 1) aNil))) aNil)))) (rgL p ps (some ⟨.val, t⟩)) = some (.ok .nx, rgL p' (ps ++ [(c, d)]) (some ⟨.val, t⟩)) := by
  obtain ⟨x, p1, hx, h1, e1⟩ := ev_pick h (xs := rats ps) (by simpa using hp) (by simpa using hl)
  obtain ⟨⟨a, b⟩, hm, rfl⟩ := List.mem_map.mp hx
  obtain ⟨w1, w2⟩ := hw _ hm
  obtain ⟨c, d, p2, hs, h2, e2⟩ := ev_second h1 w1 w2
  refine ⟨a, b, c, d, p2, hm, hs, h2, ?_⟩
  obtain ⟨a0, b0, _, _, _, rfl⟩ := h
  obtain ⟨a1, b1, _, _, _, rfl⟩ := h1
  obtain ⟨a2, b2, _, _, _, rfl⟩ := h2
  have hz : ps.length < 16777216 := by omega
  simp [rgL, e1, e2, hz, mkFn, isListAt, slots, slot0, mSeq, mAsg, mRet, mIfS, mDrop, mB, bnd, Mi.ret, thaw, thawR, mVal, valR, mVar, mC, mBin, mUn, op1, op2, look, opN, lookAll, mCall, aT, aV, aNil, mStore, okSet, isT, asB, mTup, mLst, valsOf, mNx, outIo, retR, Md.isOwn, Md.isIo, Md.isLk, fI, mIf, mAnd, mOr, mNot, mAndV, mOrV, mChain, mPar, mPar3, mF, mFk, callF, callIo, putIo, freezeBy, flatD, flatAll, flatY, mayGive, notSlot, gath, mAsgG, gT, gsCons, gsNil, gIx, gN, setIx, mSetIx, ownAt, mApp, appTo, mIsi, isiD, isK, kinds, tyD, mSl, mPart, mNoPart, asInt, slD, cutD, lenD, absD, max2D, min2D, gcdD, lcmD, intD, listD, tupleD, allD, boolsOf, divmodD, addD, subD, mulD, fdivD, modD, powD, ltD, leD, gtD, geD, isD, isntD, negD, notD, ixD, revD, atI, ixN, isNone, sizeLine, eqsD, nesD, eqD, neD]
theorem fnd_sz {ps : List (Int × Int)} (h : Fnd ps) (hl : ps.length < 10) : ∀ q ∈ ps, Low q.1 q.2 ∧ Sz q.1 q.2 := fun q hq => by
  obtain ⟨L, h0, h1, h2⟩ := h
  obtain ⟨q1, q2, q3, q4⟩ := h2 q hq
  have u1 : q.2.natAbs ≤ 10 ^ 70 := Nat.le_trans q4 (Nat.pow_le_pow_right (by decide) (by omega))
  have u2 : q.1.natAbs ≤ (10 ^ 40 + 10) * 10 ^ 70 := Nat.le_trans q3 (Nat.mul_le_mul (by omega) u1)
  have z1 : 10 ^ 70 < 2 ^ 4000 := by decide
  have z2 : (10 ^ 40 + 10) * 10 ^ 70 < 2 ^ 4000 := by decide
  exact ⟨q1, by omega, by omega⟩
theorem body_run {p : D} (h : PotOk p) {ps : List (Int × Int)} (hf : Fnd ps) {t : D} (hl : ps.length < 10) : ∃ (x : Int × Int) (p' : D), Fnd (ps ++ [x]) ∧ PotOk p' ∧ bodyL (rgL p ps (some ⟨.val, t⟩)) = some (.ok .nx, rgL p' (ps ++ [x]) (some ⟨.val, t⟩)) := by
  by_cases hp : ps = []
  · subst hp
    obtain ⟨c, d, p', q1, q2, q3, h1, e1⟩ := body_else h (ps := []) (t := t) (by decide)
    refine ⟨(c, d), p', fnd_small fnd_nil q1 q2 (by rw [if_pos rfl]; exact q3), h1, ?_⟩
    have c1 : mAnd (mB (mBin nesD (mVar 1) (mLst aNil))) (mB (mBin eqsD (mF 2 f__law_draw (some 0) (aT (mVar 0) (aT (mC (.int 4)) aNil))) (mC (.int 0)))) (rgL p [] (some ⟨.val, t⟩)) = some (.ok false, rgL p [] (some ⟨.val, t⟩)) := by
      simp [rgL, shaped_nil, eqv_nil, mkFn, isListAt, slots, slot0, mSeq, mAsg, mRet, mIfS, mDrop, mB, bnd, Mi.ret, thaw, thawR, mVal, valR, mVar, mC, mBin, mUn, op1, op2, look, opN, lookAll, mCall, aT, aV, aNil, mStore, okSet, isT, asB, mTup, mLst, valsOf, mNx, outIo, retR, Md.isOwn, Md.isIo, Md.isLk, fI, mIf, mAnd, mOr, mNot, mAndV, mOrV, mChain, mPar, mPar3, mF, mFk, callF, callIo, putIo, freezeBy, flatD, flatAll, flatY, mayGive, notSlot, gath, mAsgG, gT, gsCons, gsNil, gIx, gN, setIx, mSetIx, ownAt, mApp, appTo, mIsi, isiD, isK, kinds, tyD, mSl, mPart, mNoPart, asInt, slD, cutD, lenD, absD, max2D, min2D, gcdD, lcmD, intD, listD, tupleD, allD, boolsOf, divmodD, addD, subD, mulD, fdivD, modD, powD, ltD, leD, gtD, geD, isD, isntD, negD, notD, ixD, revD, atI, ixN, isNone, sizeLine, eqsD, nesD, eqD, neD]
    unfold bodyL mIfS bnd
    rw [c1]
    exact e1
  · have hp0 : 0 < ps.length := by cases ps with
      | nil => exact absurd rfl hp
      | cons _ _ => simp
    obtain ⟨r, p1, _, _, h1, e1⟩ := ev_draw h (n := 4) (by decide) (by decide)
    have hem : (rats ps).isEmpty = false := by cases ps with
      | nil => exact absurd rfl hp
      | cons _ _ => rfl
    have c1 : mAnd (mB (mBin nesD (mVar 1) (mLst aNil))) (mB (mBin eqsD (mF 2 f__law_draw (some 0) (aT (mVar 0) (aT (mC (.int 4)) aNil))) (mC (.int 0)))) (rgL p ps (some ⟨.val, t⟩)) = some (.ok (decide (r = 0)), rgL p1 ps (some ⟨.val, t⟩)) := by
      obtain ⟨a, b, _, _, _, rfl⟩ := h
      obtain ⟨a1, b1, _, _, _, rfl⟩ := h1
      have sh := shaped_rats ps
      have en := eqv_nil (rats ps)
      rw [hem] at en
      simp only [rgL]
      generalize rats ps = xs at sh en ⊢
      simp [sh, en, shaped_nil, e1, shaped_int, eqv_int, mkFn, isListAt, slots, slot0, mSeq, mAsg, mRet, mIfS, mDrop, mB, bnd, Mi.ret, thaw, thawR, mVal, valR, mVar, mC, mBin, mUn, op1, op2, look, opN, lookAll, mCall, aT, aV, aNil, mStore, okSet, isT, asB, mTup, mLst, valsOf, mNx, outIo, retR, Md.isOwn, Md.isIo, Md.isLk, fI, mIf, mAnd, mOr, mNot, mAndV, mOrV, mChain, mPar, mPar3, mF, mFk, callF, callIo, putIo, freezeBy, flatD, flatAll, flatY, mayGive, notSlot, gath, mAsgG, gT, gsCons, gsNil, gIx, gN, setIx, mSetIx, ownAt, mApp, appTo, mIsi, isiD, isK, kinds, tyD, mSl, mPart, mNoPart, asInt, slD, cutD, lenD, absD, max2D, min2D, gcdD, lcmD, intD, listD, tupleD, allD, boolsOf, divmodD, addD, subD, mulD, fdivD, modD, powD, ltD, leD, gtD, geD, isD, isntD, negD, notD, ixD, revD, atI, ixN, isNone, sizeLine, eqsD, nesD, eqD, neD]
    by_cases r0 : r = 0
    · obtain ⟨a, b, c, d, p', m, s, h2, e2⟩ := body_second h1 (ps := ps) (t := t) hp0 (by omega) (fnd_sz hf hl)
      refine ⟨(c, d), p', fnd_second hf m s, h2, ?_⟩
      unfold bodyL mIfS bnd
      rw [c1]
      simp only [r0, decide_true, if_true]
      exact e2
    · obtain ⟨c, d, p', q1, q2, q3, h2, e2⟩ := body_else h1 (ps := ps) (t := t) (by omega)
      refine ⟨(c, d), p', fnd_small hf q1 q2 (by rw [if_neg hp]; exact Nat.le_trans q3 (by decide)), h2, ?_⟩
      unfold bodyL mIfS bnd
      rw [c1]
      simp only [r0, decide_false, if_false, Bool.false_eq_true]
      exact e2
end K11

namespace K11
open PySem L2 Evl PySem.Spec Mi
theorem rangeD_len (lo : Int) (n : Nat) : (rangeD lo n).length = n := by unfold rangeD; simp
theorem ev_list {p : D} (h : PotOk p) : ∃ (ps : List (Int × Int)) (p' : D), Fnd ps ∧ ps.length < 10 ∧ PotOk p' ∧ f__law_list [p] = some (.ok (.fresh (rats ps)), p') := by
  obtain ⟨n, p1, n0, n1, h1, e1⟩ := ev_draw h (n := 10) (by decide) (by decide)
  have hi : (mRng1 (aT (mF 2 f__law_draw (some 0) (aT (mVar 0) (aT (mC (.int 10)) aNil))) aNil)) (rgL p [] none) = some (.ok ⟨rangeD 0 n.toNat, []⟩, rgL p1 [] none) := by
    obtain ⟨a, b, _, _, _, rfl⟩ := h
    obtain ⟨a1, b1, _, _, _, rfl⟩ := h1
    have : in62 n = true := decide_eq_true ⟨by omega, by omega⟩
    simp [mRng1, rng1, rgL, e1, this, mkFn, isListAt, slots, slot0, mSeq, mAsg, mRet, mIfS, mDrop, mB, bnd, Mi.ret, thaw, thawR, mVal, valR, mVar, mC, mBin, mUn, op1, op2, look, opN, lookAll, mCall, aT, aV, aNil, mStore, okSet, isT, asB, mTup, mLst, valsOf, mNx, outIo, retR, Md.isOwn, Md.isIo, Md.isLk, fI, mIf, mAnd, mOr, mNot, mAndV, mOrV, mChain, mPar, mPar3, mF, mFk, callF, callIo, putIo, freezeBy, flatD, flatAll, flatY, mayGive, notSlot, gath, mAsgG, gT, gsCons, gsNil, gIx, gN, setIx, mSetIx, ownAt, mApp, appTo, mIsi, isiD, isK, kinds, tyD, mSl, mPart, mNoPart, asInt, slD, cutD, lenD, absD, max2D, min2D, gcdD, lcmD, intD, listD, tupleD, allD, boolsOf, divmodD, addD, subD, mulD, fdivD, modD, powD, ltD, leD, gtD, geD, isD, isntD, negD, notD, ixD, revD, atI, ixN, isNone, sizeLine, eqsD, nesD, eqD, neD]
  have st : ∀ (p : D) (ps : List (Int × Int)) (s : Option Slot) (d : D), (s = none ∨ ∃ t, s = some ⟨.val, t⟩) → gN 2 d (rgL p ps s) = some (.ok (), rgL p ps (some ⟨.val, d⟩)) := by
    intro p ps s d hs
    rcases hs with rfl | ⟨t, rfl⟩ <;> simp [rgL, mkFn, isListAt, slots, slot0, mSeq, mAsg, mRet, mIfS, mDrop, mB, bnd, Mi.ret, thaw, thawR, mVal, valR, mVar, mC, mBin, mUn, op1, op2, look, opN, lookAll, mCall, aT, aV, aNil, mStore, okSet, isT, asB, mTup, mLst, valsOf, mNx, outIo, retR, Md.isOwn, Md.isIo, Md.isLk, fI, mIf, mAnd, mOr, mNot, mAndV, mOrV, mChain, mPar, mPar3, mF, mFk, callF, callIo, putIo, freezeBy, flatD, flatAll, flatY, mayGive, notSlot, gath, mAsgG, gT, gsCons, gsNil, gIx, gN, setIx, mSetIx, ownAt, mApp, appTo, mIsi, isiD, isK, kinds, tyD, mSl, mPart, mNoPart, asInt, slD, cutD, lenD, absD, max2D, min2D, gcdD, lcmD, intD, listD, tupleD, allD, boolsOf, divmodD, addD, subD, mulD, fdivD, modD, powD, ltD, leD, gtD, geD, isD, isntD, negD, notD, ixD, revD, atI, ixN, isNone, sizeLine, eqsD, nesD, eqD, neD]
  obtain ⟨ρ', e2, p2, ps, s, h2, hf, hl, rfl, _⟩ := loopF_run (g := gN 2) (b := bodyL) (fun i ρ => ∃ p ps s, PotOk p ∧ Fnd ps ∧ ps.length = i ∧ ρ = rgL p ps s ∧ (s = none ∨ ∃ t, s = some ⟨.val, t⟩)) (rangeD 0 n.toNat) 0 (rgL p1 [] none) ⟨p1, [], none, h1, fnd_nil, rfl, rfl, .inl rfl⟩ (by
    intro i ρ d hd ⟨p, ps, s, hp, hf, hl, hρ, hs⟩
    subst hρ
    have hil := (List.getElem?_eq_some_iff.mp hd).1
    rw [rangeD_len] at hil
    obtain ⟨x, p', f', h', e'⟩ := body_run hp hf (t := d) (by omega)
    exact ⟨_, _, .nx, st p ps s d hs, e', .inl rfl, p', ps ++ [x], _, h', f', by rw [List.length_append, hl]; rfl, rfl, .inr ⟨_, rfl⟩⟩)
  rw [rangeD_len] at hl
  refine ⟨ps, p2, hf, by omega, h2, ?_⟩
  have e3 := for_run hi e2
  have a1 : mAsg 1 (mLst aNil) [some ⟨.io, p⟩, none, none] = some (.ok .nx, rgL p [] none) := by simp [rgL, mkFn, isListAt, slots, slot0, mSeq, mAsg, mRet, mIfS, mDrop, mB, bnd, Mi.ret, thaw, thawR, mVal, valR, mVar, mC, mBin, mUn, op1, op2, look, opN, lookAll, mCall, aT, aV, aNil, mStore, okSet, isT, asB, mTup, mLst, valsOf, mNx, outIo, retR, Md.isOwn, Md.isIo, Md.isLk, fI, mIf, mAnd, mOr, mNot, mAndV, mOrV, mChain, mPar, mPar3, mF, mFk, callF, callIo, putIo, freezeBy, flatD, flatAll, flatY, mayGive, notSlot, gath, mAsgG, gT, gsCons, gsNil, gIx, gN, setIx, mSetIx, ownAt, mApp, appTo, mIsi, isiD, isK, kinds, tyD, mSl, mPart, mNoPart, asInt, slD, cutD, lenD, absD, max2D, min2D, gcdD, lcmD, intD, listD, tupleD, allD, boolsOf, divmodD, addD, subD, mulD, fdivD, modD, powD, ltD, leD, gtD, geD, isD, isntD, negD, notD, ixD, revD, atI, ixN, isNone, sizeLine, eqsD, nesD, eqD, neD]
  have em : m__law_list [some ⟨.io, p⟩, none, none] = some (.ok (.rt (.slot 1)), rgL p2 ps s) := by
    have e : m__law_list = mSeq (mAsg 1 (mLst aNil)) (mSeq (mFor (chk (mRng1 (aT (mF 2 f__law_draw (some 0) (aT (mVar 0) (aT (mC (.int 10)) aNil))) aNil))) (gN 2) bodyL) (mRet (mVar 1))) := rfl
    rw [e]
    unfold mSeq bnd
    rw [a1]
    dsimp only
    rw [e3]
    simp [rgL, mkFn, isListAt, slots, slot0, mSeq, mAsg, mRet, mIfS, mDrop, mB, bnd, Mi.ret, thaw, thawR, mVal, valR, mVar, mC, mBin, mUn, op1, op2, look, opN, lookAll, mCall, aT, aV, aNil, mStore, okSet, isT, asB, mTup, mLst, valsOf, mNx, outIo, retR, Md.isOwn, Md.isIo, Md.isLk, fI, mIf, mAnd, mOr, mNot, mAndV, mOrV, mChain, mPar, mPar3, mF, mFk, callF, callIo, putIo, freezeBy, flatD, flatAll, flatY, mayGive, notSlot, gath, mAsgG, gT, gsCons, gsNil, gIx, gN, setIx, mSetIx, ownAt, mApp, appTo, mIsi, isiD, isK, kinds, tyD, mSl, mPart, mNoPart, asInt, slD, cutD, lenD, absD, max2D, min2D, gcdD, lcmD, intD, listD, tupleD, allD, boolsOf, divmodD, addD, subD, mulD, fdivD, modD, powD, ltD, leD, gtD, geD, isD, isntD, negD, notD, ixD, revD, atI, ixN, isNone, sizeLine, eqsD, nesD, eqD, neD]
  obtain ⟨a, b, _, _, _, rfl⟩ := h
  simp [f__law_list, mkFn, isListAt, slots, slot0, em, rgL, retR, outIo]
/-! ### folds -/
def NU : List (Int × Int) → Int × Int → Int × Int
  | [], z => z
  | p :: ps, z => NU ps (z.1 * p.2 + p.1 * z.2, z.2 * p.2)
def lcmF : List (Int × Int) → Nat → Nat
  | [], u => u
  | p :: ps, u => lcmF ps (Nat.lcm u p.2.natAbs)
def SM (L : Int) : List (Int × Int) → Int
  | [] => 0
  | p :: ps => p.1 * (L / p.2) + SM L ps
theorem SM_append (L : Int) : ∀ ps qs : List (Int × Int), SM L (ps ++ qs) = SM L ps + SM L qs
  | [], qs => by simp [SM]
  | p :: ps, qs => by simp only [List.cons_append, SM, SM_append L ps qs]; omega
theorem SM_rev (L : Int) : ∀ ps : List (Int × Int), SM L ps.reverse = SM L ps
  | [] => rfl
  | p :: ps => by
    rw [List.reverse_cons, SM_append, SM_rev L ps]
    simp only [SM]
    omega
/-- what the lists of this law are -/
structure Ok (L : Nat) (ps : List (Int × Int)) : Prop where
  pos : 0 < L
  le : L ≤ 10 ^ 330
  el : ∀ p ∈ ps, Low p.1 p.2 ∧ p.2.natAbs ∣ L ∧ p.1.natAbs ≤ 10 ^ 41 * p.2.natAbs ∧ p.2.natAbs ≤ 10 ^ 70
  len : ps.length < 10
theorem Ok.tail {L : Nat} {p : Int × Int} {ps : List (Int × Int)} (h : Ok L (p :: ps)) : Ok L ps := ⟨h.pos, h.le, fun q hq => h.el q (List.mem_cons_of_mem _ hq), by have := h.len; rw [List.length_cons] at this; omega⟩
theorem Ok.rev {L : Nat} {ps : List (Int × Int)} (h : Ok L ps) : Ok L ps.reverse := ⟨h.pos, h.le, fun q hq => h.el q (by simpa using hq), by simpa using h.len⟩
theorem ok_of {ps : List (Int × Int)} (h : Fnd ps) (hl : ps.length < 10) : ∃ L, Ok L ps := by
  obtain ⟨L, h0, h1, h2⟩ := h
  refine ⟨L, h0, Nat.le_trans h1 ?_, fun p hp => ?_, hl⟩
  · cases ps with
    | nil => decide
    | cons p ps =>
      rw [List.length_cons] at hl
      show 100 * 10 ^ (40 * ps.length) ≤ 10 ^ 330
      have := Nat.pow_le_pow_right (n := 10) (by decide) (show 40 * ps.length ≤ 320 by omega)
      have z : 100 * 10 ^ 320 ≤ 10 ^ 330 := by decide
      omega
  · obtain ⟨q1, q2, q3, q4⟩ := h2 p hp
    exact ⟨q1, q2, Nat.le_trans q3 (Nat.mul_le_mul_right _ (by omega)), Nat.le_trans q4 (Nat.pow_le_pow_right (by decide) (by omega))⟩
section
variable {L : Nat}
theorem el_sz {p : Int × Int} (h : Low p.1 p.2 ∧ p.2.natAbs ∣ L ∧ p.1.natAbs ≤ 10 ^ 41 * p.2.natAbs ∧ p.2.natAbs ≤ 10 ^ 70) : p.1.natAbs < 2 ^ 399 ∧ p.2.natAbs < 2 ^ 233 := by
  obtain ⟨_, _, h3, h4⟩ := h
  have z1 : 10 ^ 70 < 2 ^ 233 := by decide
  have z2 : 10 ^ 41 * 10 ^ 70 < 2 ^ 399 := by decide
  have z3 := Nat.mul_le_mul_left (10 ^ 41) h4
  omega
theorem pow_add_lt {X : Nat} (hX : 0 < X) {x y : Nat} (hx : x ≤ X * 2 ^ 233) (hy : y ≤ X * 2 ^ 399) : x + y < X * 2 ^ 400 := by
  have h : (2 : Nat) ^ 233 + 2 ^ 399 < 2 ^ 400 := by decide
  have := Nat.mul_lt_mul_of_pos_left h hX
  rw [Nat.mul_add] at this
  exact Nat.lt_of_le_of_lt (Nat.add_le_add hx hy) this
theorem nu_size {p : Int × Int} {n u : Int} {X : Nat} (hX : 0 < X) (s1 : p.1.natAbs < 2 ^ 399) (s2 : p.2.natAbs < 2 ^ 233) (h1 : n.natAbs < X) (h2 : u.natAbs ≤ X) : (n * p.2 + p.1 * u).natAbs < X * 2 ^ 400 ∧ (u * p.2).natAbs ≤ X * 2 ^ 400 := by
  have g1 : (n * p.2).natAbs ≤ X * 2 ^ 233 := by
    rw [Int.natAbs_mul]; exact Nat.mul_le_mul (Nat.le_of_lt h1) (Nat.le_of_lt s2)
  have g2 : (p.1 * u).natAbs ≤ X * 2 ^ 399 := by
    rw [Int.natAbs_mul, Nat.mul_comm]; exact Nat.mul_le_mul h2 (Nat.le_of_lt s1)
  have g3 : (u * p.2).natAbs ≤ X * 2 ^ 233 := by
    rw [Int.natAbs_mul]; exact Nat.mul_le_mul h2 (Nat.le_of_lt s2)
  refine ⟨Nat.lt_of_le_of_lt (Int.natAbs_add_le _ _) (pow_add_lt hX g1 g2), Nat.le_trans g3 (Nat.mul_le_mul_left _ (Nat.pow_le_pow_right (by decide) (by decide)))⟩
theorem nu_of {c d n u s K e : Int} (h : n * K = s * u) (dv : e * d = K) : (n * d + c * u) * K = (s + c * e) * (u * d) := by
  have a1 : (n * d + c * u) * K = (n * K) * d + c * u * K := by rw [Int.add_mul]; congr 1; ac_rfl
  rw [a1, h, ← dv, Int.add_mul]
  congr 1 <;> ac_rfl
/-- the unreduced sum: its size, and what it is of L -/
theorem NU_facts : ∀ (ps : List (Int × Int)) (n u : Int) (k : Nat) (s : Int), Ok L ps → 0 < u → n.natAbs < 2 ^ (400 * k) → u.natAbs ≤ 2 ^ (400 * k) → n * L = s * u →
    0 < (NU ps (n, u)).2 ∧ (NU ps (n, u)).1.natAbs < 2 ^ (400 * (k + ps.length)) ∧ (NU ps (n, u)).2.natAbs ≤ 2 ^ (400 * (k + ps.length)) ∧ (NU ps (n, u)).1 * L = (s + SM L ps) * (NU ps (n, u)).2
  | [], n, u, k, s, _, h0, h1, h2, h3 => by
    refine ⟨h0, h1, h2, ?_⟩
    show n * L = (s + 0) * u
    rw [Int.add_zero]
    exact h3
  | p :: ps, n, u, k, s, ok, h0, h1, h2, h3 => by
    have e := ok.el p List.mem_cons_self
    obtain ⟨s1, s2⟩ := el_sz e
    obtain ⟨q1, q2, _, _⟩ := e
    have pw : (2 : Nat) ^ (400 * (k + 1)) = 2 ^ (400 * k) * 2 ^ 400 := by rw [Nat.mul_add, Nat.pow_add]
    obtain ⟨g1, g2⟩ := nu_size (Nat.two_pow_pos _) s1 s2 h1 h2
    rw [← pw] at g1 g2
    have dv : (L / p.2 : Int) * p.2 = L := Int.ediv_mul_cancel (Int.natAbs_dvd.mp (Int.natCast_dvd_natCast.mpr q2))
    have e1 := nu_of (c := p.1) h3 dv
    obtain ⟨t1, t2, t3, t4⟩ := NU_facts ps (n * p.2 + p.1 * u) (u * p.2) (k + 1) (s + p.1 * (L / p.2)) ok.tail (Int.mul_pos h0 q1.1) g1 g2 e1
    have el : k + (p :: ps).length = k + 1 + ps.length := by rw [List.length_cons]; omega
    rw [el]
    refine ⟨t1, t2, t3, ?_⟩
    show (NU ps (n * p.2 + p.1 * u, u * p.2)).1 * L = (s + (p.1 * (L / p.2) + SM L ps)) * (NU ps (n * p.2 + p.1 * u, u * p.2)).2
    rw [t4, Int.add_assoc]
theorem lcmF_facts : ∀ (ps : List (Int × Int)) (u : Nat), Ok L ps → 0 < u → u ∣ L → 0 < lcmF ps u ∧ lcmF ps u ∣ L ∧ u ∣ lcmF ps u ∧ ∀ p ∈ ps, p.2.natAbs ∣ lcmF ps u
  | [], u, _, h0, h1 => ⟨h0, h1, Nat.dvd_refl _, fun p h => by cases h⟩
  | p :: ps, u, ok, h0, h1 => by
    obtain ⟨q1, q2, _, _⟩ := ok.el p List.mem_cons_self
    have p0 : 0 < p.2.natAbs := by have := q1.1; omega
    obtain ⟨r1, r2, r3, r4⟩ := lcmF_facts ps (Nat.lcm u p.2.natAbs) ok.tail (Nat.lcm_pos h0 p0) (Nat.lcm_dvd h1 q2)
    refine ⟨r1, r2, Nat.dvd_trans (Nat.dvd_lcm_left _ _) r3, fun q hq => ?_⟩
    rcases List.mem_cons.mp hq with e | e
    · subst e; exact Nat.dvd_trans (Nat.dvd_lcm_right _ _) r3
    · exact r4 q e
theorem SM_le : ∀ (ps : List (Int × Int)), Ok L ps → (SM L ps).natAbs ≤ ps.length * (10 ^ 41 * L)
  | [], _ => by simp [SM]
  | p :: ps, ok => by
    obtain ⟨q1, q2, q3, _⟩ := ok.el p List.mem_cons_self
    have ih := SM_le ps ok.tail
    have dv : (L / p.2 : Int) * p.2 = L := Int.ediv_mul_cancel (Int.natAbs_dvd.mp (Int.natCast_dvd_natCast.mpr q2))
    have n1 : (L / p.2 : Int).natAbs * p.2.natAbs = L := by rw [← Int.natAbs_mul, dv, Int.natAbs_natCast]
    have a1 : (p.1 * (L / p.2 : Int)).natAbs ≤ 10 ^ 41 * L := by
      rw [Int.natAbs_mul]
      have := Nat.mul_le_mul_right (L / p.2 : Int).natAbs q3
      have e : 10 ^ 41 * p.2.natAbs * (L / p.2 : Int).natAbs = 10 ^ 41 * L := by rw [Nat.mul_assoc, Nat.mul_comm p.2.natAbs, n1]
      omega
    have a2 := Int.natAbs_add_le (p.1 * (L / p.2 : Int)) (SM L ps)
    simp only [SM, List.length_cons, Nat.add_mul, Nat.one_mul]
    omega
end
end K11

namespace K11
open PySem L2 Evl PySem.Spec Mi
/-- a list or a tuple of such ratios -/
def Cont (d : D) (ps : List (Int × Int)) : Prop := d = .list (rats ps) ∨ d = .tuple (rats ps)
theorem it_data {d : D} {ps : List (Int × Int)} (h : Cont d ps) (rest : R) : mItD (mVar 0) (some ⟨.val, d⟩ :: rest) = some (.ok ⟨rats ps, []⟩, some ⟨.val, d⟩ :: rest) := by
  rcases h with rfl | rfl <;> simp [mItD, iterD, thaw, thawR, mVar, bnd, Mi.ret, Md.isOwn]
theorem Ok.isR {L : Nat} {ps : List (Int × Int)} (h : Ok L ps) : ∀ p ∈ ps, K11.isR p.1 p.2 = true := fun p hp => by
  obtain ⟨q1, q2, q3, q4⟩ := h.el p hp
  have l : (10 : Int) ^ 120 < bey := by decide
  have e : ((10 ^ 120 : Nat) : Int) = (10 : Int) ^ 120 := by decide
  have z : 10 ^ 41 * 10 ^ 70 < 10 ^ 120 := by decide
  have z2 : 10 ^ 70 < 10 ^ 120 := by decide
  have q5 := Nat.mul_le_mul_left (10 ^ 41) q4
  have a1 : p.1.natAbs < 10 ^ 120 := by omega
  have a2 : p.2.natAbs < 10 ^ 120 := by omega
  simp only [K11.isR, Bool.and_eq_true, decide_eq_true_eq]
  exact ⟨⟨⟨q1.1, by omega⟩, by omega, by omega⟩, q1.2⟩
theorem all_true {α : Type} : ∀ ps : List α, boolsOf (ps.map fun _ => PyData.bool true) = some (ps.map fun _ => true)
  | [] => rfl
  | p :: ps => by simp [boolsOf, all_true ps]
theorem ev_want_ratios {L : Nat} {d : D} {ps : List (Int × Int)} (ok : Ok L ps) (h : Cont d ps) : f__want_ratios [d] = some (.ok (.val .none), .none) := by
  have hl := ok.len
  have lc : mLc (mItD (mVar 0)) (gN 1) (ret true) (mF 1 f_is_ratio none (aT (mVar 1) aNil)) [1] [some ⟨.val, d⟩, none] = some (.ok (.fresh (ps.map fun _ => .bool true)), [some ⟨.val, d⟩, none]) := by
    have h1 := loopC_map (g := gN 1) (e := mF 1 f_is_ratio none (aT (mVar 1) aNil)) (vs := [1]) (ρw := [some ⟨.val, d⟩, none]) (f := fun _ => .bool true) (rats ps) [] (by
      have : sizeLine = 16777216 := rfl
      rw [List.length_nil, List.length_map, this]; omega) (fun z hz => by
      obtain ⟨p, hp, rfl⟩ := List.mem_map.mp hz
      have r := ok.isR p hp
      refine ⟨[some ⟨.val, d⟩, some ⟨.val, rat p.1 p.2⟩], [some ⟨.val, d⟩, some ⟨.val, rat p.1 p.2⟩], ?_, ?_, ?_⟩
      · simp [gN, mStore, okSet]
      · simp [ev_is_ratio, r, mkFn, isListAt, slots, slot0, mSeq, mAsg, mRet, mIfS, mDrop, mB, bnd, Mi.ret, thaw, thawR, mVal, valR, mVar, mC, mBin, mUn, op1, op2, look, opN, lookAll, mCall, aT, aV, aNil, mStore, okSet, isT, asB, mTup, mLst, valsOf, mNx, outIo, retR, Md.isOwn, Md.isIo, Md.isLk, fI, mIf, mAnd, mOr, mNot, mAndV, mOrV, mChain, mPar, mPar3, mF, mFk, callF, callIo, putIo, freezeBy, flatD, flatAll, flatY, mayGive, notSlot, gath, mAsgG, gT, gsCons, gsNil, gIx, gN, setIx, mSetIx, ownAt, mApp, appTo, mIsi, isiD, isK, kinds, tyD, mSl, mPart, mNoPart, asInt, slD, cutD, lenD, absD, max2D, min2D, gcdD, lcmD, intD, listD, tupleD, allD, boolsOf, divmodD, addD, subD, mulD, fdivD, modD, powD, ltD, leD, gtD, geD, isD, isntD, negD, notD, ixD, revD, atI, ixN, isNone, sizeLine, eqsD, nesD, eqD, neD]
      · simp [wipeR])
    have := lc_run (it_data h [none]) (by
      have e : wipeR [some ⟨.val, d⟩, none] [1] = [some ⟨.val, d⟩, none] := by simp [wipeR]
      rw [e]
      exact h1)
    rw [this]
    simp [restR, List.map_map]
  have il : f_is_list [d] = some (.ok (.val (.bool true)), .none) := by
    rcases h with rfl | rfl <;> simp [f_is_list, m_is_list, mkFn, isListAt, slots, slot0, mSeq, mAsg, mRet, mIfS, mDrop, mB, bnd, Mi.ret, thaw, thawR, mVal, valR, mVar, mC, mBin, mUn, op1, op2, look, opN, lookAll, mCall, aT, aV, aNil, mStore, okSet, isT, asB, mTup, mLst, valsOf, mNx, outIo, retR, Md.isOwn, Md.isIo, Md.isLk, fI, mIf, mAnd, mOr, mNot, mAndV, mOrV, mChain, mPar, mPar3, mF, mFk, callF, callIo, putIo, freezeBy, flatD, flatAll, flatY, mayGive, notSlot, gath, mAsgG, gT, gsCons, gsNil, gIx, gN, setIx, mSetIx, ownAt, mApp, appTo, mIsi, isiD, isK, kinds, tyD, mSl, mPart, mNoPart, asInt, slD, cutD, lenD, absD, max2D, min2D, gcdD, lcmD, intD, listD, tupleD, allD, boolsOf, divmodD, addD, subD, mulD, fdivD, modD, powD, ltD, leD, gtD, geD, isD, isntD, negD, notD, ixD, revD, atI, ixN, isNone, sizeLine, eqsD, nesD, eqD, neD]
  have ln : lenD [d] = some (.val (.int (ps.length : Nat))) := by
    rcases h with rfl | rfl <;> simp [lenD]
  have l200 : ¬ (200 < (ps.length : Int)) := by omega
  have al := all_true ps
  have e : m__want_ratios [some ⟨.val, d⟩, none] = some (.ok .nx, [some ⟨.val, d⟩, none]) := by
    have e : m__want_ratios = (mIfS (mOr (mNot (mB (mF 1 f_is_list none (aT (mVar 0) aNil)))) (mOr (mB (mBin gtD (mCall lenD (aT (mVar 0) aNil)) (mC (.int 200)))) (mNot (mB (mCall allD (aT (mLc (mItD (mVar 0)) (gN 1) (ret true) (mF 1 f_is_ratio none (aT (mVar 1) aNil)) [1]) aNil)))))) stuck mNx) := rfl
    have c1 : (mOr (mNot (mB (mF 1 f_is_list none (aT (mVar 0) aNil)))) (mOr (mB (mBin gtD (mCall lenD (aT (mVar 0) aNil)) (mC (.int 200)))) (mNot (mB (mCall allD (aT (mLc (mItD (mVar 0)) (gN 1) (ret true) (mF 1 f_is_ratio none (aT (mVar 1) aNil)) [1]) aNil)))))) [some ⟨.val, d⟩, none] = some (.ok false, [some ⟨.val, d⟩, none]) := by
      generalize (mLc (mItD (mVar 0)) (gN 1) (ret true) (mF 1 f_is_ratio none (aT (mVar 1) aNil)) [1]) = m at lc
      generalize hL : lenD = ld at ln
      simp [il, ln, l200, lc, al, mkFn, isListAt, slots, slot0, mSeq, mAsg, mRet, mIfS, mDrop, mB, bnd, Mi.ret, thaw, thawR, mVal, valR, mVar, mC, mBin, mUn, op1, op2, look, opN, lookAll, mCall, aT, aV, aNil, mStore, okSet, isT, asB, mTup, mLst, valsOf, mNx, outIo, retR, Md.isOwn, Md.isIo, Md.isLk, fI, mIf, mAnd, mOr, mNot, mAndV, mOrV, mChain, mPar, mPar3, mF, mFk, callF, callIo, putIo, freezeBy, flatD, flatAll, flatY, mayGive, notSlot, gath, mAsgG, gT, gsCons, gsNil, gIx, gN, setIx, mSetIx, ownAt, mApp, appTo, mIsi, isiD, isK, kinds, tyD, mSl, mPart, mNoPart, asInt, slD, cutD, lenD, absD, max2D, min2D, gcdD, lcmD, intD, listD, tupleD, allD, boolsOf, divmodD, addD, subD, mulD, fdivD, modD, powD, ltD, leD, gtD, geD, isD, isntD, negD, notD, ixD, revD, atI, ixN, isNone, sizeLine, eqsD, nesD, eqD, neD, -lenD]
    rw [e]
    unfold mIfS bnd
    rw [c1]
    rfl
  simp [f__want_ratios, mkFn, isListAt, slots, slot0, e, outIo]
theorem big_L {L : Nat} {ps : List (Int × Int)} (ok : Ok L ps) : L < 2 ^ 1200 := Nat.lt_of_le_of_lt ok.le (by decide)
theorem ev_under {L : Nat} {d : D} {ps : List (Int × Int)} (ok : Ok L ps) (h : Cont d ps) : f_under_of [d] = some (.ok (.val (.int (lcmF ps 1 : Nat))), .none) := by
  have hL := big_L ok
  have st : ∀ (u : Nat) (s : Option Slot) (z : D), (s = none ∨ ∃ t, s = some ⟨.val, t⟩) → gN 2 z [some ⟨.val, d⟩, some ⟨.val, .int (u : Nat)⟩, s] = some (.ok (), [some ⟨.val, d⟩, some ⟨.val, .int (u : Nat)⟩, some ⟨.val, z⟩]) := by
    intro u s z hs
    rcases hs with rfl | ⟨t, rfl⟩ <;> simp [mkFn, isListAt, slots, slot0, mSeq, mAsg, mRet, mIfS, mDrop, mB, bnd, Mi.ret, thaw, thawR, mVal, valR, mVar, mC, mBin, mUn, op1, op2, look, opN, lookAll, mCall, aT, aV, aNil, mStore, okSet, isT, asB, mTup, mLst, valsOf, mNx, outIo, retR, Md.isOwn, Md.isIo, Md.isLk, fI, mIf, mAnd, mOr, mNot, mAndV, mOrV, mChain, mPar, mPar3, mF, mFk, callF, callIo, putIo, freezeBy, flatD, flatAll, flatY, mayGive, notSlot, gath, mAsgG, gT, gsCons, gsNil, gIx, gN, setIx, mSetIx, ownAt, mApp, appTo, mIsi, isiD, isK, kinds, tyD, mSl, mPart, mNoPart, asInt, slD, cutD, lenD, absD, max2D, min2D, gcdD, lcmD, intD, listD, tupleD, allD, boolsOf, divmodD, addD, subD, mulD, fdivD, modD, powD, ltD, leD, gtD, geD, isD, isntD, negD, notD, ixD, revD, atI, ixN, isNone, sizeLine, eqsD, nesD, eqD, neD]
  have run : ∀ (qs : List (Int × Int)) (u : Nat) (s : Option Slot), Ok L qs → 0 < u → u ∣ L → (s = none ∨ ∃ t, s = some ⟨.val, t⟩) → ∃ s', loopF (gN 2) (mAsg 1 (mCall lcmD (aT (mVar 1) (aT (mBin ixD (mVar 2) (mC (.int 1))) aNil)))) (rats qs) [some ⟨.val, d⟩, some ⟨.val, .int (u : Nat)⟩, s] = some (.ok .nx, [some ⟨.val, d⟩, some ⟨.val, .int (lcmF qs u : Nat)⟩, s']) := by
    intro qs
    induction qs with
    | nil => exact fun u s _ _ _ _ => ⟨s, rfl⟩
    | cons p qs ih =>
      intro u s okq h0 hd hs
      obtain ⟨q1, q2, q3, q4⟩ := okq.el p List.mem_cons_self
      have p0 : 0 < p.2.natAbs := by have := q1.1; omega
      have l1 : u.log2 < 9000 := lg_of (lt_mono (Nat.lt_of_le_of_lt (Nat.le_of_dvd ok.pos hd) hL) (by decide)) (by decide)
      have l2 : p.2.natAbs.log2 < 9000 := lg_of (lt_mono (Nat.lt_of_le_of_lt (Nat.le_of_dvd ok.pos q2) hL) (by decide)) (by decide)
      obtain ⟨s', e⟩ := ih (Nat.lcm u p.2.natAbs) (some ⟨.val, rat p.1 p.2⟩) okq.tail (Nat.lcm_pos h0 p0) (Nat.lcm_dvd hd q2) (.inr ⟨_, rfl⟩)
      refine ⟨s', ?_⟩
      have b : (mAsg 1 (mCall lcmD (aT (mVar 1) (aT (mBin ixD (mVar 2) (mC (.int 1))) aNil)))) [some ⟨.val, d⟩, some ⟨.val, .int (u : Nat)⟩, some ⟨.val, rat p.1 p.2⟩] = some (.ok .nx, [some ⟨.val, d⟩, some ⟨.val, .int (Nat.lcm u p.2.natAbs : Nat)⟩, some ⟨.val, rat p.1 p.2⟩]) := by
        simp [l1, l2, mkFn, isListAt, slots, slot0, mSeq, mAsg, mRet, mIfS, mDrop, mB, bnd, Mi.ret, thaw, thawR, mVal, valR, mVar, mC, mBin, mUn, op1, op2, look, opN, lookAll, mCall, aT, aV, aNil, mStore, okSet, isT, asB, mTup, mLst, valsOf, mNx, outIo, retR, Md.isOwn, Md.isIo, Md.isLk, fI, mIf, mAnd, mOr, mNot, mAndV, mOrV, mChain, mPar, mPar3, mF, mFk, callF, callIo, putIo, freezeBy, flatD, flatAll, flatY, mayGive, notSlot, gath, mAsgG, gT, gsCons, gsNil, gIx, gN, setIx, mSetIx, ownAt, mApp, appTo, mIsi, isiD, isK, kinds, tyD, mSl, mPart, mNoPart, asInt, slD, cutD, lenD, absD, max2D, min2D, gcdD, lcmD, intD, listD, tupleD, allD, boolsOf, divmodD, addD, subD, mulD, fdivD, modD, powD, ltD, leD, gtD, geD, isD, isntD, negD, notD, ixD, revD, atI, ixN, isNone, sizeLine, eqsD, nesD, eqD, neD]
      show loopF _ _ (rat p.1 p.2 :: rats qs) _ = _
      unfold loopF bnd
      rw [st u s _ hs]
      dsimp only
      rw [b]
      exact e
  obtain ⟨s', e⟩ := run ps 1 none ok (by decide) (Nat.one_dvd _) (.inl rfl)
  have e3 := for_run (it_data h [some ⟨.val, .int ((1 : Nat) : Int)⟩, none]) e
  have a1 : mAsg 1 (mC (.int 1)) [some ⟨.val, d⟩, none, none] = some (.ok .nx, [some ⟨.val, d⟩, some ⟨.val, .int ((1 : Nat) : Int)⟩, none]) := by simp [mkFn, isListAt, slots, slot0, mSeq, mAsg, mRet, mIfS, mDrop, mB, bnd, Mi.ret, thaw, thawR, mVal, valR, mVar, mC, mBin, mUn, op1, op2, look, opN, lookAll, mCall, aT, aV, aNil, mStore, okSet, isT, asB, mTup, mLst, valsOf, mNx, outIo, retR, Md.isOwn, Md.isIo, Md.isLk, fI, mIf, mAnd, mOr, mNot, mAndV, mOrV, mChain, mPar, mPar3, mF, mFk, callF, callIo, putIo, freezeBy, flatD, flatAll, flatY, mayGive, notSlot, gath, mAsgG, gT, gsCons, gsNil, gIx, gN, setIx, mSetIx, ownAt, mApp, appTo, mIsi, isiD, isK, kinds, tyD, mSl, mPart, mNoPart, asInt, slD, cutD, lenD, absD, max2D, min2D, gcdD, lcmD, intD, listD, tupleD, allD, boolsOf, divmodD, addD, subD, mulD, fdivD, modD, powD, ltD, leD, gtD, geD, isD, isntD, negD, notD, ixD, revD, atI, ixN, isNone, sizeLine, eqsD, nesD, eqD, neD]
  have em : m_under_of [some ⟨.val, d⟩, none, none] = some (.ok (.rt (.val (.int (lcmF ps 1 : Nat)))), [some ⟨.val, d⟩, some ⟨.val, .int (lcmF ps 1 : Nat)⟩, s']) := by
    have e : m_under_of = (mSeq (mAsg 1 (mC (.int 1))) (mSeq (mFor (chk (mItD (mVar 0))) (gN 2) (mAsg 1 (mCall lcmD (aT (mVar 1) (aT (mBin ixD (mVar 2) (mC (.int 1))) aNil))))) (mRet (mVar 1)))) := rfl
    rw [e]
    unfold mSeq bnd
    rw [a1]
    dsimp only
    rw [e3]
    simp [mkFn, isListAt, slots, slot0, mSeq, mAsg, mRet, mIfS, mDrop, mB, bnd, Mi.ret, thaw, thawR, mVal, valR, mVar, mC, mBin, mUn, op1, op2, look, opN, lookAll, mCall, aT, aV, aNil, mStore, okSet, isT, asB, mTup, mLst, valsOf, mNx, outIo, retR, Md.isOwn, Md.isIo, Md.isLk, fI, mIf, mAnd, mOr, mNot, mAndV, mOrV, mChain, mPar, mPar3, mF, mFk, callF, callIo, putIo, freezeBy, flatD, flatAll, flatY, mayGive, notSlot, gath, mAsgG, gT, gsCons, gsNil, gIx, gN, setIx, mSetIx, ownAt, mApp, appTo, mIsi, isiD, isK, kinds, tyD, mSl, mPart, mNoPart, asInt, slD, cutD, lenD, absD, max2D, min2D, gcdD, lcmD, intD, listD, tupleD, allD, boolsOf, divmodD, addD, subD, mulD, fdivD, modD, powD, ltD, leD, gtD, geD, isD, isntD, negD, notD, ixD, revD, atI, ixN, isNone, sizeLine, eqsD, nesD, eqD, neD]
  simp [f_under_of, mkFn, isListAt, slots, slot0, em, outIo, retR]
theorem bey_big : (10 : Int) ^ 399 < bey := by decide
theorem told_int {u : Int} (h : u.natAbs < 10 ^ 399) : f__told [rat u 1] = some (.ok (.val (rat u 1)), .none) := by
  have l := bey_big
  have e : ((10 ^ 399 : Nat) : Int) = (10 : Int) ^ 399 := by decide
  have z : (1 : Int) < bey := by decide
  exact ev_told z (by omega) (by omega)
theorem lcm_le {L : Nat} {ps : List (Int × Int)} (ok : Ok L ps) : (lcmF ps 1) ≤ 10 ^ 330 := Nat.le_trans (Nat.le_of_dvd ok.pos (lcmF_facts ps 1 ok (by decide) (Nat.one_dvd _)).2.1) ok.le
theorem lcm_lt {L : Nat} {ps : List (Int × Int)} (ok : Ok L ps) : ((lcmF ps 1 : Nat) : Int).natAbs < 10 ^ 399 := by
  rw [Int.natAbs_natCast]
  have h : 10 ^ 330 < 10 ^ 399 := by decide
  exact Nat.lt_of_le_of_lt (lcm_le ok) h
theorem ev_cu {u : Int} {d : D} (w : f__want_ratios [d] = some (.ok (.val .none), .none)) (v : f_under_of [d] = some (.ok (.val (.int u)), .none)) (t : f__told [rat u 1] = some (.ok (.val (rat u 1)), .none)) : f_common_under [d] = some (.ok (.val (.int u)), .none) := by
  have a0 : mDrop (mF 1 f__want_ratios none (aT (mVar 0) aNil)) [some ⟨.val, d⟩] = some (.ok .nx, [some ⟨.val, d⟩]) := by simp [w, mkFn, isListAt, slots, slot0, mSeq, mAsg, mRet, mIfS, mDrop, mB, bnd, Mi.ret, thaw, thawR, mVal, valR, mVar, mC, mBin, mUn, op1, op2, look, opN, lookAll, mCall, aT, aV, aNil, mStore, okSet, isT, asB, mTup, mLst, valsOf, mNx, outIo, retR, Md.isOwn, Md.isIo, Md.isLk, fI, mIf, mAnd, mOr, mNot, mAndV, mOrV, mChain, mPar, mPar3, mF, mFk, callF, callIo, putIo, freezeBy, flatD, flatAll, flatY, mayGive, notSlot, gath, mAsgG, gT, gsCons, gsNil, gIx, gN, setIx, mSetIx, ownAt, mApp, appTo, mIsi, isiD, isK, kinds, tyD, mSl, mPart, mNoPart, asInt, slD, cutD, lenD, absD, max2D, min2D, gcdD, lcmD, intD, listD, tupleD, allD, boolsOf, divmodD, addD, subD, mulD, fdivD, modD, powD, ltD, leD, gtD, geD, isD, isntD, negD, notD, ixD, revD, atI, ixN, isNone, sizeLine, eqsD, nesD, eqD, neD]
  have a1 : (mRet (mBin ixD (mF 1 f__told none (aT (mTup (aV (mF 1 f_under_of none (aT (mVar 0) aNil)) (aV (mC (.int 1)) aNil))) aNil)) (mC (.int 0)))) [some ⟨.val, d⟩] = some (.ok (.rt (.val (.int u))), [some ⟨.val, d⟩]) := by
    simp [v, t, mkFn, isListAt, slots, slot0, mSeq, mAsg, mRet, mIfS, mDrop, mB, bnd, Mi.ret, thaw, thawR, mVal, valR, mVar, mC, mBin, mUn, op1, op2, look, opN, lookAll, mCall, aT, aV, aNil, mStore, okSet, isT, asB, mTup, mLst, valsOf, mNx, outIo, retR, Md.isOwn, Md.isIo, Md.isLk, fI, mIf, mAnd, mOr, mNot, mAndV, mOrV, mChain, mPar, mPar3, mF, mFk, callF, callIo, putIo, freezeBy, flatD, flatAll, flatY, mayGive, notSlot, gath, mAsgG, gT, gsCons, gsNil, gIx, gN, setIx, mSetIx, ownAt, mApp, appTo, mIsi, isiD, isK, kinds, tyD, mSl, mPart, mNoPart, asInt, slD, cutD, lenD, absD, max2D, min2D, gcdD, lcmD, intD, listD, tupleD, allD, boolsOf, divmodD, addD, subD, mulD, fdivD, modD, powD, ltD, leD, gtD, geD, isD, isntD, negD, notD, ixD, revD, atI, ixN, isNone, sizeLine, eqsD, nesD, eqD, neD]
  have em : m_common_under [some ⟨.val, d⟩] = some (.ok (.rt (.val (.int u))), [some ⟨.val, d⟩]) := by
    have e : m_common_under = (mSeq (mDrop (mF 1 f__want_ratios none (aT (mVar 0) aNil))) (mRet (mBin ixD (mF 1 f__told none (aT (mTup (aV (mF 1 f_under_of none (aT (mVar 0) aNil)) (aV (mC (.int 1)) aNil))) aNil)) (mC (.int 0))))) := rfl
    rw [e]
    unfold mSeq bnd
    rw [a0]
    exact a1
  simp [f_common_under, mkFn, isListAt, slots, slot0, em, outIo, retR]
theorem ev_common_under {L : Nat} {d : D} {ps : List (Int × Int)} (ok : Ok L ps) (h : Cont d ps) : f_common_under [d] = some (.ok (.val (.int (lcmF ps 1 : Nat))), .none) :=
  ev_cu (ev_want_ratios ok h) (ev_under ok h) (told_int (lcm_lt ok))
theorem cross {N U g c d n u : Int} (m1 : N * g = n) (m2 : U * g = u) : (N * d + c * U) * (u * d) = (n * d + c * u) * (U * d) := by
  subst m1
  subst m2
  have e : N * g * d + c * (U * g) = (N * d + c * U) * g := by
    rw [Int.add_mul]
    have h1 : N * g * d = N * d * g := by ac_rfl
    have h2 : c * (U * g) = c * U * g := by ac_rfl
    rw [h1, h2]
  rw [e]
  ac_rfl
theorem ev_sum_of {L : Nat} {d : D} {ps : List (Int × Int)} (ok : Ok L ps) (h : Cont d ps) : f_sum_of [d] = some (.ok (.val (red (SM L ps) L)), .none) := by
  have st : ∀ (u : D) (s : Option Slot) (z : D), (s = none ∨ ∃ t, s = some ⟨.val, t⟩) → gN 2 z [some ⟨.val, d⟩, some ⟨.val, u⟩, s] = some (.ok (), [some ⟨.val, d⟩, some ⟨.val, u⟩, some ⟨.val, z⟩]) := by
    intro u s z hs
    rcases hs with rfl | ⟨t, rfl⟩ <;> simp [mkFn, isListAt, slots, slot0, mSeq, mAsg, mRet, mIfS, mDrop, mB, bnd, Mi.ret, thaw, thawR, mVal, valR, mVar, mC, mBin, mUn, op1, op2, look, opN, lookAll, mCall, aT, aV, aNil, mStore, okSet, isT, asB, mTup, mLst, valsOf, mNx, outIo, retR, Md.isOwn, Md.isIo, Md.isLk, fI, mIf, mAnd, mOr, mNot, mAndV, mOrV, mChain, mPar, mPar3, mF, mFk, callF, callIo, putIo, freezeBy, flatD, flatAll, flatY, mayGive, notSlot, gath, mAsgG, gT, gsCons, gsNil, gIx, gN, setIx, mSetIx, ownAt, mApp, appTo, mIsi, isiD, isK, kinds, tyD, mSl, mPart, mNoPart, asInt, slD, cutD, lenD, absD, max2D, min2D, gcdD, lcmD, intD, listD, tupleD, allD, boolsOf, divmodD, addD, subD, mulD, fdivD, modD, powD, ltD, leD, gtD, geD, isD, isntD, negD, notD, ixD, revD, atI, ixN, isNone, sizeLine, eqsD, nesD, eqD, neD]
  have run : ∀ (qs : List (Int × Int)) (n u : Int) (k : Nat) (t : Int) (s : Option Slot), Ok L qs → 0 < u → n.natAbs < 2 ^ (400 * k) → u.natAbs ≤ 2 ^ (400 * k) → n * L = t * u → k + qs.length ≤ 9 → (s = none ∨ ∃ t, s = some ⟨.val, t⟩) →
      ∃ s', loopF (gN 2) (mAsg 1 (mF 2 f_plus none (aT (mVar 1) (aT (mVar 2) aNil)))) (rats qs) [some ⟨.val, d⟩, some ⟨.val, red n u⟩, s] = some (.ok .nx, [some ⟨.val, d⟩, some ⟨.val, red (NU qs (n, u)).1 (NU qs (n, u)).2⟩, s']) := by
    intro qs
    induction qs with
    | nil => exact fun n u k t s _ _ _ _ _ _ _ => ⟨s, rfl⟩
    | cons p qs ih =>
      intro n u k t s okq h0 h1 h2 h3 hk hs
      have el := okq.el p List.mem_cons_self
      obtain ⟨s1, s2⟩ := el_sz el
      obtain ⟨q1, q2, q3, q4⟩ := el
      have pw : (2 : Nat) ^ (400 * (k + 1)) = 2 ^ (400 * k) * 2 ^ 400 := by rw [Nat.mul_add, Nat.pow_add]
      obtain ⟨g1, g2⟩ := nu_size (Nat.two_pow_pos _) s1 s2 h1 h2
      rw [← pw] at g1 g2
      have dv : (L / p.2 : Int) * p.2 = L := Int.ediv_mul_cancel (Int.natAbs_dvd.mp (Int.natCast_dvd_natCast.mpr q2))
      have e1 := nu_of (c := p.1) h3 dv
      rw [List.length_cons] at hk
      have k8 : 400 * k ≤ 3200 := by omega
      have b1 : n.natAbs < 2 ^ 4000 := lt_mono h1 (by omega)
      have b2 : u.natAbs < 2 ^ 4000 := Nat.lt_of_le_of_lt h2 (Nat.pow_lt_pow_right (by decide) (by omega))
      have u0 : u ≠ 0 := by omega
      have d0 : p.2 ≠ 0 := by have := q1.1; omega
      have rl := red_low (n := n) (u := u) u0
      have pl := ev_plus (a := redN n u) (b := redU n u) (c := p.1) (d := p.2) ⟨Nat.lt_of_le_of_lt (redN_le n u) b1, Nat.lt_of_le_of_lt (redU_le n u) b2⟩ ⟨lt_mono s1 (by decide), lt_mono s2 (by decide)⟩ (by have := rl.1; omega) d0
      have m1 := redN_mul n u
      have m2 := redU_mul n u
      have g0 := gs_ne (n := n) u0
      have ru0 : redU n u ≠ 0 := by have := rl.1; omega
      obtain ⟨r1, r2⟩ := red_eq (Int.mul_ne_zero ru0 d0) (Int.mul_ne_zero u0 d0) (cross (c := p.1) (d := p.2) m1 m2)
      have eq : red (redN n u * p.2 + p.1 * redU n u) (redU n u * p.2) = red (n * p.2 + p.1 * u) (u * p.2) := by
        show rat _ _ = rat _ _
        rw [r1, r2]
      rw [eq] at pl
      obtain ⟨s', e⟩ := ih (n * p.2 + p.1 * u) (u * p.2) (k + 1) (t + p.1 * (L / p.2)) (some ⟨.val, rat p.1 p.2⟩) okq.tail (Int.mul_pos h0 q1.1) g1 g2 e1 (by omega) (.inr ⟨_, rfl⟩)
      refine ⟨s', ?_⟩
      have b : (mAsg 1 (mF 2 f_plus none (aT (mVar 1) (aT (mVar 2) aNil)))) [some ⟨.val, d⟩, some ⟨.val, red n u⟩, some ⟨.val, rat p.1 p.2⟩] = some (.ok .nx, [some ⟨.val, d⟩, some ⟨.val, red (n * p.2 + p.1 * u) (u * p.2)⟩, some ⟨.val, rat p.1 p.2⟩]) := by
        simp [pl, mkFn, isListAt, slots, slot0, mSeq, mAsg, mRet, mIfS, mDrop, mB, bnd, Mi.ret, thaw, thawR, mVal, valR, mVar, mC, mBin, mUn, op1, op2, look, opN, lookAll, mCall, aT, aV, aNil, mStore, okSet, isT, asB, mTup, mLst, valsOf, mNx, outIo, retR, Md.isOwn, Md.isIo, Md.isLk, fI, mIf, mAnd, mOr, mNot, mAndV, mOrV, mChain, mPar, mPar3, mF, mFk, callF, callIo, putIo, freezeBy, flatD, flatAll, flatY, mayGive, notSlot, gath, mAsgG, gT, gsCons, gsNil, gIx, gN, setIx, mSetIx, ownAt, mApp, appTo, mIsi, isiD, isK, kinds, tyD, mSl, mPart, mNoPart, asInt, slD, cutD, lenD, absD, max2D, min2D, gcdD, lcmD, intD, listD, tupleD, allD, boolsOf, divmodD, addD, subD, mulD, fdivD, modD, powD, ltD, leD, gtD, geD, isD, isntD, negD, notD, ixD, revD, atI, ixN, isNone, sizeLine, eqsD, nesD, eqD, neD]
      show loopF _ _ (rat p.1 p.2 :: rats qs) _ = _
      unfold loopF bnd
      rw [st _ s _ hs]
      dsimp only
      rw [b]
      exact e
  have hl := ok.len
  obtain ⟨s', e⟩ := run ps 0 1 0 0 none ok (by decide) (by decide) (by decide) (by omega) (by omega) (.inl rfl)
  obtain ⟨f1, f2, f3, f4⟩ := NU_facts ps 0 1 0 0 ok (by decide) (by decide) (by decide) (by omega)
  have L0 : (L : Int) ≠ 0 := by have := ok.pos; omega
  obtain ⟨r1, r2⟩ := red_eq (n := (NU ps (0, 1)).1) (u := (NU ps (0, 1)).2) (n' := SM L ps) (u' := L) (by omega) L0 (by rw [f4, Int.zero_add])
  have eq : red (NU ps (0, 1)).1 (NU ps (0, 1)).2 = red (SM L ps) L := by
    show rat _ _ = rat _ _
    rw [r1, r2]
  have z01 : red 0 1 = rat 0 1 := by
    obtain ⟨q1, q2⟩ := red_self (a := 0) (b := 1) ⟨by decide, by decide⟩
    show rat _ _ = rat _ _
    rw [q1, q2]
  rw [eq, z01] at e
  have vn : v_NOUGHT = rat 0 1 := rfl
  have e3 := for_run (it_data h [some ⟨.val, rat 0 1⟩, none]) e
  have hS := SM_le ps ok
  have t : f__told [red (SM L ps) L] = some (.ok (.val (red (SM L ps) L)), .none) := by
    have l := bey_big
    have ee : ((10 ^ 399 : Nat) : Int) = (10 : Int) ^ 399 := by decide
    have h1 := redN_le (SM L ps) L
    have h2 := redU_le (SM L ps) L
    have h3 := ok.le
    have h4 : 10 * (10 ^ 41 * 10 ^ 330) < 10 ^ 399 := by decide
    have h5 : ps.length * (10 ^ 41 * L) ≤ 10 * (10 ^ 41 * 10 ^ 330) := Nat.mul_le_mul (by omega) (Nat.mul_le_mul_left _ h3)
    have h6 : 10 ^ 330 < 10 ^ 399 := by decide
    rw [Int.natAbs_natCast] at h2
    exact ev_told (by omega) (by omega) (by omega)
  have em : m_sum_of [some ⟨.val, d⟩, none, none] = some (.ok (.rt (.val (red (SM L ps) L))), [some ⟨.val, d⟩, some ⟨.val, red (SM L ps) L⟩, s']) := by
    have e : m_sum_of = (mSeq (mDrop (mF 1 f__want_ratios none (aT (mVar 0) aNil))) (mSeq (mAsg 1 (mC v_NOUGHT)) (mSeq (mFor (chk (mItD (mVar 0))) (gN 2) (mAsg 1 (mF 2 f_plus none (aT (mVar 1) (aT (mVar 2) aNil))))) (mRet (mF 1 f__told none (aT (mVar 1) aNil)))))) := rfl
    have a0 : mDrop (mF 1 f__want_ratios none (aT (mVar 0) aNil)) [some ⟨.val, d⟩, none, none] = some (.ok .nx, [some ⟨.val, d⟩, none, none]) := by simp [ev_want_ratios ok h, mkFn, isListAt, slots, slot0, mSeq, mAsg, mRet, mIfS, mDrop, mB, bnd, Mi.ret, thaw, thawR, mVal, valR, mVar, mC, mBin, mUn, op1, op2, look, opN, lookAll, mCall, aT, aV, aNil, mStore, okSet, isT, asB, mTup, mLst, valsOf, mNx, outIo, retR, Md.isOwn, Md.isIo, Md.isLk, fI, mIf, mAnd, mOr, mNot, mAndV, mOrV, mChain, mPar, mPar3, mF, mFk, callF, callIo, putIo, freezeBy, flatD, flatAll, flatY, mayGive, notSlot, gath, mAsgG, gT, gsCons, gsNil, gIx, gN, setIx, mSetIx, ownAt, mApp, appTo, mIsi, isiD, isK, kinds, tyD, mSl, mPart, mNoPart, asInt, slD, cutD, lenD, absD, max2D, min2D, gcdD, lcmD, intD, listD, tupleD, allD, boolsOf, divmodD, addD, subD, mulD, fdivD, modD, powD, ltD, leD, gtD, geD, isD, isntD, negD, notD, ixD, revD, atI, ixN, isNone, sizeLine, eqsD, nesD, eqD, neD]
    have a1 : mAsg 1 (mC v_NOUGHT) [some ⟨.val, d⟩, none, none] = some (.ok .nx, [some ⟨.val, d⟩, some ⟨.val, rat 0 1⟩, none]) := by simp [vn, mkFn, isListAt, slots, slot0, mSeq, mAsg, mRet, mIfS, mDrop, mB, bnd, Mi.ret, thaw, thawR, mVal, valR, mVar, mC, mBin, mUn, op1, op2, look, opN, lookAll, mCall, aT, aV, aNil, mStore, okSet, isT, asB, mTup, mLst, valsOf, mNx, outIo, retR, Md.isOwn, Md.isIo, Md.isLk, fI, mIf, mAnd, mOr, mNot, mAndV, mOrV, mChain, mPar, mPar3, mF, mFk, callF, callIo, putIo, freezeBy, flatD, flatAll, flatY, mayGive, notSlot, gath, mAsgG, gT, gsCons, gsNil, gIx, gN, setIx, mSetIx, ownAt, mApp, appTo, mIsi, isiD, isK, kinds, tyD, mSl, mPart, mNoPart, asInt, slD, cutD, lenD, absD, max2D, min2D, gcdD, lcmD, intD, listD, tupleD, allD, boolsOf, divmodD, addD, subD, mulD, fdivD, modD, powD, ltD, leD, gtD, geD, isD, isntD, negD, notD, ixD, revD, atI, ixN, isNone, sizeLine, eqsD, nesD, eqD, neD]
    rw [e]
    unfold mSeq bnd
    rw [a0]
    dsimp only
    rw [a1]
    dsimp only
    rw [e3]
    simp [t, mkFn, isListAt, slots, slot0, mSeq, mAsg, mRet, mIfS, mDrop, mB, bnd, Mi.ret, thaw, thawR, mVal, valR, mVar, mC, mBin, mUn, op1, op2, look, opN, lookAll, mCall, aT, aV, aNil, mStore, okSet, isT, asB, mTup, mLst, valsOf, mNx, outIo, retR, Md.isOwn, Md.isIo, Md.isLk, fI, mIf, mAnd, mOr, mNot, mAndV, mOrV, mChain, mPar, mPar3, mF, mFk, callF, callIo, putIo, freezeBy, flatD, flatAll, flatY, mayGive, notSlot, gath, mAsgG, gT, gsCons, gsNil, gIx, gN, setIx, mSetIx, ownAt, mApp, appTo, mIsi, isiD, isK, kinds, tyD, mSl, mPart, mNoPart, asInt, slD, cutD, lenD, absD, max2D, min2D, gcdD, lcmD, intD, listD, tupleD, allD, boolsOf, divmodD, addD, subD, mulD, fdivD, modD, powD, ltD, leD, gtD, geD, isD, isntD, negD, notD, ixD, revD, atI, ixN, isNone, sizeLine, eqsD, nesD, eqD, neD]
  simp [f_sum_of, mkFn, isListAt, slots, slot0, em, outIo, retR]
end K11

namespace K11
open PySem L2 Evl PySem.Spec Mi
def WR (l : Int) (ps : List (Int × Int)) : List D := ps.map fun p => .int (p.1 * (l / p.2))
def eWr : M Res := (mBin ixD (mF 1 f__told none (aT (mTup (aV (mBin mulD (mBin ixD (mVar 2) (mC (.int 0))) (mBin fdivD (mVar 1) (mBin ixD (mVar 2) (mC (.int 1))))) (aV (mC (.int 1)) aNil))) aNil)) (mC (.int 0)))
theorem wr_el {d : D} {l a b : Int} (dv : divOk b = true) (e : l.fdiv b = l / b) (m : mulOk a (l / b) = true) (t : f__told [rat (a * (l / b)) 1] = some (.ok (.val (rat (a * (l / b)) 1)), .none)) :
    mVal eWr [some ⟨.val, d⟩, some ⟨.val, .int l⟩, some ⟨.val, rat a b⟩] = some (.ok (.int (a * (l / b))), [some ⟨.val, d⟩, some ⟨.val, .int l⟩, some ⟨.val, rat a b⟩]) := by
  simp [eWr, dv, e, m, t, mkFn, isListAt, slots, slot0, mSeq, mAsg, mRet, mIfS, mDrop, mB, bnd, Mi.ret, thaw, thawR, mVal, valR, mVar, mC, mBin, mUn, op1, op2, look, opN, lookAll, mCall, aT, aV, aNil, mStore, okSet, isT, asB, mTup, mLst, valsOf, mNx, outIo, retR, Md.isOwn, Md.isIo, Md.isLk, fI, mIf, mAnd, mOr, mNot, mAndV, mOrV, mChain, mPar, mPar3, mF, mFk, callF, callIo, putIo, freezeBy, flatD, flatAll, flatY, mayGive, notSlot, gath, mAsgG, gT, gsCons, gsNil, gIx, gN, setIx, mSetIx, ownAt, mApp, appTo, mIsi, isiD, isK, kinds, tyD, mSl, mPart, mNoPart, asInt, slD, cutD, lenD, absD, max2D, min2D, gcdD, lcmD, intD, listD, tupleD, allD, boolsOf, divmodD, addD, subD, mulD, fdivD, modD, powD, ltD, leD, gtD, geD, isD, isntD, negD, notD, ixD, revD, atI, ixN, isNone, sizeLine, eqsD, nesD, eqD, neD]
theorem wr_told {L : Nat} {l : Nat} {p : Int × Int} (h1 : l ≤ 10 ^ 330) (h2 : p.1.natAbs ≤ 10 ^ 41 * p.2.natAbs) (h3 : p.2.natAbs ∣ l) (h4 : Low p.1 p.2) : (p.1 * ((l : Int) / p.2)).natAbs < 10 ^ 399 ∧ ((l : Int) / p.2).natAbs ≤ l := by
  have dv : ((l : Int) / p.2) * p.2 = l := Int.ediv_mul_cancel (Int.natAbs_dvd.mp (Int.natCast_dvd_natCast.mpr h3))
  have n1 : ((l : Int) / p.2).natAbs * p.2.natAbs = l := by rw [← Int.natAbs_mul, dv, Int.natAbs_natCast]
  have e : 10 ^ 41 * p.2.natAbs * ((l : Int) / p.2).natAbs = 10 ^ 41 * l := by rw [Nat.mul_assoc, Nat.mul_comm p.2.natAbs, n1]
  have a1 := Nat.mul_le_mul_right ((l : Int) / p.2).natAbs h2
  rw [e] at a1
  have z : 10 ^ 41 * 10 ^ 330 < 10 ^ 399 := by decide
  have z2 := Nat.mul_le_mul_left (10 ^ 41) h1
  refine ⟨?_, ?_⟩
  · rw [Int.natAbs_mul]; omega
  · have := h4.1
    have : ((l : Int) / p.2).natAbs * 1 ≤ ((l : Int) / p.2).natAbs * p.2.natAbs := Nat.mul_le_mul_left _ (by omega)
    omega
theorem b330 : 10 ^ 330 < 2 ^ 1200 := by decide
theorem ev_whole0 {d : D} {l : Int} {xs : List D} (w : f__want_ratios [d] = some (.ok (.val .none), .none)) (v : f_under_of [d] = some (.ok (.val (.int l)), .none)) (t : f__told [rat l 1] = some (.ok (.val (rat l 1)), .none))
    (lc : mLc (mItD (mVar 0)) (gN 2) (ret true) eWr [2] [some ⟨.val, d⟩, some ⟨.val, .int l⟩, none] = some (.ok (.fresh xs), [some ⟨.val, d⟩, some ⟨.val, .int l⟩, none])) : f_whole_row [d] = some (.ok (.val (.tuple [.tuple xs, .int l])), .none) := by
  have a0 : mDrop (mF 1 f__want_ratios none (aT (mVar 0) aNil)) [some ⟨.val, d⟩, none, none] = some (.ok .nx, [some ⟨.val, d⟩, none, none]) := by simp [w, mkFn, isListAt, slots, slot0, mSeq, mAsg, mRet, mIfS, mDrop, mB, bnd, Mi.ret, thaw, thawR, mVal, valR, mVar, mC, mBin, mUn, op1, op2, look, opN, lookAll, mCall, aT, aV, aNil, mStore, okSet, isT, asB, mTup, mLst, valsOf, mNx, outIo, retR, Md.isOwn, Md.isIo, Md.isLk, fI, mIf, mAnd, mOr, mNot, mAndV, mOrV, mChain, mPar, mPar3, mF, mFk, callF, callIo, putIo, freezeBy, flatD, flatAll, flatY, mayGive, notSlot, gath, mAsgG, gT, gsCons, gsNil, gIx, gN, setIx, mSetIx, ownAt, mApp, appTo, mIsi, isiD, isK, kinds, tyD, mSl, mPart, mNoPart, asInt, slD, cutD, lenD, absD, max2D, min2D, gcdD, lcmD, intD, listD, tupleD, allD, boolsOf, divmodD, addD, subD, mulD, fdivD, modD, powD, ltD, leD, gtD, geD, isD, isntD, negD, notD, ixD, revD, atI, ixN, isNone, sizeLine, eqsD, nesD, eqD, neD]
  have a1 : (mAsg 1 (mBin ixD (mF 1 f__told none (aT (mTup (aV (mF 1 f_under_of none (aT (mVar 0) aNil)) (aV (mC (.int 1)) aNil))) aNil)) (mC (.int 0)))) [some ⟨.val, d⟩, none, none] = some (.ok .nx, [some ⟨.val, d⟩, some ⟨.val, .int l⟩, none]) := by
    simp [v, t, mkFn, isListAt, slots, slot0, mSeq, mAsg, mRet, mIfS, mDrop, mB, bnd, Mi.ret, thaw, thawR, mVal, valR, mVar, mC, mBin, mUn, op1, op2, look, opN, lookAll, mCall, aT, aV, aNil, mStore, okSet, isT, asB, mTup, mLst, valsOf, mNx, outIo, retR, Md.isOwn, Md.isIo, Md.isLk, fI, mIf, mAnd, mOr, mNot, mAndV, mOrV, mChain, mPar, mPar3, mF, mFk, callF, callIo, putIo, freezeBy, flatD, flatAll, flatY, mayGive, notSlot, gath, mAsgG, gT, gsCons, gsNil, gIx, gN, setIx, mSetIx, ownAt, mApp, appTo, mIsi, isiD, isK, kinds, tyD, mSl, mPart, mNoPart, asInt, slD, cutD, lenD, absD, max2D, min2D, gcdD, lcmD, intD, listD, tupleD, allD, boolsOf, divmodD, addD, subD, mulD, fdivD, modD, powD, ltD, leD, gtD, geD, isD, isntD, negD, notD, ixD, revD, atI, ixN, isNone, sizeLine, eqsD, nesD, eqD, neD]
  have a2 : (mRet (mTup (aV (mCall tupleD (aT (mLc (mItD (mVar 0)) (gN 2) (ret true) eWr [2]) aNil)) (aV (mVar 1) aNil)))) [some ⟨.val, d⟩, some ⟨.val, .int l⟩, none] = some (.ok (.rt (.val (.tuple [.tuple xs, .int l]))), [some ⟨.val, d⟩, some ⟨.val, .int l⟩, none]) := by
    generalize (mLc (mItD (mVar 0)) (gN 2) (ret true) eWr [2]) = m at lc
    simp [lc, mkFn, isListAt, slots, slot0, mSeq, mAsg, mRet, mIfS, mDrop, mB, bnd, Mi.ret, thaw, thawR, mVal, valR, mVar, mC, mBin, mUn, op1, op2, look, opN, lookAll, mCall, aT, aV, aNil, mStore, okSet, isT, asB, mTup, mLst, valsOf, mNx, outIo, retR, Md.isOwn, Md.isIo, Md.isLk, fI, mIf, mAnd, mOr, mNot, mAndV, mOrV, mChain, mPar, mPar3, mF, mFk, callF, callIo, putIo, freezeBy, flatD, flatAll, flatY, mayGive, notSlot, gath, mAsgG, gT, gsCons, gsNil, gIx, gN, setIx, mSetIx, ownAt, mApp, appTo, mIsi, isiD, isK, kinds, tyD, mSl, mPart, mNoPart, asInt, slD, cutD, lenD, absD, max2D, min2D, gcdD, lcmD, intD, listD, tupleD, allD, boolsOf, divmodD, addD, subD, mulD, fdivD, modD, powD, ltD, leD, gtD, geD, isD, isntD, negD, notD, ixD, revD, atI, ixN, isNone, sizeLine, eqsD, nesD, eqD, neD]
  have em : m_whole_row [some ⟨.val, d⟩, none, none] = some (.ok (.rt (.val (.tuple [.tuple xs, .int l]))), [some ⟨.val, d⟩, some ⟨.val, .int l⟩, none]) := by
    have e : m_whole_row = (mSeq (mDrop (mF 1 f__want_ratios none (aT (mVar 0) aNil))) (mSeq (mAsg 1 (mBin ixD (mF 1 f__told none (aT (mTup (aV (mF 1 f_under_of none (aT (mVar 0) aNil)) (aV (mC (.int 1)) aNil))) aNil)) (mC (.int 0)))) (mRet (mTup (aV (mCall tupleD (aT (mLc (mItD (mVar 0)) (gN 2) (ret true) eWr [2]) aNil)) (aV (mVar 1) aNil)))))) := rfl
    rw [e]
    unfold mSeq bnd
    rw [a0]
    dsimp only
    rw [a1]
    exact a2
  simp [f_whole_row, mkFn, isListAt, slots, slot0, em, outIo, retR]
theorem ev_whole {L : Nat} {d : D} {ps : List (Int × Int)} (ok : Ok L ps) (h : Cont d ps) : f_whole_row [d] = some (.ok (.val (.tuple [.tuple (WR (lcmF ps 1 : Nat) ps), .int (lcmF ps 1 : Nat)])), .none) := by
  have hl := ok.len
  obtain ⟨_, _, _, hd⟩ := lcmF_facts ps 1 ok (by decide) (Nat.one_dvd _)
  have hle := lcm_le ok
  refine ev_whole0 (ev_want_ratios ok h) (ev_under ok h) (told_int (lcm_lt ok)) ?_
  generalize lcmF ps 1 = l at hd hle
  have h1 := loopC_map (g := gN 2) (e := eWr) (vs := [2]) (ρw := [some ⟨.val, d⟩, some ⟨.val, .int (l : Nat)⟩, none]) (f := fun z => match z with | .tuple [.int a, .int b] => .int (a * ((l : Int) / b)) | _ => .none) (rats ps) [] (by
    have : sizeLine = 16777216 := rfl
    rw [List.length_nil, List.length_map, this]; omega) (fun z hz => by
    obtain ⟨p, hp, rfl⟩ := List.mem_map.mp hz
    obtain ⟨q1, q2, q3, q4⟩ := ok.el p hp
    obtain ⟨t1, t2⟩ := wr_told (L := L) hle q3 (hd p hp) q1
    have s := el_sz (ok.el p hp)
    have z := b330
    have d0 : p.2 ≠ 0 := by have := q1.1; omega
    refine ⟨[some ⟨.val, d⟩, some ⟨.val, .int (l : Nat)⟩, some ⟨.val, rat p.1 p.2⟩], _, ?_, wr_el (divOk_of d0 s.2 (by decide)) (fdiv_eq q1.1) (mulOk_of (b := 1200) s.1 (by omega) (by decide) (by decide) (by decide)) (told_int t1), ?_⟩
    · simp [gN, mStore, okSet]
    · simp [wipeR])
  have h2 := lc_run (it_data h [some ⟨.val, .int (l : Nat)⟩, none]) (by
    have e : wipeR [some ⟨.val, d⟩, some ⟨.val, .int (l : Nat)⟩, none] [2] = [some ⟨.val, d⟩, some ⟨.val, .int (l : Nat)⟩, none] := by simp [wipeR]
    rw [e]
    exact h1)
  rw [h2]
  have e2 : List.map (fun z => match z with | PyData.tuple [PyData.int a, PyData.int b] => PyData.int (a * ((l : Int) / b)) | _ => PyData.none) (rats ps) = WR l ps := by
    unfold WR
    rw [List.map_map]
    rfl
  rw [e2]
  simp [restR]
end K11

namespace K11
open PySem L2 Evl PySem.Spec Mi
abbrev bodyS : M Fl := (mSeq (mPar 2 3 (mBin addD (mBin mulD (mVar 2) (mBin ixD (mVar 5) (mC (.int 1)))) (mBin mulD (mBin ixD (mVar 5) (mC (.int 0))) (mVar 3))) (mBin mulD (mVar 3) (mBin ixD (mVar 5) (mC (.int 1))))) (mAsg 4 (mBin fdivD (mBin mulD (mVar 4) (mBin ixD (mVar 5) (mC (.int 1)))) (mF 2 f__law_common none (aT (mVar 4) (aT (mBin ixD (mVar 5) (mC (.int 1))) aNil))))))
def rS (pt rs : D) (n u l : Int) (s : Option Slot) (t6 t7 t8 : Option Slot) : R := [some ⟨.val, pt⟩, some ⟨.val, rs⟩, some ⟨.val, .int n⟩, some ⟨.val, .int u⟩, some ⟨.val, .int l⟩, s, t6, t7, t8]
theorem bodyS_run {pt rs : D} {n u l a b l' : Int} (m1 : mulOk n b = true) (m2 : mulOk a u = true) (m3 : mulOk u b = true) (m4 : mulOk l b = true) (c : f__law_common [.int l, .int b] = some (.ok (.val (.int (Int.gcd l b))), .none)) (dv : divOk (Int.gcd l b) = true) (e : (l * b).fdiv (Int.gcd l b) = l') :
    bodyS (rS pt rs n u l (some ⟨.val, rat a b⟩) none none none) = some (.ok .nx, rS pt rs (n * b + a * u) (u * b) l' (some ⟨.val, rat a b⟩) none none none) := by
  simp [rS, m1, m2, m3, m4, c, dv, e, mkFn, isListAt, slots, slot0, mSeq, mAsg, mRet, mIfS, mDrop, mB, bnd, Mi.ret, thaw, thawR, mVal, valR, mVar, mC, mBin, mUn, op1, op2, look, opN, lookAll, mCall, aT, aV, aNil, mStore, okSet, isT, asB, mTup, mLst, valsOf, mNx, outIo, retR, Md.isOwn, Md.isIo, Md.isLk, fI, mIf, mAnd, mOr, mNot, mAndV, mOrV, mChain, mPar, mPar3, mF, mFk, callF, callIo, putIo, freezeBy, flatD, flatAll, flatY, mayGive, notSlot, gath, mAsgG, gT, gsCons, gsNil, gIx, gN, setIx, mSetIx, ownAt, mApp, appTo, mIsi, isiD, isK, kinds, tyD, mSl, mPart, mNoPart, asInt, slD, cutD, lenD, absD, max2D, min2D, gcdD, lcmD, intD, listD, tupleD, allD, boolsOf, divmodD, addD, subD, mulD, fdivD, modD, powD, ltD, leD, gtD, geD, isD, isntD, negD, notD, ixD, revD, atI, ixN, isNone, sizeLine, eqsD, nesD, eqD, neD]
theorem lcm_int {l : Nat} {b : Int} (hl : 0 < l) (hb : 0 < b) : ((l : Int) * b).fdiv (Int.gcd l b) = (Nat.lcm l b.natAbs : Nat) := by
  have g : 0 < Int.gcd (l : Int) b := Nat.gcd_pos_of_pos_left _ (by rw [Int.natAbs_natCast]; exact hl)
  rw [fdiv_eq (by omega)]
  have e : (l : Int) * b = ((l * b.natAbs : Nat) : Int) := by rw [Int.natCast_mul, Int.natAbs_of_nonneg (Int.le_of_lt hb)]
  rw [e, ← Int.natCast_ediv]
  rfl
theorem loopS {L : Nat} {pt rs : D} : ∀ (qs : List (Int × Int)) (n u : Int) (k : Nat) (l : Nat) (t : Int) (s : Option Slot), Ok L qs → 0 < u → n.natAbs < 2 ^ (400 * k) → u.natAbs ≤ 2 ^ (400 * k) → n * L = t * u → k + qs.length ≤ 9 → 0 < l → l ∣ L → (s = none ∨ ∃ t, s = some ⟨.val, t⟩) →
    ∃ s', (s' = none ∨ ∃ t, s' = some ⟨.val, t⟩) ∧ loopF (gN 5) bodyS (rats qs) (rS pt rs n u l s none none none) = some (.ok .nx, rS pt rs (NU qs (n, u)).1 (NU qs (n, u)).2 (lcmF qs l : Nat) s' none none none)
  | [], n, u, k, l, t, s, _, _, _, _, _, _, _, _, hs => ⟨s, hs, rfl⟩
  | p :: qs, n, u, k, l, t, s, okq, h0, h1, h2, h3, hk, hl0, hl1, hs => by
    have el := okq.el p List.mem_cons_self
    obtain ⟨s1, s2⟩ := el_sz el
    obtain ⟨q1, q2, q3, q4⟩ := el
    have pw : (2 : Nat) ^ (400 * (k + 1)) = 2 ^ (400 * k) * 2 ^ 400 := by rw [Nat.mul_add, Nat.pow_add]
    obtain ⟨g1, g2⟩ := nu_size (Nat.two_pow_pos _) s1 s2 h1 h2
    rw [← pw] at g1 g2
    have dv : (L / p.2 : Int) * p.2 = L := Int.ediv_mul_cancel (Int.natAbs_dvd.mp (Int.natCast_dvd_natCast.mpr q2))
    have e1 := nu_of (c := p.1) h3 dv
    rw [List.length_cons] at hk
    have b1 : n.natAbs < 2 ^ 4000 := lt_mono h1 (by omega)
    have b2 : u.natAbs < 2 ^ 4000 := Nat.lt_of_le_of_lt h2 (Nat.pow_lt_pow_right (by decide) (by omega))
    have b3 : (l : Int).natAbs < 2 ^ 1200 := by rw [Int.natAbs_natCast]; exact Nat.lt_of_le_of_lt (Nat.le_of_dvd okq.pos hl1) (big_L okq)
    have p0 : 0 < p.2.natAbs := by have := q1.1; omega
    have cm := ev_common (a := (l : Int)) (b := p.2) (lt_mono b3 (by decide)) (lt_mono s2 (by decide))
    have gp : 0 < Int.gcd (l : Int) p.2 := Nat.gcd_pos_of_pos_left _ (by rw [Int.natAbs_natCast]; exact hl0)
    have gl : (Int.gcd (l : Int) p.2) ≤ p.2.natAbs := Nat.le_of_dvd p0 (Nat.gcd_dvd_right _ _)
    have dg : divOk (Int.gcd (l : Int) p.2) = true := divOk_of (k := 233) (by omega) (by rw [Int.natAbs_natCast]; exact Nat.lt_of_le_of_lt gl s2) (by decide)
    have br := bodyS_run (pt := pt) (rs := rs) (n := n) (u := u) (l := l) (a := p.1) (b := p.2) (mulOk_of b1 s2 (by decide) (by decide) (by decide)) (mulOk_of s1 b2 (by decide) (by decide) (by decide)) (mulOk_of b2 s2 (by decide) (by decide) (by decide)) (mulOk_of b3 s2 (by decide) (by decide) (by decide)) cm dg (lcm_int hl0 q1.1)
    obtain ⟨s', hs', e⟩ := loopS (pt := pt) (rs := rs) qs (n * p.2 + p.1 * u) (u * p.2) (k + 1) (Nat.lcm l p.2.natAbs) (t + p.1 * (L / p.2)) (some ⟨.val, rat p.1 p.2⟩) okq.tail (Int.mul_pos h0 q1.1) g1 g2 e1 (by omega) (Nat.lcm_pos hl0 p0) (Nat.lcm_dvd hl1 q2) (.inr ⟨_, rfl⟩)
    refine ⟨s', hs', ?_⟩
    have st : gN 5 (rat p.1 p.2) (rS pt rs n u l s none none none) = some (.ok (), rS pt rs n u l (some ⟨.val, rat p.1 p.2⟩) none none none) := by
      rcases hs with rfl | ⟨t, rfl⟩ <;> simp [rS, gN, mStore, okSet]
    show loopF _ _ (rat p.1 p.2 :: rats qs) _ = _
    unfold loopF bnd
    rw [st]
    dsimp only
    rw [br]
    exact e
/-! ### what repr takes of such lists -/
theorem rats_show {L : Nat} : ∀ {ps : List (Int × Int)}, Ok L ps → PyData.showableAll (rats ps) = true
  | [], _ => rfl
  | p :: ps, ok => by
    have s := el_sz (ok.el p List.mem_cons_self)
    have l1 : p.1.natAbs.log2 < 1920 := lg_of (lt_mono s.1 (by decide)) (by decide)
    have l2 : p.2.natAbs.log2 < 1920 := lg_of (lt_mono s.2 (by decide)) (by decide)
    show (PyData.showable (rat p.1 p.2) && PyData.showableAll (rats ps)) = true
    rw [rats_show ok.tail]
    simp [PyData.showable, PyData.showableAll, l1, l2]
theorem rats_bulk : ∀ ps : List (Int × Int), PyData.bulkAll (rats ps) = 3 * ps.length
  | [] => rfl
  | p :: ps => by
    show PyData.bulk (rat p.1 p.2) + 1 + PyData.bulkAll (rats ps) = _
    rw [rats_bulk ps]
    simp [PyData.bulk, PyData.bulkAll]
    omega
theorem repr_rats {L : Nat} {ps : List (Int × Int)} (ok : Ok L ps) : reprOk (.list (rats ps)) = true := by
  have h := rats_depth ps
  have hl := ok.len
  refine reprOk_of ?_ ?_ ?_ ?_
  · simp only [PyData.canLay0]; exact rats_lay ps
  · simp only [PyData.showable]; exact rats_show ok
  · simp only [PyData.depth]; omega
  · simp only [PyData.bulk]; rw [rats_bulk]; omega
theorem wr_all {L : Nat} {l : Nat} (hle : l ≤ 10 ^ 330) : ∀ {ps : List (Int × Int)}, Ok L ps → (∀ p ∈ ps, p.2.natAbs ∣ l) → PyData.canLayAll0 (WR l ps) = true ∧ PyData.showableAll (WR l ps) = true ∧ PyData.depthAll (WR l ps) = 0 ∧ PyData.bulkAll (WR l ps) = ps.length
  | [], _, _ => ⟨rfl, rfl, rfl, rfl⟩
  | p :: ps, ok, hd => by
    obtain ⟨q1, q2, q3, q4⟩ := ok.el p List.mem_cons_self
    obtain ⟨t1, t2⟩ := wr_told (L := L) hle q3 (hd p List.mem_cons_self) q1
    have z : 10 ^ 399 < 10 ^ 500 := by decide
    have l1 := lg1920 (k := 0) (Nat.lt_trans t1 z)
    obtain ⟨h1, h2, h3, h4⟩ := wr_all hle ok.tail fun q hq => hd q (List.mem_cons_of_mem _ hq)
    have e : WR l (p :: ps) = .int (p.1 * ((l : Int) / p.2)) :: WR l ps := rfl
    rw [e]
    refine ⟨?_, ?_, ?_, ?_⟩
    · simp only [PyData.canLayAll0, PyData.canLay0, h1, Bool.and_self]
    · simp only [PyData.showableAll, PyData.showable, h2, l1, decide_true, Bool.and_self]
    · simp only [PyData.depthAll, PyData.depth, h3]; rfl
    · simp only [PyData.bulkAll, PyData.bulk, h4, List.length_cons]; omega
theorem repr_due {L : Nat} {ps : List (Int × Int)} (ok : Ok L ps) : reprOk (.list [red (SM L ps) L, .int (lcmF ps 1 : Nat), .tuple [.tuple (WR (lcmF ps 1 : Nat) ps), .int (lcmF ps 1 : Nat)]]) = true := by
  obtain ⟨_, _, _, hd⟩ := lcmF_facts ps 1 ok (by decide) (Nat.one_dvd _)
  have hle := lcm_le ok
  have hl := ok.len
  have hS := SM_le ps ok
  have z : 10 ^ 330 < 10 ^ 500 := by decide
  have z2 : 10 * (10 ^ 41 * 10 ^ 330) < 10 ^ 500 := by decide
  have h5 : ps.length * (10 ^ 41 * L) ≤ 10 * (10 ^ 41 * 10 ^ 330) := Nat.mul_le_mul (by omega) (Nat.mul_le_mul_left _ ok.le)
  obtain ⟨w1, w2⟩ := show_red (n := SM L ps) (u := L) (by omega) (by rw [Int.natAbs_natCast]; exact Nat.lt_of_le_of_lt ok.le z)
  generalize lcmF ps 1 = l at hd hle
  have l1 : ((l : Nat) : Int).natAbs.log2 < 1920 := lg1920 (k := 0) (by rw [Int.natAbs_natCast]; exact Nat.lt_of_le_of_lt hle z)
  obtain ⟨r1, r2, r3, r4⟩ := wr_all hle ok hd
  refine reprOk_of ?_ ?_ ?_ ?_
  · simp only [PyData.canLay0, PyData.canLayAll0, r1, Bool.and_self]
  · simp only [PyData.showable, PyData.showableAll, r2, w1, w2, l1, decide_true, Bool.and_self]
  · simp only [PyData.depth, PyData.depthAll, r3]; decide
  · simp only [PyData.bulk, PyData.bulkAll, r4]; omega
end K11

namespace K11
open PySem L2 Evl PySem.Spec Mi
abbrev eLc : M Res := (mBin mulD (mBin ixD (mVar 5) (mC (.int 0))) (mBin fdivD (mVar 4) (mBin ixD (mVar 5) (mC (.int 1)))))
abbrev lcS : M Res := (mLc (mItD (mVar 1)) (gN 5) (ret true) eLc [5])
theorem lists0 {pt s0 : D} {xs ws : List D} {n u l : Int} {s : Option Slot} (lc : lcS (rS pt (.list xs) n u l s none none none) = some (.ok (.fresh ws), rS pt (.list xs) n u l s none none none))
    (fs : flatD s0 = true) (hs : s = none ∨ ∃ t, s = some ⟨.val, t⟩)
    (lp : mFor (chk (mItD (mVar 1))) (gN 5) bodyS (rS pt (.list xs) 0 1 1 none none none none) = some (.ok .nx, rS pt (.list xs) n u l s none none none))
    (v : f__law_ratio [.int n, .int u] = some (.ok (.val s0), .none)) (r1 : reprOk (.list xs) = true) (r2 : reprOk (.list [s0, .int l, .tuple [.tuple ws, .int l]]) = true)
    (f1 : f_sum_of [.list xs] = some (.ok (.val s0), .none)) (f2 : f_sum_of [.list xs.reverse] = some (.ok (.val s0), .none)) (f3 : f_common_under [.tuple xs] = some (.ok (.val (.int l)), .none)) (f4 : f_common_under [.list xs] = some (.ok (.val (.int l)), .none))
    (f5 : f_whole_row [.list xs] = some (.ok (.val (.tuple [.tuple ws, .int l])), .none)) (f6 : f_whole_row [.tuple xs] = some (.ok (.val (.tuple [.tuple ws, .int l])), .none)) : f__law_lists [pt, .list xs] = some (.ok (.val (.bool true)), .none) := by
  let due : D := .list [s0, .int l, .tuple [.tuple ws, .int l]]
  let k : D := .str (PyData.shown (.list xs))
  have a1 : (mAsgG (gT 3 (gsCons (gN 2) (gsCons (gN 3) (gsCons (gN 4) gsNil)))) (mTup (aV (mC (.int 0)) (aV (mC (.int 1)) (aV (mC (.int 1)) aNil))))) [some ⟨.val, pt⟩, some ⟨.val, .list xs⟩, none, none, none, none, none, none, none] = some (.ok .nx, rS pt (.list xs) 0 1 1 none none none none) := by
    simp [rS, mkFn, isListAt, slots, slot0, mSeq, mAsg, mRet, mIfS, mDrop, mB, bnd, Mi.ret, thaw, thawR, mVal, valR, mVar, mC, mBin, mUn, op1, op2, look, opN, lookAll, mCall, aT, aV, aNil, mStore, okSet, isT, asB, mTup, mLst, valsOf, mNx, outIo, retR, Md.isOwn, Md.isIo, Md.isLk, fI, mIf, mAnd, mOr, mNot, mAndV, mOrV, mChain, mPar, mPar3, mF, mFk, callF, callIo, putIo, freezeBy, flatD, flatAll, flatY, mayGive, notSlot, gath, mAsgG, gT, gsCons, gsNil, gIx, gN, setIx, mSetIx, ownAt, mApp, appTo, mIsi, isiD, isK, kinds, tyD, mSl, mPart, mNoPart, asInt, slD, cutD, lenD, absD, max2D, min2D, gcdD, lcmD, intD, listD, tupleD, allD, boolsOf, divmodD, addD, subD, mulD, fdivD, modD, powD, ltD, leD, gtD, geD, isD, isntD, negD, notD, ixD, revD, atI, ixN, isNone, sizeLine, eqsD, nesD, eqD, neD]
  have a3 : (mAsg 6 (mLst (aV (mF 2 f__law_ratio none (aT (mVar 2) (aT (mVar 3) aNil))) (aV (mVar 4) (aV (mTup (aV (mCall tupleD (aT lcS aNil)) (aV (mVar 4) aNil))) aNil))))) (rS pt (.list xs) n u l s none none none) = some (.ok .nx, rS pt (.list xs) n u l s (some ⟨.own, due⟩) none none) := by
    generalize lcS = m at lc
    simp only [rS] at lc
    simp [rS, lc, v, due, mkFn, isListAt, slots, slot0, mSeq, mAsg, mRet, mIfS, mDrop, mB, bnd, Mi.ret, thaw, thawR, mVal, valR, mVar, mC, mBin, mUn, op1, op2, look, opN, lookAll, mCall, aT, aV, aNil, mStore, okSet, isT, asB, mTup, mLst, valsOf, mNx, outIo, retR, Md.isOwn, Md.isIo, Md.isLk, fI, mIf, mAnd, mOr, mNot, mAndV, mOrV, mChain, mPar, mPar3, mF, mFk, callF, callIo, putIo, freezeBy, flatD, flatAll, flatY, mayGive, notSlot, gath, mAsgG, gT, gsCons, gsNil, gIx, gN, setIx, mSetIx, ownAt, mApp, appTo, mIsi, isiD, isK, kinds, tyD, mSl, mPart, mNoPart, asInt, slD, cutD, lenD, absD, max2D, min2D, gcdD, lcmD, intD, listD, tupleD, allD, boolsOf, divmodD, addD, subD, mulD, fdivD, modD, powD, ltD, leD, gtD, geD, isD, isntD, negD, notD, ixD, revD, atI, ixN, isNone, sizeLine, eqsD, nesD, eqD, neD]
  have a4 : (mAsg 7 (mCall reprD (aT (mVar 1) aNil))) (rS pt (.list xs) n u l s (some ⟨.own, due⟩) none none) = some (.ok .nx, rS pt (.list xs) n u l s (some ⟨.own, due⟩) (some ⟨.val, k⟩) none) := by
    simp [rS, reprD, r1, k, mkFn, isListAt, slots, slot0, mSeq, mAsg, mRet, mIfS, mDrop, mB, bnd, Mi.ret, thaw, thawR, mVal, valR, mVar, mC, mBin, mUn, op1, op2, look, opN, lookAll, mCall, aT, aV, aNil, mStore, okSet, isT, asB, mTup, mLst, valsOf, mNx, outIo, retR, Md.isOwn, Md.isIo, Md.isLk, fI, mIf, mAnd, mOr, mNot, mAndV, mOrV, mChain, mPar, mPar3, mF, mFk, callF, callIo, putIo, freezeBy, flatD, flatAll, flatY, mayGive, notSlot, gath, mAsgG, gT, gsCons, gsNil, gIx, gN, setIx, mSetIx, ownAt, mApp, appTo, mIsi, isiD, isK, kinds, tyD, mSl, mPart, mNoPart, asInt, slD, cutD, lenD, absD, max2D, min2D, gcdD, lcmD, intD, listD, tupleD, allD, boolsOf, divmodD, addD, subD, mulD, fdivD, modD, powD, ltD, leD, gtD, geD, isD, isntD, negD, notD, ixD, revD, atI, ixN, isNone, sizeLine, eqsD, nesD, eqD, neD]
  have a5 : (mAsg 8 (mLst (aV (mF 1 f_sum_of none (aT (mVar 1) aNil)) (aV (mF 1 f_common_under none (aT (mCall tupleD (aT (mVar 1) aNil)) aNil)) (aV (mFk 0 1 [0] f_whole_row none aNil (aT (mVar 1) aNil)) aNil))))) (rS pt (.list xs) n u l s (some ⟨.own, due⟩) (some ⟨.val, k⟩) none) = some (.ok .nx, rS pt (.list xs) n u l s (some ⟨.own, due⟩) (some ⟨.val, k⟩) (some ⟨.own, due⟩)) := by
    simp [rS, f1, f3, f5, fs, due, mkFn, isListAt, slots, slot0, mSeq, mAsg, mRet, mIfS, mDrop, mB, bnd, Mi.ret, thaw, thawR, mVal, valR, mVar, mC, mBin, mUn, op1, op2, look, opN, lookAll, mCall, aT, aV, aNil, mStore, okSet, isT, asB, mTup, mLst, valsOf, mNx, outIo, retR, Md.isOwn, Md.isIo, Md.isLk, fI, mIf, mAnd, mOr, mNot, mAndV, mOrV, mChain, mPar, mPar3, mF, mFk, callF, callIo, putIo, freezeBy, flatD, flatAll, flatY, mayGive, notSlot, gath, mAsgG, gT, gsCons, gsNil, gIx, gN, setIx, mSetIx, ownAt, mApp, appTo, mIsi, isiD, isK, kinds, tyD, mSl, mPart, mNoPart, asInt, slD, cutD, lenD, absD, max2D, min2D, gcdD, lcmD, intD, listD, tupleD, allD, boolsOf, divmodD, addD, subD, mulD, fdivD, modD, powD, ltD, leD, gtD, geD, isD, isntD, negD, notD, ixD, revD, atI, ixN, isNone, sizeLine, eqsD, nesD, eqD, neD]
  have a6 : (mIfS (mOr (mB (mBin nesD (mCall reprD (aT (mVar 8) aNil)) (mCall reprD (aT (mVar 6) aNil)))) (mB (mBin nesD (mCall reprD (aT (mVar 1) aNil)) (mVar 7)))) (mRet (mC (.bool false))) mNx) (rS pt (.list xs) n u l s (some ⟨.own, due⟩) (some ⟨.val, k⟩) (some ⟨.own, due⟩)) = some (.ok .nx, rS pt (.list xs) n u l s (some ⟨.own, due⟩) (some ⟨.val, k⟩) (some ⟨.own, due⟩)) := by
    simp [rS, reprD, r1, r2, due, k, mkFn, isListAt, slots, slot0, mSeq, mAsg, mRet, mIfS, mDrop, mB, bnd, Mi.ret, thaw, thawR, mVal, valR, mVar, mC, mBin, mUn, op1, op2, look, opN, lookAll, mCall, aT, aV, aNil, mStore, okSet, isT, asB, mTup, mLst, valsOf, mNx, outIo, retR, Md.isOwn, Md.isIo, Md.isLk, fI, mIf, mAnd, mOr, mNot, mAndV, mOrV, mChain, mPar, mPar3, mF, mFk, callF, callIo, putIo, freezeBy, flatD, flatAll, flatY, mayGive, notSlot, gath, mAsgG, gT, gsCons, gsNil, gIx, gN, setIx, mSetIx, ownAt, mApp, appTo, mIsi, isiD, isK, kinds, tyD, mSl, mPart, mNoPart, asInt, slD, cutD, lenD, absD, max2D, min2D, gcdD, lcmD, intD, listD, tupleD, allD, boolsOf, divmodD, addD, subD, mulD, fdivD, modD, powD, ltD, leD, gtD, geD, isD, isntD, negD, notD, ixD, revD, atI, ixN, isNone, sizeLine, eqsD, nesD, eqD, neD]
  have a7 : (mRet (mBin eqsD (mCall reprD (aT (mLst (aV (mFk 0 1 [0] f_sum_of none aNil (aT (mUn revD (mVar 1)) aNil)) (aV (mFk 0 1 [0] f_common_under none aNil (aT (mVar 1) aNil)) (aV (mF 1 f_whole_row none (aT (mCall tupleD (aT (mVar 1) aNil)) aNil)) aNil)))) aNil)) (mCall reprD (aT (mVar 6) aNil)))) (rS pt (.list xs) n u l s (some ⟨.own, due⟩) (some ⟨.val, k⟩) (some ⟨.own, due⟩)) = some (.ok (.rt (.val (.bool true))), rS pt (.list xs) n u l s (some ⟨.own, due⟩) (some ⟨.val, k⟩) (some ⟨.own, due⟩)) := by
    simp [rS, reprD, f2, f4, f6, r1, r2, due, k, mkFn, isListAt, slots, slot0, mSeq, mAsg, mRet, mIfS, mDrop, mB, bnd, Mi.ret, thaw, thawR, mVal, valR, mVar, mC, mBin, mUn, op1, op2, look, opN, lookAll, mCall, aT, aV, aNil, mStore, okSet, isT, asB, mTup, mLst, valsOf, mNx, outIo, retR, Md.isOwn, Md.isIo, Md.isLk, fI, mIf, mAnd, mOr, mNot, mAndV, mOrV, mChain, mPar, mPar3, mF, mFk, callF, callIo, putIo, freezeBy, flatD, flatAll, flatY, mayGive, notSlot, gath, mAsgG, gT, gsCons, gsNil, gIx, gN, setIx, mSetIx, ownAt, mApp, appTo, mIsi, isiD, isK, kinds, tyD, mSl, mPart, mNoPart, asInt, slD, cutD, lenD, absD, max2D, min2D, gcdD, lcmD, intD, listD, tupleD, allD, boolsOf, divmodD, addD, subD, mulD, fdivD, modD, powD, ltD, leD, gtD, geD, isD, isntD, negD, notD, ixD, revD, atI, ixN, isNone, sizeLine, eqsD, nesD, eqD, neD]
  have em : m__law_lists [some ⟨.val, pt⟩, some ⟨.val, .list xs⟩, none, none, none, none, none, none, none] = some (.ok (.rt (.val (.bool true))), rS pt (.list xs) n u l s (some ⟨.own, due⟩) (some ⟨.val, k⟩) (some ⟨.own, due⟩)) := by
    show mSeq _ (mSeq (mFor (chk (mItD (mVar 1))) (gN 5) bodyS) (mSeq (mAsg 6 _) (mSeq (mAsg 7 _) (mSeq (mAsg 8 _) (mSeq (mIfS _ _ _) (mRet _)))))) _ = _
    unfold mSeq bnd
    rw [a1]
    dsimp only
    rw [lp]
    dsimp only
    rw [a3]
    dsimp only
    rw [a4]
    dsimp only
    rw [a5]
    dsimp only
    rw [a6]
    exact a7
  simp [f__law_lists, mkFn, isListAt, slots, slot0, em, outIo, retR]
theorem ev_lists {pt : D} {ps : List (Int × Int)} (hf : Fnd ps) (hl : ps.length < 10) : f__law_lists [pt, .list (rats ps)] = some (.ok (.val (.bool true)), .none) := by
  obtain ⟨L, ok⟩ := ok_of hf hl
  obtain ⟨s, hs, lp⟩ := loopS (pt := pt) (rs := .list (rats ps)) ps 0 1 0 1 0 none ok (by decide) (by decide) (by decide) (by omega) (by omega) (by decide) (Nat.one_dvd _) (.inl rfl)
  obtain ⟨f1, f2, f3, f4⟩ := NU_facts ps 0 1 0 0 ok (by decide) (by decide) (by decide) (by omega)
  have L0 : (L : Int) ≠ 0 := by have := ok.pos; omega
  obtain ⟨r1, r2⟩ := red_eq (n := (NU ps (0, 1)).1) (u := (NU ps (0, 1)).2) (n' := SM L ps) (u' := L) (by omega) L0 (by rw [f4, Int.zero_add])
  have eq : red (NU ps (0, 1)).1 (NU ps (0, 1)).2 = red (SM L ps) L := by
    show rat _ _ = rat _ _
    rw [r1, r2]
  have big : (2 : Nat) ^ (400 * (0 + ps.length)) < 2 ^ 9000 := Nat.pow_lt_pow_right (by decide) (by omega)
  have v := ev_lratio (n := (NU ps (0, 1)).1) (u := (NU ps (0, 1)).2) (by omega) (Nat.lt_trans f2 big) (Nat.lt_of_le_of_lt f3 big)
  rw [eq] at v
  have dueOk := repr_due ok
  obtain ⟨_, _, _, hd⟩ := lcmF_facts ps 1 ok (by decide) (Nat.one_dvd _)
  have hle := lcm_le ok
  have k1 := ev_sum_of ok (.inl rfl)
  have k2 := ev_sum_of ok.rev (.inl rfl)
  rw [SM_rev, show rats ps.reverse = (rats ps).reverse from List.map_reverse] at k2
  have k3 := ev_common_under ok (.inr rfl)
  have k4 := ev_common_under ok (.inl rfl)
  have k5 := ev_whole ok (.inl rfl)
  have k6 := ev_whole ok (.inr rfl)
  have lp2 := for_run (g := gN 5) (b := bodyS) (it := mItD (mVar 1)) (ρ := rS pt (.list (rats ps)) 0 1 1 none none none none) (ds := rats ps) (by simp [rS, mItD, iterD, thaw, thawR, mVar, bnd, Mi.ret, Md.isOwn]) lp
  refine lists0 ?_ (flat_rat _ _) hs lp2 v (repr_rats ok) dueOk k1 k2 k3 k4 k5 k6
  generalize lcmF ps 1 = l at hd hle
  have w5 : wipeR (rS pt (.list (rats ps)) (NU ps (0, 1)).1 (NU ps (0, 1)).2 (l : Nat) s none none none) [5] = rS pt (.list (rats ps)) (NU ps (0, 1)).1 (NU ps (0, 1)).2 (l : Nat) none none none none := rfl
  have h1 := loopC_map (g := gN 5) (e := eLc) (vs := [5]) (ρw := rS pt (.list (rats ps)) (NU ps (0, 1)).1 (NU ps (0, 1)).2 (l : Nat) none none none none) (f := fun z => match z with | .tuple [.int a, .int b] => .int (a * ((l : Int) / b)) | _ => .none) (rats ps) [] (by
    have : sizeLine = 16777216 := rfl
    rw [List.length_nil, List.length_map, this]; omega) (fun z hz => by
    obtain ⟨p, hp, rfl⟩ := List.mem_map.mp hz
    obtain ⟨q1, q2, q3, q4⟩ := ok.el p hp
    obtain ⟨t1, t2⟩ := wr_told (L := L) hle q3 (hd p hp) q1
    have s := el_sz (ok.el p hp)
    have z := b330
    have d0 : p.2 ≠ 0 := by have := q1.1; omega
    have dv := divOk_of d0 s.2 (by decide)
    have e := fdiv_eq (a := (l : Int)) q1.1
    have m : mulOk p.1 ((l : Int) / p.2) = true := mulOk_of (b := 1200) s.1 (by omega) (by decide) (by decide) (by decide)
    refine ⟨rS pt (.list (rats ps)) (NU ps (0, 1)).1 (NU ps (0, 1)).2 (l : Nat) (some ⟨.val, rat p.1 p.2⟩) none none none, rS pt (.list (rats ps)) (NU ps (0, 1)).1 (NU ps (0, 1)).2 (l : Nat) (some ⟨.val, rat p.1 p.2⟩) none none none, rfl, ?_, rfl⟩
    generalize (l : Int) = li at e m
    generalize p.1 = a at m
    generalize p.2 = b at dv e m
    generalize (NU ps (0, 1)).1 = n
    generalize (NU ps (0, 1)).2 = u
    generalize PyData.list (rats ps) = rs
    simp [rS, dv, e, m, mkFn, isListAt, slots, slot0, mSeq, mAsg, mRet, mIfS, mDrop, mB, bnd, Mi.ret, thaw, thawR, mVal, valR, mVar, mC, mBin, mUn, op1, op2, look, opN, lookAll, mCall, aT, aV, aNil, mStore, okSet, isT, asB, mTup, mLst, valsOf, mNx, outIo, retR, Md.isOwn, Md.isIo, Md.isLk, fI, mIf, mAnd, mOr, mNot, mAndV, mOrV, mChain, mPar, mPar3, mF, mFk, callF, callIo, putIo, freezeBy, flatD, flatAll, flatY, mayGive, notSlot, gath, mAsgG, gT, gsCons, gsNil, gIx, gN, setIx, mSetIx, ownAt, mApp, appTo, mIsi, isiD, isK, kinds, tyD, mSl, mPart, mNoPart, asInt, slD, cutD, lenD, absD, max2D, min2D, gcdD, lcmD, intD, listD, tupleD, allD, boolsOf, divmodD, addD, subD, mulD, fdivD, modD, powD, ltD, leD, gtD, geD, isD, isntD, negD, notD, ixD, revD, atI, ixN, isNone, sizeLine, eqsD, nesD, eqD, neD])
  have h2 := lc_run (it := mItD (mVar 1)) (ρ := rS pt (.list (rats ps)) (NU ps (0, 1)).1 (NU ps (0, 1)).2 (l : Nat) s none none none) (ρ1 := rS pt (.list (rats ps)) (NU ps (0, 1)).1 (NU ps (0, 1)).2 (l : Nat) s none none none) (ds := rats ps) (by simp [rS, mItD, iterD, thaw, thawR, mVar, bnd, Mi.ret, Md.isOwn]) (by rw [w5]; exact h1)
  show mLc _ _ _ _ _ _ = _
  rw [h2]
  have e2 : [] ++ List.map (fun z => match z with | PyData.tuple [PyData.int a, PyData.int b] => PyData.int (a * ((l : Int) / b)) | _ => PyData.none) (rats ps) = WR l ps := by
    unfold WR
    rw [List.nil_append, List.map_map]
    rfl
  rw [e2]
  rfl
end K11

namespace K11
open PySem L2 Evl PySem.Spec Mi
theorem ev_made {n u : Int} (hn : n.natAbs ≤ 10 ^ 40) (hu : u.natAbs ≤ 10 ^ 40) (h0 : u ≠ 0) : f_made [.int n, .int u] = some (.ok (.val (red n u)), .none) := by
  have z : 10 ^ 40 < 10 ^ 200 := by decide
  have z2 := b40
  have t := told_red (n := n) (u := u) (by omega) (by omega) h0
  have v := ev_fraction (n := n) (u := u) h0 (by omega) (by omega)
  simp [f_made, m_made, ev_is_integer, h0, v, t, shaped_int, eqv_int, mkFn, isListAt, slots, slot0, mSeq, mAsg, mRet, mIfS, mDrop, mB, bnd, Mi.ret, thaw, thawR, mVal, valR, mVar, mC, mBin, mUn, op1, op2, look, opN, lookAll, mCall, aT, aV, aNil, mStore, okSet, isT, asB, mTup, mLst, valsOf, mNx, outIo, retR, Md.isOwn, Md.isIo, Md.isLk, fI, mIf, mAnd, mOr, mNot, mAndV, mOrV, mChain, mPar, mPar3, mF, mFk, callF, callIo, putIo, freezeBy, flatD, flatAll, flatY, mayGive, notSlot, gath, mAsgG, gT, gsCons, gsNil, gIx, gN, setIx, mSetIx, ownAt, mApp, appTo, mIsi, isiD, isK, kinds, tyD, mSl, mPart, mNoPart, asInt, slD, cutD, lenD, absD, max2D, min2D, gcdD, lcmD, intD, listD, tupleD, allD, boolsOf, divmodD, addD, subD, mulD, fdivD, modD, powD, ltD, leD, gtD, geD, isD, isntD, negD, notD, ixD, revD, atI, ixN, isNone, sizeLine, eqsD, nesD, eqD, neD]
theorem red_neg {n u : Int} (h0 : u ≠ 0) : red n (-u) = rat (-redN n u) (redU n u) := by
  have lw := red_low (n := n) h0
  have lw2 : Low (-redN n u) (redU n u) := ⟨lw.1, by rw [Int.neg_gcd]; exact lw.2⟩
  have m1 := redN_mul n u
  have m2 := redU_mul n u
  have b0 : redU n u ≠ 0 := by have := lw.1; omega
  obtain ⟨r1, r2⟩ := red_eq (n := n) (u := -u) (n' := -redN n u) (u' := redU n u) (by omega) b0 (by
    generalize redN n u = a at m1
    generalize redU n u = b at m2
    generalize gs n u = g at m1 m2
    subst m1
    subst m2
    rw [Int.neg_mul_neg]
    ac_rfl)
  obtain ⟨s1, s2⟩ := red_self lw2
  show rat _ _ = rat _ _
  rw [r1, r2, s1, s2]
/-! ### values that are no ratios -/
theorem no_row {v : D} (h : f_is_row [v, .int 2] = some (.ok (.val (.bool false)), .none)) : f_is_ratio [v] = some (.ok (.val (.bool false)), .none) := by
  simp [f_is_ratio, m_is_ratio, h, mkFn, isListAt, slots, slot0, mSeq, mAsg, mRet, mIfS, mDrop, mB, bnd, Mi.ret, thaw, thawR, mVal, valR, mVar, mC, mBin, mUn, op1, op2, look, opN, lookAll, mCall, aT, aV, aNil, mStore, okSet, isT, asB, mTup, mLst, valsOf, mNx, outIo, retR, Md.isOwn, Md.isIo, Md.isLk, fI, mIf, mAnd, mOr, mNot, mAndV, mOrV, mChain, mPar, mPar3, mF, mFk, callF, callIo, putIo, freezeBy, flatD, flatAll, flatY, mayGive, notSlot, gath, mAsgG, gT, gsCons, gsNil, gIx, gN, setIx, mSetIx, ownAt, mApp, appTo, mIsi, isiD, isK, kinds, tyD, mSl, mPart, mNoPart, asInt, slD, cutD, lenD, absD, max2D, min2D, gcdD, lcmD, intD, listD, tupleD, allD, boolsOf, divmodD, addD, subD, mulD, fdivD, modD, powD, ltD, leD, gtD, geD, isD, isntD, negD, notD, ixD, revD, atI, ixN, isNone, sizeLine, eqsD, nesD, eqD, neD]
theorem no_first {x y : D} (h : f_is_integer [x] = some (.ok (.val (.bool false)), .none)) : f_is_ratio [.tuple [x, y]] = some (.ok (.val (.bool false)), .none) := by
  have e : f_is_row [.tuple [x, y], .int 2] = some (.ok (.val (.bool true)), .none) := by rw [ev_is_row]; rfl
  simp [f_is_ratio, m_is_ratio, e, h, mkFn, isListAt, slots, slot0, mSeq, mAsg, mRet, mIfS, mDrop, mB, bnd, Mi.ret, thaw, thawR, mVal, valR, mVar, mC, mBin, mUn, op1, op2, look, opN, lookAll, mCall, aT, aV, aNil, mStore, okSet, isT, asB, mTup, mLst, valsOf, mNx, outIo, retR, Md.isOwn, Md.isIo, Md.isLk, fI, mIf, mAnd, mOr, mNot, mAndV, mOrV, mChain, mPar, mPar3, mF, mFk, callF, callIo, putIo, freezeBy, flatD, flatAll, flatY, mayGive, notSlot, gath, mAsgG, gT, gsCons, gsNil, gIx, gN, setIx, mSetIx, ownAt, mApp, appTo, mIsi, isiD, isK, kinds, tyD, mSl, mPart, mNoPart, asInt, slD, cutD, lenD, absD, max2D, min2D, gcdD, lcmD, intD, listD, tupleD, allD, boolsOf, divmodD, addD, subD, mulD, fdivD, modD, powD, ltD, leD, gtD, geD, isD, isntD, negD, notD, ixD, revD, atI, ixN, isNone, sizeLine, eqsD, nesD, eqD, neD]
theorem no_second {x y : D} (h1 : f_is_integer [x] = some (.ok (.val (.bool true)), .none)) (h : f_is_integer [y] = some (.ok (.val (.bool false)), .none)) : f_is_ratio [.tuple [x, y]] = some (.ok (.val (.bool false)), .none) := by
  have e : f_is_row [.tuple [x, y], .int 2] = some (.ok (.val (.bool true)), .none) := by rw [ev_is_row]; rfl
  simp [f_is_ratio, m_is_ratio, e, h1, h, mkFn, isListAt, slots, slot0, mSeq, mAsg, mRet, mIfS, mDrop, mB, bnd, Mi.ret, thaw, thawR, mVal, valR, mVar, mC, mBin, mUn, op1, op2, look, opN, lookAll, mCall, aT, aV, aNil, mStore, okSet, isT, asB, mTup, mLst, valsOf, mNx, outIo, retR, Md.isOwn, Md.isIo, Md.isLk, fI, mIf, mAnd, mOr, mNot, mAndV, mOrV, mChain, mPar, mPar3, mF, mFk, callF, callIo, putIo, freezeBy, flatD, flatAll, flatY, mayGive, notSlot, gath, mAsgG, gT, gsCons, gsNil, gIx, gN, setIx, mSetIx, ownAt, mApp, appTo, mIsi, isiD, isK, kinds, tyD, mSl, mPart, mNoPart, asInt, slD, cutD, lenD, absD, max2D, min2D, gcdD, lcmD, intD, listD, tupleD, allD, boolsOf, divmodD, addD, subD, mulD, fdivD, modD, powD, ltD, leD, gtD, geD, isD, isntD, negD, notD, ixD, revD, atI, ixN, isNone, sizeLine, eqsD, nesD, eqD, neD]
theorem isR_false {a b : Int} (h : ¬ (0 < b ∧ Int.gcd a b = 1)) : isR a b = false := by
  rw [Bool.eq_false_iff]
  intro q
  simp only [isR, Bool.and_eq_true, decide_eq_true_eq] at q
  exact h ⟨q.1.1.1, q.2⟩
/-! ### the loop of _law_any -/
abbrev bodyA : M Fl := (mSeq (mIfS (mB (mBin isD (mVar 6) (mC .none))) (mAsg 6 (mAndV (mBin gtD (mBin ixD (mVar 5) (mC (.int 1))) (mC (.int 0))) (mBin eqsD (mF 2 f__law_common none (aT (mBin ixD (mVar 5) (mC (.int 0))) (aT (mBin ixD (mVar 5) (mC (.int 1))) aNil))) (mC (.int 1))))) mNx) (mIfS (mB (mBin nesD (mCall reprD (aT (mF 1 f_is_ratio none (aT (mVar 5) aNil)) aNil)) (mCall reprD (aT (mVar 6) aNil)))) (mRet (mC (.bool false))) mNx))
abbrev gA : D → M Unit := (gT 2 (gsCons (gN 5) (gsCons (gN 6) gsNil)))
def rA (p d2 d3 d4 : D) (xs : List D) (m : Md) (s5 s6 : Option Slot) : R := [some ⟨.io, p⟩, some ⟨.val, d2⟩, some ⟨.val, d3⟩, some ⟨.val, d4⟩, some ⟨m, .list xs⟩, s5, s6, none, none]
theorem repr_bool (b : Bool) : reprOk (.bool b) = true := by
  refine reprOk_of ?_ ?_ ?_ ?_ <;> cases b <;> decide
theorem gA_run {p d2 d3 d4 v w : D} {xs : List D} {s5 s6 : Option Slot} (h5 : s5 = none ∨ ∃ t, s5 = some ⟨.val, t⟩) (h6 : s6 = none ∨ ∃ t, s6 = some ⟨.val, t⟩) : gA (.tuple [v, w]) (rA p d2 d3 d4 xs .lock s5 s6) = some (.ok (), rA p d2 d3 d4 xs .lock (some ⟨.val, v⟩) (some ⟨.val, w⟩)) := by
  rcases h5 with rfl | ⟨t, rfl⟩ <;> rcases h6 with rfl | ⟨t', rfl⟩ <;> simp [rA, mkFn, isListAt, slots, slot0, mSeq, mAsg, mRet, mIfS, mDrop, mB, bnd, Mi.ret, thaw, thawR, mVal, valR, mVar, mC, mBin, mUn, op1, op2, look, opN, lookAll, mCall, aT, aV, aNil, mStore, okSet, isT, asB, mTup, mLst, valsOf, mNx, outIo, retR, Md.isOwn, Md.isIo, Md.isLk, fI, mIf, mAnd, mOr, mNot, mAndV, mOrV, mChain, mPar, mPar3, mF, mFk, callF, callIo, putIo, freezeBy, flatD, flatAll, flatY, mayGive, notSlot, gath, mAsgG, gT, gsCons, gsNil, gIx, gN, setIx, mSetIx, ownAt, mApp, appTo, mIsi, isiD, isK, kinds, tyD, mSl, mPart, mNoPart, asInt, slD, cutD, lenD, absD, max2D, min2D, gcdD, lcmD, intD, listD, tupleD, allD, boolsOf, divmodD, addD, subD, mulD, fdivD, modD, powD, ltD, leD, gtD, geD, isD, isntD, negD, notD, ixD, revD, atI, ixN, isNone, sizeLine, eqsD, nesD, eqD, neD]
theorem bodyA_known {p d2 d3 d4 v : D} {xs : List D} {r : Bool} (h : f_is_ratio [v] = some (.ok (.val (.bool r)), .none)) : bodyA (rA p d2 d3 d4 xs .lock (some ⟨.val, v⟩) (some ⟨.val, .bool r⟩)) = some (.ok .nx, rA p d2 d3 d4 xs .lock (some ⟨.val, v⟩) (some ⟨.val, .bool r⟩)) := by
  have q := repr_bool r
  simp [rA, h, reprD, q, mkFn, isListAt, slots, slot0, mSeq, mAsg, mRet, mIfS, mDrop, mB, bnd, Mi.ret, thaw, thawR, mVal, valR, mVar, mC, mBin, mUn, op1, op2, look, opN, lookAll, mCall, aT, aV, aNil, mStore, okSet, isT, asB, mTup, mLst, valsOf, mNx, outIo, retR, Md.isOwn, Md.isIo, Md.isLk, fI, mIf, mAnd, mOr, mNot, mAndV, mOrV, mChain, mPar, mPar3, mF, mFk, callF, callIo, putIo, freezeBy, flatD, flatAll, flatY, mayGive, notSlot, gath, mAsgG, gT, gsCons, gsNil, gIx, gN, setIx, mSetIx, ownAt, mApp, appTo, mIsi, isiD, isK, kinds, tyD, mSl, mPart, mNoPart, asInt, slD, cutD, lenD, absD, max2D, min2D, gcdD, lcmD, intD, listD, tupleD, allD, boolsOf, divmodD, addD, subD, mulD, fdivD, modD, powD, ltD, leD, gtD, geD, isD, isntD, negD, notD, ixD, revD, atI, ixN, isNone, sizeLine, eqsD, nesD, eqD, neD]
theorem bodyA_open {p d2 d3 d4 : D} {xs : List D} {n u : Int} {g : Nat} (h : f_is_ratio [rat n u] = some (.ok (.val (.bool (decide (0 < u) && decide (g = 1)))), .none)) (c : f__law_common [.int n, .int u] = some (.ok (.val (.int g)), .none)) : bodyA (rA p d2 d3 d4 xs .lock (some ⟨.val, rat n u⟩) (some ⟨.val, .none⟩)) = some (.ok .nx, rA p d2 d3 d4 xs .lock (some ⟨.val, rat n u⟩) (some ⟨.val, .bool (decide (0 < u) && decide (g = 1))⟩)) := by
  have hg : PyData.eqv (.int (g : Int)) (.int 1) = decide (g = 1) := by
    rw [eqv_int]
    by_cases h : g = 1
    · simp [h]
    · simp [h]; omega
  have q := repr_bool (decide (g = 1))
  have q2 := repr_bool false
  by_cases hu : 0 < u
  · have h : f_is_ratio [rat n u] = some (.ok (.val (.bool (decide (g = 1)))), .none) := by simpa [hu] using h
    simp [rA, h, c, hu, hg, reprD, q, shaped_int, mkFn, isListAt, slots, slot0, mSeq, mAsg, mRet, mIfS, mDrop, mB, bnd, Mi.ret, thaw, thawR, mVal, valR, mVar, mC, mBin, mUn, op1, op2, look, opN, lookAll, mCall, aT, aV, aNil, mStore, okSet, isT, asB, mTup, mLst, valsOf, mNx, outIo, retR, Md.isOwn, Md.isIo, Md.isLk, fI, mIf, mAnd, mOr, mNot, mAndV, mOrV, mChain, mPar, mPar3, mF, mFk, callF, callIo, putIo, freezeBy, flatD, flatAll, flatY, mayGive, notSlot, gath, mAsgG, gT, gsCons, gsNil, gIx, gN, setIx, mSetIx, ownAt, mApp, appTo, mIsi, isiD, isK, kinds, tyD, mSl, mPart, mNoPart, asInt, slD, cutD, lenD, absD, max2D, min2D, gcdD, lcmD, intD, listD, tupleD, allD, boolsOf, divmodD, addD, subD, mulD, fdivD, modD, powD, ltD, leD, gtD, geD, isD, isntD, negD, notD, ixD, revD, atI, ixN, isNone, sizeLine, eqsD, nesD, eqD, neD]
  · have h : f_is_ratio [rat n u] = some (.ok (.val (.bool false)), .none) := by simpa [hu] using h
    simp [rA, h, c, hu, reprD, q2, shaped_int, mkFn, isListAt, slots, slot0, mSeq, mAsg, mRet, mIfS, mDrop, mB, bnd, Mi.ret, thaw, thawR, mVal, valR, mVar, mC, mBin, mUn, op1, op2, look, opN, lookAll, mCall, aT, aV, aNil, mStore, okSet, isT, asB, mTup, mLst, valsOf, mNx, outIo, retR, Md.isOwn, Md.isIo, Md.isLk, fI, mIf, mAnd, mOr, mNot, mAndV, mOrV, mChain, mPar, mPar3, mF, mFk, callF, callIo, putIo, freezeBy, flatD, flatAll, flatY, mayGive, notSlot, gath, mAsgG, gT, gsCons, gsNil, gIx, gN, setIx, mSetIx, ownAt, mApp, appTo, mIsi, isiD, isK, kinds, tyD, mSl, mPart, mNoPart, asInt, slD, cutD, lenD, absD, max2D, min2D, gcdD, lcmD, intD, listD, tupleD, allD, boolsOf, divmodD, addD, subD, mulD, fdivD, modD, powD, ltD, leD, gtD, geD, isD, isntD, negD, notD, ixD, revD, atI, ixN, isNone, sizeLine, eqsD, nesD, eqD, neD]
theorem loopA {p d2 d3 d4 : D} {xs : List D} {n u : Int} {g : Nat} (ho : f_is_ratio [rat n u] = some (.ok (.val (.bool (decide (0 < u) && decide (g = 1)))), .none)) (c : f__law_common [.int n, .int u] = some (.ok (.val (.int g)), .none)) :
    ∀ (ds : List D) (s5 s6 : Option Slot), (∀ z ∈ ds, z = .tuple [rat n u, .none] ∨ ∃ v r, z = .tuple [v, .bool r] ∧ f_is_ratio [v] = some (.ok (.val (.bool r)), .none)) → (s5 = none ∨ ∃ t, s5 = some ⟨.val, t⟩) → (s6 = none ∨ ∃ t, s6 = some ⟨.val, t⟩) →
      ∃ s5' s6', loopF gA bodyA ds (rA p d2 d3 d4 xs .lock s5 s6) = some (.ok .nx, rA p d2 d3 d4 xs .lock s5' s6') ∧ (s5' = none ∨ ∃ t, s5' = some ⟨.val, t⟩) ∧ (s6' = none ∨ ∃ t, s6' = some ⟨.val, t⟩)
  | [], s5, s6, _, h5, h6 => ⟨s5, s6, rfl, h5, h6⟩
  | z :: ds, s5, s6, h, h5, h6 => by
    rcases h z List.mem_cons_self with rfl | ⟨v, r, rfl, e⟩
    · obtain ⟨a, b, e1, e2, e3⟩ := loopA ho c ds (some ⟨.val, rat n u⟩) (some ⟨.val, .bool (decide (0 < u) && decide (g = 1))⟩) (fun z hz => h z (List.mem_cons_of_mem _ hz)) (.inr ⟨_, rfl⟩) (.inr ⟨_, rfl⟩)
      refine ⟨a, b, ?_, e2, e3⟩
      unfold loopF bnd
      rw [gA_run h5 h6]
      dsimp only
      rw [bodyA_open ho c]
      exact e1
    · obtain ⟨a, b, e1, e2, e3⟩ := loopA ho c ds (some ⟨.val, v⟩) (some ⟨.val, .bool r⟩) (fun z hz => h z (List.mem_cons_of_mem _ hz)) (.inr ⟨_, rfl⟩) (.inr ⟨_, rfl⟩)
      refine ⟨a, b, ?_, e2, e3⟩
      unfold loopF bnd
      rw [gA_run h5 h6]
      dsimp only
      rw [bodyA_known e]
      exact e1
end K11

namespace K11
open PySem L2 Evl PySem.Spec Mi
theorem for_runL {it : M Itd} {g : D → M Unit} {b : M Fl} {ρ ρ1 ρ2 ρ3 : R} {I : Itd} {fl : Fl} (hi : chk it ρ = some (.ok I, ρ1)) (hl : loopF g b I.items ρ1 = some (.ok fl, ρ2)) (hu : unlock I.lk ρ2 = some (.ok (), ρ3)) : mFor (chk it) g b ρ = some (.ok fl, ρ3) := by
  unfold mFor bnd
  rw [hi]
  dsimp only
  rw [hl]
  dsimp only
  rw [hu]
  rfl
def someA (n u a b k : Int) (st : Str) : List D := [.tuple [rat n u, .none], .tuple [rat a b, .bool true], .tuple [rat (a * k) (b * k), .bool false], .tuple [rat a (-b), .bool false], .tuple [.list [.int a, .int b], .bool false], .tuple [.tuple [.int a], .bool false], .tuple [.tuple [.int a, .int b, .int 1], .bool false],
  .tuple [rat a 0, .bool false], .tuple [.tuple [.bool true, .int 1], .bool false], .tuple [.tuple [.int 1, .bool true], .bool false], .tuple [rat 0 1, .bool true], .tuple [rat 0 k, .bool false], .tuple [.tuple [.bool false, .int 1], .bool false], .tuple [.tuple [.str st, .int b], .bool false],
  .tuple [.tuple [rat a b, .int 1], .bool false], .tuple [.tuple [.none, .int 1], .bool false], .tuple [.int a, .bool false]]
theorem someA_due {n u a b k : Int} {st : Str} (lw : Low a b) (hr : isR a b = true) (hk : 2 ≤ k) : ∀ z ∈ someA n u a b k st, z = .tuple [rat n u, .none] ∨ ∃ v r, z = .tuple [v, .bool r] ∧ f_is_ratio [v] = some (.ok (.val (.bool r)), .none) := by
  intro z hz
  simp only [someA, List.mem_cons, List.not_mem_nil, or_false] at hz
  have int1 : ∀ i : Int, f_is_integer [.int i] = some (.ok (.val (.bool true)), .none) := fun i => by rw [ev_is_integer]
  rcases hz with rfl | rfl | rfl | rfl | rfl | rfl | rfl | rfl | rfl | rfl | rfl | rfl | rfl | rfl | rfl | rfl | rfl
  · exact .inl rfl
  · exact .inr ⟨_, _, rfl, by rw [ev_is_ratio, hr]⟩
  · refine .inr ⟨_, _, rfl, by rw [ev_is_ratio, isR_false]; intro q; have := q.2; rw [Int.gcd_mul_right] at this; have := Nat.eq_one_of_mul_eq_one_left this; omega⟩
  · refine .inr ⟨_, _, rfl, by rw [ev_is_ratio, isR_false]; intro q; have := lw.1; omega⟩
  · exact .inr ⟨_, _, rfl, no_row (by rw [ev_is_row])⟩
  · exact .inr ⟨_, _, rfl, no_row (by rw [ev_is_row]; rfl)⟩
  · exact .inr ⟨_, _, rfl, no_row (by rw [ev_is_row]; rfl)⟩
  · refine .inr ⟨_, _, rfl, by rw [ev_is_ratio, isR_false]; intro q; omega⟩
  · exact .inr ⟨_, _, rfl, no_first (by rw [ev_is_integer])⟩
  · exact .inr ⟨_, _, rfl, no_second (int1 1) (by rw [ev_is_integer])⟩
  · exact .inr ⟨_, _, rfl, by rw [ev_is_ratio]; congr 4⟩
  · refine .inr ⟨_, _, rfl, by rw [ev_is_ratio, isR_false]; intro q; have := q.2; rw [Int.zero_gcd] at this; omega⟩
  · exact .inr ⟨_, _, rfl, no_first (by rw [ev_is_integer])⟩
  · exact .inr ⟨_, _, rfl, no_first (by rw [ev_is_integer])⟩
  · exact .inr ⟨_, _, rfl, no_first (by rw [ev_is_integer])⟩
  · exact .inr ⟨_, _, rfl, no_first (by rw [ev_is_integer])⟩
  · exact .inr ⟨_, _, rfl, no_row (by rw [ev_is_row])⟩
theorem any_list {p : D} {n u a b k : Int} (h : PotOk p) (m1 : mulOk a k = true) (m2 : mulOk b k = true) (ls : a.natAbs.log2 < 1920) : (mAsg 4 (mLst (aV (mTup (aV (mVar 1) (aV (mC .none) aNil))) (aV (mTup (aV (mVar 2) (aV (mC (.bool true)) aNil))) (aV (mTup (aV (mTup (aV (mBin mulD (mBin ixD (mVar 2) (mC (.int 0))) (mVar 3)) (aV (mBin mulD (mBin ixD (mVar 2) (mC (.int 1))) (mVar 3)) aNil))) (aV (mC (.bool false)) aNil))) (aV (mTup (aV (mTup (aV (mBin ixD (mVar 2) (mC (.int 0))) (aV (mUn negD (mBin ixD (mVar 2) (mC (.int 1)))) aNil))) (aV (mC (.bool false)) aNil))) (aV (mTup (aV (mLst (aV (mBin ixD (mVar 2) (mC (.int 0))) (aV (mBin ixD (mVar 2) (mC (.int 1))) aNil))) (aV (mC (.bool false)) aNil))) (aV (mTup (aV (mTup (aV (mBin ixD (mVar 2) (mC (.int 0))) aNil)) (aV (mC (.bool false)) aNil))) (aV (mTup (aV (mBin addD (mVar 2) (mTup (aV (mC (.int 1)) aNil))) (aV (mC (.bool false)) aNil))) (aV (mTup (aV (mTup (aV (mBin ixD (mVar 2) (mC (.int 0))) (aV (mC (.int 0)) aNil))) (aV (mC (.bool false)) aNil))) (aV (mTup (aV (mTup (aV (mC (.bool true)) (aV (mC (.int 1)) aNil))) (aV (mC (.bool false)) aNil))) (aV (mTup (aV (mTup (aV (mC (.int 1)) (aV (mC (.bool true)) aNil))) (aV (mC (.bool false)) aNil))) (aV (mTup (aV (mTup (aV (mC (.int 0)) (aV (mC (.int 1)) aNil))) (aV (mC (.bool true)) aNil))) (aV (mTup (aV (mTup (aV (mC (.int 0)) (aV (mVar 3) aNil))) (aV (mC (.bool false)) aNil))) (aV (mTup (aV (mTup (aV (mC (.bool false)) (aV (mC (.int 1)) aNil))) (aV (mC (.bool false)) aNil))) (aV (mTup (aV (mTup (aV (mCall strD (aT (mBin ixD (mVar 2) (mC (.int 0))) aNil)) (aV (mBin ixD (mVar 2) (mC (.int 1))) aNil))) (aV (mC (.bool false)) aNil))) (aV (mTup (aV (mTup (aV (mVar 2) (aV (mC (.int 1)) aNil))) (aV (mC (.bool false)) aNil))) (aV (mTup (aV (mTup (aV (mC .none) (aV (mC (.int 1)) aNil))) (aV (mC (.bool false)) aNil))) (aV (mTup (aV (mBin ixD (mVar 2) (mC (.int 0))) (aV (mC (.bool false)) aNil))) aNil))))))))))))))))))) [some ⟨.io, p⟩, some ⟨.val, rat n u⟩, some ⟨.val, rat a b⟩, some ⟨.val, .int k⟩, none, none, none, none, none] = some (.ok .nx, rA p (rat n u) (rat a b) (.int k) (someA n u a b k (toString a)) .own none none) := by
  simp [rA, someA, m1, m2, ls, strD, mkFn, isListAt, slots, slot0, mSeq, mAsg, mRet, mIfS, mDrop, mB, bnd, Mi.ret, thaw, thawR, mVal, valR, mVar, mC, mBin, mUn, op1, op2, look, opN, lookAll, mCall, aT, aV, aNil, mStore, okSet, isT, asB, mTup, mLst, valsOf, mNx, outIo, retR, Md.isOwn, Md.isIo, Md.isLk, fI, mIf, mAnd, mOr, mNot, mAndV, mOrV, mChain, mPar, mPar3, mF, mFk, callF, callIo, putIo, freezeBy, flatD, flatAll, flatY, mayGive, notSlot, gath, mAsgG, gT, gsCons, gsNil, gIx, gN, setIx, mSetIx, ownAt, mApp, appTo, mIsi, isiD, isK, kinds, tyD, mSl, mPart, mNoPart, asInt, slD, cutD, lenD, absD, max2D, min2D, gcdD, lcmD, intD, listD, tupleD, allD, boolsOf, divmodD, addD, subD, mulD, fdivD, modD, powD, ltD, leD, gtD, geD, isD, isntD, negD, notD, ixD, revD, atI, ixN, isNone, sizeLine, eqsD, nesD, eqD, neD]
end K11

namespace K11
open PySem L2 Evl PySem.Spec Mi
theorem seq_nx {a b : M Fl} {ρ ρ' : R} (h : a ρ = some (.ok .nx, ρ')) : mSeq a b ρ = b ρ' := by
  unfold mSeq bnd
  rw [h]
theorem any_loop {p : D} {n u a b k : Int} {g : Nat} {st : Str} (lw : Low a b) (hr : isR a b = true) (hk : 2 ≤ k) (ho : f_is_ratio [rat n u] = some (.ok (.val (.bool (decide (0 < u) && decide (g = 1)))), .none)) (c : f__law_common [.int n, .int u] = some (.ok (.val (.int g)), .none)) :
    ∃ s5 s6, (s5 = none ∨ ∃ t, s5 = some ⟨.val, t⟩) ∧ (s6 = none ∨ ∃ t, s6 = some ⟨.val, t⟩) ∧ mFor (chk (mItD (mVar 4))) gA bodyA (rA p (rat n u) (rat a b) (.int k) (someA n u a b k st) .own none none) = some (.ok .nx, rA p (rat n u) (rat a b) (.int k) (someA n u a b k st) .own s5 s6) := by
  obtain ⟨s5, s6, e, h5, h6⟩ := loopA (p := p) (d2 := rat n u) (d3 := rat a b) (d4 := .int k) (xs := someA n u a b k st) ho c (someA n u a b k st) none none (someA_due lw hr hk) (.inl rfl) (.inl rfl)
  generalize someA n u a b k st = xs at e
  refine ⟨s5, s6, h5, h6, for_runL (I := ⟨xs, [(4, .list xs)]⟩) (ρ1 := rA p (rat n u) (rat a b) (.int k) xs .lock none none) (ρ2 := rA p (rat n u) (rat a b) (.int k) xs .lock s5 s6) ?_ e ?_⟩
  · have e1 : mItD (mVar 4) (rA p (rat n u) (rat a b) (.int k) xs .own none none) = some (.ok ⟨xs, [(4, .list xs)]⟩, rA p (rat n u) (rat a b) (.int k) xs .lock none none) := by
      simp [rA, mItD, iterD, thaw, thawR, mVar, bnd, Mi.ret, Md.isOwn]
    unfold chk
    rw [e1]
    dsimp only
    rw [if_pos (by simp [freeAt, rA, Md.isLk])]
  · simp [unlock, unlock1, rA, bnd, Mi.ret]
theorem pw50 : powOk 10 50 = true := by decide +kernel
theorem pw8 : powOk (10 ^ 50) 8 = true := by decide +kernel
theorem any_edge {p d2 d3 d4 : D} {xs : List D} {s5 s6 : Option Slot} : (mAsg 7 (mBin powD (mBin powD (mC (.int 10)) (mC (.int 50))) (mC (.int 8)))) (rA p d2 d3 d4 xs .own s5 s6) = some (.ok .nx, [some ⟨.io, p⟩, some ⟨.val, d2⟩, some ⟨.val, d3⟩, some ⟨.val, d4⟩, some ⟨.own, .list xs⟩, s5, s6, some ⟨.val, .int bey⟩, none]) := by
  have h1 : powD (.int 10) (.int 50) = some (.val (.int (10 ^ 50))) := by
    show (if powOk 10 50 = true then some (Res.val (PyData.int (10 ^ (50 : Int).toNat))) else none) = _
    rw [if_pos pw50]
    rfl
  have h2 : powD (.int (10 ^ 50)) (.int 8) = some (.val (.int bey)) := by
    show (if powOk (10 ^ 50) 8 = true then some (Res.val (PyData.int ((10 ^ 50) ^ (8 : Int).toNat))) else none) = _
    rw [if_pos pw8]
    congr 3
  have z : mBin powD (mBin powD (mC (.int 10)) (mC (.int 50))) (mC (.int 8)) (rA p d2 d3 d4 xs .own s5 s6) = some (.ok (.val (.int bey)), rA p d2 d3 d4 xs .own s5 s6) := by
    unfold mBin bnd thaw bnd mC Mi.ret
    dsimp only [op2, look, thawR]
    rw [h1]
    dsimp only
    rw [h2]
  unfold mAsg bnd
  rw [z]
  generalize PyData.int bey = e
  simp [rA, mStore, okSet, Mi.ret]
theorem isr1 : isR (bey - 1) 1 = true := by decide +kernel
theorem isr2 : isR bey 1 = false := by decide +kernel
theorem isr3 : isR (1 - bey) (bey - 2) = true := by decide +kernel
theorem isr4 : isR (-bey) 1 = false := by decide +kernel
theorem isr5 : isR 1 bey = false := by decide +kernel
theorem isr6 : isR 1 (bey - 1) = true := by decide +kernel
theorem repr_bools : reprOk (.list [.bool true, .bool false, .bool true, .bool false, .bool false, .bool true]) = true := by
  refine reprOk_of ?_ ?_ ?_ ?_ <;> decide
theorem any_told {p d2 d3 d4 : D} {xs : List D} {s5 s6 : Option Slot} : (mAsg 8 (mLst (aV (mF 1 f_is_ratio none (aT (mTup (aV (mBin subD (mVar 7) (mC (.int 1))) (aV (mC (.int 1)) aNil))) aNil)) (aV (mF 1 f_is_ratio none (aT (mTup (aV (mVar 7) (aV (mC (.int 1)) aNil))) aNil)) (aV (mF 1 f_is_ratio none (aT (mTup (aV (mBin subD (mC (.int 1)) (mVar 7)) (aV (mBin subD (mVar 7) (mC (.int 2))) aNil))) aNil)) (aV (mF 1 f_is_ratio none (aT (mTup (aV (mUn negD (mVar 7)) (aV (mC (.int 1)) aNil))) aNil)) (aV (mF 1 f_is_ratio none (aT (mTup (aV (mC (.int 1)) (aV (mVar 7) aNil))) aNil)) (aV (mFk 0 1 [0] f_is_ratio none aNil (aT (mTup (aV (mC (.int 1)) (aV (mBin subD (mVar 7) (mC (.int 1))) aNil))) aNil)) aNil)))))))) [some ⟨.io, p⟩, some ⟨.val, d2⟩, some ⟨.val, d3⟩, some ⟨.val, d4⟩, some ⟨.own, .list xs⟩, s5, s6, some ⟨.val, .int bey⟩, none] = some (.ok .nx, [some ⟨.io, p⟩, some ⟨.val, d2⟩, some ⟨.val, d3⟩, some ⟨.val, d4⟩, some ⟨.own, .list xs⟩, s5, s6, some ⟨.val, .int bey⟩, some ⟨.own, .list [.bool true, .bool false, .bool true, .bool false, .bool false, .bool true]⟩]) := by
  have e1 := ev_is_ratio (bey - 1) 1
  have e2 := ev_is_ratio bey 1
  have e3 := ev_is_ratio (1 - bey) (bey - 2)
  have e4 := ev_is_ratio (-bey) 1
  have e5 := ev_is_ratio 1 bey
  have e6 := ev_is_ratio 1 (bey - 1)
  rw [isr1] at e1
  rw [isr2] at e2
  rw [isr3] at e3
  rw [isr4] at e4
  rw [isr5] at e5
  rw [isr6] at e6
  generalize bey = e at e1 e2 e3 e4 e5 e6 ⊢
  simp [e1, e2, e3, e4, e5, e6, mkFn, isListAt, slots, slot0, mSeq, mAsg, mRet, mIfS, mDrop, mB, bnd, Mi.ret, thaw, thawR, mVal, valR, mVar, mC, mBin, mUn, op1, op2, look, opN, lookAll, mCall, aT, aV, aNil, mStore, okSet, isT, asB, mTup, mLst, valsOf, mNx, outIo, retR, Md.isOwn, Md.isIo, Md.isLk, fI, mIf, mAnd, mOr, mNot, mAndV, mOrV, mChain, mPar, mPar3, mF, mFk, callF, callIo, putIo, freezeBy, flatD, flatAll, flatY, mayGive, notSlot, gath, mAsgG, gT, gsCons, gsNil, gIx, gN, setIx, mSetIx, ownAt, mApp, appTo, mIsi, isiD, isK, kinds, tyD, mSl, mPart, mNoPart, asInt, slD, cutD, lenD, absD, max2D, min2D, gcdD, lcmD, intD, listD, tupleD, allD, boolsOf, divmodD, addD, subD, mulD, fdivD, modD, powD, ltD, leD, gtD, geD, isD, isntD, negD, notD, ixD, revD, atI, ixN, isNone, sizeLine, eqsD, nesD, eqD, neD]
theorem any_test {p d2 d3 d4 z : D} {xs : List D} {s5 s6 : Option Slot} : (mIfS (mB (mBin nesD (mCall reprD (aT (mVar 8) aNil)) (mCall reprD (aT (mLst (aV (mC (.bool true)) (aV (mC (.bool false)) (aV (mC (.bool true)) (aV (mC (.bool false)) (aV (mC (.bool false)) (aV (mC (.bool true)) aNil))))))) aNil)))) (mRet (mC (.bool false))) mNx) [some ⟨.io, p⟩, some ⟨.val, d2⟩, some ⟨.val, d3⟩, some ⟨.val, d4⟩, some ⟨.own, .list xs⟩, s5, s6, some ⟨.val, z⟩, some ⟨.own, .list [.bool true, .bool false, .bool true, .bool false, .bool false, .bool true]⟩] = some (.ok .nx, [some ⟨.io, p⟩, some ⟨.val, d2⟩, some ⟨.val, d3⟩, some ⟨.val, d4⟩, some ⟨.own, .list xs⟩, s5, s6, some ⟨.val, z⟩, some ⟨.own, .list [.bool true, .bool false, .bool true, .bool false, .bool false, .bool true]⟩]) := by
  have q := repr_bools
  simp [reprD, q, mkFn, isListAt, slots, slot0, mSeq, mAsg, mRet, mIfS, mDrop, mB, bnd, Mi.ret, thaw, thawR, mVal, valR, mVar, mC, mBin, mUn, op1, op2, look, opN, lookAll, mCall, aT, aV, aNil, mStore, okSet, isT, asB, mTup, mLst, valsOf, mNx, outIo, retR, Md.isOwn, Md.isIo, Md.isLk, fI, mIf, mAnd, mOr, mNot, mAndV, mOrV, mChain, mPar, mPar3, mF, mFk, callF, callIo, putIo, freezeBy, flatD, flatAll, flatY, mayGive, notSlot, gath, mAsgG, gT, gsCons, gsNil, gIx, gN, setIx, mSetIx, ownAt, mApp, appTo, mIsi, isiD, isK, kinds, tyD, mSl, mPart, mNoPart, asInt, slD, cutD, lenD, absD, max2D, min2D, gcdD, lcmD, intD, listD, tupleD, allD, boolsOf, divmodD, addD, subD, mulD, fdivD, modD, powD, ltD, leD, gtD, geD, isD, isntD, negD, notD, ixD, revD, atI, ixN, isNone, sizeLine, eqsD, nesD, eqD, neD]
theorem any_made {p d4 z : D} {xs : List D} {s5 s6 s8 : Option Slot} {n u a b : Int} (e1 : f_made [.int n, .int u] = some (.ok (.val (rat a b)), .none)) (e2 : f_made [.int n, .int (-u)] = some (.ok (.val (rat (-a) b)), .none)) (q : reprOk (.list [rat a b, rat (-a) b]) = true) :
    (mRet (mBin eqsD (mCall reprD (aT (mLst (aV (mF 2 f_made none (aT (mBin ixD (mVar 1) (mC (.int 0))) (aT (mBin ixD (mVar 1) (mC (.int 1))) aNil))) (aV (mFk 0 2 [1, 0] f_made none aNil (aT (mUn negD (mBin ixD (mVar 1) (mC (.int 1)))) (aT (mBin ixD (mVar 1) (mC (.int 0))) aNil))) aNil))) aNil)) (mCall reprD (aT (mLst (aV (mVar 2) (aV (mTup (aV (mUn negD (mBin ixD (mVar 2) (mC (.int 0)))) (aV (mBin ixD (mVar 2) (mC (.int 1))) aNil))) aNil))) aNil)))) [some ⟨.io, p⟩, some ⟨.val, rat n u⟩, some ⟨.val, rat a b⟩, some ⟨.val, d4⟩, some ⟨.own, .list xs⟩, s5, s6, some ⟨.val, z⟩, s8] = some (.ok (.rt (.val (.bool true))), [some ⟨.io, p⟩, some ⟨.val, rat n u⟩, some ⟨.val, rat a b⟩, some ⟨.val, d4⟩, some ⟨.own, .list xs⟩, s5, s6, some ⟨.val, z⟩, s8]) := by
  simp [e1, e2, reprD, q, mkFn, isListAt, slots, slot0, mSeq, mAsg, mRet, mIfS, mDrop, mB, bnd, Mi.ret, thaw, thawR, mVal, valR, mVar, mC, mBin, mUn, op1, op2, look, opN, lookAll, mCall, aT, aV, aNil, mStore, okSet, isT, asB, mTup, mLst, valsOf, mNx, outIo, retR, Md.isOwn, Md.isIo, Md.isLk, fI, mIf, mAnd, mOr, mNot, mAndV, mOrV, mChain, mPar, mPar3, mF, mFk, callF, callIo, putIo, freezeBy, flatD, flatAll, flatY, mayGive, notSlot, gath, mAsgG, gT, gsCons, gsNil, gIx, gN, setIx, mSetIx, ownAt, mApp, appTo, mIsi, isiD, isK, kinds, tyD, mSl, mPart, mNoPart, asInt, slD, cutD, lenD, absD, max2D, min2D, gcdD, lcmD, intD, listD, tupleD, allD, boolsOf, divmodD, addD, subD, mulD, fdivD, modD, powD, ltD, leD, gtD, geD, isD, isntD, negD, notD, ixD, revD, atI, ixN, isNone, sizeLine, eqsD, nesD, eqD, neD]
theorem ev_any {p : D} (h : PotOk p) : ∃ p', PotOk p' ∧ f__law_any [p] = some (.ok (.val (.bool true)), p') := by
  obtain ⟨n, u, p1, hn, hu, u0, h1, e1⟩ := ev_drawn h
  obtain ⟨r, p2, r0, r1, h2, e2⟩ := ev_draw h1 (n := 3) (by decide) (by decide)
  have z := b40
  have v := ev_lratio (n := n) (u := u) u0 (by omega) (by omega)
  have cm := ev_common (a := n) (b := u) (by omega) (by omega)
  have mk := ev_made hn hu u0
  have mk2 := ev_made (n := n) (u := -u) hn (by rw [Int.natAbs_neg]; exact hu) (by omega)
  rw [red_neg u0] at mk2
  have lw := red_low (n := n) u0
  have ha := redN_le n u
  have hb := redU_le n u
  have z3 : 10 ^ 40 < 10 ^ 60 := by decide
  have z4 : 10 ^ 40 < 10 ^ 500 := by decide
  have z5 : 10 ^ 40 < 2 ^ 200 := by decide
  have Ro : Rt (redN n u) (redU n u) := ⟨lw, by omega, by omega⟩
  have hr := Ro.isR
  have l1 : (redN n u).natAbs.log2 < 1920 := lg1920 (k := 0) (by omega)
  have l2 : (redU n u).natAbs.log2 < 1920 := lg1920 (k := 0) (by omega)
  have l3 : (-redN n u).natAbs.log2 < 1920 := by rw [Int.natAbs_neg]; exact l1
  have q : reprOk (.list [rat (redN n u) (redU n u), rat (-redN n u) (redU n u)]) = true := by
    refine reprOk_of ?_ ?_ ?_ ?_
    · simp [PyData.canLay0, PyData.canLayAll0]
    · simp only [PyData.showable, PyData.showableAll, l1, l2, l3, decide_true, Bool.and_self]
    · simp [PyData.depth, PyData.depthAll]
    · simp [PyData.bulk, PyData.bulkAll]
  have ho : f_is_ratio [rat n u] = some (.ok (.val (.bool (decide (0 < u) && decide (Int.gcd n u = 1)))), .none) := by
    rw [ev_is_ratio]
    have l : (10 : Int) ^ 60 < bey := by decide
    have pq : ((10 ^ 60 : Nat) : Int) = (10 : Int) ^ 60 := by decide
    have d1 : decide (u < bey) = true := decide_eq_true (by omega)
    have d2 : decide (-bey < n) = true := decide_eq_true (by omega)
    have d3 : decide (n < bey) = true := decide_eq_true (by omega)
    unfold isR
    rw [d1, d2, d3]
    simp
  have k2 : (2 + r).natAbs < 2 ^ 10 := by omega
  have m1 : mulOk (redN n u) (2 + r) = true := mulOk_of (a := 200) (by omega) k2 (by decide) (by decide) (by decide)
  have m2 : mulOk (redU n u) (2 + r) = true := mulOk_of (a := 200) (by omega) k2 (by decide) (by decide) (by decide)
  have a0 : (mAsg 1 (mF 1 f__law_drawn (some 0) (aT (mVar 0) aNil))) [some ⟨.io, p⟩, none, none, none, none, none, none, none, none] = some (.ok .nx, [some ⟨.io, p1⟩, some ⟨.val, rat n u⟩, none, none, none, none, none, none, none]) := by
    obtain ⟨x, y, _, _, _, rfl⟩ := h
    obtain ⟨x1, y1, _, _, _, rfl⟩ := h1
    simp [e1, mkFn, isListAt, slots, slot0, mSeq, mAsg, mRet, mIfS, mDrop, mB, bnd, Mi.ret, thaw, thawR, mVal, valR, mVar, mC, mBin, mUn, op1, op2, look, opN, lookAll, mCall, aT, aV, aNil, mStore, okSet, isT, asB, mTup, mLst, valsOf, mNx, outIo, retR, Md.isOwn, Md.isIo, Md.isLk, fI, mIf, mAnd, mOr, mNot, mAndV, mOrV, mChain, mPar, mPar3, mF, mFk, callF, callIo, putIo, freezeBy, flatD, flatAll, flatY, mayGive, notSlot, gath, mAsgG, gT, gsCons, gsNil, gIx, gN, setIx, mSetIx, ownAt, mApp, appTo, mIsi, isiD, isK, kinds, tyD, mSl, mPart, mNoPart, asInt, slD, cutD, lenD, absD, max2D, min2D, gcdD, lcmD, intD, listD, tupleD, allD, boolsOf, divmodD, addD, subD, mulD, fdivD, modD, powD, ltD, leD, gtD, geD, isD, isntD, negD, notD, ixD, revD, atI, ixN, isNone, sizeLine, eqsD, nesD, eqD, neD]
  have a1 : (mAsg 2 (mF 2 f__law_ratio none (aT (mBin ixD (mVar 1) (mC (.int 0))) (aT (mBin ixD (mVar 1) (mC (.int 1))) aNil)))) [some ⟨.io, p1⟩, some ⟨.val, rat n u⟩, none, none, none, none, none, none, none] = some (.ok .nx, [some ⟨.io, p1⟩, some ⟨.val, rat n u⟩, some ⟨.val, red n u⟩, none, none, none, none, none, none]) := by
    simp [v, mkFn, isListAt, slots, slot0, mSeq, mAsg, mRet, mIfS, mDrop, mB, bnd, Mi.ret, thaw, thawR, mVal, valR, mVar, mC, mBin, mUn, op1, op2, look, opN, lookAll, mCall, aT, aV, aNil, mStore, okSet, isT, asB, mTup, mLst, valsOf, mNx, outIo, retR, Md.isOwn, Md.isIo, Md.isLk, fI, mIf, mAnd, mOr, mNot, mAndV, mOrV, mChain, mPar, mPar3, mF, mFk, callF, callIo, putIo, freezeBy, flatD, flatAll, flatY, mayGive, notSlot, gath, mAsgG, gT, gsCons, gsNil, gIx, gN, setIx, mSetIx, ownAt, mApp, appTo, mIsi, isiD, isK, kinds, tyD, mSl, mPart, mNoPart, asInt, slD, cutD, lenD, absD, max2D, min2D, gcdD, lcmD, intD, listD, tupleD, allD, boolsOf, divmodD, addD, subD, mulD, fdivD, modD, powD, ltD, leD, gtD, geD, isD, isntD, negD, notD, ixD, revD, atI, ixN, isNone, sizeLine, eqsD, nesD, eqD, neD]
  have a2 : (mAsg 3 (mBin addD (mC (.int 2)) (mF 2 f__law_draw (some 0) (aT (mVar 0) (aT (mC (.int 3)) aNil))))) [some ⟨.io, p1⟩, some ⟨.val, rat n u⟩, some ⟨.val, red n u⟩, none, none, none, none, none, none] = some (.ok .nx, [some ⟨.io, p2⟩, some ⟨.val, rat n u⟩, some ⟨.val, red n u⟩, some ⟨.val, .int (2 + r)⟩, none, none, none, none, none]) := by
    obtain ⟨x1, y1, _, _, _, rfl⟩ := h1
    obtain ⟨x2, y2, _, _, _, rfl⟩ := h2
    simp [e2, mkFn, isListAt, slots, slot0, mSeq, mAsg, mRet, mIfS, mDrop, mB, bnd, Mi.ret, thaw, thawR, mVal, valR, mVar, mC, mBin, mUn, op1, op2, look, opN, lookAll, mCall, aT, aV, aNil, mStore, okSet, isT, asB, mTup, mLst, valsOf, mNx, outIo, retR, Md.isOwn, Md.isIo, Md.isLk, fI, mIf, mAnd, mOr, mNot, mAndV, mOrV, mChain, mPar, mPar3, mF, mFk, callF, callIo, putIo, freezeBy, flatD, flatAll, flatY, mayGive, notSlot, gath, mAsgG, gT, gsCons, gsNil, gIx, gN, setIx, mSetIx, ownAt, mApp, appTo, mIsi, isiD, isK, kinds, tyD, mSl, mPart, mNoPart, asInt, slD, cutD, lenD, absD, max2D, min2D, gcdD, lcmD, intD, listD, tupleD, allD, boolsOf, divmodD, addD, subD, mulD, fdivD, modD, powD, ltD, leD, gtD, geD, isD, isntD, negD, notD, ixD, revD, atI, ixN, isNone, sizeLine, eqsD, nesD, eqD, neD]
  have a3 := any_list (n := n) (u := u) h2 m1 m2 l1
  obtain ⟨s5, s6, _, _, a4⟩ := any_loop (p := p2) (st := toString (redN n u)) lw hr (show 2 ≤ 2 + r by omega) ho cm
  have em : m__law_any [some ⟨.io, p⟩, none, none, none, none, none, none, none, none] = some (.ok (.rt (.val (.bool true))), [some ⟨.io, p2⟩, some ⟨.val, rat n u⟩, some ⟨.val, red n u⟩, some ⟨.val, .int (2 + r)⟩, some ⟨.own, .list (someA n u (redN n u) (redU n u) (2 + r) (toString (redN n u)))⟩, s5, s6, some ⟨.val, .int bey⟩, some ⟨.own, .list [.bool true, .bool false, .bool true, .bool false, .bool false, .bool true]⟩]) := by
    unfold m__law_any
    rw [seq_nx a0, seq_nx a1, seq_nx a2, seq_nx a3, seq_nx a4, seq_nx any_edge, seq_nx any_told, seq_nx any_test]
    exact any_made mk mk2 q
  refine ⟨p2, h2, ?_⟩
  obtain ⟨x, y, _, _, _, rfl⟩ := h
  simp [f__law_any, mkFn, isListAt, slots, slot0, em, outIo, retR]
end K11

namespace K11
open PySem L2 Evl PySem.Spec Mi
theorem pw18 : powOk 10 18 = true := by decide +kernel
theorem pot_fit (cell : Int) : 0 ≤ ((cell.fmod 2147483549) * 41411 + 907).fmod 2147483563 + 1 ∧ ((cell.fmod 2147483549) * 41411 + 907).fmod 2147483563 + 1 < 4294967296 ∧ mulOk (cell.fmod 2147483549) 41411 = true := by
  have h1 : cell.fmod 2147483549 = cell % 2147483549 := fmod_eq (by decide)
  have h2 := Int.emod_nonneg cell (b := 2147483549) (by decide)
  have h3 := Int.emod_lt_of_pos cell (b := 2147483549) (by decide)
  rw [h1, fmod_eq (a := cell % 2147483549 * 41411 + 907) (b := 2147483563) (by decide)]
  have h4 := Int.emod_nonneg (cell % 2147483549 * 41411 + 907) (b := 2147483563) (by decide)
  have h5 := Int.emod_lt_of_pos (cell % 2147483549 * 41411 + 907) (b := 2147483563) (by decide)
  exact ⟨by omega, by omega, mulOk_of (a := 33) (b := 33) (by omega) (by decide) (by decide) (by decide) (by decide)⟩
theorem pot_ret (cell : Int) (s : D) : ∃ xs : List D, PotOk (.list xs) ∧ (mRet (mLst (aV (mCall max2D (aT (mC (.int 0)) (aT (mBin subD (mVar 2) (mBin powD (mC (.int 10)) (mC (.int 18)))) aNil))) (aV (mBin addD (mBin modD (mCall intD (aT (mBin addD (mBin addD (mBin mulD (mBin modD (mCall intD (aT (mVar 2) aNil)) (mC (.int 2147483549))) (mC (.int 41411))) (mBin mulD (mC (.int 173)) (mVar 1))) (mC (.int 907))) aNil)) (mC (.int 2147483563))) (mC (.int 1))) aNil)))) [some ⟨.val, s⟩, some ⟨.val, .int 0⟩, some ⟨.val, .int cell⟩] = some (.ok (.rt (.fresh xs)), [some ⟨.val, s⟩, some ⟨.val, .int 0⟩, some ⟨.val, .int cell⟩]) := by
  obtain ⟨h1, h2, h3⟩ := pot_fit cell
  have m1 : mulOk 173 0 = true := by decide
  have p := pw18
  by_cases c : cell - 10 ^ 18 > 0
  · refine ⟨[.int (cell - 10 ^ 18), .int ((cell.fmod 2147483549 * 41411 + 907).fmod 2147483563 + 1)], ⟨_, _, by omega, h1, h2, rfl⟩, ?_⟩
    have c2 : 1000000000000000000 < cell := by omega
    simp [p, m1, h3, c2, mkFn, isListAt, slots, slot0, mSeq, mAsg, mRet, mIfS, mDrop, mB, bnd, Mi.ret, thaw, thawR, mVal, valR, mVar, mC, mBin, mUn, op1, op2, look, opN, lookAll, mCall, aT, aV, aNil, mStore, okSet, isT, asB, mTup, mLst, valsOf, mNx, outIo, retR, Md.isOwn, Md.isIo, Md.isLk, fI, mIf, mAnd, mOr, mNot, mAndV, mOrV, mChain, mPar, mPar3, mF, mFk, callF, callIo, putIo, freezeBy, flatD, flatAll, flatY, mayGive, notSlot, gath, mAsgG, gT, gsCons, gsNil, gIx, gN, setIx, mSetIx, ownAt, mApp, appTo, mIsi, isiD, isK, kinds, tyD, mSl, mPart, mNoPart, asInt, slD, cutD, lenD, absD, max2D, min2D, gcdD, lcmD, intD, listD, tupleD, allD, boolsOf, divmodD, addD, subD, mulD, fdivD, modD, powD, ltD, leD, gtD, geD, isD, isntD, negD, notD, ixD, revD, atI, ixN, isNone, sizeLine, eqsD, nesD, eqD, neD]
  · refine ⟨[.int 0, .int ((cell.fmod 2147483549 * 41411 + 907).fmod 2147483563 + 1)], ⟨_, _, by decide, h1, h2, rfl⟩, ?_⟩
    have c2 : ¬ (1000000000000000000 < cell) := by omega
    simp [p, m1, h3, c2, mkFn, isListAt, slots, slot0, mSeq, mAsg, mRet, mIfS, mDrop, mB, bnd, Mi.ret, thaw, thawR, mVal, valR, mVar, mC, mBin, mUn, op1, op2, look, opN, lookAll, mCall, aT, aV, aNil, mStore, okSet, isT, asB, mTup, mLst, valsOf, mNx, outIo, retR, Md.isOwn, Md.isIo, Md.isLk, fI, mIf, mAnd, mOr, mNot, mAndV, mOrV, mChain, mPar, mPar3, mF, mFk, callF, callIo, putIo, freezeBy, flatD, flatAll, flatY, mayGive, notSlot, gath, mAsgG, gT, gsCons, gsNil, gIx, gN, setIx, mSetIx, ownAt, mApp, appTo, mIsi, isiD, isK, kinds, tyD, mSl, mPart, mNoPart, asInt, slD, cutD, lenD, absD, max2D, min2D, gcdD, lcmD, intD, listD, tupleD, allD, boolsOf, divmodD, addD, subD, mulD, fdivD, modD, powD, ltD, leD, gtD, geD, isD, isntD, negD, notD, ixD, revD, atI, ixN, isNone, sizeLine, eqsD, nesD, eqD, neD]
theorem ev_pot (ns : List Int) : ∃ xs : List D, PotOk (.list xs) ∧ f__law_pot [.list (ns.map PyData.int), .int 0] = some (.ok (.fresh xs), .none) := by
  have m0 : mulOk 719 0 = true := by decide
  have a1 : ∃ cell : Int, (mAsg 2 (mIf (mB (mBin ltD (mVar 1) (mCall lenD (aT (mVar 0) aNil)))) (mCall absD (aT (mBin ixD (mVar 0) (mVar 1)) aNil)) (mBin addD (mBin mulD (mC (.int 719)) (mVar 1)) (mC (.int 1327))))) [some ⟨.val, .list (ns.map PyData.int)⟩, some ⟨.val, .int 0⟩, none] = some (.ok .nx, [some ⟨.val, .list (ns.map PyData.int)⟩, some ⟨.val, .int 0⟩, some ⟨.val, .int cell⟩]) := by
    cases ns with
    | nil => exact ⟨1327, by simp [m0, mkFn, isListAt, slots, slot0, mSeq, mAsg, mRet, mIfS, mDrop, mB, bnd, Mi.ret, thaw, thawR, mVal, valR, mVar, mC, mBin, mUn, op1, op2, look, opN, lookAll, mCall, aT, aV, aNil, mStore, okSet, isT, asB, mTup, mLst, valsOf, mNx, outIo, retR, Md.isOwn, Md.isIo, Md.isLk, fI, mIf, mAnd, mOr, mNot, mAndV, mOrV, mChain, mPar, mPar3, mF, mFk, callF, callIo, putIo, freezeBy, flatD, flatAll, flatY, mayGive, notSlot, gath, mAsgG, gT, gsCons, gsNil, gIx, gN, setIx, mSetIx, ownAt, mApp, appTo, mIsi, isiD, isK, kinds, tyD, mSl, mPart, mNoPart, asInt, slD, cutD, lenD, absD, max2D, min2D, gcdD, lcmD, intD, listD, tupleD, allD, boolsOf, divmodD, addD, subD, mulD, fdivD, modD, powD, ltD, leD, gtD, geD, isD, isntD, negD, notD, ixD, revD, atI, ixN, isNone, sizeLine, eqsD, nesD, eqD, neD]⟩
    | cons n ns =>
      refine ⟨if n < 0 then -n else n, ?_⟩
      have l0 : (0 : Int) < ((ns.length : Nat) : Int) + 1 := by omega
      simp [l0, mkFn, isListAt, slots, slot0, mSeq, mAsg, mRet, mIfS, mDrop, mB, bnd, Mi.ret, thaw, thawR, mVal, valR, mVar, mC, mBin, mUn, op1, op2, look, opN, lookAll, mCall, aT, aV, aNil, mStore, okSet, isT, asB, mTup, mLst, valsOf, mNx, outIo, retR, Md.isOwn, Md.isIo, Md.isLk, fI, mIf, mAnd, mOr, mNot, mAndV, mOrV, mChain, mPar, mPar3, mF, mFk, callF, callIo, putIo, freezeBy, flatD, flatAll, flatY, mayGive, notSlot, gath, mAsgG, gT, gsCons, gsNil, gIx, gN, setIx, mSetIx, ownAt, mApp, appTo, mIsi, isiD, isK, kinds, tyD, mSl, mPart, mNoPart, asInt, slD, cutD, lenD, absD, max2D, min2D, gcdD, lcmD, intD, listD, tupleD, allD, boolsOf, divmodD, addD, subD, mulD, fdivD, modD, powD, ltD, leD, gtD, geD, isD, isntD, negD, notD, ixD, revD, atI, ixN, isNone, sizeLine, eqsD, nesD, eqD, neD]
  obtain ⟨cell, a1⟩ := a1
  obtain ⟨xs, hx, a2⟩ := pot_ret cell (.list (ns.map PyData.int))
  refine ⟨xs, hx, ?_⟩
  have em : m__law_pot [some ⟨.val, .list (ns.map PyData.int)⟩, some ⟨.val, .int 0⟩, none] = some (.ok (.rt (.fresh xs)), [some ⟨.val, .list (ns.map PyData.int)⟩, some ⟨.val, .int 0⟩, some ⟨.val, .int cell⟩]) := by
    unfold m__law_pot
    rw [seq_nx a1]
    exact a2
  simp [f__law_pot, mkFn, isListAt, slots, slot0, em, outIo, retR]
/-! ### the law -/
theorem snd_rt {a b c d : Int} (h : Snd a b c d) (ha : a.natAbs ≤ 10 ^ 40) (hb : b.natAbs ≤ 10 ^ 40) : Rt c d := by
  obtain ⟨lw, s⟩ := h
  have z3 : 10 ^ 40 < 10 ^ 60 := by decide
  have z4 : 10 ^ 40 * 1000 + 1 < 10 ^ 60 := by decide
  rcases s with ⟨s1, s2⟩ | ⟨e, he, s1, s2⟩ | ⟨s1, s2⟩
  · exact ⟨lw, by omega, by subst s2; omega⟩
  · have h1 := redN_le (a * 1000 + e) (b * 1000)
    have h2 := redU_le (a * 1000 + e) (b * 1000)
    rw [← s1] at h1
    rw [← s2] at h2
    have h3 : (a * 1000 + e).natAbs ≤ a.natAbs * 1000 + 1 := by rcases he with rfl | rfl <;> omega
    have h4 : (b * 1000).natAbs = b.natAbs * 1000 := by rw [Int.natAbs_mul]; rfl
    exact ⟨lw, by omega, by omega⟩
  · exact ⟨lw, by omega, by omega⟩
def Vl (s : Option Slot) : Prop := s = none ∨ ∃ t, s = some ⟨.val, t⟩
def rW (sc : D) (xs : List D) (s2 s3 s4 s5 : Option Slot) : R := [some ⟨.val, sc⟩, some ⟨.own, .list xs⟩, s2, s3, s4, s5]
abbrev bodyW : M Fl := (mSeq (mAsg 3 (mF 1 f__law_drawn (some 0) (aT (mVar 1) aNil))) (mSeq (mAsg 4 (mF 2 f__law_ratio none (aT (mBin ixD (mVar 3) (mC (.int 0))) (aT (mBin ixD (mVar 3) (mC (.int 1))) aNil)))) (mSeq (mAsg 5 (mF 2 f__law_second (some 0) (aT (mVar 1) (aT (mVar 4) aNil)))) (mIfS (mOr (mNot (mB (mF 2 f__law_two none (aT (mVar 4) (aT (mVar 5) aNil))))) (mOr (mNot (mB (mF 1 f__law_one none (aT (mVar 4) aNil)))) (mNot (mB (mF 1 f__law_one none (aT (mVar 5) aNil)))))) (mRet (mC (.bool false))) mNx))))
theorem bodyW_run {sc t : D} {xs : List D} (h : PotOk (.list xs)) {s3 s4 s5 : Option Slot} (h3 : Vl s3) (h4 : Vl s4) (h5 : Vl s5) : ∃ xs' s3' s4' s5', PotOk (.list xs') ∧ Vl s3' ∧ Vl s4' ∧ Vl s5' ∧ bodyW (rW sc xs (some ⟨.val, t⟩) s3 s4 s5) = some (.ok .nx, rW sc xs' (some ⟨.val, t⟩) s3' s4' s5') := by
  obtain ⟨n, u, p1, hn, hu, u0, h1, e1⟩ := ev_drawn h
  have z := b40
  have v := ev_lratio (n := n) (u := u) u0 (by omega) (by omega)
  have lw := red_low (n := n) u0
  have ha := redN_le n u
  have hb := redU_le n u
  have z3 : 10 ^ 40 < 10 ^ 60 := by decide
  have Ra : Rt (redN n u) (redU n u) := ⟨lw, by omega, by omega⟩
  obtain ⟨c, d, p2, hs, h2, e2⟩ := ev_second h1 lw Ra.sz
  have Rc := snd_rt hs (by omega) (by omega)
  have t1 := ev_two Ra Rc
  have t2 := ev_one Ra
  have t3 := ev_one Rc
  obtain ⟨x1, y1, hx1, hy1, hz1, rfl⟩ := h1
  obtain ⟨x2, y2, hx2, hy2, hz2, rfl⟩ := h2
  have a0 : (mAsg 3 (mF 1 f__law_drawn (some 0) (aT (mVar 1) aNil))) (rW sc xs (some ⟨.val, t⟩) s3 s4 s5) = some (.ok .nx, rW sc [.int x1, .int y1] (some ⟨.val, t⟩) (some ⟨.val, rat n u⟩) s4 s5) := by
    rcases h3 with rfl | ⟨t3, rfl⟩ <;> simp [rW, e1, mkFn, isListAt, slots, slot0, mSeq, mAsg, mRet, mIfS, mDrop, mB, bnd, Mi.ret, thaw, thawR, mVal, valR, mVar, mC, mBin, mUn, op1, op2, look, opN, lookAll, mCall, aT, aV, aNil, mStore, okSet, isT, asB, mTup, mLst, valsOf, mNx, outIo, retR, Md.isOwn, Md.isIo, Md.isLk, fI, mIf, mAnd, mOr, mNot, mAndV, mOrV, mChain, mPar, mPar3, mF, mFk, callF, callIo, putIo, freezeBy, flatD, flatAll, flatY, mayGive, notSlot, gath, mAsgG, gT, gsCons, gsNil, gIx, gN, setIx, mSetIx, ownAt, mApp, appTo, mIsi, isiD, isK, kinds, tyD, mSl, mPart, mNoPart, asInt, slD, cutD, lenD, absD, max2D, min2D, gcdD, lcmD, intD, listD, tupleD, allD, boolsOf, divmodD, addD, subD, mulD, fdivD, modD, powD, ltD, leD, gtD, geD, isD, isntD, negD, notD, ixD, revD, atI, ixN, isNone, sizeLine, eqsD, nesD, eqD, neD]
  have a1 : (mAsg 4 (mF 2 f__law_ratio none (aT (mBin ixD (mVar 3) (mC (.int 0))) (aT (mBin ixD (mVar 3) (mC (.int 1))) aNil)))) (rW sc [.int x1, .int y1] (some ⟨.val, t⟩) (some ⟨.val, rat n u⟩) s4 s5) = some (.ok .nx, rW sc [.int x1, .int y1] (some ⟨.val, t⟩) (some ⟨.val, rat n u⟩) (some ⟨.val, red n u⟩) s5) := by
    rcases h4 with rfl | ⟨t3, rfl⟩ <;> simp [rW, v, mkFn, isListAt, slots, slot0, mSeq, mAsg, mRet, mIfS, mDrop, mB, bnd, Mi.ret, thaw, thawR, mVal, valR, mVar, mC, mBin, mUn, op1, op2, look, opN, lookAll, mCall, aT, aV, aNil, mStore, okSet, isT, asB, mTup, mLst, valsOf, mNx, outIo, retR, Md.isOwn, Md.isIo, Md.isLk, fI, mIf, mAnd, mOr, mNot, mAndV, mOrV, mChain, mPar, mPar3, mF, mFk, callF, callIo, putIo, freezeBy, flatD, flatAll, flatY, mayGive, notSlot, gath, mAsgG, gT, gsCons, gsNil, gIx, gN, setIx, mSetIx, ownAt, mApp, appTo, mIsi, isiD, isK, kinds, tyD, mSl, mPart, mNoPart, asInt, slD, cutD, lenD, absD, max2D, min2D, gcdD, lcmD, intD, listD, tupleD, allD, boolsOf, divmodD, addD, subD, mulD, fdivD, modD, powD, ltD, leD, gtD, geD, isD, isntD, negD, notD, ixD, revD, atI, ixN, isNone, sizeLine, eqsD, nesD, eqD, neD]
  have a2 : (mAsg 5 (mF 2 f__law_second (some 0) (aT (mVar 1) (aT (mVar 4) aNil)))) (rW sc [.int x1, .int y1] (some ⟨.val, t⟩) (some ⟨.val, rat n u⟩) (some ⟨.val, red n u⟩) s5) = some (.ok .nx, rW sc [.int x2, .int y2] (some ⟨.val, t⟩) (some ⟨.val, rat n u⟩) (some ⟨.val, red n u⟩) (some ⟨.val, rat c d⟩)) := by
    rcases h5 with rfl | ⟨t3, rfl⟩ <;> simp [rW, e2, mkFn, isListAt, slots, slot0, mSeq, mAsg, mRet, mIfS, mDrop, mB, bnd, Mi.ret, thaw, thawR, mVal, valR, mVar, mC, mBin, mUn, op1, op2, look, opN, lookAll, mCall, aT, aV, aNil, mStore, okSet, isT, asB, mTup, mLst, valsOf, mNx, outIo, retR, Md.isOwn, Md.isIo, Md.isLk, fI, mIf, mAnd, mOr, mNot, mAndV, mOrV, mChain, mPar, mPar3, mF, mFk, callF, callIo, putIo, freezeBy, flatD, flatAll, flatY, mayGive, notSlot, gath, mAsgG, gT, gsCons, gsNil, gIx, gN, setIx, mSetIx, ownAt, mApp, appTo, mIsi, isiD, isK, kinds, tyD, mSl, mPart, mNoPart, asInt, slD, cutD, lenD, absD, max2D, min2D, gcdD, lcmD, intD, listD, tupleD, allD, boolsOf, divmodD, addD, subD, mulD, fdivD, modD, powD, ltD, leD, gtD, geD, isD, isntD, negD, notD, ixD, revD, atI, ixN, isNone, sizeLine, eqsD, nesD, eqD, neD]
  have a3 : (mIfS (mOr (mNot (mB (mF 2 f__law_two none (aT (mVar 4) (aT (mVar 5) aNil))))) (mOr (mNot (mB (mF 1 f__law_one none (aT (mVar 4) aNil)))) (mNot (mB (mF 1 f__law_one none (aT (mVar 5) aNil)))))) (mRet (mC (.bool false))) mNx) (rW sc [.int x2, .int y2] (some ⟨.val, t⟩) (some ⟨.val, rat n u⟩) (some ⟨.val, red n u⟩) (some ⟨.val, rat c d⟩)) = some (.ok .nx, rW sc [.int x2, .int y2] (some ⟨.val, t⟩) (some ⟨.val, rat n u⟩) (some ⟨.val, red n u⟩) (some ⟨.val, rat c d⟩)) := by
    simp [rW, t1, t2, t3, mkFn, isListAt, slots, slot0, mSeq, mAsg, mRet, mIfS, mDrop, mB, bnd, Mi.ret, thaw, thawR, mVal, valR, mVar, mC, mBin, mUn, op1, op2, look, opN, lookAll, mCall, aT, aV, aNil, mStore, okSet, isT, asB, mTup, mLst, valsOf, mNx, outIo, retR, Md.isOwn, Md.isIo, Md.isLk, fI, mIf, mAnd, mOr, mNot, mAndV, mOrV, mChain, mPar, mPar3, mF, mFk, callF, callIo, putIo, freezeBy, flatD, flatAll, flatY, mayGive, notSlot, gath, mAsgG, gT, gsCons, gsNil, gIx, gN, setIx, mSetIx, ownAt, mApp, appTo, mIsi, isiD, isK, kinds, tyD, mSl, mPart, mNoPart, asInt, slD, cutD, lenD, absD, max2D, min2D, gcdD, lcmD, intD, listD, tupleD, allD, boolsOf, divmodD, addD, subD, mulD, fdivD, modD, powD, ltD, leD, gtD, geD, isD, isntD, negD, notD, ixD, revD, atI, ixN, isNone, sizeLine, eqsD, nesD, eqD, neD]
  refine ⟨[.int x2, .int y2], some ⟨.val, rat n u⟩, some ⟨.val, red n u⟩, some ⟨.val, rat c d⟩, ⟨x2, y2, hx2, hy2, hz2, rfl⟩, .inr ⟨_, rfl⟩, .inr ⟨_, rfl⟩, .inr ⟨_, rfl⟩, ?_⟩
  unfold bodyW
  rw [seq_nx a0, seq_nx a1, seq_nx a2]
  exact a3
theorem rt_of {a b : Int} (h : 0 < b) (g : Int.gcd a b = 1) (ha : a.natAbs < 10 ^ 60) (hb : b.natAbs < 10 ^ 60) : Rt a b := ⟨⟨h, g⟩, ha, hb⟩
theorem flat_rats : ∀ ps : List (Int × Int), flatAll (rats ps) = true
  | [] => rfl
  | p :: ps => by
    show (flatD (rat p.1 p.2) && flatAll (rats ps)) = true
    rw [flat_rat, flat_rats ps]
    rfl
theorem law_ok : LawOk f_law := by
  intro ns _ _
  obtain ⟨xs, hp, e0⟩ := ev_pot ns
  generalize ns.map PyData.int = is at e0 ⊢
  have a0 : (mAsg 1 (mF 2 f__law_pot none (aT (mVar 0) (aT (mC (.int 0)) aNil)))) [some ⟨.val, .list is⟩, none, none, none, none, none] = some (.ok .nx, rW (.list is) xs none none none none) := by
    simp [rW, e0, mkFn, isListAt, slots, slot0, mSeq, mAsg, mRet, mIfS, mDrop, mB, bnd, Mi.ret, thaw, thawR, mVal, valR, mVar, mC, mBin, mUn, op1, op2, look, opN, lookAll, mCall, aT, aV, aNil, mStore, okSet, isT, asB, mTup, mLst, valsOf, mNx, outIo, retR, Md.isOwn, Md.isIo, Md.isLk, fI, mIf, mAnd, mOr, mNot, mAndV, mOrV, mChain, mPar, mPar3, mF, mFk, callF, callIo, putIo, freezeBy, flatD, flatAll, flatY, mayGive, notSlot, gath, mAsgG, gT, gsCons, gsNil, gIx, gN, setIx, mSetIx, ownAt, mApp, appTo, mIsi, isiD, isK, kinds, tyD, mSl, mPart, mNoPart, asInt, slD, cutD, lenD, absD, max2D, min2D, gcdD, lcmD, intD, listD, tupleD, allD, boolsOf, divmodD, addD, subD, mulD, fdivD, modD, powD, ltD, leD, gtD, geD, isD, isntD, negD, notD, ixD, revD, atI, ixN, isNone, sizeLine, eqsD, nesD, eqD, neD]
  have hi : (mRng1 (aT (mC (.int 3)) aNil)) (rW (.list is) xs none none none none) = some (.ok ⟨rangeD 0 3, []⟩, rW (.list is) xs none none none none) := by
    have : in62 3 = true := by decide
    simp [mRng1, rng1, this, mkFn, isListAt, slots, slot0, mSeq, mAsg, mRet, mIfS, mDrop, mB, bnd, Mi.ret, thaw, thawR, mVal, valR, mVar, mC, mBin, mUn, op1, op2, look, opN, lookAll, mCall, aT, aV, aNil, mStore, okSet, isT, asB, mTup, mLst, valsOf, mNx, outIo, retR, Md.isOwn, Md.isIo, Md.isLk, fI, mIf, mAnd, mOr, mNot, mAndV, mOrV, mChain, mPar, mPar3, mF, mFk, callF, callIo, putIo, freezeBy, flatD, flatAll, flatY, mayGive, notSlot, gath, mAsgG, gT, gsCons, gsNil, gIx, gN, setIx, mSetIx, ownAt, mApp, appTo, mIsi, isiD, isK, kinds, tyD, mSl, mPart, mNoPart, asInt, slD, cutD, lenD, absD, max2D, min2D, gcdD, lcmD, intD, listD, tupleD, allD, boolsOf, divmodD, addD, subD, mulD, fdivD, modD, powD, ltD, leD, gtD, geD, isD, isntD, negD, notD, ixD, revD, atI, ixN, isNone, sizeLine, eqsD, nesD, eqD, neD]
  obtain ⟨ρ', e1, ys, s2, s3, s4, s5, hy, h2, h3, h4, h5, rfl⟩ := loopF_run (g := gN 2) (b := bodyW) (fun _ ρ => ∃ ys s2 s3 s4 s5, PotOk (.list ys) ∧ Vl s2 ∧ Vl s3 ∧ Vl s4 ∧ Vl s5 ∧ ρ = rW (.list is) ys s2 s3 s4 s5) (rangeD 0 3) 0 (rW (.list is) xs none none none none) ⟨xs, none, none, none, none, hp, .inl rfl, .inl rfl, .inl rfl, .inl rfl, rfl⟩ (by
    intro i ρ d _ ⟨ys, s2, s3, s4, s5, hy, h2, h3, h4, h5, hρ⟩
    subst hρ
    obtain ⟨ys', s3', s4', s5', hy', h3', h4', h5', e⟩ := bodyW_run (sc := .list is) (t := d) hy h3 h4 h5
    refine ⟨rW (.list is) ys (some ⟨.val, d⟩) s3 s4 s5, _, .nx, ?_, e, .inl rfl, ys', some ⟨.val, d⟩, s3', s4', s5', hy', .inr ⟨_, rfl⟩, h3', h4', h5', rfl⟩
    rcases h2 with rfl | ⟨t, rfl⟩ <;> simp [rW, gN, mStore, okSet])
  have a1 := for_run hi e1
  have o1 := ev_one (rt_of (a := 7) (b := 2) (by decide) (by decide) (by decide) (by decide))
  have o2 := ev_one (rt_of (a := -7) (b := 2) (by decide) (by decide) (by decide) (by decide))
  have o3 := ev_two (rt_of (a := 1) (b := 3) (by decide) (by decide) (by decide) (by decide)) (rt_of (a := 1) (b := 2) (by decide) (by decide) (by decide) (by decide))
  have o4 := ev_two (rt_of (a := 5) (b := 3) (by decide) (by decide) (by decide) (by decide)) (rt_of (a := 0) (b := 1) (by decide) (by decide) (by decide) (by decide))
  have a2 : (mIfS (mOr (mNot (mB (mF 1 f__law_one none (aT (mTup (aV (mC (.int 7)) (aV (mC (.int 2)) aNil))) aNil)))) (mOr (mNot (mB (mF 1 f__law_one none (aT (mTup (aV (mUn negD (mC (.int 7))) (aV (mC (.int 2)) aNil))) aNil)))) (mOr (mNot (mB (mF 2 f__law_two none (aT (mTup (aV (mC (.int 1)) (aV (mC (.int 3)) aNil))) (aT (mTup (aV (mC (.int 1)) (aV (mC (.int 2)) aNil))) aNil))))) (mNot (mB (mF 2 f__law_two none (aT (mTup (aV (mC (.int 5)) (aV (mC (.int 3)) aNil))) (aT (mTup (aV (mC (.int 0)) (aV (mC (.int 1)) aNil))) aNil)))))))) (mRet (mC (.bool false))) mNx) (rW (.list is) ys s2 s3 s4 s5) = some (.ok .nx, rW (.list is) ys s2 s3 s4 s5) := by
    simp [rW, o1, o2, o3, o4, mkFn, isListAt, slots, slot0, mSeq, mAsg, mRet, mIfS, mDrop, mB, bnd, Mi.ret, thaw, thawR, mVal, valR, mVar, mC, mBin, mUn, op1, op2, look, opN, lookAll, mCall, aT, aV, aNil, mStore, okSet, isT, asB, mTup, mLst, valsOf, mNx, outIo, retR, Md.isOwn, Md.isIo, Md.isLk, fI, mIf, mAnd, mOr, mNot, mAndV, mOrV, mChain, mPar, mPar3, mF, mFk, callF, callIo, putIo, freezeBy, flatD, flatAll, flatY, mayGive, notSlot, gath, mAsgG, gT, gsCons, gsNil, gIx, gN, setIx, mSetIx, ownAt, mApp, appTo, mIsi, isiD, isK, kinds, tyD, mSl, mPart, mNoPart, asInt, slD, cutD, lenD, absD, max2D, min2D, gcdD, lcmD, intD, listD, tupleD, allD, boolsOf, divmodD, addD, subD, mulD, fdivD, modD, powD, ltD, leD, gtD, geD, isD, isntD, negD, notD, ixD, revD, atI, ixN, isNone, sizeLine, eqsD, nesD, eqD, neD]
  obtain ⟨ps, p1, hf, hl, h6, e2⟩ := ev_list hy
  obtain ⟨p2, h7, e3⟩ := ev_any h6
  have e4 := ev_lists (pt := p1) hf hl
  have e5 := ev_lists (pt := p1) fnd_nil (by decide)
  have fl := flat_rats ps
  generalize rats ps = zs at e2 e4 fl
  obtain ⟨x1, y1, _, _, _, rfl⟩ := h6
  obtain ⟨x2, y2, _, _, _, rfl⟩ := h7
  have e5 : f__law_lists [.list [.int x1, .int y1], .list []] = some (.ok (.val (.bool true)), .none) := e5
  have a3 : ∃ ρ, (mRet (mAndV (mF 2 f__law_lists none (aT (mVar 1) (aT (mF 1 f__law_list (some 0) (aT (mVar 1) aNil)) aNil))) (mAndV (mF 2 f__law_lists none (aT (mVar 1) (aT (mLst aNil) aNil))) (mF 1 f__law_any (some 0) (aT (mVar 1) aNil))))) (rW (.list is) ys s2 s3 s4 s5) = some (.ok (.rt (.val (.bool true))), ρ) := by
    refine ⟨rW (.list is) [.int x2, .int y2] s2 s3 s4 s5, ?_⟩
    simp [rW, e2, e3, e4, e5, fl, mkFn, isListAt, slots, slot0, mSeq, mAsg, mRet, mIfS, mDrop, mB, bnd, Mi.ret, thaw, thawR, mVal, valR, mVar, mC, mBin, mUn, op1, op2, look, opN, lookAll, mCall, aT, aV, aNil, mStore, okSet, isT, asB, mTup, mLst, valsOf, mNx, outIo, retR, Md.isOwn, Md.isIo, Md.isLk, fI, mIf, mAnd, mOr, mNot, mAndV, mOrV, mChain, mPar, mPar3, mF, mFk, callF, callIo, putIo, freezeBy, flatD, flatAll, flatY, mayGive, notSlot, gath, mAsgG, gT, gsCons, gsNil, gIx, gN, setIx, mSetIx, ownAt, mApp, appTo, mIsi, isiD, isK, kinds, tyD, mSl, mPart, mNoPart, asInt, slD, cutD, lenD, absD, max2D, min2D, gcdD, lcmD, intD, listD, tupleD, allD, boolsOf, divmodD, addD, subD, mulD, fdivD, modD, powD, ltD, leD, gtD, geD, isD, isntD, negD, notD, ixD, revD, atI, ixN, isNone, sizeLine, eqsD, nesD, eqD, neD]
  obtain ⟨ρ, a3⟩ := a3
  refine ⟨.none, ?_⟩
  have em : m_law [some ⟨.val, .list is⟩, none, none, none, none, none] = some (.ok (.rt (.val (.bool true))), ρ) := by
    unfold m_law
    rw [seq_nx a0, seq_nx a1, seq_nx a2]
    exact a3
  simp [f_law, mkFn, isListAt, slots, slot0, em, outIo, retR]
end K11

open PySem PySem.W PyProof.Rows
set_option maxRecDepth 100000 in
set_option maxHeartbeats 0 in
theorem PySem.Challenge.cw_carryoffice_k11_whole_ratios_reckoned_holds : PySem.Challenge.rw_carryoffice_k11_whole_ratios_reckoned.Holds := by
  w_on; o_law; k_head; (case hw => w_witness2)
  k_fill
  refine Mi.law_end (l := PySem.Challenge.rw_carryoffice_k11_whole_ratios_reckoned) (k := 7) (F := K11.f_law) rfl rfl ⟨rfl, by decide, by decide⟩ (fun w h Y => PySem.W.kIn_of Y) ?F K11.law_ok
  case F =>
    intro w mg fa h KX G hmg
    have T := by
      refine' K11.txt_mk KX G ?b_abs ?b_all ?b_bool ?b_divmod ?b_int ?b_isinstance ?b_len ?b_list ?b_max ?b_range ?b_repr ?b_str ?b_tuple ?g_gcd ?g_lcm ?c_BEYOND ?c_NOUGHT ?l_NOUGHT
      (case b_abs => k_is)
      (case b_all => k_is)
      (case b_bool => k_is)
      (case b_divmod => k_is)
      (case b_int => k_is)
      (case b_isinstance => k_is)
      (case b_len => k_is)
      (case b_list => k_is)
      (case b_max => k_is)
      (case b_range => k_is)
      (case b_repr => k_is)
      (case b_str => k_is)
      (case b_tuple => k_is)
      (case g_gcd => k_is)
      (case g_lcm => k_is)
      (case c_BEYOND => k_is)
      (case c_NOUGHT => k_is)
      (case l_NOUGHT => k_is)
    have d__law_draw := by
      refine' Mi.dat (x := "_law_draw") (y := "_law_draw") (st := K11.top 43) KX G ?a ?l ?c ?k
      (case a => k_is); (case l => k_is); (case c => k_is); (case k => k_is)
    have d__law_pick := by
      refine' Mi.dat (x := "_law_pick") (y := "_law_pick") (st := K11.top 44) KX G ?a ?l ?c ?k
      (case a => k_is); (case l => k_is); (case c => k_is); (case k => k_is)
    have d__law_number := by
      refine' Mi.dat (x := "_law_number") (y := "_law_number") (st := K11.top 47) KX G ?a ?l ?c ?k
      (case a => k_is); (case l => k_is); (case c => k_is); (case k => k_is)
    have d__law_common := by
      refine' Mi.dat (x := "_law_common") (y := "_law_common") (st := K11.top 45) KX G ?a ?l ?c ?k
      (case a => k_is); (case l => k_is); (case c => k_is); (case k => k_is)
    have d__law_ratio := by
      refine' Mi.dat (x := "_law_ratio") (y := "_law_ratio") (st := K11.top 46) KX G ?a ?l ?c ?k
      (case a => k_is); (case l => k_is); (case c => k_is); (case k => k_is)
    have d__law_drawn := by
      refine' Mi.dat (x := "_law_drawn") (y := "_law_drawn") (st := K11.top 48) KX G ?a ?l ?c ?k
      (case a => k_is); (case l => k_is); (case c => k_is); (case k => k_is)
    have d_is_row := by
      refine' Mi.dat (x := "is_row") (y := "is_row") (st := K11.top 13) KX G ?a ?l ?c ?k
      (case a => k_is); (case l => k_is); (case c => k_is); (case k => k_is)
    have d_is_integer := by
      refine' Mi.dat (x := "is_integer") (y := "is_integer") (st := K11.top 11) KX G ?a ?l ?c ?k
      (case a => k_is); (case l => k_is); (case c => k_is); (case k => k_is)
    have d_is_ratio := by
      refine' Mi.dat (x := "is_ratio") (y := "is_ratio") (st := K11.top 18) KX G ?a ?l ?c ?k
      (case a => k_is); (case l => k_is); (case c => k_is); (case k => k_is)
    have d_want_ratio := by
      refine' Mi.dat (x := "want_ratio") (y := "want_ratio") (st := K11.top 19) KX G ?a ?l ?c ?k
      (case a => k_is); (case l => k_is); (case c => k_is); (case k => k_is)
    have d__want_two := by
      refine' Mi.dat (x := "_want_two") (y := "_want_two") (st := K11.top 27) KX G ?a ?l ?c ?k
      (case a => k_is); (case l => k_is); (case c => k_is); (case k => k_is)
    have d_is_less := by
      refine' Mi.dat (x := "is_less") (y := "is_less") (st := K11.top 25) KX G ?a ?l ?c ?k
      (case a => k_is); (case l => k_is); (case c => k_is); (case k => k_is)
    have d_fraction := by
      refine' Mi.dat (x := "fraction") (y := "fraction") (st := K11.top 20) KX G ?a ?l ?c ?k
      (case a => k_is); (case l => k_is); (case c => k_is); (case k => k_is)
    have d__told := by
      refine' Mi.dat (x := "_told") (y := "_told") (st := K11.top 26) KX G ?a ?l ?c ?k
      (case a => k_is); (case l => k_is); (case c => k_is); (case k => k_is)
    have d_product := by
      refine' Mi.dat (x := "product") (y := "product") (st := K11.top 23) KX G ?a ?l ?c ?k
      (case a => k_is); (case l => k_is); (case c => k_is); (case k => k_is)
    have d_plus := by
      refine' Mi.dat (x := "plus") (y := "plus") (st := K11.top 21) KX G ?a ?l ?c ?k
      (case a => k_is); (case l => k_is); (case c => k_is); (case k => k_is)
    have d_minus := by
      refine' Mi.dat (x := "minus") (y := "minus") (st := K11.top 22) KX G ?a ?l ?c ?k
      (case a => k_is); (case l => k_is); (case c => k_is); (case k => k_is)
    have d_quotient := by
      refine' Mi.dat (x := "quotient") (y := "quotient") (st := K11.top 24) KX G ?a ?l ?c ?k
      (case a => k_is); (case l => k_is); (case c => k_is); (case k => k_is)
    have d_compared := by
      refine' Mi.dat (x := "compared") (y := "compared") (st := K11.top 34) KX G ?a ?l ?c ?k
      (case a => k_is); (case l => k_is); (case c => k_is); (case k => k_is)
    have d_times := by
      refine' Mi.dat (x := "times") (y := "times") (st := K11.top 32) KX G ?a ?l ?c ?k
      (case a => k_is); (case l => k_is); (case c => k_is); (case k => k_is)
    have d_less := by
      refine' Mi.dat (x := "less") (y := "less") (st := K11.top 31) KX G ?a ?l ?c ?k
      (case a => k_is); (case l => k_is); (case c => k_is); (case k => k_is)
    have d_added := by
      refine' Mi.dat (x := "added") (y := "added") (st := K11.top 30) KX G ?a ?l ?c ?k
      (case a => k_is); (case l => k_is); (case c => k_is); (case k => k_is)
    have d_over := by
      refine' Mi.dat (x := "over") (y := "over") (st := K11.top 33) KX G ?a ?l ?c ?k
      (case a => k_is); (case l => k_is); (case c => k_is); (case k => k_is)
    have d_floor_of := by
      refine' Mi.dat (x := "floor_of") (y := "floor_of") (st := K11.top 36) KX G ?a ?l ?c ?k
      (case a => k_is); (case l => k_is); (case c => k_is); (case k => k_is)
    have d_ceiling_of := by
      refine' Mi.dat (x := "ceiling_of") (y := "ceiling_of") (st := K11.top 37) KX G ?a ?l ?c ?k
      (case a => k_is); (case l => k_is); (case c => k_is); (case k => k_is)
    have d_is_list := by
      refine' Mi.dat (x := "is_list") (y := "is_list") (st := K11.top 12) KX G ?a ?l ?c ?k
      (case a => k_is); (case l => k_is); (case c => k_is); (case k => k_is)
    have d__want_ratios := by
      refine' Mi.dat (x := "_want_ratios") (y := "_want_ratios") (st := K11.top 28) KX G ?a ?l ?c ?k
      (case a => k_is); (case l => k_is); (case c => k_is); (case k => k_is)
    have d_under_of := by
      refine' Mi.dat (x := "under_of") (y := "under_of") (st := K11.top 38) KX G ?a ?l ?c ?k
      (case a => k_is); (case l => k_is); (case c => k_is); (case k => k_is)
    have d_whole_row := by
      refine' Mi.dat (x := "whole_row") (y := "whole_row") (st := K11.top 40) KX G ?a ?l ?c ?k
      (case a => k_is); (case l => k_is); (case c => k_is); (case k => k_is)
    have d_common_under := by
      refine' Mi.dat (x := "common_under") (y := "common_under") (st := K11.top 39) KX G ?a ?l ?c ?k
      (case a => k_is); (case l => k_is); (case c => k_is); (case k => k_is)
    have d_sum_of := by
      refine' Mi.dat (x := "sum_of") (y := "sum_of") (st := K11.top 35) KX G ?a ?l ?c ?k
      (case a => k_is); (case l => k_is); (case c => k_is); (case k => k_is)
    have d__law_second := by
      refine' Mi.dat (x := "_law_second") (y := "_law_second") (st := K11.top 49) KX G ?a ?l ?c ?k
      (case a => k_is); (case l => k_is); (case c => k_is); (case k => k_is)
    have d_made := by
      refine' Mi.dat (x := "made") (y := "made") (st := K11.top 29) KX G ?a ?l ?c ?k
      (case a => k_is); (case l => k_is); (case c => k_is); (case k => k_is)
    have d__law_pot := by
      refine' Mi.dat (x := "_law_pot") (y := "_law_pot") (st := K11.top 42) KX G ?a ?l ?c ?k
      (case a => k_is); (case l => k_is); (case c => k_is); (case k => k_is)
    have d__law_two := by
      refine' Mi.dat (x := "_law_two") (y := "_law_two") (st := K11.top 50) KX G ?a ?l ?c ?k
      (case a => k_is); (case l => k_is); (case c => k_is); (case k => k_is)
    have d__law_one := by
      refine' Mi.dat (x := "_law_one") (y := "_law_one") (st := K11.top 51) KX G ?a ?l ?c ?k
      (case a => k_is); (case l => k_is); (case c => k_is); (case k => k_is)
    have d__law_lists := by
      refine' Mi.dat (x := "_law_lists") (y := "_law_lists") (st := K11.top 53) KX G ?a ?l ?c ?k
      (case a => k_is); (case l => k_is); (case c => k_is); (case k => k_is)
    have d__law_list := by
      refine' Mi.dat (x := "_law_list") (y := "_law_list") (st := K11.top 52) KX G ?a ?l ?c ?k
      (case a => k_is); (case l => k_is); (case c => k_is); (case k => k_is)
    have d__law_any := by
      refine' Mi.dat (x := "_law_any") (y := "_law_any") (st := K11.top 54) KX G ?a ?l ?c ?k
      (case a => k_is); (case l => k_is); (case c => k_is); (case k => k_is)
    have d_law := by
      refine' Mi.dat (x := "law") (y := "law") (st := K11.top 55) KX G ?a ?l ?c ?k
      (case a => k_is); (case l => k_is); (case c => k_is); (case k => k_is)
    exact K11.all hmg T d__law_draw d__law_pick d__law_number d__law_common d__law_ratio d__law_drawn d_is_row d_is_integer d_is_ratio d_want_ratio d__want_two d_is_less d_fraction d__told d_product d_plus d_minus d_quotient d_compared d_times d_less d_added d_over d_floor_of d_ceiling_of d_is_list d__want_ratios d_under_of d_whole_row d_common_under d_sum_of d__law_second d_made d__law_pot d__law_two d__law_one d__law_lists d__law_list d__law_any d_law

